import PyProof.Rows.All
import Wide.All
import OpenK.AllK
import Wide.FinOn
import Lean
import PySem.Challenge.RW_xm0408_01
open PySem PySem.W PyProof.Rows PySem.Calls PySem.Spec
set_option Elab.async false
set_option maxRecDepth 100000
namespace Mine
section
set_option maxHeartbeats 8000000
open_top hd for PySem.Challenge.rw_xm0408_01
end
section
theorem wider {α : Type} {M : Model} {A : Around} {d u : Nat} {l : List Env} {t : Sem α} {Q : α → Shared → Prop} {E : Value → Shared → Prop} {s : Shared}
    (hn : A.handled = none) (hA : A.frames = some l) (hd : A.depth ≤ d) (hu : A.units ≤ u) (h : wpAny M { handled := none, depth := d, frames := some l, guards := A.guards, units := u } t Q E s) : wpAny M A t Q E s :=
  fun Γ p hΓ => h Γ p ⟨hΓ.1.trans hn, Nat.le_trans hΓ.2.1 hd, fun l' hl => hΓ.2.2.1 l' (hA.trans hl), hΓ.2.2.2.1, Nat.le_trans hΓ.2.2.2.2 hu⟩

/-- A call of a def: what stood stays, and the answer reads as Post says. -/
def Call (w : World) (d : Nat) (f : Addr) (vs : List Value) (s : Shared) (Post : Value → Heap → Prop) : Prop :=
  ∀ (A A₀ : Around) (base h₀ : Heap) (outer : List Env) (cn : Str) (cs : Scope) (a : Addr) (ccd : Value) (cl : List (Str × Addr)) (L : Addr) (m : Str → Option Value)
    (p : Program) (loose : List Str) (mean : ExcName → Option Value) (mg mb : Str → Option Value) (Q E : Value → Shared → Prop),
    Below A₀ base outer h₀ → Fr h₀ L s.heap m → (hd.heap_39 w.params).In h₀ → Top p loose mean mg mb h₀ → A.frames = some (envX cn cs L a ccd cl :: outer) → cs.kind = .function →
    A.handled = none → A.depth ≤ d → A.units ≤ 4 * d →
    (∀ r h' tk', s.heap.StaysIn h' → Post r h' → Q r { s with heap := h', toks := tk' }) →
    wpAny (model PySem.Challenge.rw_xm0408_01.prog w) A (call (.ref f) vs) Q E s

theorem enter {prog : Program} {w : World} {K : Frag} {A A₀ : Around} {base h₀ : Heap} {outer : List Env} {cn : Str} {cs : Scope} {a : Addr} {ccd : Value} {cl : List (Str × Addr)} {L : Addr} {m : Str → Option Value} {s : Shared}
    {p : Program} {loose : List Str} {mean : ExcName → Option Value} {mg mb : Str → Option Value} {Q E : Value → Shared → Prop} {vs : List Value}
    {name qual : Str} {params : Arguments} {body : List Stmt} {scope : Scope} {dV kV doc pm cdv ct oc : Value} {an od : Option Addr} {osl : Array (Option Value)} {f : Addr} {binds : List (Str × Value)}
    (B : Below A₀ base outer h₀) (F : Fr h₀ L s.heap m) (X : K.In h₀) (T : Top p loose mean mg mb h₀) (hA : A.frames = some (envX cn cs L a ccd cl :: outer)) (hk : cs.kind = .function)
    (ho : K.lookup f = some ⟨oc, od, .func (fnOf name qual params body scope dV kV doc pm an cdv ct), osl⟩) (hcd : codeIn K cdv qual = true) (hroom : A.depth < recursionLimit)
    (hbind : BindsTo s (fnOf name qual params body scope dV kV doc pm an cdv ct) ⟨vs, []⟩ binds) (hloc : ∀ y ∈ binds, scope.names.lookup y.1 = some .local)
    (h : ∀ L' h₁, Fr s.heap L' h₁ (fun y => binds.reverse.lookup y) → News s.heap L' h₁ [] → Below A base (envX cn cs L a ccd cl :: outer) s.heap → K.In s.heap → Top p loose mean mg mb s.heap →
      wpAny (model prog w) (A.deeper (envOf qual scope L' f cdv)) (execs body (envOf qual scope L' f cdv))
        (fun fl s' => Q (match fl with | .ret v => v | _ => .none) s')
        (fun e s' => wpAny (model prog w) (A.deeper (envOf qual scope L' f cdv)) (leaving (envOf qual scope L' f cdv) e) (fun _ s'' => E e s'') (fun e' s'' => E e' s'') s')
        { s with heap := h₁, toks := s.toks + binds.length })
    (hco : scope.isCoroutine = false) (hgen : scope.isGenerator = false) (hkf : scope.kind = .function)
    (hcell : ∀ x ∈ scope.names, x.2 ≠ .cell) : wpAny (model prog w) A (call (.ref f) vs) Q E s := by
  have XK := X.keeps F.keep
  refine wpAny_call (codeAny_call_def (fd := fnOf name qual params body scope dV kV doc pm an cdv ct) (body := body) (binds := binds) hroom (XK _ _ ho) rfl (T.nolimit.keeps F.keep) (codeRec_of XK hcd) rfl hbind hcell hloc (fun h₁ hns hk₁ => ?_) hco hgen hkf)
  have B₁ := pushX (env := envX cn cs L a ccd cl) B F rfl hk
  exact h s.heap.objs.size h₁ ⟨hns, hk₁, Nat.le_refl _⟩ News.nil ⟨hA, B₁.stays, B₁.frames⟩ XK (T.keeps F.keep)

abbrev tupO (vs : List Value) (k : Nat) : Obj := { cls := .type "tuple", data := .seq vs.toArray k }

/-- the answers' shapes -/
def PInt (x : Int) (r : Value) (_ : Heap) : Prop := ∃ t, r = .int x t
def PList (g : Heap) (xs : List Int) (r : Value) (h' : Heap) : Prop :=
  ∃ l us n, r = .ref l ∧ g.get? l = none ∧ h'.get? l = some (listOf us.toArray n) ∧ IntsAre us xs
def PTup (g : Heap) (vs : List Value) (r : Value) (h' : Heap) : Prop :=
  ∃ t k, r = .ref t ∧ g.get? t = none ∧ h'.get? t = some (tupO vs k)
def PSg (g : Heap) (b : Bool) (xs : List Int) (r : Value) (h' : Heap) : Prop :=
  ∃ t k l us n, r = .ref t ∧ g.get? t = none ∧ h'.get? t = some (tupO [.bool b, .ref l] k) ∧ g.get? l = none ∧ h'.get? l = some (listOf us.toArray n) ∧ IntsAre us xs
def PLI (g : Heap) (qs : List Int) (x : Int) (r : Value) (h' : Heap) : Prop :=
  ∃ t k l us n u, r = .ref t ∧ g.get? t = none ∧ h'.get? t = some (tupO [.ref l, .int x u] k) ∧ g.get? l = none ∧ h'.get? l = some (listOf us.toArray n) ∧ IntsAre us qs
def PLL (g : Heap) (qs rs : List Int) (r : Value) (h' : Heap) : Prop :=
  ∃ t k l us n l2 us2 n2, r = .ref t ∧ g.get? t = none ∧ h'.get? t = some (tupO [.ref l, .ref l2] k) ∧ g.get? l = none ∧ h'.get? l = some (listOf us.toArray n) ∧ g.get? l2 = none ∧ h'.get? l2 = some (listOf us2.toArray n2) ∧ IntsAre us qs ∧ IntsAre us2 rs
def PSS (g : Heap) (b : Bool) (qs : List Int) (b2 : Bool) (rs : List Int) (r : Value) (h' : Heap) : Prop :=
  ∃ t k t1 k1 l us n t2 k2 l2 us2 n2, r = .ref t ∧ g.get? t = none ∧ h'.get? t = some (tupO [.ref t1, .ref t2] k) ∧ g.get? t1 = none ∧ h'.get? t1 = some (tupO [.bool b, .ref l] k1) ∧ g.get? t2 = none ∧ h'.get? t2 = some (tupO [.bool b2, .ref l2] k2) ∧
    g.get? l = none ∧ h'.get? l = some (listOf us.toArray n) ∧ g.get? l2 = none ∧ h'.get? l2 = some (listOf us2.toArray n2) ∧ IntsAre us qs ∧ IntsAre us2 rs
def PSL (g : Heap) (b : Bool) (qs rs : List Int) (r : Value) (h' : Heap) : Prop :=
  ∃ t k t1 k1 l us n l2 us2 n2, r = .ref t ∧ g.get? t = none ∧ h'.get? t = some (tupO [.ref t1, .ref l2] k) ∧ g.get? t1 = none ∧ h'.get? t1 = some (tupO [.bool b, .ref l] k1) ∧
    g.get? l = none ∧ h'.get? l = some (listOf us.toArray n) ∧ g.get? l2 = none ∧ h'.get? l2 = some (listOf us2.toArray n2) ∧ IntsAre us qs ∧ IntsAre us2 rs
def PTT (g : Heap) (b : Bool) (l l2 : Addr) (r : Value) (h' : Heap) : Prop :=
  ∃ t k t1 k1, r = .ref t ∧ g.get? t = none ∧ h'.get? t = some (tupO [.ref t1, .ref l2] k) ∧ g.get? t1 = none ∧ h'.get? t1 = some (tupO [.bool b, .ref l] k1)

section
variable {l1 l2 : Addr}
variable {w : World} {A A₀ : Around} {base h₀ : Heap} {outer : List Env} {cn : Str} {cs : Scope} {a : Addr} {ccd : Value} {cl : List (Str × Addr)} {L : Addr} {m : Str → Option Value} {s : Shared} {d : Nat} {f : Addr}
    {p : Program} {loose : List Str} {mean : ExcName → Option Value} {mg mb : Str → Option Value} {Q E : Value → Shared → Prop} {vs : List Value} {news : List (Addr × Obj)} {x : Int} {xs ys : List Int} {b b2 : Bool} {ws : List Value}

theorem new_of {l : Addr} (F : Fr h₀ L s.heap m) (h : s.heap.get? l = none) : l ≠ L ∧ h₀.get? l = none := by
  obtain ⟨oL, _, _, hL, _⟩ := F.ns
  refine ⟨fun e => ?_, ?_⟩
  · rw [e, hL] at h; cases h
  · cases q : h₀.get? l with
    | none => rfl
    | some o => have := F.keep _ _ q; rw [h] at this; cases this
theorem ne_of {l : Addr} (N : News h₀ L s.heap news) (h : s.heap.get? l = none) : ∀ p ∈ news, p.1 ≠ l := fun p hp e => by
  have := (N p hp).1; rw [e, h] at this; cases this
theorem news_more {h' : Heap} {l : Addr} {o : Obj} (F : Fr h₀ L s.heap m) (N : News h₀ L h' news) (h : s.heap.get? l = none) (h1 : h'.get? l = some o) : News h₀ L h' ((l, o) :: news) := fun p hp => by
  rcases List.mem_cons.mp hp with rfl | hp
  · exact ⟨h1, (new_of F h).1, (new_of F h).2⟩
  · exact N p hp

theorem use_int (C : Call w d f vs s (PInt x)) (B : Below A₀ base outer h₀) (F : Fr h₀ L s.heap m) (X : (hd.heap_39 w.params).In h₀) (N : News h₀ L s.heap news) (T : Top p loose mean mg mb h₀) (hA : A.frames = some (envX cn cs L a ccd cl :: outer)) (hk : cs.kind = .function) (hn : A.handled = none) (hd : A.depth ≤ d) (hu : A.units ≤ 4 * d)
    (ret : ∀ t h' tk', Fr h₀ L h' m → News h₀ L h' news → Q (.int x t) { s with heap := h', toks := tk' }) : wpAny (model PySem.Challenge.rw_xm0408_01.prog w) A (call (.ref f) vs) Q E s := by
  refine C A A₀ base h₀ outer cn cs a ccd cl L m p loose mean mg mb Q E B F X T hA hk hn hd hu ?_
  rintro r h' tk' st ⟨t, rfl⟩
  exact ret t h' tk' (F.kept st) (N.grown st)
theorem use_list (C : Call w d f vs s (PList s.heap xs)) (B : Below A₀ base outer h₀) (F : Fr h₀ L s.heap m) (X : (hd.heap_39 w.params).In h₀) (N : News h₀ L s.heap news) (T : Top p loose mean mg mb h₀) (hA : A.frames = some (envX cn cs L a ccd cl :: outer)) (hk : cs.kind = .function) (hn : A.handled = none) (hd : A.depth ≤ d) (hu : A.units ≤ 4 * d)
    (ret : ∀ l us n h' tk', Fr h₀ L h' m → News h₀ L h' ((l, listOf us.toArray n) :: news) → IntsAre us xs → (∀ p ∈ news, p.1 ≠ l) → Q (.ref l) { s with heap := h', toks := tk' }) : wpAny (model PySem.Challenge.rw_xm0408_01.prog w) A (call (.ref f) vs) Q E s := by
  refine C A A₀ base h₀ outer cn cs a ccd cl L m p loose mean mg mb Q E B F X T hA hk hn hd hu ?_
  rintro r h' tk' st ⟨l, us, n, rfl, h1, h2, h3⟩
  exact ret l us n h' tk' (F.kept st) (news_more F (N.grown st) h1 h2) h3 (ne_of N h1)
theorem use_tup (C : Call w d f vs s (PTup s.heap ws)) (B : Below A₀ base outer h₀) (F : Fr h₀ L s.heap m) (X : (hd.heap_39 w.params).In h₀) (N : News h₀ L s.heap news) (T : Top p loose mean mg mb h₀) (hA : A.frames = some (envX cn cs L a ccd cl :: outer)) (hk : cs.kind = .function) (hn : A.handled = none) (hd : A.depth ≤ d) (hu : A.units ≤ 4 * d)
    (ret : ∀ t k h' tk', Fr h₀ L h' m → News h₀ L h' ((t, tupO ws k) :: news) → (∀ p ∈ news, p.1 ≠ t) → Q (.ref t) { s with heap := h', toks := tk' }) : wpAny (model PySem.Challenge.rw_xm0408_01.prog w) A (call (.ref f) vs) Q E s := by
  refine C A A₀ base h₀ outer cn cs a ccd cl L m p loose mean mg mb Q E B F X T hA hk hn hd hu ?_
  rintro r h' tk' st ⟨t, k, rfl, h1, h2⟩
  exact ret t k h' tk' (F.kept st) (news_more F (N.grown st) h1 h2) (ne_of N h1)
theorem use_sg (C : Call w d f vs s (PSg s.heap b xs)) (B : Below A₀ base outer h₀) (F : Fr h₀ L s.heap m) (X : (hd.heap_39 w.params).In h₀) (N : News h₀ L s.heap news) (T : Top p loose mean mg mb h₀) (hA : A.frames = some (envX cn cs L a ccd cl :: outer)) (hk : cs.kind = .function) (hn : A.handled = none) (hd : A.depth ≤ d) (hu : A.units ≤ 4 * d)
    (ret : ∀ t k l us n h' tk', Fr h₀ L h' m → News h₀ L h' ((t, tupO [.bool b, .ref l] k) :: (l, listOf us.toArray n) :: news) → IntsAre us xs → Q (.ref t) { s with heap := h', toks := tk' }) : wpAny (model PySem.Challenge.rw_xm0408_01.prog w) A (call (.ref f) vs) Q E s := by
  refine C A A₀ base h₀ outer cn cs a ccd cl L m p loose mean mg mb Q E B F X T hA hk hn hd hu ?_
  rintro r h' tk' st ⟨t, k, l, us, n, rfl, h1, h2, h3, h4, h5⟩
  exact ret t k l us n h' tk' (F.kept st) (news_more F (news_more F (N.grown st) h3 h4) h1 h2) h5
theorem use_li (C : Call w d f vs s (PLI s.heap xs x)) (B : Below A₀ base outer h₀) (F : Fr h₀ L s.heap m) (X : (hd.heap_39 w.params).In h₀) (N : News h₀ L s.heap news) (T : Top p loose mean mg mb h₀) (hA : A.frames = some (envX cn cs L a ccd cl :: outer)) (hk : cs.kind = .function) (hn : A.handled = none) (hd : A.depth ≤ d) (hu : A.units ≤ 4 * d)
    (ret : ∀ t k l us n u h' tk', Fr h₀ L h' m → News h₀ L h' ((t, tupO [.ref l, .int x u] k) :: (l, listOf us.toArray n) :: news) → IntsAre us xs → Q (.ref t) { s with heap := h', toks := tk' }) : wpAny (model PySem.Challenge.rw_xm0408_01.prog w) A (call (.ref f) vs) Q E s := by
  refine C A A₀ base h₀ outer cn cs a ccd cl L m p loose mean mg mb Q E B F X T hA hk hn hd hu ?_
  rintro r h' tk' st ⟨t, k, l, us, n, u, rfl, h1, h2, h3, h4, h5⟩
  exact ret t k l us n u h' tk' (F.kept st) (news_more F (news_more F (N.grown st) h3 h4) h1 h2) h5
theorem use_ll (C : Call w d f vs s (PLL s.heap xs ys)) (B : Below A₀ base outer h₀) (F : Fr h₀ L s.heap m) (X : (hd.heap_39 w.params).In h₀) (N : News h₀ L s.heap news) (T : Top p loose mean mg mb h₀) (hA : A.frames = some (envX cn cs L a ccd cl :: outer)) (hk : cs.kind = .function) (hn : A.handled = none) (hd : A.depth ≤ d) (hu : A.units ≤ 4 * d)
    (ret : ∀ t k l us n l2 us2 n2 h' tk', Fr h₀ L h' m → News h₀ L h' ((t, tupO [.ref l, .ref l2] k) :: (l, listOf us.toArray n) :: (l2, listOf us2.toArray n2) :: news) → IntsAre us xs → IntsAre us2 ys → Q (.ref t) { s with heap := h', toks := tk' }) : wpAny (model PySem.Challenge.rw_xm0408_01.prog w) A (call (.ref f) vs) Q E s := by
  refine C A A₀ base h₀ outer cn cs a ccd cl L m p loose mean mg mb Q E B F X T hA hk hn hd hu ?_
  rintro r h' tk' st ⟨t, k, l, us, n, l2, us2, n2, rfl, h1, h2, h3, h4, h5, h6, h7, h8⟩
  exact ret t k l us n l2 us2 n2 h' tk' (F.kept st) (news_more F (news_more F (news_more F (N.grown st) h5 h6) h3 h4) h1 h2) h7 h8
theorem use_ss (C : Call w d f vs s (PSS s.heap b xs b2 ys)) (B : Below A₀ base outer h₀) (F : Fr h₀ L s.heap m) (X : (hd.heap_39 w.params).In h₀) (N : News h₀ L s.heap news) (T : Top p loose mean mg mb h₀) (hA : A.frames = some (envX cn cs L a ccd cl :: outer)) (hk : cs.kind = .function) (hn : A.handled = none) (hd : A.depth ≤ d) (hu : A.units ≤ 4 * d)
    (ret : ∀ t k t1 k1 l us n t2 k2 l2 us2 n2 h' tk', Fr h₀ L h' m → News h₀ L h' ((t, tupO [.ref t1, .ref t2] k) :: (t1, tupO [.bool b, .ref l] k1) :: (t2, tupO [.bool b2, .ref l2] k2) :: (l, listOf us.toArray n) :: (l2, listOf us2.toArray n2) :: news) → IntsAre us xs → IntsAre us2 ys → Q (.ref t) { s with heap := h', toks := tk' }) : wpAny (model PySem.Challenge.rw_xm0408_01.prog w) A (call (.ref f) vs) Q E s := by
  refine C A A₀ base h₀ outer cn cs a ccd cl L m p loose mean mg mb Q E B F X T hA hk hn hd hu ?_
  rintro r h' tk' st ⟨t, k, t1, k1, l, us, n, t2, k2, l2, us2, n2, rfl, h1, h2, h3, h4, h5, h6, h7, h8, h9, g1, g2, g3⟩
  exact ret t k t1 k1 l us n t2 k2 l2 us2 n2 h' tk' (F.kept st) (news_more F (news_more F (news_more F (news_more F (news_more F (N.grown st) h9 g1) h7 h8) h5 h6) h3 h4) h1 h2) g2 g3
theorem use_sl (C : Call w d f vs s (PSL s.heap b xs ys)) (B : Below A₀ base outer h₀) (F : Fr h₀ L s.heap m) (X : (hd.heap_39 w.params).In h₀) (N : News h₀ L s.heap news) (T : Top p loose mean mg mb h₀) (hA : A.frames = some (envX cn cs L a ccd cl :: outer)) (hk : cs.kind = .function) (hn : A.handled = none) (hd : A.depth ≤ d) (hu : A.units ≤ 4 * d)
    (ret : ∀ t k t1 k1 l us n l2 us2 n2 h' tk', Fr h₀ L h' m → News h₀ L h' ((t, tupO [.ref t1, .ref l2] k) :: (t1, tupO [.bool b, .ref l] k1) :: (l, listOf us.toArray n) :: (l2, listOf us2.toArray n2) :: news) → IntsAre us xs → IntsAre us2 ys → Q (.ref t) { s with heap := h', toks := tk' }) : wpAny (model PySem.Challenge.rw_xm0408_01.prog w) A (call (.ref f) vs) Q E s := by
  refine C A A₀ base h₀ outer cn cs a ccd cl L m p loose mean mg mb Q E B F X T hA hk hn hd hu ?_
  rintro r h' tk' st ⟨t, k, t1, k1, l, us, n, l2, us2, n2, rfl, h1, h2, h3, h4, h5, h6, h7, h8, h9, g1⟩
  exact ret t k t1 k1 l us n l2 us2 n2 h' tk' (F.kept st) (news_more F (news_more F (news_more F (news_more F (N.grown st) h7 h8) h5 h6) h3 h4) h1 h2) h9 g1
theorem use_tt (C : Call w d f vs s (PTT s.heap b l1 l2)) (B : Below A₀ base outer h₀) (F : Fr h₀ L s.heap m) (X : (hd.heap_39 w.params).In h₀) (N : News h₀ L s.heap news) (T : Top p loose mean mg mb h₀) (hA : A.frames = some (envX cn cs L a ccd cl :: outer)) (hk : cs.kind = .function) (hn : A.handled = none) (hd : A.depth ≤ d) (hu : A.units ≤ 4 * d)
    (ret : ∀ t k t1 k1 h' tk', Fr h₀ L h' m → News h₀ L h' ((t, tupO [.ref t1, .ref l2] k) :: (t1, tupO [.bool b, .ref l1] k1) :: news) → Q (.ref t) { s with heap := h', toks := tk' }) : wpAny (model PySem.Challenge.rw_xm0408_01.prog w) A (call (.ref f) vs) Q E s := by
  refine C A A₀ base h₀ outer cn cs a ccd cl L m p loose mean mg mb Q E B F X T hA hk hn hd hu ?_
  rintro r h' tk' st ⟨t, k, t1, k1, rfl, h1, h2, h3, h4⟩
  exact ret t k t1 k1 h' tk' (F.kept st) (news_more F (news_more F (N.grown st) h3 h4) h1 h2)
end
theorem ints0 {us : List Value} (h : IntsAre us []) : us = [] := by cases h; rfl
theorem ints1 {us : List Value} {x : Int} (h : IntsAre us [x]) : ∃ t, us = [.int x t] := by
  cases h with
  | cons _ t h => cases h; exact ⟨t, rfl⟩
theorem ints2 {us : List Value} {x y : Int} (h : IntsAre us [x, y]) : ∃ t u, us = [.int x t, .int y u] := by
  cases h with
  | cons _ t h => cases h with
    | cons _ u h => cases h; exact ⟨t, u, rfl⟩
theorem arr0 {it : Array Value} (h : IntsAre it.toList []) : it = ([] : List Value).toArray := by
  obtain ⟨l⟩ := it
  have e : l = [] := ints0 h
  rw [e]
theorem arr1 {it : Array Value} {x : Int} (h : IntsAre it.toList [x]) : ∃ t, it = [Value.int x t].toArray := by
  obtain ⟨l⟩ := it
  obtain ⟨t, e⟩ := ints1 (us := l) h
  exact ⟨t, by rw [e]⟩
theorem arr2 {it : Array Value} {x y : Int} (h : IntsAre it.toList [x, y]) : ∃ t u, it = [Value.int x t, Value.int y u].toArray := by
  obtain ⟨l⟩ := it
  obtain ⟨t, u, e⟩ := ints2 (us := l) h
  exact ⟨t, u, by rw [e]⟩
theorem pint_of {x y : Int} {t : Tok} {h' : Heap} (e : x = y) : PInt y (.int x t) h' := ⟨t, by rw [e]⟩
theorem ints_eq {us : List Value} {xs ys : List Int} (h : IntsAre us ys) (e : ys = xs) : IntsAre us xs := e ▸ h

/-- the pure functions -/
def dropZ : List Int → List Int
  | [] => []
  | x :: r => if x = 0 then dropZ r else x :: r
def normL (xs : List Int) : List Int := (dropZ xs.reverse).reverse

theorem dropZ_app : ∀ (zs xs : List Int), (∀ z ∈ zs, z = 0) → dropZ (zs ++ xs) = dropZ xs
  | [], _, _ => rfl
  | z :: zs, xs, h => by
    show (if z = 0 then dropZ (zs ++ xs) else z :: (zs ++ xs)) = _
    rw [if_pos (h z (.head _))]
    exact dropZ_app zs xs fun y hy => h y (.tail _ hy)
theorem norm_take {xs : List Int} {k : Int} (h0 : 0 ≤ k) (hk : k ≤ xs.length) (hz : ∀ j : Int, k < j → j ≤ xs.length → xs.getD (j - 1).toNat 0 = 0) (hl : k = 0 ∨ xs.getD (k - 1).toNat 0 ≠ 0) : xs.take k.toNat = normL xs := by
  have e : xs = xs.take k.toNat ++ xs.drop k.toNat := (List.take_append_drop ..).symm
  have z : ∀ z ∈ (xs.drop k.toNat).reverse, z = 0 := by
    intro z hm
    obtain ⟨i, hi, rfl⟩ := List.mem_iff_getElem.mp (List.mem_reverse.mp hm)
    have hi' : i < xs.length - k.toNat := by simpa using hi
    have q := hz (k + i + 1) (by omega) (by omega)
    have q2 : (k + i + 1 - 1).toNat = k.toNat + i := by omega
    rw [q2, List.getD_eq_getElem?_getD, List.getElem?_eq_getElem (by omega)] at q
    simpa using q
  have r : normL xs = (dropZ (xs.take k.toNat).reverse).reverse := by
    unfold normL
    conv => lhs; rw [e, List.reverse_append]
    rw [dropZ_app _ _ z]
  rw [r]
  rcases hl with rfl | hl
  · simp [dropZ]
  · by_cases hk0 : k = 0
    · subst hk0; simp [dropZ]
    · have hlt : (k - 1).toNat < xs.length := by omega
      have e2 : xs.take k.toNat = xs.take (k - 1).toNat ++ [xs[(k - 1).toNat]] := by
        have : k.toNat = (k - 1).toNat + 1 := by omega
        rw [this, List.take_add_one, List.getElem?_eq_getElem hlt]; rfl
      rw [List.getD_eq_getElem?_getD, List.getElem?_eq_getElem hlt] at hl
      have hl' : ¬ xs[(k - 1).toNat] = 0 := hl
      rw [e2, List.reverse_append, List.reverse_singleton, List.singleton_append]
      show _ = (if xs[(k - 1).toNat] = 0 then _ else _ : List Int).reverse
      rw [if_neg hl', List.reverse_cons, List.reverse_reverse]

theorem norm_walk {xs : List Int} {k : Int} (h1 : k ≤ ↑xs.length) (h2 : min (↑xs.length) 0 ≤ k)
    (h3 : ∀ j : Int, k < j → j ≤ ↑xs.length → (if 0 < j then if (xs.getD (j - 1).toNat 0 == 0) = true then true else false else false) = true)
    (h4 : (if 0 < k then if (xs.getD (k - 1).toNat 0 == 0) = true then true else false else false) = false) : xs.take k.toNat = normL xs := by
  refine norm_take (by omega) h1 (fun j hj hj2 => ?_) ?_
  · have q := h3 j hj hj2
    split at q
    · split at q
      · rename_i r; exact beq_iff_eq.mp r
      · cases q
    · cases q
  · by_cases hk : k = 0
    · exact .inl hk
    · right
      rw [if_pos (by omega)] at h4
      intro e
      rw [e] at h4
      simp at h4

def lim (x : Int) : Bool := decide (0 ≤ x) && decide (x < 256)
def limW (w : Int) : Bool := decide (3 ≤ w) && decide (w ≤ 8)
theorem lim_lo {x : Int} (h : lim x = true) : 0 ≤ x := by simp [lim] at h; exact h.1
theorem lim_hi {x : Int} (h : lim x = true) : x < 256 := by simp [lim] at h; exact h.2
theorem limW_lo {x : Int} (h : limW x = true) : 3 ≤ x := by simp [limW] at h; exact h.1
theorem limW_hi {x : Int} (h : limW x = true) : x ≤ 8 := by simp [limW] at h; exact h.2

def cmpR : List Int → List Int → Int
  | x :: r, y :: t => if x ≠ y then (if x < y then -1 else 1) else cmpR r t
  | _, _ => 0
theorem cmpR_lt {x y : Int} {r t : List Int} (h : x ≠ y) (h2 : x < y) : -1 = cmpR (x :: r) (y :: t) := by
  show _ = (if x ≠ y then (if x < y then -1 else 1) else cmpR r t : Int)
  rw [if_pos h, if_pos h2]
theorem cmpR_gt {x y : Int} {r t : List Int} (h : x ≠ y) (h2 : ¬ x < y) : 1 = cmpR (x :: r) (y :: t) := by
  show _ = (if x ≠ y then (if x < y then -1 else 1) else cmpR r t : Int)
  rw [if_pos h, if_neg h2]
theorem cmpR_eq {x y z : Int} {r t : List Int} (h : x = y) (h2 : z = cmpR r t) : z = cmpR (x :: r) (y :: t) := by
  show _ = (if x ≠ y then (if x < y then -1 else 1) else cmpR r t : Int)
  rw [if_neg (fun k => k h), h2]
def cmpL (a b : List Int) : Int := if a.length = b.length then cmpR a.reverse b.reverse else if a.length < b.length then -1 else 1
def okCmp (a b : List Int) : Bool := match a, b with
  | [_], [_] => true
  | [_, _], [_] => true
  | [_, _], [_, _] => true
  | _, _ => false

def loW (w c : Int) : Int := Builtin.bitAnd c (1 * 2 ^ w.toNat - 1)
def hiW (w c : Int) : Int := c.fdiv (2 ^ w.toNat)
def shW (w r x : Int) : Int := Builtin.bitOr (r * 2 ^ w.toNat) x
def addC (w c : Int) : List Int := if 0 < hiW w c then [loW w c, hiW w c] else [loW w c]
theorem addC_pos {w c : Int} (h : 0 < hiW w c) : [loW w c, hiW w c] = addC w c := (if_pos h).symm
theorem addC_neg {w c : Int} (h : ¬ 0 < hiW w c) : [loW w c] = addC w c := (if_neg h).symm
def addL (w : Int) (a b : List Int) : List Int := match a, b with
  | [x], [y] => addC w (0 + (x + y))
  | [x], [] => addC w (0 + x)
  | _, _ => []
def okAdd (w : Int) (a b : List Int) : Bool := limW w && match a, b with
  | [x], [y] => lim x && lim y
  | [x], [] => lim x
  | _, _ => false
def dlQ (w d : Int) (a : List Int) : List Int := match a with
  | [x] => normL [(shW w 0 x).fdiv d]
  | [x, x2] => normL [(shW w ((shW w 0 x2).fmod d) x).fdiv d, (shW w 0 x2).fdiv d]
  | _ => []
def dlR (w d : Int) (a : List Int) : Int := match a with
  | [x] => (shW w 0 x).fmod d
  | [x, x2] => (shW w ((shW w 0 x2).fmod d) x).fmod d
  | _ => 0
def okDl (w d : Int) (a : List Int) : Bool := limW w && lim d && decide (0 < d) && match a with
  | [x] => lim x
  | [x, x2] => lim x && lim x2
  | _ => false
def mulL (w : Int) (a b : List Int) : List Int := match a, b with
  | [x], [y] => normL [loW w (0 + (0 + x * y)), hiW w (0 + (0 + x * y))]
  | [], [_] => normL [0]
  | _, _ => []
def okMul (w : Int) (a b : List Int) : Bool := limW w && match a, b with
  | [x], [y] => lim x && lim y
  | [], [y] => lim y
  | _, _ => false
def sbL (w d : Int) : Int := if d < 0 then d + 1 * 2 ^ w.toNat else d
def bor (d : Int) : Int := if d < 0 then 1 else 0
def sub2 (w d x y : Int) : List Int := normL [sbL w d, sbL w (x - bor d - y)]
def subL (w : Int) (a b : List Int) : List Int := match a, b with
  | [x], [y] => normL [sbL w (x - 0 - y)]
  | [x, x2], [y] => sub2 w (x - 0 - y) x2 0
  | [x, x2], [y, y2] => sub2 w (x - 0 - y) x2 y2
  | _, _ => []
theorem sub1_lt {w d : Int} (h : d < 0) : normL [d + 1 * 2 ^ w.toNat] = normL [sbL w d] := by rw [sbL, if_pos h]
theorem sub1_ge {w d : Int} (h : ¬ d < 0) : normL [d] = normL [sbL w d] := by rw [sbL, if_neg h]
theorem sub2_ll {w d x y : Int} (h : d < 0) (k : x - 1 - y < 0) : normL [d + 1 * 2 ^ w.toNat, x - 1 - y + 1 * 2 ^ w.toNat] = sub2 w d x y := by rw [sub2, bor, if_pos h, sbL, if_pos h, sbL, if_pos k]
theorem sub2_lg {w d x y : Int} (h : d < 0) (k : ¬ x - 1 - y < 0) : normL [d + 1 * 2 ^ w.toNat, x - 1 - y] = sub2 w d x y := by rw [sub2, bor, if_pos h, sbL, if_pos h, sbL, if_neg k]
theorem sub2_gl {w d x y : Int} (h : ¬ d < 0) (k : x - 0 - y < 0) : normL [d, x - 0 - y + 1 * 2 ^ w.toNat] = sub2 w d x y := by rw [sub2, bor, if_neg h, sbL, if_neg h, sbL, if_pos k]
theorem sub2_gg {w d x y : Int} (h : ¬ d < 0) (k : ¬ x - 0 - y < 0) : normL [d, x - 0 - y] = sub2 w d x y := by rw [sub2, bor, if_neg h, sbL, if_neg h, sbL, if_neg k]
def okSub (w : Int) (a b : List Int) : Bool := limW w && decide (0 ≤ cmpL a b) && match a, b with
  | [x], [y] => lim x && lim y
  | [x, x2], [y] => lim x && lim x2 && lim y
  | [x, x2], [y, y2] => lim x && lim x2 && (lim y && lim y2)
  | _, _ => false
def sgB (b : Bool) (xs : List Int) : Bool := b && decide ((0 : Int) < (xs.length : Int))
theorem sgB_t {b : Bool} {xs : List Int} (h : b = true) : decide ((0 : Int) < (xs.length : Int)) = sgB b xs := by rw [h]; rfl
theorem sgB_f {b : Bool} {xs : List Int} (h : b = false) : b = sgB b xs := by rw [h]; rfl
theorem get_cast {h : Heap} {t l : Addr} {k : Nat} {v v' : Bool} (g : h.get? t = some (tupO [.bool v, .ref l] k)) (e : v = v') : h.get? t = some (tupO [.bool v', .ref l] k) := e ▸ g
theorem dropZ_len : ∀ xs : List Int, (dropZ xs).length ≤ xs.length
  | [] => Nat.le_refl _
  | x :: r => by
    show (if x = 0 then dropZ r else x :: r).length ≤ _
    split
    · exact Nat.le_succ_of_le (dropZ_len r)
    · exact Nat.le_refl _
theorem normL_len (xs : List Int) : (normL xs).length ≤ xs.length := by
  unfold normL
  rw [List.length_reverse]
  exact Nat.le_trans (dropZ_len _) (by rw [List.length_reverse]; exact Nat.le_refl _)
theorem len_of_norm {xs : List Int} (h : xs.length ≤ 8) : (normL xs).length ≤ 8 := Nat.le_trans (normL_len xs) h
theorem len_addC {w c : Int} : (addC w c).length ≤ 8 := by
  unfold addC; split <;> simp
theorem len_add {w : Int} {a b : List Int} : (addL w a b).length ≤ 8 := by
  unfold addL; split <;> first | exact len_addC | simp
theorem len_sub {w : Int} {a b : List Int} : (subL w a b).length ≤ 8 := by
  unfold subL sub2; split <;> first | exact len_of_norm (by simp) | simp
theorem len_mul {w : Int} {a b : List Int} : (mulL w a b).length ≤ 8 := by
  unfold mulL; split <;> first | exact len_of_norm (by simp) | simp
theorem len_dlQ {w d : Int} {a : List Int} : (dlQ w d a).length ≤ 8 := by
  unfold dlQ; split <;> first | exact len_of_norm (by simp) | simp
/-- a signed number: below nought, limbs -/
abbrev Sg := Bool × List Int
def sgOf (b : Bool) (xs : List Int) : Sg := (sgB b xs, xs)
def sNeg (x : Sg) : Sg := sgOf (!x.1) x.2
def sAdd (w : Int) (x y : Sg) : Sg := if x.1 = y.1 then sgOf x.1 (addL w x.2 y.2) else if cmpL x.2 y.2 < 0 then sgOf y.1 (subL w y.2 x.2) else sgOf x.1 (subL w x.2 y.2)
def okSAdd (w : Int) (x y : Sg) : Bool := limW w && if x.1 = y.1 then okAdd w x.2 y.2 else okCmp x.2 y.2 && if cmpL x.2 y.2 < 0 then okSub w y.2 x.2 else okSub w x.2 y.2
def sSub (w : Int) (x y : Sg) : Sg := sAdd w x (sNeg y)
def sMul (w : Int) (x y : Sg) : Sg := sgOf (x.1 != y.1) (mulL w x.2 y.2)
theorem sAdd_eq {w : Int} {x y : Sg} (h : (x.1 == y.1) = true) : sAdd w x y = sgOf x.1 (addL w x.2 y.2) := if_pos (eq_of_beq h)
theorem sAdd_lt {w : Int} {x y : Sg} (h : (x.1 == y.1) = false) (k : cmpL x.2 y.2 < 0) : sAdd w x y = sgOf y.1 (subL w y.2 x.2) := by
  unfold sAdd; rw [if_neg (fun e => by rw [e] at h; simp at h), if_pos k]
theorem sAdd_ge {w : Int} {x y : Sg} (h : (x.1 == y.1) = false) (k : ¬ cmpL x.2 y.2 < 0) : sAdd w x y = sgOf x.1 (subL w x.2 y.2) := by
  unfold sAdd; rw [if_neg (fun e => by rw [e] at h; simp at h), if_neg k]
theorem psg_cast {g : Heap} {b : Bool} {xs : List Int} {r : Value} {h' : Heap} {p : Sg} (h : PSg g b xs r h') (e : p = (b, xs)) : PSg g p.1 p.2 r h' := by rw [e]; exact h
theorem okSAdd_split {w : Int} {sx sy : Bool} {xs ys : List Int} (h : okSAdd w (sx, xs) (sy, ys) = true) :
    3 ≤ w ∧ w ≤ 8 ∧ ((sx == sy) = true → okAdd w xs ys = true) ∧ ((sx == sy) = false → okCmp xs ys = true) ∧ ((sx == sy) = false → cmpL xs ys < 0 → okSub w ys xs = true) ∧ ((sx == sy) = false → ¬ cmpL xs ys < 0 → okSub w xs ys = true) := by
  unfold okSAdd at h
  have h0 : limW w = true := by cases q : limW w <;> simp [q] at h ⊢
  rw [h0, Bool.true_and] at h
  refine ⟨limW_lo h0, limW_hi h0, fun e => ?_, fun e => ?_, fun e k => ?_, fun e k => ?_⟩
  · rw [if_pos (eq_of_beq e)] at h; exact h
  all_goals (rw [if_neg (fun q : sx = sy => by rw [q] at e; simp at e)] at h)
  · cases q : okCmp xs ys <;> simp [q] at h ⊢
  · cases q : okCmp xs ys <;> simp [q, k] at h ⊢; exact h
  · cases q : okCmp xs ys <;> simp [q, k] at h ⊢; exact h
def dsR (r : Int) : List Int := if 0 < r then [r] else []
theorem dsR_pos {r : Int} (h : 0 < r) : [r] = dsR r := (if_pos h).symm
theorem dsR_neg {r : Int} (h : ¬ 0 < r) : [] = dsR r := (if_neg h).symm
def dvQ (w : Int) (a b : List Int) : List Int := match b with
  | [d] => if cmpL a [d] < 0 then [] else dlQ w d a
  | _ => []
def dvR (w : Int) (a b : List Int) : List Int := match b with
  | [d] => if cmpL a [d] < 0 then a else dsR (dlR w d a)
  | _ => []
def okDv (w : Int) (a b : List Int) : Bool := okCmp a b && match b with
  | [d] => okDl w d a
  | _ => false
theorem dvQ_lt {w d : Int} {a : List Int} (h : cmpL a [d] < 0) : [] = dvQ w a [d] := (if_pos h).symm
theorem dvQ_ge {w d : Int} {a : List Int} (h : ¬ cmpL a [d] < 0) : dlQ w d a = dvQ w a [d] := (if_neg h).symm
theorem dvR_lt {w d : Int} {a : List Int} (h : cmpL a [d] < 0) : a = dvR w a [d] := (if_pos h).symm
theorem dvR_ge {w d : Int} {a : List Int} (h : ¬ cmpL a [d] < 0) : dsR (dlR w d a) = dvR w a [d] := (if_neg h).symm
theorem len_dvQ {w : Int} {a b : List Int} : (dvQ w a b).length ≤ 8 := by
  unfold dvQ; split
  · split
    · simp
    · exact len_dlQ
  · simp
theorem len_dvR {w : Int} {a b : List Int} (h : a.length ≤ 8) : (dvR w a b).length ≤ 8 := by
  unfold dvR dsR; split
  · split
    · exact h
    · split <;> simp
  · simp
def commonL (w : Int) : Nat → List Int → List Int → List Int
  | 0, _, _ => []
  | n + 1, a, b => if (0 : Int) < (b.length : Int) then commonL w n b (dvR w a b) else normL a
def okCommon (w : Int) : Nat → List Int → List Int → Bool
  | 0, _, _ => false
  | n + 1, a, b => decide (a.length ≤ 8) && if (0 : Int) < (b.length : Int) then okDv w a b && okCommon w n b (dvR w a b) else true
theorem whl_common {w : Int} {n : Nat} {xa xb R : List Int} {T F : Prop} (ok : okCommon w (n + 1) xa xb = true) (e : R = commonL w (n + 1) xa xb)
    (t : (0 : Int) < (xb.length : Int) → okDv w xa xb = true → okCommon w n xb (dvR w xa xb) = true → R = commonL w n xb (dvR w xa xb) → (dvR w xa xb).length ≤ 8 → T)
    (f : ¬ (0 : Int) < (xb.length : Int) → xa.length ≤ 8 → R = normL xa → F) : WhlIf (decide ((0 : Int) < (xb.length : Int))) T F := by
  obtain ⟨o1, o2⟩ := (show _ ∧ _ by simpa only [okCommon, Bool.and_eq_true] using ok)
  by_cases h : (0 : Int) < (xb.length : Int)
  · rw [if_pos h] at o2
    have e' : R = commonL w n xb (dvR w xa xb) := e.trans (if_pos h)
    obtain ⟨o2, o3⟩ := (show _ ∧ _ by simpa only [Bool.and_eq_true] using o2)
    exact WhlIf.yes (decide_eq_true h) (t h o2 o3 e' (len_dvR (of_decide_eq_true o1)))
  · exact WhlIf.no (decide_eq_false h) (f h (of_decide_eq_true o1) (e.trans (if_neg h)))
theorem whl_common0 {w : Int} {xa xb : List Int} {c : Bool} {T F : Prop} (ok : okCommon w 0 xa xb = true) : WhlIf c T F := by cases ok
theorem len_common {w : Int} : ∀ {n : Nat} {a b : List Int}, okCommon w n a b = true → (commonL w n a b).length ≤ 8
  | 0, _, _, h => by cases h
  | n + 1, a, b, ok => by
    obtain ⟨o1, o2⟩ := (show _ ∧ _ by simpa only [okCommon, Bool.and_eq_true] using ok)
    show (if (0 : Int) < (b.length : Int) then commonL w n b (dvR w a b) else normL a).length ≤ 8
    by_cases h : (0 : Int) < (b.length : Int)
    · rw [if_pos h] at o2 ⊢
      obtain ⟨o2, o3⟩ := (show _ ∧ _ by simpa only [Bool.and_eq_true] using o2)
      exact len_common o3
    · rw [if_neg h]; exact len_of_norm (of_decide_eq_true o1)
theorem len_norm2 {xs : List Int} (h : xs.length ≤ 8) : (normL xs).length ≤ 8 := len_of_norm h
abbrev Rat2 := Sg × List Int
def rTold (w : Int) (x y : Rat2) : List Int := commonL w 6 x.2 y.2
def rHere (w : Int) (x y : Rat2) : List Int := dvQ w x.2 (rTold w x y)
def rThere (w : Int) (x y : Rat2) : List Int := dvQ w y.2 (rTold w x y)
def rTop (w : Int) (x y : Rat2) : Sg := sAdd w (sMul w x.1 (false, rThere w x y)) (sMul w y.1 (false, rHere w x y))
def rOut (w : Int) (x y : Rat2) : List Int := commonL w 6 (rTop w x y).2 (rTold w x y)
def rAdd (w : Int) (x y : Rat2) : Rat2 := (((rTop w x y).1, dvQ w (rTop w x y).2 (rOut w x y)), mulL w (rHere w x y) (dvQ w y.2 (rOut w x y)))
structure OkR (w : Int) (x y : Rat2) : Prop where
  c1 : okCommon w 6 x.2 y.2 = true
  d1 : okDv w x.2 (rTold w x y) = true
  d2 : okDv w y.2 (rTold w x y) = true
  m1 : okMul w x.1.2 (rThere w x y) = true
  m2 : okMul w y.1.2 (rHere w x y) = true
  sa : okSAdd w (sMul w x.1 (false, rThere w x y)) (sMul w y.1 (false, rHere w x y)) = true
  ne : ¬ ((rTop w x y).2.length : Int) = 0
  c2 : okCommon w 6 (rTop w x y).2 (rTold w x y) = true
  d3 : okDv w (rTop w x y).2 (rOut w x y) = true
  d4 : okDv w y.2 (rOut w x y) = true
  m3 : okMul w (rHere w x y) (dvQ w y.2 (rOut w x y)) = true
theorem and_of {a b : Bool} (h : (a && b) = true) : a = true ∧ b = true := by simpa using h
end
section
theorem len_ints {prog : Program} {w : World} {A : Around} {E : Value → Shared → Prop} {s : Shared} {l : Addr} {it : Array Value} {xs : List Int} {Q : Value → Shared → Prop}
    (hl : s.heap.IsList l it) (hi : IntsAre it.toList xs) (h8 : xs.length ≤ 8) (h : Q (.int (xs.length : Int) (s.toks + 1)) { s with toks := s.toks + 1 + 1 }) :
    wpAny (model prog w) A (call (.builtin "len") [.ref l]) Q E s := by
  have e : it.size = xs.length := by rw [← hi.length, Array.length_toList]
  exact len_list hl (by rw [e]; omega) (by rw [e]; exact h)
def limHi (n w : Int) : Prop := n.fdiv (2 ^ w.toNat) = 0
theorem limHi_no {n w : Int} (h : limHi n w) : decide (0 < n.fdiv (2 ^ w.toNat)) = false := by
  have e : n.fdiv (2 ^ w.toNat) = 0 := h
  rw [e]; rfl
def limbsL (w n : Int) : List Int := [n.fmod (2 ^ w.toNat)]
def worthL (w : Int) (a : List Int) : Int := match a with
  | [x] => 0 * 2 ^ w.toNat + x
  | _ => 0
def okWorth (w : Int) (a : List Int) : Bool := limW w && match a with
  | [] => true
  | [x] => lim x
  | _ => false
end
section
/-- enumerate over a list that stood before the call, turn by turn -/
theorem enumB {prog : Program} {w : World} {A : Around} {E : Value → Shared → Prop} {s : Shared} {env : Env} {h₀ : Heap} {elts : List Expr} {k : Nat} {pos : Pos} {body : List Stmt} {Q : Flow → Shared → Prop}
    {l : Addr} {vs : List Value} {m₀ : Str → Option Value} {news : List (Addr × Obj)}
    (hh : A.handled = none) (F : Fr h₀ env.locals s.heap m₀) (N : News h₀ env.locals s.heap news) (hl : h₀.IsList l vs.toArray)
    (rest₀ : ∀ I : Addr, (∀ p ∈ news, p.1 < I) → ItemsRest prog w A E h₀ env (.Tuple elts k pos) body Q s [(I + 1, "enumerate"), (I, "list_iterator")] [] (enumItems 0 vs) m₀ news) :
    wpAny (model prog w) A (call (.type "enumerate") [.ref l]) (fun xv s₁ => wpAny (model prog w) A (pyIter xv) (fun it s₂ => TurnsAt prog w A h₀ env (.Tuple elts k pos) body Q E it s₂) E s₁) E s := by
  have hls : s.heap.IsList l vs.toArray := hl.at fun o e => F.keep l o e
  obtain ⟨ol, hol, _⟩ := id hl
  have hlt : l < s.heap.objs.size := Heap.lt_size (F.keep l ol hol)
  have hLs : env.locals < s.heap.objs.size := F.ns.lt
  have hlL : env.locals ≠ l := fun e => absurd (Nat.lt_of_lt_of_le (Heap.lt_size hol) F.above) (e ▸ Nat.lt_irrefl _)
  refine call_enumerate_list hls fun h' hE hI hsz hk => ?_
  refine wpAny_pyIter_enum hE ?_
  generalize hX : enumItems 0 vs = xs at rest₀
  have hlen : xs.length = vs.length := by rw [← hX]; exact enumItems_length vs 0
  generalize hI0 : s.heap.objs.size = I at *
  have W := KTurns.ofWalksU (elts := elts) (k := k) (pos := pos) (WalksT.enumerate (prog := prog) (w := w) hh (I + 1) I l (Nat.succ_ne_self _) (ktu_ne 1 hlt) (Nat.ne_of_lt hlt) vs.toArray).toU
  refine ⟨I + 1, _, _, _, _, _, _, m₀, news, fun i m₁ n₁ => ItemsRest prog w A E h₀ env (.Tuple elts k pos) body Q s [(I + 1, "enumerate"), (I, "list_iterator")] [] (xs.drop i) m₁ n₁, rfl, W, ?_, ?_, ?_,
    ⟨⟨.none, hE⟩, hI, hls.at fun o e => hk l o e⟩, F.keeps hk, N.grown hk, by show ItemsRest _ _ _ _ _ _ _ _ _ _ _ _ (xs.drop 0) _ _; rw [List.drop_zero]; exact rest₀ _ fun p hp => hI0 ▸ Heap.lt_size (N p hp).1, ?_, ?_⟩
  · intro hI'
    have hb' : env.locals = I + 1 ∨ env.locals = I ∨ env.locals = l := by simpa using hI'
    rcases hb' with e | e | e
    · exact ktu_ne 1 hLs e
    · exact Nat.ne_of_lt hLs e
    · exact hlL e
  · intro b hb
    have hb' : b = I + 1 ∨ b = I := by simpa using hb
    rcases hb' with rfl | rfl
    · exact ktu_new F (hI0 ▸ Nat.le_add_right _ _)
    · exact ktu_new F (hI0 ▸ Nat.le_refl _)
  · intro p hp hI'
    have hb' : p.1 = I + 1 ∨ p.1 = I := by simpa using hI'
    have hlp := Heap.lt_size (N p hp).1
    rw [hI0] at hlp
    rcases hb' with e | e
    · exact ktu_ne 1 hlp e
    · exact Nat.ne_of_lt hlp e
  · intro i v m₁ news₁ h₁ tk₁ own hin hPi hJ hoff hown hget hall hst F₁ N₁
    obtain ⟨T, vals, rfl, ⟨t, x, hx, rfl⟩, hT⟩ := hPi
    obtain ⟨⟨old, he⟩, ⟨oi, hoi, hic, _⟩, _⟩ := hst
    obtain ⟨oe, h1, h2⟩ : ∃ oe : Obj, h₁.get? (I + 1) = some oe ∧ oe.cls = .type "enumerate" := ⟨_, he, rfl⟩
    have hx' : vs[i]? = some x := by simpa using hx
    have ha : xs[i]? = some (.pair (fun t => .int ((0 + i : Nat) : Int) t) x) := by rw [← hX]; exact enumItems_get vs 0 i hx'
    have hlt' : i < xs.length := (List.getElem?_eq_some_iff.mp ha).1
    have hdrop : xs.drop i = .pair (fun t => .int ((0 + i : Nat) : Int) t) x :: xs.drop (i + 1) := by
      rw [List.drop_eq_getElem_cons hlt']
      congr 1
      exact Option.some.inj ((List.getElem?_eq_getElem hlt').symm.trans ha)
    have hJ' : ItemsRest prog w A E h₀ env (.Tuple elts k pos) body Q s [(I + 1, "enumerate"), (I, "list_iterator")] [] (.pair (fun t => .int ((0 + i : Nat) : Int) t) x :: xs.drop (i + 1)) m₁ news₁ := by rw [← hdrop]; exact hJ
    have hav : Itm.Is (.pair (fun t => .int ((0 + i : Nat) : Int) t) x) (.ref T) h₁ := ⟨T, t, rfl, by
      show IsTup h₁ T #[.int ((0 + i : Nat) : Int) t, x]
      rw [Nat.zero_add]; exact hT⟩
    have n1 : h₀.get? (I + 1) = none := ktu_new F (hI0 ▸ Nat.le_add_right _ _)
    have n0 : h₀.get? I = none := ktu_new F (hI0 ▸ Nat.le_refl _)
    have m1 := hall (I + 1) (by simp) n1 oe h1
    have m0 := hall I (by simp) n0 oi hoi
    have N₂ : News h₀ env.locals h₁ ([(I + 1, oe), (I, oi)] ++ news₁) := fun p hp => by
      rcases List.mem_append.mp hp with hp | hp
      · rcases List.mem_cons.mp hp with rfl | hp
        · exact N₁ _ (List.mem_append_left _ m1)
        · rw [List.mem_singleton.mp hp]; exact N₁ _ (List.mem_append_left _ m0)
      · exact N₁ _ (List.mem_append_right _ hp)
    have hits : Objs [(I + 1, "enumerate"), (I, "list_iterator")] [(I + 1, oe), (I, oi)] := ⟨⟨rfl, h2⟩, ⟨rfl, hic⟩, trivial⟩
    have go := (hJ' (.ref T) h₁ tk₁ hav F₁).at hits N₂
    refine wpAny_mono go (fun _ s₂ g₂ => wpAny_mono g₂ (fun f s₃ p => ?_) fun _ _ e => e) fun _ _ e => e
    have fin : UnrEndW h₀ env.locals { s with heap := h₁, toks := tk₁ } [(I + 1, oe), (I, oi)] (fun m' n' => SubL [] n' ∧ ItemsRest prog w A E h₀ env (.Tuple elts k pos) body Q s [(I + 1, "enumerate"), (I, "list_iterator")] [] (xs.drop (i + 1)) m' n') s₃ →
        LoopStepU h₀ env.locals [I + 1, I] own (fun m' n' => ItemsRest prog w A E h₀ env (.Tuple elts k pos) body Q s [(I + 1, "enumerate"), (I, "list_iterator")] [] (xs.drop (i + 1)) m' n') { s with heap := h₁, toks := tk₁ } .next s₃ := by
      rintro ⟨h', tk, m', news', e, F', N', ho, _, r⟩
      refine ⟨rfl, h', tk, m', news', e, F', ?_, ?_, r⟩
      · rintro ⟨pa, po⟩ hp
        rcases List.mem_append.mp hp with hp | hp
        · have g1 : h₁.get? pa = some po := hget _ hp
          have g2 : pa = I + 1 ∨ pa = I ∨ pa = l := by have := hown _ hp; simpa using this
          rcases g2 with rfl | rfl | rfl
          · have : oe = po := Option.some.inj (h1.symm.trans g1)
            subst this
            exact N' _ (List.mem_append_left _ (.head _))
          · have : oi = po := Option.some.inj (hoi.symm.trans g1)
            subst this
            exact N' _ (List.mem_append_left _ (.tail _ (.head _)))
          · have g3 := (N₁ _ (List.mem_append_left _ hp)).2.2
            have g4 : h₀.get? pa = none := g3
            rw [hol] at g4; cases g4
        · exact N' _ (List.mem_append_right _ hp)
      · intro p hp hI
        have hb' : p.1 = I + 1 ∨ p.1 = I := by simpa using hI
        rcases hb' with e | e
        · exact ho p hp _ (.head _) e
        · exact ho p hp _ (.tail _ (.head _)) e
    cases f with
    | ret v => exact .ret p
    | brk => exact .brk p
    | next => exact .next (fin p)
    | cont => exact .cont (fin p)
  · intro h' tk m' news' F' N' _ hJ
    have z : xs.drop vs.toArray.size = [] := List.drop_eq_nil_of_le (by simp [hlen])
    have hJ' : ItemsRest prog w A E h₀ env (.Tuple elts k pos) body Q s [(I + 1, "enumerate"), (I, "list_iterator")] [] (xs.drop vs.toArray.size) m' news' := hJ
    rw [z] at hJ'
    exact hJ' h' tk F' N'
end
section
set_option maxHeartbeats 4000000 in
theorem normal_us {w : World} {s : Shared} {la : Addr} {us : List Value} {xs : List Int} (hl : s.heap.IsList la us.toArray) (hi : IntsAre us xs) (hlen : xs.length ≤ 8) :
    Call w 900 58 [.ref la] s (fun r h' => PList s.heap (normL xs) r h') := by
  unfold Call
  k_fill
  intro A A₀ base h₀ outer cn cs a ccd cl L m p loose mean mg mb Q E B F X T hA hk hn hd hu hret
  refine wider hn hA hd hu ?_
  generalize A.guards = gds
  refine' enter (binds := [(Str.ofString "a", .ref la)]) B F X T rfl hk ?k6 ?k7 ?k8 ?k9 ?kB ?_ ?c2 ?c3 ?c4 ?c5
  (case k6 => k_dflt k_is)
  (case k7 => k_dflt k_is)
  (case k8 => exact Nat.le_of_ble_eq_true rfl)
  (case k9 => exact BindsTo.of_eq rfl)
  (case c5 => decide)
  (case kB => exact locs rfl)
  (case c2 => exact rfl)
  (case c3 => exact rfl)
  (case c4 => exact rfl)
  clear B F X T hA hk hn hd hu
  intro L' h' F' N' B' X' T'
  (try dsimp only)
  (try k_fold)
  k_steps
  all_goals (
    rename Fr _ _ _ _ => F9
    rename News _ _ _ _ => N9
    (try dsimp only)
    k_dflt (refine' hret _ _ _ ?e1 ⟨_, _, _, rfl, ?e2, ?e3, ?e4⟩)
    (case e1 => exact F9.keep)
    (case e2 => exact News.fresh N9 (by k_mem))
    (case e3 => exact News.get N9 (by k_mem))
    (case e4 => exact ints_eq (by assumption) (norm_walk (by assumption) (by assumption) (by assumption) (by assumption))))

theorem normal_spec {w : World} {s : Shared} {la : Addr} {it : Array Value} {xs : List Int} (hl : s.heap.IsList la it) (hi : IntsAre it.toList xs) (hlen : xs.length ≤ 8) :
    Call w 900 58 [.ref la] s (fun r h' => PList s.heap (normL xs) r h') := normal_us (us := it.toList) hl hi hlen
end
section
set_option maxHeartbeats 4000000 in
theorem cmp11 {w : World} {s : Shared} {la : Addr} {x : Int} {tx : Tok} (hla : s.heap.IsList la [Value.int x tx].toArray) (hia : IntsAre [Value.int x tx] [x]) {lb : Addr} {y : Int} {ty : Tok} (hlb : s.heap.IsList lb [Value.int y ty].toArray) (hib : IntsAre [Value.int y ty] [y])  :
    Call w 900 65 [.ref la, .ref lb] s (fun r h' => PInt (cmpL [x] [y]) r h') := by
  unfold Call
  k_fill
  intro A A₀ base h₀ outer cn cs a ccd cl L m p loose mean mg mb Q E B F X T hA hk hn hd hu hret
  refine wider hn hA hd hu ?_
  generalize A.guards = gds
  refine' enter (binds := [(Str.ofString "a", .ref la), (Str.ofString "b", .ref lb)]) B F X T rfl hk ?k6 ?k7 ?k8 ?k9 ?kB ?_ ?c2 ?c3 ?c4 ?c5
  (case k6 => k_dflt k_is)
  (case k7 => k_dflt k_is)
  (case k8 => exact Nat.le_of_ble_eq_true rfl)
  (case k9 => exact BindsTo.of_eq rfl)
  (case c5 => decide)
  (case kB => exact locs rfl)
  (case c2 => exact rfl)
  (case c3 => exact rfl)
  (case c4 => exact rfl)
  clear B F X T hA hk hn hd hu
  intro L' h' F' N' B' X' T'
  (try dsimp only)
  (try k_fold)
  k_steps
  all_goals (
    rename Fr _ _ _ _ => F9
    rename News _ _ _ _ => N9
    (try dsimp only)
    first
      | (k_dflt (refine' hret _ _ _ ?e1 (pint_of ?e2)); (case e1 => exact F9.keep); (case e2 => exact cmpR_lt (by assumption) (by assumption)))
      | (k_dflt (refine' hret _ _ _ ?e1 (pint_of ?e2)); (case e1 => exact F9.keep); (case e2 => exact cmpR_gt (by assumption) (by assumption)))
      | (k_dflt (refine' hret _ _ _ ?e1 (pint_of ?e2)); (case e1 => exact F9.keep); (case e2 => exact cmpR_eq (by assumption) rfl))
      | (exfalso; omega))

set_option maxHeartbeats 4000000 in
theorem cmp21 {w : World} {s : Shared} {la : Addr} {x : Int} {tx : Tok} {x2 : Int} {tx2 : Tok} (hla : s.heap.IsList la [Value.int x tx, Value.int x2 tx2].toArray) (hia : IntsAre [Value.int x tx, Value.int x2 tx2] [x, x2]) {lb : Addr} {y : Int} {ty : Tok} (hlb : s.heap.IsList lb [Value.int y ty].toArray) (hib : IntsAre [Value.int y ty] [y])  :
    Call w 900 65 [.ref la, .ref lb] s (fun r h' => PInt (cmpL [x, x2] [y]) r h') := by
  unfold Call
  k_fill
  intro A A₀ base h₀ outer cn cs a ccd cl L m p loose mean mg mb Q E B F X T hA hk hn hd hu hret
  refine wider hn hA hd hu ?_
  generalize A.guards = gds
  refine' enter (binds := [(Str.ofString "a", .ref la), (Str.ofString "b", .ref lb)]) B F X T rfl hk ?k6 ?k7 ?k8 ?k9 ?kB ?_ ?c2 ?c3 ?c4 ?c5
  (case k6 => k_dflt k_is)
  (case k7 => k_dflt k_is)
  (case k8 => exact Nat.le_of_ble_eq_true rfl)
  (case k9 => exact BindsTo.of_eq rfl)
  (case c5 => decide)
  (case kB => exact locs rfl)
  (case c2 => exact rfl)
  (case c3 => exact rfl)
  (case c4 => exact rfl)
  clear B F X T hA hk hn hd hu
  intro L' h' F' N' B' X' T'
  (try dsimp only)
  (try k_fold)
  k_steps
  all_goals (
    rename Fr _ _ _ _ => F9
    rename News _ _ _ _ => N9
    (try dsimp only)
    first
      | (k_dflt (refine' hret _ _ _ ?e1 (pint_of ?e2)); (case e1 => exact F9.keep); (case e2 => rfl))
      | (exfalso; omega))

set_option maxHeartbeats 4000000 in
theorem cmp22 {w : World} {s : Shared} {la : Addr} {x : Int} {tx : Tok} {x2 : Int} {tx2 : Tok} (hla : s.heap.IsList la [Value.int x tx, Value.int x2 tx2].toArray) (hia : IntsAre [Value.int x tx, Value.int x2 tx2] [x, x2]) {lb : Addr} {y : Int} {ty : Tok} {y2 : Int} {ty2 : Tok} (hlb : s.heap.IsList lb [Value.int y ty, Value.int y2 ty2].toArray) (hib : IntsAre [Value.int y ty, Value.int y2 ty2] [y, y2])  :
    Call w 900 65 [.ref la, .ref lb] s (fun r h' => PInt (cmpL [x, x2] [y, y2]) r h') := by
  unfold Call
  k_fill
  intro A A₀ base h₀ outer cn cs a ccd cl L m p loose mean mg mb Q E B F X T hA hk hn hd hu hret
  refine wider hn hA hd hu ?_
  generalize A.guards = gds
  refine' enter (binds := [(Str.ofString "a", .ref la), (Str.ofString "b", .ref lb)]) B F X T rfl hk ?k6 ?k7 ?k8 ?k9 ?kB ?_ ?c2 ?c3 ?c4 ?c5
  (case k6 => k_dflt k_is)
  (case k7 => k_dflt k_is)
  (case k8 => exact Nat.le_of_ble_eq_true rfl)
  (case k9 => exact BindsTo.of_eq rfl)
  (case c5 => decide)
  (case kB => exact locs rfl)
  (case c2 => exact rfl)
  (case c3 => exact rfl)
  (case c4 => exact rfl)
  clear B F X T hA hk hn hd hu
  intro L' h' F' N' B' X' T'
  (try dsimp only)
  (try k_fold)
  k_steps
  all_goals (
    rename Fr _ _ _ _ => F9
    rename News _ _ _ _ => N9
    (try dsimp only)
    first
      | (k_dflt (refine' hret _ _ _ ?e1 (pint_of ?e2)); (case e1 => exact F9.keep); (case e2 => exact cmpR_lt (by assumption) (by assumption)))
      | (k_dflt (refine' hret _ _ _ ?e1 (pint_of ?e2)); (case e1 => exact F9.keep); (case e2 => exact cmpR_gt (by assumption) (by assumption)))
      | (k_dflt (refine' hret _ _ _ ?e1 (pint_of ?e2)); (case e1 => exact F9.keep); (case e2 => exact cmpR_eq (by assumption) (cmpR_lt (by assumption) (by assumption))))
      | (k_dflt (refine' hret _ _ _ ?e1 (pint_of ?e2)); (case e1 => exact F9.keep); (case e2 => exact cmpR_eq (by assumption) (cmpR_gt (by assumption) (by assumption))))
      | (k_dflt (refine' hret _ _ _ ?e1 (pint_of ?e2)); (case e1 => exact F9.keep); (case e2 => exact cmpR_eq (by assumption) (cmpR_eq (by assumption) rfl)))
      | (exfalso; omega))

theorem compare_spec {w : World} {s : Shared} {la lb : Addr} {it it2 : Array Value} {xs ys : List Int} (hl : s.heap.IsList la it) (hi : IntsAre it.toList xs) (hl2 : s.heap.IsList lb it2) (hi2 : IntsAre it2.toList ys) (ok : okCmp xs ys = true) :
    Call w 900 65 [.ref la, .ref lb] s (fun r h' => PInt (cmpL xs ys) r h') := by
  match xs, ys, ok with
  | [x], [y], _ =>
    obtain ⟨t, rfl⟩ := arr1 hi
    obtain ⟨u, rfl⟩ := arr1 hi2
    exact cmp11 hl hi hl2 hi2
  | [x, x2], [y], _ =>
    obtain ⟨t, t2, rfl⟩ := arr2 hi
    obtain ⟨u, rfl⟩ := arr1 hi2
    exact cmp21 hl hi hl2 hi2
  | [x, x2], [y, y2], _ =>
    obtain ⟨t, t2, rfl⟩ := arr2 hi
    obtain ⟨u, u2, rfl⟩ := arr2 hi2
    exact cmp22 hl hi hl2 hi2
end
section
local macro_rules | `(tactic| walk_at "call ref") => `(tactic| (k_here; (with_reducible show wpAny _ _ (call (Value.ref 58) _) _ _ _); k_dflt (refine' use_list (normal_spec ?a0 ?a1 ?a2) ?B ?F ?X ?N ?T ?fr ?k ?hn ?d ?u ?_; (case B => k_asm); (case F => k_asm); (case X => k_asm); (case N => k_asm); (case T => k_asm); (case fr => exact rfl); (case k => exact rfl); (case hn => exact rfl); (case d => exact Nat.le_of_ble_eq_true rfl); (case u => exact Nat.le_of_ble_eq_true rfl); (case a0 => is_list); (case a1 => first | assumption | exact IntsAre.nil | exact IntsAre.cons _ _ IntsAre.nil | exact IntsAre.cons _ _ (IntsAre.cons _ _ IntsAre.nil)); (case a2 => (simp; done)); k_whole); intro l' us' n' h' tk' F' N' i' ne'; (try k_sweep); (try dsimp only); (try k_fold)))
local macro_rules | `(tactic| walk_at "call ref") => `(tactic| (k_here; (with_reducible show wpAny _ _ (call (Value.ref 65) _) _ _ _); k_dflt (refine' use_int (compare_spec ?a0 ?a1 ?a2 ?a3 ?a4) ?B ?F ?X ?N ?T ?fr ?k ?hn ?d ?u ?_; (case B => k_asm); (case F => k_asm); (case X => k_asm); (case N => k_asm); (case T => k_asm); (case fr => exact rfl); (case k => exact rfl); (case hn => exact rfl); (case d => exact Nat.le_of_ble_eq_true rfl); (case u => exact Nat.le_of_ble_eq_true rfl); (case a0 => is_list); (case a1 => first | assumption | exact IntsAre.nil | exact IntsAre.cons _ _ IntsAre.nil | exact IntsAre.cons _ _ (IntsAre.cons _ _ IntsAre.nil)); (case a2 => is_list); (case a3 => first | assumption | exact IntsAre.nil | exact IntsAre.cons _ _ IntsAre.nil | exact IntsAre.cons _ _ (IntsAre.cons _ _ IntsAre.nil)); (case a4 => rfl); k_whole); intro t' h' tk' F' N'; (try k_sweep); (try dsimp only); (try k_fold)))
set_option maxHeartbeats 4000000 in
theorem sub11 {w : World} {s : Shared} {la : Addr} {x : Int} {tx : Tok} (x_0 : 0 ≤ x) (x_1 : x < 256) (hla : s.heap.IsList la [Value.int x tx].toArray) (hia : IntsAre [Value.int x tx] [x]) {lb : Addr} {y : Int} {ty : Tok} (y_0 : 0 ≤ y) (y_1 : y < 256) (hlb : s.heap.IsList lb [Value.int y ty].toArray) (hib : IntsAre [Value.int y ty] [y]) {w' : Int} {tw : Tok} (hw : 3 ≤ w') (hw2 : w' ≤ 8) (ok : 0 ≤ cmpL [x] [y])  :
    Call w 890 79 [.ref la, .ref lb, Value.int w' tw] s (fun r h' => PList s.heap (subL w' [x] [y]) r h') := by
  unfold Call
  k_fill
  intro A A₀ base h₀ outer cn cs a ccd cl L m p loose mean mg mb Q E B F X T hA hk hn hd hu hret
  refine wider hn hA hd hu ?_
  generalize A.guards = gds
  refine' enter (binds := [(Str.ofString "a", .ref la), (Str.ofString "b", .ref lb), (Str.ofString "w", Value.int w' tw)]) B F X T rfl hk ?k6 ?k7 ?k8 ?k9 ?kB ?_ ?c2 ?c3 ?c4 ?c5
  (case k6 => k_dflt k_is)
  (case k7 => k_dflt k_is)
  (case k8 => exact Nat.le_of_ble_eq_true rfl)
  (case k9 => exact BindsTo.of_eq rfl)
  (case c5 => decide)
  (case kB => exact locs rfl)
  (case c2 => exact rfl)
  (case c3 => exact rfl)
  (case c4 => exact rfl)
  clear B F X T hA hk hn hd hu
  intro L' h' F' N' B' X' T'
  (try dsimp only)
  (try k_fold)
  k_steps
  all_goals (
    rename Fr _ _ _ _ => F9
    rename News _ _ _ _ => N9
    (try dsimp only)
    first
      | (k_dflt (refine' hret _ _ _ ?e1 ⟨_, _, _, rfl, ?e2, ?e3, ?e4⟩); (case e1 => exact F9.keep); (case e2 => exact News.fresh N9 (by k_mem)); (case e3 => exact News.get N9 (by k_mem)); (case e4 => exact ints_eq (by assumption) (sub1_lt (by assumption))))
      | (k_dflt (refine' hret _ _ _ ?e1 ⟨_, _, _, rfl, ?e2, ?e3, ?e4⟩); (case e1 => exact F9.keep); (case e2 => exact News.fresh N9 (by k_mem)); (case e3 => exact News.get N9 (by k_mem)); (case e4 => exact ints_eq (by assumption) (sub1_ge (by assumption))))
      | (exfalso; omega))

set_option maxHeartbeats 4000000 in
theorem sub21 {w : World} {s : Shared} {la : Addr} {x : Int} {tx : Tok} (x_0 : 0 ≤ x) (x_1 : x < 256) {x2 : Int} {tx2 : Tok} (x2_0 : 0 ≤ x2) (x2_1 : x2 < 256) (hla : s.heap.IsList la [Value.int x tx, Value.int x2 tx2].toArray) (hia : IntsAre [Value.int x tx, Value.int x2 tx2] [x, x2]) {lb : Addr} {y : Int} {ty : Tok} (y_0 : 0 ≤ y) (y_1 : y < 256) (hlb : s.heap.IsList lb [Value.int y ty].toArray) (hib : IntsAre [Value.int y ty] [y]) {w' : Int} {tw : Tok} (hw : 3 ≤ w') (hw2 : w' ≤ 8) (ok : 0 ≤ cmpL [x, x2] [y])  :
    Call w 890 79 [.ref la, .ref lb, Value.int w' tw] s (fun r h' => PList s.heap (subL w' [x, x2] [y]) r h') := by
  unfold Call
  k_fill
  intro A A₀ base h₀ outer cn cs a ccd cl L m p loose mean mg mb Q E B F X T hA hk hn hd hu hret
  refine wider hn hA hd hu ?_
  generalize A.guards = gds
  refine' enter (binds := [(Str.ofString "a", .ref la), (Str.ofString "b", .ref lb), (Str.ofString "w", Value.int w' tw)]) B F X T rfl hk ?k6 ?k7 ?k8 ?k9 ?kB ?_ ?c2 ?c3 ?c4 ?c5
  (case k6 => k_dflt k_is)
  (case k7 => k_dflt k_is)
  (case k8 => exact Nat.le_of_ble_eq_true rfl)
  (case k9 => exact BindsTo.of_eq rfl)
  (case c5 => decide)
  (case kB => exact locs rfl)
  (case c2 => exact rfl)
  (case c3 => exact rfl)
  (case c4 => exact rfl)
  clear B F X T hA hk hn hd hu
  intro L' h' F' N' B' X' T'
  (try dsimp only)
  (try k_fold)
  k_steps
  all_goals (
    rename Fr _ _ _ _ => F9
    rename News _ _ _ _ => N9
    (try dsimp only)
    first
      | (k_dflt (refine' hret _ _ _ ?e1 ⟨_, _, _, rfl, ?e2, ?e3, ?e4⟩); (case e1 => exact F9.keep); (case e2 => exact News.fresh N9 (by k_mem)); (case e3 => exact News.get N9 (by k_mem)); (case e4 => exact ints_eq (by assumption) (sub2_ll (by assumption) (by assumption))))
      | (k_dflt (refine' hret _ _ _ ?e1 ⟨_, _, _, rfl, ?e2, ?e3, ?e4⟩); (case e1 => exact F9.keep); (case e2 => exact News.fresh N9 (by k_mem)); (case e3 => exact News.get N9 (by k_mem)); (case e4 => exact ints_eq (by assumption) (sub2_lg (by assumption) (by assumption))))
      | (k_dflt (refine' hret _ _ _ ?e1 ⟨_, _, _, rfl, ?e2, ?e3, ?e4⟩); (case e1 => exact F9.keep); (case e2 => exact News.fresh N9 (by k_mem)); (case e3 => exact News.get N9 (by k_mem)); (case e4 => exact ints_eq (by assumption) (sub2_gl (by assumption) (by assumption))))
      | (k_dflt (refine' hret _ _ _ ?e1 ⟨_, _, _, rfl, ?e2, ?e3, ?e4⟩); (case e1 => exact F9.keep); (case e2 => exact News.fresh N9 (by k_mem)); (case e3 => exact News.get N9 (by k_mem)); (case e4 => exact ints_eq (by assumption) (sub2_gg (by assumption) (by assumption))))
      | (exfalso; omega))

set_option maxHeartbeats 4000000 in
theorem sub22 {w : World} {s : Shared} {la : Addr} {x : Int} {tx : Tok} (x_0 : 0 ≤ x) (x_1 : x < 256) {x2 : Int} {tx2 : Tok} (x2_0 : 0 ≤ x2) (x2_1 : x2 < 256) (hla : s.heap.IsList la [Value.int x tx, Value.int x2 tx2].toArray) (hia : IntsAre [Value.int x tx, Value.int x2 tx2] [x, x2]) {lb : Addr} {y : Int} {ty : Tok} (y_0 : 0 ≤ y) (y_1 : y < 256) {y2 : Int} {ty2 : Tok} (y2_0 : 0 ≤ y2) (y2_1 : y2 < 256) (hlb : s.heap.IsList lb [Value.int y ty, Value.int y2 ty2].toArray) (hib : IntsAre [Value.int y ty, Value.int y2 ty2] [y, y2]) {w' : Int} {tw : Tok} (hw : 3 ≤ w') (hw2 : w' ≤ 8) (ok : 0 ≤ cmpL [x, x2] [y, y2])  :
    Call w 890 79 [.ref la, .ref lb, Value.int w' tw] s (fun r h' => PList s.heap (subL w' [x, x2] [y, y2]) r h') := by
  unfold Call
  k_fill
  intro A A₀ base h₀ outer cn cs a ccd cl L m p loose mean mg mb Q E B F X T hA hk hn hd hu hret
  refine wider hn hA hd hu ?_
  generalize A.guards = gds
  refine' enter (binds := [(Str.ofString "a", .ref la), (Str.ofString "b", .ref lb), (Str.ofString "w", Value.int w' tw)]) B F X T rfl hk ?k6 ?k7 ?k8 ?k9 ?kB ?_ ?c2 ?c3 ?c4 ?c5
  (case k6 => k_dflt k_is)
  (case k7 => k_dflt k_is)
  (case k8 => exact Nat.le_of_ble_eq_true rfl)
  (case k9 => exact BindsTo.of_eq rfl)
  (case c5 => decide)
  (case kB => exact locs rfl)
  (case c2 => exact rfl)
  (case c3 => exact rfl)
  (case c4 => exact rfl)
  clear B F X T hA hk hn hd hu
  intro L' h' F' N' B' X' T'
  (try dsimp only)
  (try k_fold)
  k_steps
  all_goals (
    rename Fr _ _ _ _ => F9
    rename News _ _ _ _ => N9
    (try dsimp only)
    first
      | (k_dflt (refine' hret _ _ _ ?e1 ⟨_, _, _, rfl, ?e2, ?e3, ?e4⟩); (case e1 => exact F9.keep); (case e2 => exact News.fresh N9 (by k_mem)); (case e3 => exact News.get N9 (by k_mem)); (case e4 => exact ints_eq (by assumption) (sub2_ll (by assumption) (by assumption))))
      | (k_dflt (refine' hret _ _ _ ?e1 ⟨_, _, _, rfl, ?e2, ?e3, ?e4⟩); (case e1 => exact F9.keep); (case e2 => exact News.fresh N9 (by k_mem)); (case e3 => exact News.get N9 (by k_mem)); (case e4 => exact ints_eq (by assumption) (sub2_lg (by assumption) (by assumption))))
      | (k_dflt (refine' hret _ _ _ ?e1 ⟨_, _, _, rfl, ?e2, ?e3, ?e4⟩); (case e1 => exact F9.keep); (case e2 => exact News.fresh N9 (by k_mem)); (case e3 => exact News.get N9 (by k_mem)); (case e4 => exact ints_eq (by assumption) (sub2_gl (by assumption) (by assumption))))
      | (k_dflt (refine' hret _ _ _ ?e1 ⟨_, _, _, rfl, ?e2, ?e3, ?e4⟩); (case e1 => exact F9.keep); (case e2 => exact News.fresh N9 (by k_mem)); (case e3 => exact News.get N9 (by k_mem)); (case e4 => exact ints_eq (by assumption) (sub2_gg (by assumption) (by assumption))))
      | (exfalso; omega))

theorem sub_spec {w : World} {s : Shared} {la : Addr} {ita : Array Value} {xsa : List Int} (hla : s.heap.IsList la ita) (hia : IntsAre ita.toList xsa) {lb : Addr} {itb : Array Value} {xsb : List Int} (hlb : s.heap.IsList lb itb) (hib : IntsAre itb.toList xsb) {w' : Int} {tw : Tok} (ok : okSub w' xsa xsb = true) :
    Call w 890 79 [.ref la, .ref lb, Value.int w' tw] s (fun r h' => PList s.heap (subL w' xsa xsb) r h') := by
  obtain ⟨ok, o1⟩ := and_of ok
  obtain ⟨hw, oc⟩ := and_of ok
  have oc := of_decide_eq_true oc
  match xsa, xsb, o1 with
  | [x], [y], o1 =>
    obtain ⟨t, rfl⟩ := arr1 hia
    obtain ⟨u, rfl⟩ := arr1 hib
    obtain ⟨o1, o2⟩ := and_of o1
    exact sub11 (lim_lo o1) (lim_hi o1) hla hia (lim_lo o2) (lim_hi o2) hlb hib (limW_lo hw) (limW_hi hw) oc
  | [x, x2], [y], o1 =>
    obtain ⟨t, t2, rfl⟩ := arr2 hia
    obtain ⟨u, rfl⟩ := arr1 hib
    obtain ⟨o1, o2⟩ := and_of o1
    obtain ⟨o1, o3⟩ := and_of o1
    exact sub21 (lim_lo o1) (lim_hi o1) (lim_lo o3) (lim_hi o3) hla hia (lim_lo o2) (lim_hi o2) hlb hib (limW_lo hw) (limW_hi hw) oc
  | [x, x2], [y, y2], o1 =>
    obtain ⟨t, t2, rfl⟩ := arr2 hia
    obtain ⟨u, u2, rfl⟩ := arr2 hib
    obtain ⟨o1, o2⟩ := and_of o1
    obtain ⟨o1, o3⟩ := and_of o1
    obtain ⟨o2, o4⟩ := and_of o2
    exact sub22 (lim_lo o1) (lim_hi o1) (lim_lo o3) (lim_hi o3) hla hia (lim_lo o2) (lim_hi o2) (lim_lo o4) (lim_hi o4) hlb hib (limW_lo hw) (limW_hi hw) oc
end
section
local macro_rules | `(tactic| walk_at "call ref") => `(tactic| (k_here; (with_reducible show wpAny _ _ (call (Value.ref 58) _) _ _ _); k_dflt (refine' use_list (normal_spec ?a0 ?a1 ?a2) ?B ?F ?X ?N ?T ?fr ?k ?hn ?d ?u ?_; (case B => k_asm); (case F => k_asm); (case X => k_asm); (case N => k_asm); (case T => k_asm); (case fr => exact rfl); (case k => exact rfl); (case hn => exact rfl); (case d => exact Nat.le_of_ble_eq_true rfl); (case u => exact Nat.le_of_ble_eq_true rfl); (case a0 => is_list); (case a1 => first | assumption | exact IntsAre.nil | exact IntsAre.cons _ _ IntsAre.nil | exact IntsAre.cons _ _ (IntsAre.cons _ _ IntsAre.nil)); (case a2 => (simp; done)); k_whole); intro l' us' n' h' tk' F' N' i' ne'; (try k_sweep); (try dsimp only); (try k_fold)))
set_option maxHeartbeats 4000000 in
theorem dl1 {w : World} {s : Shared} {la : Addr} {x : Int} {tx : Tok} (x_0 : 0 ≤ x) (x_1 : x < 256) (hla : s.heap.IsList la [Value.int x tx].toArray) (hia : IntsAre [Value.int x tx] [x]) {d : Int} {td : Tok} (hd0 : 0 < d) (hd1 : d < 256) (hd2 : d ≠ 0) {w' : Int} {tw : Tok} (hw : 3 ≤ w') (hw2 : w' ≤ 8)  :
    Call w 890 93 [.ref la, Value.int d td, Value.int w' tw] s (fun r h' => PLI s.heap (dlQ w' d [x]) (dlR w' d [x]) r h') := by
  unfold Call
  k_fill
  intro A A₀ base h₀ outer cn cs a ccd cl L m p loose mean mg mb Q E B F X T hA hk hn hd hu hret
  refine wider hn hA hd hu ?_
  generalize A.guards = gds
  refine' enter (binds := [(Str.ofString "a", .ref la), (Str.ofString "limb", Value.int d td), (Str.ofString "w", Value.int w' tw)]) B F X T rfl hk ?k6 ?k7 ?k8 ?k9 ?kB ?_ ?c2 ?c3 ?c4 ?c5
  (case k6 => k_dflt k_is)
  (case k7 => k_dflt k_is)
  (case k8 => exact Nat.le_of_ble_eq_true rfl)
  (case k9 => exact BindsTo.of_eq rfl)
  (case c5 => decide)
  (case kB => exact locs rfl)
  (case c2 => exact rfl)
  (case c3 => exact rfl)
  (case c4 => exact rfl)
  clear B F X T hA hk hn hd hu
  intro L' h' F' N' B' X' T'
  (try dsimp only)
  (try k_fold)
  k_steps
  all_goals (
    rename Fr _ _ _ _ => F9
    rename News _ _ _ _ => N9
    (try dsimp only)
    first
      | (k_dflt (refine' hret _ _ _ ?e1 ⟨_, _, _, _, _, _, rfl, ?e2, ?e3, ?e4, ?e5, ?e6⟩); (case e1 => exact F9.keep); (case e2 => exact News.fresh N9 (by k_mem)); (case e3 => exact News.get N9 (by k_mem)); (case e4 => exact News.fresh N9 (by k_mem)); (case e5 => exact News.get N9 (by k_mem)); (case e6 => exact ints_eq (by assumption) rfl))
      | (exfalso; omega))

set_option maxHeartbeats 4000000 in
theorem dl2 {w : World} {s : Shared} {la : Addr} {x : Int} {tx : Tok} (x_0 : 0 ≤ x) (x_1 : x < 256) {x2 : Int} {tx2 : Tok} (x2_0 : 0 ≤ x2) (x2_1 : x2 < 256) (hla : s.heap.IsList la [Value.int x tx, Value.int x2 tx2].toArray) (hia : IntsAre [Value.int x tx, Value.int x2 tx2] [x, x2]) {d : Int} {td : Tok} (hd0 : 0 < d) (hd1 : d < 256) (hd2 : d ≠ 0) {w' : Int} {tw : Tok} (hw : 3 ≤ w') (hw2 : w' ≤ 8)  :
    Call w 890 93 [.ref la, Value.int d td, Value.int w' tw] s (fun r h' => PLI s.heap (dlQ w' d [x, x2]) (dlR w' d [x, x2]) r h') := by
  unfold Call
  k_fill
  intro A A₀ base h₀ outer cn cs a ccd cl L m p loose mean mg mb Q E B F X T hA hk hn hd hu hret
  refine wider hn hA hd hu ?_
  generalize A.guards = gds
  refine' enter (binds := [(Str.ofString "a", .ref la), (Str.ofString "limb", Value.int d td), (Str.ofString "w", Value.int w' tw)]) B F X T rfl hk ?k6 ?k7 ?k8 ?k9 ?kB ?_ ?c2 ?c3 ?c4 ?c5
  (case k6 => k_dflt k_is)
  (case k7 => k_dflt k_is)
  (case k8 => exact Nat.le_of_ble_eq_true rfl)
  (case k9 => exact BindsTo.of_eq rfl)
  (case c5 => decide)
  (case kB => exact locs rfl)
  (case c2 => exact rfl)
  (case c3 => exact rfl)
  (case c4 => exact rfl)
  clear B F X T hA hk hn hd hu
  intro L' h' F' N' B' X' T'
  (try dsimp only)
  (try k_fold)
  k_steps
  all_goals (
    rename Fr _ _ _ _ => F9
    rename News _ _ _ _ => N9
    (try dsimp only)
    first
      | (k_dflt (refine' hret _ _ _ ?e1 ⟨_, _, _, _, _, _, rfl, ?e2, ?e3, ?e4, ?e5, ?e6⟩); (case e1 => exact F9.keep); (case e2 => exact News.fresh N9 (by k_mem)); (case e3 => exact News.get N9 (by k_mem)); (case e4 => exact News.fresh N9 (by k_mem)); (case e5 => exact News.get N9 (by k_mem)); (case e6 => exact ints_eq (by assumption) rfl))
      | (exfalso; omega))

theorem dl_spec {w : World} {s : Shared} {la : Addr} {ita : Array Value} {xsa : List Int} (hla : s.heap.IsList la ita) (hia : IntsAre ita.toList xsa) {d : Int} {td : Tok} {w' : Int} {tw : Tok} (ok : okDl w' d xsa = true) :
    Call w 890 93 [.ref la, Value.int d td, Value.int w' tw] s (fun r h' => PLI s.heap (dlQ w' d xsa) (dlR w' d xsa) r h') := by
  obtain ⟨ok, o3⟩ := and_of ok
  obtain ⟨ok, o2⟩ := and_of ok
  obtain ⟨hw, o1⟩ := and_of ok
  have o2 := of_decide_eq_true o2
  match xsa, o3 with
  | [x], o3 =>
    obtain ⟨t, rfl⟩ := arr1 hia
    exact dl1 (lim_lo o3) (lim_hi o3) hla hia o2 (lim_hi o1) (by omega) (limW_lo hw) (limW_hi hw)
  | [x, x2], o3 =>
    obtain ⟨t, u, rfl⟩ := arr2 hia
    obtain ⟨o4, o5⟩ := and_of o3
    exact dl2 (lim_lo o4) (lim_hi o4) (lim_lo o5) (lim_hi o5) hla hia o2 (lim_hi o1) (by omega) (limW_lo hw) (limW_hi hw)
end
section
local macro_rules | `(tactic| walk_at "exec For Tuple Call cons nil") => `(tactic| (k_here; (rename Fr _ _ _ _ => lF'); (with_unfolding_all refine' For_turns lF' ?_; k_whole)))
local macro_rules | `(tactic| walk_at "call type:enumerate") => `(tactic| (k_here; (with_reducible show wpAny _ _ (call (Value.type _) [Value.ref _]) (fun xv s₁ => wpAny _ _ (pyIter xv) (fun it s₂ => TurnsAt _ _ _ _ _ _ _ _ _ it s₂) _ s₁) _ _); (rename Fr _ _ _ _ => lF'); (rename News _ _ _ _ => lN'); (with_unfolding_all refine enumB (by rfl) lF' lN' (by assumption) ?_); clear lF' lN'; intro i' l1; (try k_lt l1)))
local macro_rules | `(tactic| walk_at "call ref") => `(tactic| (k_here; (with_reducible show wpAny _ _ (call (Value.ref 58) _) _ _ _); k_dflt (refine' use_list (normal_spec ?a0 ?a1 ?a2) ?B ?F ?X ?N ?T ?fr ?k ?hn ?d ?u ?_; (case B => k_asm); (case F => k_asm); (case X => k_asm); (case N => k_asm); (case T => k_asm); (case fr => exact rfl); (case k => exact rfl); (case hn => exact rfl); (case d => exact Nat.le_of_ble_eq_true rfl); (case u => exact Nat.le_of_ble_eq_true rfl); (case a0 => is_list); (case a1 => first | assumption | exact IntsAre.nil | exact IntsAre.cons _ _ IntsAre.nil | exact IntsAre.cons _ _ (IntsAre.cons _ _ IntsAre.nil)); (case a2 => (simp; done)); k_whole); intro l' us' n' h' tk' F' N' i' ne'; (try k_sweep); (try dsimp only); (try k_fold)))
set_option maxHeartbeats 4000000 in
theorem mul11 {w : World} {s : Shared} {la : Addr} {x : Int} {tx : Tok} (x_0 : 0 ≤ x) (x_1 : x < 256) (hla : s.heap.IsList la [Value.int x tx].toArray) (hia : IntsAre [Value.int x tx] [x]) {lb : Addr} {y : Int} {ty : Tok} (y_0 : 0 ≤ y) (y_1 : y < 256) (hlb : s.heap.IsList lb [Value.int y ty].toArray) (hib : IntsAre [Value.int y ty] [y]) {w' : Int} {tw : Tok} (hw : 3 ≤ w') (hw2 : w' ≤ 8)  :
    Call w 890 212 [.ref la, .ref lb, Value.int w' tw] s (fun r h' => PList s.heap (mulL w' [x] [y]) r h') := by
  unfold Call
  k_fill
  intro A A₀ base h₀ outer cn cs a ccd cl L m p loose mean mg mb Q E B F X T hA hk hn hd hu hret
  refine wider hn hA hd hu ?_
  generalize A.guards = gds
  refine' enter (binds := [(Str.ofString "a", .ref la), (Str.ofString "b", .ref lb), (Str.ofString "w", Value.int w' tw)]) B F X T rfl hk ?k6 ?k7 ?k8 ?k9 ?kB ?_ ?c2 ?c3 ?c4 ?c5
  (case k6 => k_dflt k_is)
  (case k7 => k_dflt k_is)
  (case k8 => exact Nat.le_of_ble_eq_true rfl)
  (case k9 => exact BindsTo.of_eq rfl)
  (case c5 => decide)
  (case kB => exact locs rfl)
  (case c2 => exact rfl)
  (case c3 => exact rfl)
  (case c4 => exact rfl)
  clear B F X T hA hk hn hd hu
  intro L' h' F' N' B' X' T'
  (try dsimp only)
  (try k_fold)
  k_steps
  all_goals (
    rename Fr _ _ _ _ => F9
    rename News _ _ _ _ => N9
    (try dsimp only)
    first
      | (k_dflt (refine' hret _ _ _ ?e1 ⟨_, _, _, rfl, ?e2, ?e3, ?e4⟩); (case e1 => exact F9.keep); (case e2 => exact News.fresh N9 (by k_mem)); (case e3 => exact News.get N9 (by k_mem)); (case e4 => exact ints_eq (by assumption) rfl))
      | (exfalso; omega))

set_option maxHeartbeats 4000000 in
theorem mul01 {w : World} {s : Shared} {la : Addr} (hla : s.heap.IsList la [].toArray) (hia : IntsAre [] []) {lb : Addr} {y : Int} {ty : Tok} (y_0 : 0 ≤ y) (y_1 : y < 256) (hlb : s.heap.IsList lb [Value.int y ty].toArray) (hib : IntsAre [Value.int y ty] [y]) {w' : Int} {tw : Tok} (hw : 3 ≤ w') (hw2 : w' ≤ 8)  :
    Call w 890 212 [.ref la, .ref lb, Value.int w' tw] s (fun r h' => PList s.heap (mulL w' [] [y]) r h') := by
  unfold Call
  k_fill
  intro A A₀ base h₀ outer cn cs a ccd cl L m p loose mean mg mb Q E B F X T hA hk hn hd hu hret
  refine wider hn hA hd hu ?_
  generalize A.guards = gds
  refine' enter (binds := [(Str.ofString "a", .ref la), (Str.ofString "b", .ref lb), (Str.ofString "w", Value.int w' tw)]) B F X T rfl hk ?k6 ?k7 ?k8 ?k9 ?kB ?_ ?c2 ?c3 ?c4 ?c5
  (case k6 => k_dflt k_is)
  (case k7 => k_dflt k_is)
  (case k8 => exact Nat.le_of_ble_eq_true rfl)
  (case k9 => exact BindsTo.of_eq rfl)
  (case c5 => decide)
  (case kB => exact locs rfl)
  (case c2 => exact rfl)
  (case c3 => exact rfl)
  (case c4 => exact rfl)
  clear B F X T hA hk hn hd hu
  intro L' h' F' N' B' X' T'
  (try dsimp only)
  (try k_fold)
  k_steps
  all_goals (
    rename Fr _ _ _ _ => F9
    rename News _ _ _ _ => N9
    (try dsimp only)
    first
      | (k_dflt (refine' hret _ _ _ ?e1 ⟨_, _, _, rfl, ?e2, ?e3, ?e4⟩); (case e1 => exact F9.keep); (case e2 => exact News.fresh N9 (by k_mem)); (case e3 => exact News.get N9 (by k_mem)); (case e4 => exact ints_eq (by assumption) rfl))
      | (exfalso; omega))

theorem mul_spec {w : World} {s : Shared} {la : Addr} {ita : Array Value} {xsa : List Int} (hla : s.heap.IsList la ita) (hia : IntsAre ita.toList xsa) {lb : Addr} {itb : Array Value} {xsb : List Int} (hlb : s.heap.IsList lb itb) (hib : IntsAre itb.toList xsb) {w' : Int} {tw : Tok} (ok : okMul w' xsa xsb = true) :
    Call w 890 212 [.ref la, .ref lb, Value.int w' tw] s (fun r h' => PList s.heap (mulL w' xsa xsb) r h') := by
  obtain ⟨hw, ok⟩ := and_of ok
  match xsa, xsb, ok with
  | [x], [y], ok =>
    obtain ⟨t, rfl⟩ := arr1 hia
    obtain ⟨u, rfl⟩ := arr1 hib
    obtain ⟨o1, o2⟩ := and_of ok
    exact mul11 (lim_lo o1) (lim_hi o1) hla hia (lim_lo o2) (lim_hi o2) hlb hib (limW_lo hw) (limW_hi hw)
  | [], [y], o1 =>
    obtain rfl := arr0 hia
    obtain ⟨u, rfl⟩ := arr1 hib
    exact mul01 hla hia (lim_lo o1) (lim_hi o1) hlb hib (limW_lo hw) (limW_hi hw)
end
section
set_option maxHeartbeats 4000000 in
theorem add11 {w : World} {s : Shared} {la : Addr} {x : Int} {tx : Tok} (x_0 : 0 ≤ x) (x_1 : x < 256) (hla : s.heap.IsList la [Value.int x tx].toArray) (hia : IntsAre [Value.int x tx] [x]) {lb : Addr} {y : Int} {ty : Tok} (y_0 : 0 ≤ y) (y_1 : y < 256) (hlb : s.heap.IsList lb [Value.int y ty].toArray) (hib : IntsAre [Value.int y ty] [y]) {w' : Int} {tw : Tok} (hw : 3 ≤ w') (hw2 : w' ≤ 8)  :
    Call w 900 72 [.ref la, .ref lb, Value.int w' tw] s (fun r h' => PList s.heap (addL w' [x] [y]) r h') := by
  unfold Call
  k_fill
  intro A A₀ base h₀ outer cn cs a ccd cl L m p loose mean mg mb Q E B F X T hA hk hn hd hu hret
  refine wider hn hA hd hu ?_
  generalize A.guards = gds
  refine' enter (binds := [(Str.ofString "a", .ref la), (Str.ofString "b", .ref lb), (Str.ofString "w", Value.int w' tw)]) B F X T rfl hk ?k6 ?k7 ?k8 ?k9 ?kB ?_ ?c2 ?c3 ?c4 ?c5
  (case k6 => k_dflt k_is)
  (case k7 => k_dflt k_is)
  (case k8 => exact Nat.le_of_ble_eq_true rfl)
  (case k9 => exact BindsTo.of_eq rfl)
  (case c5 => decide)
  (case kB => exact locs rfl)
  (case c2 => exact rfl)
  (case c3 => exact rfl)
  (case c4 => exact rfl)
  clear B F X T hA hk hn hd hu
  intro L' h' F' N' B' X' T'
  (try dsimp only)
  (try k_fold)
  k_steps
  all_goals (
    rename Fr _ _ _ _ => F9
    rename News _ _ _ _ => N9
    (try dsimp only)
    first
      | (k_dflt (refine' hret _ _ _ ?e1 ⟨_, _, _, rfl, ?e2, ?e3, ?e4⟩); (case e1 => exact F9.keep); (case e2 => exact News.fresh N9 (by k_mem)); (case e3 => exact News.get N9 (by k_mem)); (case e4 => exact ints_eq (by repeat constructor) (addC_pos (by assumption))))
      | (k_dflt (refine' hret _ _ _ ?e1 ⟨_, _, _, rfl, ?e2, ?e3, ?e4⟩); (case e1 => exact F9.keep); (case e2 => exact News.fresh N9 (by k_mem)); (case e3 => exact News.get N9 (by k_mem)); (case e4 => exact ints_eq (by repeat constructor) (addC_neg (by assumption))))
      | (exfalso; omega))

set_option maxHeartbeats 4000000 in
theorem add10 {w : World} {s : Shared} {la : Addr} {x : Int} {tx : Tok} (x_0 : 0 ≤ x) (x_1 : x < 256) (hla : s.heap.IsList la [Value.int x tx].toArray) (hia : IntsAre [Value.int x tx] [x]) {lb : Addr} (hlb : s.heap.IsList lb [].toArray) (hib : IntsAre [] []) {w' : Int} {tw : Tok} (hw : 3 ≤ w') (hw2 : w' ≤ 8)  :
    Call w 900 72 [.ref la, .ref lb, Value.int w' tw] s (fun r h' => PList s.heap (addL w' [x] []) r h') := by
  unfold Call
  k_fill
  intro A A₀ base h₀ outer cn cs a ccd cl L m p loose mean mg mb Q E B F X T hA hk hn hd hu hret
  refine wider hn hA hd hu ?_
  generalize A.guards = gds
  refine' enter (binds := [(Str.ofString "a", .ref la), (Str.ofString "b", .ref lb), (Str.ofString "w", Value.int w' tw)]) B F X T rfl hk ?k6 ?k7 ?k8 ?k9 ?kB ?_ ?c2 ?c3 ?c4 ?c5
  (case k6 => k_dflt k_is)
  (case k7 => k_dflt k_is)
  (case k8 => exact Nat.le_of_ble_eq_true rfl)
  (case k9 => exact BindsTo.of_eq rfl)
  (case c5 => decide)
  (case kB => exact locs rfl)
  (case c2 => exact rfl)
  (case c3 => exact rfl)
  (case c4 => exact rfl)
  clear B F X T hA hk hn hd hu
  intro L' h' F' N' B' X' T'
  (try dsimp only)
  (try k_fold)
  k_steps
  all_goals (
    rename Fr _ _ _ _ => F9
    rename News _ _ _ _ => N9
    (try dsimp only)
    first
      | (k_dflt (refine' hret _ _ _ ?e1 ⟨_, _, _, rfl, ?e2, ?e3, ?e4⟩); (case e1 => exact F9.keep); (case e2 => exact News.fresh N9 (by k_mem)); (case e3 => exact News.get N9 (by k_mem)); (case e4 => exact ints_eq (by repeat constructor) (addC_pos (by assumption))))
      | (k_dflt (refine' hret _ _ _ ?e1 ⟨_, _, _, rfl, ?e2, ?e3, ?e4⟩); (case e1 => exact F9.keep); (case e2 => exact News.fresh N9 (by k_mem)); (case e3 => exact News.get N9 (by k_mem)); (case e4 => exact ints_eq (by repeat constructor) (addC_neg (by assumption))))
      | (exfalso; omega))

theorem add_spec {w : World} {s : Shared} {la : Addr} {ita : Array Value} {xsa : List Int} (hla : s.heap.IsList la ita) (hia : IntsAre ita.toList xsa) {lb : Addr} {itb : Array Value} {xsb : List Int} (hlb : s.heap.IsList lb itb) (hib : IntsAre itb.toList xsb) {w' : Int} {tw : Tok} (ok : okAdd w' xsa xsb = true) :
    Call w 900 72 [.ref la, .ref lb, Value.int w' tw] s (fun r h' => PList s.heap (addL w' xsa xsb) r h') := by
  obtain ⟨hw, ok⟩ := and_of ok
  match xsa, xsb, ok with
  | [x], [y], ok =>
    obtain ⟨t, rfl⟩ := arr1 hia
    obtain ⟨u, rfl⟩ := arr1 hib
    obtain ⟨o1, o2⟩ := and_of ok
    exact add11 (lim_lo o1) (lim_hi o1) hla hia (lim_lo o2) (lim_hi o2) hlb hib (limW_lo hw) (limW_hi hw)
  | [x], [], o1 =>
    obtain ⟨t, rfl⟩ := arr1 hia
    obtain rfl := arr0 hib
    exact add10 (lim_lo o1) (lim_hi o1) hla hia hlb hib (limW_lo hw) (limW_hi hw)
end
section
set_option maxHeartbeats 4000000 in
theorem signed_spec {w : World} {s : Shared} {b : Bool} {la : Addr} {ita : Array Value} {xsa : List Int} (hla : s.heap.IsList la ita) (hia : IntsAre ita.toList xsa) (hlen : xsa.length ≤ 8) :
    Call w 900 121 [Value.bool b, .ref la] s (fun r h' => PTup s.heap [.bool (sgB b xsa), .ref la] r h') := by
  unfold Call
  k_fill
  intro A A₀ base h₀ outer cn cs a ccd cl L m p loose mean mg mb Q E B F X T hA hk hn hd hu hret
  refine wider hn hA hd hu ?_
  generalize A.guards = gds
  refine' enter (binds := [(Str.ofString "is_below", Value.bool b), (Str.ofString "nat", .ref la)]) B F X T rfl hk ?k6 ?k7 ?k8 ?k9 ?kB ?_ ?c2 ?c3 ?c4 ?c5
  (case k6 => k_dflt k_is)
  (case k7 => k_dflt k_is)
  (case k8 => exact Nat.le_of_ble_eq_true rfl)
  (case k9 => exact BindsTo.of_eq rfl)
  (case c5 => decide)
  (case kB => exact locs rfl)
  (case c2 => exact rfl)
  (case c3 => exact rfl)
  (case c4 => exact rfl)
  clear B F X T hA hk hn hd hu
  intro L' h' F' N' B' X' T'
  (try dsimp only)
  (try k_fold)
  k_steps
  all_goals (
    rename Fr _ _ _ _ => F9
    rename News _ _ _ _ => N9
    (try dsimp only)
    first
      | (k_dflt (refine' hret _ _ _ ?e1 ⟨_, _, rfl, ?e2, ?e3⟩); (case e1 => exact F9.keep); (case e2 => exact News.fresh N9 (by k_mem)); (case e3 => exact get_cast (News.get N9 (by k_mem)) (sgB_t (by assumption))))
      | (k_dflt (refine' hret _ _ _ ?e1 ⟨_, _, rfl, ?e2, ?e3⟩); (case e1 => exact F9.keep); (case e2 => exact News.fresh N9 (by k_mem)); (case e3 => exact get_cast (News.get N9 (by k_mem)) (sgB_f (by assumption))))
      | (exfalso; omega))

set_option maxHeartbeats 4000000 in
theorem signed_of_spec {w : World} {s : Shared} {la : Addr} :
    Call w 900 184 [.ref la] s (fun r h' => PTup s.heap [.bool false, .ref la] r h') := by
  unfold Call
  k_fill
  intro A A₀ base h₀ outer cn cs a ccd cl L m p loose mean mg mb Q E B F X T hA hk hn hd hu hret
  refine wider hn hA hd hu ?_
  generalize A.guards = gds
  refine' enter (binds := [(Str.ofString "nat", .ref la)]) B F X T rfl hk ?k6 ?k7 ?k8 ?k9 ?kB ?_ ?c2 ?c3 ?c4 ?c5
  (case k6 => k_dflt k_is)
  (case k7 => k_dflt k_is)
  (case k8 => exact Nat.le_of_ble_eq_true rfl)
  (case k9 => exact BindsTo.of_eq rfl)
  (case c5 => decide)
  (case kB => exact locs rfl)
  (case c2 => exact rfl)
  (case c3 => exact rfl)
  (case c4 => exact rfl)
  clear B F X T hA hk hn hd hu
  intro L' h' F' N' B' X' T'
  (try dsimp only)
  (try k_fold)
  k_steps
  all_goals (
    rename Fr _ _ _ _ => F9
    rename News _ _ _ _ => N9
    (try dsimp only)
    first
      | (k_dflt (refine' hret _ _ _ ?e1 ⟨_, _, rfl, ?e2, ?e3⟩); (case e1 => exact F9.keep); (case e2 => exact News.fresh N9 (by k_mem)); (case e3 => exact News.get N9 (by k_mem)))
      | (exfalso; omega))
end
section
local macro_rules | `(tactic| walk_at "call ref") => `(tactic| (k_here; (with_reducible show wpAny _ _ (call (Value.ref 121) _) _ _ _); k_dflt (refine' use_tup (signed_spec ?a0 ?a1 ?a2) ?B ?F ?X ?N ?T ?fr ?k ?hn ?d ?u ?_; (case B => k_asm); (case F => k_asm); (case X => k_asm); (case N => k_asm); (case T => k_asm); (case fr => exact rfl); (case k => exact rfl); (case hn => exact rfl); (case d => exact Nat.le_of_ble_eq_true rfl); (case u => exact Nat.le_of_ble_eq_true rfl); (case a0 => is_list); (case a1 => first | assumption | exact IntsAre.nil | exact IntsAre.cons _ _ IntsAre.nil | exact IntsAre.cons _ _ (IntsAre.cons _ _ IntsAre.nil)); (case a2 => first | assumption | exact len_add | exact len_sub | exact len_mul | exact len_dlQ | exact len_dvQ | exact len_dvR (by assumption) | (simp; done)); k_whole); intro t' k' h' tk' F' N' ne'; (try k_sweep); (try dsimp only); (try k_fold)))
set_option maxHeartbeats 4000000 in
theorem s_neg_spec {w : World} {s : Shared} {lx tx : Addr} {sx : Bool} {itx : Array Value} {xsx : List Int} (hlx : s.heap.IsList lx itx) (hix : IntsAre itx.toList xsx) (htx : IsTup s.heap tx [Value.bool sx, Value.ref lx].toArray) (hlen : xsx.length ≤ 8) :
    Call w 890 128 [.ref tx] s (fun r h' => PTup s.heap [.bool (sgB (!sx) xsx), .ref lx] r h') := by
  unfold Call
  k_fill
  intro A A₀ base h₀ outer cn cs a ccd cl L m p loose mean mg mb Q E B F X T hA hk hn hd hu hret
  refine wider hn hA hd hu ?_
  generalize A.guards = gds
  refine' enter (binds := [(Str.ofString "x", .ref tx)]) B F X T rfl hk ?k6 ?k7 ?k8 ?k9 ?kB ?_ ?c2 ?c3 ?c4 ?c5
  (case k6 => k_dflt k_is)
  (case k7 => k_dflt k_is)
  (case k8 => exact Nat.le_of_ble_eq_true rfl)
  (case k9 => exact BindsTo.of_eq rfl)
  (case c5 => decide)
  (case kB => exact locs rfl)
  (case c2 => exact rfl)
  (case c3 => exact rfl)
  (case c4 => exact rfl)
  clear B F X T hA hk hn hd hu
  intro L' h' F' N' B' X' T'
  (try dsimp only)
  (try k_fold)
  k_steps
  all_goals (
    rename Fr _ _ _ _ => F9
    rename News _ _ _ _ => N9
    (try dsimp only)
    first
      | (k_dflt (refine' hret _ _ _ ?e1 ⟨_, _, rfl, ?e2, ?e3⟩); (case e1 => exact F9.keep); (case e2 => exact News.fresh N9 (by k_mem)); (case e3 => exact News.get N9 (by k_mem)))
      | (exfalso; omega))
end
section
local macro_rules | `(tactic| walk_at "call ref") => `(tactic| (k_here; (with_reducible show wpAny _ _ (call (Value.ref 72) _) _ _ _); k_dflt (refine' use_list (add_spec ?a0 ?a1 ?a2 ?a3 ?a4) ?B ?F ?X ?N ?T ?fr ?k ?hn ?d ?u ?_; (case B => k_asm); (case F => k_asm); (case X => k_asm); (case N => k_asm); (case T => k_asm); (case fr => exact rfl); (case k => exact rfl); (case hn => exact rfl); (case d => exact Nat.le_of_ble_eq_true rfl); (case u => exact Nat.le_of_ble_eq_true rfl); (case a0 => is_list); (case a1 => first | assumption | exact IntsAre.nil | exact IntsAre.cons _ _ IntsAre.nil | exact IntsAre.cons _ _ (IntsAre.cons _ _ IntsAre.nil)); (case a2 => is_list); (case a3 => first | assumption | exact IntsAre.nil | exact IntsAre.cons _ _ IntsAre.nil | exact IntsAre.cons _ _ (IntsAre.cons _ _ IntsAre.nil)); (case a4 => first | assumption | solve_by_elim); k_whole); intro l' us' n' h' tk' F' N' i' ne'; (try k_sweep); (try dsimp only); (try k_fold)))
local macro_rules | `(tactic| walk_at "call ref") => `(tactic| (k_here; (with_reducible show wpAny _ _ (call (Value.ref 79) _) _ _ _); k_dflt (refine' use_list (sub_spec ?a0 ?a1 ?a2 ?a3 ?a4) ?B ?F ?X ?N ?T ?fr ?k ?hn ?d ?u ?_; (case B => k_asm); (case F => k_asm); (case X => k_asm); (case N => k_asm); (case T => k_asm); (case fr => exact rfl); (case k => exact rfl); (case hn => exact rfl); (case d => exact Nat.le_of_ble_eq_true rfl); (case u => exact Nat.le_of_ble_eq_true rfl); (case a0 => is_list); (case a1 => first | assumption | exact IntsAre.nil | exact IntsAre.cons _ _ IntsAre.nil | exact IntsAre.cons _ _ (IntsAre.cons _ _ IntsAre.nil)); (case a2 => is_list); (case a3 => first | assumption | exact IntsAre.nil | exact IntsAre.cons _ _ IntsAre.nil | exact IntsAre.cons _ _ (IntsAre.cons _ _ IntsAre.nil)); (case a4 => first | assumption | solve_by_elim); k_whole); intro l' us' n' h' tk' F' N' i' ne'; (try k_sweep); (try dsimp only); (try k_fold)))
local macro_rules | `(tactic| walk_at "call ref") => `(tactic| (k_here; (with_reducible show wpAny _ _ (call (Value.ref 65) _) _ _ _); k_dflt (refine' use_int (compare_spec ?a0 ?a1 ?a2 ?a3 ?a4) ?B ?F ?X ?N ?T ?fr ?k ?hn ?d ?u ?_; (case B => k_asm); (case F => k_asm); (case X => k_asm); (case N => k_asm); (case T => k_asm); (case fr => exact rfl); (case k => exact rfl); (case hn => exact rfl); (case d => exact Nat.le_of_ble_eq_true rfl); (case u => exact Nat.le_of_ble_eq_true rfl); (case a0 => is_list); (case a1 => first | assumption | exact IntsAre.nil | exact IntsAre.cons _ _ IntsAre.nil | exact IntsAre.cons _ _ (IntsAre.cons _ _ IntsAre.nil)); (case a2 => is_list); (case a3 => first | assumption | exact IntsAre.nil | exact IntsAre.cons _ _ IntsAre.nil | exact IntsAre.cons _ _ (IntsAre.cons _ _ IntsAre.nil)); (case a4 => first | assumption | solve_by_elim); k_whole); intro t' h' tk' F' N'; (try k_sweep); (try dsimp only); (try k_fold)))
local macro_rules | `(tactic| walk_at "call ref") => `(tactic| (k_here; (with_reducible show wpAny _ _ (call (Value.ref 121) _) _ _ _); k_dflt (refine' use_tup (signed_spec ?a0 ?a1 ?a2) ?B ?F ?X ?N ?T ?fr ?k ?hn ?d ?u ?_; (case B => k_asm); (case F => k_asm); (case X => k_asm); (case N => k_asm); (case T => k_asm); (case fr => exact rfl); (case k => exact rfl); (case hn => exact rfl); (case d => exact Nat.le_of_ble_eq_true rfl); (case u => exact Nat.le_of_ble_eq_true rfl); (case a0 => is_list); (case a1 => first | assumption | exact IntsAre.nil | exact IntsAre.cons _ _ IntsAre.nil | exact IntsAre.cons _ _ (IntsAre.cons _ _ IntsAre.nil)); (case a2 => first | assumption | exact len_add | exact len_sub | exact len_mul | exact len_dlQ | exact len_dvQ | exact len_dvR (by assumption) | (simp; done)); k_whole); intro t' k' h' tk' F' N' ne'; (try k_sweep); (try dsimp only); (try k_fold)))
set_option maxHeartbeats 4000000 in
theorem s_add_spec {w : World} {s : Shared} {lx tx : Addr} {sx : Bool} {itx : Array Value} {xsx : List Int} (hlx : s.heap.IsList lx itx) (hix : IntsAre itx.toList xsx) (htx : IsTup s.heap tx [Value.bool sx, Value.ref lx].toArray) {ly ty : Addr} {sy : Bool} {ity : Array Value} {xsy : List Int} (hly : s.heap.IsList ly ity) (hiy : IntsAre ity.toList xsy) (hty : IsTup s.heap ty [Value.bool sy, Value.ref ly].toArray) {w' : Int} {tw : Tok} (ok : okSAdd w' (sx, xsx) (sy, xsy) = true) :
    Call w 880 135 [.ref tx, .ref ty, Value.int w' tw] s (fun r h' => PSg s.heap (sAdd w' (sx, xsx) (sy, xsy)).1 (sAdd w' (sx, xsx) (sy, xsy)).2 r h') := by
  obtain ⟨hw, hw2, hA, hC, hS1, hS2⟩ := okSAdd_split ok
  unfold Call
  k_fill
  intro A A₀ base h₀ outer cn cs a ccd cl L m p loose mean mg mb Q E B F X T hA hk hn hd hu hret
  refine wider hn hA hd hu ?_
  generalize A.guards = gds
  refine' enter (binds := [(Str.ofString "x", .ref tx), (Str.ofString "y", .ref ty), (Str.ofString "w", Value.int w' tw)]) B F X T rfl hk ?k6 ?k7 ?k8 ?k9 ?kB ?_ ?c2 ?c3 ?c4 ?c5
  (case k6 => k_dflt k_is)
  (case k7 => k_dflt k_is)
  (case k8 => exact Nat.le_of_ble_eq_true rfl)
  (case k9 => exact BindsTo.of_eq rfl)
  (case c5 => decide)
  (case kB => exact locs rfl)
  (case c2 => exact rfl)
  (case c3 => exact rfl)
  (case c4 => exact rfl)
  clear B F X T hA hk hn hd hu
  intro L' h' F' N' B' X' T'
  (try dsimp only)
  (try k_fold)
  k_steps
  all_goals (
    rename Fr _ _ _ _ => F9
    rename News _ _ _ _ => N9
    (try dsimp only)
    first
      | (k_dflt (refine' hret _ _ _ ?e1 (psg_cast ⟨_, _, _, _, _, rfl, ?e2, ?e3, ?e4, ?e5, ?e6⟩ ?e7)); (case e1 => exact F9.keep); (case e2 => exact News.fresh N9 (by k_mem)); (case e3 => exact News.get N9 (by k_mem)); (case e4 => exact News.fresh N9 (by k_mem)); (case e5 => exact News.get N9 (by k_mem)); (case e6 => assumption); (case e7 => exact sAdd_eq (by assumption)))
      | (k_dflt (refine' hret _ _ _ ?e1 (psg_cast ⟨_, _, _, _, _, rfl, ?e2, ?e3, ?e4, ?e5, ?e6⟩ ?e7)); (case e1 => exact F9.keep); (case e2 => exact News.fresh N9 (by k_mem)); (case e3 => exact News.get N9 (by k_mem)); (case e4 => exact News.fresh N9 (by k_mem)); (case e5 => exact News.get N9 (by k_mem)); (case e6 => assumption); (case e7 => exact sAdd_lt (by assumption) (by assumption)))
      | (k_dflt (refine' hret _ _ _ ?e1 (psg_cast ⟨_, _, _, _, _, rfl, ?e2, ?e3, ?e4, ?e5, ?e6⟩ ?e7)); (case e1 => exact F9.keep); (case e2 => exact News.fresh N9 (by k_mem)); (case e3 => exact News.get N9 (by k_mem)); (case e4 => exact News.fresh N9 (by k_mem)); (case e5 => exact News.get N9 (by k_mem)); (case e6 => assumption); (case e7 => exact sAdd_ge (by assumption) (by assumption)))
      | (exfalso; omega))
end
section
local macro_rules | `(tactic| walk_at "call ref") => `(tactic| (k_here; (with_reducible show wpAny _ _ (call (Value.ref 212) _) _ _ _); k_dflt (refine' use_list (mul_spec ?a0 ?a1 ?a2 ?a3 ?a4) ?B ?F ?X ?N ?T ?fr ?k ?hn ?d ?u ?_; (case B => k_asm); (case F => k_asm); (case X => k_asm); (case N => k_asm); (case T => k_asm); (case fr => exact rfl); (case k => exact rfl); (case hn => exact rfl); (case d => exact Nat.le_of_ble_eq_true rfl); (case u => exact Nat.le_of_ble_eq_true rfl); (case a0 => is_list); (case a1 => first | assumption | exact IntsAre.nil | exact IntsAre.cons _ _ IntsAre.nil | exact IntsAre.cons _ _ (IntsAre.cons _ _ IntsAre.nil)); (case a2 => is_list); (case a3 => first | assumption | exact IntsAre.nil | exact IntsAre.cons _ _ IntsAre.nil | exact IntsAre.cons _ _ (IntsAre.cons _ _ IntsAre.nil)); (case a4 => first | assumption | solve_by_elim); k_whole); intro l' us' n' h' tk' F' N' i' ne'; (try k_sweep); (try dsimp only); (try k_fold)))
local macro_rules | `(tactic| walk_at "call ref") => `(tactic| (k_here; (with_reducible show wpAny _ _ (call (Value.ref 121) _) _ _ _); k_dflt (refine' use_tup (signed_spec ?a0 ?a1 ?a2) ?B ?F ?X ?N ?T ?fr ?k ?hn ?d ?u ?_; (case B => k_asm); (case F => k_asm); (case X => k_asm); (case N => k_asm); (case T => k_asm); (case fr => exact rfl); (case k => exact rfl); (case hn => exact rfl); (case d => exact Nat.le_of_ble_eq_true rfl); (case u => exact Nat.le_of_ble_eq_true rfl); (case a0 => is_list); (case a1 => first | assumption | exact IntsAre.nil | exact IntsAre.cons _ _ IntsAre.nil | exact IntsAre.cons _ _ (IntsAre.cons _ _ IntsAre.nil)); (case a2 => first | assumption | exact len_add | exact len_sub | exact len_mul | exact len_dlQ | exact len_dvQ | exact len_dvR (by assumption) | (simp; done)); k_whole); intro t' k' h' tk' F' N' ne'; (try k_sweep); (try dsimp only); (try k_fold)))
set_option maxHeartbeats 4000000 in
theorem s_mul_spec {w : World} {s : Shared} {lx tx : Addr} {sx : Bool} {itx : Array Value} {xsx : List Int} (hlx : s.heap.IsList lx itx) (hix : IntsAre itx.toList xsx) (htx : IsTup s.heap tx [Value.bool sx, Value.ref lx].toArray) {ly ty : Addr} {sy : Bool} {ity : Array Value} {xsy : List Int} (hly : s.heap.IsList ly ity) (hiy : IntsAre ity.toList xsy) (hty : IsTup s.heap ty [Value.bool sy, Value.ref ly].toArray) {w' : Int} {tw : Tok} (ok : okMul w' xsx xsy = true) :
    Call w 880 149 [.ref tx, .ref ty, Value.int w' tw, Value.ref 212] s (fun r h' => PSg s.heap (sMul w' (sx, xsx) (sy, xsy)).1 (sMul w' (sx, xsx) (sy, xsy)).2 r h') := by
  unfold Call
  k_fill
  intro A A₀ base h₀ outer cn cs a ccd cl L m p loose mean mg mb Q E B F X T hA hk hn hd hu hret
  refine wider hn hA hd hu ?_
  generalize A.guards = gds
  refine' enter (binds := [(Str.ofString "x", .ref tx), (Str.ofString "y", .ref ty), (Str.ofString "w", Value.int w' tw), (Str.ofString "mul", Value.ref 212)]) B F X T rfl hk ?k6 ?k7 ?k8 ?k9 ?kB ?_ ?c2 ?c3 ?c4 ?c5
  (case k6 => k_dflt k_is)
  (case k7 => k_dflt k_is)
  (case k8 => exact Nat.le_of_ble_eq_true rfl)
  (case k9 => exact BindsTo.of_eq rfl)
  (case c5 => decide)
  (case kB => exact locs rfl)
  (case c2 => exact rfl)
  (case c3 => exact rfl)
  (case c4 => exact rfl)
  clear B F X T hA hk hn hd hu
  intro L' h' F' N' B' X' T'
  (try dsimp only)
  (try k_fold)
  k_steps
  all_goals (
    rename Fr _ _ _ _ => F9
    rename News _ _ _ _ => N9
    (try dsimp only)
    first
      | (k_dflt (refine' hret _ _ _ ?e1 ⟨_, _, _, _, _, rfl, ?e2, ?e3, ?e4, ?e5, ?e6⟩); (case e1 => exact F9.keep); (case e2 => exact News.fresh N9 (by k_mem)); (case e3 => exact News.get N9 (by k_mem)); (case e4 => exact News.fresh N9 (by k_mem)); (case e5 => exact News.get N9 (by k_mem)); (case e6 => assumption))
      | (exfalso; omega))
end
section
local macro_rules | `(tactic| walk_at "call ref") => `(tactic| (k_here; (with_reducible show wpAny _ _ (call (Value.ref 128) _) _ _ _); k_dflt (refine' use_tup (s_neg_spec ?a0 ?a1 ?a2 ?a3) ?B ?F ?X ?N ?T ?fr ?k ?hn ?d ?u ?_; (case B => k_asm); (case F => k_asm); (case X => k_asm); (case N => k_asm); (case T => k_asm); (case fr => exact rfl); (case k => exact rfl); (case hn => exact rfl); (case d => exact Nat.le_of_ble_eq_true rfl); (case u => exact Nat.le_of_ble_eq_true rfl); (case a2 => first | assumption | exact Fr.tup (by assumption) (by assumption) | exact News.isTup (by k_asm) (by k_mem)); (case a0 => is_list); (case a1 => first | assumption | exact IntsAre.nil | exact IntsAre.cons _ _ IntsAre.nil | exact IntsAre.cons _ _ (IntsAre.cons _ _ IntsAre.nil)); (case a3 => first | assumption | exact len_add | exact len_sub | exact len_mul | exact len_dlQ | exact len_dvQ | exact len_dvR (by assumption) | (simp; done)); k_whole); intro t' k' h' tk' F' N' ne'; (try k_sweep); (try dsimp only); (try k_fold)))
local macro_rules | `(tactic| walk_at "call ref") => `(tactic| (k_here; (with_reducible show wpAny _ _ (call (Value.ref 135) _) _ _ _); k_dflt (refine' use_sg (s_add_spec ?a0 ?a1 ?a2 ?a3 ?a4 ?a5 ?a6) ?B ?F ?X ?N ?T ?fr ?k ?hn ?d ?u ?_; (case B => k_asm); (case F => k_asm); (case X => k_asm); (case N => k_asm); (case T => k_asm); (case fr => exact rfl); (case k => exact rfl); (case hn => exact rfl); (case d => exact Nat.le_of_ble_eq_true rfl); (case u => exact Nat.le_of_ble_eq_true rfl); (case a2 => first | assumption | exact Fr.tup (by assumption) (by assumption) | exact News.isTup (by k_asm) (by k_mem)); (case a5 => first | assumption | exact Fr.tup (by assumption) (by assumption) | exact News.isTup (by k_asm) (by k_mem)); (case a0 => is_list); (case a1 => first | assumption | exact IntsAre.nil | exact IntsAre.cons _ _ IntsAre.nil | exact IntsAre.cons _ _ (IntsAre.cons _ _ IntsAre.nil)); (case a3 => is_list); (case a4 => first | assumption | exact IntsAre.nil | exact IntsAre.cons _ _ IntsAre.nil | exact IntsAre.cons _ _ (IntsAre.cons _ _ IntsAre.nil)); (case a6 => first | assumption | solve_by_elim); k_whole); intro t' k' l' us' n' h' tk' F' N' i'; (try k_sweep); (try dsimp only); (try k_fold)))
set_option maxHeartbeats 4000000 in
theorem s_sub_spec {w : World} {s : Shared} {lx tx : Addr} {sx : Bool} {itx : Array Value} {xsx : List Int} (hlx : s.heap.IsList lx itx) (hix : IntsAre itx.toList xsx) (htx : IsTup s.heap tx [Value.bool sx, Value.ref lx].toArray) {ly ty : Addr} {sy : Bool} {ity : Array Value} {xsy : List Int} (hly : s.heap.IsList ly ity) (hiy : IntsAre ity.toList xsy) (hty : IsTup s.heap ty [Value.bool sy, Value.ref ly].toArray) {w' : Int} {tw : Tok} (hlen : xsy.length ≤ 8) (ok : okSAdd w' (sx, xsx) (sNeg (sy, xsy)) = true) :
    Call w 870 142 [.ref tx, .ref ty, Value.int w' tw] s (fun r h' => PSg s.heap (sSub w' (sx, xsx) (sy, xsy)).1 (sSub w' (sx, xsx) (sy, xsy)).2 r h') := by
  unfold Call
  k_fill
  intro A A₀ base h₀ outer cn cs a ccd cl L m p loose mean mg mb Q E B F X T hA hk hn hd hu hret
  refine wider hn hA hd hu ?_
  generalize A.guards = gds
  refine' enter (binds := [(Str.ofString "x", .ref tx), (Str.ofString "y", .ref ty), (Str.ofString "w", Value.int w' tw)]) B F X T rfl hk ?k6 ?k7 ?k8 ?k9 ?kB ?_ ?c2 ?c3 ?c4 ?c5
  (case k6 => k_dflt k_is)
  (case k7 => k_dflt k_is)
  (case k8 => exact Nat.le_of_ble_eq_true rfl)
  (case k9 => exact BindsTo.of_eq rfl)
  (case c5 => decide)
  (case kB => exact locs rfl)
  (case c2 => exact rfl)
  (case c3 => exact rfl)
  (case c4 => exact rfl)
  clear B F X T hA hk hn hd hu
  intro L' h' F' N' B' X' T'
  (try dsimp only)
  (try k_fold)
  k_steps
  all_goals (
    rename Fr _ _ _ _ => F9
    rename News _ _ _ _ => N9
    (try dsimp only)
    first
      | (k_dflt (refine' hret _ _ _ ?e1 ⟨_, _, _, _, _, rfl, ?e2, ?e3, ?e4, ?e5, ?e6⟩); (case e1 => exact F9.keep); (case e2 => exact News.fresh N9 (by k_mem)); (case e3 => exact News.get N9 (by k_mem)); (case e4 => exact News.fresh N9 (by k_mem)); (case e5 => exact News.get N9 (by k_mem)); (case e6 => assumption))
      | (exfalso; omega))
end
section
local macro_rules | `(tactic| walk_at "call ref") => `(tactic| (k_here; (with_reducible show wpAny _ _ (call (Value.ref 93) _) _ _ _); k_dflt (refine' use_li (dl_spec ?a0 ?a1 ?a2) ?B ?F ?X ?N ?T ?fr ?k ?hn ?d ?u ?_; (case B => k_asm); (case F => k_asm); (case X => k_asm); (case N => k_asm); (case T => k_asm); (case fr => exact rfl); (case k => exact rfl); (case hn => exact rfl); (case d => exact Nat.le_of_ble_eq_true rfl); (case u => exact Nat.le_of_ble_eq_true rfl); (case a0 => is_list); (case a1 => first | assumption | exact IntsAre.nil | exact IntsAre.cons _ _ IntsAre.nil | exact IntsAre.cons _ _ (IntsAre.cons _ _ IntsAre.nil)); (case a2 => first | assumption | solve_by_elim); k_whole); intro t' k' l' us' n' u' h' tk' F' N' i'; (try k_sweep); (try dsimp only); (try k_fold)))
set_option maxHeartbeats 4000000 in
theorem small_spec {w : World} {s : Shared} {la : Addr} {ita : Array Value} {xsa : List Int} (hla : s.heap.IsList la ita) (hia : IntsAre ita.toList xsa) {lb : Addr} {d : Int} {td : Tok} (hlb : s.heap.IsList lb [Value.int d td].toArray) (hib : IntsAre [Value.int d td] [d]) {w' : Int} {tw : Tok} (ok : okDl w' d xsa = true) :
    Call w 880 219 [.ref la, .ref lb, Value.int w' tw] s (fun r h' => PLL s.heap (dlQ w' d xsa) (dsR (dlR w' d xsa)) r h') := by
  unfold Call
  k_fill
  intro A A₀ base h₀ outer cn cs a ccd cl L m p loose mean mg mb Q E B F X T hA hk hn hd hu hret
  refine wider hn hA hd hu ?_
  generalize A.guards = gds
  refine' enter (binds := [(Str.ofString "a", .ref la), (Str.ofString "b", .ref lb), (Str.ofString "w", Value.int w' tw)]) B F X T rfl hk ?k6 ?k7 ?k8 ?k9 ?kB ?_ ?c2 ?c3 ?c4 ?c5
  (case k6 => k_dflt k_is)
  (case k7 => k_dflt k_is)
  (case k8 => exact Nat.le_of_ble_eq_true rfl)
  (case k9 => exact BindsTo.of_eq rfl)
  (case c5 => decide)
  (case kB => exact locs rfl)
  (case c2 => exact rfl)
  (case c3 => exact rfl)
  (case c4 => exact rfl)
  clear B F X T hA hk hn hd hu
  intro L' h' F' N' B' X' T'
  (try dsimp only)
  (try k_fold)
  k_steps
  all_goals (
    rename Fr _ _ _ _ => F9
    rename News _ _ _ _ => N9
    (try dsimp only)
    first
      | (k_dflt (refine' hret _ _ _ ?e1 ⟨_, _, _, _, _, _, _, _, rfl, ?e2, ?e3, ?e4, ?e5, ?e6, ?e7, ?e8, ?e9⟩); (case e1 => exact F9.keep); (case e2 => exact News.fresh N9 (by k_mem)); (case e3 => exact News.get N9 (by k_mem)); (case e4 => exact News.fresh N9 (by k_mem)); (case e5 => exact News.get N9 (by k_mem)); (case e6 => exact News.fresh N9 (by k_mem)); (case e7 => exact News.get N9 (by k_mem)); (case e8 => assumption); (case e9 => exact ints_eq (by repeat constructor) (dsR_pos (by assumption))))
      | (k_dflt (refine' hret _ _ _ ?e1 ⟨_, _, _, _, _, _, _, _, rfl, ?e2, ?e3, ?e4, ?e5, ?e6, ?e7, ?e8, ?e9⟩); (case e1 => exact F9.keep); (case e2 => exact News.fresh N9 (by k_mem)); (case e3 => exact News.get N9 (by k_mem)); (case e4 => exact News.fresh N9 (by k_mem)); (case e5 => exact News.get N9 (by k_mem)); (case e6 => exact News.fresh N9 (by k_mem)); (case e7 => exact News.get N9 (by k_mem)); (case e8 => assumption); (case e9 => exact ints_eq (by repeat constructor) (dsR_neg (by assumption))))
      | (exfalso; omega))
end
section
local macro_rules | `(tactic| walk_at "call ref") => `(tactic| (k_here; (with_reducible show wpAny _ _ (call (Value.ref 219) _) _ _ _); k_dflt (refine' use_ll (small_spec ?a0 ?a1 ?a2 ?a3 ?a4) ?B ?F ?X ?N ?T ?fr ?k ?hn ?d ?u ?_; (case B => k_asm); (case F => k_asm); (case X => k_asm); (case N => k_asm); (case T => k_asm); (case fr => exact rfl); (case k => exact rfl); (case hn => exact rfl); (case d => exact Nat.le_of_ble_eq_true rfl); (case u => exact Nat.le_of_ble_eq_true rfl); (case a0 => is_list); (case a1 => first | assumption | exact IntsAre.nil | exact IntsAre.cons _ _ IntsAre.nil | exact IntsAre.cons _ _ (IntsAre.cons _ _ IntsAre.nil)); (case a2 => is_list); (case a3 => first | assumption | exact IntsAre.nil | exact IntsAre.cons _ _ IntsAre.nil | exact IntsAre.cons _ _ (IntsAre.cons _ _ IntsAre.nil)); (case a4 => first | assumption | solve_by_elim); k_whole); intro t' k' l' us' n' l2' us2' n2' h' tk' F' N' i' i2'; (try k_sweep); (try dsimp only); (try k_fold)))
local macro_rules | `(tactic| walk_at "call ref") => `(tactic| (k_here; (with_reducible show wpAny _ _ (call (Value.ref 65) _) _ _ _); k_dflt (refine' use_int (compare_spec ?a0 ?a1 ?a2 ?a3 ?a4) ?B ?F ?X ?N ?T ?fr ?k ?hn ?d ?u ?_; (case B => k_asm); (case F => k_asm); (case X => k_asm); (case N => k_asm); (case T => k_asm); (case fr => exact rfl); (case k => exact rfl); (case hn => exact rfl); (case d => exact Nat.le_of_ble_eq_true rfl); (case u => exact Nat.le_of_ble_eq_true rfl); (case a0 => is_list); (case a1 => first | assumption | exact IntsAre.nil | exact IntsAre.cons _ _ IntsAre.nil | exact IntsAre.cons _ _ (IntsAre.cons _ _ IntsAre.nil)); (case a2 => is_list); (case a3 => first | assumption | exact IntsAre.nil | exact IntsAre.cons _ _ IntsAre.nil | exact IntsAre.cons _ _ (IntsAre.cons _ _ IntsAre.nil)); (case a4 => first | assumption | solve_by_elim); k_whole); intro t' h' tk' F' N'; (try k_sweep); (try dsimp only); (try k_fold)))
set_option maxHeartbeats 4000000 in
theorem school1 {w : World} {s : Shared} {la : Addr} {x : Int} {tx : Tok} (hla : s.heap.IsList la [Value.int x tx].toArray) (hia : IntsAre [Value.int x tx] [x]) {lb : Addr} {d : Int} {td : Tok} (hlb : s.heap.IsList lb [Value.int d td].toArray) (hib : IntsAre [Value.int d td] [d]) {w' : Int} {tw : Tok} (okc : okCmp [x] [d] = true) (ok : okDl w' d [x] = true)  :
    Call w 870 254 [.ref la, .ref lb, Value.int w' tw] s (fun r h' => PLL s.heap (dvQ w' [x] [d]) (dvR w' [x] [d]) r h') := by
  unfold Call
  k_fill
  intro A A₀ base h₀ outer cn cs a ccd cl L m p loose mean mg mb Q E B F X T hA hk hn hd hu hret
  refine wider hn hA hd hu ?_
  generalize A.guards = gds
  refine' enter (binds := [(Str.ofString "a", .ref la), (Str.ofString "b", .ref lb), (Str.ofString "w", Value.int w' tw)]) B F X T rfl hk ?k6 ?k7 ?k8 ?k9 ?kB ?_ ?c2 ?c3 ?c4 ?c5
  (case k6 => k_dflt k_is)
  (case k7 => k_dflt k_is)
  (case k8 => exact Nat.le_of_ble_eq_true rfl)
  (case k9 => exact BindsTo.of_eq rfl)
  (case c5 => decide)
  (case kB => exact locs rfl)
  (case c2 => exact rfl)
  (case c3 => exact rfl)
  (case c4 => exact rfl)
  clear B F X T hA hk hn hd hu
  intro L' h' F' N' B' X' T'
  (try dsimp only)
  (try k_fold)
  k_steps
  all_goals (
    rename Fr _ _ _ _ => F9
    rename News _ _ _ _ => N9
    (try dsimp only)
    first
      | (k_dflt (refine' hret _ _ _ ?e1 ⟨_, _, _, _, _, _, _, _, rfl, ?e2, ?e3, ?e4, ?e5, ?e6, ?e7, ?e8, ?e9⟩); (case e1 => exact F9.keep); (case e2 => exact News.fresh N9 (by k_mem)); (case e3 => exact News.get N9 (by k_mem)); (case e4 => exact News.fresh N9 (by k_mem)); (case e5 => exact News.get N9 (by k_mem)); (case e6 => exact News.fresh N9 (by k_mem)); (case e7 => exact News.get N9 (by k_mem)); (case e8 => exact ints_eq (by repeat constructor) (dvQ_lt (by assumption))); (case e9 => exact ints_eq (by repeat constructor) (dvR_lt (by assumption))))
      | (k_dflt (refine' hret _ _ _ ?e1 ⟨_, _, _, _, _, _, _, _, rfl, ?e2, ?e3, ?e4, ?e5, ?e6, ?e7, ?e8, ?e9⟩); (case e1 => exact F9.keep); (case e2 => exact News.fresh N9 (by k_mem)); (case e3 => exact News.get N9 (by k_mem)); (case e4 => exact News.fresh N9 (by k_mem)); (case e5 => exact News.get N9 (by k_mem)); (case e6 => exact News.fresh N9 (by k_mem)); (case e7 => exact News.get N9 (by k_mem)); (case e8 => exact ints_eq (by assumption) (dvQ_ge (by assumption))); (case e9 => exact ints_eq (by assumption) (dvR_ge (by assumption))))
      | (exfalso; omega))

set_option maxHeartbeats 4000000 in
theorem school2 {w : World} {s : Shared} {la : Addr} {x : Int} {tx : Tok} {x2 : Int} {tx2 : Tok} (hla : s.heap.IsList la [Value.int x tx, Value.int x2 tx2].toArray) (hia : IntsAre [Value.int x tx, Value.int x2 tx2] [x, x2]) {lb : Addr} {d : Int} {td : Tok} (hlb : s.heap.IsList lb [Value.int d td].toArray) (hib : IntsAre [Value.int d td] [d]) {w' : Int} {tw : Tok} (okc : okCmp [x, x2] [d] = true) (ok : okDl w' d [x, x2] = true) (hc : ¬ cmpL [x, x2] [d] < 0)  :
    Call w 870 254 [.ref la, .ref lb, Value.int w' tw] s (fun r h' => PLL s.heap (dvQ w' [x, x2] [d]) (dvR w' [x, x2] [d]) r h') := by
  unfold Call
  k_fill
  intro A A₀ base h₀ outer cn cs a ccd cl L m p loose mean mg mb Q E B F X T hA hk hn hd hu hret
  refine wider hn hA hd hu ?_
  generalize A.guards = gds
  refine' enter (binds := [(Str.ofString "a", .ref la), (Str.ofString "b", .ref lb), (Str.ofString "w", Value.int w' tw)]) B F X T rfl hk ?k6 ?k7 ?k8 ?k9 ?kB ?_ ?c2 ?c3 ?c4 ?c5
  (case k6 => k_dflt k_is)
  (case k7 => k_dflt k_is)
  (case k8 => exact Nat.le_of_ble_eq_true rfl)
  (case k9 => exact BindsTo.of_eq rfl)
  (case c5 => decide)
  (case kB => exact locs rfl)
  (case c2 => exact rfl)
  (case c3 => exact rfl)
  (case c4 => exact rfl)
  clear B F X T hA hk hn hd hu
  intro L' h' F' N' B' X' T'
  (try dsimp only)
  (try k_fold)
  k_steps
  all_goals (
    rename Fr _ _ _ _ => F9
    rename News _ _ _ _ => N9
    (try dsimp only)
    first
      | (k_dflt (refine' hret _ _ _ ?e1 ⟨_, _, _, _, _, _, _, _, rfl, ?e2, ?e3, ?e4, ?e5, ?e6, ?e7, ?e8, ?e9⟩); (case e1 => exact F9.keep); (case e2 => exact News.fresh N9 (by k_mem)); (case e3 => exact News.get N9 (by k_mem)); (case e4 => exact News.fresh N9 (by k_mem)); (case e5 => exact News.get N9 (by k_mem)); (case e6 => exact News.fresh N9 (by k_mem)); (case e7 => exact News.get N9 (by k_mem)); (case e8 => exact ints_eq (by assumption) (dvQ_ge (by assumption))); (case e9 => exact ints_eq (by assumption) (dvR_ge (by assumption))))
      | (exfalso; omega))

theorem school_spec {w : World} {s : Shared} {la : Addr} {ita : Array Value} {xsa : List Int} (hla : s.heap.IsList la ita) (hia : IntsAre ita.toList xsa) {lb : Addr} {itb : Array Value} {xsb : List Int} (hlb : s.heap.IsList lb itb) (hib : IntsAre itb.toList xsb) {w' : Int} {tw : Tok} (ok : okDv w' xsa xsb = true) :
    Call w 870 254 [.ref la, .ref lb, Value.int w' tw] s (fun r h' => PLL s.heap (dvQ w' xsa xsb) (dvR w' xsa xsb) r h') := by
  obtain ⟨okc, ok⟩ := and_of ok
  match xsb, ok with
  | [d], ok =>
    obtain ⟨u, rfl⟩ := arr1 hib
    match xsa, okc, ok with
    | [x], okc, ok =>
      obtain ⟨t, rfl⟩ := arr1 hia
      exact school1 hla hia hlb hib okc ok
    | [x, x2], okc, ok =>
      obtain ⟨t, t2, rfl⟩ := arr2 hia
      exact school2 hla hia hlb hib okc ok (by show ¬ (1 : Int) < 0; omega)
end
section
local macro_rules | `(tactic| walk_at "call ref") => `(tactic| (k_here; (with_reducible show wpAny _ _ (call (Value.ref 254) _) _ _ _); k_dflt (refine' use_ll (school_spec ?a0 ?a1 ?a2 ?a3 ?a4) ?B ?F ?X ?N ?T ?fr ?k ?hn ?d ?u ?_; (case B => k_asm); (case F => k_asm); (case X => k_asm); (case N => k_asm); (case T => k_asm); (case fr => exact rfl); (case k => exact rfl); (case hn => exact rfl); (case d => exact Nat.le_of_ble_eq_true rfl); (case u => exact Nat.le_of_ble_eq_true rfl); (case a0 => is_list); (case a1 => first | assumption | exact IntsAre.nil | exact IntsAre.cons _ _ IntsAre.nil | exact IntsAre.cons _ _ (IntsAre.cons _ _ IntsAre.nil)); (case a2 => is_list); (case a3 => first | assumption | exact IntsAre.nil | exact IntsAre.cons _ _ IntsAre.nil | exact IntsAre.cons _ _ (IntsAre.cons _ _ IntsAre.nil)); (case a4 => first | assumption | solve_by_elim); k_whole); intro t' k' l' us' n' l2' us2' n2' h' tk' F' N' i' i2'; (try k_sweep); (try dsimp only); (try k_fold)))
local macro_rules | `(tactic| walk_at "call ref") => `(tactic| (k_here; (with_reducible show wpAny _ _ (call (Value.ref 121) _) _ _ _); k_dflt (refine' use_tup (signed_spec ?a0 ?a1 ?a2) ?B ?F ?X ?N ?T ?fr ?k ?hn ?d ?u ?_; (case B => k_asm); (case F => k_asm); (case X => k_asm); (case N => k_asm); (case T => k_asm); (case fr => exact rfl); (case k => exact rfl); (case hn => exact rfl); (case d => exact Nat.le_of_ble_eq_true rfl); (case u => exact Nat.le_of_ble_eq_true rfl); (case a0 => is_list); (case a1 => first | assumption | exact IntsAre.nil | exact IntsAre.cons _ _ IntsAre.nil | exact IntsAre.cons _ _ (IntsAre.cons _ _ IntsAre.nil)); (case a2 => first | assumption | exact len_add | exact len_sub | exact len_mul | exact len_dlQ | exact len_dvQ | exact len_dvR (by assumption) | (simp; done)); k_whole); intro t' k' h' tk' F' N' ne'; (try k_sweep); (try dsimp only); (try k_fold)))
set_option maxHeartbeats 4000000 in
theorem tdiv_spec {w : World} {s : Shared} {lx tx : Addr} {itx : Array Value} {xsx : List Int} (hlx : s.heap.IsList lx itx) (hix : IntsAre itx.toList xsx) (htx : IsTup s.heap tx [Value.bool false, Value.ref lx].toArray) {ly ty : Addr} {d : Int} {td : Tok} (hly : s.heap.IsList ly [Value.int d td].toArray) (hiy : IntsAre [Value.int d td] [d]) (hty : IsTup s.heap ty [Value.bool false, Value.ref ly].toArray) {w' : Int} {tw : Tok} (hlen : xsx.length ≤ 8) (ok : okDv w' xsx [d] = true) :
    Call w 860 156 [.ref tx, .ref ty, Value.int w' tw, Value.ref 254] s (fun r h' => PSS s.heap (sgB false (dvQ w' xsx [d])) (dvQ w' xsx [d]) (sgB false (dvR w' xsx [d])) (dvR w' xsx [d]) r h') := by
  unfold Call
  k_fill
  intro A A₀ base h₀ outer cn cs a ccd cl L m p loose mean mg mb Q E B F X T hA hk hn hd hu hret
  refine wider hn hA hd hu ?_
  generalize A.guards = gds
  refine' enter (binds := [(Str.ofString "x", .ref tx), (Str.ofString "y", .ref ty), (Str.ofString "w", Value.int w' tw), (Str.ofString "divrem", Value.ref 254)]) B F X T rfl hk ?k6 ?k7 ?k8 ?k9 ?kB ?_ ?c2 ?c3 ?c4 ?c5
  (case k6 => k_dflt k_is)
  (case k7 => k_dflt k_is)
  (case k8 => exact Nat.le_of_ble_eq_true rfl)
  (case k9 => exact BindsTo.of_eq rfl)
  (case c5 => decide)
  (case kB => exact locs rfl)
  (case c2 => exact rfl)
  (case c3 => exact rfl)
  (case c4 => exact rfl)
  clear B F X T hA hk hn hd hu
  intro L' h' F' N' B' X' T'
  (try dsimp only)
  (try k_fold)
  k_steps
  all_goals (
    rename Fr _ _ _ _ => F9
    rename News _ _ _ _ => N9
    (try dsimp only)
    first
      | (k_dflt (refine' hret _ _ _ ?e1 ⟨_, _, _, _, _, _, _, _, _, _, _, _, rfl, ?e2, ?e3, ?e4, ?e5, ?e6, ?e7, ?e8, ?e9, ?e10, ?e11, ?e12, ?e13⟩); (case e1 => exact F9.keep); (case e2 => exact News.fresh N9 (by k_mem)); (case e3 => exact News.get N9 (by k_mem)); (case e4 => exact News.fresh N9 (by k_mem)); (case e5 => exact News.get N9 (by k_mem)); (case e6 => exact News.fresh N9 (by k_mem)); (case e7 => exact News.get N9 (by k_mem)); (case e8 => exact News.fresh N9 (by k_mem)); (case e9 => exact News.get N9 (by k_mem)); (case e10 => exact News.fresh N9 (by k_mem)); (case e11 => exact News.get N9 (by k_mem)); (case e12 => assumption); (case e13 => assumption))
      | (exfalso; omega))
end
section
local macro_rules | `(tactic| walk_at "call ref") => `(tactic| (k_here; (with_reducible show wpAny _ _ (call (Value.ref 156) _) _ _ _); k_dflt (refine' use_ss (tdiv_spec ?a0 ?a1 ?a2 ?a3 ?a4 ?a5 ?a6 ?a7) ?B ?F ?X ?N ?T ?fr ?k ?hn ?d ?u ?_; (case B => k_asm); (case F => k_asm); (case X => k_asm); (case N => k_asm); (case T => k_asm); (case fr => exact rfl); (case k => exact rfl); (case hn => exact rfl); (case d => exact Nat.le_of_ble_eq_true rfl); (case u => exact Nat.le_of_ble_eq_true rfl); (case a2 => first | assumption | exact Fr.tup (by assumption) (by assumption) | exact News.isTup (by k_asm) (by k_mem)); (case a5 => first | assumption | exact Fr.tup (by assumption) (by assumption) | exact News.isTup (by k_asm) (by k_mem)); (case a0 => is_list); (case a1 => first | assumption | exact IntsAre.nil | exact IntsAre.cons _ _ IntsAre.nil | exact IntsAre.cons _ _ (IntsAre.cons _ _ IntsAre.nil)); (case a3 => is_list); (case a4 => first | assumption | exact IntsAre.nil | exact IntsAre.cons _ _ IntsAre.nil | exact IntsAre.cons _ _ (IntsAre.cons _ _ IntsAre.nil)); (case a6 => first | assumption | exact len_add | exact len_sub | exact len_mul | exact len_dlQ | exact len_dvQ | exact len_dvR (by assumption) | (simp; done)); (case a7 => first | assumption | solve_by_elim); k_whole); intro t' k' t1' k1' l' us' n' t2' k2' l2' us2' n2' h' tk' F' N' i' i2'; (try k_sweep); (try dsimp only); (try k_fold)))
set_option maxHeartbeats 4000000 in
theorem fdiv_spec {w : World} {s : Shared} {lx tx : Addr} {itx : Array Value} {xsx : List Int} (hlx : s.heap.IsList lx itx) (hix : IntsAre itx.toList xsx) (htx : IsTup s.heap tx [Value.bool false, Value.ref lx].toArray) {ly ty : Addr} {d : Int} {td : Tok} (hly : s.heap.IsList ly [Value.int d td].toArray) (hiy : IntsAre [Value.int d td] [d]) (hty : IsTup s.heap ty [Value.bool false, Value.ref ly].toArray) {w' : Int} {tw : Tok} (hlen : xsx.length ≤ 8) (ok : okDv w' xsx [d] = true) :
    Call w 850 163 [.ref tx, .ref ty, Value.int w' tw, Value.ref 254] s (fun r h' => PSS s.heap (sgB false (dvQ w' xsx [d])) (dvQ w' xsx [d]) (sgB false (dvR w' xsx [d])) (dvR w' xsx [d]) r h') := by
  have hb := len_dvR (w := w') (b := [d]) hlen
  unfold Call
  k_fill
  intro A A₀ base h₀ outer cn cs a ccd cl L m p loose mean mg mb Q E B F X T hA hk hn hd hu hret
  refine wider hn hA hd hu ?_
  generalize A.guards = gds
  refine' enter (binds := [(Str.ofString "x", .ref tx), (Str.ofString "y", .ref ty), (Str.ofString "w", Value.int w' tw), (Str.ofString "divrem", Value.ref 254)]) B F X T rfl hk ?k6 ?k7 ?k8 ?k9 ?kB ?_ ?c2 ?c3 ?c4 ?c5
  (case k6 => k_dflt k_is)
  (case k7 => k_dflt k_is)
  (case k8 => exact Nat.le_of_ble_eq_true rfl)
  (case k9 => exact BindsTo.of_eq rfl)
  (case c5 => decide)
  (case kB => exact locs rfl)
  (case c2 => exact rfl)
  (case c3 => exact rfl)
  (case c4 => exact rfl)
  clear B F X T hA hk hn hd hu
  intro L' h' F' N' B' X' T'
  (try dsimp only)
  (try k_fold)
  k_steps
  all_goals (
    rename Fr _ _ _ _ => F9
    rename News _ _ _ _ => N9
    (try dsimp only)
    first
      | (k_dflt (refine' hret _ _ _ ?e1 ⟨_, _, _, _, _, _, _, _, _, _, _, _, rfl, ?e2, ?e3, ?e4, ?e5, ?e6, ?e7, ?e8, ?e9, ?e10, ?e11, ?e12, ?e13⟩); (case e1 => exact F9.keep); (case e2 => exact News.fresh N9 (by k_mem)); (case e3 => exact News.get N9 (by k_mem)); (case e4 => exact News.fresh N9 (by k_mem)); (case e5 => exact News.get N9 (by k_mem)); (case e6 => exact News.fresh N9 (by k_mem)); (case e7 => exact News.get N9 (by k_mem)); (case e8 => exact News.fresh N9 (by k_mem)); (case e9 => exact News.get N9 (by k_mem)); (case e10 => exact News.fresh N9 (by k_mem)); (case e11 => exact News.get N9 (by k_mem)); (case e12 => assumption); (case e13 => assumption))
      | (exfalso; omega))
end
section
local macro_rules | `(tactic| walk_at "call ref") => `(tactic| (k_here; (with_reducible show wpAny _ _ (call (Value.ref 254) _) _ _ _); k_dflt (refine' use_ll (school_spec ?a0 ?a1 ?a2 ?a3 ?a4) ?B ?F ?X ?N ?T ?fr ?k ?hn ?d ?u ?_; (case B => k_asm); (case F => k_asm); (case X => k_asm); (case N => k_asm); (case T => k_asm); (case fr => exact rfl); (case k => exact rfl); (case hn => exact rfl); (case d => exact Nat.le_of_ble_eq_true rfl); (case u => exact Nat.le_of_ble_eq_true rfl); (case a0 => is_list); (case a1 => first | assumption | exact IntsAre.nil | exact IntsAre.cons _ _ IntsAre.nil | exact IntsAre.cons _ _ (IntsAre.cons _ _ IntsAre.nil)); (case a2 => is_list); (case a3 => first | assumption | exact IntsAre.nil | exact IntsAre.cons _ _ IntsAre.nil | exact IntsAre.cons _ _ (IntsAre.cons _ _ IntsAre.nil)); (case a4 => first | assumption | solve_by_elim); k_whole); intro t' k' l' us' n' l2' us2' n2' h' tk' F' N' i' i2'; (try k_sweep); (try dsimp only); (try k_fold)))
set_option maxHeartbeats 4000000 in
theorem cut_spec {w : World} {s : Shared} {lx tx : Addr} {sx : Bool} {itx : Array Value} {xsx : List Int} (hlx : s.heap.IsList lx itx) (hix : IntsAre itx.toList xsx) (htx : IsTup s.heap tx [Value.bool sx, Value.ref lx].toArray) {ld : Addr} {itd : Array Value} {xsd : List Int} (hld : s.heap.IsList ld itd) (hid : IntsAre itd.toList xsd) {w' : Int} {tw : Tok} (ok : okDv w' xsx xsd = true) :
    Call w 860 177 [.ref tx, .ref ld, Value.int w' tw, Value.ref 254] s (fun r h' => PSg s.heap sx (dvQ w' xsx xsd) r h') := by
  unfold Call
  k_fill
  intro A A₀ base h₀ outer cn cs a ccd cl L m p loose mean mg mb Q E B F X T hA hk hn hd hu hret
  refine wider hn hA hd hu ?_
  generalize A.guards = gds
  refine' enter (binds := [(Str.ofString "x", .ref tx), (Str.ofString "d", .ref ld), (Str.ofString "w", Value.int w' tw), (Str.ofString "divrem", Value.ref 254)]) B F X T rfl hk ?k6 ?k7 ?k8 ?k9 ?kB ?_ ?c2 ?c3 ?c4 ?c5
  (case k6 => k_dflt k_is)
  (case k7 => k_dflt k_is)
  (case k8 => exact Nat.le_of_ble_eq_true rfl)
  (case k9 => exact BindsTo.of_eq rfl)
  (case c5 => decide)
  (case kB => exact locs rfl)
  (case c2 => exact rfl)
  (case c3 => exact rfl)
  (case c4 => exact rfl)
  clear B F X T hA hk hn hd hu
  intro L' h' F' N' B' X' T'
  (try dsimp only)
  (try k_fold)
  k_steps
  all_goals (
    rename Fr _ _ _ _ => F9
    rename News _ _ _ _ => N9
    (try dsimp only)
    first
      | (k_dflt (refine' hret _ _ _ ?e1 ⟨_, _, _, _, _, rfl, ?e2, ?e3, ?e4, ?e5, ?e6⟩); (case e1 => exact F9.keep); (case e2 => exact News.fresh N9 (by k_mem)); (case e3 => exact News.get N9 (by k_mem)); (case e4 => exact News.fresh N9 (by k_mem)); (case e5 => exact News.get N9 (by k_mem)); (case e6 => assumption))
      | (exfalso; omega))
end
section
local macro_rules | `(tactic| walk_at "call ref") => `(tactic| (k_here; (with_reducible show wpAny _ _ (call (Value.ref 58) _) _ _ _); k_dflt (refine' use_list (normal_spec ?a0 ?a1 ?a2) ?B ?F ?X ?N ?T ?fr ?k ?hn ?d ?u ?_; (case B => k_asm); (case F => k_asm); (case X => k_asm); (case N => k_asm); (case T => k_asm); (case fr => exact rfl); (case k => exact rfl); (case hn => exact rfl); (case d => exact Nat.le_of_ble_eq_true rfl); (case u => exact Nat.le_of_ble_eq_true rfl); (case a0 => is_list); (case a1 => first | assumption | exact IntsAre.nil | exact IntsAre.cons _ _ IntsAre.nil | exact IntsAre.cons _ _ (IntsAre.cons _ _ IntsAre.nil)); (case a2 => assumption); k_whole); intro l' us' n' h' tk' F' N' i' ne'; (try k_sweep); (try dsimp only); (try k_fold)))
local macro_rules | `(tactic| walk_at "call ref") => `(tactic| (k_here; (with_reducible show wpAny _ _ (call (Value.ref 254) _) _ _ _); k_dflt (refine' use_ll (school_spec ?a0 ?a1 ?a2 ?a3 ?a4) ?B ?F ?X ?N ?T ?fr ?k ?hn ?d ?u ?_; (case B => k_asm); (case F => k_asm); (case X => k_asm); (case N => k_asm); (case T => k_asm); (case fr => exact rfl); (case k => exact rfl); (case hn => exact rfl); (case d => exact Nat.le_of_ble_eq_true rfl); (case u => exact Nat.le_of_ble_eq_true rfl); (case a0 => is_list); (case a1 => first | assumption | exact IntsAre.nil | exact IntsAre.cons _ _ IntsAre.nil | exact IntsAre.cons _ _ (IntsAre.cons _ _ IntsAre.nil)); (case a2 => is_list); (case a3 => first | assumption | exact IntsAre.nil | exact IntsAre.cons _ _ IntsAre.nil | exact IntsAre.cons _ _ (IntsAre.cons _ _ IntsAre.nil)); (case a4 => first | assumption | solve_by_elim); k_whole); intro t' k' l' us' n' l2' us2' n2' h' tk' F' N' i' i2'; (try k_sweep); (try dsimp only); (try k_fold)))
local macro_rules | `(tactic| walk_at "exec While Compare cons nil") => `(tactic| (k_here; k_dflt (refine whl_start 8 ?_)))
local macro_rules | `(tactic| walk_at "WhlIf") => `(tactic| first | exact whl_common0 (by assumption) | (refine whl_common (by assumption) (by assumption) (fun c1 c2 c3 c4 c5 => ?_) (fun c1 c2 c3 => ?_)))
set_option maxHeartbeats 4000000 in
theorem common_spec {w : World} {s : Shared} {la : Addr} {ita : Array Value} {xsa : List Int} (hla : s.heap.IsList la ita) (hia : IntsAre ita.toList xsa) {lb : Addr} {itb : Array Value} {xsb : List Int} (hlb : s.heap.IsList lb itb) (hib : IntsAre itb.toList xsb) {w' : Int} {tw : Tok} (hlen : xsb.length ≤ 8) (ok : okCommon w' 6 xsa xsb = true) :
    Call w 860 170 [.ref la, .ref lb, Value.int w' tw, Value.ref 254] s (fun r h' => PList s.heap (commonL w' 6 xsa xsb) r h') := by
  have he : commonL w' 6 xsa xsb = commonL w' 6 xsa xsb := rfl
  unfold Call
  k_fill
  intro A A₀ base h₀ outer cn cs a ccd cl L m p loose mean mg mb Q E B F X T hA hk hn hd hu hret
  refine wider hn hA hd hu ?_
  generalize A.guards = gds
  refine' enter (binds := [(Str.ofString "a", .ref la), (Str.ofString "b", .ref lb), (Str.ofString "w", Value.int w' tw), (Str.ofString "divrem", Value.ref 254)]) B F X T rfl hk ?k6 ?k7 ?k8 ?k9 ?kB ?_ ?c2 ?c3 ?c4 ?c5
  (case k6 => k_dflt k_is)
  (case k7 => k_dflt k_is)
  (case k8 => exact Nat.le_of_ble_eq_true rfl)
  (case k9 => exact BindsTo.of_eq rfl)
  (case c5 => decide)
  (case kB => exact locs rfl)
  (case c2 => exact rfl)
  (case c3 => exact rfl)
  (case c4 => exact rfl)
  clear B F X T hA hk hn hd hu
  intro L' h' F' N' B' X' T'
  (try dsimp only)
  (try k_fold)
  k_steps
  all_goals (
    rename Fr _ _ _ _ => F9
    rename News _ _ _ _ => N9
    (try dsimp only)
    first
      | (k_dflt (refine' hret _ _ _ ?e1 ⟨_, _, _, rfl, ?e2, ?e3, ?e4⟩); (case e1 => exact F9.keep); (case e2 => exact News.fresh N9 (by k_mem)); (case e3 => exact News.get N9 (by k_mem)); (case e4 => exact ints_eq (by assumption) (Eq.symm (by assumption))))
      | (exfalso; omega))
end
section
local macro_rules | `(tactic| walk_at "call ref") => `(tactic| (k_here; (with_reducible show wpAny _ _ (call (Value.ref 128) _) _ _ _); k_dflt (refine' use_tup (s_neg_spec ?a0 ?a1 ?a2 ?a3) ?B ?F ?X ?N ?T ?fr ?k ?hn ?d ?u ?_; (case B => k_asm); (case F => k_asm); (case X => k_asm); (case N => k_asm); (case T => k_asm); (case fr => exact rfl); (case k => exact rfl); (case hn => exact rfl); (case d => exact Nat.le_of_ble_eq_true rfl); (case u => exact Nat.le_of_ble_eq_true rfl); (case a2 => first | assumption | exact Fr.tup (by assumption) (by assumption) | exact News.isTup (by k_asm) (by k_mem)); (case a0 => is_list); (case a1 => first | assumption | exact IntsAre.nil | exact IntsAre.cons _ _ IntsAre.nil | exact IntsAre.cons _ _ (IntsAre.cons _ _ IntsAre.nil)); (case a3 => first | assumption | exact len_add | exact len_sub | exact len_mul | exact len_dlQ | exact len_dvQ | exact len_dvR (by assumption) | (simp; done)); k_whole); intro t' k' h' tk' F' N' ne'; (try k_sweep); (try dsimp only); (try k_fold)))
set_option maxHeartbeats 4000000 in
theorem r_neg_spec {w : World} {s : Shared} {lx tx : Addr} {sx : Bool} {itx : Array Value} {xsx : List Int} (hlx : s.heap.IsList lx itx) (hix : IntsAre itx.toList xsx) (htx : IsTup s.heap tx [Value.bool sx, Value.ref lx].toArray) {rx lx2 : Addr} (hrx : IsTup s.heap rx [Value.ref tx, Value.ref lx2].toArray) (hlen : xsx.length ≤ 8) :
    Call w 880 191 [.ref rx] s (fun r h' => PTT s.heap (sgB (!sx) xsx) lx lx2 r h') := by
  unfold Call
  k_fill
  intro A A₀ base h₀ outer cn cs a ccd cl L m p loose mean mg mb Q E B F X T hA hk hn hd hu hret
  refine wider hn hA hd hu ?_
  generalize A.guards = gds
  refine' enter (binds := [(Str.ofString "x", .ref rx)]) B F X T rfl hk ?k6 ?k7 ?k8 ?k9 ?kB ?_ ?c2 ?c3 ?c4 ?c5
  (case k6 => k_dflt k_is)
  (case k7 => k_dflt k_is)
  (case k8 => exact Nat.le_of_ble_eq_true rfl)
  (case k9 => exact BindsTo.of_eq rfl)
  (case c5 => decide)
  (case kB => exact locs rfl)
  (case c2 => exact rfl)
  (case c3 => exact rfl)
  (case c4 => exact rfl)
  clear B F X T hA hk hn hd hu
  intro L' h' F' N' B' X' T'
  (try dsimp only)
  (try k_fold)
  k_steps
  all_goals (
    rename Fr _ _ _ _ => F9
    rename News _ _ _ _ => N9
    (try dsimp only)
    first
      | (k_dflt (refine' hret _ _ _ ?e1 ⟨_, _, _, _, rfl, ?e2, ?e3, ?e4, ?e5⟩); (case e1 => exact F9.keep); (case e2 => exact News.fresh N9 (by k_mem)); (case e3 => exact News.get N9 (by k_mem)); (case e4 => exact News.fresh N9 (by k_mem)); (case e5 => exact News.get N9 (by k_mem)))
      | (exfalso; omega))
end
section
theorem okC_len {w : Int} {n : Nat} {a b : List Int} (h : okCommon w n a b = true) : a.length ≤ 8 := by
  cases n with
  | zero => cases h
  | succ n =>
    obtain ⟨o1, _⟩ := (show _ ∧ _ by simpa only [okCommon, Bool.and_eq_true] using h)
    exact of_decide_eq_true o1
local macro_rules | `(tactic| walk_at "call builtin:len") => `(tactic| (k_here; (with_reducible show wpAny _ _ (call (Value.builtin "len") [Value.ref _]) _ _ _); k_dflt (refine' len_ints ?a ?b ?c ?_; (case a => is_list); (case b => first | assumption | exact IntsAre.nil | exact IntsAre.cons _ _ IntsAre.nil | exact IntsAre.cons _ _ (IntsAre.cons _ _ IntsAre.nil)); (case c => first | assumption | (simp; done)); k_whole)))
local macro_rules | `(tactic| walk_at "call ref") => `(tactic| (k_here; (with_reducible show wpAny _ _ (call (Value.ref 212) _) _ _ _); k_dflt (refine' use_list (mul_spec ?a0 ?a1 ?a2 ?a3 ?a4) ?B ?F ?X ?N ?T ?fr ?k ?hn ?d ?u ?_; (case B => k_asm); (case F => k_asm); (case X => k_asm); (case N => k_asm); (case T => k_asm); (case fr => exact rfl); (case k => exact rfl); (case hn => exact rfl); (case d => exact Nat.le_of_ble_eq_true rfl); (case u => exact Nat.le_of_ble_eq_true rfl); (case a0 => is_list); (case a1 => first | assumption | exact IntsAre.nil | exact IntsAre.cons _ _ IntsAre.nil | exact IntsAre.cons _ _ (IntsAre.cons _ _ IntsAre.nil)); (case a2 => is_list); (case a3 => first | assumption | exact IntsAre.nil | exact IntsAre.cons _ _ IntsAre.nil | exact IntsAre.cons _ _ (IntsAre.cons _ _ IntsAre.nil)); (case a4 => first | assumption | solve_by_elim); k_whole); intro l' us' n' h' tk' F' N' i' ne'; (try k_sweep); (try dsimp only); (try k_fold)))
local macro_rules | `(tactic| walk_at "call ref") => `(tactic| (k_here; (with_reducible show wpAny _ _ (call (Value.ref 254) _) _ _ _); k_dflt (refine' use_ll (school_spec ?a0 ?a1 ?a2 ?a3 ?a4) ?B ?F ?X ?N ?T ?fr ?k ?hn ?d ?u ?_; (case B => k_asm); (case F => k_asm); (case X => k_asm); (case N => k_asm); (case T => k_asm); (case fr => exact rfl); (case k => exact rfl); (case hn => exact rfl); (case d => exact Nat.le_of_ble_eq_true rfl); (case u => exact Nat.le_of_ble_eq_true rfl); (case a0 => is_list); (case a1 => first | assumption | exact IntsAre.nil | exact IntsAre.cons _ _ IntsAre.nil | exact IntsAre.cons _ _ (IntsAre.cons _ _ IntsAre.nil)); (case a2 => is_list); (case a3 => first | assumption | exact IntsAre.nil | exact IntsAre.cons _ _ IntsAre.nil | exact IntsAre.cons _ _ (IntsAre.cons _ _ IntsAre.nil)); (case a4 => first | assumption | solve_by_elim); k_whole); intro t' k' l' us' n' l2' us2' n2' h' tk' F' N' i' i2'; (try k_sweep); (try dsimp only); (try k_fold)))
local macro_rules | `(tactic| walk_at "call ref") => `(tactic| (k_here; (with_reducible show wpAny _ _ (call (Value.ref 135) _) _ _ _); k_dflt (refine' use_sg (s_add_spec ?a0 ?a1 ?a2 ?a3 ?a4 ?a5 ?a6) ?B ?F ?X ?N ?T ?fr ?k ?hn ?d ?u ?_; (case B => k_asm); (case F => k_asm); (case X => k_asm); (case N => k_asm); (case T => k_asm); (case fr => exact rfl); (case k => exact rfl); (case hn => exact rfl); (case d => exact Nat.le_of_ble_eq_true rfl); (case u => exact Nat.le_of_ble_eq_true rfl); (case a2 => first | assumption | exact Fr.tup (by assumption) (by assumption) | exact News.isTup (by k_asm) (by k_mem)); (case a5 => first | assumption | exact Fr.tup (by assumption) (by assumption) | exact News.isTup (by k_asm) (by k_mem)); (case a0 => is_list); (case a1 => first | assumption | exact IntsAre.nil | exact IntsAre.cons _ _ IntsAre.nil | exact IntsAre.cons _ _ (IntsAre.cons _ _ IntsAre.nil)); (case a3 => is_list); (case a4 => first | assumption | exact IntsAre.nil | exact IntsAre.cons _ _ IntsAre.nil | exact IntsAre.cons _ _ (IntsAre.cons _ _ IntsAre.nil)); (case a6 => first | assumption | solve_by_elim); k_whole); intro t' k' l' us' n' h' tk' F' N' i'; (try k_sweep); (try dsimp only); (try k_fold)))
local macro_rules | `(tactic| walk_at "call ref") => `(tactic| (k_here; (with_reducible show wpAny _ _ (call (Value.ref 149) _) _ _ _); k_dflt (refine' use_sg (s_mul_spec ?a0 ?a1 ?a2 ?a3 ?a4 ?a5 ?a6) ?B ?F ?X ?N ?T ?fr ?k ?hn ?d ?u ?_; (case B => k_asm); (case F => k_asm); (case X => k_asm); (case N => k_asm); (case T => k_asm); (case fr => exact rfl); (case k => exact rfl); (case hn => exact rfl); (case d => exact Nat.le_of_ble_eq_true rfl); (case u => exact Nat.le_of_ble_eq_true rfl); (case a2 => first | assumption | exact Fr.tup (by assumption) (by assumption) | exact News.isTup (by k_asm) (by k_mem)); (case a5 => first | assumption | exact Fr.tup (by assumption) (by assumption) | exact News.isTup (by k_asm) (by k_mem)); (case a0 => is_list); (case a1 => first | assumption | exact IntsAre.nil | exact IntsAre.cons _ _ IntsAre.nil | exact IntsAre.cons _ _ (IntsAre.cons _ _ IntsAre.nil)); (case a3 => is_list); (case a4 => first | assumption | exact IntsAre.nil | exact IntsAre.cons _ _ IntsAre.nil | exact IntsAre.cons _ _ (IntsAre.cons _ _ IntsAre.nil)); (case a6 => first | assumption | solve_by_elim); k_whole); intro t' k' l' us' n' h' tk' F' N' i'; (try k_sweep); (try dsimp only); (try k_fold)))
local macro_rules | `(tactic| walk_at "call ref") => `(tactic| (k_here; (with_reducible show wpAny _ _ (call (Value.ref 184) _) _ _ _); k_dflt (refine' use_tup signed_of_spec ?B ?F ?X ?N ?T ?fr ?k ?hn ?d ?u ?_; (case B => k_asm); (case F => k_asm); (case X => k_asm); (case N => k_asm); (case T => k_asm); (case fr => exact rfl); (case k => exact rfl); (case hn => exact rfl); (case d => exact Nat.le_of_ble_eq_true rfl); (case u => exact Nat.le_of_ble_eq_true rfl); k_whole); intro t' k' h' tk' F' N' ne'; (try k_sweep); (try dsimp only); (try k_fold)))
local macro_rules | `(tactic| walk_at "call ref") => `(tactic| (k_here; (with_reducible show wpAny _ _ (call (Value.ref 170) _) _ _ _); k_dflt (refine' use_list (common_spec ?a0 ?a1 ?a2 ?a3 ?a4 ?a5) ?B ?F ?X ?N ?T ?fr ?k ?hn ?d ?u ?_; (case B => k_asm); (case F => k_asm); (case X => k_asm); (case N => k_asm); (case T => k_asm); (case fr => exact rfl); (case k => exact rfl); (case hn => exact rfl); (case d => exact Nat.le_of_ble_eq_true rfl); (case u => exact Nat.le_of_ble_eq_true rfl); (case a0 => is_list); (case a1 => first | assumption | exact IntsAre.nil | exact IntsAre.cons _ _ IntsAre.nil | exact IntsAre.cons _ _ (IntsAre.cons _ _ IntsAre.nil)); (case a2 => is_list); (case a3 => first | assumption | exact IntsAre.nil | exact IntsAre.cons _ _ IntsAre.nil | exact IntsAre.cons _ _ (IntsAre.cons _ _ IntsAre.nil)); (case a4 => first | exact len_common (by assumption) | assumption | exact len_add | exact len_sub | exact len_mul | exact len_dlQ | exact len_dvQ | exact len_dvR (by assumption) | (simp; done)); (case a5 => first | assumption | solve_by_elim); k_whole); intro l' us' n' h' tk' F' N' i' ne'; (try k_sweep); (try dsimp only); (try k_fold)))
local macro_rules | `(tactic| walk_at "call ref") => `(tactic| (k_here; (with_reducible show wpAny _ _ (call (Value.ref 177) _) _ _ _); k_dflt (refine' use_sg (cut_spec ?a0 ?a1 ?a2 ?a3 ?a4 ?a5) ?B ?F ?X ?N ?T ?fr ?k ?hn ?d ?u ?_; (case B => k_asm); (case F => k_asm); (case X => k_asm); (case N => k_asm); (case T => k_asm); (case fr => exact rfl); (case k => exact rfl); (case hn => exact rfl); (case d => exact Nat.le_of_ble_eq_true rfl); (case u => exact Nat.le_of_ble_eq_true rfl); (case a2 => first | assumption | exact Fr.tup (by assumption) (by assumption) | exact News.isTup (by k_asm) (by k_mem)); (case a0 => is_list); (case a1 => first | assumption | exact IntsAre.nil | exact IntsAre.cons _ _ IntsAre.nil | exact IntsAre.cons _ _ (IntsAre.cons _ _ IntsAre.nil)); (case a3 => is_list); (case a4 => first | assumption | exact IntsAre.nil | exact IntsAre.cons _ _ IntsAre.nil | exact IntsAre.cons _ _ (IntsAre.cons _ _ IntsAre.nil)); (case a5 => first | assumption | solve_by_elim); k_whole); intro t' k' l' us' n' h' tk' F' N' i'; (try k_sweep); (try dsimp only); (try k_fold)))
set_option maxHeartbeats 4000000 in
theorem r_add_spec {w : World} {s : Shared} {lx tx : Addr} {sx : Bool} {itx : Array Value} {xsx : List Int} (hlx : s.heap.IsList lx itx) (hix : IntsAre itx.toList xsx) (htx : IsTup s.heap tx [Value.bool sx, Value.ref lx].toArray) {ldx : Addr} {itdx : Array Value} {xsdx : List Int} (hldx : s.heap.IsList ldx itdx) (hidx : IntsAre itdx.toList xsdx) {rx : Addr} (hrx : IsTup s.heap rx [Value.ref tx, Value.ref ldx].toArray) {ly ty : Addr} {sy : Bool} {ity : Array Value} {xsy : List Int} (hly : s.heap.IsList ly ity) (hiy : IntsAre ity.toList xsy) (hty : IsTup s.heap ty [Value.bool sy, Value.ref ly].toArray) {ldy : Addr} {itdy : Array Value} {xsdy : List Int} (hldy : s.heap.IsList ldy itdy) (hidy : IntsAre itdy.toList xsdy) {ry : Addr} (hry : IsTup s.heap ry [Value.ref ty, Value.ref ldy].toArray) {w' : Int} {tw : Tok} (hlen : xsdy.length ≤ 8) (ok : OkR w' ((sx, xsx), xsdx) ((sy, xsy), xsdy)) :
    Call w 850 198 [.ref rx, .ref ry, Value.int w' tw, Value.ref 212, Value.ref 254] s (fun r h' => PSL s.heap (rAdd w' ((sx, xsx), xsdx) ((sy, xsy), xsdy)).1.1 (rAdd w' ((sx, xsx), xsdx) ((sy, xsy), xsdy)).1.2 (rAdd w' ((sx, xsx), xsdx) ((sy, xsy), xsdy)).2 r h') := by
  obtain ⟨c1, d1, d2, m1, m2, sa, ne, c2, d3, d4, m3⟩ := ok
  have q1 := len_common c1
  have q2 := len_common c2
  have q3 := len_dvQ (w := w') (a := xsdx) (b := rTold w' ((sx, xsx), xsdx) ((sy, xsy), xsdy))
  have q4 := len_dvQ (w := w') (a := xsdy) (b := rTold w' ((sx, xsx), xsdx) ((sy, xsy), xsdy))
  have q5 : (rTop w' ((sx, xsx), xsdx) ((sy, xsy), xsdy)).2.length ≤ 8 := okC_len c2
  unfold Call
  k_fill
  intro A A₀ base h₀ outer cn cs a ccd cl L m p loose mean mg mb Q E B F X T hA hk hn hd hu hret
  refine wider hn hA hd hu ?_
  generalize A.guards = gds
  refine' enter (binds := [(Str.ofString "x", .ref rx), (Str.ofString "y", .ref ry), (Str.ofString "w", Value.int w' tw), (Str.ofString "mul", Value.ref 212), (Str.ofString "divrem", Value.ref 254)]) B F X T rfl hk ?k6 ?k7 ?k8 ?k9 ?kB ?_ ?c2 ?c3 ?c4 ?c5
  (case k6 => k_dflt k_is)
  (case k7 => k_dflt k_is)
  (case k8 => exact Nat.le_of_ble_eq_true rfl)
  (case k9 => exact BindsTo.of_eq rfl)
  (case c5 => decide)
  (case kB => exact locs rfl)
  (case c2 => exact rfl)
  (case c3 => exact rfl)
  (case c4 => exact rfl)
  clear B F X T hA hk hn hd hu
  intro L' h' F' N' B' X' T'
  (try dsimp only)
  (try k_fold)
  k_steps
  all_goals (
    rename Fr _ _ _ _ => F9
    rename News _ _ _ _ => N9
    (try dsimp only)
    first
      | (k_dflt (refine' hret _ _ _ ?e1 ⟨_, _, _, _, _, _, _, _, _, _, rfl, ?e2, ?e3, ?e4, ?e5, ?e6, ?e7, ?e8, ?e9, ?e10, ?e11⟩); (case e1 => exact F9.keep); (case e2 => exact News.fresh N9 (by k_mem)); (case e3 => exact News.get N9 (by k_mem)); (case e4 => exact News.fresh N9 (by k_mem)); (case e5 => exact News.get N9 (by k_mem)); (case e6 => exact News.fresh N9 (by k_mem)); (case e7 => exact News.get N9 (by k_mem)); (case e8 => exact News.fresh N9 (by k_mem)); (case e9 => exact News.get N9 (by k_mem)); (case e10 => assumption); (case e11 => assumption))
      | (exact absurd (show _ = _ by assumption) ne)
      | (exfalso; omega))
end
section
local macro_rules | `(tactic| walk_at "call ref") => `(tactic| (k_here; (with_reducible show wpAny _ _ (call (Value.ref 191) _) _ _ _); k_dflt (refine' use_tt (r_neg_spec ?a0 ?a1 ?a2 ?a3 ?a4) ?B ?F ?X ?N ?T ?fr ?k ?hn ?d ?u ?_; (case B => k_asm); (case F => k_asm); (case X => k_asm); (case N => k_asm); (case T => k_asm); (case fr => exact rfl); (case k => exact rfl); (case hn => exact rfl); (case d => exact Nat.le_of_ble_eq_true rfl); (case u => exact Nat.le_of_ble_eq_true rfl); (case a3 => first | assumption | exact Fr.tup (by assumption) (by assumption) | exact News.isTup (by k_asm) (by k_mem)); (case a2 => first | assumption | exact Fr.tup (by assumption) (by assumption) | exact News.isTup (by k_asm) (by k_mem)); (case a0 => is_list); (case a1 => first | assumption | exact IntsAre.nil | exact IntsAre.cons _ _ IntsAre.nil | exact IntsAre.cons _ _ (IntsAre.cons _ _ IntsAre.nil)); (case a4 => first | assumption | exact len_add | exact len_sub | exact len_mul | exact len_dlQ | exact len_dvQ | exact len_dvR (by assumption) | (simp; done)); k_whole); intro t' k' t1' k1' h' tk' F' N'; (try k_sweep); (try dsimp only); (try k_fold)))
local macro_rules | `(tactic| walk_at "call ref") => `(tactic| (k_here; (with_reducible show wpAny _ _ (call (Value.ref 198) _) _ _ _); k_dflt (refine' use_sl (r_add_spec ?a0 ?a1 ?a2 ?a3 ?a4 ?a5 ?a6 ?a7 ?a8 ?a9 ?a10 ?a11 ?a12 ?a13) ?B ?F ?X ?N ?T ?fr ?k ?hn ?d ?u ?_; (case B => k_asm); (case F => k_asm); (case X => k_asm); (case N => k_asm); (case T => k_asm); (case fr => exact rfl); (case k => exact rfl); (case hn => exact rfl); (case d => exact Nat.le_of_ble_eq_true rfl); (case u => exact Nat.le_of_ble_eq_true rfl); (case a5 => first | assumption | exact Fr.tup (by assumption) (by assumption) | exact News.isTup (by k_asm) (by k_mem)); (case a2 => first | assumption | exact Fr.tup (by assumption) (by assumption) | exact News.isTup (by k_asm) (by k_mem)); (case a11 => first | assumption | exact Fr.tup (by assumption) (by assumption) | exact News.isTup (by k_asm) (by k_mem)); (case a8 => first | assumption | exact Fr.tup (by assumption) (by assumption) | exact News.isTup (by k_asm) (by k_mem)); (case a0 => is_list); (case a1 => first | assumption | exact IntsAre.nil | exact IntsAre.cons _ _ IntsAre.nil | exact IntsAre.cons _ _ (IntsAre.cons _ _ IntsAre.nil)); (case a3 => is_list); (case a4 => first | assumption | exact IntsAre.nil | exact IntsAre.cons _ _ IntsAre.nil | exact IntsAre.cons _ _ (IntsAre.cons _ _ IntsAre.nil)); (case a6 => is_list); (case a7 => first | assumption | exact IntsAre.nil | exact IntsAre.cons _ _ IntsAre.nil | exact IntsAre.cons _ _ (IntsAre.cons _ _ IntsAre.nil)); (case a9 => is_list); (case a10 => first | assumption | exact IntsAre.nil | exact IntsAre.cons _ _ IntsAre.nil | exact IntsAre.cons _ _ (IntsAre.cons _ _ IntsAre.nil)); (case a12 => first | assumption | exact len_add | exact len_sub | exact len_mul | exact len_dlQ | exact len_dvQ | exact len_dvR (by assumption) | (simp; done)); (case a13 => first | assumption | solve_by_elim); k_whole); intro t' k' t1' k1' l' us' n' l2' us2' n2' h' tk' F' N' i' i2'; (try k_sweep); (try dsimp only); (try k_fold)))
set_option maxHeartbeats 4000000 in
theorem r_sub_spec {w : World} {s : Shared} {lx tx : Addr} {sx : Bool} {itx : Array Value} {xsx : List Int} (hlx : s.heap.IsList lx itx) (hix : IntsAre itx.toList xsx) (htx : IsTup s.heap tx [Value.bool sx, Value.ref lx].toArray) {ldx : Addr} {itdx : Array Value} {xsdx : List Int} (hldx : s.heap.IsList ldx itdx) (hidx : IntsAre itdx.toList xsdx) {rx : Addr} (hrx : IsTup s.heap rx [Value.ref tx, Value.ref ldx].toArray) {ly ty : Addr} {sy : Bool} {ity : Array Value} {xsy : List Int} (hly : s.heap.IsList ly ity) (hiy : IntsAre ity.toList xsy) (hty : IsTup s.heap ty [Value.bool sy, Value.ref ly].toArray) {ldy : Addr} {itdy : Array Value} {xsdy : List Int} (hldy : s.heap.IsList ldy itdy) (hidy : IntsAre itdy.toList xsdy) {ry : Addr} (hry : IsTup s.heap ry [Value.ref ty, Value.ref ldy].toArray) {w' : Int} {tw : Tok} (hlen : xsdy.length ≤ 8) (hlen2 : xsy.length ≤ 8) (ok : OkR w' ((sx, xsx), xsdx) ((sgB (!sy) xsy, xsy), xsdy)) :
    Call w 840 205 [.ref rx, .ref ry, Value.int w' tw, Value.ref 212, Value.ref 254] s (fun r h' => PSL s.heap (rAdd w' ((sx, xsx), xsdx) ((sgB (!sy) xsy, xsy), xsdy)).1.1 (rAdd w' ((sx, xsx), xsdx) ((sgB (!sy) xsy, xsy), xsdy)).1.2 (rAdd w' ((sx, xsx), xsdx) ((sgB (!sy) xsy, xsy), xsdy)).2 r h') := by
  unfold Call
  k_fill
  intro A A₀ base h₀ outer cn cs a ccd cl L m p loose mean mg mb Q E B F X T hA hk hn hd hu hret
  refine wider hn hA hd hu ?_
  generalize A.guards = gds
  refine' enter (binds := [(Str.ofString "x", .ref rx), (Str.ofString "y", .ref ry), (Str.ofString "w", Value.int w' tw), (Str.ofString "mul", Value.ref 212), (Str.ofString "divrem", Value.ref 254)]) B F X T rfl hk ?k6 ?k7 ?k8 ?k9 ?kB ?_ ?c2 ?c3 ?c4 ?c5
  (case k6 => k_dflt k_is)
  (case k7 => k_dflt k_is)
  (case k8 => exact Nat.le_of_ble_eq_true rfl)
  (case k9 => exact BindsTo.of_eq rfl)
  (case c5 => decide)
  (case kB => exact locs rfl)
  (case c2 => exact rfl)
  (case c3 => exact rfl)
  (case c4 => exact rfl)
  clear B F X T hA hk hn hd hu
  intro L' h' F' N' B' X' T'
  (try dsimp only)
  (try k_fold)
  k_steps
  all_goals (
    rename Fr _ _ _ _ => F9
    rename News _ _ _ _ => N9
    (try dsimp only)
    first
      | (k_dflt (refine' hret _ _ _ ?e1 ⟨_, _, _, _, _, _, _, _, _, _, rfl, ?e2, ?e3, ?e4, ?e5, ?e6, ?e7, ?e8, ?e9, ?e10, ?e11⟩); (case e1 => exact F9.keep); (case e2 => exact News.fresh N9 (by k_mem)); (case e3 => exact News.get N9 (by k_mem)); (case e4 => exact News.fresh N9 (by k_mem)); (case e5 => exact News.get N9 (by k_mem)); (case e6 => exact News.fresh N9 (by k_mem)); (case e7 => exact News.get N9 (by k_mem)); (case e8 => exact News.fresh N9 (by k_mem)); (case e9 => exact News.get N9 (by k_mem)); (case e10 => assumption); (case e11 => assumption))
      | (exfalso; omega))
end
section
local macro_rules | `(tactic| walk_at "exec For Name Subscript cons nil") => `(tactic| (k_here; (rename Fr _ _ _ _ => lF'); (with_unfolding_all refine' For_turns lF' ?_; k_whole)))
set_option maxHeartbeats 4000000 in
theorem worth0 {w : World} {s : Shared} {la : Addr} (hla : s.heap.IsList la [].toArray) (hia : IntsAre [] []) {w' : Int} {tw : Tok} (hw : 3 ≤ w') (hw2 : w' ≤ 8)  :
    Call w 900 275 [.ref la, Value.int w' tw] s (fun r h' => PInt (worthL w' []) r h') := by
  unfold Call
  k_fill
  intro A A₀ base h₀ outer cn cs a ccd cl L m p loose mean mg mb Q E B F X T hA hk hn hd hu hret
  refine wider hn hA hd hu ?_
  generalize A.guards = gds
  refine' enter (binds := [(Str.ofString "limbs", .ref la), (Str.ofString "w", Value.int w' tw)]) B F X T rfl hk ?k6 ?k7 ?k8 ?k9 ?kB ?_ ?c2 ?c3 ?c4 ?c5
  (case k6 => k_dflt k_is)
  (case k7 => k_dflt k_is)
  (case k8 => exact Nat.le_of_ble_eq_true rfl)
  (case k9 => exact BindsTo.of_eq rfl)
  (case c5 => decide)
  (case kB => exact locs rfl)
  (case c2 => exact rfl)
  (case c3 => exact rfl)
  (case c4 => exact rfl)
  clear B F X T hA hk hn hd hu
  intro L' h' F' N' B' X' T'
  (try dsimp only)
  (try k_fold)
  k_steps
  all_goals (
    rename Fr _ _ _ _ => F9
    rename News _ _ _ _ => N9
    (try dsimp only)
    first
      | (k_dflt (refine' hret _ _ _ ?e1 (pint_of ?e2)); (case e1 => exact F9.keep); (case e2 => rfl))
      | (exfalso; omega))

set_option maxHeartbeats 4000000 in
theorem worth1 {w : World} {s : Shared} {la : Addr} {x : Int} {tx : Tok} (x_0 : 0 ≤ x) (x_1 : x < 256) (hla : s.heap.IsList la [Value.int x tx].toArray) (hia : IntsAre [Value.int x tx] [x]) {w' : Int} {tw : Tok} (hw : 3 ≤ w') (hw2 : w' ≤ 8)  :
    Call w 900 275 [.ref la, Value.int w' tw] s (fun r h' => PInt (worthL w' [x]) r h') := by
  unfold Call
  k_fill
  intro A A₀ base h₀ outer cn cs a ccd cl L m p loose mean mg mb Q E B F X T hA hk hn hd hu hret
  refine wider hn hA hd hu ?_
  generalize A.guards = gds
  refine' enter (binds := [(Str.ofString "limbs", .ref la), (Str.ofString "w", Value.int w' tw)]) B F X T rfl hk ?k6 ?k7 ?k8 ?k9 ?kB ?_ ?c2 ?c3 ?c4 ?c5
  (case k6 => k_dflt k_is)
  (case k7 => k_dflt k_is)
  (case k8 => exact Nat.le_of_ble_eq_true rfl)
  (case k9 => exact BindsTo.of_eq rfl)
  (case c5 => decide)
  (case kB => exact locs rfl)
  (case c2 => exact rfl)
  (case c3 => exact rfl)
  (case c4 => exact rfl)
  clear B F X T hA hk hn hd hu
  intro L' h' F' N' B' X' T'
  (try dsimp only)
  (try k_fold)
  k_steps
  all_goals (
    rename Fr _ _ _ _ => F9
    rename News _ _ _ _ => N9
    (try dsimp only)
    first
      | (k_dflt (refine' hret _ _ _ ?e1 (pint_of ?e2)); (case e1 => exact F9.keep); (case e2 => rfl))
      | (exfalso; omega))

theorem worth_spec {w : World} {s : Shared} {la : Addr} {ita : Array Value} {xsa : List Int} (hla : s.heap.IsList la ita) (hia : IntsAre ita.toList xsa) {w' : Int} {tw : Tok} (ok : okWorth w' xsa = true) :
    Call w 900 275 [.ref la, Value.int w' tw] s (fun r h' => PInt (worthL w' xsa) r h') := by
  obtain ⟨hw, ok⟩ := and_of ok
  match xsa, ok with
  | [], _ =>
    obtain rfl := arr0 hia
    exact worth0 hla hia (limW_lo hw) (limW_hi hw)
  | [x], ok =>
    obtain ⟨t, rfl⟩ := arr1 hia
    exact worth1 (lim_lo ok) (lim_hi ok) hla hia (limW_lo hw) (limW_hi hw)

local macro_rules | `(tactic| walk_at "call ref") => `(tactic| (k_here; (with_reducible show wpAny _ _ (call (Value.ref 275) _) _ _ _); k_dflt (refine' use_int (worth_spec ?a0 ?a1 ?a2) ?B ?F ?X ?N ?T ?fr ?k ?hn ?d ?u ?_; (case B => k_asm); (case F => k_asm); (case X => k_asm); (case N => k_asm); (case T => k_asm); (case fr => exact rfl); (case k => exact rfl); (case hn => exact rfl); (case d => exact Nat.le_of_ble_eq_true rfl); (case u => exact Nat.le_of_ble_eq_true rfl); (case a0 => is_list); (case a1 => first | assumption | exact IntsAre.nil | exact IntsAre.cons _ _ IntsAre.nil | exact IntsAre.cons _ _ (IntsAre.cons _ _ IntsAre.nil)); (case a2 => first | assumption | solve_by_elim); k_whole); intro t' h' tk' F' N'; (try k_sweep); (try dsimp only); (try k_fold)))
set_option maxHeartbeats 4000000 in
theorem plain_spec {w : World} {s : Shared} {lx tx : Addr} {sx : Bool} {itx : Array Value} {xsx : List Int} (hlx : s.heap.IsList lx itx) (hix : IntsAre itx.toList xsx) (htx : IsTup s.heap tx [Value.bool sx, Value.ref lx].toArray) {w' : Int} {tw : Tok} (ok : okWorth w' xsx = true) :
    Call w 890 287 [.ref tx, Value.int w' tw] s (fun r h' => PInt (worthL w' xsx) r h') := by
  unfold Call
  k_fill
  intro A A₀ base h₀ outer cn cs a ccd cl L m p loose mean mg mb Q E B F X T hA hk hn hd hu hret
  refine wider hn hA hd hu ?_
  generalize A.guards = gds
  refine' enter (binds := [(Str.ofString "number", .ref tx), (Str.ofString "w", Value.int w' tw)]) B F X T rfl hk ?k6 ?k7 ?k8 ?k9 ?kB ?_ ?c2 ?c3 ?c4 ?c5
  (case k6 => k_dflt k_is)
  (case k7 => k_dflt k_is)
  (case k8 => exact Nat.le_of_ble_eq_true rfl)
  (case k9 => exact BindsTo.of_eq rfl)
  (case c5 => decide)
  (case kB => exact locs rfl)
  (case c2 => exact rfl)
  (case c3 => exact rfl)
  (case c4 => exact rfl)
  clear B F X T hA hk hn hd hu
  intro L' h' F' N' B' X' T'
  (try dsimp only)
  (try k_fold)
  k_steps
  all_goals (
    rename Fr _ _ _ _ => F9
    rename News _ _ _ _ => N9
    (try dsimp only)
    first
      | (k_dflt (refine' hret _ _ _ ?e1 (pint_of ?e2)); (case e1 => exact F9.keep); (case e2 => rfl))
      | (exfalso; omega))
end
section
local macro_rules | `(tactic| walk_at "exec While Compare cons nil") => `(tactic| (k_here; k_dflt (refine whl_start 8 ?_)))
local macro_rules | `(tactic| walk_at "WhlIf") => `(tactic| first | (refine WhlIf.no (limHi_no (by assumption)) ?_) | (refine WhlIf.yes (decide_eq_true (by omega)) ?_))
set_option maxHeartbeats 4000000 in
theorem limbs_spec {w : World} {s : Shared} {n : Int} {tn : Tok} (hn : 3 ≤ n) (hn2 : n ≤ 7) {w' : Int} {tw : Tok} (hw : 3 ≤ w') (hw2 : w' ≤ 8) (hz : limHi n w') :
    Call w 900 268 [Value.int n tn, Value.int w' tw] s (fun r h' => PList s.heap (limbsL w' n) r h') := by
  unfold Call
  k_fill
  intro A A₀ base h₀ outer cn cs a ccd cl L m p loose mean mg mb Q E B F X T hA hk hn hd hu hret
  refine wider hn hA hd hu ?_
  generalize A.guards = gds
  refine' enter (binds := [(Str.ofString "number", Value.int n tn), (Str.ofString "w", Value.int w' tw)]) B F X T rfl hk ?k6 ?k7 ?k8 ?k9 ?kB ?_ ?c2 ?c3 ?c4 ?c5
  (case k6 => k_dflt k_is)
  (case k7 => k_dflt k_is)
  (case k8 => exact Nat.le_of_ble_eq_true rfl)
  (case k9 => exact BindsTo.of_eq rfl)
  (case c5 => decide)
  (case kB => exact locs rfl)
  (case c2 => exact rfl)
  (case c3 => exact rfl)
  (case c4 => exact rfl)
  clear B F X T hA hk hn hd hu
  intro L' h' F' N' B' X' T'
  (try dsimp only)
  (try k_fold)
  k_steps
  all_goals (
    rename Fr _ _ _ _ => F9
    rename News _ _ _ _ => N9
    (try dsimp only)
    first
      | (k_dflt (refine' hret _ _ _ ?e1 ⟨_, _, _, rfl, ?e2, ?e3, ?e4⟩); (case e1 => exact F9.keep); (case e2 => exact News.fresh N9 (by k_mem)); (case e3 => exact News.get N9 (by k_mem)); (case e4 => exact ints_eq (by repeat constructor) rfl))
      | (exfalso; omega))
end
section
open PyProof.V
/-- a def with cells is entered -/
theorem enterC {prog : Program} {w : World} {K : Frag} {A A₀ : Around} {base h₀ : Heap} {outer : List Env} {cn : Str} {cs : Scope} {a : Addr} {ccd : Value} {cl : List (Str × Addr)} {L : Addr} {m : Str → Option Value} {s : Shared}
    {p : Program} {loose : List Str} {mean : ExcName → Option Value} {mg mb : Str → Option Value} {Q E : Value → Shared → Prop} {vs : List Value}
    {name qual : Str} {params : Arguments} {body : List Stmt} {scope : Scope} {dV kV doc pm cdv ct oc : Value} {an od : Option Addr} {osl : Array (Option Value)} {f : Addr} {binds : List (Str × Value)}
    (B : Below A₀ base outer h₀) (F : Fr h₀ L s.heap m) (X : K.In h₀) (T : Top p loose mean mg mb h₀) (hA : A.frames = some (envX cn cs L a ccd cl :: outer)) (hk : cs.kind = .function)
    (ho : K.lookup f = some ⟨oc, od, .func (fnOf name qual params body scope dV kV doc pm an cdv ct), osl⟩) (hcd : codeIn K cdv qual = true) (hroom : A.depth < recursionLimit)
    (hbind : BindsTo s (fnOf name qual params body scope dV kV doc pm an cdv ct) ⟨vs, []⟩ binds)
    (hkind : (binds.all fun y => scope.names.lookup y.1 == some .local || scope.names.lookup y.1 == some .cell) = true)
    (hnd : ((cellsFrom 0 scope.names []).map (·.1)).Nodup)
    (h : ∀ L' h₁ tk cells, Fr s.heap L' h₁ (bindL (envOfC qual scope L' f cdv).kindOf binds fun _ => none) → News s.heap L' h₁ cells → CellsAre (bindC (envOfC qual scope L' f cdv).kindOf binds fun _ => none) (cellsFrom (L' + 1) scope.names []) cells →
      Below A base (envX cn cs L a ccd cl :: outer) s.heap → K.In s.heap → Top p loose mean mg mb s.heap →
      wpAny (model prog w) (A.deeper (envOfC qual scope L' f cdv)) (execs body (envOfC qual scope L' f cdv))
        (fun fl s' => Q (match fl with | .ret v => v | _ => .none) s')
        (fun e s' => wpAny (model prog w) (A.deeper (envOfC qual scope L' f cdv)) (leaving (envOfC qual scope L' f cdv) e) (fun _ s'' => E e s'') (fun e' s'' => E e' s'') s')
        { s with heap := h₁, toks := tk })
    (hco : scope.isCoroutine = false) (hgen : scope.isGenerator = false) (hkf : scope.kind = .function) : wpAny (model prog w) A (call (.ref f) vs) Q E s := by
  have XK := X.keeps F.keep
  have B₁ := pushX (env := envX cn cs L a ccd cl) B F rfl hk
  refine wpAny_call (codeAny_call_function hroom (XK _ _ ho) rfl hco hgen rfl (codeRec_of XK hcd) (hbind _ _ _ _ ?_))
  refine wpAny_newFunctionEnv_cells hkf (kindsX hkind _) fun env' he s' x => ?_
  subst he
  refine ⟨(T.nolimit.keeps F.keep).keeps x.toInCall.keep, codeAny_func ?_⟩
  obtain ⟨h₁, tk, rfl, _⟩ := x.done
  have hk₁ := x.toInCall.keep
  obtain ⟨cells, NC, Y⟩ := Cl.news (h₀ := s.heap) (Nat.le_refl _) fun n c hm => ⟨x.cell n c (lookup_of_mem_nodup (cellsFrom_names scope.names 0 (s.heap.objs.size + 1) [] [] rfl ▸ hnd) hm), x.above n c hm⟩
  exact h s.heap.objs.size h₁ tk cells ⟨x.toInCall.ns, hk₁, Nat.le_refl _⟩ NC Y ⟨hA, B₁.stays, B₁.frames⟩ XK (T.keeps F.keep)

/-- how a turn of a loop ends -/
def TurnEndR (h₀ : Heap) (L : Addr) (s : Shared) (I : Addr) (o : Obj) (Inv : (Str → Option Value) → List (Addr × Obj) → Prop) (s₃ : Shared) : Prop :=
  ∃ h' tk' m' n', s₃ = { s with heap := h', toks := tk' } ∧ Fr h₀ L h' m' ∧ News h₀ L h' ((I, o) :: n') ∧ (∀ p ∈ n', p.1 ≠ I) ∧ Inv m' n'
def TurnR (h₀ : Heap) (L : Addr) (s : Shared) (I : Addr) (o : Obj) (Inv : (Str → Option Value) → List (Addr × Obj) → Prop) (Q : Flow → Shared → Prop) (f : Flow) (s₃ : Shared) : Prop :=
  match f with
  | .ret v => Q (.ret v) s₃
  | .brk => Q .next s₃
  | _ => TurnEndR h₀ L s I o Inv s₃

/-- a loop over a range, its name a local or a cell, by an invariant over the frame and the ledger -/
theorem range_inv {prog : Program} {w : World} {A : Around} {E : Value → Shared → Prop} {s : Shared} {env : Env} {h₀ : Heap} {x : Str} {px : Pos} {body : List Stmt} {Q : Flow → Shared → Prop}
    {r : Addr} {a₀ b₀ : Int} {t₀ u₀ v₀ : Tok} {n : Nat} {m₀ : Str → Option Value} {news : List (Addr × Obj)} (Inv : Nat → (Str → Option Value) → List (Addr × Obj) → Prop)
    (hh : A.handled = none) (hr : IsRange s.heap r a₀ b₀ 1 t₀ u₀ v₀) (hsmall : Builtin.Range.small a₀ b₀ 1 = true) (hn : Builtin.Range.rangeSize a₀ b₀ 1 = (n : Int)) (F : Fr h₀ env.locals s.heap m₀) (N : News h₀ env.locals s.heap news)
    (hinv : Inv 0 m₀ news)
    (turn : ∀ (i : Nat) (I : Addr) (o : Obj) m₁ n₁ t h tk, i < n → Inv i m₁ n₁ → o.cls = .type "range_iterator" → (∀ p ∈ n₁, p.1 ≠ I) → Fr h₀ env.locals h m₁ → News h₀ env.locals h ((I, o) :: n₁) →
      wpAny (model prog w) A (assign (.Name x px) env (.int (a₀ + i) t)) (fun _ s₂ => wpAny (model prog w) A (execs body env) (TurnR h₀ env.locals s I o (Inv (i + 1)) Q) E s₂) E { s with heap := h, toks := tk })
    (done : ∀ m₁ n₁ h tk, Inv n m₁ n₁ → Fr h₀ env.locals h m₁ → News h₀ env.locals h n₁ → Q .next { s with heap := h, toks := tk }) :
    wpAny (model prog w) A (pyIter (.ref r)) (fun it s₂ => TurnsAt prog w A h₀ env (.Name x px) body Q E it s₂) E s := by
  refine wpAny_pyIter_range hr hsmall ?_
  have hnew := next_is_new F
  have hLs : env.locals < s.heap.objs.size := F.ns.lt
  have W : KTurns prog w A (.Name x px) s.heap.objs.size [s.heap.objs.size] [s.heap.objs.size] n _ _ _ := KTurns.ofWalks (Walks.range (prog := prog) (w := w) hh s.heap.objs.size a₀ 1 n) fun _ _ _ _ _ _ q => wpAny_pure q
  refine ⟨_, _, _, _, _, _, _, m₀, news, Inv, rfl, W, ?_, ?_, ?_, (by show IsRangeIter _ _ _ _ _; rw [hn]; simpa using Heap.get?_push_size _ rfl), F.push _, (fun p hp => ⟨Heap.get?_push_of_some _ (N p hp).1, (N p hp).2⟩), hinv, ?_, ?_⟩
  · intro hm
    exact absurd hLs ((List.mem_singleton.mp hm) ▸ Nat.lt_irrefl _)
  · intro b hb
    rw [List.mem_singleton.mp hb]; exact hnew
  · intro p hp hI
    exact absurd (Heap.lt_size (N p hp).1) ((List.mem_singleton.mp hI) ▸ Nat.lt_irrefl _)
  · intro i v m₁ n₁ h₁ tk₁ own hin hPi hJ hoff hown hget hall hst F₁ N₁
    obtain ⟨t, rfl⟩ := hPi
    have e1 : a₀ + (i : Int) * 1 = a₀ + i := by rw [Int.mul_one]
    rw [e1]
    obtain ⟨o, ho, hc⟩ : ∃ o : Obj, h₁.get? s.heap.objs.size = some o ∧ o.cls = .type "range_iterator" := ⟨_, hst, rfl⟩
    have hmem := hall s.heap.objs.size (List.mem_singleton.mpr rfl) hnew o ho
    have N₂ : News h₀ env.locals h₁ ((s.heap.objs.size, o) :: n₁) := fun p hp => by
      rcases List.mem_cons.mp hp with rfl | hp
      · exact N₁ _ (List.mem_append_left _ hmem)
      · exact N₁ _ (List.mem_append_right _ hp)
    refine wpAny_mono (turn i s.heap.objs.size o m₁ n₁ t h₁ tk₁ hin hJ hc (fun p hp e => hoff p hp (List.mem_singleton.mpr e)) F₁ N₂) (fun _ s₂ g₂ => wpAny_mono g₂ (fun f s₃ p => ?_) fun _ _ e => e) fun _ _ e => e
    have fin : TurnEndR h₀ env.locals s s.heap.objs.size o (Inv (i + 1)) s₃ → LoopStepU h₀ env.locals [s.heap.objs.size] own (Inv (i + 1)) { s with heap := h₁, toks := tk₁ } .next s₃ := by
      rintro ⟨h', tk', m', n', e, F', N', ho', r⟩
      refine ⟨rfl, h', tk', m', n', e, F', ?_, fun p hp hI => ho' p hp (List.mem_singleton.mp hI), r⟩
      rintro ⟨pa, po⟩ hp
      rcases List.mem_append.mp hp with hp | hp
      · have g1 : pa = s.heap.objs.size := List.mem_singleton.mp (hown _ hp)
        have g2 : h₁.get? pa = some po := hget _ hp
        subst g1
        have : o = po := Option.some.inj (ho.symm.trans g2)
        subst this
        exact N' _ (.head _)
      · exact N' _ (.tail _ hp)
    cases f with
    | ret v => exact .ret p
    | brk => exact .brk p
    | next => exact .next (fin p)
    | cont => exact .cont (fin p)
  · intro h' tk m' n' F' N' _ hJ
    exact done m' n' h' tk hJ F' N'

theorem range_fix {prog : Program} {w : World} {A : Around} {E : Value → Shared → Prop} {s : Shared} {env : Env} {h₀ : Heap} {x : Str} {px : Pos} {body : List Stmt} {Q : Flow → Shared → Prop}
    {r : Addr} {a₀ b₀ : Int} {t₀ u₀ v₀ : Tok} {n : Nat} {m₀ : Str → Option Value} {news : List (Addr × Obj)} (Inv : Nat → List (Addr × Obj) → Prop)
    (hh : A.handled = none) (hr : IsRange s.heap r a₀ b₀ 1 t₀ u₀ v₀) (hsmall : Builtin.Range.small a₀ b₀ 1 = true) (hn : Builtin.Range.rangeSize a₀ b₀ 1 = (n : Int)) (F : Fr h₀ env.locals s.heap m₀) (N : News h₀ env.locals s.heap news)
    (hinv : Inv 0 news)
    (turn : ∀ (i : Nat) (I : Addr) (o : Obj) n₁ t h tk, i < n → Inv i n₁ → o.cls = .type "range_iterator" → (∀ p ∈ n₁, p.1 ≠ I) → Fr h₀ env.locals h m₀ → News h₀ env.locals h ((I, o) :: n₁) →
      wpAny (model prog w) A (assign (.Name x px) env (.int (a₀ + i) t)) (fun _ s₂ => wpAny (model prog w) A (execs body env) (TurnR h₀ env.locals s I o (fun m' n' => m' = m₀ ∧ Inv (i + 1) n') Q) E s₂) E { s with heap := h, toks := tk })
    (done : ∀ n₁ h tk, Inv n n₁ → Fr h₀ env.locals h m₀ → News h₀ env.locals h n₁ → Q .next { s with heap := h, toks := tk }) :
    wpAny (model prog w) A (pyIter (.ref r)) (fun it s₂ => TurnsAt prog w A h₀ env (.Name x px) body Q E it s₂) E s := by
  refine range_inv (fun i m' n' => m' = m₀ ∧ Inv i n') hh hr hsmall hn F N ⟨rfl, hinv⟩ ?_ ?_
  · rintro i I o m₁ n₁ t h tk hi ⟨rfl, hJ⟩ hc hoff F₁ N₁
    exact turn i I o n₁ t h tk hi hJ hc hoff F₁ N₁
  · rintro m₁ n₁ h tk ⟨rfl, hJ⟩ F₁ N₁
    exact done n₁ h tk hJ F₁ N₁

section
open LCg
variable {prog : Program} {w : World} {A : Around} {h₀ : Heap} {L : Addr} {m : Str → Option Value} {env : Env} {s : Shared} {x x₂ : Str} {scope : Scope} {cl : List (Str × Addr)} {S : List (Addr × Obj) → Prop} {P : Nat → Value → Prop} {Fin : List Value → List (Addr × Obj) → Prop} {n : Nat}
theorem compEnd_mono {s₁ s₂ : Shared} {I C D : Addr} {oI oC oD : Obj} {rest rest' : Value → List (Addr × Obj) → Prop} {y : Value} (h : CompEnd h₀ L m s₁ I oI C oC D oD S rest y s₂) (k : ∀ n', rest y n' → rest' y n') : CompEnd h₀ L m s₁ I oI C oC D oD S rest' y s₂ := by
  obtain ⟨h', tk, news', e, F, N, off, hS, r⟩ := h
  exact ⟨h', tk, news', e, F, N, off, hS, k _ r⟩
theorem compT_inv {ct elt : Expr} (J : Nat → List Value → List (Addr × Obj) → Prop)
    (step : ∀ i ys news, i < n → J i ys news → ∀ v I oI C oC D m₂ h tk (E' : Value → Shared → Prop), P i v → NsObj oC m₂ → m₂ x = some v → Fr h₀ L h m → News h₀ L h ((I, oI) :: (C, oC) :: (D, lst ys) :: news) → Off3 I C D news → ((@Ne Nat I C) ∧ (@Ne Nat I D) ∧ (@Ne Nat C D)) →
      wpAny (model prog w) A (isTrue ct (compEnvC scope cl C env) (eval ct (compEnvC scope cl C env))) (fun ok s' => if ok = true then
        wpAny (model prog w) A (eval elt (compEnvC scope cl C env)) (CompEnd h₀ L m { s with heap := h, toks := tk } I oI C oC D (lst ys) S (fun y news' => J (i + 1) (ys ++ [y]) news')) E' s'
        else CompEnd h₀ L m { s with heap := h, toks := tk } I oI C oC D (lst ys) S (fun _ news' => J (i + 1) ys news') Value.none s') E' { s with heap := h, toks := tk })
    (done : ∀ ys news, J n ys news → Fin ys news) : ∀ k i ys news, k + i = n → J i ys news → LCt.CompRestT prog w A h₀ L m env ct elt x scope cl s S P Fin k i ys news
  | 0, i, ys, news, e, hJ => done ys news (by have : i = n := by omega
                                              rw [← this]; exact hJ)
  | k + 1, i, ys, news, e, hJ => by
    intro v I oI C oC D m₂ h tk E' hP hC hx F N off ne
    refine wpAny_mono (step i ys news (by omega) hJ v I oI C oC D m₂ h tk E' hP hC hx F N off ne) (fun ok s' hk => ?_) fun _ _ e => e
    cases ok with
    | true =>
      rw [if_pos rfl] at hk ⊢
      exact wpAny_mono hk (fun y s'' q => compEnd_mono q fun n' r => compT_inv J step done k (i + 1) _ n' (by omega) r) fun _ _ e => e
    | false =>
      rw [if_neg (by decide)] at hk ⊢
      exact compEnd_mono hk fun n' r => compT_inv J step done k (i + 1) _ n' (by omega) r
theorem compT_fix {ct elt : Expr} {news : List (Addr × Obj)} (J : Nat → List Value → Prop) (hJ : J 0 [])
    (step : ∀ i ys, i < n → J i ys → ∀ v I oI C oC D m₂ h tk (E' : Value → Shared → Prop), P i v → NsObj oC m₂ → m₂ x = some v → Fr h₀ L h m → News h₀ L h ((I, oI) :: (C, oC) :: (D, lst ys) :: news) → Off3 I C D news → ((@Ne Nat I C) ∧ (@Ne Nat I D) ∧ (@Ne Nat C D)) →
      wpAny (model prog w) A (isTrue ct (compEnvC scope cl C env) (eval ct (compEnvC scope cl C env))) (fun ok s' => if ok = true then
        wpAny (model prog w) A (eval elt (compEnvC scope cl C env)) (CompEnd h₀ L m { s with heap := h, toks := tk } I oI C oC D (lst ys) S (fun y news' => news' = news ∧ J (i + 1) (ys ++ [y]))) E' s'
        else CompEnd h₀ L m { s with heap := h, toks := tk } I oI C oC D (lst ys) S (fun _ news' => news' = news ∧ J (i + 1) ys) Value.none s') E' { s with heap := h, toks := tk })
    (done : ∀ ys, J n ys → Fin ys news) : LCt.CompRestT prog w A h₀ L m env ct elt x scope cl s S P Fin n 0 [] news := by
  refine compT_inv (fun i ys n' => n' = news ∧ J i ys) ?_ ?_ n 0 [] news rfl ⟨rfl, hJ⟩
  · rintro i ys n' hi ⟨rfl, hj⟩
    exact step i ys hi hj
  · rintro ys n' ⟨rfl, hj⟩
    exact done ys hj
theorem compP_inv {elt : Expr} (J : Nat → List Value → List (Addr × Obj) → Prop)
    (step : ∀ i ys news, i < n → J i ys news → ∀ v, P i v → ∃ (t : Addr) (ot : Obj) (v₁ v₂ : Value) (nt : Nat), v = .ref t ∧ (t, ot) ∈ news ∧ ot.cls = .type "tuple" ∧ ot.data = .seq #[v₁, v₂] nt ∧
      ∀ I oI C oC D m₂ h tk (E' : Value → Shared → Prop), NsObj oC m₂ → m₂ x = some v₁ → m₂ x₂ = some v₂ → Fr h₀ L h m → News h₀ L h ((I, oI) :: (C, oC) :: (D, lst ys) :: news) → Off3 I C D news → ((@Ne Nat I C) ∧ (@Ne Nat I D) ∧ (@Ne Nat C D)) →
      wpAny (model prog w) A (eval elt (compEnvC scope cl C env)) (CompEnd h₀ L m { s with heap := h, toks := tk } I oI C oC D (lst ys) S (fun y news' => J (i + 1) (ys ++ [y]) news')) E' { s with heap := h, toks := tk })
    (done : ∀ ys news, J n ys news → Fin ys news) : ∀ k i ys news, k + i = n → J i ys news → LCp.CompRestP prog w A h₀ L m env elt x x₂ scope cl s S P Fin k i ys news
  | 0, i, ys, news, e, hJ => done ys news (by have : i = n := by omega
                                              rw [← this]; exact hJ)
  | k + 1, i, ys, news, e, hJ => by
    intro v hP
    obtain ⟨t, ot, v₁, v₂, nt, a, b, c, d, go⟩ := step i ys news (by omega) hJ v hP
    refine ⟨t, ot, v₁, v₂, nt, a, b, c, d, fun I oI C oC D m₂ h tk E' hC hx hx2 F N off ne => ?_⟩
    exact wpAny_mono (go I oI C oC D m₂ h tk E' hC hx hx2 F N off ne) (fun y s'' q => compEnd_mono q fun n' r => compP_inv J step done k (i + 1) _ n' (by omega) r) fun _ _ e => e
end
end
section
open PyProof.V
abbrev T3 := Int × Int × Int
def trip (x : T3) : Dat := .tuple [.int x.1, .int x.2.1, .int x.2.2]
theorem trip_inv {tl : List (Addr × Obj)} {v : Value} {x : T3} (h : DatIn tl v (trip x)) : ∃ a n t1 t2 t3, v = .ref a ∧ (a, tupO [.int x.1 t1, .int x.2.1 t2, .int x.2.2 t3] n) ∈ tl := by
  cases h with
  | tuple hm r =>
    cases r with
    | cons h1 r =>
      cases r with
      | cons h2 r =>
        cases r with
        | cons h3 r =>
          cases r
          cases h1; cases h2; cases h3
          exact ⟨_, _, _, _, _, rfl, hm⟩
theorem trips_get {tl : List (Addr × Obj)} {us : List Value} {xs : List T3} (h : DatAll tl us (xs.map trip)) {i : Nat} {x : T3} (hx : xs[i]? = some x) :
    ∃ a n t1 t2 t3, us[i]? = some (.ref a) ∧ (a, tupO [.int x.1 t1, .int x.2.1 t2, .int x.2.2 t3] n) ∈ tl := by
  obtain ⟨hi, he⟩ := List.getElem?_eq_some_iff.mp hx
  obtain ⟨v, hv, hd⟩ := h.get (k := i) (by rw [List.length_map]; exact hi)
  rw [List.getElem_map, he] at hd
  obtain ⟨a, n, t1, t2, t3, rfl, hm⟩ := trip_inv hd
  exact ⟨a, n, t1, t2, t3, hv, hm⟩

/-- the sort's questions answered by a plain function -/
def runT {α : Type} (c : Nat → Nat → Bool) : KasT α → α
  | .ret a => a
  | .ask i j k => runT c (k (c i j))
def okT {α : Type} (n : Nat) (ok : Nat → Nat → Bool) (c : Nat → Nat → Bool) : KasT α → Bool
  | .ret _ => true
  | .ask i j k => decide (i < n) && decide (j < n) && ok i j && okT n ok c (k (c i j))
theorem kasWp_run {α : Type} {n : Nat} {ok c : Nat → Nat → Bool} {cmp : Nat → Nat → (Bool → Shared → Prop) → Shared → Prop} {s : Shared} {G : α → Shared → Prop}
    (hc : ∀ i j C, i < n → j < n → ok i j = true → C (c i j) s → cmp i j C s) : ∀ t : KasT α, okT n ok c t = true → G (runT c t) s → t.kasWp cmp G s
  | .ret a, _, h => h
  | .ask i j k, o, h => by
    simp only [okT, Bool.and_eq_true, decide_eq_true_eq] at o
    exact hc i j _ o.1.1.1 o.1.1.2 o.1.2 (kasWp_run hc (k (c i j)) o.2 h)
def key (xs : List T3) (i : Nat) : Int := (xs.getD i (0, 0, 0)).1
def keyOk (xs : List T3) (i j : Nat) : Bool := !(key xs i == key xs j)
def keyLess (xs : List T3) (i j : Nat) : Bool := decide (key xs i < key xs j)
def sortedIx (xs : List T3) : List Nat := (runT (keyLess xs) (kas_sort xs.length)).toList
def sortOk (xs : List T3) : Bool := okT xs.length (keyOk xs) (keyLess xs) (kas_sort xs.length) && (sortedIx xs).all (fun i => decide (i < xs.length))

section
variable {prog : Program} {w : World} {A : Around} {E : Value → Shared → Prop} {s : Shared} {h₀ : Heap} {L : Addr} {m : Str → Option Value} {news tl : List (Addr × Obj)} {us : List Value} {xs : List T3}
theorem ask3 (hT : ∀ p ∈ tl, s.heap.get? p.1 = some p.2) (hd : DatAll tl us (xs.map trip)) {i j : Nat} {C : Bool → Shared → Prop} (hi : i < xs.length) (hj : j < xs.length) (ok : keyOk xs i j = true) (h : C (keyLess xs i j) s) :
    kas_ask prog w A (tuples' true) us i j C s := by
  obtain ⟨a, n, t1, t2, t3, e1, m1⟩ := trips_get hd (List.getElem?_eq_getElem hi)
  obtain ⟨b, k, u1, u2, u3, e2, m2⟩ := trips_get hd (List.getElem?_eq_getElem hj)
  have k1 : key xs i = (xs[i]).1 := by rw [key, List.getD_eq_getElem?_getD, List.getElem?_eq_getElem hi]; rfl
  have k2 : key xs j = (xs[j]).1 := by rw [key, List.getD_eq_getElem?_getD, List.getElem?_eq_getElem hj]; rfl
  have hne : ((xs[i]).1 == (xs[j]).1) = false := by rw [← k1, ← k2]; simpa [keyOk] using ok
  unfold kas_ask
  rw [List.getD_eq_getElem?_getD, List.getD_eq_getElem?_getD, e1, e2]
  refine kat_lt (hT _ m1) rfl (hT _ m2) rfl ?_
  refine kat_cons (wpAny_eqBool_int ?_)
  rw [hne]
  refine kat_no (oneLt_int ?_)
  rw [keyLess, k1, k2] at h
  exact h
theorem kattups (hT : ∀ p ∈ tl, s.heap.get? p.1 = some p.2) : ∀ {us : List Value} {xs : List T3}, DatAll tl us (xs.map trip) → ∃ fs, KatTups s.heap us fs ∧ fs.length = xs.length ∧ ∀ f ∈ fs, ∃ i t, f = Value.int i t
  | [], [], _ => ⟨[], KatTups.nil, rfl, fun _ h => nomatch h⟩
  | [], _ :: _, h => by cases h
  | _ :: _, [], h => by cases h
  | u :: us, x :: xs, h => by
    cases h with
    | cons h1 r =>
      obtain ⟨fs, k, e, hf⟩ := kattups hT (us := us) (xs := xs) r
      obtain ⟨a, n, t1, t2, t3, rfl, hm⟩ := trip_inv h1
      refine ⟨.int x.1 t1 :: fs, KatTups.cons (hT _ hm) rfl rfl rfl k, by rw [List.length_cons, List.length_cons, e], fun f hm' => ?_⟩
      rcases List.mem_cons.mp hm' with rfl | hm'
      · exact ⟨_, _, rfl⟩
      · exact hf f hm'
theorem sorted3 {l : Addr} {Q : Value → Shared → Prop} (F : Fr h₀ L s.heap m) (N : News h₀ L s.heap news) (hl : s.heap.IsList l us.toArray) (hd : DatAll tl us (xs.map trip)) (hs : ∀ p ∈ tl, p ∈ news) (h2 : 2 ≤ xs.length) (h64 : xs.length < 64) (ok : sortOk xs = true)
    (h : ∀ D c h', Fr h₀ L h' m → News h₀ L h' ((D, listOf (List.toArray ((sortedIx xs).map fun i => us.getD i Value.none)) c) :: news) → (∀ q ∈ news, q.1 < D) → Q (.ref D) { s with heap := h' }) :
    wpAny (model prog w) A (call (.builtin "sorted") [.ref l]) Q E s := by
  have el : us.length = xs.length := by rw [hd.length, List.length_map]
  obtain ⟨ok1, _⟩ := and_of ok
  refine kat_sorted F N hl (by rw [el]; exact h2) (by rw [el]; exact h64) fun D e1 h' F' N' off => ?_
  have hT : ∀ p ∈ tl, h'.get? p.1 = some p.2 := fun p hp => (N' p (.tail _ (hs p hp))).1
  obtain ⟨fs, kt, ef, hf⟩ := kattups (s := { s with heap := h' }) hT hd
  refine kat_kind kt (by rw [ef]; omega) (T := .type "int") (fun v hv => ?_) rfl ?_
  · obtain ⟨i, t, rfl⟩ := hf v hv
    exact Looks.of_pure rfl
  · rw [el]
    refine kasWp_run (n := xs.length) (ok := keyOk xs) (c := keyLess xs) (fun i j C hi hj o hC => ask3 (s := { s with heap := h' }) hT hd hi hj o hC) _ ok1 ?_
    exact KasFin.intro F' N' (.head fun p hp => Nat.ne_of_lt (off p hp)) fun h'' c F'' N'' => h D c h'' F'' N'' off
end
end
section
open PyProof.V LCg
section
variable {prog : Program} {w : World} {A : Around} {E : Value → Shared → Prop} {s : Shared} {h₀ : Heap} {L : Addr} {m : Str → Option Value} {env : Env}
/-- one turn of a comprehension whose target is three names -/
def Step3 (prog : Program) (w : World) (A : Around) (h₀ : Heap) (L : Addr) (m : Str → Option Value) (env : Env) (elt : Expr) (x y z : Str) (scope : Scope) (cl : List (Str × Addr)) (s : Shared) (ax : Addr) (its : Array Value) (J : Nat → List Value → List (Addr × Obj) → Prop) : Prop :=
  ∀ i ys news, i < its.size → J i ys news → ∃ (t : Addr) (v₁ v₂ v₃ : Value) (k : Nat), its[i]? = some (.ref t) ∧ (t, tupO [v₁, v₂, v₃] k) ∈ news ∧
    ∀ I oI C oC D mC h tk (E' : Value → Shared → Prop), NsObj oC mC → mC x = some v₁ → mC y = some v₂ → mC z = some v₃ → Fr h₀ L h m → News h₀ L h ((I, oI) :: (C, oC) :: (D, lst ys) :: news) → Off3 I C D news → ((@Ne Nat I C) ∧ (@Ne Nat I D) ∧ (@Ne Nat C D)) →
      wpAny (model prog w) A (eval elt (compEnvC scope cl C env)) (CompEnd h₀ L m { s with heap := h, toks := tk } I oI C oC D (lst ys) (SrcAt h₀ ax its) (fun v news' => J (i + 1) (ys ++ [v]) news')) E' { s with heap := h, toks := tk }

/-- the state between two turns -/
def Mid3 (h₀ : Heap) (L : Addr) (m : Str → Option Value) (s : Shared) (ax I C D : Addr) (its : Array Value) (J : Nat → List Value → List (Addr × Obj) → Prop) (k : Nat) (s' : Shared) : Prop :=
  ∃ h tk i ys mC news, s' = { s with heap := h, toks := tk } ∧ i ≤ its.size ∧ k + i = its.size + 1 ∧ ys.length = i ∧ h.IsListIter I ax i ∧ Fr h₀ L h m ∧ h.Ns C mC ∧ News h₀ L h ((D, lst ys) :: news) ∧ Off3 I C D news ∧ SrcAt h₀ ax its news ∧ J i ys news

theorem turns3 {elt iter : Expr} {x y z : Str} {px py pz tp : Pos} {ct} {scope : Scope} {cl : List (Str × Addr)} {pos : Pos} {ax I C D : Addr} {its : Array Value} {J : Nat → List Value → List (Addr × Obj) → Prop} {R : Result → Shared → Prop}
    (hh : A.handled = none) (hkind : scope.kind = .function) (hx : scope.names.lookup x = some .local) (hy : scope.names.lookup y = some .local) (hz : scope.names.lookup z = some .local) (hxy : x ≠ y) (hxz : x ≠ z) (hyz : y ≠ z) (hsz : its.size ≤ sizeLine)
    (nIC : @Ne Nat I C) (nID : @Ne Nat I D) (nCD : @Ne Nat C D) (hLI : L ≠ I) (hCL : C ≠ L) (hDL : D ≠ L) (hI₀ : h₀.get? I = none) (hC₀ : h₀.get? C = none) (hD₀ : h₀.get? D = none)
    (step : Step3 prog w A h₀ L m env elt x y z scope cl s ax its J)
    (done : ∀ h tk ys mC news, Fr h₀ L h m → News h₀ L h ((D, lst ys) :: news) → Off3 I C D news → h.Ns C mC → J its.size ys news → R (.ok .next) { s with heap := h, toks := tk })
    (start : Mid3 h₀ L m s ax I C D its J (its.size + 1) s) :
    codeAny (model prog w) A (.compLoop (.ListComp elt [⟨.Tuple [.Name x px, .Name y py, .Name z pz] ct tp, iter, [], 0⟩] scope pos) 0 (.ref I) (.ref D) (compEnvC scope cl C env)) R s := by
  refine LCp.codeAny_compLoop_pair (Mid3 h₀ L m s ax I C D its J) ?_ _ start
  rintro k s' ⟨h, tk, i, ys, mC, news, rfl, hi, hk, hyl, hit, F, hC, N, off, hS, hJ⟩
  have offm := off.mem
  have hl := hS.list F.keep (fun p hp => N p (.tail _ hp))
  have hax : ax ≠ I := by
    intro e
    obtain ⟨o, e1, e2, _⟩ := hl
    obtain ⟨o', e3, e4, _⟩ := hit
    rw [e, e3] at e1
    cases e1
    rw [e4] at e2
    simp at e2
  by_cases hlt : i < its.size
  · obtain ⟨t, v₁, v₂, v₃, n, hv, hm, go⟩ := step i ys news hlt hJ
    refine wpAny_pyNext_list_item hit hl hv fun h₂ hit₂ hs₂ => ?_
    have N₂ : News h₀ L h₂ ((D, lst ys) :: news) := fun p hp => ⟨hs₂.extBut _ _ (by
      rcases List.mem_cons.mp hp with rfl | hp
      · exact fun e => nID e.symm
      · exact (offm p hp).1) (N p hp).1, (N p hp).2⟩
    refine wpAny_letOwnedTupleGo_listiter hit₂ ?_
    refine assign_Tuple_tuple hh ⟨_, (N₂ _ (.tail _ hm)).1, rfl, _, rfl⟩ rfl rfl fun h₃ e₃ => ?_
    have k₃ : ∀ b o, h₂.get? b = some o → h₃.get? b = some o := fun b o e => e₃ b o (Nat.ne_of_lt (Heap.lt_size e)) e
    have c₃ : h₃.Ns C mC := (hC.at' fun o e => hs₂.extBut _ o (fun e' => nIC e'.symm) e).at' fun o e => k₃ _ o e
    refine assignInOrder_cons (wpAny_assign_Name (wpAny_storeName_local (lookup_relabel_local hx) c₃ (fun h₄ n₄ s₄ => ?_) (by simp [compEnvC, relabel, hkind])))
    refine assignInOrder_cons (wpAny_assign_Name (wpAny_storeName_local (lookup_relabel_local hy) n₄ (fun h₅ n₅ s₅ => ?_) (by simp [compEnvC, relabel, hkind])))
    refine assignInOrder_cons (wpAny_assign_Name (wpAny_storeName_local (lookup_relabel_local hz) n₅ (fun h₆ n₆ s₆ => ?_) (by simp [compEnvC, relabel, hkind])))
    refine assignInOrder_nil ?_
    have k₆ : ∀ b o, b ≠ C → h₂.get? b = some o → h₆.get? b = some o := fun b o hb e => s₆.extBut _ _ hb (s₅.extBut _ _ hb (s₄.extBut _ _ hb (k₃ _ _ e)))
    obtain ⟨oI, hoI, cI, dI⟩ := hit₂
    have hoI₆ := k₆ _ _ nIC hoI
    obtain ⟨oC, heC, hoC⟩ := ns_obj n₆
    have F₂ : Fr h₀ L h₂ m := F.change hs₂ hLI.symm hI₀
    have F₆ : Fr h₀ L h₆ m := (((F₂.keeps k₃).change s₄ hCL hC₀).change s₅ hCL hC₀).change s₆ hCL hC₀
    have N₆ : News h₀ L h₆ ((I, oI) :: (C, oC) :: (D, lst ys) :: news) := fun p hp => by
      rcases List.mem_cons.mp hp with rfl | hp
      · exact ⟨hoI₆, hLI.symm, hI₀⟩
      rcases List.mem_cons.mp hp with rfl | hp
      · exact ⟨heC, hCL, hC₀⟩
      · refine ⟨k₆ _ _ ?_ (N₂ p hp).1, (N₂ p hp).2⟩
        rcases List.mem_cons.mp hp with rfl | hp
        · exact fun e => nCD e.symm
        · exact (offm p hp).2.1
    refine wpAny_mono (go I oI C oC D _ h₆ _ _ hoC (by simp [hxy, hxz]) (by simp [hyz]) (by simp) F₆ N₆ off ⟨nIC, nID, nCD⟩) (fun v s₇ h₇ => ?_) fun _ _ e => e
    obtain ⟨h₇, tk₇, news₇, rfl, F₇, N₇, off₇, hS₇, hJ₇⟩ := h₇
    have zD := (N₇ (D, lst ys) (.tail _ (.tail _ (.head _)))).1
    refine append_at (hsz := by show ys.toArray.size ≤ sizeLine; rw [List.size_toArray, hyl]; exact Nat.le_trans hi hsz) zD fun h₈ s₈ e₈ => ?_
    have off₇m := off₇.mem
    refine ⟨its.size + 1 - (i + 1), by omega, h₈, tk₇, i + 1, ys ++ [v], _, news₇, rfl, hlt, by omega, by rw [List.length_append, List.length_singleton, hyl], ⟨oI, s₈.extBut _ _ nID (N₇ (I, oI) (.head _)).1, cI, dI⟩, F₇.change s₈ hDL hD₀, (hoC.ns (N₇ (C, oC) (.tail _ (.head _))).1).sameBut s₈ nCD, fun p hp => ?_, off₇, hS₇, hJ₇⟩
    rcases List.mem_cons.mp hp with rfl | hp
    · exact ⟨e₈.trans (congrArg some (lst_snoc ys v)), hDL, hD₀⟩
    · exact ⟨s₈.extBut _ _ (off₇m p hp).2.2 (N₇ p (.tail _ (.tail _ (.tail _ hp)))).1, (N₇ p (.tail _ (.tail _ (.tail _ hp)))).2⟩
  · obtain rfl : i = its.size := Nat.le_antisymm hi (Nat.not_lt.mp hlt)
    refine wpAny_pyNext_list_end hh hit hl (by simp) fun h₂ e₂ => ?_
    refine done h₂ tk ys mC news ⟨F.ns.at' fun o e => e₂ _ o hLI e, fun b o e => e₂ _ o (fun e' => by rw [e', hI₀] at e; cases e) (F.keep b o e), F.above⟩ (fun p hp => ⟨e₂ _ _ (by
      rcases List.mem_cons.mp hp with rfl | hp
      · exact fun e => nID e.symm
      · exact (offm p hp).1) (N p hp).1, (N p hp).2⟩) off (hC.at' fun o e => e₂ _ o (fun e' => nIC e'.symm) e) hJ

/-- what the comprehension runs over, and the invariant of its turns -/
def Src3 (prog : Program) (w : World) (A : Around) (h₀ : Heap) (L : Addr) (m : Str → Option Value) (env : Env) (elt : Expr) (x y z : Str) (scope : Scope) (cl : List (Str × Addr)) (Q : Value → Shared → Prop) (xv : Value) (s₁ : Shared) : Prop :=
  ∃ ax its news J, xv = .ref ax ∧ A.handled = none ∧ Fr h₀ L s₁.heap m ∧ News h₀ L s₁.heap news ∧ SrcAt h₀ ax its news ∧ its.size ≤ sizeLine ∧ J 0 [] news ∧ Step3 prog w A h₀ L m env elt x y z scope cl s₁ ax its J ∧
    ∀ ys nw, J its.size ys nw → FinE h₀ L m s₁ Q ys nw
theorem listComp3 {elt iter : Expr} {x y z : Str} {px py pz tp : Pos} {ct} {scope : Scope} {cl : List (Str × Addr)} {pos : Pos} {Q : Value → Shared → Prop} (F₀ : Fr h₀ L s.heap m)
    (hclos : closureFor scope env = pure cl) (hcell : ∀ y ∈ scope.names, y.2 ≠ .cell) (hkind : scope.kind = .function)
    (hnames : ∀ y ∈ scope.names, y.2 = .local → scope.names.lookup y.1 = some .local) (hx : scope.names.lookup x = some .local) (hy : scope.names.lookup y = some .local) (hz : scope.names.lookup z = some .local) (hxy : x ≠ y) (hxz : x ≠ z) (hyz : y ≠ z)
    (h : wpAny (model prog w) A (eval iter env) (Src3 prog w A h₀ L m env elt x y z scope cl Q) E s)
    (hs : ∀ x, foldedSetIterable iter env x = pure x := by intro _; rfl) :
    wpAny (model prog w) A (eval (.ListComp elt [⟨.Tuple [.Name x px, .Name y py, .Name z pz] ct tp, iter, [], 0⟩] scope pos) env) Q E s := by
  rw [eval_ListComp]
  refine wpAny_comprehension_free (use := none) rfl hs hclos hkind hnames (wpAny_mono h (fun xv s₁ h₁ => ?_) fun _ _ e => e)
  obtain ⟨ax, its, news, J, rfl, hh, F, N, S, hsz, hJ, step, fin⟩ := h₁
  have hl := S.list F.keep N
  refine wpAny_pyIter_list hl ?_
  generalize hH : s₁.heap.push { cls := .type "list_iterator", data := .fields #[.ref ax, .int 0 0] } = H
  have zH : H.objs.size = s₁.heap.objs.size + 1 := by rw [← hH, Heap.size_push]
  have uH : ∀ b o, s₁.heap.get? b = some o → H.get? b = some o := fun b o e => hH ▸ Heap.get?_push_of_some _ e
  have iH : H.IsListIter s₁.heap.objs.size ax 0 := hH ▸ ⟨_, Heap.get?_push_size _ rfl, rfl, rfl⟩
  have F₁ := F.keeps uH
  have N₁ := N.grown uH
  refine wpAny_newObj_type (wpAny_newFunctionEnv hcell (by intro y hy; simp at hy) (fun h₁ n₁ s₁' => ?_) hkind)
  dsimp only at n₁ s₁' ⊢
  generalize hG : H.push { cls := .type "list", dict := none, data := .seq ([] : List Value).toArray } = G at n₁ s₁' ⊢
  have zG : G.objs.size = H.objs.size + 1 := by rw [← hG, Heap.size_push]
  have uG : ∀ b o, H.get? b = some o → G.get? b = some o := fun b o e => hG ▸ Heap.get?_push_of_some _ e
  have gD : G.get? H.objs.size = some (lst []) := hG ▸ Heap.get?_push_size _ rfl
  have lt : ∀ b, b < H.objs.size + 1 → b ≠ G.objs.size := fun b hb => Nat.ne_of_lt (zG ▸ hb)
  have up : ∀ b o, H.get? b = some o → h₁.get? b = some o := fun b o e => s₁'.extBut _ _ (lt b (Nat.lt_succ_of_lt (Heap.lt_size e))) (Heap.get?_push_of_some _ (uG _ _ e))
  have hD : h₁.get? H.objs.size = some (lst []) := s₁'.extBut _ _ (lt _ (Nat.lt_succ_self _)) (Heap.get?_push_of_some _ gD)
  have none₀ : ∀ a, s₁.heap.objs.size ≤ a → h₀.get? a = none := fun a ha => by
    cases e : h₀.get? a with
    | none => rfl
    | some o => exact absurd (Heap.lt_size (F.keep a o e)) (Nat.not_lt.mpr ha)
  have hL : @LT.lt Nat _ L s₁.heap.objs.size := F.ns.lt
  have old : ∀ p ∈ news, @LT.lt Nat _ p.1 s₁.heap.objs.size := fun p hp => Heap.lt_size (N p hp).1
  have nID : @Ne Nat s₁.heap.objs.size H.objs.size := by omega
  have nIC : @Ne Nat s₁.heap.objs.size G.objs.size := by omega
  have nCD : @Ne Nat G.objs.size H.objs.size := by omega
  have nLI : @Ne Nat L s₁.heap.objs.size := Nat.ne_of_lt hL
  have nCL : @Ne Nat G.objs.size L := by omega
  have nDL : @Ne Nat H.objs.size L := by omega
  have hI₀ := none₀ s₁.heap.objs.size (Nat.le_refl _)
  have hC₀ := none₀ G.objs.size (by omega)
  have hD₀ := none₀ H.objs.size (by omega)
  have iH₁ : h₁.IsListIter s₁.heap.objs.size ax 0 := by
    obtain ⟨o, e, r⟩ := iH
    exact ⟨o, up _ _ e, r⟩
  have off : Off3 s₁.heap.objs.size G.objs.size H.objs.size news := Off3.of fun p hp => by
    have := old p hp
    exact ⟨Nat.ne_of_lt this, Nat.ne_of_lt (by omega), Nat.ne_of_lt (by omega)⟩
  have start : ∀ tk, Mid3 h₀ L m s₁ ax s₁.heap.objs.size G.objs.size H.objs.size its J (its.size + 1) { s₁ with heap := h₁, toks := tk } := fun tk =>
    ⟨h₁, tk, 0, [], _, news, rfl, Nat.zero_le _, by omega, rfl, iH₁, F₁.keeps up, n₁, fun p hp => by
      rcases List.mem_cons.mp hp with rfl | hp
      · exact ⟨hD, nDL, hD₀⟩
      · exact ⟨up _ _ (N₁ p hp).1, (N₁ p hp).2⟩, off, S, hJ⟩
  have loop : ∀ (tk : Nat) (R : Result → Shared → Prop), (∀ h tk ys mC news, Fr h₀ L h m → News h₀ L h ((H.objs.size, lst ys) :: news) → Off3 s₁.heap.objs.size G.objs.size H.objs.size news → h.Ns G.objs.size mC → J its.size ys news → R (.ok .next) { s₁ with heap := h, toks := tk }) →
      codeAny (model prog w) A (.compLoop (.ListComp elt [⟨.Tuple [.Name x px, .Name y py, .Name z pz] ct tp, iter, [], 0⟩] scope pos) 0 (.ref s₁.heap.objs.size) (.ref H.objs.size) (compEnvC scope cl G.objs.size env)) R { s₁ with heap := h₁, toks := tk } := fun tk R done =>
    turns3 (s := { s₁ with heap := h₁, toks := tk }) hh hkind hx hy hz hxy hxz hyz hsz nIC nID nCD nLI nCL nDL hI₀ hC₀ hD₀ step done (start tk)
  refine codeAny_compStart_list (loop _ _ ?d) (wpAny_pyIter_listiter iH₁ (loop _ _ ?d))
  intro h tk ys mC nw F' N' o3 nC hJ'
  refine ⟨mC, nC, fun h'' hs'' => fin ys nw hJ' _ h'' tk (F'.change hs'' nCL hC₀) (fun p hp => ?_) o3.one⟩
  refine ⟨hs''.extBut _ _ ?_ (N' p hp).1, (N' p hp).2⟩
  rcases List.mem_cons.mp hp with rfl | hp
  · exact fun e => nCD e.symm
  · exact (o3.mem p hp).2.1
end
end
section
def divT (t b k : Int) : Bool := decide (t.fmod k = 0) && decide (b.fmod k = 0)
def divs (t b : Int) : Nat → List Int
  | 0 => []
  | k + 1 => divs t b k ++ (if divT t b (2 + k) then [2 + (k : Int)] else [])
theorem divs_t {t b : Int} {k : Nat} (h1 : t.fmod (2 + (k : Int)) = 0) (h2 : b.fmod (2 + (k : Int)) = 0) : divs t b (k + 1) = divs t b k ++ [2 + (k : Int)] := by
  rw [divs, divT, h1, h2]; rfl
theorem divs_f1 {t b : Int} {k : Nat} (h1 : ¬ t.fmod (2 + (k : Int)) = 0) : divs t b (k + 1) = divs t b k := by
  rw [divs, divT, decide_eq_false h1]; simp
theorem divs_f2 {t b : Int} {k : Nat} (h2 : ¬ b.fmod (2 + (k : Int)) = 0) : divs t b (k + 1) = divs t b k := by
  rw [divs, divT, decide_eq_false h2]; simp
/-- one row of the triples: bottom 1 + i, tops below k -/
def part (i : Nat) : Nat → List (Int × Int × Int)
  | 0 => []
  | k + 1 => part i k ++ (if divs (0 + (k : Int)) (1 + (i : Int)) i = [] then [(((0 + (k : Int)) * 840).fdiv (1 + (i : Int)), 0 + (k : Int), 1 + (i : Int))] else [])
def rows : Nat → List (Int × Int × Int)
  | 0 => []
  | i + 1 => rows i ++ part i (i + 2)
theorem part_t {i k : Nat} (h : divs (0 + (k : Int)) (1 + (i : Int)) i = []) : part i (k + 1) = part i k ++ [(((0 + (k : Int)) * 840).fdiv (1 + (i : Int)), 0 + (k : Int), 1 + (i : Int))] := by
  rw [part, if_pos h]
theorem part_f {i k : Nat} (h : ¬ divs (0 + (k : Int)) (1 + (i : Int)) i = []) : part i (k + 1) = part i k := by
  rw [part, if_neg h, List.append_nil]
theorem part_len (i : Nat) : ∀ k, (part i k).length ≤ k
  | 0 => Nat.le_refl _
  | k + 1 => by
    have := part_len i k
    by_cases h : divs (0 + (k : Int)) (1 + (i : Int)) i = []
    · rw [part_t h, List.length_append, List.length_singleton]; omega
    · rw [part_f h]; omega
theorem rows_len : ∀ i, i ≤ 8 → (rows i).length ≤ 10 * i
  | 0, _ => Nat.le_refl _
  | i + 1, hi => by
    have h1 := rows_len i (by omega)
    have h2 := part_len i (i + 2)
    rw [rows, List.length_append]; omega

theorem offs {tl : List (Addr × Obj)} {D b : Addr} {o : Obj} (h : ∀ p ∈ tl, p.1 ≠ b) (hne : @Ne Nat D b) : ∀ p ∈ (D, o) :: tl, p.1 ≠ b := fun p hp => by
  rcases List.mem_cons.mp hp with rfl | hp
  · exact hne
  · exact h p hp
def RowK (lf cT cB I : Addr) (oI oB : Obj) (xs : List (Int × Int × Int)) (news : List (Addr × Obj)) : Prop :=
  ∃ us n oT tl, news = (I, oI) :: (lf, listOf us.toArray n) :: (cT, oT) :: (cB, oB) :: tl ∧ DatAll tl us (xs.map trip) ∧ (∀ p ∈ tl, p.1 ≠ lf) ∧ (∀ p ∈ tl, p.1 ≠ cT) ∧ (∀ p ∈ tl, p.1 ≠ cB) ∧ (∀ p ∈ tl, p.1 ≠ I) ∧ ∃ v, oT.data = .cell v
/-- the ledger of the row's loops -/
structure RowInv (lf cT cB : Addr) (xs : List (Int × Int × Int)) (us : List Value) (n : Nat) (oT oB : Obj) (tl : List (Addr × Obj)) : Prop where
  dat : DatAll tl us (xs.map trip)
  off1 : ∀ p ∈ tl, p.1 ≠ lf
  off2 : ∀ p ∈ tl, p.1 ≠ cT
  off3 : ∀ p ∈ tl, p.1 ≠ cB
  cellT : ∃ v, oT.data = .cell v
def RowJ (lf cT cB : Addr) (xs : List (Int × Int × Int)) (news : List (Addr × Obj)) : Prop :=
  ∃ us n oT oB tl, news = (lf, listOf us.toArray n) :: (cT, oT) :: (cB, oB) :: tl ∧ RowInv lf cT cB xs us n oT oB tl ∧ ∃ v, oB.data = .cell v

/-- the pairs of a row: top, bottom -/
def pairD (x : Int × Int) : Dat := .tuple [.int x.1, .int x.2]
def rowP (xs : List T3) (ix : List Nat) : List (Int × Int) := ix.map fun i => (xs.getD i (0, 0, 0)).2
def rowL (n : Nat) : List (Int × Int) := rowP (rows n) (sortedIx (rows n))
theorem rows_ok {n : Nat} (h : 3 ≤ n) (h2 : n ≤ 8) : sortOk (rows n) = true ∧ 2 ≤ (rows n).length ∧ (rows n).length < 64 ∧ (sortedIx (rows n)).length ≤ 64 := by
  have e : n = 3 ∨ n = 4 ∨ n = 5 ∨ n = 6 ∨ n = 7 ∨ n = 8 := by omega
  rcases e with rfl | rfl | rfl | rfl | rfl | rfl <;> decide +kernel
/-- what the row answers: a list of pairs, all new -/
def PRow (g : Heap) (xs : List (Int × Int)) (r : Value) (h' : Heap) : Prop :=
  ∃ l us n tl, r = .ref l ∧ g.get? l = none ∧ h'.get? l = some (listOf us.toArray n) ∧ DatAll tl us (xs.map pairD) ∧ ∀ p ∈ tl, g.get? p.1 = none ∧ h'.get? p.1 = some p.2
/-- the row's last step: from the sorted triples to the pairs -/
def RowF (base : List (Addr × Obj)) (xs : List T3) (ix : List Nat) (i : Nat) (ys : List Value) (nw : List (Addr × Obj)) : Prop :=
  ∃ tn, nw = tn ++ base ∧ DatAll tn ys ((rowP xs (ix.take i)).map pairD)
theorem rowF_src {xs : List T3} {ix : List Nat} {us : List Value} {tl : List (Addr × Obj)} {i : Nat} (hd : DatAll tl us (xs.map trip)) (ok : sortOk xs = true) (hix : ix = sortedIx xs)
    (hi : i < (List.toArray (ix.map fun i => us.getD i Value.none)).size) : ∃ j a n t1 t2 t3 x, ix[i]? = some j ∧ xs.getD j (0, 0, 0) = x ∧ (List.toArray (ix.map fun i => us.getD i Value.none))[i]? = some (.ref a) ∧ (a, tupO [.int x.1 t1, .int x.2.1 t2, .int x.2.2 t3] n) ∈ tl := by
  have hi' : i < ix.length := by simpa using hi
  have hj : ix[i] < xs.length := by
    obtain ⟨_, o⟩ := and_of ok
    rw [← hix] at o
    exact of_decide_eq_true (List.all_eq_true.mp o _ (List.getElem_mem hi'))
  obtain ⟨a, n, t1, t2, t3, e, hm⟩ := trips_get hd (List.getElem?_eq_getElem hj)
  refine ⟨ix[i], a, n, t1, t2, t3, xs[ix[i]], List.getElem?_eq_getElem hi', ?_, ?_, hm⟩
  · rw [List.getD_eq_getElem?_getD, List.getElem?_eq_getElem hj]; rfl
  · rw [List.getElem?_toArray, List.getElem?_map, List.getElem?_eq_getElem hi', Option.map_some, List.getD_eq_getElem?_getD, e]; rfl
theorem rowF_next {base nw : List (Addr × Obj)} {xs : List T3} {ix : List Nat} {i j : Nat} {ys : List Value} {x : T3} {D : Addr} {n : Nat} {t2 t3 : Tok} (h : RowF base xs ix i ys nw) (hj : ix[i]? = some j) (hx : xs.getD j (0, 0, 0) = x) :
    RowF base xs ix (i + 1) (ys ++ [.ref D]) ((D, tupO [.int x.2.1 t2, .int x.2.2 t3] n) :: nw) := by
  obtain ⟨tn, rfl, hd⟩ := h
  refine ⟨(D, tupO [.int x.2.1 t2, .int x.2.2 t3] n) :: tn, rfl, ?_⟩
  rw [List.take_add_one, hj]
  show DatAll _ _ ((rowP xs (ix.take i ++ [j])).map pairD)
  rw [rowP, List.map_append, List.map_append]
  refine DatAll.append (hd.mono fun p hp => .tail _ hp) ?_
  rw [List.map_singleton, List.map_singleton, hx]
  exact DatAll.one (.tuple (List.Mem.head _) (.cons (.int _ _) (.cons (.int _ _) .nil)))
end
section
local macro_rules | `(tactic| walk_at "call builtin:sorted") => `(tactic| (k_here; k_dflt (refine' sorted3 ?F ?N ?l ?d ?s ?a ?b ?c ?_; (case F => k_asm); (case N => k_asm); (case d => assumption); (case l => is_list); (case s => exact fun p hp => .tail _ (.tail _ (.tail _ hp))); (case a => assumption); (case b => assumption); (case c => assumption)); intro D' c' h' F' N' off'))
local macro_rules | `(tactic| walk_at "call builtin:list.append") => `(tactic| (k_here; (with_reducible show wpAny _ _ (call (Value.builtin _) [Value.ref _, _]) _ _ _); k_dflt (refine' append_K ?k1 ?k2 ?k3 ?_ ?z; (case k1 => k_asm); (case k2 => k_asm); (case k3 => k_upd); (case z => (first | size_fits | (simp only [List.size_toArray, sizeLine_eq]; omega))); k_whole); intro h' F' N'; (try k_sweep)))
local macro_rules | `(tactic| walk_at "eval ListComp") => `(tactic| (k_here; k_dflt (refine LCt.ListComp_T (F₀ := by k_asm) (by with_unfolding_all rfl) (by decide) (by rfl) (by decide) (by rfl) ?_)))
local macro_rules | `(tactic| k_all) => `(tactic| assumption)
local macro_rules | `(tactic| walk_at "exec For Name Call cons nil") => `(tactic| (k_here; (rename Fr _ _ _ _ => lF'); (with_unfolding_all refine' For_turns lF' ?_; k_whole)))
set_option maxHeartbeats 4000000 in
theorem row_spec {w : World} {s : Shared} {n : Int} {tn : Tok} (hn : 3 ≤ n) (hn2 : n ≤ 8) :
    Call w 900 280 [Value.int n tn] s (fun r h' => PRow s.heap (rowL n.toNat) r h') := by
  unfold Call
  k_fill
  intro A A₀ base h₀ outer cn cs a ccd cl L m p loose mean mg mb Q E B F X T hA hk hn hd hu hret
  refine wider hn hA hd hu ?_
  generalize A.guards = gds
  refine' enterC (binds := [(Str.ofString "most", Value.int n tn)]) B F X T rfl hk ?k6 ?k7 ?k8 ?k9 ?kB ?kD ?_ ?c2 ?c3 ?c4
  (case k6 => k_dflt k_is)
  (case k7 => k_dflt k_is)
  (case k8 => exact Nat.le_of_ble_eq_true rfl)
  (case k9 => exact BindsTo.of_eq rfl)
  (case kB => exact rfl)
  (case kD => decide +kernel)
  (case c2 => exact rfl)
  (case c3 => exact rfl)
  (case c4 => exact rfl)
  clear B F X T hA hk hn hd hu
  intro L' h' tk' cells' F' N' Y' B' X' T'
  k_cells Y'
  (try simp only [List.cons_append, List.nil_append] at N')
  (try dsimp only)
  (try k_fold)
  k_steps
  rename_i oT oB dT dB lf h1 l1 h2 F1 N1 h3 tk3 t1 u1 v1 hR F3 N3 hk3
  refine range_fix (n := n.toNat) (fun i news => RowJ lf (L' + 1 + 1) (L' + 1) (rows i) news) rfl hR ?small ?size F3 N3 ?inv ?turn ?done
  case small => exact small_one (by omega) (by omega) (by omega) (by omega)
  case size => rw [rangeSize_nat]; omega
  case inv => exact ⟨[], 0, oT, oB, [], rfl, ⟨.nil, List.forall_mem_nil _, List.forall_mem_nil _, List.forall_mem_nil _, ⟨_, dT⟩⟩, ⟨_, dB⟩⟩
  case done =>
    rintro n₁ h tk ⟨us, nn, oT, oB, tl, rfl, ⟨hd, f1, f2, f3, ⟨vT, dT⟩⟩, ⟨vB, dB⟩⟩ F₁ N₁
    obtain ⟨ok1, ok2, ok3, ok4⟩ := rows_ok (n := n.toNat) (by omega) (by omega)
    clear hR F3 N3 hk3 F1 N1
    replace F₁ : Fr s.heap L' h _ := F₁
    replace N₁ : News s.heap L' h _ := N₁
    (try k_fold)
    iterate 2 (first | walk1 | (dsimp only; walk1))
    k_dflt (refine listComp3 (F₀ := by k_asm) (by with_unfolding_all rfl) (by decide) (by rfl) (by decide) (by rfl) (by rfl) (by rfl) (by decide) (by decide) (by decide) ?_)
    k_steps
    rename_i D c h' F' N' off'
    generalize hix : sortedIx (rows n.toNat) = ix at *
    show Src3 _ _ _ _ _ _ _ _ _ _ _ _ _ _ _ _
    refine ⟨D, _, _, RowF _ (rows n.toNat) ix, rfl, rfl, F', N', .inr ⟨_, .head _, rfl, _, rfl⟩, ?len, ⟨[], rfl, .nil⟩, ?step, ?fin⟩
    case len => rw [sizeLine_eq, List.size_toArray, List.length_map]; omega
    case step =>
      intro i ys nw hi hJ
      obtain ⟨j, a, k, t1, t2, t3, x, e1, e2, e3, hm⟩ := rowF_src hd ok1 hix.symm hi
      refine ⟨a, .int x.1 t1, .int x.2.1 t2, .int x.2.2 t3, k, e3, ?_, ?_⟩
      · obtain ⟨tn, rfl, _⟩ := hJ
        exact List.mem_append_right _ (.tail _ (.tail _ (.tail _ (.tail _ hm))))
      intro I oI C oC D2 mC h tk E' hC hx hy hz F2 N2 off ne
      have hS : LCg.SrcAt s.heap D (List.toArray (ix.map fun i => us.getD i Value.none)) nw := by
        obtain ⟨tn, rfl, _⟩ := hJ
        exact .inr ⟨_, List.mem_append_right _ (.head _), rfl, _, rfl⟩
      obtain ⟨n1, n2, n3⟩ := ne
      clear N' F' off' F₁ N₁
      (try k_fold)
      k_steps
      rename_i D3 h3 F3 N3 l3
      obtain ⟨l4, l5, l6, _⟩ := l3
      refine LCg.CompEnd.intro F3 N3 ((D3, tupO [.int x.2.1 t2, .int x.2.2 t3] 0) :: nw) ?_ ⟨⟨?_, ?_, ?_⟩, off⟩ ?_ (rowF_next hJ e1 e2)
      · intro p hp
        simp only [List.mem_cons] at hp
        rcases hp with rfl | rfl | rfl | rfl | hp
        · exact .tail _ (.head _)
        · exact .tail _ (.tail _ (.head _))
        · exact .tail _ (.tail _ (.tail _ (.head _)))
        · exact .head _
        · exact .tail _ (.tail _ (.tail _ (.tail _ hp)))
      · exact Nat.ne_of_gt l4
      · exact Nat.ne_of_gt l5
      · exact Nat.ne_of_gt l6
      · obtain ⟨tn, rfl, _⟩ := hJ
        exact .inr ⟨_, .tail _ (List.mem_append_right _ (.head _)), rfl, _, rfl⟩
    case fin =>
      intro ys nw hJ D2 h2 tk2 F2 N2 off
      obtain ⟨tn, rfl, hdt⟩ := hJ
      have e : (rowP (rows n.toNat) (ix.take (List.toArray (ix.map fun i => us.getD i Value.none)).size)).map pairD = (rowL n.toNat).map pairD := by
        rw [List.size_toArray, List.length_map, List.take_length, rowL, hix]
      rw [e] at hdt
      clear N' F' off' F₁ N₁
      (try k_fold)
      k_dflt (refine' hret _ _ _ ?e1 ⟨D2, ys, ys.length, tn, rfl, ?e2, ?e3, hdt, ?e4⟩)
      (case e1 => exact F2.keep)
      (case e2 => exact (N2 _ (.head _)).2.2)
      (case e3 => exact (N2 _ (.head _)).1)
      (case e4 => exact fun p hp => ⟨(N2 p (.tail _ (List.mem_append_left _ hp))).2.2, (N2 p (.tail _ (List.mem_append_left _ hp))).1⟩)
  rintro i I o n₁ t h tk hi ⟨us, nn, oT, oB, tl, rfl, ⟨hd, f1, f2, f3, ⟨vT, dT⟩⟩, ⟨vB, dB⟩⟩ hc hoff F₁ N₁
  have g1 : @Ne Nat lf I := hoff _ (.head _)
  have g2 : @Ne Nat (L' + 1 + 1) I := hoff _ (.tail _ (.head _))
  have g3 : @Ne Nat (L' + 1) I := hoff _ (.tail _ (.tail _ (.head _)))
  have g4 : ∀ p ∈ tl, p.1 ≠ I := fun p hp => hoff p (.tail _ (.tail _ (.tail _ hp)))
  clear hoff hR F3 N3 hk3 F1 N1
  replace F₁ : Fr s.heap L' h _ := F₁
  replace N₁ : News s.heap L' h _ := N₁
  (try k_fold)
  k_steps
  rename_i h5 oB5 F5 N5 d5 h6 tk6 t6 u6 v6 hR6 F6 N6 hk6
  refine range_fix (n := i + 2) (fun j news => RowK lf (L' + 1 + 1) (L' + 1) I o oB5 (rows i ++ part i j) news) rfl hR6 ?small2 ?size2 F6 N6 ?inv2 ?turn2 ?done2
  case small2 => exact small_one (by omega) (by omega) (by omega) (by omega)
  case size2 => rw [rangeSize_nat]; omega
  case inv2 => exact ⟨us, nn, oT, tl, rfl, by rw [part, List.append_nil]; exact hd, f1, f2, f3, g4, ⟨_, dT⟩⟩
  case done2 =>
    rintro n₁ h15 tk15 ⟨us, nn, oT, tl, rfl, hd, f1, f2, f3, f4, ⟨vT, dT⟩⟩ F15 N15
    (try k_fold)
    k_steps
    show TurnEndR _ _ _ _ _ _ _
    refine ⟨_, _, _, (lf, listOf us.toArray nn) :: (L' + 1 + 1, oT) :: (L' + 1, oB5) :: tl, rfl, F15, N15, ?_, rfl, ⟨us, nn, oT, oB5, tl, rfl, ⟨hd, f1, f2, f3, ⟨_, dT⟩⟩, ⟨_, d5⟩⟩⟩
    intro p hp
    simp only [List.mem_cons] at hp
    rcases hp with rfl | rfl | rfl | h
    · exact g1
    · exact g2
    · exact g3
    · exact f4 p h
  clear f1 f2 f3 g4 hd dT oT dB oB hR6 F5 N5 F6 N6 hk6
  rintro j I2 o2 n₁ t2 h7 tk7 hj ⟨us, nn, oT, tl, rfl, hd, f1, f2, f3, f4, ⟨vT, dT⟩⟩ hc2 hoff F₁ N₁
  have k0 : @Ne Nat I I2 := hoff _ (.head _)
  have k1 : @Ne Nat lf I2 := hoff _ (.tail _ (.head _))
  have k2 : @Ne Nat (L' + 1 + 1) I2 := hoff _ (.tail _ (.tail _ (.head _)))
  have k3 : @Ne Nat (L' + 1) I2 := hoff _ (.tail _ (.tail _ (.tail _ (.head _))))
  have k4 : ∀ p ∈ tl, p.1 ≠ I2 := fun p hp => hoff p (.tail _ (.tail _ (.tail _ (.tail _ hp))))
  clear hoff
  replace F₁ : Fr s.heap L' h7 _ := F₁
  replace N₁ : News s.heap L' h7 _ := N₁
  have hsz : us.length ≤ 100 := by
    have e1 := hd.length
    have e2 := rows_len i (by omega)
    have e3 := part_len i j
    rw [List.length_map, List.length_append] at e1
    omega
  (try k_fold)
  k_steps
  rename_i h8 oT8 F8 N8 d8 h9 tk9 t9 u9 v9 hR9 F9 N9 hk9
  refine LCt.CompSrcT.range (n := i) rfl F9 N9 hR9 (small_one (by omega) (by omega) (by omega) (by omega)) (by rw [rangeSize_nat]; omega) (by rw [sizeLine_eq]; omega) ?_
  intro g
  clear F8 N8 hR9 F9 N9 hk9
  refine compT_fix (fun k ys => IntsAre ys (divs (0 + j) (1 + i) k)) .nil ?step3 ?done3
  rotate_left
  · intro ys hys
    unfold LCg.FinE
    intro D11 h11 tk11 F11 N11 o11
    simp only [LCg.Off1] at o11
    obtain ⟨a1, a2, a3, a4, a5, o12⟩ := o11
    (try k_fold)
    k_steps
    · rename_i l12 h12 l12' hcop D13 h13 l13 h14 F14 N14
      have hcop := of_decide_eq_true hcop
      rw [List.push_toArray] at N14
      show TurnEndR _ _ _ _ _ _ _
      refine ⟨_, _, _, (I, o) :: (lf, listOf (us ++ [Value.ref D13]).toArray (nn + 1)) :: (L' + 1 + 1, oT8) :: (L' + 1, oB5) :: (D13, tupO [Value.int (((0 + (j : Int)) * 840).fdiv (1 + (i : Int))) (tk11 + 1 + 1), Value.int (0 + (j : Int)) t2, Value.int (1 + (i : Int)) t] 0) :: tl, rfl, F14, fun p hp => N14 p ?_, ?_, rfl, ⟨us ++ [Value.ref D13], nn + 1, oT8, (D13, tupO [Value.int (((0 + (j : Int)) * 840).fdiv (1 + (i : Int))) (tk11 + 1 + 1), Value.int (0 + (j : Int)) t2, Value.int (1 + (i : Int)) t] 0) :: tl, rfl, ?_, offs f1 (by omega), offs f2 (by omega), offs f3 (by omega), offs f4 (by omega), ⟨_, d8⟩⟩⟩
      · simp only [List.mem_cons] at hp
        rcases hp with rfl | rfl | rfl | rfl | rfl | rfl | hp
        · k_mem
        · k_mem
        · k_mem
        · k_mem
        · k_mem
        · k_mem
        · exact .tail _ (.tail _ (.tail _ (.tail _ (.tail _ (.tail _ (.tail _ (.tail _ hp)))))))
      · intro p hp
        simp only [List.mem_cons] at hp
        rcases hp with rfl | rfl | rfl | rfl | rfl | h
        · exact k0
        · exact k1
        · exact k2
        · exact k3
        · exact (show @Ne Nat D13 I2 by omega)
        · exact k4 p h
      · rw [part_t hcop, ← List.append_assoc, List.map_append]
        exact DatAll.append (hd.mono fun p hp => .tail _ hp) (DatAll.one (.tuple (List.Mem.head _) (.cons (.int _ _) (.cons (.int _ _) (.cons (.int _ _) .nil)))))
    · rename_i l12 h12 F14 N14 l13 hcop
      have hcop := of_decide_eq_false hcop
      show TurnEndR _ _ _ _ _ _ _
      refine ⟨_, _, _, (I, o) :: (lf, listOf us.toArray nn) :: (L' + 1 + 1, oT8) :: (L' + 1, oB5) :: tl, rfl, F14, fun p hp => N14 p ?_, ?_, rfl, ⟨us, nn, oT8, tl, rfl, ?_, f1, f2, f3, f4, ⟨_, d8⟩⟩⟩
      · simp only [List.mem_cons] at hp
        rcases hp with rfl | rfl | rfl | rfl | rfl | hp
        · k_mem
        · k_mem
        · k_mem
        · k_mem
        · k_mem
        · exact .tail _ (.tail _ (.tail _ (.tail _ (.tail _ (.tail _ (.tail _ hp))))))
      · intro p hp
        simp only [List.mem_cons] at hp
        rcases hp with rfl | rfl | rfl | rfl | h
        · exact k0
        · exact k1
        · exact k2
        · exact k3
        · exact k4 p h
      · rw [part_f hcop]; exact hd
  intro k ys hk hys v Ic oIc C oC D m₂ h10 tk10 E' hP hC hx F10 N10 off ne
  obtain ⟨t10, rfl⟩ := hP
  have off0 := off
  simp only [LCg.Off3] at off
  obtain ⟨⟨p1, p2, p3⟩, ⟨q1, q2, q3⟩, ⟨r1, r2, r3⟩, ⟨s1, s2, s3⟩, ⟨w1, w2, w3⟩, off⟩ := off
  obtain ⟨n1, n2, n3⟩ := ne
  (try k_fold)
  k_steps
  all_goals (
    refine LCg.CompEnd.intro (by assumption) (by assumption) _ (fun p hp => hp) off0 trivial ⟨rfl, ?_⟩
    first
      | (rw [divs_t (by assumption) (by assumption)]; exact IntsAre.append hys (.cons _ _ .nil))
      | (rw [divs_f1 (by assumption)]; exact hys)
      | (rw [divs_f2 (by assumption)]; exact hys))
end
section
open PyProof.V
/-- a place where the walk is to stop -/
def Stop (P : Prop) : Prop := P
theorem stop_here {P : Prop} (h : Stop P) : P := h
theorem stop_go {P : Prop} (h : P) : Stop P := h
/-- after the drum: the two numbers within their bounds -/
def Drawn (h₀ : Heap) (L : Addr) (m : Str → Option Value) (s : Shared) (f : Flow) (s' : Shared) : Prop :=
  f = .next ∧ ∃ n wv tn tw o h' tk', s' = { s with heap := h', toks := tk' } ∧ (3 ≤ n ∧ n ≤ 7 ∧ 3 ≤ wv ∧ wv ≤ 8) ∧
    Fr h₀ L h' (fun y => if y = Str.ofString "most" then some (Value.int n tn) else m y) ∧ News h₀ L h' [((L + 1 : Nat), o)] ∧ o.data = .cell (some (Value.int wv tw))
theorem draw6 {x : Int} : 3 ≤ 3 + x.fmod 6 ∧ 3 + x.fmod 6 ≤ 8 := by
  rw [Int.fmod_eq_emod_of_nonneg _ (by decide)]; omega
theorem draw5 {x : Int} : 3 ≤ 3 + x.fmod 5 ∧ 3 + x.fmod 5 ≤ 7 := by
  rw [Int.fmod_eq_emod_of_nonneg _ (by decide)]; omega
theorem drawn_of {h₀ : Heap} {L : Addr} {m : Str → Option Value} {s : Shared} {x y : Int} {tn tw : Tok} {o : Obj} {h' : Heap} {tk' : Nat} {news : List (Addr × Obj)} (F : Fr h₀ L h' (fun z => if z = Str.ofString "most" then some (Value.int (3 + y.fmod 5) tn) else m z)) (N : News h₀ L h' news)
    (hm : ((L + 1 : Nat), o) ∈ news) (hd : o.data = .cell (some (Value.int (3 + x.fmod 6) tw))) : Drawn h₀ L m s .next { s with heap := h', toks := tk' } :=
  ⟨rfl, _, _, _, _, o, h', tk', rfl, ⟨draw5.1, draw5.2, draw6.1, draw6.2⟩, F, fun p hp => by rw [List.mem_singleton.mp hp]; exact N _ hm, hd⟩
theorem cutDraw {M : Model} {A : Around} {env : Env} {Q : Flow → Shared → Prop} {E : Value → Shared → Prop} {s : Shared} {h₀ : Heap} {L : Addr} {m : Str → Option Value} {p₁ p₃ p : Pos} {x : Expr} {k} {v : Expr} {rest : List Stmt}
    (F : Fr h₀ L s.heap m)
    (h1 : wpAny M A (exec (.Assign [.Tuple [.Name (Str.ofString "w") p₁, x] k p₃] v p) env) (Drawn h₀ L m s) E s)
    (h2 : ∀ n wv tn tw o h' tk', 3 ≤ n → n ≤ 7 → 3 ≤ wv → wv ≤ 8 → Fr h₀ L h' (fun y => if y = Str.ofString "most" then some (Value.int n tn) else m y) → News h₀ L h' [((L + 1 : Nat), o)] → o.data = .cell (some (Value.int wv tw)) →
      wpAny M A (execs rest env) Q E { s with heap := h', toks := tk' }) : wpAny M A (execs (.Assign [.Tuple [.Name (Str.ofString "w") p₁, x] k p₃] v p :: rest) env) Q E s := by
  refine wpAny_execs_cons (wpAny_mono h1 (fun f s' d => ?_) fun _ _ e => e)
  obtain ⟨rfl, n, wv, tn, tw, o, h', tk', rfl, ⟨a, b, c, d⟩, F', N', e⟩ := d
  exact h2 n wv tn tw o h' tk' a b c d F' N' e
end
section
open PyProof.V
/-- a fraction: top, bottom -/
abbrev Frac := Sg × Sg
def oneS : Sg := (false, [1])
def boundS (w n : Int) : Sg := (false, limbsL w n)
def manyS (w n : Int) (h t : Frac) : Sg := sgOf false (dvQ w (sAdd w (boundS w n) h.2).2 t.2.2)
def nextF (w n : Int) (h t : Frac) : Frac := (sSub w (sMul w (manyS w n h t) t.1) h.1, sSub w (sMul w (manyS w n h t) t.2) h.2)
/-- the two neighbours at the start of a turn -/
def stF (w n : Int) : Nat → Frac × Frac
  | 0 => (((false, []), oneS), (oneS, boundS w n))
  | k + 1 => ((stF w n k).2, nextF w n (stF w n k).1 (stF w n k).2)
def hF (w n : Int) (k : Nat) : Frac := (stF w n k).1
def tF (w n : Int) (k : Nat) : Frac := (stF w n k).2
def crossS (w : Int) (h t : Frac) : Sg := sSub w (sMul w h.2 t.1) (sMul w h.1 t.2)
def bothS (w : Int) (h t : Frac) : Sg := sMul w h.2 t.2
def apX (t : Frac) : Rat2 := (t.1, t.2.2)
def apY (h : Frac) : Rat2 := (sNeg h.1, h.2.2)
def okR (w : Int) (x y : Rat2) : Bool :=
  okCommon w 6 x.2 y.2 && (okDv w x.2 (rTold w x y) && (okDv w y.2 (rTold w x y) && (okMul w x.1.2 (rThere w x y) && (okMul w y.1.2 (rHere w x y) &&
  (okSAdd w (sMul w x.1 (false, rThere w x y)) (sMul w y.1 (false, rHere w x y)) && (!decide (((rTop w x y).2.length : Int) = 0) && (okCommon w 6 (rTop w x y).2 (rTold w x y) &&
  (okDv w (rTop w x y).2 (rOut w x y) && (okDv w y.2 (rOut w x y) && okMul w (rHere w x y) (dvQ w y.2 (rOut w x y)))))))))))
theorem OkR.of {w : Int} {x y : Rat2} (h : okR w x y = true) : OkR w x y := by
  simp only [okR, Bool.and_eq_true, Bool.not_eq_true', decide_eq_false_iff_not] at h
  obtain ⟨a, b, c, d, e, f, g, i, j, k, l⟩ := h
  exact ⟨a, b, c, d, e, f, g, i, j, k, l⟩
def sgD (x : Sg) : PyData := .tuple [.bool x.1, .list (x.2.map PyData.int)]
def ratD (x : Rat2) : PyData := .tuple [sgD x.1, .list (x.2.map PyData.int)]
def frD (x : Frac) : PyData := .tuple [sgD x.1, sgD x.2]
/-- the data compare, and this is the answer -/
def cmpOk (a b : PyData) (e : Bool) : Bool := SeqAt.shaped a && (SeqAt.shaped b && (PyData.eqv a b == e))
theorem cmpOk_of {a b : PyData} {e : Bool} (h : cmpOk a b e = true) : SeqAt.shaped a = true ∧ SeqAt.shaped b = true ∧ PyData.eqv a b = e := by
  simp only [cmpOk, Bool.and_eq_true, beq_iff_eq] at h
  exact h
/-- all that a turn asks of its neighbours -/
structure OkT (w n : Int) (h t : Frac) : Prop where
  m1 : okMul w h.2.2 t.1.2 = true
  m2 : okMul w h.1.2 t.2.2 = true
  s1 : okSAdd w (sMul w h.2 t.1) (sNeg (sMul w h.1 t.2)) = true
  m3 : okMul w h.2.2 t.2.2 = true
  r : OkR w (apX t) (apY h)
  l1 : h.1.2.length ≤ 8
  l2 : h.2.2.length ≤ 8
  cross : cmpOk (sgD (crossS w h t)) (sgD oneS) true = true
  apart : cmpOk (ratD (rAdd w (apX t) (apY h))) (ratD (oneS, (bothS w h t).2)) true = true
  w1 : okWorth w h.2.2 = true
  w2 : okWorth w t.2.2 = true
  sum : ¬ worthL w h.2.2 + worthL w t.2.2 ≤ n
structure OkN (w n : Int) (h t : Frac) : Prop where
  a1 : okSAdd w (boundS w n) h.2 = true
  f : (sAdd w (boundS w n) h.2).1 = false
  f2 : t.2.1 = false
  d : okDv w (sAdd w (boundS w n) h.2).2 t.2.2 = true
  l : (sAdd w (boundS w n) h.2).2.length ≤ 8
  m4 : okMul w (manyS w n h t).2 t.1.2 = true
  s2 : okSAdd w (sMul w (manyS w n h t) t.1) (sNeg h.1) = true
  m5 : okMul w (manyS w n h t).2 t.2.2 = true
  s3 : okSAdd w (sMul w (manyS w n h t) t.2) (sNeg h.2) = true
def okTn (w n : Int) (h t : Frac) : Bool :=
  okMul w h.2.2 t.1.2 && (okMul w h.1.2 t.2.2 && (okSAdd w (sMul w h.2 t.1) (sNeg (sMul w h.1 t.2)) && (okMul w h.2.2 t.2.2 && (okR w (apX t) (apY h) && (decide (h.1.2.length ≤ 8) && (decide (h.2.2.length ≤ 8) &&
  (cmpOk (sgD (crossS w h t)) (sgD oneS) true && (cmpOk (ratD (rAdd w (apX t) (apY h))) (ratD (oneS, (bothS w h t).2)) true && (okWorth w h.2.2 && (okWorth w t.2.2 && !decide (worthL w h.2.2 + worthL w t.2.2 ≤ n)))))))))))
theorem OkT.of {w n : Int} {h t : Frac} (o : okTn w n h t = true) : OkT w n h t := by
  simp only [okTn, Bool.and_eq_true, Bool.not_eq_true', decide_eq_false_iff_not, decide_eq_true_eq] at o
  obtain ⟨a, b, c, d, e, f, g, i, j, k, l, m⟩ := o
  exact ⟨a, b, c, d, OkR.of e, f, g, i, j, k, l, m⟩
def okN (w n : Int) (h t : Frac) : Bool :=
  okSAdd w (boundS w n) h.2 && (decide ((sAdd w (boundS w n) h.2).1 = false) && (decide (t.2.1 = false) && (okDv w (sAdd w (boundS w n) h.2).2 t.2.2 && (decide ((sAdd w (boundS w n) h.2).2.length ≤ 8) &&
  (okMul w (manyS w n h t).2 t.1.2 && (okSAdd w (sMul w (manyS w n h t) t.1) (sNeg h.1) && (okMul w (manyS w n h t).2 t.2.2 && okSAdd w (sMul w (manyS w n h t) t.2) (sNeg h.2))))))))
theorem OkN.of {w n : Int} {h t : Frac} (o : okN w n h t = true) : OkN w n h t := by
  simp only [okN, Bool.and_eq_true, decide_eq_true_eq] at o
  obtain ⟨a, b, c, d, e, f, g, i, j⟩ := o
  exact ⟨a, b, c, d, e, f, g, i, j⟩
/-- the turn that breaks off -/
def lastT (n : Int) : Nat := (rowL n.toNat).length - 2
def lastF : Frac := (oneS, oneS)
/-- the row of fractions after k turns -/
def fracs (w n : Int) : Nat → List Frac
  | 0 => [((false, []), oneS)]
  | k + 1 => fracs w n k ++ [tF w n k]
def toldP (w : Int) (x : Frac) : Int × Int := (worthL w x.1.2, worthL w x.2.2)
def okTurns (w n : Int) : Nat → Bool
  | 0 => true
  | k + 1 => okTurns w n k && (decide (k < 24) && (okTn w n (hF w n k) (tF w n k) && (if k = lastT n then cmpOk (frD (tF w n k)) (frD lastF) true else cmpOk (frD (tF w n k)) (frD lastF) false && okN w n (hF w n k) (tF w n k))))
def okTold (w n : Int) : Bool := (fracs w n (lastT n + 1)).all (fun x => okWorth w x.1.2 && okWorth w x.2.2) && decide ((fracs w n (lastT n + 1)).map (toldP w) = rowL n.toNat)
def okCase (w n : Int) : Bool := okTurns w n (lastT n + 1) && okTold w n
theorem limHi_of {n w : Int} (n1 : 3 ≤ n) (n2 : n ≤ 7) (w1 : 3 ≤ w) : limHi n w := by
  have e : (2 : Int) ^ w.toNat = 8 * 2 ^ (w.toNat - 3) := by
    have : w.toNat = 3 + (w.toNat - 3) := by omega
    rw [this, Int.pow_add]; simp
  have h : (0 : Int) < 2 ^ (w.toNat - 3) := Int.pow_pos (by decide)
  show n.fdiv _ = 0
  rw [e, Int.fdiv_eq_ediv_of_nonneg _ (by omega)]
  exact Int.ediv_eq_zero_of_lt (by omega) (by omega)
theorem cases30 {w n : Int} {P : Int → Int → Prop} (h : ∀ a ∈ [3, 4, 5, 6, 7, 8], ∀ b ∈ [3, 4, 5, 6, 7], P a b) (w1 : 3 ≤ w) (w2 : w ≤ 8) (n1 : 3 ≤ n) (n2 : n ≤ 7) : P w n := by
  refine h w ?_ n ?_
  · simp only [List.mem_cons, List.not_mem_nil, or_false]; omega
  · simp only [List.mem_cons, List.not_mem_nil, or_false]; omega
theorem ok_case {w n : Int} (w1 : 3 ≤ w) (w2 : w ≤ 8) (n1 : 3 ≤ n) (n2 : n ≤ 7) : okCase w n = true :=
  cases30 (P := fun w n => okCase w n = true) (by decide +kernel) w1 w2 n1 n2
theorem okTurns_le {w n : Int} : ∀ {k i : Nat}, okTurns w n k = true → i < k → okTurns w n (i + 1) = true
  | k + 1, i, h, hi => by
    by_cases e : i = k
    · subst e; exact h
    · exact okTurns_le (and_of h).1 (by omega)
theorem turn_ok {w n : Int} (w1 : 3 ≤ w) (w2 : w ≤ 8) (n1 : 3 ≤ n) (n2 : n ≤ 7) {k : Nat} (hk : k ≤ lastT n) :
    k < 24 ∧ OkT w n (hF w n k) (tF w n k) ∧ (k = lastT n → cmpOk (frD (tF w n k)) (frD lastF) true = true) ∧ (k ≠ lastT n → cmpOk (frD (tF w n k)) (frD lastF) false = true ∧ OkN w n (hF w n k) (tF w n k)) := by
  have o := okTurns_le (and_of (ok_case w1 w2 n1 n2)).1 (i := k) (by omega)
  obtain ⟨_, o⟩ := and_of o
  obtain ⟨o1, o⟩ := and_of o
  obtain ⟨o2, o3⟩ := and_of o
  refine ⟨of_decide_eq_true o1, OkT.of o2, fun e => ?_, fun e => ?_⟩
  · rw [if_pos e] at o3; exact o3
  · rw [if_neg e] at o3
    obtain ⟨o4, o5⟩ := and_of o3
    exact ⟨o4, OkN.of o5⟩
theorem told_ok {w n : Int} (w1 : 3 ≤ w) (w2 : w ≤ 8) (n1 : 3 ≤ n) (n2 : n ≤ 7) :
    (∀ x ∈ fracs w n (lastT n + 1), okWorth w x.1.2 = true ∧ okWorth w x.2.2 = true) ∧ (fracs w n (lastT n + 1)).map (toldP w) = rowL n.toNat := by
  obtain ⟨o1, o2⟩ := and_of (and_of (ok_case w1 w2 n1 n2)).2
  exact ⟨fun x hx => and_of (List.all_eq_true.mp o1 x hx), of_decide_eq_true o2⟩
end
section
open PyProof.V
theorem fdiv_spec2 {w : World} {s : Shared} {lx tx : Addr} {sx : Bool} {itx : Array Value} {xsx : List Int} (hlx : s.heap.IsList lx itx) (hix : IntsAre itx.toList xsx) (htx : IsTup s.heap tx [Value.bool sx, Value.ref lx].toArray) {ly ty : Addr} {sy : Bool} {ity : Array Value} {xsy : List Int} (hly : s.heap.IsList ly ity) (hiy : IntsAre ity.toList xsy) (hty : IsTup s.heap ty [Value.bool sy, Value.ref ly].toArray) {w' : Int} {tw : Tok}
    (hx : sx = false) (hy : sy = false) (hlen : xsx.length ≤ 8) (ok : okDv w' xsx xsy = true) :
    Call w 850 163 [.ref tx, .ref ty, Value.int w' tw, Value.ref 254] s (fun r h' => PSS s.heap (sgB false (dvQ w' xsx xsy)) (dvQ w' xsx xsy) (sgB false (dvR w' xsx xsy)) (dvR w' xsx xsy) r h') := by
  subst hx hy
  match xsy, ok with
  | [d], ok =>
    obtain ⟨u, rfl⟩ := arr1 hiy
    exact fdiv_spec hlx hix htx hly hiy hty hlen ok
  | [], ok => exact absurd (and_of ok).2 (by simp)
  | _ :: _ :: _, ok => exact absurd (and_of ok).2 (by simp)
section
variable {w : World} {A A₀ : Around} {base h₀ : Heap} {outer : List Env} {cn : Str} {cs : Scope} {a : Addr} {ccd : Value} {cl : List (Str × Addr)} {L : Addr} {m : Str → Option Value} {s : Shared} {d : Nat} {f : Addr}
    {p : Program} {loose : List Str} {mean : ExcName → Option Value} {mg mb : Str → Option Value} {Q E : Value → Shared → Prop} {vs : List Value} {news : List (Addr × Obj)} {xs : List (Int × Int)}
theorem use_row (C : Call w d f vs s (PRow s.heap xs)) (B : Below A₀ base outer h₀) (F : Fr h₀ L s.heap m) (X : (hd.heap_39 w.params).In h₀) (N : News h₀ L s.heap news) (T : Top p loose mean mg mb h₀) (hA : A.frames = some (envX cn cs L a ccd cl :: outer)) (hk : cs.kind = .function) (hn : A.handled = none) (hd : A.depth ≤ d) (hu : A.units ≤ 4 * d)
    (ret : ∀ l us n tl h' tk', Fr h₀ L h' m → News h₀ L h' ((l, listOf us.toArray n) :: (tl ++ news)) → DatAll tl us (xs.map pairD) → Q (.ref l) { s with heap := h', toks := tk' }) : wpAny (model PySem.Challenge.rw_xm0408_01.prog w) A (call (.ref f) vs) Q E s := by
  refine C A A₀ base h₀ outer cn cs a ccd cl L m p loose mean mg mb Q E B F X T hA hk hn hd hu ?_
  rintro r h' tk' st ⟨l, us, n, tl, rfl, h1, h2, h3, h4⟩
  refine ret l us n tl h' tk' (F.kept st) (news_more F (fun p hp => ?_) h1 h2) h3
  rcases List.mem_append.mp hp with hp | hp
  · exact ⟨(h4 p hp).2, (new_of F (h4 p hp).1).1, (new_of F (h4 p hp).1).2⟩
  · exact (N.grown st) p hp
end
/-- what stands in the ledger: a signed number, a fraction, a row of fractions -/
def SgIn (tl : List (Addr × Obj)) (a : Addr) (x : Sg) : Prop := ∃ l us k n, (a, tupO [.bool x.1, .ref l] k) ∈ tl ∧ (l, listOf us.toArray n) ∈ tl ∧ IntsAre us x.2
def FracIn (tl : List (Addr × Obj)) (a : Addr) (x : Frac) : Prop := ∃ p q k, (a, tupO [.ref p, .ref q] k) ∈ tl ∧ SgIn tl p x.1 ∧ SgIn tl q x.2
def FracsIn (tl : List (Addr × Obj)) : List Value → List Frac → Prop
  | [], [] => True
  | v :: vs, x :: xs => (∃ a, v = .ref a ∧ FracIn tl a x) ∧ FracsIn tl vs xs
  | _, _ => False
theorem SgIn.mono {tl tl' : List (Addr × Obj)} {a : Addr} {x : Sg} (h : SgIn tl a x) (hs : ∀ p ∈ tl, p ∈ tl') : SgIn tl' a x := by
  obtain ⟨l, us, k, n, a1, a2, a3⟩ := h
  exact ⟨l, us, k, n, hs _ a1, hs _ a2, a3⟩
theorem FracIn.mono {tl tl' : List (Addr × Obj)} {a : Addr} {x : Frac} (h : FracIn tl a x) (hs : ∀ p ∈ tl, p ∈ tl') : FracIn tl' a x := by
  obtain ⟨p, q, k, a1, a2, a3⟩ := h
  exact ⟨p, q, k, hs _ a1, a2.mono hs, a3.mono hs⟩
theorem FracsIn.mono {tl tl' : List (Addr × Obj)} (hs : ∀ p ∈ tl, p ∈ tl') : ∀ {vs : List Value} {xs : List Frac}, FracsIn tl vs xs → FracsIn tl' vs xs
  | [], [], _ => trivial
  | _ :: _, _ :: _, ⟨⟨a, e, h⟩, r⟩ => ⟨⟨a, e, h.mono hs⟩, r.mono hs⟩
  | [], _ :: _, h => h
  | _ :: _, [], h => h
theorem FracsIn.snoc {tl : List (Addr × Obj)} {a : Addr} {x : Frac} (h : FracIn tl a x) : ∀ {vs : List Value} {xs : List Frac}, FracsIn tl vs xs → FracsIn tl (vs ++ [.ref a]) (xs ++ [x])
  | [], [], _ => ⟨⟨a, rfl, h⟩, trivial⟩
  | _ :: _, _ :: _, ⟨e, r⟩ => ⟨e, FracsIn.snoc h r⟩
  | [], _ :: _, h => h.elim
  | _ :: _, [], h => h.elim
theorem FracsIn.length {tl : List (Addr × Obj)} : ∀ {vs : List Value} {xs : List Frac}, FracsIn tl vs xs → vs.length = xs.length
  | [], [], _ => rfl
  | _ :: _, _ :: _, ⟨_, r⟩ => congrArg (· + 1) r.length
  | [], _ :: _, h => h.elim
  | _ :: _, [], h => h.elim
theorem FracsIn.get {tl : List (Addr × Obj)} : ∀ {vs : List Value} {xs : List Frac} {i : Nat}, FracsIn tl vs xs → i < vs.length → ∃ a x, vs[i]? = some (.ref a) ∧ xs[i]? = some x ∧ FracIn tl a x
  | _ :: _, _ :: _, 0, ⟨⟨a, e, h⟩, _⟩, _ => ⟨a, _, by rw [e]; rfl, rfl, h⟩
  | _ :: _, _ :: _, i + 1, ⟨_, r⟩, hi => by
    obtain ⟨a, x, e1, e2, h⟩ := r.get (i := i) (by simpa using hi)
    exact ⟨a, x, e1, e2, h⟩
  | [], [], _, _, hi => by simp at hi
  | [], _ :: _, _, h, _ => h.elim
  | _ :: _, [], _, h, _ => h.elim
section
variable {h₀ h : Heap} {L : Addr} {news : List (Addr × Obj)}
theorem reads_sg (N : News h₀ L h news) {a l : Addr} {b : Bool} {us : List Value} {xs : List Int} {k n : Nat} (m1 : (a, tupO [.bool b, .ref l] k) ∈ news) (m2 : (l, listOf us.toArray n) ∈ news) (hi : IntsAre us xs) : ∃ as, Reads h (.ref a) (sgD (b, xs)) as :=
  ⟨_, reads_tuple_at (N.get m1) rfl rfl (ReadsAll.cons (Reads.bool b) (ReadsAll.cons (reads_list_at (N.get m2) rfl rfl (IntsAre.reads h (by simpa [W.listOf] using hi))) ReadsAll.nil))⟩
theorem reads_rat (N : News h₀ L h news) {a p l : Addr} {x : Sg} {us : List Value} {xs : List Int} {k n : Nat} (m1 : (a, tupO [.ref p, .ref l] k) ∈ news) (hp : ∃ as, Reads h (.ref p) (sgD x) as) (m2 : (l, listOf us.toArray n) ∈ news) (hi : IntsAre us xs) : ∃ as, Reads h (.ref a) (ratD (x, xs)) as := by
  obtain ⟨as, r⟩ := hp
  exact ⟨_, reads_tuple_at (N.get m1) rfl rfl (ReadsAll.cons r (ReadsAll.cons (reads_list_at (N.get m2) rfl rfl (IntsAre.reads h (by simpa [W.listOf] using hi))) ReadsAll.nil))⟩
theorem reads_fr (N : News h₀ L h news) {a p q : Addr} {x y : Sg} {k : Nat} (m1 : (a, tupO [.ref p, .ref q] k) ∈ news) (hp : ∃ as, Reads h (.ref p) (sgD x) as) (hq : ∃ as, Reads h (.ref q) (sgD y) as) : ∃ as, Reads h (.ref a) (frD (x, y)) as := by
  obtain ⟨as, r⟩ := hp
  obtain ⟨bs, r2⟩ := hq
  exact ⟨_, reads_tuple_at (N.get m1) rfl rfl (ReadsAll.cons r (ReadsAll.cons r2 ReadsAll.nil))⟩
end
section
variable {prog : Program} {w : World} {A : Around} {E Q : Value → Shared → Prop} {s : Shared} {a b : Value} {da db : PyData} {e : Bool}
theorem ne_of_data (ra : ∃ as, Reads s.heap a da as) (rb : ∃ as, Reads s.heap b db as) (hc : cmpOk da db e = true) (hu : A.units + 64 < cLine) (h : Q (.bool (!e)) s) : wpAny (model prog w) A (compareOp .NotEq a b) Q E s := by
  obtain ⟨as, ra⟩ := ra
  obtain ⟨bs, rb⟩ := rb
  obtain ⟨c1, c2, c3⟩ := cmpOk_of hc
  exact ne_dataH ra rb c1 c2 hu (by rw [c3]; exact h)
theorem eq_of_data (ra : ∃ as, Reads s.heap a da as) (rb : ∃ as, Reads s.heap b db as) (hc : cmpOk da db e = true) (hu : A.units + 64 < cLine) (h : Q (.bool e) s) : wpAny (model prog w) A (compareOp .Eq a b) Q E s := by
  obtain ⟨as, ra⟩ := ra
  obtain ⟨bs, rb⟩ := rb
  obtain ⟨c1, c2, c3⟩ := cmpOk_of hc
  exact eq_dataH ra rb c1 c2 hu (by rw [c3]; exact h)
end
/-- the law's loop between two turns -/
def LawInv (w n : Int) (tn : Tok) (cW : Addr) (oW : Obj) (i : Nat) (m : Str → Option Value) (news : List (Addr × Obj)) : Prop :=
  i ≤ lastT n ∧ ∃ aB aO lr rs nr tl aH aT, (m (Str.ofString "here") = some (.ref aH) ∧ m (Str.ofString "there") = some (.ref aT) ∧ m (Str.ofString "row") = some (.ref lr) ∧ m (Str.ofString "most") = some (.int n tn) ∧ m (Str.ofString "bound") = some (.ref aB) ∧ m (Str.ofString "one") = some (.ref aO)) ∧
    (lr, listOf rs.toArray nr) ∈ news ∧ (∀ p ∈ tl, p ∈ news) ∧ (∀ p ∈ tl, p.1 ≠ lr) ∧ (cW, oW) ∈ tl ∧ FracIn tl aH (hF w n i) ∧ FracIn tl aT (tF w n i) ∧ SgIn tl aB (boundS w n) ∧ SgIn tl aO oneS ∧ FracsIn tl rs (fracs w n i)
theorem law_inv0 {w n : Int} {tn : Tok} {aB aO cW lr aH aT z lz lo lb : Addr} {oW : Obj} {m : Str → Option Value} {news : List (Addr × Obj)} {us : List Value} {t : Tok} {k1 k2 k3 k4 k5 k6 k7 k8 k9 : Nat}
    (e1 : m (Str.ofString "here") = some (.ref aH)) (e2 : m (Str.ofString "there") = some (.ref aT)) (e3 : m (Str.ofString "row") = some (.ref lr)) (e4 : m (Str.ofString "most") = some (.int n tn)) (e5 : m (Str.ofString "bound") = some (.ref aB)) (e6 : m (Str.ofString "one") = some (.ref aO))
    (m1 : (lr, listOf #[.ref aH] k1) ∈ news) (m2 : (aH, tupO [.ref z, .ref aO] k2) ∈ news) (m3 : (z, tupO [.bool false, .ref lz] k3) ∈ news) (m4 : (lz, listOf #[] k4) ∈ news) (m7 : (aT, tupO [.ref aO, .ref aB] k7) ∈ news)
    (m5 : (aO, tupO [.bool false, .ref lo] k5) ∈ news) (m6 : (lo, listOf #[.int 1 t] k6) ∈ news) (m8 : (aB, tupO [.bool false, .ref lb] k8) ∈ news) (m9 : (lb, listOf us.toArray k9) ∈ news) (hi : IntsAre us (limbsL w n)) (m10 : (cW, oW) ∈ news)
    (hne : (@Ne Nat aH lr) ∧ (@Ne Nat z lr) ∧ (@Ne Nat lz lr) ∧ (@Ne Nat aT lr) ∧ (@Ne Nat aO lr) ∧ (@Ne Nat lo lr) ∧ (@Ne Nat aB lr) ∧ (@Ne Nat lb lr) ∧ (@Ne Nat cW lr)) : LawInv w n tn cW oW 0 m news := by
  obtain ⟨q1, q2, q3, q4, q5, q6, q7, q8, q9⟩ := hne
  refine ⟨Nat.zero_le _, aB, aO, lr, [.ref aH], k1, [(aH, tupO [.ref z, .ref aO] k2), (z, tupO [.bool false, .ref lz] k3), (lz, listOf #[] k4), (aT, tupO [.ref aO, .ref aB] k7), (aO, tupO [.bool false, .ref lo] k5), (lo, listOf #[.int 1 t] k6), (aB, tupO [.bool false, .ref lb] k8), (lb, listOf us.toArray k9), (cW, oW)], aH, aT, ⟨e1, e2, e3, e4, e5, e6⟩, m1, ?_, ?_, ?_, ?_, ?_, ?_, ?_, ?_⟩
  · intro p hp
    simp only [List.mem_cons, List.not_mem_nil, or_false] at hp
    rcases hp with rfl | rfl | rfl | rfl | rfl | rfl | rfl | rfl | rfl <;> assumption
  · intro p hp
    simp only [List.mem_cons, List.not_mem_nil, or_false] at hp
    rcases hp with rfl | rfl | rfl | rfl | rfl | rfl | rfl | rfl | rfl <;> assumption
  · simp
  all_goals have hO : SgIn [(aH, tupO [.ref z, .ref aO] k2), (z, tupO [.bool false, .ref lz] k3), (lz, listOf #[] k4), (aT, tupO [.ref aO, .ref aB] k7), (aO, tupO [.bool false, .ref lo] k5), (lo, listOf #[.int 1 t] k6), (aB, tupO [.bool false, .ref lb] k8), (lb, listOf us.toArray k9), (cW, oW)] aO oneS := ⟨lo, [.int 1 t], k5, k6, by simp [oneS], by simp, .cons _ _ .nil⟩
  all_goals have hB : SgIn [(aH, tupO [.ref z, .ref aO] k2), (z, tupO [.bool false, .ref lz] k3), (lz, listOf #[] k4), (aT, tupO [.ref aO, .ref aB] k7), (aO, tupO [.bool false, .ref lo] k5), (lo, listOf #[.int 1 t] k6), (aB, tupO [.bool false, .ref lb] k8), (lb, listOf us.toArray k9), (cW, oW)] aB (boundS w n) := ⟨lb, us, k8, k9, by simp [boundS], by simp, hi⟩
  all_goals have hH : FracIn [(aH, tupO [.ref z, .ref aO] k2), (z, tupO [.bool false, .ref lz] k3), (lz, listOf #[] k4), (aT, tupO [.ref aO, .ref aB] k7), (aO, tupO [.bool false, .ref lo] k5), (lo, listOf #[.int 1 t] k6), (aB, tupO [.bool false, .ref lb] k8), (lb, listOf us.toArray k9), (cW, oW)] aH (hF w n 0) := ⟨z, aO, k2, by simp, ⟨lz, [], k3, k4, by simp [hF, stF], by simp, .nil⟩, hO⟩
  · exact hH
  · exact ⟨aO, aB, k7, by simp, hO, hB⟩
  · exact hB
  · exact hO
  · exact ⟨⟨aH, rfl, hH⟩, trivial⟩
/-- a turn opened: all that it reads stands in one ledger -/
theorem news_cons {h₀ h : Heap} {L : Addr} {x : Addr × Obj} {all rest : List (Addr × Obj)} (N : News h₀ L h all) (hx : x ∈ all) (R : News h₀ L h rest) : News h₀ L h (x :: rest) := fun p hp => by
  rcases List.mem_cons.mp hp with rfl | hp
  · exact N _ hx
  · exact R p hp
theorem fracs_len {w n : Int} : ∀ i, (fracs w n i).length ≤ i + 1
  | 0 => Nat.le_refl _
  | i + 1 => by
    have := @fracs_len w n i
    rw [fracs, List.length_append, List.length_singleton]; omega
/-- the facts of one turn, its neighbours taken apart -/
structure TurnF (w n : Int) (i : Nat) (b1 : Bool) (x1 : List Int) (b2 : Bool) (x2 : List Int) (b3 : Bool) (x3 : List Int) (b4 : Bool) (x4 : List Int) : Prop where
  m1 : okMul w x2 x3 = true
  m2 : okMul w x1 x4 = true
  s1 : okSAdd w (sMul w (b2, x2) (b3, x3)) (sNeg (sMul w (b1, x1) (b4, x4))) = true
  m3 : okMul w x2 x4 = true
  r : OkR w ((b3, x3), x4) ((sgB (!b1) x1, x1), x2)
  l1 : x1.length ≤ 8
  l2 : x2.length ≤ 8
  cr : cmpOk (sgD (sSub w (sMul w (b2, x2) (b3, x3)) (sMul w (b1, x1) (b4, x4)))) (sgD (false, [1])) true = true
  ap : cmpOk (ratD (rAdd w ((b3, x3), x4) ((sgB (!b1) x1, x1), x2))) (ratD ((false, [1]), (sMul w (b2, x2) (b4, x4)).2)) true = true
  o1 : okWorth w x2 = true
  o2 : okWorth w x4 = true
  sm : ¬ worthL w x2 + worthL w x4 ≤ n
  br : cmpOk (frD ((b3, x3), (b4, x4))) (frD ((false, [1]), (false, [1]))) (decide (i = lastT n)) = true
  a1 : decide (i = lastT n) = false → okSAdd w (false, limbsL w n) (b2, x2) = true
  f1 : decide (i = lastT n) = false → (sAdd w (false, limbsL w n) (b2, x2)).1 = false
  f2 : decide (i = lastT n) = false → b4 = false
  f3 : decide (i = lastT n) = false → (sAdd w (false, limbsL w n) (b2, x2)).2.length ≤ 8
  d : decide (i = lastT n) = false → okDv w (sAdd w (false, limbsL w n) (b2, x2)).2 x4 = true
  m4 : decide (i = lastT n) = false → okMul w (dvQ w (sAdd w (false, limbsL w n) (b2, x2)).2 x4) x3 = true
  s2 : decide (i = lastT n) = false → okSAdd w (sMul w (sgB false (dvQ w (sAdd w (false, limbsL w n) (b2, x2)).2 x4), dvQ w (sAdd w (false, limbsL w n) (b2, x2)).2 x4) (b3, x3)) (sNeg (b1, x1)) = true
  m5 : decide (i = lastT n) = false → okMul w (dvQ w (sAdd w (false, limbsL w n) (b2, x2)).2 x4) x4 = true
  s3 : decide (i = lastT n) = false → okSAdd w (sMul w (sgB false (dvQ w (sAdd w (false, limbsL w n) (b2, x2)).2 x4), dvQ w (sAdd w (false, limbsL w n) (b2, x2)).2 x4) (b4, x4)) (sNeg (b2, x2)) = true
theorem turn_facts {w n : Int} (w1 : 3 ≤ w) (w2 : w ≤ 8) (n1 : 3 ≤ n) (n2 : n ≤ 7) {i : Nat} (hk : i ≤ lastT n) {b1 b2 b3 b4 : Bool} {x1 x2 x3 x4 : List Int} (hH : hF w n i = ((b1, x1), (b2, x2))) (hT : tF w n i = ((b3, x3), (b4, x4))) :
    TurnF w n i b1 x1 b2 x2 b3 x3 b4 x4 ∧ hF w n (i + 1) = ((b3, x3), (b4, x4)) ∧ tF w n (i + 1) = (sSub w (sMul w (sgB false (dvQ w (sAdd w (false, limbsL w n) (b2, x2)).2 x4), dvQ w (sAdd w (false, limbsL w n) (b2, x2)).2 x4) (b3, x3)) (b1, x1), sSub w (sMul w (sgB false (dvQ w (sAdd w (false, limbsL w n) (b2, x2)).2 x4), dvQ w (sAdd w (false, limbsL w n) (b2, x2)).2 x4) (b4, x4)) (b2, x2)) ∧
    fracs w n (i + 1) = fracs w n i ++ [((b3, x3), (b4, x4))] ∧ i < 24 := by
  obtain ⟨k24, o, oL, oN⟩ := turn_ok w1 w2 n1 n2 hk
  have eh : hF w n (i + 1) = tF w n i := rfl
  have et : tF w n (i + 1) = nextF w n (hF w n i) (tF w n i) := rfl
  have ef : fracs w n (i + 1) = fracs w n i ++ [tF w n i] := rfl
  rw [hT] at eh ef
  rw [hH, hT] at et o oN
  rw [hT] at oL
  refine ⟨?_, eh, et, ef, k24⟩
  have N := fun hd : decide (i = lastT n) = false => (oN (of_decide_eq_false hd)).2
  exact ⟨o.m1, o.m2, o.s1, o.m3, o.r, o.l1, o.l2, o.cross, o.apart, o.w1, o.w2, o.sum, by
    by_cases e : i = lastT n
    · rw [decide_eq_true e]; exact oL e
    · rw [decide_eq_false e]; exact (oN e).1, fun h => (N h).a1, fun h => (N h).f, fun h => (N h).f2, fun h => (N h).l, fun h => (N h).d, fun h => (N h).m4, fun h => (N h).s2, fun h => (N h).m5, fun h => (N h).s3⟩
/-- the law's loop by its invariant -/
theorem law_range {prog : Program} {w : World} {A : Around} {E : Value → Shared → Prop} {s : Shared} {env : Env} {h₀ : Heap} {L : Addr} {x : Str} {px : Pos} {body : List Stmt} {Q : Flow → Shared → Prop}
    {r : Addr} {t₀ u₀ v₀ : Tok} {m₀ : Str → Option Value} {news : List (Addr × Obj)} {wv n : Int} {tn : Tok} {oW : Obj} {h9 : Heap} (_ : News h₀ L h9 [((L + 1 : Nat), oW)]) (hL : env.locals = L)
    (hh : A.handled = none) (hr : IsRange s.heap r 0 24 1 t₀ u₀ v₀) (F : Fr h₀ L s.heap m₀) (N : News h₀ L s.heap news) (k24 : lastT n < 24)
    (hinv : LawInv wv n tn (L + 1 : Nat) oW 0 m₀ news)
    (turn : ∀ (i : Nat) (I : Addr) (o : Obj) m₁ n₁ t h tk, i < 24 → LawInv wv n tn (L + 1 : Nat) oW i m₁ n₁ → (∀ p ∈ n₁, p.1 ≠ I) → Fr h₀ L h m₁ → News h₀ L h ((I, o) :: n₁) →
      wpAny (model prog w) A (assign (.Name x px) env (.int (0 + i) t)) (fun _ s₂ => wpAny (model prog w) A (execs body env) (TurnR h₀ L s I o (LawInv wv n tn (L + 1 : Nat) oW (i + 1)) Q) E s₂) E { s with heap := h, toks := tk }) :
    wpAny (model prog w) A (pyIter (.ref r)) (fun it s₂ => TurnsAt prog w A h₀ env (.Name x px) body Q E it s₂) E s := by
  subst hL
  exact range_inv (n := 24) (fun i m news => LawInv wv n tn (env.locals + 1 : Nat) oW i m news) hh hr rfl rfl F N hinv
    (fun i I o m₁ n₁ t h tk hi hv _ ho F N => turn i I o m₁ n₁ t h tk hi hv ho F N) (fun _ _ _ _ hv _ _ => absurd k24 (Nat.not_lt.mpr hv.1))
end
section
open PyProof.V
/-- the row takes one more fraction -/
theorem append_row {prog : Program} {w : World} {A : Around} {E Q : Value → Shared → Prop} {s : Shared} {h₀ : Heap} {L lr I : Addr} {m : Str → Option Value} {oI : Obj} {rs : List Value} {n : Nat} {x : Value} {rest : List (Addr × Obj)}
    (F : Fr h₀ L s.heap m) (N : News h₀ L s.heap ((I, oI) :: (lr, listOf rs.toArray n) :: rest)) (g : @Ne Nat lr I) (hr : ∀ p ∈ rest, p.1 ≠ lr) (hsz : rs.length ≤ 100)
    (h : ∀ h', Fr h₀ L h' m → News h₀ L h' ((I, oI) :: (lr, listOf (rs ++ [x]).toArray (n + 1)) :: rest) → Q .none { s with heap := h' }) : wpAny (model prog w) A (call (.builtin "list.append") [.ref lr, x]) Q E s :=
  append_K F N (.tail (Ne.symm g) (.head hr)) (fun h' F' N' => h h' F' (by rw [List.push_toArray] at N'; exact N')) (by rw [List.size_toArray, sizeLine_eq]; omega)
/-- what stands at the start of a turn, ahead of the rest -/
abbrev turnL (aH p1 q1 l1 l2 aT p3 q3 l3 l4 aB lb aO lo cW : Addr) (u1 u2 u3 u4 ub uo : List Value) (b1 b2 b3 b4 : Bool) (k1 k2 k3 k4 k5 k6 k7 k8 k9 k10 k11 k12 k13 k14 : Nat) (oW : Obj) (tl : List (Addr × Obj)) : List (Addr × Obj) :=
  (aH, tupO [.ref p1, .ref q1] k1) :: (p1, tupO [.bool b1, .ref l1] k2) :: (l1, listOf u1.toArray k3) :: (q1, tupO [.bool b2, .ref l2] k4) :: (l2, listOf u2.toArray k5) ::
  (aT, tupO [.ref p3, .ref q3] k6) :: (p3, tupO [.bool b3, .ref l3] k7) :: (l3, listOf u3.toArray k8) :: (q3, tupO [.bool b4, .ref l4] k9) :: (l4, listOf u4.toArray k10) ::
  (aB, tupO [.bool false, .ref lb] k11) :: (lb, listOf ub.toArray k12) :: (aO, tupO [.bool false, .ref lo] k13) :: (lo, listOf uo.toArray k14) :: (cW, oW) :: tl
theorem open_turn_k {w n : Int} (w1 : 3 ≤ w) (w2 : w ≤ 8) (n1 : 3 ≤ n) (n2 : n ≤ 7) {tn : Tok} {cW : Addr} {oW : Obj} {i : Nat} {m : Str → Option Value} {news : List (Addr × Obj)} {h₀ h : Heap} {L I : Addr} {oI : Obj} {P : Prop}
    (hv : LawInv w n tn cW oW i m news) (hoff : ∀ p ∈ news, p.1 ≠ I) (N : News h₀ L h ((I, oI) :: news))
    (k : ∀ (aH p1 q1 l1 l2 aT p3 q3 l3 l4 aB lb aO lo lr : Addr) (u1 u2 u3 u4 ub uo rs : List Value) (b1 b2 b3 b4 : Bool) (x1 x2 x3 x4 : List Int) (k1 k2 k3 k4 k5 k6 k7 k8 k9 k10 k11 k12 k13 k14 nr : Nat) (tl : List (Addr × Obj)),
      m (Str.ofString "here") = some (.ref aH) → m (Str.ofString "there") = some (.ref aT) → m (Str.ofString "row") = some (.ref lr) → m (Str.ofString "most") = some (.int n tn) → m (Str.ofString "bound") = some (.ref aB) → m (Str.ofString "one") = some (.ref aO) →
      IntsAre u1 x1 → IntsAre u2 x2 → IntsAre u3 x3 → IntsAre u4 x4 → IntsAre ub (limbsL w n) → IntsAre uo [1] →
      News h₀ L h ((I, oI) :: (lr, listOf rs.toArray nr) :: (aH, tupO [.ref p1, .ref q1] k1) :: (p1, tupO [.bool b1, .ref l1] k2) :: (l1, listOf u1.toArray k3) :: (q1, tupO [.bool b2, .ref l2] k4) :: (l2, listOf u2.toArray k5) :: (aT, tupO [.ref p3, .ref q3] k6) :: (p3, tupO [.bool b3, .ref l3] k7) :: (l3, listOf u3.toArray k8) :: (q3, tupO [.bool b4, .ref l4] k9) :: (l4, listOf u4.toArray k10) :: (aB, tupO [.bool false, .ref lb] k11) :: (lb, listOf ub.toArray k12) :: (aO, tupO [.bool false, .ref lo] k13) :: (lo, listOf uo.toArray k14) :: (cW, oW) :: tl) →
      (∀ p ∈ turnL aH p1 q1 l1 l2 aT p3 q3 l3 l4 aB lb aO lo cW u1 u2 u3 u4 ub uo b1 b2 b3 b4 k1 k2 k3 k4 k5 k6 k7 k8 k9 k10 k11 k12 k13 k14 oW tl, p.1 ≠ lr) →
      (∀ p ∈ turnL aH p1 q1 l1 l2 aT p3 q3 l3 l4 aB lb aO lo cW u1 u2 u3 u4 ub uo b1 b2 b3 b4 k1 k2 k3 k4 k5 k6 k7 k8 k9 k10 k11 k12 k13 k14 oW tl, p.1 ≠ I) →
      (@Ne Nat lr I) → rs.length ≤ 100 →
      (hF w n i = ((b1, x1), (b2, x2)) ∧ tF w n i = ((b3, x3), (b4, x4)) ∧ FracsIn tl rs (fracs w n i) ∧ i ≤ lastT n) →
      (okMul w x2 x3 = true) →
      (okMul w x1 x4 = true) →
      (okSAdd w (sMul w (b2, x2) (b3, x3)) (sNeg (sMul w (b1, x1) (b4, x4))) = true) →
      (okMul w x2 x4 = true) →
      (OkR w ((b3, x3), x4) ((sgB (!b1) x1, x1), x2)) →
      (x1.length ≤ 8) →
      (x2.length ≤ 8) →
      (cmpOk (sgD (sSub w (sMul w (b2, x2) (b3, x3)) (sMul w (b1, x1) (b4, x4)))) (sgD (false, [1])) true = true) →
      (cmpOk (ratD (rAdd w ((b3, x3), x4) ((sgB (!b1) x1, x1), x2))) (ratD ((false, [1]), (sMul w (b2, x2) (b4, x4)).2)) true = true) →
      (okWorth w x2 = true) →
      (okWorth w x4 = true) →
      (¬ worthL w x2 + worthL w x4 ≤ n) →
      (cmpOk (frD ((b3, x3), (b4, x4))) (frD ((false, [1]), (false, [1]))) (decide (i = lastT n)) = true) →
      (decide (i = lastT n) = false → okSAdd w (false, limbsL w n) (b2, x2) = true) →
      (decide (i = lastT n) = false → (sAdd w (false, limbsL w n) (b2, x2)).1 = false) →
      (decide (i = lastT n) = false → b4 = false) →
      (decide (i = lastT n) = false → (sAdd w (false, limbsL w n) (b2, x2)).2.length ≤ 8) →
      (decide (i = lastT n) = false → okDv w (sAdd w (false, limbsL w n) (b2, x2)).2 x4 = true) →
      (decide (i = lastT n) = false → okMul w (dvQ w (sAdd w (false, limbsL w n) (b2, x2)).2 x4) x3 = true) →
      (decide (i = lastT n) = false → okSAdd w (sMul w (sgB false (dvQ w (sAdd w (false, limbsL w n) (b2, x2)).2 x4), dvQ w (sAdd w (false, limbsL w n) (b2, x2)).2 x4) (b3, x3)) (sNeg (b1, x1)) = true) →
      (decide (i = lastT n) = false → okMul w (dvQ w (sAdd w (false, limbsL w n) (b2, x2)).2 x4) x4 = true) →
      (decide (i = lastT n) = false → okSAdd w (sMul w (sgB false (dvQ w (sAdd w (false, limbsL w n) (b2, x2)).2 x4), dvQ w (sAdd w (false, limbsL w n) (b2, x2)).2 x4) (b4, x4)) (sNeg (b2, x2)) = true) →
      P) : P := by
  obtain ⟨hle, aB, aO, lr, rs, nr, tl, aH, aT, e, mR, hsub, hoffR, mW, ⟨p1, q1, k1, r1, ⟨l1, u1, k2, k3, r2, r3, hi1⟩, ⟨l2, u2, k4, k5, r4, r5, hi2⟩⟩, ⟨p3, q3, k6, r6, ⟨l3, u3, k7, k8, r7, r8, hi3⟩, ⟨l4, u4, k9, k10, r9, r10, hi4⟩⟩, ⟨lb, ub, k11, k12, r11, r12, hiB⟩, ⟨lo, uo, k13, k14, r13, r14, hiO⟩, hrow⟩ := hv
  generalize hH : hF w n i = H at *
  generalize hT : tF w n i = T at *
  obtain ⟨⟨b1, x1⟩, ⟨b2, x2⟩⟩ := H
  obtain ⟨⟨b3, x3⟩, ⟨b4, x4⟩⟩ := T
  obtain ⟨tf, eh, et, ef, k24⟩ := turn_facts w1 w2 n1 n2 hle hH hT
  dsimp only [boundS, oneS] at r2 r4 r7 r9 r11 r13 hi1 hi2 hi3 hi4 hiB hiO
  have hs : ∀ p ∈ turnL aH p1 q1 l1 l2 aT p3 q3 l3 l4 aB lb aO lo cW u1 u2 u3 u4 ub uo b1 b2 b3 b4 k1 k2 k3 k4 k5 k6 k7 k8 k9 k10 k11 k12 k13 k14 oW tl, p ∈ tl := by
    simp only [turnL, List.forall_mem_cons]
    exact ⟨r1, r2, r3, r4, r5, r6, r7, r8, r9, r10, r11, r12, r13, r14, mW, fun p hp => hp⟩
  obtain ⟨m1, m2, s1, m3, r, l1', l2', cr, ap, o1, o2, sm, br, a1, f1, f2, f3, d, m4, s2, m5, s3⟩ := tf
  refine k aH p1 q1 l1 l2 aT p3 q3 l3 l4 aB lb aO lo lr u1 u2 u3 u4 ub uo rs b1 b2 b3 b4 x1 x2 x3 x4 k1 k2 k3 k4 k5 k6 k7 k8 k9 k10 k11 k12 k13 k14 nr tl e.1 e.2.1 e.2.2.1 e.2.2.2.1 e.2.2.2.2.1 e.2.2.2.2.2 hi1 hi2 hi3 hi4 hiB hiO (news_cons N (.head _) (news_cons N (.tail _ mR) fun p hp => N p (.tail _ (hsub p (hs p hp))))) (fun p hp => hoffR p (hs p hp)) (fun p hp => hoff p (hsub p (hs p hp))) (hoff _ mR) ?_ ⟨rfl, rfl, hrow, hle⟩ m1 m2 s1 m3 r l1' l2' cr ap o1 o2 sm br a1 f1 f2 f3 d m4 s2 m5 s3
  rw [hrow.length]; exact Nat.le_trans (fracs_len _) (by omega)
theorem close_turn {w n : Int} (w1 : 3 ≤ w) (w2 : w ≤ 8) (n1 : 3 ≤ n) (n2 : n ≤ 7) {tn : Tok} {cW : Addr} {oW : Obj} {i : Nat} {h₀ h : Heap} {L I : Addr} {oI : Obj} {s : Shared} {tk : Nat} {m : Str → Option Value} {news : List (Addr × Obj)}
    {aH p1 q1 l1 l2 aT p3 q3 l3 l4 aB lb aO lo lr : Addr} {u1 u2 u3 u4 ub uo rs : List Value} {b1 b2 b3 b4 : Bool} {x1 x2 x3 x4 : List Int} {k1 k2 k3 k4 k5 k6 k7 k8 k9 k10 k11 k12 k13 k14 nr : Nat} {tl : List (Addr × Obj)}
    (hi3 : IntsAre u3 x3) (hi4 : IntsAre u4 x4) (hiB : IntsAre ub (limbsL w n)) (hiO : IntsAre uo [1])
    (hr : ∀ p ∈ turnL aH p1 q1 l1 l2 aT p3 q3 l3 l4 aB lb aO lo cW u1 u2 u3 u4 ub uo b1 b2 b3 b4 k1 k2 k3 k4 k5 k6 k7 k8 k9 k10 k11 k12 k13 k14 oW tl, p.1 ≠ lr) (hI : ∀ p ∈ turnL aH p1 q1 l1 l2 aT p3 q3 l3 l4 aB lb aO lo cW u1 u2 u3 u4 ub uo b1 b2 b3 b4 k1 k2 k3 k4 k5 k6 k7 k8 k9 k10 k11 k12 k13 k14 oW tl, p.1 ≠ I) (gI : @Ne Nat lr I)
    (hv : hF w n i = ((b1, x1), (b2, x2)) ∧ tF w n i = ((b3, x3), (b4, x4)) ∧ FracsIn tl rs (fracs w n i) ∧ i ≤ lastT n) (hne : ¬ i = lastT n)
    (F : Fr h₀ L h m) (N : News h₀ L h news)
    (e1 : m (Str.ofString "here") = some (.ref aT)) {D : Addr} (e2 : m (Str.ofString "there") = some (.ref D)) (e3 : m (Str.ofString "row") = some (.ref lr)) (e4 : m (Str.ofString "most") = some (.int n tn)) (e5 : m (Str.ofString "bound") = some (.ref aB)) (e6 : m (Str.ofString "one") = some (.ref aO))
    (mI : (I, oI) ∈ news) (mR : (lr, listOf (rs ++ [Value.ref aT]).toArray (nr + 1)) ∈ news) (mT : ∀ p ∈ turnL aH p1 q1 l1 l2 aT p3 q3 l3 l4 aB lb aO lo cW u1 u2 u3 u4 ub uo b1 b2 b3 b4 k1 k2 k3 k4 k5 k6 k7 k8 k9 k10 k11 k12 k13 k14 oW tl, p ∈ news)
    {t5 t6 l5 l6 : Addr} {y5 y6 : Sg} {u5 u6 : List Value} {j1 j2 j3 j4 j5 : Nat}
    (m1 : (D, tupO [.ref t5, .ref t6] j1) ∈ news) (m2 : (t5, tupO [.bool y5.1, .ref l5] j2) ∈ news) (m3 : (l5, listOf u5.toArray j3) ∈ news) (m4 : (t6, tupO [.bool y6.1, .ref l6] j4) ∈ news) (m5 : (l6, listOf u6.toArray j5) ∈ news)
    (i5 : IntsAre u5 y5.2) (i6 : IntsAre u6 y6.2)
    (q5 : y5 = sSub w (sMul w (sgB false (dvQ w (sAdd w (false, limbsL w n) (b2, x2)).2 x4), (dvQ w (sAdd w (false, limbsL w n) (b2, x2)).2 x4)) (b3, x3)) (b1, x1)) (q6 : y6 = sSub w (sMul w (sgB false (dvQ w (sAdd w (false, limbsL w n) (b2, x2)).2 x4), (dvQ w (sAdd w (false, limbsL w n) (b2, x2)).2 x4)) (b4, x4)) (b2, x2))
    (n1' : (@Ne Nat D lr) ∧ (@Ne Nat t5 lr) ∧ (@Ne Nat l5 lr) ∧ (@Ne Nat t6 lr) ∧ (@Ne Nat l6 lr)) (n2' : (@Ne Nat D I) ∧ (@Ne Nat t5 I) ∧ (@Ne Nat l5 I) ∧ (@Ne Nat t6 I) ∧ (@Ne Nat l6 I)) :
    TurnEndR h₀ L s I oI (LawInv w n tn cW oW (i + 1)) { s with heap := h, toks := tk } := by
  obtain ⟨hH, hT, hrow, hle⟩ := hv
  obtain ⟨_, eh, et, ef, _⟩ := turn_facts w1 w2 n1 n2 hle hH hT
  rw [← q5, ← q6] at et
  obtain ⟨a1, a2, a3, a4, a5⟩ := n1'
  obtain ⟨c1, c2, c3, c4, c5⟩ := n2'
  generalize hA : turnL aH p1 q1 l1 l2 aT p3 q3 l3 l4 aB lb aO lo cW u1 u2 u3 u4 ub uo b1 b2 b3 b4 k1 k2 k3 k4 k5 k6 k7 k8 k9 k10 k11 k12 k13 k14 oW tl = A at *
  have inA : ∀ p ∈ A, p ∈ (D, tupO [.ref t5, .ref t6] j1) :: (t5, tupO [.bool y5.1, .ref l5] j2) :: (l5, listOf u5.toArray j3) :: (t6, tupO [.bool y6.1, .ref l6] j4) :: (l6, listOf u6.toArray j5) :: A := fun p hp => .tail _ (.tail _ (.tail _ (.tail _ (.tail _ hp))))
  have hT' : FracIn A aT ((b3, x3), (b4, x4)) := by
    subst hA
    exact ⟨p3, q3, k6, by simp, ⟨l3, u3, k7, k8, by simp, by simp, hi3⟩, ⟨l4, u4, k9, k10, by simp, by simp, hi4⟩⟩
  have hB' : SgIn A aB (boundS w n) := by
    subst hA
    exact ⟨lb, ub, k11, k12, by simp [boundS], by simp, hiB⟩
  have hO' : SgIn A aO oneS := by
    subst hA
    exact ⟨lo, uo, k13, k14, by simp [oneS], by simp, hiO⟩
  have hW' : (cW, oW) ∈ A := by
    subst hA
    simp
  have hS' : ∀ p ∈ tl, p ∈ A := by
    subst hA
    intro p hp
    simp only [turnL, List.mem_cons]
    simp [hp]
  refine ⟨h, tk, m, (lr, listOf (rs ++ [Value.ref aT]).toArray (nr + 1)) :: (D, tupO [.ref t5, .ref t6] j1) :: (t5, tupO [.bool y5.1, .ref l5] j2) :: (l5, listOf u5.toArray j3) :: (t6, tupO [.bool y6.1, .ref l6] j4) :: (l6, listOf u6.toArray j5) :: A, rfl, F, ?_, ?_, by omega, aB, aO, lr, rs ++ [.ref aT], nr + 1, (D, tupO [.ref t5, .ref t6] j1) :: (t5, tupO [.bool y5.1, .ref l5] j2) :: (l5, listOf u5.toArray j3) :: (t6, tupO [.bool y6.1, .ref l6] j4) :: (l6, listOf u6.toArray j5) :: A, aT, D, ⟨e1, e2, e3, e4, e5, e6⟩, .head _, fun p hp => .tail _ hp, ?_, inA _ hW', ?_, ?_, hB'.mono inA, hO'.mono inA, ?_⟩
  · exact news_cons N mI (news_cons N mR (news_cons N m1 (news_cons N m2 (news_cons N m3 (news_cons N m4 (news_cons N m5 fun p hp => N p (mT p hp)))))))
  · simp only [List.forall_mem_cons]
    exact ⟨gI, c1, c2, c3, c4, c5, hI⟩
  · simp only [List.forall_mem_cons]
    exact ⟨a1, a2, a3, a4, a5, hr⟩
  · rw [eh]; exact hT'.mono inA
  · rw [et]
    exact ⟨t5, t6, j1, .head _, ⟨l5, u5, j2, j3, .tail _ (.head _), .tail _ (.tail _ (.head _)), i5⟩, ⟨l6, u6, j4, j5, .tail _ (.tail _ (.tail _ (.head _))), .tail _ (.tail _ (.tail _ (.tail _ (.head _)))), i6⟩⟩
  · rw [ef]
    exact FracsIn.snoc (hT'.mono inA) (hrow.mono fun p hp => inA p (hS' p hp))
theorem ne_at {l : List (Addr × Obj)} {t a : Addr} {o : Obj} (h : ∀ p ∈ l, p.1 ≠ t) (hm : (a, o) ∈ l) : @Ne Nat t a := Ne.symm (h _ hm)
section
variable {w : World} {A A₀ : Around} {base h₀ : Heap} {outer : List Env} {cn : Str} {cs : Scope} {a : Addr} {ccd : Value} {cl : List (Str × Addr)} {L : Addr} {m : Str → Option Value} {s : Shared} {d : Nat} {f : Addr}
    {p : Program} {loose : List Str} {mean : ExcName → Option Value} {mg mb : Str → Option Value} {Q E : Value → Shared → Prop} {vs : List Value} {news : List (Addr × Obj)} {b : Bool} {xs : List Int}
theorem use_sgN (C : Call w d f vs s (PSg s.heap b xs)) (B : Below A₀ base outer h₀) (F : Fr h₀ L s.heap m) (X : (hd.heap_39 w.params).In h₀) (N : News h₀ L s.heap news) (T : Top p loose mean mg mb h₀) (hA : A.frames = some (envX cn cs L a ccd cl :: outer)) (hk : cs.kind = .function) (hn : A.handled = none) (hd : A.depth ≤ d) (hu : A.units ≤ 4 * d)
    (ret : ∀ t k l us n h' tk', Fr h₀ L h' m → News h₀ L h' ((t, tupO [.bool b, .ref l] k) :: (l, listOf us.toArray n) :: news) → IntsAre us xs → (∀ p ∈ news, p.1 ≠ t) → (∀ p ∈ news, p.1 ≠ l) → Q (.ref t) { s with heap := h', toks := tk' }) : wpAny (model PySem.Challenge.rw_xm0408_01.prog w) A (call (.ref f) vs) Q E s := by
  refine C A A₀ base h₀ outer cn cs a ccd cl L m p loose mean mg mb Q E B F X T hA hk hn hd hu ?_
  rintro r h' tk' st ⟨t, k, l, us, n, rfl, h1, h2, h3, h4, h5⟩
  exact ret t k l us n h' tk' (F.kept st) (news_more F (news_more F (N.grown st) h3 h4) h1 h2) h5 (ne_of N h1) (ne_of N h3)
end
end
section
open PyProof.V
/-- the loop is left: the row stands whole -/
theorem open_brk_k {w n : Int} (w1 : 3 ≤ w) (w2 : w ≤ 8) (n1 : 3 ≤ n) (n2 : n ≤ 7) {tn : Tok} {cW : Addr} {oW : Obj} {i : Nat} {h₀ h : Heap} {L : Addr} {m : Str → Option Value} {news : List (Addr × Obj)} {P : Prop}
    {aH p1 q1 l1 l2 aT p3 q3 l3 l4 aB lb aO lo lr : Addr} {u1 u2 u3 u4 ub uo rs : List Value} {b1 b2 b3 b4 : Bool} {x1 x2 x3 x4 : List Int} {k1 k2 k3 k4 k5 k6 k7 k8 k9 k10 k11 k12 k13 k14 nr : Nat} {tl : List (Addr × Obj)}
    (_ : ∀ p ∈ turnL aH p1 q1 l1 l2 aT p3 q3 l3 l4 aB lb aO lo cW u1 u2 u3 u4 ub uo b1 b2 b3 b4 k1 k2 k3 k4 k5 k6 k7 k8 k9 k10 k11 k12 k13 k14 oW tl, p.1 ≠ lr) (hi3 : IntsAre u3 x3) (hi4 : IntsAre u4 x4) (hsz : rs.length ≤ 100)
    (hv : hF w n i = ((b1, x1), (b2, x2)) ∧ tF w n i = ((b3, x3), (b4, x4)) ∧ FracsIn tl rs (fracs w n i) ∧ i ≤ lastT n) (he : i = lastT n)
    (F : Fr h₀ L h m) (N : News h₀ L h news) (e3 : m (Str.ofString "row") = some (.ref lr)) (e4 : m (Str.ofString "most") = some (.int n tn))
    (mR : (lr, listOf (rs ++ [Value.ref aT]).toArray (nr + 1)) ∈ news) (mT : ∀ p ∈ turnL aH p1 q1 l1 l2 aT p3 q3 l3 l4 aB lb aO lo cW u1 u2 u3 u4 ub uo b1 b2 b3 b4 k1 k2 k3 k4 k5 k6 k7 k8 k9 k10 k11 k12 k13 k14 oW tl, p ∈ news)
    (k : ∀ (m' : Str → Option Value) (rs' : List Value) (nr' : Nat) (A : List (Addr × Obj)), m' (Str.ofString "row") = some (.ref lr) → m' (Str.ofString "most") = some (.int n tn) → Fr h₀ L h m' → News h₀ L h ((cW, oW) :: (lr, listOf rs'.toArray nr') :: A) →
      FracsIn A rs' (fracs w n (lastT n + 1)) → rs'.length ≤ 101 → P) : P := by
  obtain ⟨hH, hT, hrow, hle⟩ := hv
  obtain ⟨_, eh, et, ef, _⟩ := turn_facts w1 w2 n1 n2 hle hH hT
  generalize hA : turnL aH p1 q1 l1 l2 aT p3 q3 l3 l4 aB lb aO lo cW u1 u2 u3 u4 ub uo b1 b2 b3 b4 k1 k2 k3 k4 k5 k6 k7 k8 k9 k10 k11 k12 k13 k14 oW tl = A at *
  have hT' : FracIn A aT ((b3, x3), (b4, x4)) := by
    subst hA
    exact ⟨p3, q3, k6, by simp, ⟨l3, u3, k7, k8, by simp, by simp, hi3⟩, ⟨l4, u4, k9, k10, by simp, by simp, hi4⟩⟩
  have hW' : (cW, oW) ∈ A := by
    subst hA
    simp
  have hS' : ∀ p ∈ tl, p ∈ A := by
    subst hA
    intro p hp
    simp only [turnL, List.mem_cons]
    simp [hp]
  refine k m (rs ++ [.ref aT]) (nr + 1) A e3 e4 F (news_cons N (mT _ hW') (news_cons N mR fun p hp => N p (mT p hp))) ?_ ?_
  · rw [← he, ef]
    exact FracsIn.snoc hT' (hrow.mono hS')
  · simp; omega
/-- one fraction of the row -/
theorem told_at {A : List (Addr × Obj)} {rs : List Value} {xs : List Frac} {i : Nat} {v : Value} (h : FracsIn A rs xs) (hv : rs.toArray[i]? = some v) :
    ∃ a x p q k l1 u1 k1 k2 l2 u2 k3 k4, v = .ref a ∧ xs[i]? = some x ∧ (a, tupO [.ref p, .ref q] k) ∈ A ∧ (p, tupO [.bool x.1.1, .ref l1] k1) ∈ A ∧ (l1, listOf u1.toArray k2) ∈ A ∧ IntsAre u1 x.1.2 ∧
      (q, tupO [.bool x.2.1, .ref l2] k3) ∈ A ∧ (l2, listOf u2.toArray k4) ∈ A ∧ IntsAre u2 x.2.2 := by
  rw [List.getElem?_toArray] at hv
  have hi : i < rs.length := by
    rcases Nat.lt_or_ge i rs.length with h | h
    · exact h
    · rw [List.getElem?_eq_none h] at hv; cases hv
  obtain ⟨a, x, e1, e2, p, q, k, r1, ⟨l1, u1, k1, k2, r2, r3, r4⟩, ⟨l2, u2, k3, k4, r5, r6, r7⟩⟩ := h.get hi
  rw [e1] at hv
  exact ⟨a, x, p, q, k, l1, u1, k1, k2, l2, u2, k3, k4, (Option.some.inj hv).symm, e2, r1, r2, r3, r4, r5, r6, r7⟩
def ToldJ (w : Int) (base : List (Addr × Obj)) (xs : List Frac) (i : Nat) (ys : List Value) (nw : List (Addr × Obj)) : Prop :=
  ∃ tn, nw = tn ++ base ∧ DatAll tn ys (((xs.take i).map (toldP w)).map pairD)
theorem told_next {w : Int} {base nw : List (Addr × Obj)} {xs : List Frac} {i : Nat} {ys : List Value} {x : Frac} {D : Addr} {k : Nat} {t1 t2 : Tok} (h : ToldJ w base xs i ys nw) (hx : xs[i]? = some x) :
    ToldJ w base xs (i + 1) (ys ++ [.ref D]) ((D, tupO [.int (worthL w x.1.2) t1, .int (worthL w x.2.2) t2] k) :: nw) := by
  obtain ⟨tn, rfl, hd⟩ := h
  refine ⟨(D, tupO [.int (worthL w x.1.2) t1, .int (worthL w x.2.2) t2] k) :: tn, rfl, ?_⟩
  rw [List.take_add_one, hx]
  show DatAll _ _ (((xs.take i ++ [x]).map (toldP w)).map pairD)
  rw [List.map_append, List.map_append]
  refine DatAll.append (hd.mono fun p hp => .tail _ hp) ?_
  exact DatAll.one (.tuple (List.Mem.head _) (.cons (.int _ _) (.cons (.int _ _) .nil)))
theorem told_done {w n : Int} (w1 : 3 ≤ w) (w2 : w ≤ 8) (n1 : 3 ≤ n) (n2 : n ≤ 7) {base nw : List (Addr × Obj)} {rs ys : List Value} {A : List (Addr × Obj)} (hF : FracsIn A rs (fracs w n (lastT n + 1))) (h : ToldJ w base (fracs w n (lastT n + 1)) rs.toArray.size ys nw) :
    ∃ tn, nw = tn ++ base ∧ DatAll tn ys ((rowL n.toNat).map pairD) := by
  obtain ⟨tn, e, hd⟩ := h
  refine ⟨tn, e, ?_⟩
  rw [← (told_ok w1 w2 n1 n2).2]
  rwa [List.size_toArray, hF.length, List.take_length] at hd
end
section
open PyProof.V
theorem told_end {w : Int} {base nw : List (Addr × Obj)} {xs : List Frac} {i : Nat} {ys : List Value} {x : Frac} {D3 I C D lr : Addr} {k : Nat} {t1 t2 : Tok} {h₀ h' : Heap} {L : Addr} {m : Str → Option Value} {s₁ : Shared} {tk : Nat} {oI oC oD : Obj} {P1 P2 P3 P4 P5 : Addr × Obj} {its : Array Value}
    (F : Fr h₀ L h' m) (N : News h₀ L h' ((D3, tupO [.int (worthL w x.1.2) t1, .int (worthL w x.2.2) t2] k) :: P1 :: P2 :: P3 :: P4 :: P5 :: (I, oI) :: (C, oC) :: (D, oD) :: nw))
    (y1 : @LT.lt Nat _ I D3) (y2 : @LT.lt Nat _ C D3) (y3 : @LT.lt Nat _ D D3) (off : LCg.Off3 I C D nw) (hS : LCg.SrcAt h₀ lr its nw) (hJ : ToldJ w base xs i ys nw) (ex : xs[i]? = some x) :
    LCg.CompEnd h₀ L m s₁ I oI C oC D oD (LCg.SrcAt h₀ lr its) (fun y n' => ToldJ w base xs (i + 1) (ys ++ [y]) n') (.ref D3) { s₁ with heap := h', toks := tk } := by
  refine LCg.CompEnd.intro F N ((D3, tupO [.int (worthL w x.1.2) t1, .int (worthL w x.2.2) t2] k) :: nw) ?_ ⟨⟨Nat.ne_of_gt y1, Nat.ne_of_gt y2, Nat.ne_of_gt y3⟩, off⟩ ?_ (told_next hJ ex)
  · intro p hp
    simp only [List.mem_cons] at hp
    rcases hp with rfl | rfl | rfl | rfl | hp
    · k_mem
    · k_mem
    · k_mem
    · k_mem
    · exact .tail _ (.tail _ (.tail _ (.tail _ (.tail _ (.tail _ (.tail _ (.tail _ (.tail _ hp))))))))
  · rcases hS with h | ⟨o, hm, r⟩
    · exact .inl h
    · exact .inr ⟨o, .tail _ hm, r⟩
section
variable {w : World} {A A₀ : Around} {base h₀ : Heap} {outer : List Env} {cn : Str} {cs : Scope} {a : Addr} {ccd : Value} {cl : List (Str × Addr)} {L : Addr} {m : Str → Option Value} {s : Shared} {d : Nat} {f : Addr}
    {p : Program} {loose : List Str} {mean : ExcName → Option Value} {mg mb : Str → Option Value} {Q E : Value → Shared → Prop} {vs : List Value} {news : List (Addr × Obj)} {xs : List (Int × Int)}
theorem use_row3 (C : Call w d f vs s (PRow s.heap xs)) (B : Below A₀ base outer h₀) (F : Fr h₀ L s.heap m) (X : (hd.heap_39 w.params).In h₀) (N : News h₀ L s.heap news) (T : Top p loose mean mg mb h₀) (hA : A.frames = some (envX cn cs L a ccd cl :: outer)) (hk : cs.kind = .function) (hn : A.handled = none) (hd : A.depth ≤ d) (hu : A.units ≤ 4 * d)
    (ret : ∀ l us n tl h' tk', Fr h₀ L h' m → News h₀ L h' ((l, listOf us.toArray n) :: (news ++ tl)) → DatAll tl us (xs.map pairD) → Q (.ref l) { s with heap := h', toks := tk' }) : wpAny (model PySem.Challenge.rw_xm0408_01.prog w) A (call (.ref f) vs) Q E s := by
  refine use_row C B F X N T hA hk hn hd hu fun l us n tl h' tk' F' N' dd => ret l us n tl h' tk' F' (fun p hp => N' p ?_) dd
  rcases List.mem_cons.mp hp with rfl | hp
  · exact .head _
  · rcases List.mem_append.mp hp with hp | hp
    · exact .tail _ (List.mem_append_right _ hp)
    · exact .tail _ (List.mem_append_left _ hp)
end
theorem off1_ne {D : Addr} {l : List (Addr × Obj)} (h : LCg.Off1 D l) : ∀ p ∈ l, p.1 ≠ D := by
  induction l with
  | nil => exact fun p hp => nomatch hp
  | cons q l ih =>
    intro p hp
    rcases List.mem_cons.mp hp with rfl | hp
    · exact h.1
    · exact ih h.2 p hp
theorem pairs_ok {xs : List (Int × Int)} : ∀ d ∈ xs.map pairD, kqdOk 8 d = true := by
  intro d hd
  obtain ⟨x, _, rfl⟩ := List.mem_map.mp hd
  rfl
section
variable {prog : Program} {w : World} {A : Around} {E Q : Value → Shared → Prop} {s : Shared} {h₀ : Heap} {L : Addr}
theorem told_ne {D l : Addr} {ys us : List Value} {tn tl : List (Addr × Obj)} {n : Nat} {xs : List (Int × Int)} (N : News h₀ L s.heap ((l, listOf us.toArray n) :: (D, LCg.lst ys) :: (tn ++ tl)))
    (da : DatAll tn ys (xs.map pairD)) (db : DatAll tl us (xs.map pairD)) (hu : A.units + 64 < cLine) (h : Q (.bool false) s) : wpAny (model prog w) A (compareOp .NotEq (.ref D) (.ref l)) Q E s :=
  kqd_ne N (.tail _ (.head _)) rfl rfl da (fun p hp => .tail _ (.tail _ (List.mem_append_left _ hp))) (.head _) rfl rfl db (fun p hp => .tail _ (.tail _ (List.mem_append_right _ hp))) pairs_ok pairs_ok hu (by simpa using h)
theorem told_eq {D l : Addr} {zs us : List Value} {tz tl : List (Addr × Obj)} {n nz : Nat} {xs xs' : List (Int × Int)} (N : News h₀ L s.heap ((l, listOf us.toArray n) :: (D, listOf zs.toArray nz) :: (tz ++ tl)))
    (da : DatAll tz zs (xs.map pairD)) (db : DatAll tl us (xs'.map pairD)) (e : xs = xs') (hu : A.units + 64 < cLine) (h : Q (.bool true) s) : wpAny (model prog w) A (compareOp .Eq (.ref D) (.ref l)) Q E s := by
  subst e
  exact kqd_eq N (.tail _ (.head _)) rfl rfl da (fun p hp => .tail _ (.tail _ (List.mem_append_left _ hp))) (.head _) rfl rfl db (fun p hp => .tail _ (.tail _ (List.mem_append_right _ hp))) pairs_ok pairs_ok hu (by simpa using h)
/-- the value that stands at this index -/
def At (ys : List Value) (z : Int) (v : Value) : Prop := 0 ≤ z ∧ z < 2 ^ 63 ∧ ys[z.toNat]? = some v
theorem item_at {value slice : Expr} {l : Addr} {ys : List Value} {z : Int} {u : Tok} {x : Value} (hl : s.heap.IsList l ys.toArray) (ha : At ys z x) (h : Q x s)
    (hs : subscripted slice false (.ref l) (.int z u) = operate [.ref l, .int z u] (getItem (.ref l) (.int z u)) := by with_unfolding_all rfl) (hg : ∀ r, letTemporaryGo value (.ref l) r = pure () := by intro _; with_unfolding_all rfl) :
    wpAny (model prog w) A (subscriptTail value slice (.ref l) (.int z u)) Q E s :=
  item_listL hl ha.1 ha.2.1 ha.2.2 h hs hg
/-- the later row takes one more -/
theorem append_later1 {m : Str → Option Value} {lr I : Addr} {oI : Obj} {rs : List Value} {n : Nat} {x : Value} {rest : List (Addr × Obj)}
    (F : Fr h₀ L s.heap m) (N : News h₀ L s.heap ((I, oI) :: (lr, listOf rs.toArray n) :: rest)) (g : @Ne Nat lr I) (hr : ∀ p ∈ rest, p.1 ≠ lr) (hsz : rs.length ≤ 1000)
    (h : ∀ h', Fr h₀ L h' m → News h₀ L h' ((I, oI) :: (lr, listOf (rs ++ [x]).toArray (n + 1)) :: rest) → Q .none { s with heap := h' }) : wpAny (model prog w) A (call (.builtin "list.append") [.ref lr, x]) Q E s :=
  append_K F N (.tail (Ne.symm g) (.head hr)) (fun h' F' N' => h h' F' (by rw [List.push_toArray] at N'; exact N')) (by rw [List.size_toArray, sizeLine_eq]; omega)
theorem append_later2 {m : Str → Option Value} {lr I T : Addr} {oI oT : Obj} {rs : List Value} {n : Nat} {x : Value} {rest : List (Addr × Obj)}
    (F : Fr h₀ L s.heap m) (N : News h₀ L s.heap ((T, oT) :: (I, oI) :: (lr, listOf rs.toArray n) :: rest)) (g : @Ne Nat lr I) (g2 : @LT.lt Nat _ lr T) (hr : ∀ p ∈ rest, p.1 ≠ lr) (hsz : rs.length ≤ 1000)
    (h : ∀ h', Fr h₀ L h' m → News h₀ L h' ((T, oT) :: (I, oI) :: (lr, listOf (rs ++ [x]).toArray (n + 1)) :: rest) → Q .none { s with heap := h' }) : wpAny (model prog w) A (call (.builtin "list.append") [.ref lr, x]) Q E s :=
  append_K F N (.tail (Nat.ne_of_gt g2) (.tail (Ne.symm g) (.head hr))) (fun h' F' N' => h h' F' (by rw [List.push_toArray] at N'; exact N')) (by rw [List.size_toArray, sizeLine_eq]; omega)
end
theorem pair_inv {tl : List (Addr × Obj)} {v : Value} {x : Int × Int} (h : DatIn tl v (pairD x)) : ∃ a n t1 t2, v = .ref a ∧ (a, tupO [.int x.1 t1, .int x.2 t2] n) ∈ tl := by
  cases h with
  | tuple hm r =>
    cases r with
    | cons h1 r =>
      cases r with
      | cons h2 r =>
        cases r
        cases h1; cases h2
        exact ⟨_, _, _, _, rfl, hm⟩
theorem pairs_get {tl : List (Addr × Obj)} {us : List Value} {xs : List (Int × Int)} (h : DatAll tl us (xs.map pairD)) {i : Nat} {x : Int × Int} (hx : xs[i]? = some x) :
    ∃ a n t1 t2, us[i]? = some (.ref a) ∧ (a, tupO [.int x.1 t1, .int x.2 t2] n) ∈ tl := by
  obtain ⟨hi, he⟩ := List.getElem?_eq_some_iff.mp hx
  obtain ⟨v, hv, hd⟩ := h.get (k := i) (by rw [List.length_map]; exact hi)
  rw [List.getElem_map, he] at hd
  obtain ⟨a, n, t1, t2, rfl, hm⟩ := pair_inv hd
  exact ⟨a, n, t1, t2, hv, hm⟩
/-- the next row, of this one: a mediant between two whose bottoms together are one more than the bound -/
def laterP (n : Int) (xs : List (Int × Int)) : Nat → List (Int × Int)
  | 0 => [xs.getD 0 (0, 0)]
  | j + 1 => (laterP n xs j ++ (if (xs.getD j (0, 0)).2 + (xs.getD (j + 1) (0, 0)).2 = n + 1 then [((xs.getD j (0, 0)).1 + (xs.getD (j + 1) (0, 0)).1, n + 1)] else [])) ++ [xs.getD (j + 1) (0, 0)]
theorem laterP_len (n : Int) (xs : List (Int × Int)) : ∀ j, (laterP n xs j).length ≤ 2 * j + 1
  | 0 => Nat.le_refl _
  | j + 1 => by
    have := laterP_len n xs j
    rw [laterP, List.length_append, List.length_append, List.length_singleton]
    split <;> simp <;> omega
theorem later_ok {n : Int} (n1 : 3 ≤ n) (n2 : n ≤ 7) : laterP n (rowL n.toNat) ((rowL n.toNat).length - 1) = rowL (n + 1).toNat ∧ 2 ≤ (rowL n.toNat).length ∧ (rowL n.toNat).length ≤ 64 := by
  have e : n = 3 ∨ n = 4 ∨ n = 5 ∨ n = 6 ∨ n = 7 := by omega
  rcases e with rfl | rfl | rfl | rfl | rfl <;> decide +kernel
theorem at_zero {n : Int} (n1 : 3 ≤ n) (n2 : n ≤ 7) {B : List (Addr × Obj)} {ys : List Value} (hd : DatAll B ys ((rowL n.toNat).map pairD)) : ∃ a, At ys 0 (.ref a) ∧ ys.length ≤ 64 := by
  obtain ⟨a, k, t1, t2, v1, _⟩ := pairs_get hd (List.getElem?_eq_getElem (show 0 < (rowL n.toNat).length by have := (later_ok n1 n2).2.1; omega))
  refine ⟨a, ⟨by omega, by omega, v1⟩, ?_⟩
  rw [hd.length, List.length_map]; exact (later_ok n1 n2).2.2
theorem later_ne {D E : Addr} {o : Obj} {tn tl : List (Addr × Obj)} (y : @LT.lt Nat _ D E) (z : AllLt E (tn ++ tl)) : ∀ p ∈ (D, o) :: tn, p.1 ≠ E := by
  have all : ∀ l : List (Addr × Obj), AllLt E l → ∀ p ∈ l, p.1 ≠ E := by
    intro l
    induction l with
    | nil => exact fun _ p hp => nomatch hp
    | cons q l ih =>
      intro h p hp
      rcases List.mem_cons.mp hp with rfl | hp
      · exact Nat.ne_of_lt h.1
      · exact ih h.2 p hp
  intro p hp
  rcases List.mem_cons.mp hp with rfl | hp
  · exact Nat.ne_of_lt y
  · exact all _ z p (List.mem_append_left _ hp)
theorem len_told {prog : Program} {w : World} {A : Around} {E : Value → Shared → Prop} {s : Shared} {l : Addr} {ys : List Value} {Q : Value → Shared → Prop}
    (hl : s.heap.IsList l ys.toArray) (h8 : ys.length ≤ 64) (h : Q (.int (ys.length : Int) (s.toks + 1)) { s with toks := s.toks + 1 + 1 }) :
    wpAny (model prog w) A (call (.builtin "len") [.ref l]) Q E s :=
  len_list hl (by rw [List.size_toArray]; omega) (by rw [List.size_toArray]; exact h)
def LaterInv (n : Int) (tn : Tok) (D : Addr) (ys : List Value) (B : List (Addr × Obj)) (E : Addr) (j : Nat) (m : Str → Option Value) (news : List (Addr × Obj)) : Prop :=
  ∃ zs nz tz, (m (Str.ofString "told") = some (.ref D) ∧ m (Str.ofString "later") = some (.ref E) ∧ m (Str.ofString "most") = some (.int n tn)) ∧ news = (E, listOf zs.toArray nz) :: tz ∧ (D, LCg.lst ys) ∈ tz ∧ (∀ p ∈ B, p ∈ tz) ∧ (∀ p ∈ tz, p.1 ≠ E) ∧ DatAll tz zs ((laterP n (rowL n.toNat) j).map pairD)
/-- what a turn keeps for its end -/
def LaterF (n : Int) (B tz : List (Addr × Obj)) (ys zs : List Value) (D : Addr) (j : Nat) (x y : Int × Int) : Prop :=
  (rowL n.toNat).getD j (0, 0) = x ∧ (rowL n.toNat).getD (j + 1) (0, 0) = y ∧ (∀ p ∈ B, p ∈ tz) ∧ (D, LCg.lst ys) ∈ tz ∧ DatAll tz zs ((laterP n (rowL n.toNat) j).map pairD)
theorem open_later_k {n : Int} {tn : Tok} {D E I : Addr} {oI : Obj} {ys : List Value} {B news : List (Addr × Obj)} {j : Nat} {m : Str → Option Value} {h₀ h : Heap} {L : Addr} {P : Prop}
    (hd : DatAll B ys ((rowL n.toNat).map pairD)) (hj : j < (rowL n.toNat).length - 1) (hl : (rowL n.toNat).length ≤ 64) (hv : LaterInv n tn D ys B E j m news) (hoff : ∀ p ∈ news, p.1 ≠ I) (N : News h₀ L h ((I, oI) :: news))
    (k : ∀ (zs : List Value) (nz : Nat) (tz : List (Addr × Obj)) (a b : Addr) (ka kb : Nat) (ta1 ta2 tb1 tb2 : Tok) (x y : Int × Int), m (Str.ofString "told") = some (.ref D) → m (Str.ofString "later") = some (.ref E) → m (Str.ofString "most") = some (.int n tn) →
      At ys (1 + (j : Int) - 1) (.ref a) → At ys (1 + (j : Int)) (.ref b) →
      News h₀ L h ((I, oI) :: (E, listOf zs.toArray nz) :: (D, LCg.lst ys) :: (a, tupO [.int x.1 ta1, .int x.2 ta2] ka) :: (b, tupO [.int y.1 tb1, .int y.2 tb2] kb) :: tz) →
      (∀ p ∈ (D, LCg.lst ys) :: (a, tupO [.int x.1 ta1, .int x.2 ta2] ka) :: (b, tupO [.int y.1 tb1, .int y.2 tb2] kb) :: tz, p.1 ≠ E) → (∀ p ∈ tz, p.1 ≠ I) → (@Ne Nat E I) → zs.length ≤ 900 → (b, tupO [.int y.1 tb1, .int y.2 tb2] kb) ∈ tz → LaterF n B tz ys zs D j x y → P) : P := by
  obtain ⟨zs, nz, tz, ⟨e1, e2, e3⟩, rfl, hD, hB, hE, hz⟩ := hv
  have g1 : j < (rowL n.toNat).length := by omega
  have g2 : j + 1 < (rowL n.toNat).length := by omega
  obtain ⟨a, ka, ta1, ta2, v1, m1⟩ := pairs_get hd (List.getElem?_eq_getElem g1)
  obtain ⟨b, kb, tb1, tb2, v2, m2⟩ := pairs_get hd (List.getElem?_eq_getElem g2)
  have c1 : (1 + (j : Int) - 1).toNat = j := by omega
  have c2 : (1 + (j : Int)).toNat = j + 1 := by omega
  refine k zs nz tz a b ka kb ta1 ta2 tb1 tb2 ((rowL n.toNat)[j]'g1) ((rowL n.toNat)[j + 1]'g2) e1 e2 e3 ⟨by omega, by omega, by rw [c1]; exact v1⟩ ⟨by omega, by omega, by rw [c2]; exact v2⟩ ?_ ?_ (fun p hp => hoff p (.tail _ hp)) (hoff _ (.head _)) ?_ (hB _ m2) ⟨?_, ?_, hB, hD, hz⟩
  · exact news_cons N (.head _) (news_cons N (.tail _ (.head _)) (news_cons N (.tail _ (.tail _ hD)) (news_cons N (.tail _ (.tail _ (hB _ m1))) (news_cons N (.tail _ (.tail _ (hB _ m2))) fun p hp => N p (.tail _ (.tail _ hp))))))
  · simp only [List.forall_mem_cons]
    exact ⟨hE _ hD, hE _ (hB _ m1), hE _ (hB _ m2), hE⟩
  · have := hz.length
    have := laterP_len n (rowL n.toNat) j
    rw [List.length_map] at *
    omega
  · rw [List.getD_eq_getElem?_getD, List.getElem?_eq_getElem g1]; rfl
  · rw [List.getD_eq_getElem?_getD, List.getElem?_eq_getElem g2]; rfl
theorem later_f {n : Int} {tn : Tok} {D E I a b : Addr} {oI : Obj} {ys zs : List Value} {B tz : List (Addr × Obj)} {j nz ka kb : Nat} {m : Str → Option Value} {h₀ h : Heap} {L : Addr} {s : Shared} {tk : Nat} {x y : Int × Int} {ta1 ta2 tb1 tb2 : Tok}
    (hf : LaterF n B tz ys zs D j x y) (hI : ∀ p ∈ tz, p.1 ≠ I) (gE : @Ne Nat E I) (mb : (b, tupO [.int y.1 tb1, .int y.2 tb2] kb) ∈ tz) (hE : ∀ p ∈ (D, LCg.lst ys) :: (a, tupO [.int x.1 ta1, .int x.2 ta2] ka) :: (b, tupO [.int y.1 tb1, .int y.2 tb2] kb) :: tz, p.1 ≠ E)
    (hs : ¬ x.2 + y.2 = n + 1) (F : Fr h₀ L h m) (N : News h₀ L h ((I, oI) :: (E, listOf (zs ++ [Value.ref b]).toArray nz) :: (D, LCg.lst ys) :: (a, tupO [.int x.1 ta1, .int x.2 ta2] ka) :: (b, tupO [.int y.1 tb1, .int y.2 tb2] kb) :: tz))
    (e1 : m (Str.ofString "told") = some (.ref D)) (e2 : m (Str.ofString "later") = some (.ref E)) (e3 : m (Str.ofString "most") = some (.int n tn)) :
    TurnEndR h₀ L s I oI (LaterInv n tn D ys B E (j + 1)) { s with heap := h, toks := tk } := by
  obtain ⟨rfl, rfl, hB, hD, hz⟩ := hf
  refine ⟨h, tk, m, (E, listOf (zs ++ [Value.ref b]).toArray nz) :: tz, rfl, F, ?_, ?_, zs ++ [.ref b], nz, tz, ⟨e1, e2, e3⟩, rfl, hD, hB, fun p hp => hE p (.tail _ (.tail _ (.tail _ hp))), ?_⟩
  · exact news_cons N (.head _) (news_cons N (.tail _ (.head _)) fun p hp => N p (.tail _ (.tail _ (.tail _ (.tail _ (.tail _ hp))))))
  · simp only [List.forall_mem_cons]
    exact ⟨gE, hI⟩
  · rw [laterP, if_neg hs, List.append_nil, List.map_append]
    exact DatAll.append hz (DatAll.one (.tuple mb (.cons (.int _ _) (.cons (.int _ _) .nil))))
theorem later_t {n : Int} {tn : Tok} {D E I a b T : Addr} {oI : Obj} {ys zs : List Value} {B tz : List (Addr × Obj)} {j nz ka kb kt : Nat} {m : Str → Option Value} {h₀ h : Heap} {L : Addr} {s : Shared} {tk : Nat} {x y : Int × Int} {ta1 ta2 tb1 tb2 tt1 tt2 : Tok}
    (hf : LaterF n B tz ys zs D j x y) (hI : ∀ p ∈ tz, p.1 ≠ I) (gE : @Ne Nat E I) (mb : (b, tupO [.int y.1 tb1, .int y.2 tb2] kb) ∈ tz) (hE : ∀ p ∈ (D, LCg.lst ys) :: (a, tupO [.int x.1 ta1, .int x.2 ta2] ka) :: (b, tupO [.int y.1 tb1, .int y.2 tb2] kb) :: tz, p.1 ≠ E)
    (hs : x.2 + y.2 = n + 1) (F : Fr h₀ L h m) (N : News h₀ L h ((T, tupO [.int (x.1 + y.1) tt1, .int (n + 1) tt2] kt) :: (I, oI) :: (E, listOf ((zs ++ [Value.ref T]) ++ [Value.ref b]).toArray nz) :: (D, LCg.lst ys) :: (a, tupO [.int x.1 ta1, .int x.2 ta2] ka) :: (b, tupO [.int y.1 tb1, .int y.2 tb2] kb) :: tz))
    (gT : @LT.lt Nat _ E T) (gT2 : @LT.lt Nat _ I T)
    (e1 : m (Str.ofString "told") = some (.ref D)) (e2 : m (Str.ofString "later") = some (.ref E)) (e3 : m (Str.ofString "most") = some (.int n tn)) :
    TurnEndR h₀ L s I oI (LaterInv n tn D ys B E (j + 1)) { s with heap := h, toks := tk } := by
  obtain ⟨rfl, rfl, hB, hD, hz⟩ := hf
  refine ⟨h, tk, m, (E, listOf ((zs ++ [Value.ref T]) ++ [Value.ref b]).toArray nz) :: (T, tupO [.int (((rowL n.toNat).getD j (0, 0)).1 + ((rowL n.toNat).getD (j + 1) (0, 0)).1) tt1, .int (n + 1) tt2] kt) :: tz, rfl, F, ?_, ?_, (zs ++ [.ref T]) ++ [.ref b], nz, _, ⟨e1, e2, e3⟩, rfl, .tail _ hD, fun p hp => .tail _ (hB p hp), ?_, ?_⟩
  · exact news_cons N (.tail _ (.head _)) (news_cons N (.tail _ (.tail _ (.head _))) (news_cons N (.head _) fun p hp => N p (.tail _ (.tail _ (.tail _ (.tail _ (.tail _ (.tail _ hp))))))))
  · simp only [List.forall_mem_cons]
    exact ⟨gE, Nat.ne_of_gt gT2, hI⟩
  · simp only [List.forall_mem_cons]
    exact ⟨Nat.ne_of_gt gT, fun p hp => hE p (.tail _ (.tail _ (.tail _ hp)))⟩
  · rw [laterP, if_pos hs, List.map_append, List.map_append]
    exact DatAll.append (DatAll.append (hz.mono fun p hp => .tail _ hp) (DatAll.one (.tuple (.head _) (.cons (.int _ _) (.cons (.int _ _) .nil))))) (DatAll.one (.tuple (.tail _ mb) (.cons (.int _ _) (.cons (.int _ _) .nil))))
/-- the last loop by its invariant -/
theorem later_range {prog : Program} {w : World} {A : Around} {E : Value → Shared → Prop} {s : Shared} {env : Env} {h₀ : Heap} {L : Addr} {x : Str} {px : Pos} {body : List Stmt} {Q : Flow → Shared → Prop}
    {r : Addr} {t₀ u₀ v₀ : Tok} {m₀ : Str → Option Value} {n : Int} {tn : Tok} {D EA a0 : Addr} {ys : List Value} {B news : List (Addr × Obj)} {nz : Nat} {z : Int} (n1 : 3 ≤ n) (n2 : n ≤ 7) (hL : env.locals = L)
    (hh : A.handled = none) (hr : IsRange s.heap r 1 z 1 t₀ u₀ v₀) (hz : z = ys.length) (F : Fr h₀ L s.heap m₀) (N : News h₀ L s.heap news) (hd : DatAll B ys ((rowL n.toNat).map pairD)) (ha : At ys 0 (.ref a0))
    (e1 : m₀ (Str.ofString "told") = some (.ref D)) (e2 : m₀ (Str.ofString "later") = some (.ref EA)) (e3 : m₀ (Str.ofString "most") = some (.int n tn))
    (mE : (EA, listOf [Value.ref a0].toArray nz) ∈ news) (mD : (D, LCg.lst ys) ∈ news) (mB : ∀ p ∈ B, p ∈ news) (nE : ∀ p ∈ (D, LCg.lst ys) :: B, p.1 ≠ EA)
    (turn : ∀ (i : Nat) (I : Addr) (o : Obj) m₁ n₁ t h tk, i < (rowL n.toNat).length - 1 → LaterInv n tn D ys B EA i m₁ n₁ → (∀ p ∈ n₁, p.1 ≠ I) → Fr h₀ L h m₁ → News h₀ L h ((I, o) :: n₁) →
      wpAny (model prog w) A (assign (.Name x px) env (.int (1 + i) t)) (fun _ s₂ => wpAny (model prog w) A (execs body env) (TurnR h₀ L s I o (LaterInv n tn D ys B EA (i + 1)) Q) E s₂) E { s with heap := h, toks := tk })
    (done : ∀ m₁ zs nz tz h tk, m₁ (Str.ofString "later") = some (.ref EA) → m₁ (Str.ofString "most") = some (.int n tn) → Fr h₀ L h m₁ → News h₀ L h ((EA, listOf zs.toArray nz) :: tz) → DatAll tz zs ((rowL (n + 1).toNat).map pairD) → Q .next { s with heap := h, toks := tk }) :
    wpAny (model prog w) A (pyIter (.ref r)) (fun it s₂ => TurnsAt prog w A h₀ env (.Name x px) body Q E it s₂) E s := by
  subst hL hz
  obtain ⟨o1, o2, o3⟩ := later_ok n1 n2
  have hl := hd.length
  rw [List.length_map] at hl
  obtain ⟨a, k, t1, t2, v1, m1⟩ := pairs_get hd (List.getElem?_eq_getElem (show 0 < (rowL n.toNat).length by omega))
  have ea : a = a0 := by
    have := ha.2.2
    rw [show (0 : Int).toNat = 0 from rfl, v1] at this
    cases this; rfl
  subst ea
  have N' : News h₀ env.locals s.heap ((EA, listOf [Value.ref a].toArray nz) :: (D, LCg.lst ys) :: B) := news_cons N mE (news_cons N mD fun p hp => N p (mB p hp))
  refine range_inv (n := (rowL n.toNat).length - 1) (fun i m news => LaterInv n tn D ys B EA i m news) hh hr (small_one (by omega) (by omega) (by omega) (by omega)) (by rw [rangeSize_nat]; omega) F N'
    ⟨[.ref a], nz, _, ⟨e1, e2, e3⟩, rfl, .head _, fun p hp => .tail _ hp, nE, ?_⟩ (fun i I o m₁ n₁ t h tk hi hv _ ho F N => turn i I o m₁ n₁ t h tk hi hv ho F N) ?_
  · have m1' : (a, tupO [.int ((rowL n.toNat).getD 0 (0, 0)).1 t1, .int ((rowL n.toNat).getD 0 (0, 0)).2 t2] k) ∈ (D, LCg.lst ys) :: B := by
      rw [List.getD_eq_getElem?_getD, List.getElem?_eq_getElem (show 0 < (rowL n.toNat).length by omega)]
      exact .tail _ m1
    exact DatAll.one (.tuple m1' (.cons (.int _ _) (.cons (.int _ _) .nil)))
  · rintro m₁ _ h tk ⟨zs, nz', tz, ⟨_, c2, c3⟩, rfl, _, _, _, dz⟩ F₁ N₁
    rw [o1] at dz
    exact done m₁ zs nz' tz h tk c2 c3 F₁ N₁ dz
end
section
local macro_rules | `(tactic| walk_at "call ref") => `(tactic| (k_here; (with_reducible show wpAny _ _ (call (Value.ref 268) _) _ _ _); k_dflt (refine' use_list (limbs_spec ?a0 ?a1 ?a2 ?a3 ?a4) ?B ?F ?X ?N ?T ?fr ?k ?hn ?d ?u ?_; (case B => k_asm); (case F => k_asm); (case X => k_asm); (case N => k_asm); (case T => k_asm); (case fr => exact rfl); (case k => exact rfl); (case hn => exact rfl); (case d => exact Nat.le_of_ble_eq_true rfl); (case u => exact Nat.le_of_ble_eq_true rfl); (case a0 => assumption); (case a1 => assumption); (case a2 => assumption); (case a3 => assumption); (case a4 => exact limHi_of (by assumption) (by assumption) (by assumption)); k_whole); intro l' us' n' h' tk' F' N' i' ne'; (try k_sweep); (try dsimp only); (try k_fold)))
local macro_rules | `(tactic| walk_at "call ref") => `(tactic| (k_here; (with_reducible show wpAny _ _ (call (Value.ref 149) _) _ _ _); k_dflt (refine' use_sg (s_mul_spec ?a0 ?a1 ?a2 ?a3 ?a4 ?a5 ?a6) ?B ?F ?X ?N ?T ?fr ?k ?hn ?d ?u ?_; (case B => k_asm); (case F => k_asm); (case X => k_asm); (case N => k_asm); (case T => k_asm); (case fr => exact rfl); (case k => exact rfl); (case hn => exact rfl); (case d => exact Nat.le_of_ble_eq_true rfl); (case u => exact Nat.le_of_ble_eq_true rfl); (case a2 => first | (with_reducible assumption) | exact News.isTup (by k_asm) (by k_mem)); (case a5 => first | (with_reducible assumption) | exact News.isTup (by k_asm) (by k_mem)); (case a0 => first | (with_reducible assumption) | exact News.isList (by k_asm) (by k_mem)); (case a1 => first | assumption | exact IntsAre.nil | exact IntsAre.cons _ _ IntsAre.nil | exact IntsAre.cons _ _ (IntsAre.cons _ _ IntsAre.nil)); (case a3 => first | (with_reducible assumption) | exact News.isList (by k_asm) (by k_mem)); (case a4 => first | assumption | exact IntsAre.nil | exact IntsAre.cons _ _ IntsAre.nil | exact IntsAre.cons _ _ (IntsAre.cons _ _ IntsAre.nil)); (case a6 => first | assumption | solve_by_elim); k_whole); intro t' k' l' us' n' h' tk' F' N' i'; (try k_sweep); (try dsimp only); (try k_fold)))
local macro_rules | `(tactic| walk_at "call ref") => `(tactic| (k_here; (with_reducible show wpAny _ _ (call (Value.ref 142) _) _ _ _); k_dflt (refine' use_sgN (s_sub_spec ?a0 ?a1 ?a2 ?a3 ?a4 ?a5 ?a6 ?a7) ?B ?F ?X ?N ?T ?fr ?k ?hn ?d ?u ?_; (case B => k_asm); (case F => k_asm); (case X => k_asm); (case N => k_asm); (case T => k_asm); (case fr => exact rfl); (case k => exact rfl); (case hn => exact rfl); (case d => exact Nat.le_of_ble_eq_true rfl); (case u => exact Nat.le_of_ble_eq_true rfl); (case a2 => first | (with_reducible assumption) | exact News.isTup (by k_asm) (by k_mem)); (case a5 => first | (with_reducible assumption) | exact News.isTup (by k_asm) (by k_mem)); (case a0 => first | (with_reducible assumption) | exact News.isList (by k_asm) (by k_mem)); (case a1 => first | assumption | exact IntsAre.nil | exact IntsAre.cons _ _ IntsAre.nil | exact IntsAre.cons _ _ (IntsAre.cons _ _ IntsAre.nil)); (case a3 => first | (with_reducible assumption) | exact News.isList (by k_asm) (by k_mem)); (case a4 => first | assumption | exact IntsAre.nil | exact IntsAre.cons _ _ IntsAre.nil | exact IntsAre.cons _ _ (IntsAre.cons _ _ IntsAre.nil)); (case a6 => first | assumption | exact len_add | exact len_sub | exact len_mul | exact len_dlQ | exact len_dvQ | exact len_dvR (by assumption) | (simp; done)); (case a7 => first | assumption | solve_by_elim); k_whole); intro t' k' l' us' n' h' tk' F' N' i' ne1 ne2; (try k_sweep); (try dsimp only); (try k_fold)))
local macro_rules | `(tactic| walk_at "call ref") => `(tactic| (k_here; (with_reducible show wpAny _ _ (call (Value.ref 135) _) _ _ _); k_dflt (refine' use_sg (s_add_spec ?a0 ?a1 ?a2 ?a3 ?a4 ?a5 ?a6) ?B ?F ?X ?N ?T ?fr ?k ?hn ?d ?u ?_; (case B => k_asm); (case F => k_asm); (case X => k_asm); (case N => k_asm); (case T => k_asm); (case fr => exact rfl); (case k => exact rfl); (case hn => exact rfl); (case d => exact Nat.le_of_ble_eq_true rfl); (case u => exact Nat.le_of_ble_eq_true rfl); (case a2 => first | (with_reducible assumption) | exact News.isTup (by k_asm) (by k_mem)); (case a5 => first | (with_reducible assumption) | exact News.isTup (by k_asm) (by k_mem)); (case a0 => first | (with_reducible assumption) | exact News.isList (by k_asm) (by k_mem)); (case a1 => first | assumption | exact IntsAre.nil | exact IntsAre.cons _ _ IntsAre.nil | exact IntsAre.cons _ _ (IntsAre.cons _ _ IntsAre.nil)); (case a3 => first | (with_reducible assumption) | exact News.isList (by k_asm) (by k_mem)); (case a4 => first | assumption | exact IntsAre.nil | exact IntsAre.cons _ _ IntsAre.nil | exact IntsAre.cons _ _ (IntsAre.cons _ _ IntsAre.nil)); (case a6 => first | assumption | solve_by_elim); k_whole); intro t' k' l' us' n' h' tk' F' N' i'; (try k_sweep); (try dsimp only); (try k_fold)))
local macro_rules | `(tactic| walk_at "call ref") => `(tactic| (k_here; (with_reducible show wpAny _ _ (call (Value.ref 205) _) _ _ _); k_dflt (refine' use_sl (r_sub_spec ?a0 ?a1 ?a2 ?a3 ?a4 ?a5 ?a6 ?a7 ?a8 ?a9 ?a10 ?a11 ?a12 ?a13 ?a14) ?B ?F ?X ?N ?T ?fr ?k ?hn ?d ?u ?_; (case B => k_asm); (case F => k_asm); (case X => k_asm); (case N => k_asm); (case T => k_asm); (case fr => exact rfl); (case k => exact rfl); (case hn => exact rfl); (case d => exact Nat.le_of_ble_eq_true rfl); (case u => exact Nat.le_of_ble_eq_true rfl); (case a5 => first | (with_reducible assumption) | exact News.isTup (by k_asm) (by k_mem)); (case a2 => first | (with_reducible assumption) | exact News.isTup (by k_asm) (by k_mem)); (case a11 => first | (with_reducible assumption) | exact News.isTup (by k_asm) (by k_mem)); (case a8 => first | (with_reducible assumption) | exact News.isTup (by k_asm) (by k_mem)); (case a0 => first | (with_reducible assumption) | exact News.isList (by k_asm) (by k_mem)); (case a1 => first | assumption | exact IntsAre.nil | exact IntsAre.cons _ _ IntsAre.nil | exact IntsAre.cons _ _ (IntsAre.cons _ _ IntsAre.nil)); (case a3 => first | (with_reducible assumption) | exact News.isList (by k_asm) (by k_mem)); (case a4 => first | assumption | exact IntsAre.nil | exact IntsAre.cons _ _ IntsAre.nil | exact IntsAre.cons _ _ (IntsAre.cons _ _ IntsAre.nil)); (case a6 => first | (with_reducible assumption) | exact News.isList (by k_asm) (by k_mem)); (case a7 => first | assumption | exact IntsAre.nil | exact IntsAre.cons _ _ IntsAre.nil | exact IntsAre.cons _ _ (IntsAre.cons _ _ IntsAre.nil)); (case a9 => first | (with_reducible assumption) | exact News.isList (by k_asm) (by k_mem)); (case a10 => first | assumption | exact IntsAre.nil | exact IntsAre.cons _ _ IntsAre.nil | exact IntsAre.cons _ _ (IntsAre.cons _ _ IntsAre.nil)); (case a12 => first | assumption | exact len_add | exact len_sub | exact len_mul | exact len_dlQ | exact len_dvQ | exact len_dvR (by assumption) | (simp; done)); (case a13 => first | assumption | exact len_add | exact len_sub | exact len_mul | exact len_dlQ | exact len_dvQ | exact len_dvR (by assumption) | (simp; done)); (case a14 => first | assumption | solve_by_elim); k_whole); intro t' k' t1' k1' l' us' n' l2' us2' n2' h' tk' F' N' i' i2'; (try k_sweep); (try dsimp only); (try k_fold)))
local macro_rules | `(tactic| walk_at "call ref") => `(tactic| (k_here; (with_reducible show wpAny _ _ (call (Value.ref 163) _) _ _ _); k_dflt (refine' use_ss (fdiv_spec2 ?a0 ?a1 ?a2 ?a3 ?a4 ?a5 ?a6 ?a7 ?a8 ?a9) ?B ?F ?X ?N ?T ?fr ?k ?hn ?d ?u ?_; (case B => k_asm); (case F => k_asm); (case X => k_asm); (case N => k_asm); (case T => k_asm); (case fr => exact rfl); (case k => exact rfl); (case hn => exact rfl); (case d => exact Nat.le_of_ble_eq_true rfl); (case u => exact Nat.le_of_ble_eq_true rfl); (case a2 => first | (with_reducible assumption) | exact News.isTup (by k_asm) (by k_mem)); (case a5 => first | (with_reducible assumption) | exact News.isTup (by k_asm) (by k_mem)); (case a0 => first | (with_reducible assumption) | exact News.isList (by k_asm) (by k_mem)); (case a1 => first | assumption | exact IntsAre.nil | exact IntsAre.cons _ _ IntsAre.nil | exact IntsAre.cons _ _ (IntsAre.cons _ _ IntsAre.nil)); (case a3 => first | (with_reducible assumption) | exact News.isList (by k_asm) (by k_mem)); (case a4 => first | assumption | exact IntsAre.nil | exact IntsAre.cons _ _ IntsAre.nil | exact IntsAre.cons _ _ (IntsAre.cons _ _ IntsAre.nil)); (case a6 => first | assumption | solve_by_elim); (case a7 => first | assumption | solve_by_elim); (case a8 => first | assumption | solve_by_elim); (case a9 => first | assumption | solve_by_elim); k_whole); intro t' k' t1' k1' l' us' n' t2' k2' l2' us2' n2' h' tk' F' N' i' i2'; (try k_sweep); (try dsimp only); (try k_fold)))
local macro_rules | `(tactic| walk_at "call ref") => `(tactic| (k_here; (with_reducible show wpAny _ _ (call (Value.ref 287) _) _ _ _); k_dflt (refine' use_int (plain_spec ?a0 ?a1 ?a2 ?a3) ?B ?F ?X ?N ?T ?fr ?k ?hn ?d ?u ?_; (case B => k_asm); (case F => k_asm); (case X => k_asm); (case N => k_asm); (case T => k_asm); (case fr => exact rfl); (case k => exact rfl); (case hn => exact rfl); (case d => exact Nat.le_of_ble_eq_true rfl); (case u => exact Nat.le_of_ble_eq_true rfl); (case a2 => first | (with_reducible assumption) | exact News.isTup (by k_asm) (by k_mem)); (case a0 => first | (with_reducible assumption) | exact News.isList (by k_asm) (by k_mem)); (case a1 => first | assumption | exact IntsAre.nil | exact IntsAre.cons _ _ IntsAre.nil | exact IntsAre.cons _ _ (IntsAre.cons _ _ IntsAre.nil)); (case a3 => first | assumption | solve_by_elim); k_whole); intro t' h' tk' F' N'; (try k_sweep); (try dsimp only); (try k_fold)))
local macro_rules | `(tactic| walk_at "call ref") => `(tactic| (k_here; (with_reducible show wpAny _ _ (call (Value.ref 280) _) _ _ _); k_dflt (refine' use_row3 (row_spec ?a0 ?a1) ?B ?F ?X ?N ?T ?fr ?k ?hn ?d ?u ?_; (case B => k_asm); (case F => k_asm); (case X => k_asm); (case N => k_asm); (case T => k_asm); (case fr => exact rfl); (case k => exact rfl); (case hn => exact rfl); (case d => exact Nat.le_of_ble_eq_true rfl); (case u => exact Nat.le_of_ble_eq_true rfl); (case a0 => omega); (case a1 => omega); k_whole); intro l' us' n' tl' h' tk' F' N' d'; (try simp only [List.cons_append] at N'); (try k_sweep); (try dsimp only); (try k_fold)))
local macro_rules | `(tactic| walk_at "compareOp NotEq ref ref") => `(tactic| (k_here; (with_reducible show wpAny _ _ (compareOp CmpOp.NotEq (Value.ref _) (Value.ref _)) _ _ _); k_dflt (refine' ne_of_data ?ra ?rb ?hc ?hu ?_; (case ra => (first | exact reads_sg (by k_asm) (by k_mem) (by k_mem) (by (first | assumption | exact IntsAre.nil | exact IntsAre.cons _ _ IntsAre.nil | exact IntsAre.cons _ _ (IntsAre.cons _ _ IntsAre.nil))) | exact reads_rat (by k_asm) (by k_mem) (by exact reads_sg (by k_asm) (by k_mem) (by k_mem) (by (first | assumption | exact IntsAre.nil | exact IntsAre.cons _ _ IntsAre.nil | exact IntsAre.cons _ _ (IntsAre.cons _ _ IntsAre.nil)))) (by k_mem) (by (first | assumption | exact IntsAre.nil | exact IntsAre.cons _ _ IntsAre.nil | exact IntsAre.cons _ _ (IntsAre.cons _ _ IntsAre.nil))) | exact reads_fr (by k_asm) (by k_mem) (by exact reads_sg (by k_asm) (by k_mem) (by k_mem) (by (first | assumption | exact IntsAre.nil | exact IntsAre.cons _ _ IntsAre.nil | exact IntsAre.cons _ _ (IntsAre.cons _ _ IntsAre.nil)))) (by exact reads_sg (by k_asm) (by k_mem) (by k_mem) (by (first | assumption | exact IntsAre.nil | exact IntsAre.cons _ _ IntsAre.nil | exact IntsAre.cons _ _ (IntsAre.cons _ _ IntsAre.nil)))))); (case rb => (first | exact reads_sg (by k_asm) (by k_mem) (by k_mem) (by (first | assumption | exact IntsAre.nil | exact IntsAre.cons _ _ IntsAre.nil | exact IntsAre.cons _ _ (IntsAre.cons _ _ IntsAre.nil))) | exact reads_rat (by k_asm) (by k_mem) (by exact reads_sg (by k_asm) (by k_mem) (by k_mem) (by (first | assumption | exact IntsAre.nil | exact IntsAre.cons _ _ IntsAre.nil | exact IntsAre.cons _ _ (IntsAre.cons _ _ IntsAre.nil)))) (by k_mem) (by (first | assumption | exact IntsAre.nil | exact IntsAre.cons _ _ IntsAre.nil | exact IntsAre.cons _ _ (IntsAre.cons _ _ IntsAre.nil))) | exact reads_fr (by k_asm) (by k_mem) (by exact reads_sg (by k_asm) (by k_mem) (by k_mem) (by (first | assumption | exact IntsAre.nil | exact IntsAre.cons _ _ IntsAre.nil | exact IntsAre.cons _ _ (IntsAre.cons _ _ IntsAre.nil)))) (by exact reads_sg (by k_asm) (by k_mem) (by k_mem) (by (first | assumption | exact IntsAre.nil | exact IntsAre.cons _ _ IntsAre.nil | exact IntsAre.cons _ _ (IntsAre.cons _ _ IntsAre.nil)))))); (case hc => assumption); (case hu => ke_room); k_whole); (try dsimp only)))
local macro_rules | `(tactic| walk_at "compareOp Eq ref ref") => `(tactic| (k_here; (with_reducible show wpAny _ _ (compareOp CmpOp.Eq (Value.ref _) (Value.ref _)) _ _ _); k_dflt (refine' eq_of_data ?ra ?rb ?hc ?hu ?_; (case ra => (first | exact reads_sg (by k_asm) (by k_mem) (by k_mem) (by (first | assumption | exact IntsAre.nil | exact IntsAre.cons _ _ IntsAre.nil | exact IntsAre.cons _ _ (IntsAre.cons _ _ IntsAre.nil))) | exact reads_rat (by k_asm) (by k_mem) (by exact reads_sg (by k_asm) (by k_mem) (by k_mem) (by (first | assumption | exact IntsAre.nil | exact IntsAre.cons _ _ IntsAre.nil | exact IntsAre.cons _ _ (IntsAre.cons _ _ IntsAre.nil)))) (by k_mem) (by (first | assumption | exact IntsAre.nil | exact IntsAre.cons _ _ IntsAre.nil | exact IntsAre.cons _ _ (IntsAre.cons _ _ IntsAre.nil))) | exact reads_fr (by k_asm) (by k_mem) (by exact reads_sg (by k_asm) (by k_mem) (by k_mem) (by (first | assumption | exact IntsAre.nil | exact IntsAre.cons _ _ IntsAre.nil | exact IntsAre.cons _ _ (IntsAre.cons _ _ IntsAre.nil)))) (by exact reads_sg (by k_asm) (by k_mem) (by k_mem) (by (first | assumption | exact IntsAre.nil | exact IntsAre.cons _ _ IntsAre.nil | exact IntsAre.cons _ _ (IntsAre.cons _ _ IntsAre.nil)))))); (case rb => (first | exact reads_sg (by k_asm) (by k_mem) (by k_mem) (by (first | assumption | exact IntsAre.nil | exact IntsAre.cons _ _ IntsAre.nil | exact IntsAre.cons _ _ (IntsAre.cons _ _ IntsAre.nil))) | exact reads_rat (by k_asm) (by k_mem) (by exact reads_sg (by k_asm) (by k_mem) (by k_mem) (by (first | assumption | exact IntsAre.nil | exact IntsAre.cons _ _ IntsAre.nil | exact IntsAre.cons _ _ (IntsAre.cons _ _ IntsAre.nil)))) (by k_mem) (by (first | assumption | exact IntsAre.nil | exact IntsAre.cons _ _ IntsAre.nil | exact IntsAre.cons _ _ (IntsAre.cons _ _ IntsAre.nil))) | exact reads_fr (by k_asm) (by k_mem) (by exact reads_sg (by k_asm) (by k_mem) (by k_mem) (by (first | assumption | exact IntsAre.nil | exact IntsAre.cons _ _ IntsAre.nil | exact IntsAre.cons _ _ (IntsAre.cons _ _ IntsAre.nil)))) (by exact reads_sg (by k_asm) (by k_mem) (by k_mem) (by (first | assumption | exact IntsAre.nil | exact IntsAre.cons _ _ IntsAre.nil | exact IntsAre.cons _ _ (IntsAre.cons _ _ IntsAre.nil)))))); (case hc => assumption); (case hu => ke_room); k_whole); (try dsimp only)))
local macro_rules | `(tactic| walk_at "compareOp NotEq ref ref") => `(tactic| (k_here; (with_reducible show wpAny _ _ (compareOp CmpOp.NotEq (Value.ref _) (Value.ref _)) _ _ _); k_dflt (refine' told_ne ?N ?a ?b ?u ?_; (case N => k_asm); (case a => assumption); (case b => assumption); (case u => ke_room); k_whole); (try dsimp only)))
local macro_rules | `(tactic| walk_at "compareOp Eq ref ref") => `(tactic| (k_here; (with_reducible show wpAny _ _ (compareOp CmpOp.Eq (Value.ref _) (Value.ref _)) _ _ _); k_dflt (refine' told_eq ?N ?a ?b rfl ?u ?_; (case N => k_asm); (case a => assumption); (case b => assumption); (case u => ke_room); k_whole); (try dsimp only)))
local macro_rules | `(tactic| walk_at "exec For Name Call cons nil") => `(tactic| (k_here; (rename Fr _ _ _ _ => lF'); (with_unfolding_all refine' For_turns lF' ?_; k_whole)))
local macro_rules | `(tactic| walk_at "exec Assign cons ListComp") => `(tactic| (k_here; k_dflt (refine LCp.Assign_ListComp_P (F₀ := by k_asm) (by rfl) (by with_unfolding_all rfl) (by with_unfolding_all rfl) (by decide) (by rfl) (by decide) (by rfl) (by rfl) (by decide) (by rfl) (by rfl) ?_)))
local macro_rules | `(tactic| walk_at "eval Name") => `(tactic| (k_here; name_kind "local"; (with_reducible show wpAny _ _ (eval (Expr.Name _ _) (envOfC _ _ _ _ _)) _ _ _); (with_reducible refine inCells ?_); k_dflt (refine' ldLoc ?k1 ?k2 ?_; (case k1 => k_asm); (case k2 => ((conv => lhs; whnf); with_reducible assumption)); k_whole)))
local macro_rules | `(tactic| walk_at "call builtin:len") => `(tactic| (k_here; (with_reducible show wpAny _ _ (call (Value.builtin "len") [Value.ref _]) _ _ _); k_dflt (refine' len_told ?a ?b ?_; (case a => exact News.isList (by k_asm) (by k_mem)); (case b => with_reducible assumption); k_whole)))
local macro_rules | `(tactic| walk_at "call builtin:list.append") => `(tactic| (k_here; (with_reducible show wpAny _ _ (call (Value.builtin _) [Value.ref _, _]) _ _ _); k_dflt (first | (refine' append_later1 ?F ?N ?g ?r ?z ?_; (case F => k_asm); (case N => k_asm); (case g => assumption); (case r => with_reducible assumption); (case z => first | omega | (simp only [List.length_append, List.length_singleton]; omega)); k_whole) | (refine' append_later2 ?F ?N ?g ?g2 ?r ?z ?_; (case F => k_asm); (case N => k_asm); (case g => assumption); (case g2 => omega); (case r => with_reducible assumption); (case z => first | omega | (simp only [List.length_append, List.length_singleton]; omega)); k_whole)); intro h' F' N'; (try k_sweep)))
local macro_rules | `(tactic| walk_at "subscriptTail") => `(tactic| (k_here; (with_reducible show wpAny _ _ (subscriptTail _ _ (Value.ref _) (Value.int _ _)) _ _ _); k_dflt (refine' item_at ?a ?b ?_; (case a => exact News.isList (by k_asm) (by k_mem)); (case b => with_reducible assumption); k_whole)))
local macro_rules | `(tactic| walk_at "subscriptTail") => `(tactic| (k_here; (with_reducible show wpAny _ _ (subscriptTail _ _ (Value.ref _) (Value.int _ _)) _ _ _); k_dflt (refine' item_tupleT ?t ?a ?b ?c ?d ?_; (case t => exact News.isTup (by k_asm) (by k_mem)); (case a => decide); (case b => decide); (case c => rfl); (case d => rfl); k_whole)))
local macro_rules | `(tactic| walk_at "Drawn") => `(tactic| (k_here; (rename Fr _ _ _ _ => lF'); (rename News _ _ _ _ => lN'); k_dflt (exact drawn_of lF' lN' (by k_mem) (by assumption))))
local macro_rules | `(tactic| walk_at "execs cons") => `(tactic| (k_here; (rename Fr _ _ _ _ => lF'); (with_reducible refine cutDraw lF' ?_ (fun n wv tn tw o h' tk' n1 n2 w1 w2 F' N' dW => stop_here ?_))))
set_option maxHeartbeats 16000000 in
theorem law_holds : PySem.Challenge.rw_xm0408_01.Holds := Mine.hd (by
  k_go0
  all_goals (try k_fold)
  k_steps
  all_goals (try (rename Fr _ _ _ _ => lF'; rename News _ _ _ _ => lN'; exact drawn_of lF' lN' (by k_mem) (by assumption)))
  rename_i yp0 yp1 yp2 yp3 yp4 yp5 yp6 yp7 yp8 yp9 yp10 yp11 yp12 yp13 yp14 yp15 yp16 yp17 yp18 yp19 yp20 yp21 yp22 yp23 yp24 yp25 yp26 yp27 yp28 yp29 yp30 yp31 yp32 yp33 yp34 yp35 yp36 yp37 yp38 yp39 yp40 yp41 yp42 yp43 yp44 yp45 yp46 yp47 n wv tn tw o h' tk' n1 n2 w1 w2 F9 N9 dW
  clear yp1 yp2 yp3 yp4 yp5 yp11 yp12 yp13 yp14 yp15 yp16 yp17 yp18 yp29 yp30 yp31 yp32 yp33 yp34 yp36 yp37 yp41 yp44 yp46 yp47
  refine stop_go ?_
  (try k_fold)
  k_steps
  rename_i ym0 ym1 ym2 ym3 ym4 ym5 ym6 ym7 ym8 ym9 ym10 ym11 ym12 ym13 ym14 ym15 ym16 ym17 ym18 ym19 ym20 ym21 ym22 ym23 ym24 ym25 ym26 ym27 ym28 ym29 ym30 ym31 ym32 ym33 ym34 ym35 ym36 ym37 ym38 ym39 ym40 ym41 ym42 ym43 ym44 ym45 ym46 ym47 ym48 ym49 ym50 ym51 ym52 hR F3 N3 hk3
  refine law_range (wv := wv) (n := n) (tn := tn) (oW := o) N9 rfl rfl hR F3 N3 (turn_ok w1 w2 n1 n2 (Nat.le_refl _)).1 ?inv ?turn
  case inv => exact law_inv0 rfl rfl rfl rfl rfl rfl (by k_mem) (by k_mem) (by k_mem) (by k_mem) (by k_mem) (by k_mem) (by k_mem) (by k_mem) (by k_mem) (by assumption) (by k_mem) (by refine ⟨?_, ?_, ?_, ?_, ?_, ?_, ?_, ?_, ?_⟩ <;> omega)
  case turn =>
    clear ym5 ym6 ym9 ym12 ym15 ym18 ym25 ym28 ym31 ym34 ym37 ym44 ym46 ym47 hR F3 N3 hk3 F9 N9
    intro i I oI m₁ n₁ t h tk hi hv hoff F₁ N₁
    refine open_turn_k w1 w2 n1 n2 hv hoff N₁ ?_
    clear hoff N₁ hi hv
    intro aH p1 q1 l1 l2 aT p3 q3 l3 l4 aB lb aO lo lr u1 u2 u3 u4 ub uo rs b1 b2 b3 b4 x1 x2 x3 x4 k1 k2 k3 k4 k5 k6 k7 k8 k9 k10 k11 k12 k13 k14 nr tl e1 e2 e3 e4 e5 e6 hi1 hi2 hi3 hi4 hiB hiO N₂ hr hI gI hsz hv9 m1 m2 s1 m3 r l1' l2' cr ap o1 o2 sm br a1 f1 f2 f3 d m4 s2 m5 s3
    (try k_fold)
    iterate 13 (first | (k_unfold; (try dsimp only)) | walk1 | (dsimp only; walk1))
    refine append_row (by assumption) (by assumption) gI hr hsz ?_
    intro h' F' N'
    (try k_sweep)
    iterate 215 (first | (k_unfold; (try dsimp only)) | walk1 | (dsimp only; walk1))
    · iterate 2 (first | (k_unfold; (try dsimp only)) | walk1 | (dsimp only; walk1))
      dsimp only
      rename Fr _ _ _ _ => F8
      rename News _ _ _ _ => N8
      refine open_brk_k (tn := tn) w1 w2 n1 n2 hr hi3 hi4 hsz hv9 (by assumption) F8 N8 ?e3 ?e4 (by k_mem) ?mT ?_
      case e3 => ((conv => lhs; whnf); with_reducible assumption)
      case e4 => ((conv => lhs; whnf); with_reducible assumption)
      case mT => (intro p hp; replace hp : List.Mem p _ := hp; repeat (first | (with_reducible exact hp) | refine List.Mem.tail _ ?_))
      clear F8 N8 hr hI gI hi1 hi2 hi3 hi4 hiB hiO hsz hv9 cr ap br m1 m2 s1 m3 r l1' l2' o1 o2 sm a1 f1 f2 f3 d m4 s2 m5 s3
      intro mB rs' nr' A e3' e4' F2 N2 hrow hlen
      clear e1 e2 e3 e4 e5 e6
      dsimp only [TurnR]
      (try k_fold)
      iterate 3 (first | (k_unfold; (try dsimp only)) | walk1 | (dsimp only; walk1))
      refine ⟨lr, rs'.toArray, _, rfl, rfl, by assumption, by assumption, .inr ⟨_, .tail _ (.head _), rfl, _, rfl⟩, ?len, ?_⟩
      case len => rw [sizeLine_eq, List.size_toArray]; omega
      rintro s₂ ⟨h₂, rfl⟩
      refine compP_inv (n := rs'.toArray.size) (ToldJ wv _ (fracs wv n (lastT n + 1))) ?step ?done rs'.toArray.size 0 [] _ rfl ⟨[], rfl, .nil⟩
      case step =>
        intro i ys nw hi hJ v hv
        obtain ⟨a, x, p, q, k, l1, u1, k1, k2, l2, u2, k3, k4, rfl, ex, z0, z1, z2, i1, z3, z4, i2⟩ := told_at hrow hv
        have hsub : ∀ p ∈ A, p ∈ nw := by
          obtain ⟨tn, rfl, _⟩ := hJ
          exact fun p hp => List.mem_append_right _ (.tail _ (.tail _ hp))
        have hS : ∀ g : Heap, LCg.SrcAt g lr rs'.toArray nw := by
          intro g
          obtain ⟨tn, rfl, _⟩ := hJ
          exact .inr ⟨_, List.mem_append_right _ (.tail _ (.head _)), rfl, _, rfl⟩
        have hW := (show _ ∈ nw by
          obtain ⟨tn, rfl, _⟩ := hJ
          exact List.mem_append_right _ (.head _))
        refine ⟨a, _, _, _, k, rfl, hsub _ z0, rfl, rfl, ?_⟩
        intro I oI C oC D mC h tk E' hC hx hx2 F3 N3 off ne
        obtain ⟨ne1, ne2, ne3⟩ := ne
        obtain ⟨ok1, ok2⟩ := (told_ok w1 w2 n1 n2).1 x (List.mem_of_getElem? ex)
        have N4 := news_cons N3 (.tail _ (.tail _ (.tail _ (hsub _ z1)))) (news_cons N3 (.tail _ (.tail _ (.tail _ (hsub _ z2)))) (news_cons N3 (.tail _ (.tail _ (.tail _ (hsub _ z3)))) (news_cons N3 (.tail _ (.tail _ (.tail _ (hsub _ z4)))) (news_cons N3 (.tail _ (.tail _ (.tail _ hW))) N3))))
        clear N3 F2 N2 z0 z1 z2 z3 z4 hsub hW
        (try k_fold)
        k_steps
        rename_i D3 h3 F3 N3 l3
        obtain ⟨_, _, _, _, _, y1, y2, y3, _⟩ := l3
        exact told_end F3 N3 y1 y2 y3 off (hS _) hJ ex
      case done =>
        intro ys nw hJ
        unfold LCg.FinA
        intro D h tk F3 N3 off
        obtain ⟨tn', rfl, hd⟩ := told_done w1 w2 n1 n2 hrow hJ
        have N4 : News _ _ h ((D, LCg.lst ys) :: tn') := news_cons N3 (.head _) fun p hp => N3 p (.tail _ (List.mem_append_left _ hp))
        have nD : ∀ p ∈ tn', p.1 ≠ D := fun p hp => off1_ne off p (List.mem_append_left _ hp)
        obtain ⟨a0, at0, hy⟩ := at_zero n1 n2 hd
        clear N3 off hJ F2 N2 hrow hlen
        (try k_fold)
        iterate 48 (try (first | (k_unfold; (try dsimp only)) | walk1 | (dsimp only; walk1)))
        rename_i l9 us9 n9 tl9 h91 tk91 d9 E9 h92 l1 h93 F4 N4 h94 tk93 t9 u9 v9 hR F5 N5 hk5
        obtain ⟨_, y2, y3⟩ := l1
        refine later_range (tn := tn) n1 n2 rfl rfl hR rfl F5 N5 hd at0 rfl rfl ?e3 (.head _) (.tail _ (.tail _ (.head _))) (fun p hp => .tail _ (.tail _ (.tail _ (List.mem_append_left _ hp)))) (later_ne y2 y3) ?turn ?done
        case e3 => ((conv => lhs; whnf); with_reducible assumption)
        case done =>
          clear F4 N4 hR F5 N5 hk5 d9 y3
          intro m₁ zs nz tz h tk e2 e3 F6 N6 hz
          (try k_fold)
          k_steps
        case turn =>
          clear F4 N4 hR F5 N5 hk5 d9 y3
          intro i I oI m₁ n₁ t h tk hi hv hoff F₁ N₁
          refine open_later_k hd hi (later_ok n1 n2).2.2 hv hoff N₁ ?_
          clear hoff N₁ hi hv
          intro zs nz tz a b ka kb ta1 ta2 tb1 tb2 x y e1 e2 e3 at1 at2 N6 hE hI gE hz mb hf
          (try k_fold)
          k_steps
          all_goals (show TurnEndR _ _ _ _ _ _ _)
          all_goals rename Fr _ _ _ _ => F7
          all_goals rename News _ _ _ _ => N7
          · refine later_t hf hI gE mb hE (by assumption) F7 N7 ?gT ?gT2 ?e1 ?e2 ?e3
            case gT => omega
            case gT2 => omega
            case e1 => ((conv => lhs; whnf); with_reducible assumption)
            case e2 => ((conv => lhs; whnf); with_reducible assumption)
            case e3 => ((conv => lhs; whnf); with_reducible assumption)
          · refine later_f hf hI gE mb hE (by assumption) F7 N7 ?e1 ?e2 ?e3
            case e1 => ((conv => lhs; whnf); with_reducible assumption)
            case e2 => ((conv => lhs; whnf); with_reducible assumption)
            case e3 => ((conv => lhs; whnf); with_reducible assumption)
    · have hdec := decide_eq_false (show ¬ i = lastT n by assumption)
      replace a1 := a1 hdec
      replace f1 := f1 hdec
      replace f2 := f2 hdec
      replace f3 := f3 hdec
      replace d := d hdec
      replace m4 := m4 hdec
      replace s2 := s2 hdec
      replace m5 := m5 hdec
      replace s3 := s3 hdec
      clear cr ap sm br m1 m2 s1 m3 r o1 o2
      k_steps
      show TurnEndR _ _ _ _ _ _ _
      refine close_turn (tl := tl) w1 w2 n1 n2 hi3 hi4 hiB hiO hr hI gI hv9 (show ¬ i = lastT n by assumption) (by assumption) (by assumption) rfl rfl ?e3 ?e4 ?e5 ?e6 (by k_mem) (by k_mem) ?mT (by k_mem) (by k_mem) (by k_mem) (by k_mem) (by k_mem) (by assumption) (by assumption) rfl rfl ?n1 ?n2
      case e3 => ((conv => lhs; whnf); with_reducible assumption)
      case e4 => ((conv => lhs; whnf); with_reducible assumption)
      case e5 => ((conv => lhs; whnf); with_reducible assumption)
      case e6 => ((conv => lhs; whnf); with_reducible assumption)
      case mT => (intro p hp; replace hp : List.Mem p _ := hp; repeat (first | (with_reducible exact hp) | refine List.Mem.tail _ ?_))
      case n1 => (refine ⟨?_, ?_, ?_, ?_, ?_⟩ <;> first | (exact ne_at (by assumption) (by k_mem)) | omega)
      case n2 => (refine ⟨?_, ?_, ?_, ?_, ?_⟩ <;> first | (exact ne_at (by assumption) (by k_mem)) | omega))
end
end Mine
theorem PySem.Challenge.cw_xm0408_01_holds : PySem.Challenge.rw_xm0408_01.Holds :=
  Mine.law_holds
