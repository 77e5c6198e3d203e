import PyProof.Rows.All
import Wide.All
import OpenK.AllK
import Wide.FinOn
import PySem.Challenge.RW_or0022_01

open PySem PySem.W PyProof.Rows
set_option Elab.async false
open PySem PySem.W PyProof.Rows
namespace Mine
set_option maxRecDepth 100000 in
set_option maxHeartbeats 8000000 in
open_top hd for PySem.Challenge.rw_or0022_01
end Mine

-- part Cm
section
open PySem PySem.W PyProof.Rows PySem.Calls
set_option maxRecDepth 100000
namespace Mine
theorem offCm : True := by
  w_top off
  trivial
theorem fill : (fun (_ : Params → Frag) (_ : OpenLaw) => True) hd.heap_39 PySem.Challenge.rw_or0022_01 := by k_fill; trivial

noncomputable def CSpec (w : World) (f : Addr) (need : Nat) (vs : List Value) (news : List (Addr × Obj)) (post : Value → List (Addr × Obj) → Prop) : Prop :=
  ∀ (mean : ExcName → Option Value) (mg mb : PySem.Str → Option Value) (dp un : Nat) (gd : Option (List Code)) (cn : PySem.Str) (cs : Scope) (a : Addr) (ccd : Value) (cl : List (PySem.Str × Addr)) (outer : List Env) (A₀ : Around) (base h₀ : Heap) (L : Addr) (m : PySem.Str → Option Value) (s : Shared) (Q E : Value → Shared → Prop),
    Below A₀ base outer h₀ → Fr h₀ L s.heap m → (hd.heap_39 w.params).In h₀ → News h₀ L s.heap news → Top hd.view_39 (looseW hd.view_39 [PySem.Str.ofString "PostError"]) mean mg mb h₀ → cs.kind = .function →
    dp + need < recursionLimit → un + 8 * need < cLine →
    (∀ r news' h' tk', Fr h₀ L h' m → News h₀ L h' news' → post r news' → Q r { s with heap := h', toks := tk' }) →
    wpAny (model PySem.Challenge.pw_or0022_01 w) (ktrTop dp un gd cn cs L a ccd cl outer) (call (.ref f) vs) Q E s

section
variable {prog : Program} {w : World} {A : Around} {E : Value → Shared → Prop} {s : Shared} {h₀ : Heap} {L D : Addr} {m : PySem.Str → Option Value} {news news' : List (Addr × Obj)} {its : Array Value} {n : Nat}
theorem setAny {k : Int} {t : Tok} {v : Value} {Q : Unit → Shared → Prop} (F : Fr h₀ L s.heap m) (N : News h₀ L s.heap news) (U : Upd D (PySem.W.listOf its n) (PySem.W.listOf (its.setIfInBounds k.toNat v) n) news news')
    (h0 : 0 ≤ k) (hfit : k < 2 ^ 63) (hn : k < its.size) (hQ : ∀ h', Fr h₀ L h' m → News h₀ L h' news' → Q () { s with heap := h' }) : wpAny (model prog w) A (setItem (.ref D) (.int k t) v) Q E s := by
  obtain ⟨pre, post, rfl, rfl, ha, hb⟩ := U.split
  have hm : (D, PySem.W.listOf its n) ∈ pre ++ (D, PySem.W.listOf its n) :: post := List.mem_append.mpr (.inr (.head _))
  refine ki_setAt (n := n) (N _ hm).1 h0 hfit hn (hQ _ ?_ ?_)
  · exact F.change (Heap.SameBut.update ..) (N _ hm).2.1 (N _ hm).2.2
  · exact ki_turn _ N ha hb rfl (by simp)
theorem setPair {x y v : Value} {t : Tok} {Q : Unit → Shared → Prop} (F : Fr h₀ L s.heap m) (N : News h₀ L s.heap news) (U : Upd D (PySem.W.listOf (List.toArray [x, y]) n) (PySem.W.listOf (List.toArray [x, v]) n) news news')
    (hQ : ∀ h', Fr h₀ L h' m → News h₀ L h' news' → Q () { s with heap := h' }) : wpAny (model prog w) A (setItem (.ref D) (.int 1 t) v) Q E s :=
  setAny (its := [x, y].toArray) F N (show Upd D _ (PySem.W.listOf (([x, y].toArray).setIfInBounds (1:Int).toNat v) n) news news' from U) (by decide) (by decide) (by simp) hQ
end
theorem offOf {news : List (Addr × Obj)} {a b : Nat} (h : ∀ p ∈ news, @LT.lt Nat _ p.1 b) (hb : b ≤ a) : ∀ p ∈ news, p.1 ≠ a := fun p hp => Nat.ne_of_lt (Nat.lt_of_lt_of_le (h p hp) hb)
theorem offOf' {news : List (Addr × Obj)} {a b : Nat} (h : ∀ p ∈ news, @LT.lt Nat _ p.1 b) (hb : b ≤ a) : ∀ p ∈ news, p.1 < a := fun p hp => Nat.lt_of_lt_of_le (h p hp) hb

section
open PySem.Spec PyProof.Rows.LCg
variable {prog : Program} {w : World} {A : Around} {E : Value → Shared → Prop} {s : Shared} {h₀ : Heap} {L : Addr} {m : PySem.Str → Option Value} {env : Env}

noncomputable def SrcDn (prog : Program) (w : World) (A : Around) (h₀ : Heap) (L : Addr) (m : PySem.Str → Option Value) (env : Env) (elt : Expr) (x : PySem.Str) (scope : Scope) (cl : List (PySem.Str × Addr)) (Fin : Shared → List Value → List (Addr × Obj) → Prop) (xv : Value) (s₁ : Shared) : Prop :=
  ∃ r a b t u v n news, xv = .ref r ∧ A.handled = none ∧ Fr h₀ L s₁.heap m ∧ News h₀ L s₁.heap news ∧ IsRange s₁.heap r a b (-1) t u v ∧ Builtin.Range.small a b (-1) = true ∧ Builtin.Range.rangeSize a b (-1) = ((n : Nat) : Int) ∧ n ≤ sizeLine ∧
    ∀ g, CompRest prog w A h₀ L m env elt x scope cl { s₁ with heap := g } (fun _ => True) (fun i v => ∃ t, v = .int (a + (i : Int) * (-1)) t) (Fin { s₁ with heap := g }) n 0 [] news

theorem SrcDn.mk {elt : Expr} {x : PySem.Str} {scope : Scope} {cl : List (PySem.Str × Addr)} {Fin : Shared → List Value → List (Addr × Obj) → Prop} {r : Addr} {a b : Int} {t u v : Tok} {n : Nat} {news : List (Addr × Obj)} {s₁ : Shared}
    (hh : A.handled = none) (F : Fr h₀ L s₁.heap m) (N : News h₀ L s₁.heap news) (hr : IsRange s₁.heap r a b (-1) t u v) (hsm : Builtin.Range.small a b (-1) = true) (hn : Builtin.Range.rangeSize a b (-1) = ((n : Nat) : Int)) (hsz : n ≤ sizeLine)
    (h : ∀ g, CompRest prog w A h₀ L m env elt x scope cl { s₁ with heap := g } (fun _ => True) (fun i v => ∃ t, v = .int (a + (i : Int) * (-1)) t) (Fin { s₁ with heap := g }) n 0 [] news) :
    SrcDn prog w A h₀ L m env elt x scope cl Fin (.ref r) s₁ := ⟨r, a, b, t, u, v, n, news, rfl, hh, F, N, hr, hsm, hn, hsz, h⟩

theorem walksDn {I : Addr} (hh : A.handled = none) (a : Int) (n : Nat) : Walks prog w A I [I] [I] n (fun i v => ∃ t, v = .int (a + (i : Int) * (-1)) t) (fun i h => IsRangeIter h I (a + (i : Nat) * (-1)) ((n : Int) - (i : Nat)) (-1)) :=
  let W := (Walks.range (prog := prog) (w := w) hh I a (-1) n).bound
  { sub := W.sub, frame := W.frame, done := W.done, self := W.self,
    item := fun i s Q E hi st hQ => W.item i s Q E hi st fun v h' tk hP => hQ v h' tk hP.2 }

theorem ListComp_Dn {elt iter : Expr} {x : PySem.Str} {px : Pos} {scope : Scope} {cl : List (PySem.Str × Addr)} {pos : Pos} {Q : Value → Shared → Prop} (_F₀ : Fr h₀ L s.heap m)
    (hclos : closureFor scope env = pure cl) (hcell : ∀ y ∈ scope.names, y.2 ≠ .cell) (hkind : scope.kind = .function)
    (hnames : ∀ y ∈ scope.names, y.2 = .local → scope.names.lookup y.1 = some .local) (hx : scope.names.lookup x = some .local)
    (h : wpAny (model prog w) A (eval iter env) (SrcDn prog w A h₀ L m env elt x scope cl (fun s₂ => FinE h₀ L m s₂ Q)) E s)
    (hs : ∀ x, foldedSetIterable iter env x = pure x := by intro _; rfl) :
    wpAny (model prog w) A (eval (.ListComp elt [⟨.Name x px, iter, [], 0⟩] scope pos) env) Q E s := by
  rw [eval_ListComp]
  refine wpAny_comprehension_free (use := none) rfl hs hclos hkind hnames (wpAny_mono h (fun xv s₁ h₁ => ?_) fun _ _ e => e)
  obtain ⟨r, a, b, t, u, v, n, news, rfl, hh, F, N, hr, hsm, hn, hsz, R⟩ := h₁
  refine wpAny_pyIter_range hr hsm ?_
  refine block_U (walksDn hh a n) hsz (fun i h st => ⟨_, st⟩) (St := fun i h => IsRangeIter h s₁.heap.objs.size (a + (i : Nat) * (-1)) ((n : Int) - (i : Nat)) (-1)) ?_ hcell hkind hx (by show IsRangeIter _ _ _ _ _; rw [hn]; simpa using Heap.get?_push_size _ rfl) (fun b hb => ?_)
    (F.keeps fun _ _ e => Heap.get?_push_of_some _ e) (N.grown fun _ _ e => Heap.get?_push_of_some _ e) (Nat.ne_of_lt F.ns.lt) (next_is_new F) (fun p hp => Nat.ne_of_lt (Heap.lt_size (N p hp).1)) trivial (R _) ?_
  · intro i h h' o nw st e e' _ _ _
    have st' : h.get? s₁.heap.objs.size = some _ := st
    show h'.get? s₁.heap.objs.size = some _
    rw [e', ← e]; exact st'
  · rw [List.mem_singleton.mp hb]
    show s₁.heap.objs.size < (s₁.heap.push _).objs.size
    rw [Heap.size_push]; exact Nat.lt_succ_self _
  · intro D C h tk m' ys news' F' N' o1 hn hC₀ hD₀ hCL hDL hCD offC fin
    refine ⟨m', hn, fun h'' hs'' => fin D h'' tk (F'.change hs'' hCL hC₀) (fun p hp => ?_) o1⟩
    refine ⟨hs''.extBut _ _ ?_ (N' p hp).1, (N' p hp).2⟩
    rcases List.mem_cons.mp hp with rfl | hp
    · exact Ne.symm hCD
    · exact offC p hp
end

theorem off1_mem {D : Addr} : ∀ {l : List (Addr × Obj)}, PyProof.Rows.LCg.Off1 D l → ∀ p ∈ l, p.1 ≠ D
  | [], _, _, h => nomatch h
  | _ :: _, x, p, h => by
    rcases List.mem_cons.mp h with rfl | h
    · exact x.1
    · exact off1_mem x.2 p h
section
variable {prog : Program} {w : World} {A : Around} {E : Value → Shared → Prop} {s : Shared} {b : Array UInt8} {t ui : Tok} {ks : List Int} {value slice : Expr}
theorem item64 {x : Int} {Q : Value → Shared → Prop} (hk : KBw.bInts b = ks) (hl : ks.length = 64)
    (h : ∀ t' k, Q (.int (ks.getD (x % 64).toNat 0) t') { s with toks := k })
    (hs : subscripted slice false (.bytes b t) (.int (Builtin.bitAnd x 63) ui) = operate [.bytes b t, .int (Builtin.bitAnd x 63) ui] (getItem (.bytes b t) (.int (Builtin.bitAnd x 63) ui)) := by with_unfolding_all rfl)
    (ht : ∀ r, letTemporaryGo value (.bytes b t) r = pure () := by intro _; with_unfolding_all rfl) : wpAny (model prog w) A (subscriptTail value slice (.bytes b t) (.int (Builtin.bitAnd x 63) ui)) Q E s := by
  have e : Builtin.bitAnd x 63 = x % 64 := bitAnd_m6 x
  refine KBw.item_K hk (by omega) (by rw [e]; omega) (by rw [e, hl]; omega) (fun t' k _ _ => ?_) hs ht
  rw [e]; exact h t' k
end

theorem ints_eq {vs : List Value} {l l' : List Int} (h : IntsAre vs l) (e : l = l') : IntsAre vs l' := e ▸ h
noncomputable def gcT1 (x : Int) : Int := (256 * 0 + x) * 2 ^ 4
noncomputable def gcT2 (x y : Int) : Int := (256 * (256 * 0 + x) + y) * 2 ^ 2
noncomputable def gcT3 (x y z : Int) : Int := (256 * (256 * (256 * 0 + x) + y) + z) * 2 ^ 0
noncomputable def gcI : List Int → List Int
  | [x] => [(gcT1 x).fdiv (2 ^ 6) % 64, (gcT1 x).fdiv (2 ^ 0) % 64]
  | [x, y] => [(gcT2 x y).fdiv (2 ^ 12) % 64, (gcT2 x y).fdiv (2 ^ 6) % 64, (gcT2 x y).fdiv (2 ^ 0) % 64]
  | [x, y, z] => [(gcT3 x y z).fdiv (2 ^ 18) % 64, (gcT3 x y z).fdiv (2 ^ 12) % 64, (gcT3 x y z).fdiv (2 ^ 6) % 64, (gcT3 x y z).fdiv (2 ^ 0) % 64]
  | _ => []
noncomputable def gcV (als ks : List Int) : List Int := (gcI ks).map fun i => als.getD i.toNat 0
noncomputable def gcPost (als ks : List Int) (news : List (Addr × Obj)) (r : Value) (news' : List (Addr × Obj)) : Prop :=
  ∃ D vals n, r = .ref D ∧ news' = (D, PySem.W.listOf (List.toArray vals) n) :: news ∧ IntsAre vals (gcV als ks) ∧ ∀ p ∈ news, p.1 ≠ D
theorem newsHead {h₀ h : Heap} {L : Addr} {p : Addr × Obj} {rest news : List (Addr × Obj)} (N : News h₀ L h (p :: rest)) (hs : ∀ q ∈ news, q ∈ rest) : News h₀ L h (p :: news) := fun q hq => by
  rcases List.mem_cons.mp hq with rfl | hq
  · exact N _ (.head _)
  · exact N _ (.tail _ (hs _ hq))
theorem sub2 {p q : Addr × Obj} {news : List (Addr × Obj)} : ∀ x ∈ news, x ∈ p :: q :: news := fun _ h => .tail _ (.tail _ h)
theorem sub1 {p : Addr × Obj} {news : List (Addr × Obj)} : ∀ x ∈ news, x ∈ p :: news := fun _ h => .tail _ h
theorem gc_end {h₀ h : Heap} {L D : Addr} {m : PySem.Str → Option Value} {Q : Value → Shared → Prop} {s : Shared} {tk : Nat} {p q : Addr × Obj} {news : List (Addr × Obj)} {ys : List Value} {als ks l : List Int} 
    (hret : ∀ r news' h' tk', Fr h₀ L h' m → News h₀ L h' news' → gcPost als ks news r news' → Q r { s with heap := h', toks := tk' })
    (F : Fr h₀ L h m) (N : News h₀ L h ((D, PyProof.Rows.LCg.lst ys) :: p :: q :: news)) (o : PyProof.Rows.LCg.Off1 D news) (hi : IntsAre ys l) (e : l = gcV als ks) : Q (.ref D) { s with heap := h, toks := tk } :=
  hret _ _ _ _ F (newsHead N sub2) ⟨D, ys, ys.length, rfl, rfl, ints_eq hi e, off1_mem o⟩

noncomputable def CSpecH (w : World) (f : Addr) (need : Nat) (vs : List Value) (pre : Heap → Prop) (news : List (Addr × Obj)) (post : Value → List (Addr × Obj) → Prop) : Prop :=
  ∀ (mean : ExcName → Option Value) (mg mb : PySem.Str → Option Value) (dp un : Nat) (gd : Option (List Code)) (cn : PySem.Str) (cs : Scope) (a : Addr) (ccd : Value) (cl : List (PySem.Str × Addr)) (outer : List Env) (A₀ : Around) (base h₀ : Heap) (L : Addr) (m : PySem.Str → Option Value) (s : Shared) (Q E : Value → Shared → Prop),
    pre h₀ → Below A₀ base outer h₀ → Fr h₀ L s.heap m → (hd.heap_39 w.params).In h₀ → News h₀ L s.heap news → Top hd.view_39 (looseW hd.view_39 [PySem.Str.ofString "PostError"]) mean mg mb h₀ → cs.kind = .function →
    dp + need < recursionLimit → un + 8 * need < cLine →
    (∀ r news' h' tk', Fr h₀ L h' m → News h₀ L h' news' → post r news' → Q r { s with heap := h', toks := tk' }) →
    wpAny (model PySem.Challenge.pw_or0022_01 w) (ktrTop dp un gd cn cs L a ccd cl outer) (call (.ref f) vs) Q E s

section
open PySem.Spec PyProof.V
variable {prog : Program} {w : World} {A : Around} {E : Value → Shared → Prop} {s : Shared} {env : Env} {h₀ : Heap} {x : PySem.Str} {body : List Stmt} {Q : Flow → Shared → Prop}
theorem loopStep {σ : Type} {r : Addr} {a₀ b₀ c : Int} {t₀ u₀ v₀ : Tok} {n : Nat} {m₀ : PySem.Str → Option Value} (Led : σ → List (Addr × Obj)) (ps : σ → List (PySem.Str × Value)) (Facts : σ → Prop) (stored : List PySem.Str) (P : Nat → σ → Prop) (c₀ : σ)
    (hh : A.handled = none) (hr : IsRange s.heap r a₀ b₀ c t₀ u₀ v₀) (hsmall : Builtin.Range.small a₀ b₀ c = true) (hn : Builtin.Range.rangeSize a₀ b₀ c = (n : Int)) (F : Fr h₀ env.locals s.heap m₀) (N : News h₀ env.locals s.heap (Led c₀)) (hf : Facts c₀) (hk : ∀ p ∈ ps c₀, m₀ p.1 = some p.2) (hp : P 0 c₀)
    (turn : ∀ (st : σ) (i : Nat) t (u : PySem.Str → Option Value) h tk own, i < n → OwnOff own ((Led c₀).map (·.1)) → Facts st → P i st →
      Fr h₀ env.locals h (fun y => if y = x then some (.int (a₀ + i * c) t) else kstB (fun z => if stored.contains z then u z else m₀ z) (ps st) y) → News h₀ env.locals h (Led st ++ own) →
      wpAny (model prog w) A (execs body env) (InvPostN h₀ env.locals (KstS Led ps Facts x stored m₀ (fun _ => P (i + 1)) []) own ((Led c₀).map (·.1)) { s with heap := h, toks := tk } Q) E { s with heap := h, toks := tk })
    (done : ∀ (st : σ) (u : PySem.Str → Option Value) h tk, Facts st → P n st → Fr h₀ env.locals h (fun y => if y = x then u y else kstB (fun z => if stored.contains z then u z else m₀ z) (ps st) y) → News h₀ env.locals h (Led st) → Q .next { s with heap := h, toks := tk }) :
    wpAny (model prog w) A (pyIter (.ref r)) (fun it s₂ => LoopAtV prog w A h₀ env x body Q E it s₂) E s := by
  refine wpAny_pyIter_range hr hsmall ?_
  have W : Walks prog w A s.heap.objs.size [s.heap.objs.size] [s.heap.objs.size] n (fun i v => i < n ∧ ∃ t, v = .int (a₀ + i * c) t)
      (fun i h => IsRangeIter h s.heap.objs.size (a₀ + (i : Nat) * c) ((n : Int) - (i : Nat)) c) := (Walks.range hh _ a₀ c n).bound
  refine loop_invN (fun i m nx => KstS Led ps Facts x stored m₀ (fun _ => P i) [] m nx) W ?_ ?_ ?_ ?_ (by show IsRangeIter _ _ _ _ _; rw [hn]; simpa using Heap.get?_push_size _ rfl) (F.push _) (fun p hp => ⟨Heap.get?_push_of_some _ (N p hp).1, (N p hp).2⟩) ⟨c₀, rfl, hf, hk, fun _ _ _ _ => rfl, hp⟩ ?_ ?_
  · intro hm
    exact absurd F.ns.lt ((List.mem_singleton.mp hm) ▸ Nat.lt_irrefl _)
  · intro b hb
    rw [List.mem_singleton.mp hb]
    exact next_is_new F
  · intro p hp hI
    exact absurd (Heap.lt_size (N p hp).1) ((List.mem_singleton.mp hI) ▸ Nat.lt_irrefl _)
  · intro p hp hI
    exact absurd (Heap.lt_size (N p hp).1) ((List.mem_singleton.mp hI) ▸ Nat.lt_irrefl _)
  · rintro i v m₁ nx h tk own hi ⟨_, t, rfl⟩ _ hoff ⟨st, rfl, hf', h1, h2, hp'⟩ F₁ N₁
    exact turn st i t m₁ h tk own hi hoff hf' hp' (kst_fr h1 h2 F₁) N₁
  · rintro m₁ nx h tk ⟨st, rfl, hf', h1, h2, hp'⟩ F₁ N₁
    exact done st m₁ h tk hf' hp' (kst_frOut h1 h2 F₁) N₁
end

theorem CSpec.use {w : World} {f : Addr} {need : Nat} {vs : List Value} {news : List (Addr × Obj)} {post : Value → List (Addr × Obj) → Prop} (C : CSpec w f need vs news post)
    {mean : ExcName → Option Value} {mg mb : PySem.Str → Option Value} {dp un : Nat} {gd : Option (List Code)} {cn : PySem.Str} {cs : Scope} {a : Addr} {ccd : Value} {cl : List (PySem.Str × Addr)} {outer : List Env} {A₀ : Around} {base h₀ : Heap} {L : Addr} {m : PySem.Str → Option Value} {s : Shared} {Q E : Value → Shared → Prop}
    (B : Below A₀ base outer h₀) (F : Fr h₀ L s.heap m) (X : (hd.heap_39 w.params).In h₀) (N : News h₀ L s.heap news) (T : Top hd.view_39 (looseW hd.view_39 [PySem.Str.ofString "PostError"]) mean mg mb h₀) (hk : cs.kind = .function)
    (hd : dp + need < recursionLimit) (hu : un + 8 * need < cLine)
    (ret : ∀ r news' h' tk', Fr h₀ L h' m → News h₀ L h' news' → post r news' → Q r { s with heap := h', toks := tk' }) :
    wpAny (model PySem.Challenge.pw_or0022_01 w) (ktrTop dp un gd cn cs L a ccd cl outer) (call (.ref f) vs) Q E s :=
  C _ _ _ _ _ _ _ _ _ _ _ _ _ _ _ _ _ _ _ _ B F X N T hk hd hu ret
theorem CSpec.useR {w : World} {f : Addr} {need : Nat} {vs : List Value} {news : List (Addr × Obj)} {post : Value → List (Addr × Obj) → Prop}
    {mean : ExcName → Option Value} {mg mb : PySem.Str → Option Value} {dp un : Nat} {gd : Option (List Code)} {cn : PySem.Str} {cs : Scope} {a : Addr} {ccd : Value} {cl : List (PySem.Str × Addr)} {outer : List Env} {A₀ : Around} {base h₀ : Heap} {L : Addr} {m : PySem.Str → Option Value} {s : Shared} {Q E : Value → Shared → Prop}
    (B : Below A₀ base outer h₀) (F : Fr h₀ L s.heap m) (X : (hd.heap_39 w.params).In h₀) (N : News h₀ L s.heap news) (T : Top hd.view_39 (looseW hd.view_39 [PySem.Str.ofString "PostError"]) mean mg mb h₀) (hk : cs.kind = .function)
    (hd : dp + need < recursionLimit) (hu : un + 8 * need < cLine)
    (C : CSpec w f need vs news post)
    (ret : ∀ r news' h' tk', Fr h₀ L h' m → News h₀ L h' news' → post r news' → Q r { s with heap := h', toks := tk' }) :
    wpAny (model PySem.Challenge.pw_or0022_01 w) (ktrTop dp un gd cn cs L a ccd cl outer) (call (.ref f) vs) Q E s :=
  C.use B F X N T hk hd hu ret
noncomputable def encI (als : List Int) : List Int → List Int
  | [] => []
  | [x] => gcV als [x]
  | [x, y] => gcV als [x, y]
  | x :: y :: z :: r => gcV als [x, y, z] ++ encI als r
end Mine
end

-- part Cn
section
open PySem PySem.W PyProof.Rows PySem.Calls
set_option maxRecDepth 100000
namespace Mine
theorem offCn : True := by
  w_top off
  trivial
section
variable {prog : Program} {w : World} {A : Around} {E : Value → Shared → Prop} {s : Shared} {h₀ : Heap} {L D b : Addr} {m : PySem.Str → Option Value} {news news' : List (Addr × Obj)} {v1 v2 : List Value} {n n2 : Nat}
theorem extSym {Q : Value → Shared → Prop} (F : Fr h₀ L s.heap m) (N : News h₀ L s.heap news) (hb : (b, PySem.W.listOf (List.toArray v2) n2) ∈ news)
    (U : Upd D (PySem.W.listOf (List.toArray v1) n) (PySem.W.listOf (List.toArray (v1 ++ v2)) (n + 1)) news news') (hne : v2.length ≠ 0) (hz : v1.length + v2.length ≤ 100000)
    (h : ∀ h', Fr h₀ L h' m → News h₀ L h' news' → Q .none { s with heap := h' }) : wpAny (model prog w) A (call (.builtin "list.extend") [.ref D, .ref b]) Q E s := by
  refine kl_extend F N hb rfl hne U ?_ ?_ ?_ h
  · have : Builtin.List.listTooLong (v1.length + v2.length) = false := by
      unfold Builtin.List.listTooLong
      rw [sizeLine_eq]
      simp
      omega
    simp [this]
  · rw [sizeLine_eq]; show v1.length ≤ _; omega
  · rw [sizeLine_eq, List.size_toArray, List.size_toArray]; omega
end

theorem slice3 (ks : List Int) (i : Nat) : List.take (clipAt ks.length (0 + (i : Int) * 3 + 3) - clipAt ks.length (0 + (i : Int) * 3)) (List.drop (clipAt ks.length (0 + (i : Int) * 3)) ks) = (ks.drop (3 * i)).take 3 := by
  have e1 : (0 + (i : Int) * 3) = ((3 * i : Nat) : Int) := by omega
  have e2 : (0 + (i : Int) * 3 + 3) = ((3 * i + 3 : Nat) : Int) := by omega
  rw [e2, e1, clipAt_nat, clipAt_nat]
  apply List.ext_getElem?
  intro j
  simp only [List.getElem?_take, List.getElem?_drop]
  by_cases h : 3 * i ≤ ks.length
  · rw [Nat.min_eq_left h]
    by_cases hj : j < 3
    · rw [if_pos hj]
      by_cases h2 : j < min (3 * i + 3) ks.length - 3 * i
      · rw [if_pos h2]
      · rw [if_neg h2, List.getElem?_eq_none (by omega)]
    · rw [if_neg hj, if_neg (by omega)]
  · rw [if_neg (by omega)]
    by_cases hj : j < 3
    · rw [if_pos hj, List.getElem?_eq_none (by omega)]
    · rw [if_neg hj]
theorem encI_step (als : List Int) : ∀ (i : Nat) (ks : List Int), 3 * i < ks.length → encI als (ks.take (3 * (i + 1))) = encI als (ks.take (3 * i)) ++ gcV als ((ks.drop (3 * i)).take 3)
  | 0, ks, h => by
    match ks, h with
    | [x], _ => simp [encI]
    | [x, y], _ => simp [encI]
    | x :: y :: z :: r, _ => simp [encI]
  | i + 1, ks, h => by
    match ks, h with
    | [x], h => simp only [List.length_cons, List.length_nil] at h; omega
    | [x, y], h => simp only [List.length_cons, List.length_nil] at h; omega
    | x :: y :: z :: r, h =>
      have e1 : 3 * (i + 1 + 1) = 3 * (i + 1) + 3 := by omega
      have e2 : 3 * (i + 1) = 3 * i + 3 := by omega
      rw [e1]
      show encI als (x :: y :: z :: r.take (3 * (i + 1))) = _
      have e3 : (x :: y :: z :: r).take (3 * (i + 1)) = x :: y :: z :: r.take (3 * i) := by rw [e2]; rfl
      have e4 : (x :: y :: z :: r).drop (3 * (i + 1)) = r.drop (3 * i) := by rw [e2]; rfl
      rw [e3, e4]
      simp only [encI]
      rw [encI_step als i r (by simp at h; omega), List.append_assoc]
theorem gcI_length : ∀ ks : List Int, 1 ≤ ks.length → ks.length ≤ 3 → (gcI ks).length = ks.length + 1
  | [], h, _ => by simp at h
  | [_], _, _ => rfl
  | [_, _], _, _ => rfl
  | [_, _, _], _, _ => rfl
  | _ :: _ :: _ :: _ :: _, _, h => by simp at h
theorem gcV_length (als ks : List Int) (h1 : 1 ≤ ks.length) (h3 : ks.length ≤ 3) : (gcV als ks).length = ks.length + 1 := by rw [gcV, List.length_map, gcI_length ks h1 h3]
theorem t3_len1 {ks : List Int} {i : Nat} (h : 3 * i < ks.length) : 1 ≤ ((ks.drop (3 * i)).take 3).length := by simp only [List.length_take, List.length_drop]; omega
theorem t3_len3 {ks : List Int} {i : Nat} : ((ks.drop (3 * i)).take 3).length ≤ 3 := by simp only [List.length_take]; omega
theorem cls_size {als : List Int} {al : Array UInt8} (hal : KBw.bInts al = als) : ∀ k ∈ als, 0 ≤ k ∧ k < 256 := fun k hk => KBw.ints_in (hal ▸ hk)
theorem gcV_in {als : List Int} {al : Array UInt8} (hal : KBw.bInts al = als) (ks : List Int) : ∀ k ∈ gcV als ks, 0 ≤ k ∧ k < 256 := by
  intro k hk
  obtain ⟨j, _, rfl⟩ := List.mem_map.mp hk
  exact KBw.getD_in (cls_size hal)
theorem encI_in {als : List Int} {al : Array UInt8} (hal : KBw.bInts al = als) : ∀ ks : List Int, ∀ k ∈ encI als ks, 0 ≤ k ∧ k < 256
  | [], k, h => by simp [encI] at h
  | [x], k, h => gcV_in hal _ k h
  | [x, y], k, h => gcV_in hal _ k h
  | x :: y :: z :: r, k, h => by
    rcases List.mem_append.mp h with h | h
    · exact gcV_in hal _ k h
    · exact encI_in hal r k h
theorem rangeSize3 (n : Nat) : Builtin.Range.rangeSize 0 (n : Int) 3 = (((n + 2) / 3 : Nat) : Int) := by
  unfold Builtin.Range.rangeSize
  simp
  omega

theorem ext_l {vs : List Value} {als ks : List Int} {i : Nat} (h : IntsAre vs (gcV als ((ks.drop (3 * i)).take 3))) (hi : 3 * i < ks.length) : 1 ≤ vs.length ∧ vs.length ≤ 4 := by
  have hl := IntsAre.length h
  rw [gcV_length _ _ (t3_len1 hi) t3_len3] at hl
  have h1 := t3_len1 hi
  have h3 := @t3_len3 ks i
  omega

theorem kstHr {x : PySem.Str} {v : Value} {u m₀ : PySem.Str → Option Value} : ∀ z, z ≠ x → (∀ p ∈ ([] : List (PySem.Str × Value)), z ≠ p.1) → ([] : List PySem.Str).contains z = false → (fun y => if y = x then some v else kstB (fun z => if ([] : List PySem.Str).contains z then u z else m₀ z) [] y) z = m₀ z := by
  intro z h1 _ _
  show (if z = x then some v else _) = _
  rw [if_neg h1]
  rfl
section
variable {prog : Program} {w : World} {A : Around} {E : Value → Shared → Prop} {s : Shared} {h₀ : Heap} {L D b : Addr} {m : PySem.Str → Option Value} {news news' : List (Addr × Obj)}
theorem makeB {vs : List Value} {ns : List Int} {n : Nat} {Q : Value → Shared → Prop} (F : Fr h₀ L s.heap m) (N : News h₀ L s.heap news) (hh : A.handled = none) (hl : (D, PySem.W.listOf (List.toArray vs) n) ∈ news) (hi : IntsAre vs ns) (hr : ∀ k ∈ ns, 0 ≤ k ∧ k < 256) (hn : vs.length ≤ 100000)
    (h : ∀ h' t' k, Fr h₀ L h' m → News h₀ L h' news → KBw.bInts (byteArr ns) = ns → Q (.bytes (byteArr ns) t') { s with heap := h', toks := k }) : wpAny (model prog w) A (call (.type "bytes") [.ref D]) Q E s :=
  KBa.make_K F N hh ⟨_, (N _ hl).1, rfl, _, rfl⟩ hi hr (by have := hi.length; omega) fun h' t' k F' N' _ => h h' t' k F' N' (KBa.ints_make hr)
end
theorem small_range3 (n : Nat) (h : n ≤ 10) : Builtin.Range.small 0 (n : Int) 3 = true :=
  (show ∀ n : Nat, n < 11 → Builtin.Range.small 0 (n : Int) 3 = true by decide +kernel) n (Nat.lt_succ_of_le h)
theorem newsTail {h₀ h : Heap} {L : Addr} {p : Addr × Obj} {news : List (Addr × Obj)} (N : News h₀ L h (p :: news)) : News h₀ L h news := fun q hq => N q (.tail _ hq)

section
open PyProof.Rows.LCg
variable {prog : Program} {w : World} {A : Around} {h₀ : Heap} {L : Addr} {m : PySem.Str → Option Value} {env : Env} {elt : Expr} {x : PySem.Str} {scope : Scope} {cl : List (PySem.Str × Addr)} {s : Shared} {S : List (Addr × Obj) → Prop} {P : Nat → Value → Prop} {Fin : List Value → List (Addr × Obj) → Prop} {news : List (Addr × Obj)}
noncomputable def CompStop (prog : Program) (w : World) (A : Around) (h₀ : Heap) (L : Addr) (m : PySem.Str → Option Value) (env : Env) (elt : Expr) (x : PySem.Str) (scope : Scope) (cl : List (PySem.Str × Addr)) (s : Shared) (S : List (Addr × Obj) → Prop) (P : Nat → Value → Prop)
    (Fin : List Value → List (Addr × Obj) → Prop) (n : Nat) (news : List (Addr × Obj)) : Prop := CompRest prog w A h₀ L m env elt x scope cl s S P Fin n 0 [] news
theorem CompStop.of {n : Nat} (h : CompStop prog w A h₀ L m env elt x scope cl s S P Fin n news) : CompRest prog w A h₀ L m env elt x scope cl s S P Fin n 0 [] news := h
theorem compInv {n : Nat} (J : Nat → List Value → List (Addr × Obj) → Prop) (hJ : J 0 [] news)
    (turn : ∀ i v ys nw I oI C oC D m₂ h tk (E' : Value → Shared → Prop), i < n → P i v → J i ys nw → NsObj oC m₂ → m₂ x = some v → Fr h₀ L h m → News h₀ L h ((I, oI) :: (C, oC) :: (D, lst ys) :: nw) → Off3 I C D nw → ((@Ne Nat I C) ∧ (@Ne Nat I D) ∧ (@Ne Nat C D)) →
      wpAny (model prog w) A (eval elt (compEnvC scope cl C env)) (CompEnd h₀ L m { s with heap := h, toks := tk } I oI C oC D (lst ys) S (fun y nw' => J (i + 1) (ys ++ [y]) nw')) E' { s with heap := h, toks := tk })
    (fin : ∀ ys nw, J n ys nw → Fin ys nw) : CompStop prog w A h₀ L m env elt x scope cl s S P Fin n news := by
  have key : ∀ (j i : Nat) (ys : List Value) (nw : List (Addr × Obj)), i + j = n → J i ys nw → CompRest prog w A h₀ L m env elt x scope cl s S P Fin j i ys nw := by
    intro j
    induction j with
    | zero =>
      intro i ys nw hi hy
      have e : i = n := by omega
      subst e
      exact CompRest.zero (fin ys nw hy)
    | succ j ih =>
      intro i ys nw hi hy
      refine CompRest.succ ?_
      intro v I oI C oC D m₂ h tk E' hv hC hx F N off ne
      refine wpAny_mono (turn i v ys nw I oI C oC D m₂ h tk E' (by omega) hv hy hC hx F N off ne) (fun y s₂ hq => ?_) fun _ _ e => e
      obtain ⟨h', tk', nw', e, F', N', off', hS, hj⟩ := hq
      exact ⟨h', tk', nw', e, F', N', off', hS, ih (i + 1) _ _ (by omega) hj⟩
  exact key n 0 [] news (by omega) hJ
end
open PyProof.V in
noncomputable def tabD (als : List Int) : List (PyData × PyData) := als.zipIdx.map fun p => (PyData.int p.1, PyData.int (p.2 : Int))
open PyProof.V in
noncomputable def WorthObj (w : World) (d : Addr) (o : Obj) (als : List Int) : Prop := (d == sysModules) = false ∧ ∃ kvs, o.IsDictOf (PySem.intKind PySem.Challenge.pw_or0022_01 w) kvs ∧ FlatPairs PyData.int kvs (tabD als)
noncomputable def tupO (vs : List Value) (n : Nat) : Obj := { cls := .type "tuple", data := .seq (List.toArray vs) n }
/-- the pairs made so far: letter and place -/
noncomputable def PairsAt (als : List Int) (i : Nat) (ys : List Value) (nw : List (Addr × Obj)) : Prop :=
  ∃ kvs : List (Int × Value), kvs.length = i ∧ ys.length = i ∧ (∀ (j : Nat) (kv : Int × Value), kvs[j]? = some kv → ∃ a t n t', ys[j]? = some (Value.ref a) ∧ (a, tupO [.int kv.1 t, kv.2] n) ∈ nw ∧ kv.1 = als.getD j 0 ∧ kv.2 = .int (j : Int) t')
theorem PairsAt.nil {als : List Int} {nw : List (Addr × Obj)} : PairsAt als 0 [] nw := ⟨[], rfl, rfl, fun j kv h => by simp at h⟩
theorem PairsAt.snoc {als : List Int} {i : Nat} {ys : List Value} {nw : List (Addr × Obj)} {a : Addr} {n : Nat} {t t' : Tok} (x : PairsAt als i ys nw) : PairsAt als (i + 1) (ys ++ [.ref a]) ((a, tupO [.int (als.getD i 0) t, .int (i : Int) t'] n) :: nw) := by
  obtain ⟨kvs, h1, h2, h3⟩ := x
  refine ⟨kvs ++ [(als.getD i 0, .int (i : Int) t')], by simp [h1], by simp [h2], fun j kv hj => ?_⟩
  by_cases hlt : j < i
  · rw [List.getElem?_append_left (by omega)] at hj
    obtain ⟨a', u, n', u', e1, e2, e3⟩ := h3 j kv hj
    exact ⟨a', u, n', u', by rw [List.getElem?_append_left (by omega)]; exact e1, .tail _ e2, e3⟩
  · by_cases he : j = i
    · subst he
      rw [List.getElem?_append_right (by omega), h1] at hj
      simp at hj
      subst hj
      exact ⟨a, t, n, t', by rw [List.getElem?_append_right (by omega), h2]; simp, .head _, rfl, rfl⟩
    · rw [List.getElem?_eq_none (by simp; omega)] at hj
      cases hj

theorem PairsAt.in {als : List Int} {i : Nat} {ys : List Value} {nw : List (Addr × Obj)} (x : PairsAt als i ys nw) : ∃ kvs : List (Int × Value), kvs.length = i ∧ kvs.map (·.1) = (List.range i).map (fun j => als.getD j 0) ∧ (∀ (j : Nat) (kv : Int × Value), kvs[j]? = some kv → kv.1 = als.getD j 0 ∧ ∃ t', kv.2 = .int (j : Int) t') ∧
    ∀ h₀ L h, News h₀ L h nw → ys.toArray.size = kvs.length ∧ ∀ (j : Nat) (kv : Int × Value), kvs[j]? = some kv → ∃ (a : Addr) (o : Obj) (t : Tok) (n : Nat), ys.toArray[j]? = some (Value.ref a) ∧ h.get? a = some o ∧ o.cls = .type "tuple" ∧ o.data = .seq #[.int kv.1 t, kv.2] n ∧ (a, o) ∈ nw := by
  obtain ⟨kvs, h1, h2, h3⟩ := x
  refine ⟨kvs, h1, ?_, fun j kv hj => let ⟨_, _, _, t', _, _, e1, e2⟩ := h3 j kv hj; ⟨e1, t', e2⟩, fun h₀ L h N => ⟨by simp [h1, h2], fun j kv hj => ?_⟩⟩
  · apply List.ext_getElem?
    intro j
    simp only [List.getElem?_map]
    by_cases hj : j < i
    · have hk : kvs[j]? = some kvs[j] := by simp [h1, hj]
      obtain ⟨_, _, _, _, _, _, e1, _⟩ := h3 j _ hk
      rw [hk]
      simp [hj, e1]
    · rw [List.getElem?_eq_none (by omega), List.getElem?_eq_none (by simp; omega)]
      rfl
  · obtain ⟨a, t, n, t', e1, e2, _⟩ := h3 j kv hj
    exact ⟨a, _, t, n, by simpa using e1, (N _ e2).1, rfl, rfl, e2⟩
open PyProof.V in
theorem worthFlat {als : List Int} {kvs : List (Int × Value)} (h1 : kvs.length = als.length) (h2 : ∀ (j : Nat) (kv : Int × Value), kvs[j]? = some kv → kv.1 = als.getD j 0 ∧ ∃ t', kv.2 = .int (j : Int) t') : FlatPairs PyData.int kvs (tabD als) := by
  have key : ∀ (l : List Int) (k : List (Int × Value)) (o : Nat), k.length = l.length → (∀ (j : Nat) (kv : Int × Value), k[j]? = some kv → kv.1 = l.getD j 0 ∧ ∃ t', kv.2 = .int ((o + j : Nat) : Int) t') → FlatPairs PyData.int k ((l.zipIdx o).map fun p => (PyData.int p.1, PyData.int (p.2 : Int))) := by
    intro l
    induction l with
    | nil => intro k o hl _; have : k = [] := List.length_eq_zero_iff.mp hl; subst this; exact .nil
    | cons x r ih =>
      intro k o hl hk
      match k, hl with
      | (y, v) :: k', hl =>
        obtain ⟨e1, t', e2⟩ := hk 0 (y, v) rfl
        simp only at e1 e2
        subst e1 e2
        rw [List.zipIdx_cons, List.map_cons]
        refine .cons ?_ (ih k' (o + 1) (by simpa using hl) fun j kv hj => ?_)
        · exact Flat.int _ _
        · obtain ⟨a, t'', b⟩ := hk (j + 1) kv (by simpa using hj)
          refine ⟨by simpa using a, t'', ?_⟩
          rw [b, show o + (j + 1) = o + 1 + j by omega]
  exact key als kvs 0 h1 (by simpa using h2)
theorem range_getD (als : List Int) : (List.range als.length).map (fun j => als.getD j 0) = als := by
  apply List.ext_getElem?
  intro j
  simp only [List.getElem?_map]
  by_cases hj : j < als.length
  · simp [hj]
  · rw [List.getElem?_eq_none (by simp; omega), List.getElem?_eq_none (by omega)]; rfl
theorem and255 (x : Int) : 0 ≤ Builtin.bitAnd x 255 ∧ Builtin.bitAnd x 255 < 256 := by rw [bitAnd_m8]; omega
noncomputable def goT2 (a b : Int) : Int := 64 * (64 * 0 + a) + b
noncomputable def goT3 (a b c : Int) : Int := 64 * (64 * (64 * 0 + a) + b) + c
noncomputable def goT4 (a b c d : Int) : Int := 64 * (64 * (64 * (64 * 0 + a) + b) + c) + d
noncomputable def goB : List Int → List Int
  | [a, b] => [Builtin.bitAnd (((goT2 a b).fdiv (2 ^ 4)).fdiv (2 ^ 0)) 255]
  | [a, b, c] => [Builtin.bitAnd (((goT3 a b c).fdiv (2 ^ 2)).fdiv (2 ^ 8)) 255, Builtin.bitAnd (((goT3 a b c).fdiv (2 ^ 2)).fdiv (2 ^ 0)) 255]
  | [a, b, c, d] => [Builtin.bitAnd (((goT4 a b c d).fdiv (2 ^ 0)).fdiv (2 ^ 16)) 255, Builtin.bitAnd (((goT4 a b c d).fdiv (2 ^ 0)).fdiv (2 ^ 8)) 255, Builtin.bitAnd (((goT4 a b c d).fdiv (2 ^ 0)).fdiv (2 ^ 0)) 255]
  | _ => []
noncomputable def goL : List Int → Int
  | [a, b] => Builtin.bitAnd (goT2 a b) (1 * 2 ^ 4 - 1)
  | [a, b, c] => Builtin.bitAnd (goT3 a b c) (1 * 2 ^ 2 - 1)
  | [a, b, c, d] => Builtin.bitAnd (goT4 a b c d) (1 * 2 ^ 0 - 1)
  | _ => 0
noncomputable def goPost (ws : List Int) (news : List (Addr × Obj)) (r : Value) (news' : List (Addr × Obj)) : Prop :=
  ∃ T t t' n, r = .ref T ∧ news' = (T, tupO [.bytes (byteArr (goB ws)) t, .int (goL ws) t'] n) :: news ∧ ∀ p ∈ news, p.1 ≠ T
theorem go_mem {w : World} {l : Addr} {o : Obj} {ws : List Int} {vs : List Value} {news : List (Addr × Obj)} (hl : (l, o) ∈ news) (C : CSpec w 76 1 vs ((l, o) :: news) (goPost ws ((l, o) :: news))) : CSpec w 76 1 vs news (goPost ws news) := by
  unfold CSpec
  intro mean mg mb dp un gd cn cs a ccd cl outer A₀ base h₀ L m s Q E B F X N T hk hd hu hret
  refine C.use B F X (fun p hp => ?_) T hk hd hu ?_
  · rcases List.mem_cons.mp hp with rfl | hp
    · exact N _ hl
    · exact N _ hp
  · rintro r news' h' tk' F' N' ⟨T, t, t', n, rfl, rfl, off⟩
    exact hret _ _ _ _ F' (newsHead N' sub1) ⟨T, t, t', n, rfl, rfl, fun p hp => off p (.tail _ hp)⟩
theorem go_end {h₀ h : Heap} {L T : Addr} {m : PySem.Str → Option Value} {Q : Value → Shared → Prop} {s : Shared} {tk n : Nat} {rest news : List (Addr × Obj)} {ws gb : List Int} {gl : Int} {t t' : Tok}
    (hret : ∀ r news' h' tk', Fr h₀ L h' m → News h₀ L h' news' → goPost ws news r news' → Q r { s with heap := h', toks := tk' })
    (F : Fr h₀ L h m) (N : News h₀ L h ((T, tupO [.bytes (byteArr gb) t, .int gl t'] n) :: rest)) (o : AllLt T rest) (sub : ∀ q ∈ news, q ∈ rest) (e1 : gb = goB ws) (e2 : gl = goL ws) : Q (.ref T) { s with heap := h, toks := tk } :=
  hret _ _ _ _ F (newsHead N sub) ⟨T, t, t', n, rfl, by rw [e1, e2], fun p hp => Nat.ne_of_lt (ktn_ltOf o p (sub p hp))⟩

theorem lookup_tab : ∀ (als : List Int) (o j : Nat), als.Nodup → j < als.length → PySem.Spec.lookup (.int (als.getD j 0)) ((als.zipIdx o).map fun p => (PyData.int p.1, PyData.int (p.2 : Int))) = some (.int ((o + j : Nat) : Int))
  | [], _, _, _, h => by simp at h
  | x :: r, o, 0, _, _ => by simp [PySem.Spec.lookup, PySem.Spec.same]
  | x :: r, o, j + 1, hn, h => by
    have hj : j < r.length := by simpa using h
    have hne : x ≠ r.getD j 0 := by
      intro e
      have : r.getD j 0 ∈ r := by rw [List.getD_eq_getElem?_getD, List.getElem?_eq_getElem hj]; exact List.getElem_mem hj
      exact (List.nodup_cons.mp hn).1 (e ▸ this)
    have ih := lookup_tab r (o + 1) j (List.nodup_cons.mp hn).2 hj
    rw [List.zipIdx_cons, List.map_cons, List.getD_cons_succ]
    simp only [PySem.Spec.lookup, PySem.Spec.same]
    have hb : (x == r.getD j 0) = false := by simpa using hne
    have hb' : (r.getD j 0 == x) = false := by simpa using (Ne.symm hne)
    simp only [hb, hb', Bool.false_eq_true, if_false]
    rw [ih, show o + 1 + j = o + (j + 1) by omega]
section
variable {w : World} {A : Around} {E : Value → Shared → Prop} {s : Shared} {h₀ : Heap} {L d : Addr} {m : PySem.Str → Option Value} {news : List (Addr × Obj)} {o : Obj} {als : List Int} {j k : Int} {t : Tok}
theorem worthTab (N : News h₀ L s.heap news) (hm : (d, o) ∈ news) (W : WorthObj w d o als) : IntTab PySem.Challenge.pw_or0022_01 w s.heap d (tabD als) := by
  obtain ⟨lo, kvs, hd, hf⟩ := W
  exact TabAt.ofNews N hm lo hd hf
theorem worthLook (hn : als.Nodup) (h0 : 0 ≤ j) (h1 : j < (als.length : Int)) (e : k = als.getD j.toNat 0) : PySem.Spec.lookup (.int k) (tabD als) = some (.int j) := by
  have := lookup_tab als 0 j.toNat hn (by omega)
  rw [e, tabD, this]
  congr 2
  omega
theorem worthNotIn {Q : Value → Shared → Prop} (N : News h₀ L s.heap news) (hm : (d, o) ∈ news) (W : WorthObj w d o als) (hn : als.Nodup) (h0 : 0 ≤ j) (h1 : j < (als.length : Int)) (e : k = als.getD j.toNat 0)
    (h : Q (.bool false) { s with toks := s.toks + 1 }) : wpAny (model PySem.Challenge.pw_or0022_01 w) A (compareOp .NotIn (.int k t) (.ref d)) Q E s := by
  refine notin_intTab (worthTab N hm W) ?_
  rw [worthLook hn h0 h1 e]
  exact h
theorem worthItem {value slice : Expr} {Q : Value → Shared → Prop} (N : News h₀ L s.heap news) (hm : (d, o) ∈ news) (W : WorthObj w d o als) (hn : als.Nodup) (e : k = als.getD j.toNat 0) (h0 : 0 ≤ j) (h1 : j < (als.length : Int))
    (h : ∀ t', Q (.int j t') { s with toks := s.toks + 1 })
    (hs : subscripted slice false (.ref d) (.int k t) = operate [.ref d, .int k t] (getItem (.ref d) (.int k t)) := by with_unfolding_all rfl) (hg : ∀ r, letTemporaryGo value (.ref d) r = pure () := by intro _; with_unfolding_all rfl) :
    wpAny (model PySem.Challenge.pw_or0022_01 w) A (subscriptTail value slice (.ref d) (.int k t)) Q E s := by
  refine item_intTab (worthTab N hm W) (worthLook hn h0 h1 e) (fun v hv => ?_) hs hg
  obtain ⟨t', rfl⟩ := PyProof.V.Flat.int_inv hv
  exact h t'
end
/-- the letters at the places js -/
noncomputable def lets (als js : List Int) : List Int := js.map fun j => als.getD j.toNat 0
theorem lets_getD (als js : List Int) (i : Nat) (h : i < js.length) : (lets als js).getD i 0 = als.getD (js.getD i 0).toNat 0 := by
  rw [lets, List.getD_eq_getElem?_getD, List.getElem?_map, List.getElem?_eq_getElem h, List.getD_eq_getElem?_getD (l := js), List.getElem?_eq_getElem h]
  rfl
noncomputable def StopW (p : Prop) : Prop := p
theorem StopW.of {p : Prop} (h : StopW p) : p := h
theorem StopW.mk {p : Prop} (h : p) : StopW p := h
theorem small_range1 (n : Nat) (h : n ≤ 14) : Builtin.Range.small 0 (n : Int) 1 = true :=
  (show ∀ n : Nat, n < 15 → Builtin.Range.small 0 (n : Int) 1 = true by decide +kernel) n (Nat.lt_succ_of_le h)
theorem small_range4 (n : Nat) (h : n ≤ 14) : Builtin.Range.small 0 (n : Int) 4 = true :=
  (show ∀ n : Nat, n < 15 → Builtin.Range.small 0 (n : Int) 4 = true by decide +kernel) n (Nat.lt_succ_of_le h)
theorem rangeSize1 (n : Nat) : Builtin.Range.rangeSize 0 (n : Int) 1 = ((n : Nat) : Int) := by
  unfold Builtin.Range.rangeSize
  simp
  omega
theorem rangeSize4 (n : Nat) : Builtin.Range.rangeSize 0 (n : Int) 4 = (((n + 3) / 4 : Nat) : Int) := by
  unfold Builtin.Range.rangeSize
  simp
  omega
theorem getD_range {js : List Int} {n : Int} (hj : ∀ j ∈ js, 0 ≤ j ∧ j < n) {i : Nat} (h : i < js.length) : 0 ≤ js.getD i 0 ∧ js.getD i 0 < n := by
  rw [List.getD_eq_getElem?_getD, List.getElem?_eq_getElem h]
  exact hj _ (List.getElem_mem h)
theorem ltNe {news : List (Addr × Obj)} {a : Addr} (h : ∀ p ∈ news, p.1 < a) : ∀ p ∈ news, p.1 ≠ a := fun p hp => Nat.ne_of_lt (h p hp)
theorem ints_snoc {vs : List Value} {js : List Int} {i : Nat} {t : Tok} (h : IntsAre vs (js.take i)) (hi : i < js.length) : IntsAre (vs ++ [.int (js.getD i 0) t]) (js.take (i + 1)) := by
  rw [List.take_add_one, List.getElem?_eq_getElem hi, List.getD_eq_getElem?_getD, List.getElem?_eq_getElem hi]
  exact IntsAre.append h (.cons _ _ .nil)

theorem ints_take : ∀ {vs : List Value} {ns : List Int} (k : Nat), IntsAre vs ns → IntsAre (vs.take k) (ns.take k)
  | _, _, 0, _ => by simp only [List.take_zero]; exact .nil
  | _, _, _ + 1, .nil => .nil
  | _, _, k + 1, .cons n t r => .cons n t (ints_take k r)
theorem ints_drop : ∀ {vs : List Value} {ns : List Int} (k : Nat), IntsAre vs ns → IntsAre (vs.drop k) (ns.drop k)
  | _, _, 0, h => h
  | _, _, _ + 1, .nil => .nil
  | _, _, k + 1, .cons _ _ r => ints_drop k r
theorem pick4 (vs : List Value) (i : Nat) : (slicePick vs.toArray (some (0 + (i : Int) * 4)) (some (0 + (i : Int) * 4 + 4)) none).toList = (vs.drop (4 * i)).take 4 := by
  have e1 : (0 + (i : Int) * 4) = ((4 * i : Nat) : Int) := by omega
  have e2 : (0 + (i : Int) * 4 + 4) = ((4 * i + 4 : Nat) : Int) := by omega
  rw [e2, e1, slicePick_plain]
  simp only [Option.elim, clipAt_nat, List.size_toArray]
  apply List.ext_getElem?
  intro j
  simp only [List.getElem?_take, List.getElem?_drop]
  by_cases h : 4 * i ≤ vs.length
  · rw [Nat.min_eq_left h]
    by_cases hj : j < 4
    · rw [if_pos hj]
      by_cases h2 : j < min (4 * i + 4) vs.length - 4 * i
      · rw [if_pos h2]
      · rw [if_neg h2, List.getElem?_eq_none (by omega)]
    · rw [if_neg hj, if_neg (by omega)]
  · rw [if_neg (by omega)]
    by_cases hj : j < 4
    · rw [if_pos hj, List.getElem?_eq_none (by omega)]
    · rw [if_neg hj]
section
variable {prog : Program} {w : World} {A : Around} {E : Value → Shared → Prop} {s : Shared} {h₀ : Heap} {L l : Addr} {m : PySem.Str → Option Value} {news : List (Addr × Obj)} {value slice : Expr} {Q : Value → Shared → Prop} {vs : List Value} {js : List Int} {n : Nat}
theorem slice4 {i : Nat} {t u : Tok} (F : Fr h₀ L s.heap m) (N : News h₀ L s.heap news) (hl : (l, PySem.W.listOf (List.toArray vs) n) ∈ news) (hi : IntsAre vs js) (hz : vs.length ≤ 1000)
    (h : ∀ D ws h', Fr h₀ L h' m → News h₀ L h' ((D, PySem.W.listOf (List.toArray ws) 0) :: news) → (∀ p ∈ news, p.1 < D) → IntsAre ws ((js.drop (4 * i)).take 4) → ws.length = ((js.drop (4 * i)).take 4).length → Q (.ref D) { s with heap := h' })
    (hs : subscripted slice false (.ref l) (.ref s.heap.objs.size) = operate [.ref s.heap.objs.size, .ref l] (getItem (.ref l) (.ref s.heap.objs.size)) := by with_unfolding_all rfl) (ht : ∀ r, letTemporaryGo value (.ref l) r = pure () := by intro _; with_unfolding_all rfl) :
    wpAny (model prog w) A (subscriptTail value slice (.ref l) (.ref s.heap.objs.size)) Q E { s with heap := s.heap.push { cls := .type "slice", data := .fields #[.int (0 + (i : Int) * 4) t, .int (0 + (i : Int) * 4 + 4) u, .none] } } := by
  have hx : IntsAre ((vs.drop (4 * i)).take 4) ((js.drop (4 * i)).take 4) := ints_take 4 (ints_drop _ hi)
  refine kmk_slice_lit F N ⟨_, (N _ hl).1, rfl, _, rfl⟩ (IsPart.int _ _) (IsPart.int _ _) (pick4 vs i) (fun D h' F' N' lt => h D _ h' F' N' lt hx hx.length) hs ht (by rw [List.size_toArray, sizeLine_eq]; omega)
end
theorem chunk_len {os : List Int} {n : Nat} : ∀ k ∈ (List.range n).map (fun j => (os.drop (3 * j)).take 3), k.length ≤ 100 := by
  intro k hk
  obtain ⟨j, _, rfl⟩ := List.mem_map.mp hk
  simp only [List.length_take]
  omega
noncomputable def HidLe (a b : Nat) : Prop := a ≤ b
theorem HidLe.le {a b : Nat} (h : HidLe a b) : a ≤ b := h
theorem chunk_succ (os : List Int) (i : Nat) : (List.range (i + 1)).map (fun j => (os.drop (3 * j)).take 3) = (List.range i).map (fun j => (os.drop (3 * j)).take 3) ++ [(os.drop (3 * i)).take 3] := by
  rw [List.range_succ, List.map_append]; rfl
theorem kstHr3 {x a b c : PySem.Str} {va vb vc v : Option Value} {u m₀ : PySem.Str → Option Value} : ∀ z, z ≠ x → (∀ p ∈ ([] : List (PySem.Str × Value)), z ≠ p.1) → [a, b, c].contains z = false →
    (if z = c then vc else if z = b then vb else if z = a then va else if z = x then v else kstB (fun z => if [a, b, c].contains z then u z else m₀ z) [] z) = m₀ z := by
  intro z h1 _ h3
  have h3' := h3
  simp only [List.contains_cons, List.contains_nil, Bool.or_false, Bool.or_eq_false_iff, beq_eq_false_iff_ne] at h3'
  obtain ⟨ha, hb, hc⟩ := h3'
  rw [if_neg hc, if_neg hb, if_neg ha, if_neg h1]
  show (if [a, b, c].contains z = true then u z else m₀ z) = m₀ z
  rw [if_neg (by rw [h3]; exact Bool.false_ne_true)]
noncomputable def sgI : List Int := [65, 66, 67, 68, 69, 70, 71, 72, 73, 74, 75, 76, 77, 78, 79, 80, 81, 82, 83, 84, 85, 86, 87, 88, 89, 90, 97, 98, 99, 100, 101, 102, 103, 104, 105, 106, 107, 108, 109, 110, 111, 112, 113, 114, 115, 116, 117, 118, 119, 120, 121, 122, 48, 49, 50, 51, 52, 53, 54, 55, 56, 57, 43, 47]
/-- what a list of octets in range is -/
noncomputable def Oct (ks : List Int) : Prop := ∀ k ∈ ks, 0 ≤ k ∧ k < 256
noncomputable def cardPost (many : Int) (d c : Addr) (vs : List Value) (n1 n2 : Nat) (k : Int) (rest : List (Addr × Obj)) (r : Value) (news' : List (Addr × Obj)) : Prop :=
  ∃ v t t', 0 ≤ v ∧ v < many ∧ r = .int v t ∧ news' = (d, PySem.W.listOf (List.toArray [.ref c, .int (k + 1) t']) n1) :: (c, PySem.W.listOf (List.toArray vs) n2) :: rest
theorem CSpec.mono {w : World} {f : Addr} {need : Nat} {vs : List Value} {news : List (Addr × Obj)} {post post' : Value → List (Addr × Obj) → Prop} (C : CSpec w f need vs news post) (h : ∀ r nw, post r nw → post' r nw) : CSpec w f need vs news post' := by
  unfold CSpec at *
  intro mean mg mb dp un gd cn cs a ccd cl outer A₀ base h₀ L m s Q E B F X N T hk hd hu hret
  exact C _ _ _ _ _ _ _ _ _ _ _ _ _ _ _ _ _ _ _ _ B F X N T hk hd hu fun r nw h' tk' F' N' hp => hret r nw h' tk' F' N' (h r nw hp)
theorem upto50 (vs : List Value) : (slicePick vs.toArray none (some 50) none).toList = vs.take 50 := by
  have := slicePick_upto' vs.toArray 50
  rw [show ((50 : Nat) : Int) = 50 from rfl] at this
  rw [this]
theorem le_line50 {vs : List Value} {ns : List Int} (h : IntsAre vs ns) (hz : ns.length ≤ 63) : vs.toArray.size ≤ sizeLine := by
  have := h.length
  rw [List.size_toArray, sizeLine_eq]
  omega
theorem le_take50 (vs : List Value) : (vs.take 50).toArray.size ≤ sizeLine := by
  rw [List.size_toArray, sizeLine_eq, List.length_take]; omega
theorem ints_rep (n : Nat) (x : Int) (t : Tok) : IntsAre (List.replicate n [Value.int x t]).flatten (List.replicate n x) := by
  induction n with
  | zero => exact .nil
  | succ n ih => rw [List.replicate_succ, List.replicate_succ, List.flatten_cons]; exact .cons _ _ ih
theorem oct_rep (n : Nat) : ∀ k ∈ List.replicate n (61 : Int), 0 ≤ k ∧ k < 256 := by
  intro k hk
  rw [List.eq_of_mem_replicate hk]; decide
theorem rep_len (n : Nat) (x : Int) (t : Tok) : (List.replicate n [Value.int x t]).flatten.length = n := by
  induction n with
  | zero => rfl
  | succ n ih => rw [List.replicate_succ, List.flatten_cons, List.length_append, ih]; simp; omega
theorem fmod3 (n : Nat) : (Int.fmod (-(n : Int)) 3).toNat ≤ 2 := by
  rw [Int.fmod_eq_emod_of_nonneg _ (by decide)]
  omega
theorem take50_at {vs : List Value} {ns : List Int} (h : IntsAre vs ns) {i : Nat} {v : Value} (e : (vs.take 50).toArray[i]? = some v) : ∃ x t, v = .int x t := by
  have e' : (vs.take 50)[i]? = some v := by simpa using e
  obtain ⟨x, t, q, _⟩ := IntsAre.at (ints_take 50 h) i v e'
  exact ⟨x, t, q⟩
theorem encI_len (als : List Int) : ∀ ks : List Int, (encI als ks).length = (8 * ks.length + 5) / 6
  | [] => by simp [encI]
  | [_] => by simp [encI, gcV, gcI]
  | [_, _] => by simp [encI, gcV, gcI]
  | x :: y :: z :: r => by
    simp only [encI, List.length_append, encI_len als r, List.length_cons]
    rw [gcV_length _ _ (by simp) (by simp)]
    simp only [List.length_cons, List.length_nil]
    omega
theorem newsHead2 {h₀ h : Heap} {L : Addr} {p q : Addr × Obj} {rest news : List (Addr × Obj)} (N : News h₀ L h (p :: q :: rest)) (hs : ∀ q ∈ news, q ∈ rest) : News h₀ L h (p :: q :: news) := fun x hx => by
  rcases List.mem_cons.mp hx with rfl | hx
  · exact N _ (.head _)
  · rcases List.mem_cons.mp hx with rfl | hx
    · exact N _ (.tail _ (.head _))
    · exact N _ (.tail _ (.tail _ (hs _ hx)))
theorem news_sub {h₀ h : Heap} {L : Addr} {all news : List (Addr × Obj)} (N : News h₀ L h all) (hs : ∀ q ∈ news, q ∈ all) : News h₀ L h news := fun q hq => N q (hs q hq)
theorem bArr_of {b : Array UInt8} {ks : List Int} (h : KBw.bInts b = ks) : b = byteArr ks := by
  subst h
  unfold KBw.bInts byteArr
  rw [List.map_map]
  apply Array.toList_inj.mp
  show b.toList = _
  refine Eq.symm ((List.map_congr_left fun c _ => ?_).trans (List.map_id _))
  show (Int.toNat ((c.toNat : Nat) : Int)).toUInt8 = c
  rw [Int.toNat_natCast]
  exact UInt8.ofNat_toNat
theorem nn_len {b : Array UInt8} {ks : List Int} (h : (b.toList == []) = false) (hb : KBw.bInts b = ks) : 0 < ks.length := by
  subst hb
  rw [KBw.ints_length]
  rcases b with ⟨l⟩
  cases l with
  | nil => simp at h
  | cons => simp
theorem oct_of {b : Array UInt8} {ks : List Int} (h : KBw.bInts b = ks) : Oct ks := fun _ hk => KBw.ints_in (h ▸ hk)
theorem byteArr_inj {a b : List Int} (ha : Oct a) (hb : Oct b) (h : byteArr a = byteArr b) : a = b := by
  rw [← KBa.ints_make ha, ← KBa.ints_make hb, h]
theorem lenB {b : Array UInt8} {l : List Int} {n : Nat} (h : KBw.bInts b = l) (hl : l.length ≤ n) : (KBw.bInts b).length ≤ n := h ▸ hl
theorem clip_mono (n : Nat) (v : Int) (h : 0 ≤ v) : clipAt n v ≤ clipAt n (v + 1) := by
  have a := clipAt_cast n v
  have b := clipAt_cast n (v + 1)
  rw [if_neg (by omega)] at a b
  omega
theorem near4 {ks l1 : List Int} {v : Int} (h : 0 ≤ v) (h1 : l1.length = 1) : (List.take (clipAt ks.length v) ks ++ l1 ++ List.take (ks.length - clipAt ks.length (v + 1)) (List.drop (clipAt ks.length (v + 1)) ks)).length ≤ ks.length + 1 := by
  have a := clip_mono ks.length v h
  have b := clipAt_cast ks.length (v + 1)
  rw [if_neg (by omega)] at b
  simp only [List.length_append, List.length_take, List.length_drop, h1]
  omega
theorem CSpecH.use {w : World} {f : Addr} {need : Nat} {vs : List Value} {pre : Heap → Prop} {news : List (Addr × Obj)} {post : Value → List (Addr × Obj) → Prop} (C : CSpecH w f need vs pre news post)
    {mean : ExcName → Option Value} {mg mb : PySem.Str → Option Value} {dp un : Nat} {gd : Option (List Code)} {cn : PySem.Str} {cs : Scope} {a : Addr} {ccd : Value} {cl : List (PySem.Str × Addr)} {outer : List Env} {A₀ : Around} {base h₀ : Heap} {L : Addr} {m : PySem.Str → Option Value} {s : Shared} {Q E : Value → Shared → Prop}
    (hp : pre h₀) (B : Below A₀ base outer h₀) (F : Fr h₀ L s.heap m) (X : (hd.heap_39 w.params).In h₀) (N : News h₀ L s.heap news) (T : Top hd.view_39 (looseW hd.view_39 [PySem.Str.ofString "PostError"]) mean mg mb h₀) (hk : cs.kind = .function)
    (hd : dp + need < recursionLimit) (hu : un + 8 * need < cLine)
    (ret : ∀ r news' h' tk', Fr h₀ L h' m → News h₀ L h' news' → post r news' → Q r { s with heap := h', toks := tk' }) :
    wpAny (model PySem.Challenge.pw_or0022_01 w) (ktrTop dp un gd cn cs L a ccd cl outer) (call (.ref f) vs) Q E s :=
  C _ _ _ _ _ _ _ _ _ _ _ _ _ _ _ _ _ _ _ _ hp B F X N T hk hd hu ret
theorem tryQ {M : Model} {A : Around} {t : Sem Flow} {Q : Flow → Shared → Prop} {E : Value → Shared → Prop} {s : Shared} {h₀ : Heap} {L : Addr} {m : PySem.Str → Option Value} (_F : Fr h₀ L s.heap m)
    (h : ∀ h' tk' m', Fr h₀ L h' m' → Q (.ret (.bool true)) { s with heap := h', toks := tk' })
    (x : wpAny M A t (fun f s' => f = .ret (.bool true) ∧ ∃ h' tk' m', s' = { s with heap := h', toks := tk' } ∧ Fr h₀ L h' m') E s) : wpAny M A t Q E s :=
  wpAny_mono x (fun _ _ ⟨e, h', tk', m', e', F'⟩ => by subst e; subst e'; exact h h' tk' m' F') fun _ _ e => e
theorem off1_of {D : Addr} : ∀ {l : List (Addr × Obj)}, (∀ p ∈ l, p.1 ≠ D) → PyProof.Rows.LCg.Off1 D l
  | [], _ => trivial
  | p :: _, h => ⟨h p (.head _), off1_of fun q hq => h q (.tail _ hq)⟩
end Mine
end

-- part C1
section
open PySem PySem.W PyProof.Rows PySem.Calls
set_option maxRecDepth 100000
namespace Mine
theorem offC1 : True := by
  w_top off
  trivial
theorem fillC1 : (fun (_ : Params → Frag) (_ : OpenLaw) => True) hd.heap_39 PySem.Challenge.rw_or0022_01 := by k_fill; trivial
local macro_rules | `(tactic| k_all) => `(tactic| assumption)
local macro_rules | `(tactic| walk_at "setItem ref int") => `(tactic| (k_here; k_dflt (refine' setPair ?k1 ?k2 ?k3 ?_; (case k1 => k_asm); (case k2 => k_asm); (case k3 => k_upd)); intro h' F' N'; (try dsimp only at N'); (try dsimp only); (try k_sweep)))

noncomputable def cardC (cells : List Int) (at_ : Int) : Int := if at_ < cells.length then cells.getD at_.toNat 0 else 23 * at_ * at_ + 11 * at_ + 1

theorem cardA {cells : List Int} {k many : Int} (h : k < cells.length) (hm : 0 < many) : (cells.getD k.toNat 0).fmod many = cardC cells k % many := by
  rw [cardC, if_pos h, Int.fmod_eq_emod_of_nonneg _ (Int.le_of_lt hm)]
theorem cardB {cells : List Int} {k many : Int} (h : ¬ k < cells.length) (hm : 0 < many) : (23 * k * k + 11 * k + 1).fmod many = cardC cells k % many := by
  rw [cardC, if_neg h, Int.fmod_eq_emod_of_nonneg _ (Int.le_of_lt hm)]

set_option maxHeartbeats 4000000 in
theorem card_spec (w : World) (d c : Addr) (cells : List Int) (vs : List Value) (n1 n2 : Nat) (k many : Int) (tk tm : Tok) (rest : List (Addr × Obj)) (hrest : ∀ p ∈ rest, p.1 ≠ d)
    (hdc : @Ne Nat d c) (hI : IntsAre vs cells) (hlen : cells.length ≤ 50) (hk0 : 0 ≤ k) (hk : k ≤ 1000) (hm0 : 0 < many) (hm : many ≤ 1000) :
    CSpec w 116 1 [.ref d, .int many tm] ((d, PySem.W.listOf (List.toArray [.ref c, .int k tk]) n1) :: (c, PySem.W.listOf vs.toArray n2) :: rest)
      (fun r news' => (∃ t, r = .int (cardC cells k % many) t) ∧ ∃ t, news' = (d, PySem.W.listOf (List.toArray [.ref c, .int (k + 1) t]) n1) :: (c, PySem.W.listOf vs.toArray n2) :: rest) := by
  unfold CSpec
  intro mean mg mb dp un gd cn cs a ccd cl outer A₀ base h₀ L m s Q E B F X N T hk hd hu hret
  have hsz := hI.length
  refine wpAny_call ?_
  k_dflt ktr_enter
  (repeat' (first | (k_unfold; (try dsimp only)) |  (walk1; (try dsimp only)) | (dsimp only; walk1) | (leave1; walk_say "STEP leave1"; try dsimp only) | fail "no step"))
  · exact hret _ _ _ _ (by assumption) (by assumption) ⟨⟨_, congrArg (Value.int · _) (cardA (by assumption) hm0)⟩, ⟨_, rfl⟩⟩
  · exact hret _ _ _ _ (by assumption) (by assumption) ⟨⟨_, congrArg (Value.int · _) (cardB (by assumption) hm0)⟩, ⟨_, rfl⟩⟩
theorem card_use (w : World) (d c : Addr) (cells : List Int) (vs : List Value) (n1 n2 : Nat) (k many : Int) (tk tm : Tok) (rest : List (Addr × Obj)) (hrest : ∀ p ∈ rest, p.1 ≠ d)
    (hdc : @Ne Nat d c) (hI : IntsAre vs cells) (hlen : cells.length ≤ 50) (hk0 : 0 ≤ k) (hk : k ≤ 1000) (hm0 : 0 < many) (hm : many ≤ 1000) :
    CSpec w 116 1 [.ref d, .int many tm] ((d, PySem.W.listOf (List.toArray [.ref c, .int k tk]) n1) :: (c, PySem.W.listOf vs.toArray n2) :: rest) (cardPost many d c vs n1 n2 k rest) :=
  (card_spec w d c cells vs n1 n2 k many tk tm rest hrest hdc hI hlen hk0 hk hm0 hm).mono fun r nw ⟨⟨t, e1⟩, t', e2⟩ => ⟨_, t, t', Int.emod_nonneg _ (by omega), Int.emod_lt_of_pos _ hm0, e1, e2⟩
end Mine
end

section
open PySem PySem.W PyProof.Rows PySem.Calls
local macro_rules | `(tactic| k_all) => `(tactic| first | assumption | exact Mine.offOf (by assumption) (by (try dsimp only); omega) | exact Mine.offOf (ktn_ltOf (by assumption)) (Nat.le_refl _) | (refine List.forall_mem_append.mpr ⟨?_, ?_⟩ <;> k_all) | exact OwnOff.ne (by assumption) (by simp))
local macro_rules | `(tactic| walk_at "UnrEnd") => `(tactic| (refine UnrEnd.intro (by k_asm) (by assumption) _ (fun _ h => h) (by k_all) ?_))
local macro_rules | `(tactic| walk_at "CompEnd") => `(tactic| (refine LCg.CompEnd.intro (by assumption) (by assumption) _ (fun _ h => h) (by assumption) (by first | lcg_src | assumption) ?_))
local macro_rules | `(tactic| walk_at "eval Name") => `(tactic| (k_here; (with_reducible show wpAny _ _ (eval (Expr.Name _ _) (compEnvC _ _ _ _)) _ _ _); k_dflt (refine' kcf_cell ?kcN ?kcc ?kcm ?kcd ?_ rfl rfl (by decide); (case kcN => k_asm); (case kcc => exact rfl); (case kcm => k_mem); (case kcd => k_asm))))
local macro_rules | `(tactic| k_mem) => `(tactic| first | with_reducible assumption | (refine List.mem_cons_of_mem _ ?_; first | with_reducible assumption | (refine List.mem_cons_of_mem _ ?_; first | with_reducible assumption | (refine List.mem_cons_of_mem _ ?_; first | with_reducible assumption | (refine List.mem_cons_of_mem _ ?_; with_reducible assumption)))))

-- part C3a
section
open PySem PySem.W PyProof.Rows PySem.Calls
set_option maxRecDepth 100000
namespace Mine
theorem offC3a : True := by
  w_top off
  trivial
theorem fillC3a : (fun (_ : Params → Frag) (_ : OpenLaw) => True) hd.heap_39 PySem.Challenge.rw_or0022_01 := by k_fill; trivial
local macro_rules | `(tactic| walk_at "eval ListComp") => `(tactic| (k_here; k_dflt (refine ListComp_Dn (by k_asm) (by with_unfolding_all rfl) (by decide) (by rfl) (by decide) (by rfl) ?_)))

set_option maxHeartbeats 2000000 in
theorem gc_spec1 (w : World) (b al : Array UInt8) (x : Int) (als : List Int) (to ta : Tok)  (news : List (Addr × Obj)) (hb : KBw.bInts b = [x]) (hal : KBw.bInts al = als) (hals : als.length = 64) :
    CSpec w 71 1 [.bytes b to, .bytes al ta] news (gcPost als [x] news) := by
  unfold CSpec
  intro mean mg mb dp un gd cn cs a ccd cl outer A₀ base h₀ L m s Q E B F X N T hk hd hu hret
  refine wpAny_call ?_
  k_dflt (refine' code_defC ?k1 ?k2 ?k3 ?k4 ?k5 ?kA ?kF ?kK ?k6 ?k7 ?k8 ?k9 ?kB ?kD ?_ ?c2 ?c3 ?c4; (case kA => exact rfl); (case kF => exact rfl); (case kK => assumption); (case k1 => k_asm); (case k2 => k_asm); (case k3 => k_asm); (case k4 => k_asm); (case k5 => k_asm); (case k6 => k_is); (case k7 => k_is); (case k8 => ktr_room); (case k9 => exact BindsTo.of_eq rfl); (case kB => exact rfl); (case kD => decide +kernel); (case c2 => exact rfl); (case c3 => exact rfl); (case c4 => exact rfl); k_whole; intro g' L' h' tk' cells' FG' F' N' Y' B' X' T' l1; k_cells Y'; (try simp only [List.cons_append, List.nil_append] at N'); (try dsimp only); (try k_fold))
  (repeat' (first | (k_unfold; (try dsimp only)) | ((k_here; (with_reducible show wpAny _ _ (subscriptTail _ _ (Value.bytes _ _) (Value.int (Builtin.bitAnd _ _) _)) _ _ _); refine item64 (by assumption) (by assumption) ?_; intro _ _); (try dsimp only)) | ((k_here; (with_reducible show SrcDn _ _ _ _ _ _ _ _ _ _ _ _ _ _); k_dflt (refine SrcDn.mk (n := 2) (by rfl) (by k_asm) (by k_asm) (by assumption) (by show Builtin.Range.small (1 : Int) (-1) (-1) = true; decide +kernel) (by show Builtin.Range.rangeSize (1 : Int) (-1) (-1) = _; decide +kernel) (by first | size_fits | exact Nat.le_of_ble_eq_true rfl) ?_; intro _)); (try dsimp only)) |  (walk1; (try dsimp only)) | (dsimp only; walk1) | (leave1; walk_say "STEP leave1"; try dsimp only) | fail "no step"))
  all_goals first
    | (exfalso; simp only [List.length_cons, List.length_nil] at *; omega)
    | skip
  rename_i o1' _ _ _ _
  exact gc_end hret (by assumption) (by assumption) o1'.2.2 (.cons _ _ (.cons _ _ .nil)) rfl
end Mine
end

-- part C3b
section
open PySem PySem.W PyProof.Rows PySem.Calls
set_option maxRecDepth 100000
local macro_rules | `(tactic| walk_at "no such key") => `(tactic| skip)
namespace Mine
theorem offC3b : True := by
  w_top off
  trivial
theorem fillC3b : (fun (_ : Params → Frag) (_ : OpenLaw) => True) hd.heap_39 PySem.Challenge.rw_or0022_01 := by k_fill; trivial
local macro_rules | `(tactic| walk_at "eval ListComp") => `(tactic| (k_here; k_dflt (refine ListComp_Dn (by k_asm) (by with_unfolding_all rfl) (by decide) (by rfl) (by decide) (by rfl) ?_)))

set_option maxHeartbeats 2000000 in
theorem gc_spec2 (w : World) (b al : Array UInt8) (x y : Int) (als : List Int) (to ta : Tok)  (news : List (Addr × Obj)) (hb : KBw.bInts b = [x, y]) (hal : KBw.bInts al = als) (hals : als.length = 64) :
    CSpec w 71 1 [.bytes b to, .bytes al ta] news (gcPost als [x, y] news) := by
  unfold CSpec
  intro mean mg mb dp un gd cn cs a ccd cl outer A₀ base h₀ L m s Q E B F X N T hk hd hu hret
  refine wpAny_call ?_
  k_dflt (refine' code_defC ?k1 ?k2 ?k3 ?k4 ?k5 ?kA ?kF ?kK ?k6 ?k7 ?k8 ?k9 ?kB ?kD ?_ ?c2 ?c3 ?c4; (case kA => exact rfl); (case kF => exact rfl); (case kK => assumption); (case k1 => k_asm); (case k2 => k_asm); (case k3 => k_asm); (case k4 => k_asm); (case k5 => k_asm); (case k6 => k_is); (case k7 => k_is); (case k8 => ktr_room); (case k9 => exact BindsTo.of_eq rfl); (case kB => exact rfl); (case kD => decide +kernel); (case c2 => exact rfl); (case c3 => exact rfl); (case c4 => exact rfl); k_whole; intro g' L' h' tk' cells' FG' F' N' Y' B' X' T' l1; k_cells Y'; (try simp only [List.cons_append, List.nil_append] at N'); (try dsimp only); (try k_fold))
  (repeat' (first | (k_unfold; (try dsimp only)) | ((k_here; (with_reducible show wpAny _ _ (subscriptTail _ _ (Value.bytes _ _) (Value.int (Builtin.bitAnd _ _) _)) _ _ _); refine item64 (by assumption) (by assumption) ?_; intro _ _); (try dsimp only)) | ((k_here; (with_reducible show SrcDn _ _ _ _ _ _ _ _ _ _ _ _ _ _); k_dflt (refine SrcDn.mk (n := 3) (by rfl) (by k_asm) (by k_asm) (by assumption) (by show Builtin.Range.small (2 : Int) (-1) (-1) = true; decide +kernel) (by show Builtin.Range.rangeSize (2 : Int) (-1) (-1) = _; decide +kernel) (by first | size_fits | exact Nat.le_of_ble_eq_true rfl) ?_; intro _)); (try dsimp only)) |  (walk1; (try dsimp only)) | (dsimp only; walk1) | (leave1; walk_say "STEP leave1"; try dsimp only) | fail "no step"))
  all_goals first
    | (exfalso; simp only [List.length_cons, List.length_nil] at *; omega)
    | skip
  rename_i o1' _ _ _ _
  exact gc_end hret (by assumption) (by assumption) o1'.2.2 (.cons _ _ (.cons _ _ (.cons _ _ .nil))) rfl
end Mine
end

-- part C3c
section
open PySem PySem.W PyProof.Rows PySem.Calls
set_option maxRecDepth 100000
namespace Mine
theorem offC3c : True := by
  w_top off
  trivial
theorem fillC3c : (fun (_ : Params → Frag) (_ : OpenLaw) => True) hd.heap_39 PySem.Challenge.rw_or0022_01 := by k_fill; trivial
local macro_rules | `(tactic| walk_at "eval ListComp") => `(tactic| (k_here; k_dflt (refine ListComp_Dn (by k_asm) (by with_unfolding_all rfl) (by decide) (by rfl) (by decide) (by rfl) ?_)))

set_option maxHeartbeats 2000000 in
theorem gc_spec3 (w : World) (b al : Array UInt8) (x y z : Int) (als : List Int) (to ta : Tok)  (news : List (Addr × Obj)) (hb : KBw.bInts b = [x, y, z]) (hal : KBw.bInts al = als) (hals : als.length = 64) :
    CSpec w 71 1 [.bytes b to, .bytes al ta] news (gcPost als [x, y, z] news) := by
  unfold CSpec
  intro mean mg mb dp un gd cn cs a ccd cl outer A₀ base h₀ L m s Q E B F X N T hk hd hu hret
  refine wpAny_call ?_
  k_dflt (refine' code_defC ?k1 ?k2 ?k3 ?k4 ?k5 ?kA ?kF ?kK ?k6 ?k7 ?k8 ?k9 ?kB ?kD ?_ ?c2 ?c3 ?c4; (case kA => exact rfl); (case kF => exact rfl); (case kK => assumption); (case k1 => k_asm); (case k2 => k_asm); (case k3 => k_asm); (case k4 => k_asm); (case k5 => k_asm); (case k6 => k_is); (case k7 => k_is); (case k8 => ktr_room); (case k9 => exact BindsTo.of_eq rfl); (case kB => exact rfl); (case kD => decide +kernel); (case c2 => exact rfl); (case c3 => exact rfl); (case c4 => exact rfl); k_whole; intro g' L' h' tk' cells' FG' F' N' Y' B' X' T' l1; k_cells Y'; (try simp only [List.cons_append, List.nil_append] at N'); (try dsimp only); (try k_fold))
  (repeat' (first | (k_unfold; (try dsimp only)) | ((k_here; (with_reducible show wpAny _ _ (subscriptTail _ _ (Value.bytes _ _) (Value.int (Builtin.bitAnd _ _) _)) _ _ _); refine item64 (by assumption) (by assumption) ?_; intro _ _); (try dsimp only)) | ((k_here; (with_reducible show SrcDn _ _ _ _ _ _ _ _ _ _ _ _ _ _); k_dflt (refine SrcDn.mk (n := 4) (by rfl) (by k_asm) (by k_asm) (by assumption) (by show Builtin.Range.small (3 : Int) (-1) (-1) = true; decide +kernel) (by show Builtin.Range.rangeSize (3 : Int) (-1) (-1) = _; decide +kernel) (by first | size_fits | exact Nat.le_of_ble_eq_true rfl) ?_; intro _)); (try dsimp only)) |  (walk1; (try dsimp only)) | (dsimp only; walk1) | (leave1; walk_say "STEP leave1"; try dsimp only) | fail "no step"))
  all_goals first
    | (exfalso; simp only [List.length_cons, List.length_nil] at *; omega)
    | skip
  rename_i o1' _ _ _ _
  exact gc_end hret (by assumption) (by assumption) o1'.2.2 (.cons _ _ (.cons _ _ (.cons _ _ (.cons _ _ .nil)))) rfl
end Mine
end

-- part C3
section
open PySem PySem.W PyProof.Rows PySem.Calls
namespace Mine
theorem offC3 : True := by
  w_top off
  trivial
theorem gc_all (w : World) (b al : Array UInt8) (ks als : List Int) (to ta : Tok)  (news : List (Addr × Obj)) (hb : KBw.bInts b = ks) (h1 : 1 ≤ ks.length) (h3 : ks.length ≤ 3) (hal : KBw.bInts al = als) (hals : als.length = 64) :
    CSpec w 71 1 [.bytes b to, .bytes al ta] news (gcPost als ks news) := by
  match ks, h1, h3 with
  | [x], _, _ => exact gc_spec1 w b al x als to ta news hb hal hals
  | [x, y], _, _ => exact gc_spec2 w b al x y als to ta news hb hal hals
  | [x, y, z], _, _ => exact gc_spec3 w b al x y z als to ta news hb hal hals
  | _ :: _ :: _ :: _ :: _, _, h => simp at h
end Mine
end

-- part C5a
section
open PySem PySem.W PyProof.Rows PySem.Calls
set_option maxRecDepth 100000
local macro_rules | `(tactic| walk_at "no such key") => `(tactic| skip)
namespace Mine
theorem offC5a : True := by
  w_top off
  trivial
theorem fillC5a : (fun (_ : Params → Frag) (_ : OpenLaw) => True) hd.heap_39 PySem.Challenge.rw_or0022_01 := by k_fill; trivial
local macro_rules | `(tactic| walk_at "eval ListComp") => `(tactic| (k_here; k_dflt (refine ListComp_Dn (by k_asm) (by with_unfolding_all rfl) (by decide) (by rfl) (by decide) (by rfl) ?_)))

set_option maxHeartbeats 2000000 in
theorem go_spec2 (w : World) (l : Addr) (x y : Int) (tx ty : Tok) (n : Nat) (news : List (Addr × Obj)) :
    CSpec w 76 1 [.ref l] ((l, PySem.W.listOf (List.toArray [.int x tx, .int y ty]) n) :: news) (goPost [x, y] ((l, PySem.W.listOf (List.toArray [.int x tx, .int y ty]) n) :: news)) := by
  unfold CSpec
  intro mean mg mb dp un gd cn cs a ccd cl outer A₀ base h₀ L m s Q E B F X N T hk hd hu hret
  refine wpAny_call ?_
  k_dflt (refine' code_defC ?k1 ?k2 ?k3 ?k4 ?k5 ?kA ?kF ?kK ?k6 ?k7 ?k8 ?k9 ?kB ?kD ?_ ?c2 ?c3 ?c4; (case kA => exact rfl); (case kF => exact rfl); (case kK => assumption); (case k1 => k_asm); (case k2 => k_asm); (case k3 => k_asm); (case k4 => k_asm); (case k5 => k_asm); (case k6 => k_is); (case k7 => k_is); (case k8 => ktr_room); (case k9 => exact BindsTo.of_eq rfl); (case kB => exact rfl); (case kD => decide +kernel); (case c2 => exact rfl); (case c3 => exact rfl); (case c4 => exact rfl); k_whole; intro g' L' h' tk' cells' FG' F' N' Y' B' X' T' l1; k_cells Y'; (try simp only [List.cons_append, List.nil_append] at N'); (try dsimp only); (try k_fold))
  (repeat' (first | (k_unfold; (try dsimp only)) | ((k_here; (with_reducible show wpAny _ _ (call (Value.type "bytes") [Value.ref _]) _ _ _); k_dflt (refine' makeB (by k_asm) (by k_asm) rfl (by exact List.mem_cons_self ..) (by exact (.cons _ _ .nil)) (by exact (List.forall_mem_cons.mpr ⟨and255 _, (List.forall_mem_nil _)⟩)) (by exact Nat.le_of_ble_eq_true rfl) ?_); intro _ _ _ _ zzN' _; (try dsimp only at zzN'); (try dsimp only)); (try dsimp only)) | ((k_here; (with_reducible show SrcDn _ _ _ _ _ _ _ _ _ _ _ _ _ _); k_dflt (refine SrcDn.mk (n := 1) (by rfl) (by k_asm) (by k_asm) (by assumption) (by show Builtin.Range.small (0 : Int) (-1) (-1) = true; decide +kernel) (by show Builtin.Range.rangeSize (0 : Int) (-1) (-1) = _; decide +kernel) (by first | size_fits | exact Nat.le_of_ble_eq_true rfl) ?_; intro _)); (try dsimp only)) |  (walk1; (try dsimp only)) | (dsimp only; walk1) | (leave1; walk_say "STEP leave1"; try dsimp only) | fail "no step"))
  exact go_end hret (by assumption) (by assumption) (by assumption) (by kcf_all) rfl rfl
end Mine
end

-- part C5b
section
open PySem PySem.W PyProof.Rows PySem.Calls
set_option maxRecDepth 100000
namespace Mine
theorem offC5b : True := by
  w_top off
  trivial
theorem fillC5b : (fun (_ : Params → Frag) (_ : OpenLaw) => True) hd.heap_39 PySem.Challenge.rw_or0022_01 := by k_fill; trivial
local macro_rules | `(tactic| walk_at "eval ListComp") => `(tactic| (k_here; k_dflt (refine ListComp_Dn (by k_asm) (by with_unfolding_all rfl) (by decide) (by rfl) (by decide) (by rfl) ?_)))

set_option maxHeartbeats 2000000 in
theorem go_spec3 (w : World) (l : Addr) (x y z : Int) (tx ty tz : Tok) (n : Nat) (news : List (Addr × Obj)) :
    CSpec w 76 1 [.ref l] ((l, PySem.W.listOf (List.toArray [.int x tx, .int y ty, .int z tz]) n) :: news) (goPost [x, y, z] ((l, PySem.W.listOf (List.toArray [.int x tx, .int y ty, .int z tz]) n) :: news)) := by
  unfold CSpec
  intro mean mg mb dp un gd cn cs a ccd cl outer A₀ base h₀ L m s Q E B F X N T hk hd hu hret
  refine wpAny_call ?_
  k_dflt (refine' code_defC ?k1 ?k2 ?k3 ?k4 ?k5 ?kA ?kF ?kK ?k6 ?k7 ?k8 ?k9 ?kB ?kD ?_ ?c2 ?c3 ?c4; (case kA => exact rfl); (case kF => exact rfl); (case kK => assumption); (case k1 => k_asm); (case k2 => k_asm); (case k3 => k_asm); (case k4 => k_asm); (case k5 => k_asm); (case k6 => k_is); (case k7 => k_is); (case k8 => ktr_room); (case k9 => exact BindsTo.of_eq rfl); (case kB => exact rfl); (case kD => decide +kernel); (case c2 => exact rfl); (case c3 => exact rfl); (case c4 => exact rfl); k_whole; intro g' L' h' tk' cells' FG' F' N' Y' B' X' T' l1; k_cells Y'; (try simp only [List.cons_append, List.nil_append] at N'); (try dsimp only); (try k_fold))
  (repeat' (first | (k_unfold; (try dsimp only)) | ((k_here; (with_reducible show wpAny _ _ (call (Value.type "bytes") [Value.ref _]) _ _ _); k_dflt (refine' makeB (by k_asm) (by k_asm) rfl (by exact List.mem_cons_self ..) (by exact (.cons _ _ (.cons _ _ .nil))) (by exact (List.forall_mem_cons.mpr ⟨and255 _, (List.forall_mem_cons.mpr ⟨and255 _, (List.forall_mem_nil _)⟩)⟩)) (by exact Nat.le_of_ble_eq_true rfl) ?_); intro _ _ _ _ zzN' _; (try dsimp only at zzN'); (try dsimp only)); (try dsimp only)) | ((k_here; (with_reducible show SrcDn _ _ _ _ _ _ _ _ _ _ _ _ _ _); k_dflt (refine SrcDn.mk (n := 2) (by rfl) (by k_asm) (by k_asm) (by assumption) (by show Builtin.Range.small (1 : Int) (-1) (-1) = true; decide +kernel) (by show Builtin.Range.rangeSize (1 : Int) (-1) (-1) = _; decide +kernel) (by first | size_fits | exact Nat.le_of_ble_eq_true rfl) ?_; intro _)); (try dsimp only)) |  (walk1; (try dsimp only)) | (dsimp only; walk1) | (leave1; walk_say "STEP leave1"; try dsimp only) | fail "no step"))
  exact go_end hret (by assumption) (by assumption) (by assumption) (by kcf_all) rfl rfl
end Mine
end

-- part C5c
section
open PySem PySem.W PyProof.Rows PySem.Calls
set_option maxRecDepth 100000
local macro_rules | `(tactic| walk_at "no such key") => `(tactic| skip)
namespace Mine
theorem offC5c : True := by
  w_top off
  trivial
theorem fillC5c : (fun (_ : Params → Frag) (_ : OpenLaw) => True) hd.heap_39 PySem.Challenge.rw_or0022_01 := by k_fill; trivial
local macro_rules | `(tactic| walk_at "eval ListComp") => `(tactic| (k_here; k_dflt (refine ListComp_Dn (by k_asm) (by with_unfolding_all rfl) (by decide) (by rfl) (by decide) (by rfl) ?_)))

set_option maxHeartbeats 2000000 in
theorem go_spec4 (w : World) (l : Addr) (x y z u : Int) (tx ty tz tu : Tok) (n : Nat) (news : List (Addr × Obj)) :
    CSpec w 76 1 [.ref l] ((l, PySem.W.listOf (List.toArray [.int x tx, .int y ty, .int z tz, .int u tu]) n) :: news) (goPost [x, y, z, u] ((l, PySem.W.listOf (List.toArray [.int x tx, .int y ty, .int z tz, .int u tu]) n) :: news)) := by
  unfold CSpec
  intro mean mg mb dp un gd cn cs a ccd cl outer A₀ base h₀ L m s Q E B F X N T hk hd hu hret
  refine wpAny_call ?_
  k_dflt (refine' code_defC ?k1 ?k2 ?k3 ?k4 ?k5 ?kA ?kF ?kK ?k6 ?k7 ?k8 ?k9 ?kB ?kD ?_ ?c2 ?c3 ?c4; (case kA => exact rfl); (case kF => exact rfl); (case kK => assumption); (case k1 => k_asm); (case k2 => k_asm); (case k3 => k_asm); (case k4 => k_asm); (case k5 => k_asm); (case k6 => k_is); (case k7 => k_is); (case k8 => ktr_room); (case k9 => exact BindsTo.of_eq rfl); (case kB => exact rfl); (case kD => decide +kernel); (case c2 => exact rfl); (case c3 => exact rfl); (case c4 => exact rfl); k_whole; intro g' L' h' tk' cells' FG' F' N' Y' B' X' T' l1; k_cells Y'; (try simp only [List.cons_append, List.nil_append] at N'); (try dsimp only); (try k_fold))
  (repeat' (first | (k_unfold; (try dsimp only)) | ((k_here; (with_reducible show wpAny _ _ (call (Value.type "bytes") [Value.ref _]) _ _ _); k_dflt (refine' makeB (by k_asm) (by k_asm) rfl (by exact List.mem_cons_self ..) (by exact (.cons _ _ (.cons _ _ (.cons _ _ .nil)))) (by exact (List.forall_mem_cons.mpr ⟨and255 _, (List.forall_mem_cons.mpr ⟨and255 _, (List.forall_mem_cons.mpr ⟨and255 _, (List.forall_mem_nil _)⟩)⟩)⟩)) (by exact Nat.le_of_ble_eq_true rfl) ?_); intro _ _ _ _ zzN' _; (try dsimp only at zzN'); (try dsimp only)); (try dsimp only)) | ((k_here; (with_reducible show SrcDn _ _ _ _ _ _ _ _ _ _ _ _ _ _); k_dflt (refine SrcDn.mk (n := 3) (by rfl) (by k_asm) (by k_asm) (by assumption) (by show Builtin.Range.small (2 : Int) (-1) (-1) = true; decide +kernel) (by show Builtin.Range.rangeSize (2 : Int) (-1) (-1) = _; decide +kernel) (by first | size_fits | exact Nat.le_of_ble_eq_true rfl) ?_; intro _)); (try dsimp only)) |  (walk1; (try dsimp only)) | (dsimp only; walk1) | (leave1; walk_say "STEP leave1"; try dsimp only) | fail "no step"))
  exact go_end hret (by assumption) (by assumption) (by assumption) (by kcf_all) rfl rfl
end Mine
end

-- part C5
section
open PySem PySem.W PyProof.Rows PySem.Calls
namespace Mine
theorem offC5 : True := by
  w_top off
  trivial
theorem ia_cons {vals : List Value} {a : Int} {ws : List Int} (h : IntsAre vals (a :: ws)) : ∃ t vs, vals = .int a t :: vs ∧ IntsAre vs ws := by
  cases h with
  | cons _ t h => exact ⟨t, _, rfl, h⟩
theorem ia_nil {vals : List Value} (h : IntsAre vals []) : vals = [] := by cases h; rfl
theorem go_all (w : World) (l : Addr) (vals : List Value) (ws : List Int) (n : Nat) (news : List (Addr × Obj)) (hl : (l, PySem.W.listOf (List.toArray vals) n) ∈ news) (hi : IntsAre vals ws) (h1 : 2 ≤ ws.length) (h3 : ws.length ≤ 4) :
    CSpec w 76 1 [.ref l] news (goPost ws news) := by
  rcases ws with _ | ⟨a, _ | ⟨b, ws⟩⟩
  · simp at h1
  · simp at h1
  obtain ⟨ta, v1, rfl, hj⟩ := ia_cons hi
  obtain ⟨tb, v2, rfl, hk⟩ := ia_cons hj
  rcases ws with _ | ⟨c, ws⟩
  · cases ia_nil hk
    exact go_mem hl (go_spec2 w l _ _ _ _ n news)
  obtain ⟨tc, v3, rfl, hm⟩ := ia_cons hk
  rcases ws with _ | ⟨d, ws⟩
  · cases ia_nil hm
    exact go_mem hl (go_spec3 w l _ _ _ _ _ _ n news)
  obtain ⟨td, v4, rfl, hp⟩ := ia_cons hm
  rcases ws with _ | ⟨e, ws⟩
  · cases ia_nil hp
    exact go_mem hl (go_spec4 w l _ _ _ _ _ _ _ _ n news)
  · exact absurd h3 (Nat.not_le_of_gt (Nat.le_add_left 5 ws.length))
end Mine
end

-- part By
section
open PySem PySem.W PyProof.Rows PySem.Calls
set_option maxRecDepth 100000
namespace Mine
theorem offBy : True := by
  w_top off
  trivial
open PySem.Builtin in
section
theorem slotLt : Slot "bytes" (cmpInfo .Lt).2.1 "bytes.__lt__" :=
  .of (owner := "bytes") (n := "__lt__") (by rw [typeLookup_type, builtinLookup_eq_fast]; kernel_rfl) (by decide +kernel) (by decide +kernel) (by decide +kernel)
    (by first | exact .inl (by decide +kernel) | exact .inr (by decide +kernel)) (by rw [isSubtype_type]; kernel_rfl)
theorem entryLt : entryFor table "bytes.__lt__" = some Builtin.«bytes.__lt__» := entryFor_of_tree (by kernel_rfl)
theorem argsLt (a b : Value) : argsOk "bytes.__lt__" ⟨[a, b], []⟩ := by
  unfold argsOk; rw [signature?_of (id := "bytes.__lt__") (n := ['_', '_', 't', 'l', '_', '_']) (o := ['s', 'e', 't', 'y', 'b']) (by kernel_rfl) FB.owner_bytes]; kernel_rfl
noncomputable def bLt (b c : Array UInt8) : Bool := Builtin.Bytes.order b.toList c.toList == .lt
theorem givesLt (b c : Array UInt8) (t u : Tok) : Gives (Builtin.«bytes.__lt__» ⟨[.bytes b t, .bytes c u], []⟩) (.val (.bool (bLt b c))) := by
  refine .of_wp fun M A E s Q hq => ?_
  show wpAny M A (isInstance (.bytes c u) (.type "bytes") >>= fun r => _) _ E s
  refine wpAny_bind (wpAny_isInstance (typeIs_bytes s c u) F.sub_bytes_bytes ?_)
  exact wpAny_pure ⟨_, rfl, hq⟩
variable {prog : Program} {w : World} {A : Around} {E : Value → Shared → Prop} {s : Shared} {b c : Array UInt8} {t u : Tok}
theorem ltBytes {Q : Value → Shared → Prop} (h : Q (.bool (bLt b c)) s) : wpAny (model prog w) A (compareOp .Lt (.bytes b t) (.bytes c u)) Q E s :=
  compareOp_gives (op := .Lt) (typeIs_bytes s b t) (typeIs_bytes s c u) slotLt entryLt (argsLt _ _) (givesLt b c t u) (fun e => nomatch e) h
theorem callLt {Q : Value → Shared → Prop} (h : Q (.bool (bLt b c)) s) : wpAny (model prog w) A (call (.builtin "bytes.__lt__") [.bytes b t, .bytes c u]) Q E s :=
  call_gives slotLt (typeIs_bytes s b t) entryLt (argsLt _ _) (givesLt b c t u) h
theorem oneLtBytes {Q : Bool → Shared → Prop} (h : Q (bLt b c) s) : wpAny (model prog w) A (oneLt' true (.bytes b t) (.bytes c u)) Q E s := by
  rw [oneLt'_eq]
  simp only [if_true]
  refine wpAny_bind (wpAny_cRoomFor_byValue rfl ?_)
  refine wpAny_bind (wpAny_callSpecialIfBound?_slot (typeIs_bytes s b t) slotLt (callLt ?_))
  exact wpAny_truthy_bool h
theorem eqBoolBytes {Q : Bool → Shared → Prop} (h : Q (b.toList == c.toList) s) : wpAny (model prog w) A (eqBool (.bytes b t) (.bytes c u)) Q E s :=
  PySem.W.eqBool_bytes ((show (b.toList == c.toList) = decide (b.toList = c.toList) by rw [Bool.eq_iff_iff]; simp) ▸ h)
end
end Mine
end

-- part Dc
section
open PySem PySem.W PyProof.Rows PySem.Calls
set_option maxRecDepth 100000
namespace Mine
theorem offDc : True := by
  w_top off
  trivial
section
variable {prog : Program} {w : World} {A : Around} {E : Value → Shared → Prop} {s : Shared}

theorem keysMiss {a : Addr} {o : Obj} {xs : Array Value} {k : Nat} {Q : Option Value → Shared → Prop} (hx : s.heap.get? a = some o) (hc : o.cls = .type "list") (hdat : o.data = .seq xs k) (hd : o.dict = none) (hA : A.handled = none)
    (h : ∀ h' tk, (∀ b o, s.heap.get? b = some o → h'.get? b = some o) → Q none { s with heap := h', toks := tk }) :
    wpAny (model prog w) A (getAttr? (.ref a) "keys") Q E s := by
  have hmiss : typeLookup (.type "list") (PySem.Str.ofString "keys") = pure none := am_miss_of_fast (by kernel_rfl)
  have hname : (["__module__", "__name__", "__qualname__", "__doc__", "__annotations__"] : List PySem.Str).contains (PySem.Str.ofString "keys") = false := by decide +kernel
  obtain ⟨c, dct, dat, sl⟩ := o
  simp only at hc hdat hd
  subst hc hdat hd
  obtain ⟨hp, g, d, tk, os⟩ := s
  have hT : ∀ tk', (⟨hp, g, d, tk', os⟩ : Shared).TypeIs (.ref a) "list" := fun _ => ⟨_, hx, rfl⟩
  have f1 := sub_AttributeError
  have f3 := F.slot_list_getattribute.lookup
  have f4 := F.slot_list_getattribute.bind (.ref a)
  have f5 := am_list_getattr_none
  unfold getAttr? getAttrBy? getAttrBy
  repeat (any_goals (first | assumption | exact hT _ | ((with_reducible show wpAny _ _ (call (Value.builtin "list.__getattribute__") _ _) _ _ _); refine call_meets F.slot_list_getattribute (hT _) am_entry_list_getattribute (F.args_list_getattribute_2 _ _) (meets_getattribute_miss_list a xs k sl _ _ hmiss hname (by decide +kernel)) ⟨hx, hA, fun h' tk' e hx' => ?_⟩) | wp_step))
  obtain ⟨t', u', he⟩ := hx'.there
  show wpAny _ _ (getattributeRaised _ _ _ _ _ _ _) _ _ _
  unfold getattributeRaised
  repeat (any_goals (first | assumption | wp_step))
  all_goals exact h _ _ hx'.keeps

noncomputable def PairsIn (h : Heap) (its : Array Value) (d : Addr) (kvs : List (Int × Value)) : Prop :=
  its.size = kvs.length ∧ ∀ (j : Nat) (kv : Int × Value), kvs[j]? = some kv → ∃ (a : Addr) (o : Obj) (t : Tok) (n : Nat), its[j]? = some (Value.ref a) ∧ h.get? a = some o ∧ o.cls = .type "tuple" ∧ o.data = .seq #[.int kv.1 t, kv.2] n ∧ a ≠ d
theorem PairsIn.keeps {h h' : Heap} {its : Array Value} {d : Addr} {kvs : List (Int × Value)} (x : PairsIn h its d kvs) (k : ∀ b o, b ≠ d → (∃ j : Nat, its[j]? = some (Value.ref b)) → h.get? b = some o → h'.get? b = some o) : PairsIn h' its d kvs :=
  ⟨x.1, fun j kv hj => let ⟨a, o, t, n, e1, e2, e3, e4, e5⟩ := x.2 j kv hj; ⟨a, o, t, n, e1, k a o e5 ⟨j, e1⟩ e2, e3, e4, e5⟩⟩
theorem plainLoop : plainId "dict.update.loop" = true := by decide +kernel
theorem entryLoop : entryFor table "dict.update.loop" = some Builtin.«dict.update.loop» := entryFor_of_fast (by kernel_rfl)

theorem loopPairs {I l d : Addr} {its : Array Value} {kvs : List (Int × Value)} {R : Result → Shared → Prop} (W : Walks prog w A.in1 I [I, l] [I] its.size (fun i v => its[i]? = some v) (fun i h => h.IsListIter I l i ∧ h.IsList l its))
    (hdI : d ≠ I) (hdl : d ≠ l) (hIt : ∀ j : Nat, its[j]? ≠ some (Value.ref I)) (hz : kvs.length ≤ sizeLine) :
    ∀ (k i : Nat) (s : Shared) (ci : Int) (ti : Tok), its.size - i = k → i ≤ its.size → s.heap.IsListIter I l i → s.heap.IsList l its → PairsIn s.heap its d kvs → s.heap.DictOf (intKind prog w) d (merged [] (kvs.take i)) →
    (∀ h' tk, h'.DictOf (intKind prog w) d (merged [] kvs) → (∀ b o, b ≠ d → b ≠ I → s.heap.get? b = some o → h'.get? b = some o) → R (.ok (.ret .none)) { s with heap := h', toks := tk }) →
    codeAny (model prog w) A (.builtin "dict.update.loop" ⟨[.ref d, .ref I, .int ci ti, .none], []⟩) R s := by
  intro k
  induction k with
  | zero =>
    intro i s ci ti hk hi hI hl hP hD hR
    have hin : i = its.size := by omega
    subst hin
    refine codeAny_builtin entryLoop ?_
    rw [Around.under_plainId plainLoop _]
    show wpAny _ A.in1 (pyNext (.ref I) >>= _) _ _ s
    refine wpAny_bind (W.done s _ _ ⟨hI, hl⟩ fun h' tk' hm => ?_)
    have e : kvs.take its.size = kvs := List.take_of_length_le (by rw [hP.1]; exact Nat.le_refl _)
    rw [e] at hD
    have hd' : h'.DictOf (intKind prog w) d (merged [] kvs) := by
      obtain ⟨o, es, ep, ho, r⟩ := hD
      exact ⟨o, es, ep, hm _ _ (by simpa using hdI) ho, r⟩
    exact wpAny_bind (wpAny_pure (wpAny_pure (hR h' tk' hd' fun b o _ h2 e => hm b o (by simpa using h2) e)))
  | succ k ih =>
    intro i s ci ti hk hi hI hl hP hD hR
    have hlt : i < its.size := by omega
    refine codeAny_builtin entryLoop ?_
    rw [Around.under_plainId plainLoop _]
    show wpAny _ A.in1 (pyNext (.ref I) >>= _) _ _ s
    refine wpAny_bind (W.item i s _ _ hlt ⟨hI, hl⟩ fun v h₁ tk₁ hv hst hm => ?_)
    have hk2 : i < kvs.length := by rw [← hP.1]; exact hlt
    obtain ⟨a, o, t, n, e1, e2, e3, e4, e5⟩ := hP.2 i kvs[i] (by simp [hk2])
    have hva : v = .ref a := by rw [e1] at hv; exact (Option.some.inj hv).symm
    subst hva
    have haI : a ≠ I := fun e => hIt i (e ▸ e1)
    have e2' := hm a o (by simpa using haI) e2
    have hD₁ : h₁.DictOf (intKind prog w) d (merged [] (kvs.take i)) := by
      obtain ⟨o, es, ep, ho, r⟩ := hD
      exact ⟨o, es, ep, hm _ _ (by simpa using hdI) ho, r⟩
    refine wpAny_bind (wpAny_holding ?_)
    refine wpAny_bind (wpAny_tryCatch ?_)
    unfold Builtin.Dict.pairItems
    refine wpAny_bind (wpAny_typeOf (s := { s with heap := h₁, toks := tk₁ }) ⟨_, e2', e3⟩ ?_)
    simp only [show (Value.type "tuple" == Value.type "list") = false from by decide, show (Value.type "tuple" == Value.type "tuple") = true from by decide, Bool.false_or, if_true]
    refine wpAny_bind (wpAny_seqItems e2' e4 (wpAny_pure ?_))
    show wpAny _ A.in1 (holding _ (dictSet d (.int kvs[i].1 t) kvs[i].2)) _ _ _
    refine wpAny_holding ?_
    refine wpAny_dictSet_pairs (knd := intKind prog w) (intKind_is _ _ _ _) hD₁ (fun h₂ hD₂ hs₂ => ?_) (Nat.le_trans (merged_length_le _ _) (by simp only [List.length_nil, List.length_take]; omega))
    refine wpAny_pure ⟨plainId_quiet plainLoop _, ih (i + 1) _ _ _ (by omega) hlt ?_ ?_ ?_ ?_ ?_⟩
    · obtain ⟨o', q1, q2⟩ := hst.1
      exact ⟨o', hs₂.extBut _ _ (Ne.symm hdI) q1, q2⟩
    · obtain ⟨o', q1, q2⟩ := hst.2
      exact ⟨o', hs₂.extBut _ _ (Ne.symm hdl) q1, q2⟩
    · refine hP.keeps fun b ob hb hj e => hs₂.extBut _ _ hb (hm _ _ ?_ e)
      obtain ⟨j, hj⟩ := hj
      have : b ≠ I := fun e => hIt j (e ▸ hj)
      simpa using this
    · rw [merged_take_succ _ _ _ kvs[i] (by simp [hk2])]
      exact hD₂
    · intro h' tk' hD' hk'
      refine hR h' tk' hD' fun b ob h1 h2 e => hk' b ob h1 h2 (hs₂.extBut _ _ h1 (hm _ _ (by simpa using h2) e))

theorem dictPairs {h₀ : Heap} {L l : Addr} {m : PySem.Str → Option Value} {news : List (Addr × Obj)} {its : Array Value} {n : Nat} {kvs : List (Int × Value)} {Q : Value → Shared → Prop} (hh : A.handled = none) (Fx : Fr h₀ L s.heap m) (N : News h₀ L s.heap news) (hbig : h₀.NoLimit)
    (hl : s.heap.get? l = some (PySem.W.listOf its n)) (hP : ∀ d, s.heap.get? d = none → PairsIn s.heap its d kvs) (hz : kvs.length ≤ sizeLine)
    (k : ∀ d h' tk o, Fr h₀ L h' m → News h₀ L h' ((d, o) :: news) → (∀ p ∈ news, p.1 < d) → (d == sysModules) = false → o.IsDictOf (intKind prog w) (merged [] kvs) → Q (.ref d) { s with heap := h', toks := tk }) :
    wpAny (model prog w) A (call (.type "dict") [.ref l]) Q E s := by
  refine callType_codes (Q₁ := fun obj s₁ => obj = .ref s.heap.objs.size ∧ s₁ = { s with heap := s.heap.push { cls := .type "dict", data := .dict #[] } }) F.kt_called_dict (F.kt_typeCall_dict_1 _) F.entry_dict_init (kt_code_dict_new _ ⟨rfl, rfl⟩) ?_
  rintro obj s₁ ⟨rfl, rfl⟩
  have hnew : (s.heap.push { cls := .type "dict", data := .dict #[] }).DictOf (intKind prog w) s.heap.objs.size [] := Heap.DictOf.new s.heap
  have up : ∀ b o, s.heap.get? b = some o → (s.heap.push { cls := .type "dict", data := .dict #[] }).get? b = some o := fun b o e => Heap.get?_push_of_some _ e
  have hl1 := up _ _ hl
  have hlt : l < s.heap.objs.size := Heap.lt_size hl
  have hfree : ∀ a, s.heap.objs.size ≤ a → s.heap.get? a = none := fun a ha => Heap.get?_none_of_le ha
  refine ⟨hnew.typeIs, F.args_dict_init_2 _ _, ?_⟩
  unfold Builtin.«dict.__init__»
  refine wpAny_bind ?_
  unfold Builtin.Dict.selfAndRest
  refine wpAny_bind (wpAny_notOrdered_dict hnew.typeIs ?_)
  show wpAny _ _ (pure (s.heap.objs.size, [Value.ref l])) _ _ _
  refine wpAny_pure ?_
  show wpAny _ _ (Builtin.Dict.updateFrom "dict.__init__" s.heap.objs.size (.ref l) [] .none) _ _ _
  unfold Builtin.Dict.updateFrom
  refine wpAny_bind (wpAny_typeOf (T := "list") ⟨_, hl1, rfl⟩ ?_)
  rw [if_pos (by decide)]
  refine wpAny_bind (keysMiss hl1 rfl rfl rfl hh fun h₁ tk₁ hk₁ => ?_)
  have hl2 := hk₁ _ _ hl1
  simp only [Option.isNone_none, if_true]
  refine wpAny_bind (wpAny_rule ?_)
  have hl3 : h₁.IsList l its := ⟨_, hl2, rfl, n, rfl⟩
  refine wpAny_bind (wpAny_pyIter_list (s := { s with heap := h₁, toks := tk₁ }) hl3 ?_)
  have hge : s.heap.objs.size < h₁.objs.size := by
    obtain ⟨o, ho, _⟩ := Heap.dictOf_iff.mp hnew
    exact Heap.lt_size (hk₁ _ _ ho)
  have hI0 : h₁.get? h₁.objs.size = none := Heap.get?_none_of_le (Nat.le_refl _)
  have hd0 : s.heap.get? s.heap.objs.size = none := hfree _ (Nat.le_refl _)
  have hP0 := hP _ hd0
  have old : ∀ b o, s.heap.get? b = some o → (h₁.push { cls := .type "list_iterator", data := .fields #[.ref l, .int 0 0] }).get? b = some o := fun b o e => Heap.get?_push_of_some _ (hk₁ _ _ (up _ _ e))
  have hIt : ∀ j : Nat, its[j]? ≠ some (Value.ref h₁.objs.size) := by
    intro j hj
    have hj2 : j < its.size := by
      rcases Nat.lt_or_ge j its.size with h | h
      · exact h
      · rw [Array.getElem?_eq_none h] at hj; cases hj
    have hj3 : j < kvs.length := by rw [← hP0.1]; exact hj2
    obtain ⟨a, o, t, n', e1, e2, _⟩ := hP0.2 j kvs[j] (by simp [hj3])
    rw [e1] at hj
    have : a = h₁.objs.size := by injection Option.some.inj hj
    have h9 := hk₁ _ _ (up _ _ e2)
    rw [this, hI0] at h9
    cases h9
  refine wpAny_pure ⟨plainId_quiet plainLoop _, loopPairs (Walks.list (A := A.in1.in1) hh h₁.objs.size l (Nat.ne_of_lt (Heap.lt_size hl2)) its) (Nat.ne_of_lt hge) (Nat.ne_of_gt hlt) hIt hz its.size 0 _ _ _ (Nat.sub_zero _) (Nat.zero_le _) ⟨_, Heap.get?_push_size _ rfl, rfl, rfl⟩ ⟨_, Heap.get?_push_of_some _ hl2, rfl, n, rfl⟩ ?_ ?_ ?_⟩
  · exact hP0.keeps fun b o _ _ e => old b o e
  · obtain ⟨o, es, ep, ho, r⟩ := hnew
    exact ⟨o, es, ep, Heap.get?_push_of_some _ (hk₁ _ _ ho), by simpa [merged] using r⟩
  · intro h' tk' hD' hk'
    obtain ⟨od, hod, hdo⟩ := Heap.dictOf_iff.mp hD'
    have keep : ∀ b o, s.heap.get? b = some o → h'.get? b = some o := fun b o e => hk' b o (fun q => by rw [q, hd0] at e; cases e) (fun q => by
      have := hk₁ _ _ (up _ _ e); rw [q, hI0] at this; cases this) (old b o e)
    show Value.none = Value.none ∧ Q _ _
    refine ⟨rfl, ?_⟩
    refine k _ h' tk' od (Fx.keeps keep) (fun p hp => ?_) (fun p hp => Heap.lt_size (N p hp).1) (Fx.notModules (modules_low hbig)) hdo
    rcases List.mem_cons.mp hp with rfl | hp
    · refine ⟨hod, Nat.ne_of_gt Fx.ns.lt, ?_⟩
      cases hq : h₀.get? s.heap.objs.size with
      | none => rfl
      | some o' => have := Fx.keep _ _ hq; rw [hd0] at this; cases this
    · exact ⟨keep _ _ (N p hp).1, (N p hp).2⟩
end
end Mine
end

-- part Jn
section
open PySem PySem.W PyProof.Rows PySem.Calls
set_option maxRecDepth 100000
namespace Mine
theorem offJn : True := by
  w_top off
  trivial
open PySem.Builtin in
section
theorem slotJoin : Slot "bytes" "join" "bytes.join" :=
  .of (owner := "bytes") (n := "join") (by rw [typeLookup_type, builtinLookup_eq_fast]; kernel_rfl) (by decide +kernel) (by decide +kernel) (by decide +kernel)
    (by first | exact .inl (by decide +kernel) | exact .inr (by decide +kernel)) (by rw [isSubtype_type]; kernel_rfl)
theorem typeJoin : typeOf (.builtin "bytes.join") = pure (.type "method_descriptor") := by show builtinType _ = _; rw [builtinType_eq_fast]; kernel_rfl
theorem entryJoin : entryFor table "bytes.join" = some Builtin.«bytes.join» := by first | exact entryFor_of_tree (by kernel_rfl) | exact entryFor_of_fast (by kernel_rfl)
theorem argsJoin (a b : Value) : argsOk "bytes.join" ⟨[a, b], []⟩ := by
  unfold argsOk; rw [signature?_of (id := "bytes.join") (n := ['n', 'i', 'o', 'j']) (o := ['s', 'e', 't', 'y', 'b']) (by kernel_rfl) FB.owner_bytes]; kernel_rfl
theorem takeQ {id : String} {b : Array UInt8} {t : Tok} : Bytes.takeBufferQuiet? id (.bytes b t) 0 = pure (some (b, none)) := by
  unfold Bytes.takeBufferQuiet? Bytes.takeBuffer?
  rw [KBy.special_eq KBy.look_buffer, KBy.own_buffer]
  simp only [pure_bind, KBy.buffer_eq]
  kernel_rfl
theorem meetsJoin2 (b c : Array UInt8) (t u v : Tok) (l : Addr) (n : Nat) (hsz : b.size + c.size ≤ 1000) :
    Meets (Builtin.«bytes.join» ⟨[.bytes #[] t, .ref l], []⟩) (fun _ R s => s.heap.get? l = some (PySem.W.listOf #[.bytes b u, .bytes c v] n) ∧ ∀ t' k, R (.ok (.ret (.bytes (b ++ c) t'))) { s with toks := k }) := by
  refine .of_wp fun prog w A R s hS => ?_
  obtain ⟨ho, h⟩ := hS
  have hT : s.TypeIs (.ref l) "list" := ⟨_, ho, rfl⟩
  unfold Builtin.«bytes.join» Bytes.joinM
  refine wpAny_bind (wpAny_of_eq (a := (Value.bytes #[] t, Value.ref l)) rfl ?_)
  dsimp only
  rw [if_pos (by decide)]
  unfold Bytes.joinItems
  refine wpAny_bind (wpAny_bind (wpAny_typeOf hT ?_))
  rw [if_pos (by decide)]
  refine wpAny_pure ?_
  refine wpAny_bind (wpAny_seqItems ho rfl ?_)
  dsimp only
  rw [if_pos (by decide)]
  refine wpAny_bind ?_
  rw [Std.Legacy.Range.forIn_eq_forIn_range']
  simp only [Std.Legacy.Range.size, Nat.sub_zero, Nat.add_sub_cancel, Nat.div_one]
  show wpAny _ _ (forIn [0, 1] _ _) _ _ _
  rw [List.forIn_cons]
  refine wpAny_bind ?_
  refine wpAny_bind (wpAny_seqItems ho rfl ?_)
  dsimp only
  rw [if_neg (by decide)]
  refine wpAny_bind (wpAny_holding (wpAny_of_eq takeQ ?_))
  dsimp only
  refine wpAny_bind (wpAny_seqItems ho rfl ?_)
  dsimp only
  rw [if_neg (by simp)]
  refine wpAny_pure ?_
  dsimp only
  rw [List.forIn_cons]
  refine wpAny_bind ?_
  refine wpAny_bind (wpAny_seqItems ho rfl ?_)
  dsimp only
  rw [if_neg (by simp [Value.onHeap])]
  refine wpAny_bind (wpAny_holding (wpAny_of_eq takeQ ?_))
  dsimp only
  refine wpAny_bind (wpAny_seqItems ho rfl ?_)
  dsimp only
  rw [if_neg (by simp)]
  refine wpAny_pure ?_
  dsimp only
  rw [List.forIn_nil]
  refine wpAny_pure ?_
  dsimp only
  refine wpAny_bind (wpAny_of_eq (a := #[]) rfl ?_)
  have e : Bytes.joined #[] (((#[] : Array (Array UInt8)).push b).push c).toList = b ++ c := by simp [Bytes.joined]
  have hl : Bytes.tooLong (Array.foldl (fun x1 x2 => x1 + x2.size) ((#[] : Array UInt8).size * ((((#[] : Array (Array UInt8)).push b).push c).size - 1)) (((#[] : Array (Array UInt8)).push b).push c)) = false := KBy.tooLong_not (by simp; omega)
  rw [if_neg (by rw [hl]; exact Bool.false_ne_true)]
  rw [e]
  refine wpAny_bind (wpAny_mkBytes ?_ (by simp; rw [sizeLine_eq]; omega))
  refine wpAny_bind (wpAny_holding (wpAny_point ?_))
  refine wpAny_bind ?_
  simp only [List.nil_append, List.cons_append, Bytes.joinLetGo, Option.toList]
  refine wpAny_bind (wpAny_letGo ?_)
  refine wpAny_bind (wpAny_letGo ?_)
  refine wpAny_pure ?_
  exact wpAny_pure ⟨_, rfl, h _ _⟩
theorem meetsJoin1 (b : Array UInt8) (t u : Tok) (l : Addr) (n : Nat) :
    Meets (Builtin.«bytes.join» ⟨[.bytes #[] t, .ref l], []⟩) (fun _ R s => s.heap.get? l = some (PySem.W.listOf #[.bytes b u] n) ∧ ∀ t' k, R (.ok (.ret (.bytes b t'))) { s with toks := k }) := by
  refine .of_wp fun prog w A R s hS => ?_
  obtain ⟨ho, h⟩ := hS
  have hT : s.TypeIs (.ref l) "list" := ⟨_, ho, rfl⟩
  unfold Builtin.«bytes.join» Bytes.joinM
  refine wpAny_bind (wpAny_of_eq (a := (Value.bytes #[] t, Value.ref l)) rfl ?_)
  dsimp only
  rw [if_pos (by decide)]
  unfold Bytes.joinItems
  refine wpAny_bind (wpAny_bind (wpAny_typeOf hT ?_))
  rw [if_pos (by decide)]
  refine wpAny_pure ?_
  refine wpAny_bind (wpAny_seqItems ho rfl ?_)
  dsimp only
  rw [if_pos (by decide)]
  refine wpAny_bind (wpAny_typeOf (typeIs_bytes _ b u) ?_)
  rw [if_pos (by decide)]
  exact wpAny_bind (wpAny_rule (wpAny_pure ⟨_, rfl, h u s.toks⟩))
theorem meetsJoin0 (t : Tok) (l : Addr) (n : Nat) :
    Meets (Builtin.«bytes.join» ⟨[.bytes #[] t, .ref l], []⟩) (fun _ R s => s.heap.get? l = some (PySem.W.listOf #[] n) ∧ ∀ t' k, R (.ok (.ret (.bytes #[] t'))) { s with toks := k }) := by
  refine .of_wp fun prog w A R s hS => ?_
  obtain ⟨ho, h⟩ := hS
  have hT : s.TypeIs (.ref l) "list" := ⟨_, ho, rfl⟩
  unfold Builtin.«bytes.join» Bytes.joinM
  refine wpAny_bind (wpAny_of_eq (a := (Value.bytes #[] t, Value.ref l)) rfl ?_)
  dsimp only
  rw [if_pos (by decide)]
  unfold Bytes.joinItems
  refine wpAny_bind (wpAny_bind (wpAny_typeOf hT ?_))
  rw [if_pos (by decide)]
  refine wpAny_pure ?_
  refine wpAny_bind (wpAny_seqItems ho rfl ?_)
  dsimp only
  rw [if_pos (by decide)]
  refine wpAny_bind ?_
  rw [Std.Legacy.Range.forIn_eq_forIn_range']
  simp only [Std.Legacy.Range.size, Nat.sub_zero, Nat.add_sub_cancel, Nat.div_one]
  show wpAny _ _ (forIn [] _ _) _ _ _
  rw [List.forIn_nil]
  refine wpAny_pure ?_
  dsimp only
  refine wpAny_bind (wpAny_of_eq (a := #[]) rfl ?_)
  have hl : Bytes.tooLong (Array.foldl (fun x1 x2 => x1 + x2.size) ((#[] : Array UInt8).size * ((#[] : Array (Array UInt8)).size - 1)) (#[] : Array (Array UInt8))) = false := KBy.tooLong_not (by simp)
  rw [if_neg (by rw [hl]; exact Bool.false_ne_true)]
  refine wpAny_bind (wpAny_mkBytes ?_ (by simp [Bytes.joined]))
  refine wpAny_bind (wpAny_holding (wpAny_point ?_))
  refine wpAny_bind (wpAny_pure ?_)
  exact wpAny_pure ⟨_, rfl, h _ _⟩
variable {prog : Program} {w : World} {A : Around} {E : Value → Shared → Prop} {s : Shared} {h₀ : Heap} {L l : Addr} {m : PySem.Str → Option Value} {news : List (Addr × Obj)} {t : Tok}
theorem methodJoin {M : Model} {b : Array UInt8} {pl : Sem Bool} {Q : Value × List Value → Shared → Prop} (h : Q (.builtin "bytes.join", [.bytes b t]) s) : wpAny M A (getMethod (.bytes b t) "join" pl) Q E s := by
  with_reducible exact KBd.method_of (.bytes b t) (typeIs_bytes _ _ _) slotJoin typeJoin KBd.noRef h
/-- vs are these bytes -/
noncomputable def BAre : List Value → List (List Int) → Prop
  | [], [] => True
  | v :: vs, k :: ks => (∃ t, v = .bytes (byteArr k) t) ∧ BAre vs ks
  | _, _ => False
theorem BAre.length : ∀ {vs : List Value} {ks : List (List Int)}, BAre vs ks → vs.length = ks.length
  | [], [], _ => rfl
  | _ :: _, _ :: _, h => by rw [List.length_cons, List.length_cons, BAre.length h.2]
  | [], _ :: _, h => h.elim
  | _ :: _, [], h => h.elim
theorem BAre.snoc : ∀ {vs : List Value} {ks : List (List Int)} {k : List Int} {t : Tok}, BAre vs ks → BAre (vs ++ [.bytes (byteArr k) t]) (ks ++ [k])
  | [], [], k, t, _ => ⟨⟨t, rfl⟩, trivial⟩
  | _ :: _, _ :: _, _, _, h => ⟨h.1, BAre.snoc h.2⟩
  | [], _ :: _, _, _, h => h.elim
  | _ :: _, [], _, _, h => h.elim
theorem BAre.get : ∀ {vs : List Value} {ks : List (List Int)} {i : Nat} {v : Value}, BAre vs ks → vs[i]? = some v → ∃ k t, ks[i]? = some k ∧ v = .bytes (byteArr k) t
  | [], [], _, _, _, h => by simp at h
  | v :: _, k :: _, 0, _, h, e => by simp at e; obtain ⟨t, q⟩ := h.1; exact ⟨k, t, rfl, e ▸ q⟩
  | _ :: _, _ :: _, i + 1, _, h, e => by simpa using BAre.get h.2 (by simpa using e)
  | [], _ :: _, _, _, h, _ => h.elim
  | _ :: _, [], _, _, h, _ => h.elim
theorem byteArr_app (a b : List Int) : byteArr a ++ byteArr b = byteArr (a ++ b) := by simp [byteArr]
theorem joinB {vs : List Value} {kss : List (List Int)} {n : Nat} {Q : Value → Shared → Prop} (N : News h₀ L s.heap news) (hl : (l, PySem.W.listOf (List.toArray vs) n) ∈ news) (hb : BAre vs kss) (h2 : kss.length ≤ 2) (hz : ∀ k ∈ kss, k.length ≤ 100)
    (h : ∀ t' k, Q (.bytes (byteArr kss.flatten) t') { s with toks := k }) : wpAny (model prog w) A (call (.builtin "bytes.join") [.bytes #[] t, .ref l]) Q E s := by
  have ho := (N _ hl).1
  have hlen := hb.length
  rcases kss with _ | ⟨k, _ | ⟨k', _ | ⟨k'', r⟩⟩⟩
  · rcases vs with _ | ⟨v, vs⟩
    · exact call_meets slotJoin (typeIs_bytes _ _ _) entryJoin (argsJoin _ _) (meetsJoin0 t l n) ⟨ho, h⟩
    · simp at hlen
  · rcases vs with _ | ⟨v, _ | ⟨v', vs⟩⟩
    · simp at hlen
    · obtain ⟨⟨u, rfl⟩, _⟩ := hb
      have h' := h
      simp only [List.flatten_cons, List.flatten_nil, List.append_nil] at h'
      exact call_meets slotJoin (typeIs_bytes _ _ _) entryJoin (argsJoin _ _) (meetsJoin1 (byteArr k) t u l n) ⟨ho, h'⟩
    · simp at hlen
  · rcases vs with _ | ⟨v, _ | ⟨v', _ | ⟨v'', vs⟩⟩⟩
    · simp at hlen
    · simp at hlen
    · obtain ⟨⟨u, rfl⟩, ⟨v, rfl⟩, _⟩ := hb
      have h' := h
      simp only [List.flatten_cons, List.flatten_nil, List.append_nil, ← byteArr_app] at h'
      exact call_meets slotJoin (typeIs_bytes _ _ _) entryJoin (argsJoin _ _) (meetsJoin2 (byteArr k) (byteArr k') t u v l n (by
        have a := hz k (by simp); have b := hz k' (by simp); rw [byteArr_size, byteArr_size]; omega)) ⟨ho, h'⟩
    · simp at hlen
  · simp at h2
end
end Mine
end

-- part C2
section
open PySem PySem.W PyProof.Rows PySem.Calls
set_option maxRecDepth 100000
local macro_rules | `(tactic| walk_at "no such key") => `(tactic| skip)
namespace Mine
theorem offC2 : True := by
  w_top off
  trivial
theorem fillC2 : (fun (_ : Params → Frag) (_ : OpenLaw) => True) hd.heap_39 PySem.Challenge.rw_or0022_01 := by k_fill; trivial

local macro_rules | `(tactic| walk_at "eval ListComp") => `(tactic| (k_here; k_dflt (refine LCg.ListComp_U (F₀ := by k_asm) (by with_unfolding_all rfl) (by decide) (by rfl) (by decide) (by rfl) ?_)))
local macro_rules | `(tactic| walk_at "CompSrc") => `(tactic| (k_here; k_dflt (refine LCg.CompSrc.ledger (by rfl) (by k_asm) (by k_asm) (List.mem_cons_self ..) (le_take50 _) ?_; intro g'; refine CompStop.of ?_)))

noncomputable def deckPost (news : List (Addr × Obj)) (r : Value) (news' : List (Addr × Obj)) : Prop :=
  ∃ d c vs cells n1 n2 t, r = .ref d ∧ news' = (d, PySem.W.listOf (List.toArray [.ref c, .int 0 t]) n1) :: (c, PySem.W.listOf (List.toArray vs) n2) :: news ∧ IntsAre vs cells ∧ cells.length ≤ 50 ∧ (@Ne Nat d c) ∧ ∀ p ∈ news, p.1 ≠ c ∧ p.1 ≠ d

set_option maxHeartbeats 1000000 in
theorem deck_spec (w : World) (l : Addr) (vs : List Value) (ns : List Int)  (news : List (Addr × Obj)) (hI : IntsAre vs ns) (hlen : ns.length ≤ 63) :
    CSpecH w 109 1 [.ref l] (fun h => h.IsList l vs.toArray) news (deckPost news) := by
  unfold CSpecH
  intro mean mg mb dp un gd cn cs a ccd cl outer A₀ base h₀ L m s Q E hpre B F X N T hk hd hu hret
  refine wpAny_call ?_
  k_dflt ktr_enter
  rename Fr h₀ _ _ _ => FG'
  have hl8 := hpre.at fun o e => FG'.keep _ _ e
  (repeat' (first | (k_unfold; (try dsimp only)) | ((k_here; (with_reducible show wpAny _ _ (subscriptTail (Expr.Name ..) (Expr.Slice ..) _ _) _ _ _); k_dflt (refine' kmk_slice_lit (s := ⟨_, _, _, _, _⟩) (by k_asm) (by k_asm) (by exact Fr.lst (by k_asm) (by k_asm)) (by exact IsPart.none) (by exact IsPart.int _ _) (by exact upto50 _) ?_ (by with_unfolding_all rfl) (by kmk_pure) (by exact le_line50 (by assumption) (by assumption))); intro _ _ _ zzN' _; (try dsimp only at zzN'); (try dsimp only)); (try dsimp only)) |  (walk1; (try dsimp only)) | (dsimp only; walk1) | (leave1; walk_say "STEP leave1"; try dsimp only) | fail "no step"))
  refine compInv (fun i ys nw => (∃ cells, cells.length = i ∧ IntsAre ys cells) ∧ ∀ p ∈ _, p ∈ nw) ⟨⟨[], rfl, .nil⟩, fun p hp => hp⟩ ?_ ?_
  · intro i v ys nw I oI C oC D m₂ h tk E' hi hv hJ hC hx F9 N9 off ne
    obtain ⟨⟨cells, hc1, hc2⟩, hsub⟩ := hJ
    obtain ⟨x, t, e⟩ := take50_at hI hv
    subst e
    (repeat' (first | (k_unfold; (try dsimp only)) | ((k_here; (with_reducible show wpAny _ _ (subscriptTail (Expr.Name ..) (Expr.Slice ..) _ _) _ _ _); k_dflt (refine' kmk_slice_lit (s := ⟨_, _, _, _, _⟩) (by k_asm) (by k_asm) (by exact Fr.lst (by k_asm) (by k_asm)) (by exact IsPart.none) (by exact IsPart.int _ _) (by exact upto50 _) ?_ (by with_unfolding_all rfl) (by kmk_pure) (by exact le_line50 (by assumption) (by assumption))); intro _ _ _ zzN' _; (try dsimp only at zzN'); (try dsimp only)); (try dsimp only)) |  (walk1; (try dsimp only)) | (dsimp only; walk1) | (leave1; walk_say "STEP leave1"; try dsimp only) | fail "no step"))
    exact LCg.CompEnd.intro (by assumption) (by assumption) nw (fun _ h => h) off (.inr ⟨_, hsub _ (.head _), rfl, _, rfl⟩) ⟨⟨cells ++ [_], by simp [hc1], hc2.append (.cons _ _ .nil)⟩, hsub⟩
  · intro ys nw hJ
    obtain ⟨⟨cells, hc1, hc2⟩, hsub⟩ := hJ
    have hz : cells.length ≤ 50 := by rw [hc1, List.size_toArray, List.length_take]; omega
    (repeat' (first | (k_unfold; (try dsimp only)) | ((k_here; (with_reducible show wpAny _ _ (subscriptTail (Expr.Name ..) (Expr.Slice ..) _ _) _ _ _); k_dflt (refine' kmk_slice_lit (s := ⟨_, _, _, _, _⟩) (by k_asm) (by k_asm) (by exact Fr.lst (by k_asm) (by k_asm)) (by exact IsPart.none) (by exact IsPart.int _ _) (by exact upto50 _) ?_ (by with_unfolding_all rfl) (by kmk_pure) (by exact le_line50 (by assumption) (by assumption))); intro _ _ _ zzN' _; (try dsimp only at zzN'); (try dsimp only)); (try dsimp only)) |  (walk1; (try dsimp only)) | (dsimp only; walk1) | (leave1; walk_say "STEP leave1"; try dsimp only) | fail "no step"))
    rename LCg.Off1 _ nw => ho
    rename _ < _ ∧ AllLt _ nw => hl
    exact hret _ _ _ _ (by assumption) (newsHead2 (by assumption) (fun p hp => hsub p (.tail _ hp))) ⟨_, _, ys, cells, _, _, _, rfl, rfl, hc2, hz, Nat.ne_of_gt hl.1, fun p hp => ⟨off1_mem ho p (hsub p (.tail _ hp)), Nat.ne_of_lt (ktn_ltOf hl.2 p (hsub p (.tail _ hp)))⟩⟩
end Mine
end

-- part C4
section
open PySem PySem.W PyProof.Rows PySem.Calls
set_option maxRecDepth 100000
namespace Mine
theorem offC4 : True := by
  w_top off
  trivial
theorem fillC4 : (fun (_ : Params → Frag) (_ : OpenLaw) => True) hd.heap_39 PySem.Challenge.rw_or0022_01 := by k_fill; trivial

set_option maxHeartbeats 1000000 in
theorem near_spec (w : World) (d c : Addr) (cells : List Int) (vs : List Value) (n1 n2 : Nat) (k : Int) (tk tr : Tok) (rest : List (Addr × Obj)) (b : Array UInt8) (ks : List Int) (hrest : ∀ p ∈ rest, p.1 ≠ d)
    (hdc : @Ne Nat d c) (hI : IntsAre vs cells) (hlen : cells.length ≤ 50) (hk0 : 0 ≤ k) (hk : k ≤ 900) (hb : KBw.bInts b = ks) (hks : ks.length ≤ 14) :
    CSpec w 123 2 [.ref d, .bytes b tr] ((d, PySem.W.listOf (List.toArray [.ref c, .int k tk]) n1) :: (c, PySem.W.listOf vs.toArray n2) :: rest)
      (fun r news' => ∃ b' k' t t', r = .bytes b' t ∧ (KBw.bInts b').length ≤ ks.length + 1 ∧ k ≤ k' ∧ k' ≤ k + 2 ∧ news' = (d, PySem.W.listOf (List.toArray [.ref c, .int k' t']) n1) :: (c, PySem.W.listOf vs.toArray n2) :: rest) := by
  unfold CSpec
  intro mean mg mb dp un gd cn cs a ccd cl outer A₀ base h₀ L m s Q E B F X N T hk hd hu hret
  refine wpAny_call ?_
  k_dflt ktr_enter
  (repeat' (first | (k_unfold; (try dsimp only)) | ((k_here; (with_reducible show wpAny _ _ (call (Value.ref 116) _) _ _ _); k_dflt (refine' CSpec.useR (by k_asm) (by k_asm) (by k_asm) (by k_asm) (by k_asm) (by first | exact rfl | assumption) (by ktr_room) (by ktr_units) (card_use _ _ _ _ _ _ _ _ _ _ _ _ (by assumption) (by assumption) (by assumption) (by assumption) (by omega) (by omega) (by (try (have _ := nn_len (by assumption) (by assumption))); omega) (by omega)) ?_; intro _ _ _ _ _ zzN9 zzhp9; (obtain ⟨_, _, _, _, _, zze1, zze2⟩ := zzhp9; subst zze1; subst zze2); (try dsimp only at zzN9); (try dsimp only); (try k_fold))); (try dsimp only)) |  (walk1; (try dsimp only)) | (dsimp only; walk1) | (leave1; walk_say "STEP leave1"; try dsimp only) | fail "no step"))
  all_goals refine hret _ _ _ _ (by assumption) (news_sub (by assumption) (by kcf_all)) ⟨_, _, _, _, rfl, lenB (by assumption) ?_, ?_, ?_, rfl⟩
  all_goals try omega
  · simp
  · simp
  · simp only [List.length_take]; omega
  · exact near4 (by assumption) rfl
end Mine
end

-- part C6
section
open PySem PySem.W PyProof.Rows PySem.Calls
set_option maxRecDepth 100000
namespace Mine
theorem offC6 : True := by
  w_top off
  trivial
theorem fillC6 : (fun (_ : Params → Frag) (_ : OpenLaw) => True) hd.heap_39 PySem.Challenge.rw_or0022_01 := by k_fill; trivial

set_option maxHeartbeats 1000000 in
theorem penc_spec (w : World) (b al : Array UInt8) (ks als : List Int) (tb ta : Tok) (news : List (Addr × Obj)) (hb : KBw.bInts b = ks) (hks : ks.length ≤ 10) (hal : KBw.bInts al = als) (hals : als.length = 64) :
    CSpec w 83 2 [.bytes b tb, .bytes al ta] news (fun r news' => (∃ t, r = .bytes (byteArr (encI als ks)) t) ∧ news' = news) := by
  unfold CSpec
  intro mean mg mb dp un gd cn cs a ccd cl outer A₀ base h₀ L m s Q E B F X N T hk hd hu hret
  refine wpAny_call ?_
  k_dflt ktr_enter
  (repeat' (first | (k_unfold; (try dsimp only)) | ((k_here; (with_reducible show wpAny _ _ (subscriptTail _ (Expr.Slice _ _ none _) (Value.bytes _ _) (Value.ref _)) _ _ _); (with_reducible rename Fr _ _ _ _ => zzF'); (with_reducible rename News _ _ _ _ => zzN'); (refine KBc.slice_K (s := ⟨_, _, _, _, _⟩) zzF' zzN' (by kba_ints) (by constructor) (by constructor) (by kba_size) ?_); intro _ _ _ _ _ zzkbcK; simp only [Option.elim, slice3] at zzkbcK); (try dsimp only)) | ((k_here; (with_reducible show wpAny _ _ (call (Value.builtin _) [Value.ref _, Value.ref _]) _ _ _); k_dflt (refine' extSym (by k_asm) (by k_asm) (by k_mem) (by k_upd) (by (have zzhl := ext_l (by assumption) (by omega); omega)) (by (have zzhl := ext_l (by assumption) (by omega); omega)) ?_; intro _ _ zzN'; (try dsimp only at zzN'); (try dsimp only))); (try dsimp only)) | ((k_here; (with_reducible show wpAny _ _ (call (Value.ref 71) _) _ _ _); k_dflt (refine' CSpec.useR (by k_asm) (by k_asm) (by k_asm) (by k_asm) (by k_asm) (by first | exact rfl | assumption) (by ktr_room) (by ktr_units) (gc_all _ _ _ _ _ _ _ _ (by assumption) (by exact t3_len1 (by omega)) (by exact t3_len3) (by assumption) (by assumption)) ?_; intro _ _ _ _ _ zzN9 zzhp9; (obtain ⟨_, _, _, zze1, zze2, _, zzoff9⟩ := zzhp9; subst zze1; subst zze2; (try have _ : @Ne Nat _ _ := zzoff9 _ (List.mem_cons_self ..)); (try have _ : @Ne Nat _ _ := zzoff9 _ (.tail _ (List.mem_cons_self ..)))); (try dsimp only at zzN9); (try dsimp only); (try k_fold))); (try dsimp only)) |  (walk1; (try dsimp only)) | (dsimp only; walk1) | (leave1; walk_say "STEP leave1"; try dsimp only) | fail "no step"))
  k_dflt (refine loopStep (c := 3) (n := (ks.length + 2) / 3) (σ := List Value × Nat) (fun c => (_, PySem.W.listOf (List.toArray c.1) c.2) :: news) (fun _ => []) (fun _ => True) [] (fun i c => IntsAre c.1 (encI als (ks.take (3 * i))) ∧ c.1.length ≤ 4 * i) ([], 0) rfl (by assumption) ?_ ?_ (by k_asm) (by k_asm) trivial (fun _ h => nomatch h) ⟨IntsAre.nil, Nat.zero_le _⟩ ?_ ?_)
  · exact small_range3 _ hks
  · exact rangeSize3 _
  · intro c i t u h tk own hi hoff _ hp F9 N9
    obtain ⟨hpI, hpl⟩ := hp
    dsimp only [List.cons_append] at F9 N9
    (repeat' (first | (k_unfold; (try dsimp only)) | ((k_here; (with_reducible show wpAny _ _ (subscriptTail _ (Expr.Slice _ _ none _) (Value.bytes _ _) (Value.ref _)) _ _ _); (with_reducible rename Fr _ _ _ _ => zzF'); (with_reducible rename News _ _ _ _ => zzN'); (refine KBc.slice_K (s := ⟨_, _, _, _, _⟩) zzF' zzN' (by kba_ints) (by constructor) (by constructor) (by kba_size) ?_); intro _ _ _ _ _ zzkbcK; simp only [Option.elim, slice3] at zzkbcK); (try dsimp only)) | ((k_here; (with_reducible show wpAny _ _ (call (Value.builtin _) [Value.ref _, Value.ref _]) _ _ _); k_dflt (refine' extSym (by k_asm) (by k_asm) (by k_mem) (by k_upd) (by (have zzhl := ext_l (by assumption) (by omega); omega)) (by (have zzhl := ext_l (by assumption) (by omega); omega)) ?_; intro _ _ zzN'; (try dsimp only at zzN'); (try dsimp only))); (try dsimp only)) | ((k_here; (with_reducible show wpAny _ _ (call (Value.ref 71) _) _ _ _); k_dflt (refine' CSpec.useR (by k_asm) (by k_asm) (by k_asm) (by k_asm) (by k_asm) (by first | exact rfl | assumption) (by ktr_room) (by ktr_units) (gc_all _ _ _ _ _ _ _ _ (by assumption) (by exact t3_len1 (by omega)) (by exact t3_len3) (by assumption) (by assumption)) ?_; intro _ _ _ _ _ zzN9 zzhp9; (obtain ⟨_, _, _, zze1, zze2, _, zzoff9⟩ := zzhp9; subst zze1; subst zze2; (try have _ : @Ne Nat _ _ := zzoff9 _ (List.mem_cons_self ..)); (try have _ : @Ne Nat _ _ := zzoff9 _ (.tail _ (List.mem_cons_self ..)))); (try dsimp only at zzN9); (try dsimp only); (try k_fold))); (try dsimp only)) |  (walk1; (try dsimp only)) | (dsimp only; walk1) | (leave1; walk_say "STEP leave1"; try dsimp only) | fail "no step"))
    refine kst_end (c := (c.1 ++ _, c.2 + 1)) (by assumption) (by assumption) (by kcf_all) (by kcf_all) rfl trivial (fun _ h => nomatch h) kstHr ⟨?_, ?_⟩
    · rw [encI_step _ _ _ (by omega)]; exact IntsAre.append hpI (by assumption)
    · have hl := ext_l (by assumption) (by omega)
      simp only [List.length_append]
      omega
  · intro c u h tk _ hp F9 N9
    obtain ⟨hpI, hpl⟩ := hp
    rw [List.take_of_length_le (by omega)] at hpI
    dsimp only at F9 N9
    (repeat' (first | (k_unfold; (try dsimp only)) | ((k_here; (with_reducible show wpAny _ _ (subscriptTail _ (Expr.Slice _ _ none _) (Value.bytes _ _) (Value.ref _)) _ _ _); (with_reducible rename Fr _ _ _ _ => zzF'); (with_reducible rename News _ _ _ _ => zzN'); (refine KBc.slice_K (s := ⟨_, _, _, _, _⟩) zzF' zzN' (by kba_ints) (by constructor) (by constructor) (by kba_size) ?_); intro _ _ _ _ _ zzkbcK; simp only [Option.elim, slice3] at zzkbcK); (try dsimp only)) | ((k_here; (with_reducible show wpAny _ _ (call (Value.builtin _) [Value.ref _, Value.ref _]) _ _ _); k_dflt (refine' extSym (by k_asm) (by k_asm) (by k_mem) (by k_upd) (by (have zzhl := ext_l (by assumption) (by omega); omega)) (by (have zzhl := ext_l (by assumption) (by omega); omega)) ?_; intro _ _ zzN'; (try dsimp only at zzN'); (try dsimp only))); (try dsimp only)) | ((k_here; (with_reducible show wpAny _ _ (call (Value.ref 71) _) _ _ _); k_dflt (refine' CSpec.useR (by k_asm) (by k_asm) (by k_asm) (by k_asm) (by k_asm) (by first | exact rfl | assumption) (by ktr_room) (by ktr_units) (gc_all _ _ _ _ _ _ _ _ (by assumption) (by exact t3_len1 (by omega)) (by exact t3_len3) (by assumption) (by assumption)) ?_; intro _ _ _ _ _ zzN9 zzhp9; (obtain ⟨_, _, _, zze1, zze2, _, zzoff9⟩ := zzhp9; subst zze1; subst zze2; (try have _ : @Ne Nat _ _ := zzoff9 _ (List.mem_cons_self ..)); (try have _ : @Ne Nat _ _ := zzoff9 _ (.tail _ (List.mem_cons_self ..)))); (try dsimp only at zzN9); (try dsimp only); (try k_fold))); (try dsimp only)) |  (walk1; (try dsimp only)) | (dsimp only; walk1) | (leave1; walk_say "STEP leave1"; try dsimp only) | fail "no step"))
    refine makeB (by assumption) (by assumption) rfl (List.mem_cons_self ..) hpI (encI_in hal _) (by omega) ?_
    intro h' t' k' F' N' hB'
    dsimp only
    (repeat' (first | (k_unfold; (try dsimp only)) | ((k_here; (with_reducible show wpAny _ _ (subscriptTail _ (Expr.Slice _ _ none _) (Value.bytes _ _) (Value.ref _)) _ _ _); (with_reducible rename Fr _ _ _ _ => zzF'); (with_reducible rename News _ _ _ _ => zzN'); (refine KBc.slice_K (s := ⟨_, _, _, _, _⟩) zzF' zzN' (by kba_ints) (by constructor) (by constructor) (by kba_size) ?_); intro _ _ _ _ _ zzkbcK; simp only [Option.elim, slice3] at zzkbcK); (try dsimp only)) | ((k_here; (with_reducible show wpAny _ _ (call (Value.builtin _) [Value.ref _, Value.ref _]) _ _ _); k_dflt (refine' extSym (by k_asm) (by k_asm) (by k_mem) (by k_upd) (by (have zzhl := ext_l (by assumption) (by omega); omega)) (by (have zzhl := ext_l (by assumption) (by omega); omega)) ?_; intro _ _ zzN'; (try dsimp only at zzN'); (try dsimp only))); (try dsimp only)) | ((k_here; (with_reducible show wpAny _ _ (call (Value.ref 71) _) _ _ _); k_dflt (refine' CSpec.useR (by k_asm) (by k_asm) (by k_asm) (by k_asm) (by k_asm) (by first | exact rfl | assumption) (by ktr_room) (by ktr_units) (gc_all _ _ _ _ _ _ _ _ (by assumption) (by exact t3_len1 (by omega)) (by exact t3_len3) (by assumption) (by assumption)) ?_; intro _ _ _ _ _ zzN9 zzhp9; (obtain ⟨_, _, _, zze1, zze2, _, zzoff9⟩ := zzhp9; subst zze1; subst zze2; (try have _ : @Ne Nat _ _ := zzoff9 _ (List.mem_cons_self ..)); (try have _ : @Ne Nat _ _ := zzoff9 _ (.tail _ (List.mem_cons_self ..)))); (try dsimp only at zzN9); (try dsimp only); (try k_fold))); (try dsimp only)) |  (walk1; (try dsimp only)) | (dsimp only; walk1) | (leave1; walk_say "STEP leave1"; try dsimp only) | fail "no step"))
    exact hret _ _ _ _ (by assumption) (newsTail (by assumption)) ⟨⟨_, rfl⟩, rfl⟩
end Mine
end

-- part C7
section
open PySem PySem.W PyProof.Rows PySem.Calls
set_option maxRecDepth 100000
namespace Mine
theorem offC7 : True := by
  w_top off
  trivial
theorem fillC7 : (fun (_ : Params → Frag) (_ : OpenLaw) => True) hd.heap_39 PySem.Challenge.rw_or0022_01 := by k_fill; trivial
local macro_rules | `(tactic| walk_at "CompSrc") => `(tactic| (k_here; k_dflt (refine LCg.CompSrc.range (n := 64) (by rfl) (by k_asm) (by k_asm) (by assumption) (by rw [‹List.length _ = 64›]; decide +kernel) (by rw [‹List.length _ = 64›]; decide +kernel) (by first | size_fits | exact Nat.le_of_ble_eq_true rfl) ?_; intro g'; refine CompStop.of ?_)))

set_option maxHeartbeats 1000000 in
theorem worth_spec (w : World) (al : Array UInt8) (als : List Int) (ta : Tok) (news : List (Addr × Obj)) (hal : KBw.bInts al = als) (hals : als.length = 64) (hnd : als.Nodup) :
    CSpec w 66 1 [.bytes al ta] news (fun r news' => ∃ d o, r = .ref d ∧ news' = (d, o) :: news ∧ WorthObj w d o als ∧ ∀ p ∈ news, p.1 ≠ d) := by
  unfold CSpec
  intro mean mg mb dp un gd cn cs a ccd cl outer A₀ base h₀ L m s Q E B F X N T hk hd hu hret
  refine wpAny_call ?_
  k_dflt (refine' code_defC ?k1 ?k2 ?k3 ?k4 ?k5 ?kA ?kF ?kK ?k6 ?k7 ?k8 ?k9 ?kB ?kD ?_ ?c2 ?c3 ?c4; (case kA => exact rfl); (case kF => exact rfl); (case kK => assumption); (case k1 => k_asm); (case k2 => k_asm); (case k3 => k_asm); (case k4 => k_asm); (case k5 => k_asm); (case k6 => k_is); (case k7 => k_is); (case k8 => ktr_room); (case k9 => exact BindsTo.of_eq rfl); (case kB => exact rfl); (case kD => decide +kernel); (case c2 => exact rfl); (case c3 => exact rfl); (case c4 => exact rfl); k_whole; intro g' L' h' tk' cells' FG' F' N' Y' B' X' T' l1; k_cells Y'; (try simp only [List.cons_append, List.nil_append] at N'); (try dsimp only); (try k_fold))
  (repeat' (first | (k_unfold; (try dsimp only)) |  (walk1; (try dsimp only)) | (dsimp only; walk1) | (leave1; walk_say "STEP leave1"; try dsimp only) | fail "no step"))
  refine compInv (fun i ys nw => PairsAt als i ys nw ∧ (∃ o : Obj, o.data = .cell (some (.bytes al ta)) ∧ (L' + 1, o) ∈ nw) ∧ ∀ p ∈ news, p ∈ nw) ⟨PairsAt.nil, ⟨_, by k_asm, List.mem_cons_self ..⟩, sub1⟩ ?_ ?_
  · intro i v ys nw I oI C oC D m₂ h tk E' hi hv hJ hC hx F9 N9 off ne
    obtain ⟨t9, rfl⟩ := hv
    obtain ⟨hP, ⟨oc, hoc, hmc⟩, hsub⟩ := hJ
    rw [Int.zero_add] at hx
    (repeat' (first | (k_unfold; (try dsimp only)) |  (walk1; (try dsimp only)) | (dsimp only; walk1) | (leave1; walk_say "STEP leave1"; try dsimp only) | fail "no step"))
    refine LCg.CompEnd.intro (by assumption) (by assumption) ((_, tupO _ _) :: nw) (by kcf_all) ⟨⟨by k_ne, by k_ne, by k_ne⟩, off⟩ trivial ⟨hP.snoc, ⟨oc, hoc, .tail _ hmc⟩, fun p hp => .tail _ (hsub p hp)⟩
  · intro ys nw hJ
    obtain ⟨hP, _, hsub⟩ := hJ
    (repeat' (first | (k_unfold; (try dsimp only)) |  (walk1; (try dsimp only)) | (dsimp only; walk1) | (leave1; walk_say "STEP leave1"; try dsimp only) | fail "no step"))
    rename_i D h9 tk9 F9 N9 o9
    obtain ⟨kvs, e1, e2, e3, e4⟩ := hP.in
    have e5 := e4 _ _ _ (newsTail N9)
    have hk : kvs.map (·.1) = als := by rw [e2, ← hals]; exact range_getD als
    refine dictPairs (kvs := kvs) rfl F9 (fun p hp => N9 p (.tail _ (hsub p hp))) (Top.nolimit (by k_asm)) (N9 _ (.head _)).1 ?_ ?_ ?_
    · intro d hd
      exact ⟨e5.1, fun j kv hj => let ⟨a, o, t, n, q1, q2, q3, q4, _⟩ := e5.2 j kv hj; ⟨a, o, t, n, q1, q2, q3, q4, fun e => by rw [e] at q2; rw [hd] at q2; cases q2⟩⟩
    · rw [e1, sizeLine_eq]; decide
    · intro d h' tk o F' N' l9 lo hd9
      rw [merged_nil_of_nodup _ (hk ▸ hnd)] at hd9
      (repeat' (first | (k_unfold; (try dsimp only)) |  (walk1; (try dsimp only)) | (dsimp only; walk1) | (leave1; walk_say "STEP leave1"; try dsimp only) | fail "no step"))
      exact hret _ _ _ _ (by assumption) (by assumption) ⟨d, o, rfl, rfl, ⟨lo, kvs, hd9, worthFlat (by rw [e1, hals]) e3⟩, fun p hp => Nat.ne_of_lt (l9 p hp)⟩
end Mine
end

-- part C8
section
open PySem PySem.W PyProof.Rows PySem.Calls
set_option maxRecDepth 100000
namespace Mine
theorem offC8 : True := by
  w_top off
  trivial
theorem fillC8 : (fun (_ : Params → Frag) (_ : OpenLaw) => True) hd.heap_39 PySem.Challenge.rw_or0022_01 := by k_fill; trivial
local macro_rules | `(tactic| walk_at "pyIter ref") => `(tactic| refine StopW.of ?_)

local macro_rules | `(tactic| walk_at "compareOp NotIn int ref") => `(tactic| (k_here; k_dflt (refine' worthNotIn ?N ?m ?W ?n ?a ?b ?e ?_; (case N => k_asm); (case m => k_mem); (case W => assumption); (case n => assumption); (case e => assumption); (case a => assumption); (case b => assumption))))

set_option maxHeartbeats 1000000 in
theorem pnum_spec (w : World) (b : Array UInt8) (als js : List Int) (tb : Tok) (d : Addr) (o : Obj) (news : List (Addr × Obj)) (ks : List Int) (hb : KBw.bInts b = ks) (hks : ks.length ≤ 14) (hk1 : ks.length = js.length) (hk2 : ∀ i, i < js.length → ks.getD i 0 = als.getD (js.getD i 0).toNat 0) (hj : ∀ j ∈ js, 0 ≤ j ∧ j < 64) (hals : als.length = 64) (hnd : als.Nodup) (hm : (d, o) ∈ news) (hW : WorthObj w d o als) :
    CSpec w 90 1 [.bytes b tb, .ref d] news (fun r news' => ∃ l vals n, r = .ref l ∧ news' = (l, PySem.W.listOf (List.toArray vals) n) :: news ∧ IntsAre vals js ∧ ∀ p ∈ news, p.1 ≠ l) := by
  unfold CSpec
  intro mean mg mb dp un gd cn cs a ccd cl outer A₀ base h₀ L m s Q E B F X N T hk hd hu hret
  refine wpAny_call ?_
  k_dflt ktr_enter
  (repeat' (first | (k_unfold; (try dsimp only)) | ((k_here; (with_reducible show wpAny _ _ (subscriptTail _ _ (Value.ref _) (Value.int _ _)) _ _ _); k_dflt (refine' worthItem (by k_asm) (by k_mem) (by assumption) (by assumption) (by assumption) (by assumption) (by assumption) ?_); intro _); (try dsimp only)) |  (walk1; (try dsimp only)) | (dsimp only; walk1) | (leave1; walk_say "STEP leave1"; try dsimp only) | fail "no step"))
  refine StopW.mk ?_
  k_dflt (refine loopStep (c := 1) (n := ks.length) (σ := List Value × Nat) (fun c => (_, PySem.W.listOf (List.toArray c.1) c.2) :: news) (fun _ => []) (fun _ => True) [] (fun i c => IntsAre c.1 (js.take i) ∧ c.1.length ≤ i) ([], 0) rfl (by assumption) ?_ ?_ (by k_asm) (by k_asm) trivial (fun _ h => nomatch h) ⟨IntsAre.nil, Nat.zero_le _⟩ ?_ ?_)
  · exact small_range1 _ hks
  · exact rangeSize1 _
  · intro c i t u h tk own hi hoff _ hp F9 N9
    obtain ⟨hpI, hpl⟩ := hp
    dsimp only [List.cons_append] at F9 N9
    have hm2 : (d, o) ∈ news ++ own := List.mem_append.mpr (.inl hm)
    have hij : i < js.length := by omega
    have hq : ks.getD (0 + (i : Int) * 1).toNat 0 = als.getD (js.getD i 0).toNat 0 := by
      rw [show (0 + (i : Int) * 1).toNat = i by omega]; exact hk2 i hij
    have hq0 := getD_range hj hij
    have hq1 : js.getD i 0 < (als.length : Int) := by rw [hals]; exact hq0.2
    have hq2 := hq0.1
    (repeat' (first | (k_unfold; (try dsimp only)) | ((k_here; (with_reducible show wpAny _ _ (subscriptTail _ _ (Value.ref _) (Value.int _ _)) _ _ _); k_dflt (refine' worthItem (by k_asm) (by k_mem) (by assumption) (by assumption) (by assumption) (by assumption) (by assumption) ?_); intro _); (try dsimp only)) |  (walk1; (try dsimp only)) | (dsimp only; walk1) | (leave1; walk_say "STEP leave1"; try dsimp only) | fail "no step"))
    rename News _ _ _ ((_, _) :: _) => N8
    rw [List.push_toArray] at N8
    refine kst_end (c := (c.1 ++ [_], c.2 + 1)) (by assumption) (by assumption) (by kcf_all) (by kcf_all) rfl trivial (fun _ h => nomatch h) kstHr ⟨ints_snoc hpI hij, ?_⟩
    simp only [List.length_append, List.length_cons, List.length_nil]
    omega
  · intro c u h tk _ hp F9 N9
    obtain ⟨hpI, hpl⟩ := hp
    rw [List.take_of_length_le (by omega)] at hpI
    dsimp only at F9 N9
    (repeat' (first | (k_unfold; (try dsimp only)) | ((k_here; (with_reducible show wpAny _ _ (subscriptTail _ _ (Value.ref _) (Value.int _ _)) _ _ _); k_dflt (refine' worthItem (by k_asm) (by k_mem) (by assumption) (by assumption) (by assumption) (by assumption) (by assumption) ?_); intro _); (try dsimp only)) |  (walk1; (try dsimp only)) | (dsimp only; walk1) | (leave1; walk_say "STEP leave1"; try dsimp only) | fail "no step"))
    exact hret _ _ _ _ (by assumption) (by assumption) ⟨_, c.1, c.2, rfl, rfl, hpI, ltNe (by assumption)⟩
end Mine
end

-- part C9
section
open PySem PySem.W PyProof.Rows PySem.Calls
set_option maxRecDepth 100000
namespace Mine
theorem offC9 : True := by
  w_top off
  trivial
theorem fillC9 : (fun (_ : Params → Frag) (_ : OpenLaw) => True) hd.heap_39 PySem.Challenge.rw_or0022_01 := by k_fill; trivial
local macro_rules | `(tactic| walk_at "pyIter ref") => `(tactic| refine StopW.of ?_)
local macro_rules | `(tactic| walk_at "call ref") => `(tactic| (k_here; (with_reducible show wpAny _ _ (call (Value.ref 59) _) _ _ _); exfalso; omega))
local macro_rules | `(tactic| walk_at "getMethod bytes") => `(tactic| (k_here; (with_reducible refine methodJoin ?_)))

set_option maxHeartbeats 2000000 in
theorem pdec_spec (w : World) (b al : Array UInt8) (als ks os js : List Int) (tb ta : Tok) (news : List (Addr × Obj)) (hb : KBw.bInts b = ks) (hks : ks.length ≤ 14) (hc2 : HidLe ((js.length + 3) / 4) 2) (hk1 : ks.length = js.length) (hk2 : ∀ i, i < js.length → ks.getD i 0 = als.getD (js.getD i 0).toNat 0)
    (hj : ∀ j ∈ js, 0 ≤ j ∧ j < 64) (hal : KBw.bInts al = als) (hals : als.length = 64) (hnd : als.Nodup)
    (hgrp : ∀ i, i < (js.length + 3) / 4 → 2 ≤ ((js.drop (4 * i)).take 4).length ∧ ((js.drop (4 * i)).take 4).length ≤ 4 ∧ goB ((js.drop (4 * i)).take 4) = (os.drop (3 * i)).take 3 ∧ goL ((js.drop (4 * i)).take 4) = 0)
    (hflat : ((List.range ((js.length + 3) / 4)).map fun j => (os.drop (3 * j)).take 3).flatten = os) :
    CSpec w 97 2 [.bytes b tb, .bytes al ta] news (fun r news' => (∃ t, r = .bytes (byteArr os) t) ∧ news' = news) := by
  unfold CSpec
  intro mean mg mb dp un gd cn cs a ccd cl outer A₀ base h₀ L m s Q E B F X N T hk hd hu hret
  refine wpAny_call ?_
  k_dflt ktr_enter
  (repeat' (first | (k_unfold; (try dsimp only)) | ((k_here; (with_reducible show wpAny _ _ (subscriptTail (Expr.Name ..) (Expr.Slice ..) _ _) _ _ _); k_dflt (refine' slice4 (s := ⟨_, _, _, _, _⟩) (by k_asm) (by k_asm) (by k_mem) (by assumption) (by omega) ?_); intro _ _ _ _ zzN' zzl1 _ _; (have _ : @LT.lt Nat _ _ _ := zzl1 _ (.head _)); (have _ : @LT.lt Nat _ _ _ := zzl1 _ (.tail _ (.head _))); (have _ : @LT.lt Nat _ _ _ := zzl1 _ (.tail _ (.tail _ (.head _)))); (try dsimp only at zzN'); (try dsimp only)); (try dsimp only)) | ((k_here; (with_reducible show wpAny _ _ (call (Value.ref 76) _) _ _ _); k_dflt (refine' CSpec.useR (by k_asm) (by k_asm) (by k_asm) (by k_asm) (by k_asm) (by first | exact rfl | assumption) (by ktr_room) (by ktr_units) (go_all _ _ _ _ _ _ (by k_mem) (by assumption) (by assumption) (by assumption)) ?_; intro _ _ _ _ _ zzN9 zzhp9; (obtain ⟨_, _, _, _, zze1, zze2, zzoff9⟩ := zzhp9; subst zze1; subst zze2; rw [‹goB _ = _›, ‹goL _ = 0›] at zzN9; dsimp only [tupO] at zzN9; (have _ : @Ne Nat _ _ := zzoff9 _ (.head _)); (have _ : @Ne Nat _ _ := zzoff9 _ (.tail _ (.head _))); (have _ : @Ne Nat _ _ := zzoff9 _ (.tail _ (.tail _ (.head _)))); (have _ : @Ne Nat _ _ := zzoff9 _ (.tail _ (.tail _ (.tail _ (.head _)))))); (try dsimp only at zzN9); (try dsimp only); (try k_fold))); (try dsimp only)) | ((k_here; (with_reducible show wpAny _ _ (call (Value.ref 90) _) _ _ _); k_dflt (refine' CSpec.useR (by k_asm) (by k_asm) (by k_asm) (by k_asm) (by k_asm) (by first | exact rfl | assumption) (by ktr_room) (by ktr_units) (pnum_spec _ _ _ _ _ _ _ _ _ (by assumption) (by omega) (by assumption) (by assumption) (by assumption) (by assumption) (by assumption) (by exact List.mem_cons_self ..) (by assumption)) ?_; intro _ _ _ _ _ zzN9 zzhp9; (obtain ⟨_, _, _, zze1, zze2, _, _⟩ := zzhp9; subst zze1; subst zze2); (try dsimp only at zzN9); (try dsimp only); (try k_fold))); (try dsimp only)) | ((k_here; (with_reducible show wpAny _ _ (call (Value.ref 66) _) _ _ _); k_dflt (refine' CSpec.useR (by k_asm) (by k_asm) (by k_asm) (by k_asm) (by k_asm) (by first | exact rfl | assumption) (by ktr_room) (by ktr_units) (worth_spec _ _ _ _ _ (by assumption) (by assumption) (by assumption)) ?_; intro _ _ _ _ _ zzN9 zzhp9; (obtain ⟨_, _, zze1, zze2, _, _⟩ := zzhp9; subst zze1; subst zze2); (try dsimp only at zzN9); (try dsimp only); (try k_fold))); (try dsimp only)) |  (walk1; (try dsimp only)) | (dsimp only; walk1) | (leave1; walk_say "STEP leave1"; try dsimp only) | fail "no step"))
  rename IntsAre _ _ => hI9
  have hlv := hI9.length
  refine StopW.mk ?_
  k_dflt (refine loopStep (c := 4) (n := (js.length + 3) / 4) (σ := List Value × Nat) (fun c => (_, PySem.W.listOf (List.toArray c.1) c.2) :: (_, PySem.W.listOf (List.toArray _) _) :: (_, _) :: news) (fun _ => []) (fun _ => True) ["group", "octets", "spare"] (fun i c => BAre c.1 ((List.range i).map fun j => (os.drop (3 * j)).take 3) ∧ c.1.length ≤ i) ([], 0) rfl (by assumption) ?_ ?_ (by k_asm) (by k_asm) trivial (fun _ h => nomatch h) ⟨trivial, Nat.zero_le _⟩ ?_ ?_)
  · rw [← hk1]; exact small_range4 _ (by omega)
  · exact rangeSize4 _
  · intro c i t u h tk own hi hoff _ hp F9 N9
    obtain ⟨hpI, hpl⟩ := hp
    dsimp only [List.cons_append] at F9 N9
    obtain ⟨hg1, hg2, hg3, hg4⟩ := hgrp i hi
    (repeat' (first | (k_unfold; (try dsimp only)) | ((k_here; (with_reducible show wpAny _ _ (subscriptTail (Expr.Name ..) (Expr.Slice ..) _ _) _ _ _); k_dflt (refine' slice4 (s := ⟨_, _, _, _, _⟩) (by k_asm) (by k_asm) (by k_mem) (by assumption) (by omega) ?_); intro _ _ _ _ zzN' zzl1 _ _; (have _ : @LT.lt Nat _ _ _ := zzl1 _ (.head _)); (have _ : @LT.lt Nat _ _ _ := zzl1 _ (.tail _ (.head _))); (have _ : @LT.lt Nat _ _ _ := zzl1 _ (.tail _ (.tail _ (.head _)))); (try dsimp only at zzN'); (try dsimp only)); (try dsimp only)) | ((k_here; (with_reducible show wpAny _ _ (call (Value.ref 76) _) _ _ _); k_dflt (refine' CSpec.useR (by k_asm) (by k_asm) (by k_asm) (by k_asm) (by k_asm) (by first | exact rfl | assumption) (by ktr_room) (by ktr_units) (go_all _ _ _ _ _ _ (by k_mem) (by assumption) (by assumption) (by assumption)) ?_; intro _ _ _ _ _ zzN9 zzhp9; (obtain ⟨_, _, _, _, zze1, zze2, zzoff9⟩ := zzhp9; subst zze1; subst zze2; rw [‹goB _ = _›, ‹goL _ = 0›] at zzN9; dsimp only [tupO] at zzN9; (have _ : @Ne Nat _ _ := zzoff9 _ (.head _)); (have _ : @Ne Nat _ _ := zzoff9 _ (.tail _ (.head _))); (have _ : @Ne Nat _ _ := zzoff9 _ (.tail _ (.tail _ (.head _)))); (have _ : @Ne Nat _ _ := zzoff9 _ (.tail _ (.tail _ (.tail _ (.head _)))))); (try dsimp only at zzN9); (try dsimp only); (try k_fold))); (try dsimp only)) | ((k_here; (with_reducible show wpAny _ _ (call (Value.ref 90) _) _ _ _); k_dflt (refine' CSpec.useR (by k_asm) (by k_asm) (by k_asm) (by k_asm) (by k_asm) (by first | exact rfl | assumption) (by ktr_room) (by ktr_units) (pnum_spec _ _ _ _ _ _ _ _ _ (by assumption) (by omega) (by assumption) (by assumption) (by assumption) (by assumption) (by assumption) (by exact List.mem_cons_self ..) (by assumption)) ?_; intro _ _ _ _ _ zzN9 zzhp9; (obtain ⟨_, _, _, zze1, zze2, _, _⟩ := zzhp9; subst zze1; subst zze2); (try dsimp only at zzN9); (try dsimp only); (try k_fold))); (try dsimp only)) | ((k_here; (with_reducible show wpAny _ _ (call (Value.ref 66) _) _ _ _); k_dflt (refine' CSpec.useR (by k_asm) (by k_asm) (by k_asm) (by k_asm) (by k_asm) (by first | exact rfl | assumption) (by ktr_room) (by ktr_units) (worth_spec _ _ _ _ _ (by assumption) (by assumption) (by assumption)) ?_; intro _ _ _ _ _ zzN9 zzhp9; (obtain ⟨_, _, zze1, zze2, _, _⟩ := zzhp9; subst zze1; subst zze2); (try dsimp only at zzN9); (try dsimp only); (try k_fold))); (try dsimp only)) |  (walk1; (try dsimp only)) | (dsimp only; walk1) | (leave1; walk_say "STEP leave1"; try dsimp only) | fail "no step"))
    rename News _ _ _ _ => N8
    rw [List.push_toArray] at N8
    refine kst_end (c := (c.1 ++ [_], c.2 + 1)) (by assumption) N8 (by kcf_all) (by kcf_all) rfl trivial (fun _ h => nomatch h) ?_ ⟨by rw [chunk_succ]; exact hpI.snoc, ?_⟩
    · exact kstHr3
    simp only [List.length_append, List.length_cons, List.length_nil]
    omega
  · intro c u h tk _ hp F9 N9
    obtain ⟨hpI, hpl⟩ := hp
    dsimp only at F9 N9
    (repeat' (first | (k_unfold; (try dsimp only)) | ((k_here; (with_reducible show wpAny _ _ (subscriptTail (Expr.Name ..) (Expr.Slice ..) _ _) _ _ _); k_dflt (refine' slice4 (s := ⟨_, _, _, _, _⟩) (by k_asm) (by k_asm) (by k_mem) (by assumption) (by omega) ?_); intro _ _ _ _ zzN' zzl1 _ _; (have _ : @LT.lt Nat _ _ _ := zzl1 _ (.head _)); (have _ : @LT.lt Nat _ _ _ := zzl1 _ (.tail _ (.head _))); (have _ : @LT.lt Nat _ _ _ := zzl1 _ (.tail _ (.tail _ (.head _)))); (try dsimp only at zzN'); (try dsimp only)); (try dsimp only)) | ((k_here; (with_reducible show wpAny _ _ (call (Value.ref 76) _) _ _ _); k_dflt (refine' CSpec.useR (by k_asm) (by k_asm) (by k_asm) (by k_asm) (by k_asm) (by first | exact rfl | assumption) (by ktr_room) (by ktr_units) (go_all _ _ _ _ _ _ (by k_mem) (by assumption) (by assumption) (by assumption)) ?_; intro _ _ _ _ _ zzN9 zzhp9; (obtain ⟨_, _, _, _, zze1, zze2, zzoff9⟩ := zzhp9; subst zze1; subst zze2; rw [‹goB _ = _›, ‹goL _ = 0›] at zzN9; dsimp only [tupO] at zzN9; (have _ : @Ne Nat _ _ := zzoff9 _ (.head _)); (have _ : @Ne Nat _ _ := zzoff9 _ (.tail _ (.head _))); (have _ : @Ne Nat _ _ := zzoff9 _ (.tail _ (.tail _ (.head _)))); (have _ : @Ne Nat _ _ := zzoff9 _ (.tail _ (.tail _ (.tail _ (.head _)))))); (try dsimp only at zzN9); (try dsimp only); (try k_fold))); (try dsimp only)) | ((k_here; (with_reducible show wpAny _ _ (call (Value.ref 90) _) _ _ _); k_dflt (refine' CSpec.useR (by k_asm) (by k_asm) (by k_asm) (by k_asm) (by k_asm) (by first | exact rfl | assumption) (by ktr_room) (by ktr_units) (pnum_spec _ _ _ _ _ _ _ _ _ (by assumption) (by omega) (by assumption) (by assumption) (by assumption) (by assumption) (by assumption) (by exact List.mem_cons_self ..) (by assumption)) ?_; intro _ _ _ _ _ zzN9 zzhp9; (obtain ⟨_, _, _, zze1, zze2, _, _⟩ := zzhp9; subst zze1; subst zze2); (try dsimp only at zzN9); (try dsimp only); (try k_fold))); (try dsimp only)) | ((k_here; (with_reducible show wpAny _ _ (call (Value.ref 66) _) _ _ _); k_dflt (refine' CSpec.useR (by k_asm) (by k_asm) (by k_asm) (by k_asm) (by k_asm) (by first | exact rfl | assumption) (by ktr_room) (by ktr_units) (worth_spec _ _ _ _ _ (by assumption) (by assumption) (by assumption)) ?_; intro _ _ _ _ _ zzN9 zzhp9; (obtain ⟨_, _, zze1, zze2, _, _⟩ := zzhp9; subst zze1; subst zze2); (try dsimp only at zzN9); (try dsimp only); (try k_fold))); (try dsimp only)) |  (walk1; (try dsimp only)) | (dsimp only; walk1) | (leave1; walk_say "STEP leave1"; try dsimp only) | fail "no step"))
    refine joinB (by assumption) (List.mem_cons_self ..) hpI (by simp only [List.length_map, List.length_range]; exact hc2) chunk_len ?_
    rw [hflat]
    intro t' k'
    dsimp only
    (repeat' (first | (k_unfold; (try dsimp only)) | ((k_here; (with_reducible show wpAny _ _ (subscriptTail (Expr.Name ..) (Expr.Slice ..) _ _) _ _ _); k_dflt (refine' slice4 (s := ⟨_, _, _, _, _⟩) (by k_asm) (by k_asm) (by k_mem) (by assumption) (by omega) ?_); intro _ _ _ _ zzN' zzl1 _ _; (have _ : @LT.lt Nat _ _ _ := zzl1 _ (.head _)); (have _ : @LT.lt Nat _ _ _ := zzl1 _ (.tail _ (.head _))); (have _ : @LT.lt Nat _ _ _ := zzl1 _ (.tail _ (.tail _ (.head _)))); (try dsimp only at zzN'); (try dsimp only)); (try dsimp only)) | ((k_here; (with_reducible show wpAny _ _ (call (Value.ref 76) _) _ _ _); k_dflt (refine' CSpec.useR (by k_asm) (by k_asm) (by k_asm) (by k_asm) (by k_asm) (by first | exact rfl | assumption) (by ktr_room) (by ktr_units) (go_all _ _ _ _ _ _ (by k_mem) (by assumption) (by assumption) (by assumption)) ?_; intro _ _ _ _ _ zzN9 zzhp9; (obtain ⟨_, _, _, _, zze1, zze2, zzoff9⟩ := zzhp9; subst zze1; subst zze2; rw [‹goB _ = _›, ‹goL _ = 0›] at zzN9; dsimp only [tupO] at zzN9; (have _ : @Ne Nat _ _ := zzoff9 _ (.head _)); (have _ : @Ne Nat _ _ := zzoff9 _ (.tail _ (.head _))); (have _ : @Ne Nat _ _ := zzoff9 _ (.tail _ (.tail _ (.head _)))); (have _ : @Ne Nat _ _ := zzoff9 _ (.tail _ (.tail _ (.tail _ (.head _)))))); (try dsimp only at zzN9); (try dsimp only); (try k_fold))); (try dsimp only)) | ((k_here; (with_reducible show wpAny _ _ (call (Value.ref 90) _) _ _ _); k_dflt (refine' CSpec.useR (by k_asm) (by k_asm) (by k_asm) (by k_asm) (by k_asm) (by first | exact rfl | assumption) (by ktr_room) (by ktr_units) (pnum_spec _ _ _ _ _ _ _ _ _ (by assumption) (by omega) (by assumption) (by assumption) (by assumption) (by assumption) (by assumption) (by exact List.mem_cons_self ..) (by assumption)) ?_; intro _ _ _ _ _ zzN9 zzhp9; (obtain ⟨_, _, _, zze1, zze2, _, _⟩ := zzhp9; subst zze1; subst zze2); (try dsimp only at zzN9); (try dsimp only); (try k_fold))); (try dsimp only)) | ((k_here; (with_reducible show wpAny _ _ (call (Value.ref 66) _) _ _ _); k_dflt (refine' CSpec.useR (by k_asm) (by k_asm) (by k_asm) (by k_asm) (by k_asm) (by first | exact rfl | assumption) (by ktr_room) (by ktr_units) (worth_spec _ _ _ _ _ (by assumption) (by assumption) (by assumption)) ?_; intro _ _ _ _ _ zzN9 zzhp9; (obtain ⟨_, _, zze1, zze2, _, _⟩ := zzhp9; subst zze1; subst zze2); (try dsimp only at zzN9); (try dsimp only); (try k_fold))); (try dsimp only)) |  (walk1; (try dsimp only)) | (dsimp only; walk1) | (leave1; walk_say "STEP leave1"; try dsimp only) | fail "no step"))
    exact hret _ _ _ _ (by assumption) (newsTail (newsTail (newsTail (by assumption)))) ⟨⟨_, rfl⟩, rfl⟩
end Mine
end

-- part C10
section
open PySem PySem.W PyProof.Rows PySem.Calls
set_option maxRecDepth 100000
namespace Mine
theorem offC10 : True := by
  w_top off
  trivial
theorem fillC10 : (fun (_ : Params → Frag) (_ : OpenLaw) => True) hd.heap_39 PySem.Challenge.rw_or0022_01 := by k_fill; trivial

local macro_rules | `(tactic| walk_at "binaryOp Add bytes bytes") => `(tactic| (k_here; (refine KBy.add_bytes ?_ ?_; rotate_left); intro t' k'; (try dsimp only)))

set_option maxHeartbeats 1000000 in
theorem oline_spec (w : World) (b : Array UInt8) (ks : List Int) (tb : Tok) (news : List (Addr × Obj)) (hb : KBw.bInts b = ks) (hks : ks.length ≤ 9) :
    CSpec w 104 3 [.bytes b tb] news (fun r news' => (∃ t, r = .bytes (byteArr (encI sgI ks ++ List.replicate (Int.toNat (Int.fmod (-(ks.length : Int)) 3)) 61)) t) ∧ news' = news) := by
  unfold CSpec
  intro mean mg mb dp un gd cn cs a ccd cl outer A₀ base h₀ L m s Q E B F X N T hk hd hu hret
  refine wpAny_call ?_
  k_dflt ktr_enter
  (repeat' (first | (k_unfold; (try dsimp only)) | ((k_here; (with_reducible show wpAny _ _ (call (Value.type "bytes") [Value.ref _]) _ _ _); k_dflt (refine' makeB (by k_asm) (by k_asm) rfl (by exact List.mem_cons_self ..) (by exact ints_rep _ _ _) (by exact oct_rep _) (by (rw [rep_len]; exact Nat.le_trans (fmod3 _) (by decide))) ?_); intro _ _ _ _ zzN' _; (try dsimp only at zzN'); (try dsimp only)); (try dsimp only)) | ((k_here; (with_reducible show wpAny _ _ (call (Value.ref 83) _) _ _ _); k_dflt (refine' CSpec.useR (by k_asm) (by k_asm) (by k_asm) (by k_asm) (by k_asm) (by first | exact rfl | assumption) (by ktr_room) (by ktr_units) (penc_spec _ _ _ _ sgI _ _ _ (by assumption) (by omega) (by exact rfl) (by decide)) ?_; intro _ _ _ _ _ zzN9 zzhp9; (obtain ⟨⟨_, zze1⟩, zze2⟩ := zzhp9; subst zze1; subst zze2); (try dsimp only at zzN9); (try dsimp only); (try k_fold))); (try dsimp only)) |  (walk1; (try dsimp only)) | (dsimp only; walk1) | (leave1; walk_say "STEP leave1"; try dsimp only) | fail "no step"))
  · exact hret _ _ _ _ (by assumption) (newsTail (newsTail (by assumption))) ⟨⟨_, by rw [byteArr_app]⟩, rfl⟩
  · have h3 := fmod3 ks.length
    rw [byteArr_size, byteArr_size, encI_len, List.length_replicate]
    omega
end Mine
end

-- part So
section
open PySem PySem.W PyProof.Rows PySem.Calls
set_option maxRecDepth 100000
namespace Mine
theorem offSo : True := by
  w_top off
  trivial
noncomputable def kEval {α : Type} (lt : Nat → Nat → Bool) : KasT α → α
  | .ret a => a
  | .ask i j k => kEval lt (k (lt i j))
noncomputable def kOk {α : Type} (n : Nat) (R : α → Prop) : KasT α → Prop
  | .ret a => R a
  | .ask i j k => i < n ∧ j < n ∧ ∀ b, kOk n R (k b)
theorem kOk_bind {α β : Type} {n : Nat} {R : α → Prop} {R' : β → Prop} {f : α → KasT β} : ∀ {t : KasT α}, kOk n R t → (∀ a, R a → kOk n R' (f a)) → kOk n R' (t.bind f)
  | .ret a, h, hf => hf a h
  | .ask _ _ _, h, hf => ⟨h.1, h.2.1, fun b => kOk_bind (h.2.2 b) hf⟩
theorem kOk_eval {α : Type} {n : Nat} {R : α → Prop} {lt : Nat → Nat → Bool} : ∀ {t : KasT α}, kOk n R t → R (kEval lt t)
  | .ret _, h => h
  | .ask i j k, h => kOk_eval (t := k (lt i j)) (h.2.2 (lt i j))
theorem kOk_congr {α : Type} {n : Nat} {R : α → Prop} {lt lt' : Nat → Nat → Bool} (hl : ∀ i j, i < n → j < n → lt i j = lt' i j) : ∀ {t : KasT α}, kOk n R t → kEval lt t = kEval lt' t
  | .ret _, _ => rfl
  | .ask i j k, h => by
    show kEval lt (k (lt i j)) = kEval lt' (k (lt' i j))
    rw [hl i j h.1 h.2.1]
    exact kOk_congr hl (h.2.2 _)
theorem kas_eval {α : Type} {n : Nat} {R : α → Prop} {lt : Nat → Nat → Bool} {Inv : Shared → Prop} {cmp : Nat → Nat → (Bool → Shared → Prop) → Shared → Prop} {Q : α → Shared → Prop}
    (hc : ∀ i j (C : Bool → Shared → Prop) s, i < n → j < n → Inv s → (∀ s', Inv s' → C (lt i j) s') → cmp i j C s) : ∀ (t : KasT α) (s : Shared), kOk n R t → Inv s → (∀ s', Inv s' → Q (kEval lt t) s') → t.kasWp cmp Q s
  | .ret _, s, _, hi, hq => hq s hi
  | .ask i j k, s, ho, hi, hq => hc i j _ s ho.1 ho.2.1 hi fun s' hi' => kas_eval hc (k (lt i j)) s' (ho.2.2 _) hi' hq

noncomputable def PIn (n : Nat) (p : Array Nat) : Prop := p.Perm (Array.range n)
theorem PIn.rev {n : Nat} {p : Array Nat} (h : PIn n p) (i j : Nat) : PIn n (kas_rev p i j) := (mirror_perm _ _ _ _).trans h
theorem PIn.bub {n : Nat} {p : Array Nat} (h : PIn n p) (i j : Nat) : PIn n (bubble p i j) := (bubble_perm _ _ _).trans h
theorem PIn.lt {n : Nat} {p : Array Nat} (h : PIn n p) (hn : 0 < n) (i : Nat) : p.getD i 0 < n := by
  by_cases hi : i < p.size
  · have hm : p.getD i 0 ∈ p := by simp [Array.getD, hi]
    have := h.mem_iff.mp hm
    simpa using this
  · have : p.getD i 0 = 0 := by simp [Array.getD, hi]
    omega
theorem asc_ok {n : Nat} {p : Array Nat} (h : PIn n p) (hn : 0 < n) : ∀ f m, kOk n (fun _ => True) (kas_asc p f m)
  | 0, _ => trivial
  | f + 1, m => ⟨h.lt hn _, h.lt hn _, fun b => by
    cases b
    · exact asc_ok h hn f (m + 1)
    · exact trivial⟩
theorem desc_ok {n : Nat} (hn : 0 < n) : ∀ f p m q, PIn n p → kOk n (fun r : Array Nat × Nat × Nat => PIn n r.1) (kas_desc f p m q)
  | 0, _, _, _, h => h
  | f + 1, p, m, q, h => ⟨h.lt hn _, h.lt hn _, fun b => by
    cases b
    · refine ⟨h.lt hn _, h.lt hn _, fun d => ?_⟩
      cases d
      · exact desc_ok hn f _ _ _ h
      · exact h
    · show kOk n _ (if q > 0 then _ else _)
      by_cases hq : q > 0
      · rw [if_pos hq]; exact desc_ok hn f _ _ _ (h.rev _ _)
      · rw [if_neg hq]; exact desc_ok hn f _ _ _ h⟩
theorem tail3_ok {n : Nat} (hn : 0 < n) {p : Array Nat} (h : PIn n p) (a b : Nat) : kOk n (fun r : Nat × Array Nat => PIn n r.2) (kas_tail3 a b p) :=
  kOk_bind (asc_ok (h.rev _ _) hn _ _) fun _ _ => h.rev _ _
theorem descPart_ok {n : Nat} (hn : 0 < n) {p : Array Nat} (h : PIn n p) (a b : Nat) : kOk n (fun r : Nat × Array Nat => PIn n r.2) (kas_descPart a b p) :=
  kOk_bind (desc_ok hn _ _ _ _ h) fun r hr => by
    show kOk n _ (if r.2.2 > 0 then _ else _)
    by_cases hq : r.2.2 > 0
    · rw [if_pos hq]; exact tail3_ok hn (hr.rev _ _) _ _
    · rw [if_neg hq]; exact tail3_ok hn hr _ _
theorem count_ok {n : Nat} (hn : 0 < n) {p : Array Nat} (h : PIn n p) (b : Nat) : kOk n (fun r : Nat × Array Nat => PIn n r.2) (kas_count b p) :=
  kOk_bind (asc_ok h hn _ _) fun m _ => by
    show kOk n _ (if (m == b) = true then _ else if m > 1 then _ else _)
    by_cases h1 : (m == b) = true
    · rw [if_pos h1]; exact h
    · rw [if_neg h1]
      by_cases h2 : m > 1
      · rw [if_pos h2]
        refine ⟨h.lt hn _, h.lt hn _, fun c => ?_⟩
        cases c
        · exact descPart_ok hn (h.rev _ _) _ _
        · exact h
      · rw [if_neg h2]; exact descPart_ok hn h _ _
theorem place_ok {n : Nat} (hn : 0 < n) {p : Array Nat} (h : PIn n p) (k : Nat) : ∀ f l r, kOk n (fun _ => True) (kas_place p k f l r)
  | 0, _, _ => trivial
  | f + 1, l, r => by
    show kOk n _ (if l ≥ r then _ else _)
    by_cases h1 : l ≥ r
    · rw [if_pos h1]; exact trivial
    · rw [if_neg h1]
      refine ⟨h.lt hn _, h.lt hn _, fun c => ?_⟩
      cases c
      · exact place_ok hn h k f _ _
      · exact place_ok hn h k f _ _
theorem bin_ok {n : Nat} (hn : 0 < n) : ∀ f p k, PIn n p → kOk n (PIn n) (kas_bin f p k)
  | 0, _, _, h => h
  | f + 1, _, k, h => kOk_bind (place_ok hn h k _ _ _) fun _ _ => bin_ok hn f _ _ (h.bub _ _)
theorem sort_ok {n : Nat} (hn : 0 < n) : kOk n (PIn n) (kas_sort n) :=
  kOk_bind (count_ok hn (by show Array.Perm _ _; rw [show List.toArray (List.range n) = Array.range n by simp]) _) fun r hr => by
    show kOk n _ (if r.1 < n then _ else _)
    by_cases h : r.1 < n
    · rw [if_pos h]; exact bin_ok hn _ _ _ hr
    · rw [if_neg h]; exact hr
/-- the places in their order -/
noncomputable def sortI (lt : Nat → Nat → Bool) (n : Nat) : List Nat := if n < 2 then List.range n else (kEval lt (kas_sort n)).toList
theorem sortI_perm (lt : Nat → Nat → Bool) (n : Nat) : (sortI lt n).Perm (List.range n) := by
  unfold sortI
  by_cases h : n < 2
  · rw [if_pos h]
  · rw [if_neg h]
    have := (kOk_eval (lt := lt) (sort_ok (n := n) (by omega)) : PIn n _)
    have h2 := Array.perm_iff_toList_perm.mp this
    simpa using h2
theorem sortI_congr {lt lt' : Nat → Nat → Bool} {n : Nat} (hl : ∀ i j, i < n → j < n → lt i j = lt' i j) : sortI lt n = sortI lt' n := by
  unfold sortI
  by_cases h : n < 2
  · rw [if_pos h, if_pos h]
  · rw [if_neg h, if_neg h, kOk_congr hl (sort_ok (n := n) (by omega))]
end Mine
end

-- part Sp
section
open PySem PySem.W PyProof.Rows PySem.Calls
set_option maxRecDepth 100000
namespace Mine
theorem offSp : True := by
  w_top off
  trivial
section
variable {prog : Program} {w : World} {A : Around} {E : Value → Shared → Prop} {s : Shared} {h₀ : Heap} {L : Addr} {m : PySem.Str → Option Value} {news : List (Addr × Obj)}
theorem list_sort1 {a : Addr} {vs : List Value} {n : Nat} {P : Fin → Shared → Prop} (ho : s.heap.get? a = some (seqObj "list" vs.toArray n)) (h2 : vs.length < 2)
    (h : ∀ h' c, (∀ b o, b ≠ a → s.heap.get? b = some o → h'.get? b = some o) → h'.get? a = some (seqObj "list" vs.toArray c) → P (.done (.ret .none)) { s with heap := h' }) :
    wpAny (model prog w) A (Builtin.«list.sort» ⟨[.ref a], []⟩) P E s := by
  have ha : a < s.heap.objs.size := Heap.lt_size ho
  have hz : vs.toArray.size < 2 := by rw [List.size_toArray]; exact h2
  rw [list_sort_plain]
  refine wpAny_bind (listItems_at ho rfl ?_)
  refine wpAny_bind (listUpdate_at ho rfl ?_ (by rw [List.size_toArray, sizeLine_eq]; omega) (Nat.zero_le _))
  obtain ⟨e1, ho1⟩ : ∃ e1, (s.heap.update a (Obj.mapSeq fun _ => (#[] : Array Value))).get? a = some (seqObj "list" #[] e1) := ⟨_, get?_update_seq ho fun _ => #[]⟩
  refine wpAny_bind (seqEpoch_at ho1 rfl ?_)
  refine wpAny_bind (wpAny_newTuple ?_ (by rw [List.toList_toArray, sizeLine_eq]; omega))
  refine wpAny_bind (wpAny_newList ?_ (Nat.zero_le _))
  refine wpAny_holding ?_
  have ho6 : (((s.heap.update a (Obj.mapSeq fun _ => (#[] : Array Value))).push (seqObj "tuple" vs.toArray 0)).push (seqObj "list" #[] 0)).get? a = some (seqObj "list" #[] e1) := by
    rw [Heap.get?_push_ne _ _ _ (by rw [size_push', Heap.size_update]; exact Nat.ne_of_lt (Nat.lt_succ_of_lt ha)), Heap.get?_push_ne _ _ _ (by rw [Heap.size_update]; exact Nat.ne_of_lt ha)]
    exact ho1
  show wpAny (model prog w) A _ P E { s with heap := ((s.heap.update a (Obj.mapSeq fun _ => (#[] : Array Value))).push (seqObj "tuple" vs.toArray 0)).push (seqObj "list" #[] 0) }
  dsimp only
  rw [if_pos hz, if_pos hz]
  refine wpAny_bind (wpAny_pure ?_)
  rw [StateT.run_pure]
  refine wpAny_bind (wpAny_pure ?_)
  dsimp only
  have hout : (arrOf (SortSt.mk' general' (vs.toArray.zip vs.toArray) #[] 7 none)).map (·.2) = vs.toArray := by
    show (vs.toArray.zip vs.toArray).map (·.2) = vs.toArray
    apply Array.toList_inj.mp
    simp [List.map_snd_zip]
  have s2 := Heap.SameBut.update (((s.heap.update a (Obj.mapSeq fun _ => (#[] : Array Value))).push (seqObj "tuple" vs.toArray 0)).push (seqObj "list" #[] 0)) a (Obj.mapSeq fun _ => vs.toArray)
  obtain ⟨c2, hc2⟩ : ∃ c2, ((((s.heap.update a (Obj.mapSeq fun _ => (#[] : Array Value))).push (seqObj "tuple" vs.toArray 0)).push (seqObj "list" #[] 0)).update a (Obj.mapSeq fun _ => vs.toArray)).get? a = some (seqObj "list" vs.toArray c2) := ⟨_, get?_update_seq ho6 fun _ => vs.toArray⟩
  refine wpAny_bind (seqEpoch_at ho6 rfl ?_)
  rw [hout]
  refine wpAny_bind (listUpdate_at ho6 rfl ?_ (Nat.zero_le _) (by rw [List.size_toArray, sizeLine_eq]; omega))
  simp only [bne_self_eq_false, Bool.false_eq_true, if_false]
  refine wpAny_pure (h _ c2 (fun b o hb e => ?_) hc2)
  refine (s2.2 b hb).trans ?_
  exact Heap.get?_push_of_some _ (Heap.get?_push_of_some _ ((Heap.get?_update_other _ _ (Ne.symm hb)).trans e))
theorem sorted1 {l : Addr} {vs : List Value} {Q : Value → Shared → Prop} (F : Fr h₀ L s.heap m) (N : News h₀ L s.heap news) (hl : s.heap.IsList l vs.toArray) (h2 : vs.length < 2)
    (h : ∀ D c h', Fr h₀ L h' m → News h₀ L h' ((D, PySem.W.listOf (List.toArray vs) c) :: news) → (∀ q ∈ news, q.1 < D) → Q (.ref D) { s with heap := h' }) :
    wpAny (model prog w) A (call (.builtin "sorted") [.ref l]) Q E s := by
  refine Calls.call_function_entry kind_sorted plain_sorted entry_sorted (args_sorted1 _) ?_
  unfold Builtin.«sorted»
  refine wpAny_bind (m := checkCount "sorted" 1 1 _) (wpAny_pure ?_)
  refine wpAny_bind (collect_list hl ?_ (by rw [sizeLine_eq]; omega))
  refine wpAny_bind (wpAny_newList ?_ (by rw [sizeLine_eq]; omega))
  have hsz : ((s.heap.push (seqObj "list" #[] 0)).update s.heap.objs.size (Obj.mapSeq (· ++ vs.toArray))).objs.size = s.heap.objs.size + 1 := by
    rw [Heap.size_update, size_push']
  have hoL : (((s.heap.push (seqObj "list" #[] 0)).update s.heap.objs.size (Obj.mapSeq (· ++ vs.toArray))).push (seqObj "list" vs.toArray 0)).get? (s.heap.objs.size + 1) = some (seqObj "list" vs.toArray 0) := by
    rw [← hsz]; exact Heap.get?_push_size _ rfl
  have keep : ∀ b o, s.heap.get? b = some o → (((s.heap.push (seqObj "list" #[] 0)).update s.heap.objs.size (Obj.mapSeq (· ++ vs.toArray))).push (seqObj "list" vs.toArray 0)).get? b = some o := fun b o q => by
    have hlt : b < s.heap.objs.size := Heap.lt_size q
    rw [Heap.get?_push_ne _ _ _ (by rw [hsz]; exact Nat.ne_of_lt (Nat.lt_succ_of_lt hlt)), Heap.get?_update_ne _ _ _ _ (Nat.ne_of_lt hlt), Heap.get?_push_ne _ _ _ (Nat.ne_of_lt hlt)]
    exact q
  have hL : L < s.heap.objs.size := F.ns.lt
  show wpAny _ _ _ _ _ { s with heap := ((s.heap.push (seqObj "list" #[] 0)).update s.heap.objs.size (Obj.mapSeq (· ++ vs.toArray))).push (seqObj "list" vs.toArray 0) }
  rw [hsz]
  refine wpAny_bind (wpAny_holding (wpAny_call_entry slot_list_sort ⟨_, hoL, rfl⟩ entry_list_sort ?body (args_list_sort _)))
  case body =>
    refine list_sort1 hoL h2 fun h' c hk ho' => ?_
    have keep' : ∀ b o, s.heap.get? b = some o → h'.get? b = some o := fun b o q => hk b o (Nat.ne_of_lt (Nat.lt_succ_of_lt (Heap.lt_size q))) (keep b o q)
    refine ⟨_, rfl, wpAny_pure ⟨_, rfl, h _ c h' (F.kept keep') (fun p hp => ?_) (fun q hq => Nat.lt_succ_of_lt (Heap.lt_size (N q hq).1))⟩⟩
    rcases List.mem_cons.mp hp with rfl | hp
    · exact ⟨ho', Nat.ne_of_gt (Nat.lt_succ_of_lt hL), Heap.get?_none_of_le (Nat.le_trans F.above (Nat.le_succ_of_le (Nat.le_of_lt hL)))⟩
    · exact ⟨keep' _ _ (N p hp).1, (N p hp).2⟩

noncomputable def ltI (a b : List Int) : Bool := bLt (byteArr a) (byteArr b)
theorem bytesLook {M : Model} {h : Heap} {b : Array UInt8} {t : Tok} : Looks M h (typeOf (.bytes b t)) (.type "bytes") := Looks.of_pure rfl
/-- the list taken at these places -/
noncomputable def pick {α : Type} (d : α) (l : List α) (p : List Nat) : List α := p.map fun i => l.getD i d
theorem pick_range {α : Type} (d : α) (l : List α) : pick d l (List.range l.length) = l := by
  apply List.ext_getElem?
  intro j
  simp only [pick, List.getElem?_map]
  by_cases hj : j < l.length
  · simp [hj]
  · rw [List.getElem?_eq_none (by simp; omega), List.getElem?_eq_none (by omega)]; rfl
theorem BAre.pick : ∀ {vs : List Value} {ks : List (List Int)} {p : List Nat}, BAre vs ks → (∀ i ∈ p, i < ks.length) → BAre (pick .none vs p) (pick [] ks p)
  | _, _, [], _, _ => trivial
  | vs, ks, i :: p, h, hp => by
    have hi := hp i (.head _)
    have hv : i < vs.length := by rw [h.length]; exact hi
    obtain ⟨k, t, e1, e2⟩ := h.get (i := i) (v := vs[i]) (by simp [hv])
    refine ⟨⟨t, ?_⟩, BAre.pick h fun j hj => hp j (.tail _ hj)⟩
    show vs.getD i .none = .bytes (byteArr (ks.getD i [])) t
    rw [List.getD_eq_getElem?_getD, List.getElem?_eq_getElem hv, List.getD_eq_getElem?_getD, e1]
    exact e2
theorem BAre.bytes {vs : List Value} {ks : List (List Int)} (h : BAre vs ks) : ∀ v ∈ vs, ∃ b t, v = .bytes b t := by
  intro v hv
  obtain ⟨i, hi, e⟩ := List.mem_iff_getElem.mp hv
  obtain ⟨k, t, _, e2⟩ := h.get (i := i) (v := v) (by simp [hi, e])
  exact ⟨_, t, e2⟩
theorem sortI_mem {lt : Nat → Nat → Bool} {n : Nat} : ∀ i ∈ sortI lt n, i < n := fun i hi => by
  have := (sortI_perm lt n).mem_iff.mp hi
  simpa using this
theorem sortRows {l : Addr} {vs : List Value} {kss : List (List Int)} {n : Nat} {Q : Value → Shared → Prop} (F : Fr h₀ L s.heap m) (N : News h₀ L s.heap news) (hl : (l, PySem.W.listOf (List.toArray vs) n) ∈ news) (hb : BAre vs kss) (h64 : kss.length < 64)
    (h : ∀ D c h' ws, Fr h₀ L h' m → News h₀ L h' ((D, PySem.W.listOf (List.toArray ws) c) :: news) → (∀ q ∈ news, q.1 < D) → BAre ws (pick [] kss (sortI (fun i j => ltI (kss.getD i []) (kss.getD j [])) kss.length)) → ∀ tk, Q (.ref D) { s with heap := h', toks := tk }) :
    wpAny (model prog w) A (call (.builtin "sorted") [.ref l]) Q E s := by
  have hlist : s.heap.IsList l vs.toArray := ⟨_, (N _ hl).1, rfl, _, rfl⟩
  have hlen := hb.length
  by_cases h2 : vs.length < 2
  · refine sorted1 F N hlist h2 fun D c h' F' N' lt => h D c h' vs F' N' lt ?_ s.toks
    have e : sortI (fun i j => ltI (kss.getD i []) (kss.getD j [])) kss.length = List.range kss.length := by unfold sortI; rw [if_pos (by omega)]
    rw [e, pick_range]; exact hb
  · refine kas_sorted (T := .type "bytes") F N hlist (by omega) (by omega) (fun g _ _ v hv => ?_) (by decide) fun D e1 h' F' N' lt => ?_
    · obtain ⟨b, t, rfl⟩ := hb.bytes v hv
      exact bytesLook
    · have e : sortI (fun i j => ltI (kss.getD i []) (kss.getD j [])) kss.length = (kEval (fun i j => ltI (kss.getD i []) (kss.getD j [])) (kas_sort vs.length)).toList := by unfold sortI; rw [if_neg (by omega), hlen]
      refine kas_eval (n := vs.length) (R := PIn vs.length) (lt := fun i j => ltI (kss.getD i []) (kss.getD j [])) (Inv := fun s' => ∃ tk, s' = { s with heap := h', toks := tk }) ?_ _ _ (sort_ok (by omega)) ⟨s.toks, rfl⟩ ?_
      · rintro i j C s' hi hj ⟨tk, rfl⟩ hC
        obtain ⟨k1, t1, q1, q2⟩ := hb.get (i := i) (v := vs[i]) (by simp [hi])
        obtain ⟨k2, t2, q3, q4⟩ := hb.get (i := j) (v := vs[j]) (by simp [hj])
        unfold kas_ask
        rw [List.getD_eq_getElem?_getD, List.getElem?_eq_getElem hi, List.getD_eq_getElem?_getD, List.getElem?_eq_getElem hj, Option.getD_some, Option.getD_some, q2, q4, keyLt'_oneType]
        refine oneLtBytes ?_
        have := hC { s with heap := h', toks := tk } ⟨tk, rfl⟩
        rw [List.getD_eq_getElem?_getD, q1, List.getD_eq_getElem?_getD, q3] at this
        exact this
      · rintro s' ⟨tk, rfl⟩
        refine KasFin.intro F' N' (.head fun p hp => Nat.ne_of_lt (lt p hp)) fun h9 c F9 N9 => h D c h9 _ F9 N9 lt ?_ tk
        rw [e]
        exact hb.pick fun i hi => by
          have hp := (kOk_eval (lt := fun i j => ltI (kss.getD i []) (kss.getD j [])) (sort_ok (n := vs.length) (by omega)) : PIn _ _)
          have h5 := (Array.perm_iff_toList_perm.mp hp).mem_iff.mp hi
          rw [← hlen]
          simpa using h5

noncomputable def tup2 (p : List Int × List Int) (t t' : Tok) (n : Nat) : Obj := { cls := .type "tuple", data := .seq (List.toArray [.bytes (byteArr p.1) t, .bytes (byteArr p.2) t']) n }
/-- vs are these pairs, kept in the ledger -/
noncomputable def TAre (nw : List (Addr × Obj)) : List Value → List (List Int × List Int) → Prop
  | [], [] => True
  | v :: vs, p :: ps => (∃ a t t' n, v = .ref a ∧ (a, tup2 p t t' n) ∈ nw) ∧ TAre nw vs ps
  | _, _ => False
theorem TAre.length {nw : List (Addr × Obj)} : ∀ {vs : List Value} {ps : List (List Int × List Int)}, TAre nw vs ps → vs.length = ps.length
  | [], [], _ => rfl
  | _ :: _, _ :: _, h => by rw [List.length_cons, List.length_cons, TAre.length h.2]
  | [], _ :: _, h => h.elim
  | _ :: _, [], h => h.elim
theorem TAre.mono {nw nw' : List (Addr × Obj)} (hs : ∀ p ∈ nw, p ∈ nw') : ∀ {vs : List Value} {ps : List (List Int × List Int)}, TAre nw vs ps → TAre nw' vs ps
  | [], [], _ => trivial
  | _ :: _, _ :: _, h => ⟨let ⟨a, t, t', n, e, hm⟩ := h.1; ⟨a, t, t', n, e, hs _ hm⟩, TAre.mono hs h.2⟩
  | [], _ :: _, h => h.elim
  | _ :: _, [], h => h.elim
theorem TAre.snoc {nw : List (Addr × Obj)} {p : List Int × List Int} {a : Addr} {t t' : Tok} {n : Nat} (hm : (a, tup2 p t t' n) ∈ nw) : ∀ {vs : List Value} {ps : List (List Int × List Int)}, TAre nw vs ps → TAre nw (vs ++ [.ref a]) (ps ++ [p])
  | [], [], _ => ⟨⟨a, t, t', n, rfl, hm⟩, trivial⟩
  | _ :: _, _ :: _, h => ⟨h.1, TAre.snoc hm h.2⟩
  | [], _ :: _, h => h.elim
  | _ :: _, [], h => h.elim
theorem TAre.get {nw : List (Addr × Obj)} : ∀ {vs : List Value} {ps : List (List Int × List Int)} {i : Nat} {v : Value}, TAre nw vs ps → vs[i]? = some v → ∃ p a t t' n, ps[i]? = some p ∧ v = .ref a ∧ (a, tup2 p t t' n) ∈ nw
  | [], [], _, _, _, h => by simp at h
  | v :: _, p :: _, 0, _, h, e => by simp at e; obtain ⟨a, t, t', n, q, hm⟩ := h.1; exact ⟨p, a, t, t', n, rfl, e ▸ q, hm⟩
  | _ :: _, _ :: _, i + 1, _, h, e => by simpa using TAre.get h.2 (by simpa using e)
  | [], _ :: _, _, _, h, _ => h.elim
  | _ :: _, [], _, _, h, _ => h.elim
theorem TAre.pick {nw : List (Addr × Obj)} : ∀ {vs : List Value} {ps : List (List Int × List Int)} {p : List Nat}, TAre nw vs ps → (∀ i ∈ p, i < ps.length) → TAre nw (pick .none vs p) (pick ([], []) ps p)
  | _, _, [], _, _ => trivial
  | vs, ks, i :: p, h, hp => by
    have hi := hp i (.head _)
    have hv : i < vs.length := by rw [h.length]; exact hi
    obtain ⟨k, a, t, t', n, e1, e2, e3⟩ := h.get (i := i) (v := vs[i]) (by simp [hv])
    refine ⟨⟨a, t, t', n, ?_, ?_⟩, TAre.pick h fun j hj => hp j (.tail _ hj)⟩
    · show vs.getD i .none = .ref a
      rw [List.getD_eq_getElem?_getD, List.getElem?_eq_getElem hv]
      exact e2
    · show (a, tup2 (ks.getD i ([], [])) t t' n) ∈ nw
      rw [List.getD_eq_getElem?_getD, e1]
      exact e3
noncomputable def eqA (a b : List Int) : Bool := (byteArr a).toList == (byteArr b).toList
noncomputable def pairLt (p q : List Int × List Int) : Bool := if eqA p.1 q.1 = true then (if eqA p.2 q.2 = true then false else ltI p.2 q.2) else ltI p.1 q.1
theorem firsts_of {nw : List (Addr × Obj)} {h : Heap} (N : News h₀ L h nw) : ∀ {vs : List Value} {ps : List (List Int × List Int)}, TAre nw vs ps → ∃ fs, KatTups h vs fs ∧ fs.length = vs.length ∧ ∀ v ∈ fs, ∃ b t, v = .bytes b t
  | [], [], _ => ⟨[], trivial, rfl, fun _ h => nomatch h⟩
  | _ :: _, p :: _, hT => by
    obtain ⟨a, t, t', n, rfl, hm⟩ := hT.1
    obtain ⟨fs, h1, h2, h3⟩ := firsts_of N hT.2
    refine ⟨.bytes (byteArr p.1) t :: fs, KatTups.cons (N _ hm).1 rfl rfl rfl h1, by rw [List.length_cons, List.length_cons, h2], fun v hv => ?_⟩
    rcases List.mem_cons.mp hv with rfl | hv
    · exact ⟨_, _, rfl⟩
    · exact h3 v hv
  | [], _ :: _, h => h.elim
  | _ :: _, [], h => h.elim
theorem pairAsk {p q : List Int × List Int} {a b : Addr} {t1 t2 t3 t4 : Tok} {n k : Nat} {C : Bool → Shared → Prop} (ha : s.heap.get? a = some (tup2 p t1 t2 n)) (hb : s.heap.get? b = some (tup2 q t3 t4 k)) (h : C (pairLt p q) s) :
    wpAny (model prog w) A (keyLt' (tuples' true) (.ref a) (.ref b)) C E s := by
  refine kat_lt ha rfl hb rfl ?_
  show KatLex prog w A true _ C [(_, _), (_, _)] 0 s
  refine kat_cons (eqBoolBytes ?_)
  have hC := h
  unfold pairLt at hC
  by_cases h1 : eqA p.1 q.1 = true
  · rw [if_pos h1] at hC
    rw [show ((byteArr p.1).toList == (byteArr q.1).toList) = true from h1]
    refine kat_yes (kat_cons (eqBoolBytes ?_))
    by_cases h2 : eqA p.2 q.2 = true
    · rw [if_pos h2] at hC
      rw [show ((byteArr p.2).toList == (byteArr q.2).toList) = true from h2]
      exact kat_yes (kat_nil hC)
    · rw [if_neg h2] at hC
      rw [show ((byteArr p.2).toList == (byteArr q.2).toList) = false from by simpa [eqA] using h2]
      refine kat_no ?_
      show wpAny _ _ (oneLt' false _ _) _ _ _
      exact kat_one _ _ (ltBytes hC)
  · rw [if_neg h1] at hC
    rw [show ((byteArr p.1).toList == (byteArr q.1).toList) = false from by simpa [eqA] using h1]
    refine kat_no ?_
    show wpAny _ _ (oneLt' true _ _) _ _ _
    exact oneLtBytes hC
theorem sortPairs {l : Addr} {vs : List Value} {ps : List (List Int × List Int)} {n : Nat} {Q : Value → Shared → Prop} (F : Fr h₀ L s.heap m) (N : News h₀ L s.heap news) (hl : (l, PySem.W.listOf (List.toArray vs) n) ∈ news) (hb : TAre news vs ps) (h64 : ps.length < 64)
    (h : ∀ D c h' ws, Fr h₀ L h' m → News h₀ L h' ((D, PySem.W.listOf (List.toArray ws) c) :: news) → (∀ q ∈ news, q.1 < D) → TAre news ws (pick ([], []) ps (sortI (fun i j => pairLt (ps.getD i ([], [])) (ps.getD j ([], []))) ps.length)) → ∀ tk, Q (.ref D) { s with heap := h', toks := tk }) :
    wpAny (model prog w) A (call (.builtin "sorted") [.ref l]) Q E s := by
  have hlist : s.heap.IsList l vs.toArray := ⟨_, (N _ hl).1, rfl, _, rfl⟩
  have hlen := hb.length
  by_cases h2 : vs.length < 2
  · refine sorted1 F N hlist h2 fun D c h' F' N' lt => h D c h' vs F' N' lt ?_ s.toks
    have e : sortI (fun i j => pairLt (ps.getD i ([], [])) (ps.getD j ([], []))) ps.length = List.range ps.length := by unfold sortI; rw [if_pos (by omega)]
    rw [e, pick_range]; exact hb
  · refine kat_sorted F N hlist (by omega) (by omega) fun D e1 h' F' N' lt => ?_
    have N1 : News h₀ L h' news := fun p hp => N' p (.tail _ hp)
    obtain ⟨fs, g1, g2, g3⟩ := firsts_of N1 hb
    refine kat_kind (T := .type "bytes") g1 (by omega) (fun v hv => ?_) (by decide) ?_
    · obtain ⟨b, t, rfl⟩ := g3 v hv
      exact bytesLook
    · rw [show (Value.type "bytes" != Value.type "tuple") = true from by decide]
      have e : sortI (fun i j => pairLt (ps.getD i ([], [])) (ps.getD j ([], []))) ps.length = (kEval (fun i j => pairLt (ps.getD i ([], [])) (ps.getD j ([], []))) (kas_sort vs.length)).toList := by unfold sortI; rw [if_neg (by omega), hlen]
      refine kas_eval (n := vs.length) (R := PIn vs.length) (lt := fun i j => pairLt (ps.getD i ([], [])) (ps.getD j ([], []))) (Inv := fun s' => ∃ tk, s' = { s with heap := h', toks := tk }) ?_ _ _ (sort_ok (by omega)) ⟨s.toks, rfl⟩ ?_
      · rintro i j C s' hi hj ⟨tk, rfl⟩ hC
        obtain ⟨k1, a1, t1, t1', m1, q1, q2, q5⟩ := hb.get (i := i) (v := vs[i]) (by simp [hi])
        obtain ⟨k2, a2, t2, t2', m2, q3, q4, q6⟩ := hb.get (i := j) (v := vs[j]) (by simp [hj])
        unfold kas_ask
        rw [List.getD_eq_getElem?_getD, List.getElem?_eq_getElem hi, List.getD_eq_getElem?_getD, List.getElem?_eq_getElem hj, Option.getD_some, Option.getD_some, q2, q4]
        refine pairAsk (N1 _ q5).1 (N1 _ q6).1 ?_
        have := hC { s with heap := h', toks := tk } ⟨tk, rfl⟩
        rw [List.getD_eq_getElem?_getD, q1, List.getD_eq_getElem?_getD, q3] at this
        exact this
      · rintro s' ⟨tk, rfl⟩
        refine KasFin.intro F' N' (.head fun p hp => Nat.ne_of_lt (lt p hp)) fun h9 c F9 N9 => h D c h9 _ F9 N9 lt ?_ tk
        rw [e]
        exact hb.pick fun i hi => by
          have hp := (kOk_eval (lt := fun i j => pairLt (ps.getD i ([], [])) (ps.getD j ([], []))) (sort_ok (n := vs.length) (by omega)) : PIn _ _)
          have h5 := (Array.perm_iff_toList_perm.mp hp).mem_iff.mp hi
          rw [← hlen]
          simpa using h5
end
end Mine
end

-- part Ne
section
open PySem PySem.W PyProof.Rows PySem.Calls
set_option maxRecDepth 100000
namespace Mine
theorem offNe : True := by
  w_top off
  trivial
section
variable {prog : Program} {w : World} {A : Around} {E : Value → Shared → Prop} {s : Shared} {h₀ : Heap} {L : Addr} {m : PySem.Str → Option Value} {news : List (Addr × Obj)}
theorem neRows {a b : Addr} {xs ys : List Value} {kss : List (List Int)} {n n2 : Nat} {Q : Value → Shared → Prop} (N : News h₀ L s.heap news) (ha : (a, PySem.W.listOf (List.toArray xs) n) ∈ news) (hb : (b, PySem.W.listOf (List.toArray ys) n2) ∈ news) (hx : BAre xs kss) (hy : BAre ys kss) (hu : A.units < cLine)
    (h : Q (.bool false) s) : wpAny (model prog w) A (compareOp .NotEq (.ref a) (.ref b)) Q E s := by
  have hza : (List.toArray xs).size = (List.toArray ys).size := by rw [List.size_toArray, List.size_toArray, hx.length, hy.length]
  have he : ∀ j (h1 : j < (List.toArray xs).size) (h2 : j < (List.toArray ys).size), PySem.MeetsSeq.EqGives (List.toArray xs)[j] (List.toArray ys)[j] true := by
    intro j h1 h2 prog w A E s Q hq
    rw [List.size_toArray] at h1 h2
    obtain ⟨k, t, e1, e2⟩ := hx.get (i := j) (v := xs[j]) (by simp [h1])
    obtain ⟨k', t', e3, e4⟩ := hy.get (i := j) (v := ys[j]) (by simp [h2])
    rw [e1] at e3
    cases e3
    rw [List.getElem_toArray, List.getElem_toArray, e2, e4]
    refine eqBoolBytes ?_
    rw [beq_self_eq_true]
    exact hq
  show wpAny (model prog w) A (richCompare .NotEq (.ref a) (.ref b)) Q E s
  refine PySem.SeqAt.RcNeAt.lists (e := fun _ => true) ⟨_, (N _ ha).1, rfl, n, rfl⟩ ⟨_, (N _ hb).1, rfl, n2, rfl⟩ hza hu (fun j h1 h2 => (he j h1 h2).at _ _) prog w E Q ?_
  rw [List.all_eq_true.mpr (fun _ _ => rfl)]
  exact h
end
end Mine
end

-- part Ma
section
open PySem PySem.W PyProof.Rows PySem.Calls
set_option maxRecDepth 100000
namespace Mine
theorem offMa : True := by
  w_top off
  trivial
/-- the order of lists -/
noncomputable def oI : List Int → List Int → Ordering
  | [], [] => .eq
  | [], _ :: _ => .lt
  | _ :: _, [] => .gt
  | x :: xs, y :: ys => if x < y then .lt else if y < x then .gt else oI xs ys
theorem oI_swap : ∀ a b : List Int, oI a b = (oI b a).swap
  | [], [] => rfl
  | [], _ :: _ => rfl
  | _ :: _, [] => rfl
  | x :: xs, y :: ys => by
    simp only [oI]
    by_cases h1 : x < y
    · have h2 : ¬ y < x := by omega
      simp [h1, h2]
    · by_cases h2 : y < x
      · simp [h1, h2]
      · simp only [h1, h2, if_false]; exact oI_swap xs ys
theorem oI_eq : ∀ {a b : List Int}, oI a b = .eq → a = b
  | [], [], _ => rfl
  | [], _ :: _, h => by cases h
  | _ :: _, [], h => by cases h
  | x :: xs, y :: ys, h => by
    simp only [oI] at h
    by_cases h1 : x < y
    · simp [h1] at h
    · by_cases h2 : y < x
      · simp [h1, h2] at h
      · simp only [h1, h2, if_false] at h
        rw [oI_eq h, show x = y by omega]
theorem oI_refl : ∀ a : List Int, oI a a = .eq
  | [] => rfl
  | x :: xs => by simp only [oI, Int.lt_irrefl, if_false]; exact oI_refl xs
noncomputable def u8 (n : Int) : UInt8 := n.toNat.toUInt8
theorem u8_nat {n : Int} (h : 0 ≤ n ∧ n < 256) : ((u8 n).toNat : Int) = n := byte_back h.1 h.2
theorem u8_lt {x y : Int} (hx : 0 ≤ x ∧ x < 256) (hy : 0 ≤ y ∧ y < 256) : (u8 x < u8 y) ↔ x < y := by
  have a := u8_nat hx
  have b := u8_nat hy
  rw [UInt8.lt_iff_toNat_lt]
  omega
theorem order_oI : ∀ {a b : List Int}, Oct a → Oct b → Builtin.Bytes.order (a.map u8) (b.map u8) = oI a b
  | [], [], _, _ => rfl
  | [], _ :: _, _, _ => rfl
  | _ :: _, [], _, _ => rfl
  | x :: xs, y :: ys, ha, hb => by
    have hx := ha x (.head _)
    have hy := hb y (.head _)
    simp only [List.map_cons, Builtin.Bytes.order, oI, gt_iff_lt, u8_lt hx hy, u8_lt hy hx]
    rw [order_oI (fun k hk => ha k (.tail _ hk)) (fun k hk => hb k (.tail _ hk))]
theorem byteArr_list (a : List Int) : (byteArr a).toList = a.map u8 := by simp [byteArr, u8]
theorem ltI_oI {a b : List Int} (ha : Oct a) (hb : Oct b) : ltI a b = (oI a b == .lt) := by
  unfold ltI bLt
  rw [byteArr_list, byteArr_list, order_oI ha hb]
theorem eqA_oI {a b : List Int} (ha : Oct a) (hb : Oct b) : eqA a b = (oI a b == .eq) := by
  unfold eqA
  rw [byteArr_list, byteArr_list, ← order_eq, order_oI ha hb]
/-- a list of digits, as a number -/
noncomputable def valI (B : Int) : List Int → Int
  | [] => 0
  | x :: r => x * B ^ r.length + valI B r
theorem valI_bound {B : Int} (hB : 0 < B) : ∀ {d : List Int}, (∀ x ∈ d, 0 ≤ x ∧ x < B) → 0 ≤ valI B d ∧ valI B d < B ^ d.length
  | [], _ => ⟨Int.le_refl _, by simp [valI]⟩
  | x :: r, h => by
    have ih := valI_bound hB (d := r) fun y hy => h y (.tail _ hy)
    have hx := h x (.head _)
    have hP : 0 < B ^ r.length := Int.pow_pos hB
    simp only [valI, List.length_cons, Int.pow_succ]
    have h1 : 0 ≤ x * B ^ r.length := Int.mul_nonneg hx.1 (Int.le_of_lt hP)
    have h2 : (x + 1) * B ^ r.length ≤ B * B ^ r.length := Int.mul_le_mul_of_nonneg_right (by omega) (Int.le_of_lt hP)
    have h3 : (x + 1) * B ^ r.length = x * B ^ r.length + B ^ r.length := by rw [Int.add_mul, Int.one_mul]
    have h4 : B ^ r.length * B = B * B ^ r.length := Int.mul_comm _ _
    omega
theorem oI_val {B : Int} (hB : 0 < B) : ∀ {d e r s : List Int}, d.length = e.length → (∀ x ∈ d, 0 ≤ x ∧ x < B) → (∀ x ∈ e, 0 ≤ x ∧ x < B) →
    oI (d ++ r) (e ++ s) = if valI B d < valI B e then .lt else if valI B e < valI B d then .gt else oI r s
  | [], [], r, s, _, _, _ => by simp [valI]
  | x :: d, y :: e, r, s, hl, hd, he => by
    have hl' : d.length = e.length := by simpa using hl
    have hd' : ∀ z ∈ d, 0 ≤ z ∧ z < B := fun z hz => hd z (.tail _ hz)
    have he' : ∀ z ∈ e, 0 ≤ z ∧ z < B := fun z hz => he z (.tail _ hz)
    have ih := oI_val hB (r := r) (s := s) hl' hd' he'
    have bd := valI_bound hB hd'
    have be := valI_bound hB he'
    have hP : 0 < B ^ d.length := Int.pow_pos hB
    simp only [List.cons_append, oI, valI, ← hl']
    rw [← hl'] at be
    by_cases h1 : x < y
    · have h2 : (x + 1) * B ^ d.length ≤ y * B ^ d.length := Int.mul_le_mul_of_nonneg_right (by omega) (Int.le_of_lt hP)
      have h3 : (x + 1) * B ^ d.length = x * B ^ d.length + B ^ d.length := by rw [Int.add_mul, Int.one_mul]
      rw [if_pos h1, if_pos (by omega)]
    · rw [if_neg h1]
      by_cases h4 : y < x
      · have h2 : (y + 1) * B ^ d.length ≤ x * B ^ d.length := Int.mul_le_mul_of_nonneg_right (by omega) (Int.le_of_lt hP)
        have h3 : (y + 1) * B ^ d.length = y * B ^ d.length + B ^ d.length := by rw [Int.add_mul, Int.one_mul]
        rw [if_pos h4, if_neg (by omega), if_pos (by omega)]
      · have e : x = y := by omega
        subst e
        rw [if_neg h4, ih]
        simp only [Int.add_lt_add_iff_left]
theorem oI_map {f : Int → Int} (hf : ∀ x y, x < y ↔ f x < f y) : ∀ a b : List Int, oI (a.map f) (b.map f) = oI a b
  | [], [] => rfl
  | [], _ :: _ => rfl
  | _ :: _, [] => rfl
  | x :: xs, y :: ys => by simp only [List.map_cons, oI, ← hf]; rw [oI_map hf xs ys]
/-- the sextets of a text -/
noncomputable def encJ : List Int → List Int
  | [] => []
  | [x] => gcI [x]
  | [x, y] => gcI [x, y]
  | x :: y :: z :: r => gcI [x, y, z] ++ encJ r
theorem encI_lets (als : List Int) : ∀ ks, encI als ks = lets als (encJ ks)
  | [] => by simp [encI, encJ, lets]
  | [x] => by simp only [encI, encJ]; rfl
  | [x, y] => by simp only [encI, encJ]; rfl
  | x :: y :: z :: r => by simp only [encI, encJ]; rw [encI_lets als r, lets, lets, List.map_append]; rfl
theorem dig1 {x : Int} (hx : 0 ≤ x ∧ x < 256) : ∃ a b, gcI [x] = [a, b] ∧ 0 ≤ a ∧ a < 64 ∧ 0 ≤ b ∧ b < 64 ∧ 16 * x = 64 * a + b := by
  refine ⟨_, _, rfl, Int.emod_nonneg _ (by decide), Int.emod_lt_of_pos _ (by decide), Int.emod_nonneg _ (by decide), Int.emod_lt_of_pos _ (by decide), ?_⟩
  simp only [gcT1, Int.fdiv_eq_ediv_of_nonneg _ (show (0 : Int) ≤ 2 ^ 6 by decide), Int.fdiv_eq_ediv_of_nonneg _ (show (0 : Int) ≤ 2 ^ 0 by decide)]
  omega
theorem dig2 {x y : Int} (hx : 0 ≤ x ∧ x < 256) (hy : 0 ≤ y ∧ y < 256) : ∃ a b c, gcI [x, y] = [a, b, c] ∧ 0 ≤ a ∧ a < 64 ∧ 0 ≤ b ∧ b < 64 ∧ 0 ≤ c ∧ c < 64 ∧ 4 * (256 * x + y) = 4096 * a + 64 * b + c := by
  refine ⟨_, _, _, rfl, Int.emod_nonneg _ (by decide), Int.emod_lt_of_pos _ (by decide), Int.emod_nonneg _ (by decide), Int.emod_lt_of_pos _ (by decide), Int.emod_nonneg _ (by decide), Int.emod_lt_of_pos _ (by decide), ?_⟩
  simp only [gcT2, Int.fdiv_eq_ediv_of_nonneg _ (show (0 : Int) ≤ 2 ^ 12 by decide), Int.fdiv_eq_ediv_of_nonneg _ (show (0 : Int) ≤ 2 ^ 6 by decide), Int.fdiv_eq_ediv_of_nonneg _ (show (0 : Int) ≤ 2 ^ 0 by decide)]
  omega
theorem dig3 {x y z : Int} (hx : 0 ≤ x ∧ x < 256) (hy : 0 ≤ y ∧ y < 256) (hz : 0 ≤ z ∧ z < 256) : ∃ a b c d, gcI [x, y, z] = [a, b, c, d] ∧ 0 ≤ a ∧ a < 64 ∧ 0 ≤ b ∧ b < 64 ∧ 0 ≤ c ∧ c < 64 ∧ 0 ≤ d ∧ d < 64 ∧ 65536 * x + 256 * y + z = 262144 * a + 4096 * b + 64 * c + d := by
  refine ⟨_, _, _, _, rfl, Int.emod_nonneg _ (by decide), Int.emod_lt_of_pos _ (by decide), Int.emod_nonneg _ (by decide), Int.emod_lt_of_pos _ (by decide), Int.emod_nonneg _ (by decide), Int.emod_lt_of_pos _ (by decide), Int.emod_nonneg _ (by decide), Int.emod_lt_of_pos _ (by decide), ?_⟩
  simp only [gcT3, Int.fdiv_eq_ediv_of_nonneg _ (show (0 : Int) ≤ 2 ^ 18 by decide), Int.fdiv_eq_ediv_of_nonneg _ (show (0 : Int) ≤ 2 ^ 12 by decide), Int.fdiv_eq_ediv_of_nonneg _ (show (0 : Int) ≤ 2 ^ 6 by decide), Int.fdiv_eq_ediv_of_nonneg _ (show (0 : Int) ≤ 2 ^ 0 by decide)]
  omega
end Mine
end

-- part Mb
section
open PySem PySem.W PyProof.Rows PySem.Calls
set_option maxRecDepth 100000
namespace Mine
theorem offMb : True := by
  w_top off
  trivial
theorem d2 {a b : Int} (ha : 0 ≤ a ∧ a < 64) (hb : 0 ≤ b ∧ b < 64) : ∀ x ∈ [a, b], 0 ≤ x ∧ x < 64 := by
  intro x hx; simp only [List.mem_cons, List.not_mem_nil, or_false] at hx; rcases hx with rfl | rfl <;> assumption
theorem d3 {a b c : Int} (ha : 0 ≤ a ∧ a < 64) (hb : 0 ≤ b ∧ b < 64) (hc : 0 ≤ c ∧ c < 64) : ∀ x ∈ [a, b, c], 0 ≤ x ∧ x < 64 := by
  intro x hx; simp only [List.mem_cons, List.not_mem_nil, or_false] at hx; rcases hx with rfl | rfl | rfl <;> assumption
theorem d4 {a b c d : Int} (ha : 0 ≤ a ∧ a < 64) (hb : 0 ≤ b ∧ b < 64) (hc : 0 ≤ c ∧ c < 64) (hd : 0 ≤ d ∧ d < 64) : ∀ x ∈ [a, b, c, d], 0 ≤ x ∧ x < 64 := by
  intro x hx; simp only [List.mem_cons, List.not_mem_nil, or_false] at hx; rcases hx with rfl | rfl | rfl | rfl <;> assumption
theorem v2 (a b : Int) : valI 64 [a, b] = 64 * a + b := by simp [valI]; omega
theorem v3 (a b c : Int) : valI 64 [a, b, c] = 4096 * a + 64 * b + c := by simp [valI]; omega
theorem v4 (a b c d : Int) : valI 64 [a, b, c, d] = 262144 * a + 4096 * b + 64 * c + d := by simp [valI]; omega
theorem w2 (a b : Int) : valI 256 [a, b] = 256 * a + b := by simp [valI]; omega
theorem w3 (a b c : Int) : valI 256 [a, b, c] = 65536 * a + 256 * b + c := by simp [valI]; omega
theorem Oct.cons {x : Int} {r : List Int} (h : Oct (x :: r)) : (0 ≤ x ∧ x < 256) ∧ Oct r := ⟨h x (.head _), fun k hk => h k (.tail _ hk)⟩
theorem o2 {a b : Int} (ha : 0 ≤ a ∧ a < 256) (hb : 0 ≤ b ∧ b < 256) : ∀ x ∈ [a, b], 0 ≤ x ∧ x < 256 := by
  intro x hx; simp only [List.mem_cons, List.not_mem_nil, or_false] at hx; rcases hx with rfl | rfl <;> assumption
theorem o3 {a b c : Int} (ha : 0 ≤ a ∧ a < 256) (hb : 0 ≤ b ∧ b < 256) (hc : 0 ≤ c ∧ c < 256) : ∀ x ∈ [a, b, c], 0 ≤ x ∧ x < 256 := by
  intro x hx; simp only [List.mem_cons, List.not_mem_nil, or_false] at hx; rcases hx with rfl | rfl | rfl <;> assumption
theorem enc_ne {x : Int} {r : List Int} (h : Oct (x :: r)) : ∃ s t, encJ (x :: r) = s :: t := by
  match r, h with
  | [], _ => exact ⟨_, _, rfl⟩
  | [y], _ => exact ⟨_, _, rfl⟩
  | y :: z :: r, _ => exact ⟨_, _, rfl⟩
theorem oI_short1 {x x' : Int} {r' : List Int} (hx : 0 ≤ x ∧ x < 256) (h' : Oct (x' :: r')) : oI (encJ [x]) (encJ (x' :: r')) = oI [x] (x' :: r') := by
  obtain ⟨a, b, e, ha1, ha2, hb1, hb2, hv⟩ := dig1 hx
  have h1 := h'.cons
  show oI (gcI [x]) _ = _
  rw [e]
  match r', h' with
  | [], h' =>
    obtain ⟨a', b', e', ha1', ha2', hb1', hb2', hv'⟩ := dig1 h1.1
    show oI [a, b] (gcI [x']) = _
    rw [e']
    have := oI_val (B := 64) (by decide) (d := [a, b]) (e := [a', b']) (r := []) (s := []) rfl (d2 ⟨ha1, ha2⟩ ⟨hb1, hb2⟩) (d2 ⟨ha1', ha2'⟩ ⟨hb1', hb2'⟩)
    simp only [List.append_nil, v2] at this
    rw [this]
    simp only [oI]
    repeat' split
    all_goals first | rfl | (exfalso; omega)
  | [y'], h' =>
    obtain ⟨a', b', c', e', ha1', ha2', hb1', hb2', hc1', hc2', hv'⟩ := dig2 h1.1 h1.2.cons.1
    have hy := h1.2.cons.1
    show oI [a, b] (gcI [x', y']) = _
    rw [e']
    have := oI_val (B := 64) (by decide) (d := [a, b]) (e := [a', b']) (r := []) (s := [c']) rfl (d2 ⟨ha1, ha2⟩ ⟨hb1, hb2⟩) (d2 ⟨ha1', ha2'⟩ ⟨hb1', hb2'⟩)
    simp only [List.append_nil, List.cons_append, List.nil_append, v2] at this
    rw [this]
    simp only [oI]
    repeat' split
    all_goals first | rfl | (exfalso; omega)
  | y' :: z' :: r', h' =>
    have hy := h1.2.cons
    have hz := hy.2.cons.1
    obtain ⟨a', b', c', d', e', ha1', ha2', hb1', hb2', hc1', hc2', hd1', hd2', hv'⟩ := dig3 h1.1 hy.1 hz
    show oI [a, b] (gcI [x', y', z'] ++ encJ r') = _
    rw [e']
    have := oI_val (B := 64) (by decide) (d := [a, b]) (e := [a', b']) (r := []) (s := c' :: d' :: encJ r') rfl (d2 ⟨ha1, ha2⟩ ⟨hb1, hb2⟩) (d2 ⟨ha1', ha2'⟩ ⟨hb1', hb2'⟩)
    simp only [List.append_nil, List.cons_append, List.nil_append, v2] at this
    simp only [List.cons_append, List.nil_append]
    rw [this]
    have hy1 := hy.1
    simp only [oI]
    repeat' split
    all_goals first | rfl | (exfalso; omega)
theorem oI_short2 {x y x' y' : Int} {r' : List Int} (hx : 0 ≤ x ∧ x < 256) (hy : 0 ≤ y ∧ y < 256) (h' : Oct (x' :: y' :: r')) : oI (encJ [x, y]) (encJ (x' :: y' :: r')) = oI [x, y] (x' :: y' :: r') := by
  obtain ⟨a, b, c, e, ha1, ha2, hb1, hb2, hc1, hc2, hv⟩ := dig2 hx hy
  have h1 := h'.cons
  have h2 := h1.2.cons
  show oI (gcI [x, y]) _ = _
  rw [e]
  have rhs := oI_val (B := 256) (by decide) (d := [x, y]) (e := [x', y']) (r := []) (s := r') rfl (o2 hx hy) (o2 h1.1 h2.1)
  simp only [List.append_nil, List.cons_append, List.nil_append, w2] at rhs
  rw [rhs]
  match r', h' with
  | [], h' =>
    obtain ⟨a', b', c', e', ha1', ha2', hb1', hb2', hc1', hc2', hv'⟩ := dig2 h1.1 h2.1
    show oI [a, b, c] (gcI [x', y']) = _
    rw [e']
    have := oI_val (B := 64) (by decide) (d := [a, b, c]) (e := [a', b', c']) (r := []) (s := []) rfl (d3 ⟨ha1, ha2⟩ ⟨hb1, hb2⟩ ⟨hc1, hc2⟩) (d3 ⟨ha1', ha2'⟩ ⟨hb1', hb2'⟩ ⟨hc1', hc2'⟩)
    simp only [List.append_nil, v3] at this
    rw [this]
    repeat' split
    all_goals first | rfl | (exfalso; omega)
  | z' :: r', h' =>
    have hz := h2.2.cons.1
    obtain ⟨a', b', c', d', e', ha1', ha2', hb1', hb2', hc1', hc2', hd1', hd2', hv'⟩ := dig3 h1.1 h2.1 hz
    show oI [a, b, c] (gcI [x', y', z'] ++ encJ r') = _
    rw [e']
    have := oI_val (B := 64) (by decide) (d := [a, b, c]) (e := [a', b', c']) (r := []) (s := d' :: encJ r') rfl (d3 ⟨ha1, ha2⟩ ⟨hb1, hb2⟩ ⟨hc1, hc2⟩) (d3 ⟨ha1', ha2'⟩ ⟨hb1', hb2'⟩ ⟨hc1', hc2'⟩)
    simp only [List.append_nil, List.cons_append, List.nil_append, v3] at this
    simp only [List.cons_append, List.nil_append]
    rw [this]
    simp only [oI]
    repeat' split
    all_goals first | rfl | (exfalso; omega)
theorem oI_encJ : ∀ {a b : List Int}, Oct a → Oct b → oI (encJ a) (encJ b) = oI a b
  | [], [], _, _ => rfl
  | [], x :: r, _, h => by obtain ⟨s, t, e⟩ := enc_ne h; rw [e]; rfl
  | x :: r, [], h, _ => by obtain ⟨s, t, e⟩ := enc_ne h; rw [e]; rfl
  | [x], x' :: r', h, h' => oI_short1 h.cons.1 h'
  | x :: y :: r, [x'], h, h' => by rw [oI_swap, oI_short1 h'.cons.1 h, ← oI_swap]
  | [x, y], x' :: y' :: r', h, h' => oI_short2 h.cons.1 h.cons.2.cons.1 h'
  | x :: y :: z :: r, [x', y'], h, h' => by rw [oI_swap, oI_short2 h'.cons.1 h'.cons.2.cons.1 h, ← oI_swap]
  | x :: y :: z :: r, x' :: y' :: z' :: r', h, h' => by
    have h1 := h.cons
    have h2 := h1.2.cons
    have h3 := h2.2.cons
    have g1 := h'.cons
    have g2 := g1.2.cons
    have g3 := g2.2.cons
    obtain ⟨a, b, c, d, e, ha1, ha2, hb1, hb2, hc1, hc2, hd1, hd2, hv⟩ := dig3 h1.1 h2.1 h3.1
    obtain ⟨a', b', c', d', e', ha1', ha2', hb1', hb2', hc1', hc2', hd1', hd2', hv'⟩ := dig3 g1.1 g2.1 g3.1
    show oI (gcI [x, y, z] ++ encJ r) (gcI [x', y', z'] ++ encJ r') = _
    rw [e, e', oI_val (B := 64) (by decide) (d := [a, b, c, d]) (e := [a', b', c', d']) rfl (d4 ⟨ha1, ha2⟩ ⟨hb1, hb2⟩ ⟨hc1, hc2⟩ ⟨hd1, hd2⟩) (d4 ⟨ha1', ha2'⟩ ⟨hb1', hb2'⟩ ⟨hc1', hc2'⟩ ⟨hd1', hd2'⟩), v4, v4, oI_encJ h3.2 g3.2]
    have rhs := oI_val (B := 256) (by decide) (d := [x, y, z]) (e := [x', y', z']) (r := r) (s := r') rfl (o3 h1.1 h2.1 h3.1) (o3 g1.1 g2.1 g3.1)
    simp only [List.cons_append, List.nil_append, w3] at rhs
    rw [rhs, hv, hv']

theorem sx1 {g : List Int} (h : Oct g) (h1 : 1 ≤ g.length) (h3 : g.length ≤ 3) : goB (gcI g) = g ∧ goL (gcI g) = 0 ∧ ∀ j ∈ gcI g, 0 ≤ j ∧ j < 64 := by
  match g, h, h1, h3 with
  | [x], h, _, _ =>
    obtain ⟨a, b, e, ha1, ha2, hb1, hb2, hv⟩ := dig1 h.cons.1
    have hx := h.cons.1
    rw [e]
    refine ⟨?_, ?_, d2 ⟨ha1, ha2⟩ ⟨hb1, hb2⟩⟩
    · simp only [goB, goT2, bitAnd_m8, Int.fdiv_eq_ediv_of_nonneg _ (show (0 : Int) ≤ 2 ^ 4 by decide), Int.fdiv_eq_ediv_of_nonneg _ (show (0 : Int) ≤ 2 ^ 0 by decide)]
      congr 1
      omega
    · simp only [goL, goT2]
      rw [show (1 * 2 ^ 4 - 1 : Int) = 15 by decide, bitAnd_m4]
      omega
  | [x, y], h, _, _ =>
    have hx := h.cons.1
    have hy := h.cons.2.cons.1
    obtain ⟨a, b, c, e, ha1, ha2, hb1, hb2, hc1, hc2, hv⟩ := dig2 hx hy
    rw [e]
    refine ⟨?_, ?_, d3 ⟨ha1, ha2⟩ ⟨hb1, hb2⟩ ⟨hc1, hc2⟩⟩
    · simp only [goB, goT3, bitAnd_m8, Int.fdiv_eq_ediv_of_nonneg _ (show (0 : Int) ≤ 2 ^ 2 by decide), Int.fdiv_eq_ediv_of_nonneg _ (show (0 : Int) ≤ 2 ^ 8 by decide), Int.fdiv_eq_ediv_of_nonneg _ (show (0 : Int) ≤ 2 ^ 0 by decide)]
      have q1 : (64 * (64 * (64 * 0 + a) + b) + c) / 2 ^ 2 / 2 ^ 8 % 256 = x := by omega
      have q2 : (64 * (64 * (64 * 0 + a) + b) + c) / 2 ^ 2 / 2 ^ 0 % 256 = y := by omega
      rw [q1, q2]
    · simp only [goL, goT3]
      rw [show (1 * 2 ^ 2 - 1 : Int) = 3 by decide, bitAnd_m2]
      omega
  | [x, y, z], h, _, _ =>
    have hx := h.cons.1
    have hy := h.cons.2.cons.1
    have hz := h.cons.2.cons.2.cons.1
    obtain ⟨a, b, c, d, e, ha1, ha2, hb1, hb2, hc1, hc2, hd1, hd2, hv⟩ := dig3 hx hy hz
    rw [e]
    refine ⟨?_, ?_, d4 ⟨ha1, ha2⟩ ⟨hb1, hb2⟩ ⟨hc1, hc2⟩ ⟨hd1, hd2⟩⟩
    · simp only [goB, goT4, bitAnd_m8, Int.fdiv_eq_ediv_of_nonneg _ (show (0 : Int) ≤ 2 ^ 16 by decide), Int.fdiv_eq_ediv_of_nonneg _ (show (0 : Int) ≤ 2 ^ 8 by decide), Int.fdiv_eq_ediv_of_nonneg _ (show (0 : Int) ≤ 2 ^ 0 by decide)]
      have q1 : (64 * (64 * (64 * (64 * 0 + a) + b) + c) + d) / 2 ^ 0 / 2 ^ 16 % 256 = x := by omega
      have q2 : (64 * (64 * (64 * (64 * 0 + a) + b) + c) + d) / 2 ^ 0 / 2 ^ 8 % 256 = y := by omega
      have q3 : (64 * (64 * (64 * (64 * 0 + a) + b) + c) + d) / 2 ^ 0 / 2 ^ 0 % 256 = z := by omega
      rw [q1, q2, q3]
    · simp only [goL, goT4]
      rw [show (1 * 2 ^ 0 - 1 : Int) = 0 by decide]
      have hb0 := bitAnd_range (64 * (64 * (64 * (64 * 0 + a) + b) + c) + d) (y := 0) (by decide)
      omega
theorem encJ_len : ∀ ks : List Int, (encJ ks).length = (8 * ks.length + 5) / 6 := fun ks => by
  have := encI_len [] ks
  rw [encI_lets, lets, List.length_map] at this
  exact this
theorem Oct.sub {ks l : List Int} (h : Oct ks) (hs : ∀ x ∈ l, x ∈ ks) : Oct l := fun k hk => h k (hs k hk)
theorem encJ_in : ∀ {ks : List Int}, Oct ks → ∀ j ∈ encJ ks, 0 ≤ j ∧ j < 64
  | [], _, j, h => by simp [encJ] at h
  | [x], ho, j, h => (sx1 ho (by simp) (by simp)).2.2 j h
  | [x, y], ho, j, h => (sx1 ho (by simp) (by simp)).2.2 j h
  | x :: y :: z :: r, ho, j, h => by
    rcases List.mem_append.mp h with h | h
    · exact (sx1 (g := [x, y, z]) (ho.sub fun k hk => by simp at hk; rcases hk with rfl | rfl | rfl <;> simp) (by simp) (by simp)).2.2 j h
    · exact encJ_in ho.cons.2.cons.2.cons.2 j h
theorem encJ_drop : ∀ (i : Nat) (ks : List Int), 3 * i < ks.length → ((encJ ks).drop (4 * i)).take 4 = gcI ((ks.drop (3 * i)).take 3)
  | 0, ks, h => by
    match ks, h with
    | [x], _ => rfl
    | [x, y], _ => rfl
    | x :: y :: z :: r, _ => rfl
  | i + 1, ks, h => by
    match ks, h with
    | [x], h => simp only [List.length_cons, List.length_nil] at h; omega
    | [x, y], h => simp only [List.length_cons, List.length_nil] at h; omega
    | x :: y :: z :: r, h =>
      have e1 : 4 * (i + 1) = 4 * i + 4 := by omega
      have e2 : 3 * (i + 1) = 3 * i + 3 := by omega
      rw [e1, e2]
      show ((encJ r).drop (4 * i)).take 4 = gcI ((r.drop (3 * i)).take 3)
      exact encJ_drop i r (by simp only [List.length_cons] at h; omega)
theorem chunks : ∀ (n : Nat) (ks : List Int), ks.length ≤ 3 * n → ((List.range n).map fun j => (ks.drop (3 * j)).take 3).flatten = ks
  | 0, ks, h => by
    have : ks = [] := List.length_eq_zero_iff.mp (by omega)
    subst this; rfl
  | n + 1, ks, h => by
    rw [List.range_succ_eq_map, List.map_cons, List.flatten_cons, List.map_map]
    have e : (List.range n).map ((fun j => (ks.drop (3 * j)).take 3) ∘ Nat.succ) = (List.range n).map fun j => ((ks.drop 3).drop (3 * j)).take 3 := by
      apply List.map_congr_left
      intro j _
      show (ks.drop (3 * (j + 1))).take 3 = _
      rw [List.drop_drop, show 3 * (j + 1) = 3 + 3 * j by omega]
    rw [e, chunks n (ks.drop 3) (by simp only [List.length_drop]; omega)]
    simp [List.take_append_drop]
theorem encJ_app : ∀ {a : List Int} (b : List Int), a.length % 3 = 0 → encJ (a ++ b) = encJ a ++ encJ b
  | [], b, _ => rfl
  | [_], _, h => by simp at h
  | [_, _], _, h => by simp at h
  | x :: y :: z :: r, b, h => by
    show gcI [x, y, z] ++ encJ (r ++ b) = gcI [x, y, z] ++ encJ r ++ encJ b
    rw [encJ_app b (by simp only [List.length_cons] at h; omega), List.append_assoc]
end Mine
end

-- part Lp
section
open PySem PySem.W PyProof.Rows PySem.Calls
set_option maxRecDepth 100000
namespace Mine
theorem offLp : True := by
  w_top off
  trivial
noncomputable def fd128 (P : Params) : FuncData := match (hd.heap_39 P).lookup 128 with
  | some ⟨_, _, .func fd, _⟩ => fd
  | _ => default
noncomputable def lawB (P : Params) : List Stmt := match (fd128 P).body with
  | .stmts b => b
  | _ => []
end Mine
namespace Mine
section
open PySem.Spec PyProof.V
variable {prog : Program} {w : World} {A : Around} {E : Value → Shared → Prop} {s : Shared} {env : Env} {h₀ : Heap} {x : PySem.Str} {body : List Stmt} {Q : Flow → Shared → Prop}
noncomputable def KeepN (news : List (Addr × Obj)) (x : PySem.Str) (stored : List PySem.Str) (m₀ : PySem.Str → Option Value) (m' : PySem.Str → Option Value) (nx : List (Addr × Obj)) : Prop := nx = news ∧ ∀ z, z ≠ x → stored.contains z = false → m' z = m₀ z
theorem loopConst {l : Addr} {vs : List Value} {nn : Nat} {m₀ : PySem.Str → Option Value} {news : List (Addr × Obj)} (stored : List PySem.Str)
    (hh : A.handled = none) (hl : (l, PySem.W.listOf vs.toArray nn) ∈ news) (F : Fr h₀ env.locals s.heap m₀) (N : News h₀ env.locals s.heap news)
    (turn : ∀ (i : Nat) (v : Value) (u : PySem.Str → Option Value) h tk own, vs[i]? = some v → OwnOff own (news.map (·.1)) → Fr h₀ env.locals h (fun y => if y = x then some v else if stored.contains y then u y else m₀ y) → News h₀ env.locals h (news ++ own) →
      wpAny (model prog w) A (execs body env) (InvPostN h₀ env.locals (KeepN news x stored m₀) own (news.map (·.1)) { s with heap := h, toks := tk } Q) E { s with heap := h, toks := tk })
    (done : ∀ (u : PySem.Str → Option Value) h tk, Fr h₀ env.locals h (fun y => if y = x then u y else if stored.contains y then u y else m₀ y) → News h₀ env.locals h news → Q .next { s with heap := h, toks := tk }) :
    wpAny (model prog w) A (pyIter (.ref l)) (fun it s₂ => LoopAtV prog w A h₀ env x body Q E it s₂) E s := by
  have hol : s.heap.get? l = some (PySem.W.listOf vs.toArray nn) := (N _ hl).1
  have hls : s.heap.IsList l vs.toArray := ⟨_, hol, rfl, nn, rfl⟩
  have hne : l ≠ s.heap.objs.size := Nat.ne_of_lt (Heap.lt_size hol)
  have mapEq : ∀ (m₁ : PySem.Str → Option Value) (o : Option Value → Option Value), (∀ z, z ≠ x → stored.contains z = false → m₁ z = m₀ z) → (fun y => if y = x then o (m₁ y) else m₁ y) = fun y => if y = x then o (m₁ y) else if stored.contains y then m₁ y else m₀ y := by
    intro m₁ o hm
    funext y
    by_cases h1 : y = x
    · rw [if_pos h1, if_pos h1]
    · rw [if_neg h1, if_neg h1]
      by_cases h2 : stored.contains y = true
      · rw [if_pos h2]
      · rw [if_neg h2]; exact hm y h1 (by simpa using h2)
  refine wpAny_pyIter_list hls ?_
  have W := Walks.list (prog := prog) (w := w) hh s.heap.objs.size l hne vs.toArray
  refine ⟨_, _, _, vs.toArray.size, _, _, m₀, news, (fun _ m nx => KeepN news x stored m₀ m nx), rfl, W, ?_, ?_, ?_, ⟨⟨_, Heap.get?_push_size _ rfl, rfl, rfl⟩, hls.at fun o e => Heap.get?_push_of_some _ e⟩, F.push _, (fun p hp => ⟨Heap.get?_push_of_some _ (N p hp).1, (N p hp).2⟩), ⟨rfl, fun _ _ _ => rfl⟩, ?_, ?_⟩
  · intro hm
    rcases List.mem_cons.mp hm with e | hm
    · exact absurd F.ns.lt (e ▸ Nat.lt_irrefl _)
    · exact (N _ hl).2.1 ((List.mem_singleton.mp hm).symm)
  · intro b hb
    rw [List.mem_singleton.mp hb]
    exact next_is_new F
  · intro p hp hI
    exact absurd (Heap.lt_size (N p hp).1) ((List.mem_singleton.mp hI) ▸ Nat.lt_irrefl _)
  · rintro i v m₁ news₁ s₁ own ⟨hh', tk', rfl⟩ hin hP ⟨rfl, hm₁⟩ hoff hown hget hfp _ F₁ N₁
    have hsep : OwnOff (own.filter fun p => decide (p.1 = s.heap.objs.size)) (news₁.map (·.1)) := by
      intro p hp b hb e
      obtain ⟨q, hq, rfl⟩ := List.mem_map.mp hb
      have h1 : p.1 = s.heap.objs.size := by simpa using (List.mem_filter.mp hp).2
      exact absurd (Heap.lt_size (N q hq).1) (by rw [← e, h1]; exact Nat.lt_irrefl _)
    have hv : vs[i]? = some v := by simpa using hP
    have N₂ : News h₀ env.locals hh' (news₁ ++ own.filter fun p => decide (p.1 = s.heap.objs.size)) := fun p hp => N₁ p ((List.mem_append.mp hp).elim (fun h => List.mem_append.mpr (.inr h)) fun h => List.mem_append.mpr (.inl ((List.mem_filter.mp h).1)))
    have hlo : hh'.get? l = some (PySem.W.listOf vs.toArray nn) := (N₁ _ (List.mem_append.mpr (.inr hl))).1
    rw [mapEq m₁ (fun _ => some v) hm₁] at F₁
    refine wpAny_mono (turn i v m₁ hh' tk' _ hv hsep F₁ N₂) (fun f s₂ p => ?_) fun _ _ e => e
    have fin : InvEndN h₀ env.locals (KeepN news₁ x stored m₀) (own.filter fun p => decide (p.1 = s.heap.objs.size)) (news₁.map (·.1)) { s with heap := hh', toks := tk' } s₂ →
        LoopStepU h₀ env.locals [s.heap.objs.size] own (fun m nx => KeepN news₁ x stored m₀ m nx) { s with heap := hh', toks := tk' } .next s₂ := by
      rintro ⟨h', tk, m', news', nx, e, F', N', hn, ho, ha, hm⟩
      refine ⟨rfl, h', tk, m', nx, e, F', fun p hp => ?_, fun p hp => ?_, hm⟩
      · rcases List.mem_append.mp hp with h | h
        · by_cases hI : p.1 = s.heap.objs.size
          · exact N' p (ho p (List.mem_filter.mpr ⟨h, by simpa using hI⟩))
          · have h1 : p.1 = l := by
              rcases List.mem_cons.mp (hown p h) with h2 | h2
              · exact absurd h2 hI
              · exact List.mem_singleton.mp h2
            have h2 : hh'.get? p.1 = some p.2 := hget p h
            rw [h1, hlo] at h2
            have h3 : p = (l, PySem.W.listOf vs.toArray nn) := Prod.ext h1 (Option.some.inj h2).symm
            rw [h3]
            exact N' _ (hn _ (by rw [hm.1]; exact hl))
        · exact N' p (hn p h)
      · rw [hm.1] at hp
        intro hI
        exact absurd (Heap.lt_size (N p hp).1) (by rw [List.mem_singleton.mp hI]; exact Nat.lt_irrefl _)
    cases f with
    | ret v => exact .ret p
    | brk => exact .brk p
    | next => exact .next (fin p)
    | cont => exact .cont (fin p)
  · rintro h' tk m' news' F' N' _ ⟨rfl, hm⟩
    refine done m' h' tk ?_ N'
    have := mapEq m' id hm
    simp only [id] at this
    rw [← this]
    have e : (fun y => if y = x then m' y else m' y) = m' := by funext y; by_cases h : y = x <;> simp
    rw [e]; exact F'
theorem keepEnd {stored : List PySem.Str} {m₀ : PySem.Str → Option Value} {L : Addr} {m' : PySem.Str → Option Value} {own news news' : List (Addr × Obj)} {s₁ : Shared} {h' : Heap} {tk : Nat}
    (F : Fr h₀ L h' m') (N : News h₀ L h' news') (hn : ∀ p ∈ news, p ∈ news') (ho : ∀ p ∈ own, p ∈ news') (hr : ∀ z, z ≠ x → stored.contains z = false → m' z = m₀ z) :
    InvEndN h₀ L (KeepN news x stored m₀) own (news.map (·.1)) s₁ { s₁ with heap := h', toks := tk } :=
  InvEndN.intro F N ⟨rfl, hr⟩ rfl hn ho
end
noncomputable def Phase (w : World) (k : Nat) (P : Heap → Addr → (PySem.Str → Option Value) → List (Addr × Obj) → Prop) : Prop :=
  ∀ (mean : ExcName → Option Value) (mg mb : PySem.Str → Option Value) (dp un : Nat) (gd : Option (List Code)) (fa : Addr) (ccd : Value) (outer : List Env) (A₀ : Around) (base h₀ : Heap) (L : Addr) (m : PySem.Str → Option Value) (news : List (Addr × Obj)) (s : Shared) (Q : Flow → Shared → Prop) (E : Value → Shared → Prop),
    Below A₀ base outer h₀ → Fr h₀ L s.heap m → (hd.heap_39 w.params).In h₀ → News h₀ L s.heap news → Top hd.view_39 (looseW hd.view_39 [PySem.Str.ofString "PostError"]) mean mg mb h₀ →
    dp + 6 < recursionLimit → un + 8 * 6 < cLine → P h₀ L m news →
    PassesOwn (model PySem.Challenge.pw_or0022_01 w) (ktrTop dp un gd (fd128 w.params).qualname (fd128 w.params).scope L fa ccd (cellsFrom (L + 1) (fd128 w.params).scope.names []) outer) (envOfC (fd128 w.params).qualname (fd128 w.params).scope L fa ccd) E →
    (∀ h' tk' m', Fr h₀ L h' m' → Q (.ret (.bool true)) { s with heap := h', toks := tk' }) →
    wpAny (model PySem.Challenge.pw_or0022_01 w) (ktrTop dp un gd (fd128 w.params).qualname (fd128 w.params).scope L fa ccd (cellsFrom (L + 1) (fd128 w.params).scope.names []) outer)
      (execs ((lawB w.params).drop k) (envOfC (fd128 w.params).qualname (fd128 w.params).scope L fa ccd)) Q E s
end Mine
end

-- part Mc
section
open PySem PySem.W PyProof.Rows PySem.Calls
set_option maxRecDepth 100000
namespace Mine
theorem offMc : True := by
  w_top off
  trivial
/-- the signs rise -/
noncomputable def Ris (als : List Int) : Prop := ∃ f : Int, ∀ j : Int, 0 ≤ j → j < 64 → als.getD j.toNat 0 = f + j
theorem lets_ris {als : List Int} {f : Int} (h : ∀ j : Int, 0 ≤ j → j < 64 → als.getD j.toNat 0 = f + j) {js : List Int} (hj : ∀ j ∈ js, 0 ≤ j ∧ j < 64) : lets als js = js.map (f + ·) :=
  List.map_congr_left fun j hm => h j (hj j hm).1 (hj j hm).2
theorem oI_enc {als a b : List Int} (hr : Ris als) (ha : Oct a) (hb : Oct b) : oI (encI als a) (encI als b) = oI a b := by
  obtain ⟨f, hf⟩ := hr
  rw [encI_lets, encI_lets, lets_ris hf (encJ_in ha), lets_ris hf (encJ_in hb), oI_map (fun x y => by omega), oI_encJ ha hb]
theorem oct_enc {als : List Int} (hal : KBw.bInts (byteArr als) = als) (ks : List Int) : Oct (encI als ks) := encI_in hal ks
theorem ltI_enc {als a b : List Int} (hal : KBw.bInts (byteArr als) = als) (hr : Ris als) (ha : Oct a) (hb : Oct b) : ltI (encI als a) (encI als b) = ltI a b := by
  rw [ltI_oI (oct_enc hal a) (oct_enc hal b), ltI_oI ha hb, oI_enc hr ha hb]
theorem eqA_enc {als a b : List Int} (hal : KBw.bInts (byteArr als) = als) (hr : Ris als) (ha : Oct a) (hb : Oct b) : eqA (encI als a) (encI als b) = eqA a b := by
  rw [eqA_oI (oct_enc hal a) (oct_enc hal b), eqA_oI ha hb, oI_enc hr ha hb]
theorem pairLt_enc {als a b : List Int} (hal : KBw.bInts (byteArr als) = als) (hr : Ris als) (ha : Oct a) (hb : Oct b) : pairLt (encI als a, a) (encI als b, b) = ltI a b := by
  unfold pairLt
  dsimp only
  rw [eqA_enc hal hr ha hb, ltI_enc hal hr ha hb]
  by_cases h : eqA a b = true
  · rw [if_pos h, if_pos h, ltI_oI ha hb]
    rw [eqA_oI ha hb] at h
    rw [eq_of_beq h]; rfl
  · rw [if_neg h]
noncomputable def encP (als k : List Int) : List Int × List Int := (encI als k, k)
theorem getD_map {α β : Type} {f : α → β} {l : List α} {i : Nat} {d : α} {d' : β} (h : i < l.length) : (l.map f).getD i d' = f (l.getD i d) := by
  rw [List.getD_eq_getElem?_getD, List.getElem?_map, List.getElem?_eq_getElem h, List.getD_eq_getElem?_getD, List.getElem?_eq_getElem h]; rfl
theorem getD_mem {α : Type} {l : List α} {i : Nat} {d : α} (h : i < l.length) : l.getD i d ∈ l := by
  rw [List.getD_eq_getElem?_getD, List.getElem?_eq_getElem h]; exact List.getElem_mem h
/-- the rows in their order -/
noncomputable def sortK (kss : List (List Int)) : List (List Int) := pick [] kss (sortI (fun i j => ltI (kss.getD i []) (kss.getD j [])) kss.length)
theorem sortK_mem {kss : List (List Int)} : ∀ k ∈ sortK kss, k ∈ kss := by
  intro k hk
  obtain ⟨i, hi, rfl⟩ := List.mem_map.mp hk
  exact getD_mem (sortI_mem i hi)
theorem sortK_len {kss : List (List Int)} : (sortK kss).length = kss.length := by
  rw [sortK, pick, List.length_map, (sortI_perm _ _).length_eq, List.length_range]
theorem sortP {als : List Int} {kss : List (List Int)} (hal : KBw.bInts (byteArr als) = als) (hr : Ris als) (hK : ∀ k ∈ kss, Oct k) :
    pick ([], []) (kss.map (encP als)) (sortI (fun i j => pairLt ((kss.map (encP als)).getD i ([], [])) ((kss.map (encP als)).getD j ([], []))) (kss.map (encP als)).length) = (sortK kss).map (encP als) := by
  have e : sortI (fun i j => pairLt ((kss.map (encP als)).getD i ([], [])) ((kss.map (encP als)).getD j ([], []))) (kss.map (encP als)).length = sortI (fun i j => ltI (kss.getD i []) (kss.getD j [])) kss.length := by
    rw [List.length_map]
    refine sortI_congr fun i j hi hj => ?_
    rw [getD_map (d := []) hi, getD_map (d := []) hj]
    exact pairLt_enc hal hr (hK _ (getD_mem hi)) (hK _ (getD_mem hj))
  rw [e, sortK, pick, pick, List.map_map]
  refine List.map_congr_left fun i hi => ?_
  exact getD_map (d := []) (sortI_mem i hi)
theorem map_at {als : List Int} {l : List (List Int)} {i : Nat} {p : List Int × List Int} (h : (l.map (encP als))[i]? = some p) : ∃ k, l[i]? = some k ∧ p = encP als k := by
  rw [List.getElem?_map] at h
  cases hk : l[i]? with
  | none => rw [hk] at h; cases h
  | some k => rw [hk] at h; exact ⟨k, rfl, (Option.some.inj h).symm⟩
theorem enc_app {als a b : List Int} (h : a.length % 3 = 0) : encI als (a ++ b) = encI als a ++ encI als b := by
  rw [encI_lets, encI_lets, encI_lets, encJ_app b h, lets, lets, lets, List.map_append]
theorem enc_pre {als a b : List Int} (h : a.length % 3 = 0) (hp : b.take a.length = a) : (encI als b).take (encI als a).length = encI als a := by
  have e : b = a ++ b.drop a.length := by rw [← hp, List.length_take]; simp only [hp]; rw [show min a.length b.length = a.length by have := congrArg List.length hp; simp only [List.length_take] at this; omega]; conv => lhs; rw [← List.take_append_drop a.length b, hp]
  rw [e, enc_app h, List.take_left']
  rfl
theorem enc_grp {ks : List Int} (ho : Oct ks) : ∀ i, i < ((encJ ks).length + 3) / 4 → 2 ≤ (((encJ ks).drop (4 * i)).take 4).length ∧ (((encJ ks).drop (4 * i)).take 4).length ≤ 4 ∧ goB (((encJ ks).drop (4 * i)).take 4) = (ks.drop (3 * i)).take 3 ∧ goL (((encJ ks).drop (4 * i)).take 4) = 0 := by
  intro i hi
  have hl := encJ_len ks
  have h3 : 3 * i < ks.length := by omega
  have h1 := t3_len1 h3
  have h4 := @t3_len3 ks i
  have hg : Oct ((ks.drop (3 * i)).take 3) := ho.sub fun x hx => List.mem_of_mem_drop (List.mem_of_mem_take hx)
  obtain ⟨a, b, _⟩ := sx1 hg h1 h4
  rw [encJ_drop i ks h3]
  have := gcI_length _ h1 h4
  exact ⟨by omega, by omega, a, b⟩
theorem enc_flat {ks : List Int} : ((List.range (((encJ ks).length + 3) / 4)).map fun j => (ks.drop (3 * j)).take 3).flatten = ks :=
  chunks _ _ (by have := encJ_len ks; omega)
section
open PySem.Spec PyProof.V
variable {prog : Program} {w : World} {A : Around} {E : Value → Shared → Prop} {s : Shared} {env : Env} {h₀ : Heap} {x : PySem.Str} {target : Expr} {body : List Stmt} {Q : Flow → Shared → Prop}
theorem turnsConst {l : Addr} {vs : List Value} {nn : Nat} {m₀ : PySem.Str → Option Value} {news : List (Addr × Obj)} (x : PySem.Str) (stored : List PySem.Str)
    (hh : A.handled = none) (hl : (l, PySem.W.listOf vs.toArray nn) ∈ news) (F : Fr h₀ env.locals s.heap m₀) (N : News h₀ env.locals s.heap news)
    (turn : ∀ (i : Nat) (v : Value) (u : PySem.Str → Option Value) I oI h tk, vs[i]? = some v → (∀ p ∈ news, p.1 ≠ I) → Fr h₀ env.locals h (fun y => if y = x then u y else if stored.contains y then u y else m₀ y) → News h₀ env.locals h ((I, oI) :: news) →
      wpAny (model prog w) A (assign target env v) (fun _ s₂ => wpAny (model prog w) A (execs body env) (InvPostN h₀ env.locals (KeepN news x stored m₀) [(I, oI)] (news.map (·.1)) { s with heap := h, toks := tk } Q) E s₂) E { s with heap := h, toks := tk })
    (done : ∀ (u : PySem.Str → Option Value) h tk, Fr h₀ env.locals h (fun y => if y = x then u y else if stored.contains y then u y else m₀ y) → News h₀ env.locals h news → Q .next { s with heap := h, toks := tk }) :
    wpAny (model prog w) A (pyIter (.ref l)) (fun it s₂ => TurnsAt prog w A h₀ env target body Q E it s₂) E s := by
  have mapEq : ∀ (m₁ : PySem.Str → Option Value), (∀ z, z ≠ x → stored.contains z = false → m₁ z = m₀ z) → m₁ = fun y => if y = x then m₁ y else if stored.contains y then m₁ y else m₀ y := by
    intro m₁ hm
    funext y
    by_cases h1 : y = x
    · rw [if_pos h1]
    · rw [if_neg h1]
      by_cases h2 : stored.contains y = true
      · rw [if_pos h2]
      · rw [if_neg h2]; exact hm y h1 (by simpa using h2)
  refine iter_listTurns hh F N hl rfl rfl fun I lt => ?_
  have key : ∀ (r : List Value) (i : Nat), r = vs.drop i → ∀ m₁ : PySem.Str → Option Value, (∀ z, z ≠ x → stored.contains z = false → m₁ z = m₀ z) → ItemsRest prog w A E h₀ env target body Q s [(I, "list_iterator")] [(l, PySem.W.listOf vs.toArray nn)] (r.map .val) m₁ news := by
    intro r
    induction r with
    | nil =>
      intro i _ m₁ hm
      refine ItemsRest.zero fun h tk F' N' => done m₁ h tk ?_ N'
      rw [← mapEq m₁ hm]; exact F'
    | cons v r ih =>
      intro i hr m₁ hm
      have hi : i < vs.length := by
        rcases Nat.lt_or_ge i vs.length with h | h
        · exact h
        · rw [List.drop_eq_nil_of_le h] at hr; cases hr
      have hv : vs[i]? = some v := by
        have := congrArg (·[0]?) hr
        simpa using this.symm
      refine ItemsRest.val fun h tk F' => AllObj.cons fun oI _ => AllObj.nil fun N' => ?_
      rw [mapEq m₁ hm] at F'
      refine wpAny_mono (turn i v m₁ I oI h tk hv (fun p hp => Nat.ne_of_lt (lt p hp)) F' N') (fun _ s₂ h₂ => wpAny_mono h₂ (fun f s₃ p => ?_) fun _ _ e => e) fun _ _ e => e
      have fin : InvEndN h₀ env.locals (KeepN news x stored m₀) [(I, oI)] (news.map (·.1)) { s with heap := h, toks := tk } s₃ →
          UnrEndW h₀ env.locals { s with heap := h, toks := tk } [(I, oI)] (fun m' n' => SubL [(l, PySem.W.listOf vs.toArray nn)] n' ∧ ItemsRest prog w A E h₀ env target body Q s [(I, "list_iterator")] [(l, PySem.W.listOf vs.toArray nn)] (r.map .val) m' n') s₃ := by
        rintro ⟨h', tk', m', news', nx, e, F'', N'', hn, ho, ha, hm'⟩
        obtain ⟨rfl, hm'⟩ := hm'
        refine ⟨h', tk', m', nx, e, F'', fun p hp => ?_, fun p hp q hq => ?_, And.intro (And.intro hl trivial) (ih (i + 1) ?_ m' hm')⟩
        · rcases List.mem_append.mp hp with h | h
          · exact N'' p (ho p h)
          · exact N'' p (hn p h)
        · rw [List.mem_singleton.mp hq]; exact Nat.ne_of_lt (lt p hp)
        · rw [← List.drop_drop, ← hr]; rfl
      cases f with
      | ret v => exact p
      | brk => exact p
      | next => exact fin p
      | cont => exact fin p
  exact key vs 0 (by simp) m₀ fun _ _ _ => rfl
end
end Mine
end

-- part Mp
section
open PySem PySem.W PyProof.Rows PySem.Calls
set_option maxRecDepth 100000
namespace Mine
theorem offMp : True := by
  w_top off
  trivial
section
open PySem.Spec PyProof.V PyProof.Rows.LCg PyProof.Rows.LCp
variable {prog : Program} {w : World} {A : Around} {h₀ : Heap} {L : Addr} {m : PySem.Str → Option Value} {env : Env} {elt : Expr} {x x₂ : PySem.Str} {scope : Scope} {cl : List (PySem.Str × Addr)} {s : Shared} {S : List (Addr × Obj) → Prop} {P : Nat → Value → Prop} {Fin : List Value → List (Addr × Obj) → Prop} {news : List (Addr × Obj)}
theorem compInvP {n : Nat} (J : Nat → List Value → List (Addr × Obj) → Prop) (hJ : J 0 [] news)
    (turn : ∀ i v ys nw, i < n → P i v → J i ys nw → ∃ (t : Addr) (ot : Obj) (v₁ v₂ : Value) (nt : Nat), v = .ref t ∧ (t, ot) ∈ nw ∧ ot.cls = .type "tuple" ∧ ot.data = .seq #[v₁, v₂] nt ∧
      ∀ I oI C oC D m₂ h tk (E' : Value → Shared → Prop), NsObj oC m₂ → m₂ x = some v₁ → m₂ x₂ = some v₂ → Fr h₀ L h m → News h₀ L h ((I, oI) :: (C, oC) :: (D, lst ys) :: nw) → Off3 I C D nw → ((@Ne Nat I C) ∧ (@Ne Nat I D) ∧ (@Ne Nat C D)) →
        wpAny (model prog w) A (eval elt (compEnvC scope cl C env)) (CompEnd h₀ L m { s with heap := h, toks := tk } I oI C oC D (lst ys) S (fun y nw' => J (i + 1) (ys ++ [y]) nw')) E' { s with heap := h, toks := tk })
    (fin : ∀ ys nw, J n ys nw → Fin ys nw) : CompRestP prog w A h₀ L m env elt x x₂ scope cl s S P Fin n 0 [] news := by
  have key : ∀ (j i : Nat) (ys : List Value) (nw : List (Addr × Obj)), i + j = n → J i ys nw → CompRestP prog w A h₀ L m env elt x x₂ scope cl s S P Fin j i ys nw := by
    intro j
    induction j with
    | zero =>
      intro i ys nw hi hy
      have e : i = n := by omega
      subst e
      exact CompRestP.zero (fin ys nw hy)
    | succ j ih =>
      intro i ys nw hi hy
      refine CompRestP.succ fun v hv => ?_
      obtain ⟨t, ot, v₁, v₂, nt, e, hm, hc, hd, R⟩ := turn i v ys nw (by omega) hv hy
      refine ⟨t, ot, v₁, v₂, nt, e, hm, hc, hd, ?_⟩
      intro I oI C oC D m₂ h tk E' hC hx hx₂ F N off ne
      refine wpAny_mono (R I oI C oC D m₂ h tk E' hC hx hx₂ F N off ne) (fun y s₂ hq => ?_) fun _ _ e => e
      obtain ⟨h', tk', nw', e, F', N', off', hS, hj⟩ := hq
      exact ⟨h', tk', nw', e, F', N', off', hS, ih (i + 1) _ _ (by omega) hj⟩
  exact key n 0 [] news (by omega) hJ
end
end Mine
end

section
open PySem PySem.W PyProof.Rows PySem.Calls
local macro_rules | `(tactic| walk_at "exec For Name Name cons nil") => `(tactic| (k_here; k_dflt (refine For_invV _ rfl rfl ?_ (by intro _; rfl) (by assumption))))
local macro_rules | `(tactic| walk_at "pyIter ref") => `(tactic| refine Mine.StopW.of ?_)
local macro_rules | `(tactic| walk_at "CompSrc") => `(tactic| refine Mine.StopW.of ?_)
local macro_rules | `(tactic| walk_at "call ref") => `(tactic| refine Mine.StopW.of ?_)
local macro_rules | `(tactic| walk_at "call type:dict") => `(tactic| refine Mine.StopW.of ?_)
local macro_rules | `(tactic| walk_at "call builtin:sorted") => `(tactic| refine Mine.StopW.of ?_)
local macro_rules | `(tactic| walk_at "eval ListComp") => `(tactic| (k_here; k_dflt (refine LCg.ListComp_U (F₀ := by k_asm) (by with_unfolding_all rfl) (by decide) (by rfl) (by decide) (by rfl) ?_)))

-- part P3
section
open PySem PySem.W PyProof.Rows PySem.Calls
set_option maxRecDepth 100000
namespace Mine
theorem offP3 : True := by
  w_top off
  trivial
theorem fillP3 : (fun (_ : Params → Frag) (_ : OpenLaw) => True) hd.heap_39 PySem.Challenge.rw_or0022_01 := by k_fill; trivial
theorem one_eq (e : List Int) (n : Nat) : byteArr (e ++ List.replicate n 61) = byteArr e ++ (List.flatten (List.replicate n [(61 : UInt8)])).toArray := by
  rw [← byteArr_app]
  congr 1
  unfold byteArr
  congr 1
  induction n with
  | zero => rfl
  | succ n ih =>
    rw [List.replicate_succ, List.replicate_succ, List.flatten_cons, List.map_cons, ih]
    rfl
theorem gcAt {vals : List Value} {als g : List Int} {i : Nat} {v : Value} (h : IntsAre vals (gcV als g)) (e : vals.toArray[i]? = some v) : i < (gcI g).length ∧ ∃ t, v = .int (als.getD ((gcI g).getD i 0).toNat 0) t := by
  obtain ⟨x, t, e1, e2⟩ := IntsAre.at h i v (by simpa using e)
  have hi : i < (gcI g).length := by
    rcases Nat.lt_or_ge i (gcI g).length with hh | hh
    · exact hh
    · rw [gcV, List.getElem?_map, List.getElem?_eq_none hh] at e2; cases e2
  refine ⟨hi, t, ?_⟩
  rw [gcV, List.getElem?_map, List.getElem?_eq_getElem hi] at e2
  rw [e1, List.getD_eq_getElem?_getD (l := gcI g), List.getElem?_eq_getElem hi, ← Option.some.inj e2]
  rfl
theorem octNo {b : Array UInt8} {g : List Int} {P : Prop} (hb : KBw.bInts b = g) (h : ((byteArr g).toList != b.toList) = true) : P := by
  rw [bArr_of hb] at h
  simp at h
theorem mem4 {α : Type} {a b c d p : α} {own : List α} (h : p ∈ [a, b, c, d]) : p ∈ a :: b :: c :: d :: own := List.mem_append.mpr (.inl h)
theorem mem4' {α : Type} {a b c d p : α} {own : List α} (h : p ∈ own) : p ∈ a :: b :: c :: d :: own := .tail _ (.tail _ (.tail _ (.tail _ h)))
theorem keepHr {x a b c : PySem.Str} {va vb vc v : Option Value} {u m₀ : PySem.Str → Option Value} : ∀ z, z ≠ x → [a, b, c].contains z = false →
    (if z = c then vc else if z = b then vb else if z = a then va else if z = x then v else if [a, b, c].contains z then u z else m₀ z) = m₀ z := by
  intro z h1 h3
  have h3' := h3
  simp only [List.contains_cons, List.contains_nil, Bool.or_false, Bool.or_eq_false_iff, beq_eq_false_iff_ne] at h3'
  obtain ⟨ha, hb, hc⟩ := h3'
  rw [if_neg hc, if_neg hb, if_neg ha, if_neg h1, if_neg (by rw [h3]; exact Bool.false_ne_true)]
theorem oneNo {e : List Int} {n : Nat} {P : Prop} (h : ((byteArr (e ++ List.replicate n 61)).toList != (byteArr e ++ (List.flatten (List.replicate n [(61 : UInt8)])).toArray).toList) = true) : P := by
  rw [one_eq] at h
  simp at h
theorem szOk {e : List Int} {m : Nat} (h : e.length ≤ 100) : (byteArr e).size + (List.flatten (List.replicate (Int.fmod (-(m : Int)) 3).toNat [(61 : UInt8)])).toArray.size ≤ 16777216 := by
  have := fmod3 m
  rw [byteArr_size]
  simp
  omega
theorem pick_q1 {b : Array UInt8} {l : List Int} (h : (b.toList != []) = true) (hb : KBw.bInts b = l) : 1 ≤ l.length := nn_len (by simpa [bne] using h) hb
theorem clip3 (n : Nat) : clipAt n 3 ≤ 3 := by
  have := clipAt_cast n 3
  rw [if_neg (by decide)] at this
  omega
theorem pick_q2 (n : Nat) (k : List Int) : (List.take (clipAt n 3) k).length ≤ 3 := by
  have := clip3 n
  rw [List.length_take]; omega
theorem fm_lo (n : Nat) : -1048576 ≤ Int.fmod (-(n : Int)) 3 := by rw [Int.fmod_eq_emod_of_nonneg _ (by decide)]; omega
theorem fm_hi (n : Nat) : Int.fmod (-(n : Int)) 3 ≤ 1048576 := by rw [Int.fmod_eq_emod_of_nonneg _ (by decide)]; omega
local macro_rules | `(tactic| walk_at "binaryOp Mult bytes int") => `(tactic| (k_here; k_dflt (refine' bytes_mul_any ?b ?h1 ?h2 ?hs ?_; (case b => exact List.cons_ne_nil _ _); (case h1 => exact fm_lo _); (case h2 => exact fm_hi _); (case hs => decide)); intro t' k'))
local macro_rules | `(tactic| walk_at "binaryOp Add bytes bytes") => `(tactic| (k_here; (refine KBy.add_bytes ?_ ?_; rotate_left); intro t' k'; (try dsimp only)))
noncomputable def Alp (als : List Int) : Prop := als.length = 64 ∧ als.Nodup ∧ KBw.bInts (byteArr als) = als

set_option maxHeartbeats 2000000 in
theorem phase3 (w : World) (R : Addr) (rs : List Value) (kss : List (List Int)) (nR : Nat) (als : List Int) (ta : Tok) (o3 o4 : Obj) (x4 : Option Value) (m' : PySem.Str → Option Value) :
    Phase w 8 (fun _ L m news => m = (fun y => if y = PySem.Str.ofString "rows" then some (.ref R) else m' y) ∧ news = [(R, PySem.W.listOf (List.toArray rs) nR), (L + 1 + 1 + 1, o3), (L + 1 + 1 + 1 + 1, o4)] ∧ o3.data = .cell (some (.bytes (byteArr als) ta)) ∧ o4.data = .cell x4 ∧
      BAre rs kss ∧ (∀ k ∈ kss, Oct k ∧ k.length ≤ 5) ∧ Alp als ∧ @Ne Nat R (L + 1 + 1 + 1) ∧ @Ne Nat R (L + 1 + 1 + 1 + 1)) := by
  unfold Phase
  intro mean mg mb dp un gd fa ccd outer A₀ base h₀ L m news s Q E B F X N T hd hu hP hE hret
  obtain ⟨rfl, rfl, ho3, ho4, hB, hK, ⟨hals, hnd, hal⟩, hR3, hR4⟩ := hP
  unfold lawB
  conv =>
    pattern (occs := *) fd128 _
    all_goals whnf
  dsimp only [List.drop]
  (repeat' (first | (k_unfold; (try dsimp only)) | ((k_here; (with_reducible show wpAny _ _ (subscriptTail _ _ (Value.ref _) (Value.int _ _)) _ _ _); k_dflt (refine' worthItem (by k_asm) (by k_mem) (by assumption) (by assumption) (by exact rfl) (by assumption) (by assumption) ?_); intro _); (try dsimp only)) | ((k_here; (with_reducible show wpAny _ _ (call (Value.ref 76) _) _ _ _); k_dflt (refine' CSpec.useR (by k_asm) (by k_asm) (by k_asm) (by k_asm) (by k_asm) (by first | exact rfl | assumption) (by ktr_room) (by ktr_units) (go_all _ _ _ _ _ _ (by exact List.mem_cons_self ..) (by assumption) (by omega) (by omega)) ?_; intro _ _ _ _ _ zzN9 zzhp9; (obtain ⟨_, _, _, _, zze1, zze2, _⟩ := zzhp9; subst zze1; subst zze2; rw [‹goB _ = _›, ‹goL _ = 0›] at zzN9; dsimp only [tupO] at zzN9); (try dsimp only at zzN9); (try dsimp only); (try k_fold))); (try dsimp only)) | ((k_here; (with_reducible show wpAny _ _ (call (Value.ref 71) _) _ _ _); k_dflt (refine' CSpec.useR (by k_asm) (by k_asm) (by k_asm) (by k_asm) (by k_asm) (by first | exact rfl | assumption) (by ktr_room) (by ktr_units) (gc_all _ _ _ _ _ _ _ _ (by assumption) (by exact pick_q1 (by assumption) (by assumption)) (by exact pick_q2 _ _) (by assumption) (by assumption)) ?_; intro _ _ _ _ _ zzN9 zzhp9; (obtain ⟨_, _, _, zze1, zze2, _, _⟩ := zzhp9; subst zze1; subst zze2); (try dsimp only at zzN9); (try dsimp only); (try k_fold))); (try dsimp only)) | ((k_here; (with_reducible show wpAny _ _ (call (Value.ref 83) _) _ _ _); k_dflt (refine' CSpec.useR (by k_asm) (by k_asm) (by k_asm) (by k_asm) (by k_asm) (by first | exact rfl | assumption) (by ktr_room) (by ktr_units) (penc_spec _ _ _ _ sgI _ _ _ (by assumption) (by omega) (by exact rfl) (by decide)) ?_; intro _ _ _ _ _ zzN9 zzhp9; (obtain ⟨⟨_, zze1⟩, zze2⟩ := zzhp9; subst zze1; subst zze2); (try dsimp only at zzN9); (try dsimp only); (try k_fold))); (try dsimp only)) | ((k_here; (with_reducible show wpAny _ _ (call (Value.ref 104) _) _ _ _); k_dflt (refine' CSpec.useR (by k_asm) (by k_asm) (by k_asm) (by k_asm) (by k_asm) (by first | exact rfl | assumption) (by ktr_room) (by ktr_units) (oline_spec _ _ _ _ _ (by assumption) (by assumption)) ?_; intro _ _ _ _ _ zzN9 zzhp9; (obtain ⟨⟨_, zze1⟩, zze2⟩ := zzhp9; subst zze1; subst zze2); (try dsimp only at zzN9); (try dsimp only); (try k_fold))); (try dsimp only)) |  (walk1; (try dsimp only)) | (dsimp only; walk1) | (leave1; walk_say "STEP leave1"; try dsimp only) | fail "no step"))
  refine StopW.mk ?_
  k_dflt (refine LCg.CompSrc.range (n := 64) (by rfl) (by k_asm) (by k_asm) (by assumption) (by decide +kernel) (by decide +kernel) (by first | size_fits | exact Nat.le_of_ble_eq_true rfl) ?_; intro g'; refine CompStop.of ?_)
  refine compInv (fun i ys nw => PairsAt als i ys nw ∧ ∀ p ∈ [(R, PySem.W.listOf (List.toArray rs) nR), (L + 1 + 1 + 1, o3), (L + 1 + 1 + 1 + 1, o4)], p ∈ nw) ⟨PairsAt.nil, fun _ h => h⟩ ?_ ?_
  · intro i v ys nw I oI C oC D m₂ h tk E' hi hv hJ hC hx F9 N9 off ne
    obtain ⟨t9, rfl⟩ := hv
    obtain ⟨hP, hsub⟩ := hJ
    have hmc : (L + 1 + 1 + 1, o3) ∈ nw := hsub _ (.tail _ (.head _))
    rw [Int.zero_add] at hx
    (repeat' (first | (k_unfold; (try dsimp only)) | ((k_here; (with_reducible show wpAny _ _ (subscriptTail _ _ (Value.ref _) (Value.int _ _)) _ _ _); k_dflt (refine' worthItem (by k_asm) (by k_mem) (by assumption) (by assumption) (by exact rfl) (by assumption) (by assumption) ?_); intro _); (try dsimp only)) | ((k_here; (with_reducible show wpAny _ _ (call (Value.ref 76) _) _ _ _); k_dflt (refine' CSpec.useR (by k_asm) (by k_asm) (by k_asm) (by k_asm) (by k_asm) (by first | exact rfl | assumption) (by ktr_room) (by ktr_units) (go_all _ _ _ _ _ _ (by exact List.mem_cons_self ..) (by assumption) (by omega) (by omega)) ?_; intro _ _ _ _ _ zzN9 zzhp9; (obtain ⟨_, _, _, _, zze1, zze2, _⟩ := zzhp9; subst zze1; subst zze2; rw [‹goB _ = _›, ‹goL _ = 0›] at zzN9; dsimp only [tupO] at zzN9); (try dsimp only at zzN9); (try dsimp only); (try k_fold))); (try dsimp only)) | ((k_here; (with_reducible show wpAny _ _ (call (Value.ref 71) _) _ _ _); k_dflt (refine' CSpec.useR (by k_asm) (by k_asm) (by k_asm) (by k_asm) (by k_asm) (by first | exact rfl | assumption) (by ktr_room) (by ktr_units) (gc_all _ _ _ _ _ _ _ _ (by assumption) (by exact pick_q1 (by assumption) (by assumption)) (by exact pick_q2 _ _) (by assumption) (by assumption)) ?_; intro _ _ _ _ _ zzN9 zzhp9; (obtain ⟨_, _, _, zze1, zze2, _, _⟩ := zzhp9; subst zze1; subst zze2); (try dsimp only at zzN9); (try dsimp only); (try k_fold))); (try dsimp only)) | ((k_here; (with_reducible show wpAny _ _ (call (Value.ref 83) _) _ _ _); k_dflt (refine' CSpec.useR (by k_asm) (by k_asm) (by k_asm) (by k_asm) (by k_asm) (by first | exact rfl | assumption) (by ktr_room) (by ktr_units) (penc_spec _ _ _ _ sgI _ _ _ (by assumption) (by omega) (by exact rfl) (by decide)) ?_; intro _ _ _ _ _ zzN9 zzhp9; (obtain ⟨⟨_, zze1⟩, zze2⟩ := zzhp9; subst zze1; subst zze2); (try dsimp only at zzN9); (try dsimp only); (try k_fold))); (try dsimp only)) | ((k_here; (with_reducible show wpAny _ _ (call (Value.ref 104) _) _ _ _); k_dflt (refine' CSpec.useR (by k_asm) (by k_asm) (by k_asm) (by k_asm) (by k_asm) (by first | exact rfl | assumption) (by ktr_room) (by ktr_units) (oline_spec _ _ _ _ _ (by assumption) (by assumption)) ?_; intro _ _ _ _ _ zzN9 zzhp9; (obtain ⟨⟨_, zze1⟩, zze2⟩ := zzhp9; subst zze1; subst zze2); (try dsimp only at zzN9); (try dsimp only); (try k_fold))); (try dsimp only)) |  (walk1; (try dsimp only)) | (dsimp only; walk1) | (leave1; walk_say "STEP leave1"; try dsimp only) | fail "no step"))
    refine LCg.CompEnd.intro (by assumption) (by assumption) ((_, tupO _ _) :: nw) (by kcf_all) ⟨⟨by k_ne, by k_ne, by k_ne⟩, off⟩ trivial ⟨hP.snoc, fun p hp => .tail _ (hsub p hp)⟩
  · intro ys nw hJ
    obtain ⟨hP, hsub⟩ := hJ
    (repeat' (first | (k_unfold; (try dsimp only)) | ((k_here; (with_reducible show wpAny _ _ (subscriptTail _ _ (Value.ref _) (Value.int _ _)) _ _ _); k_dflt (refine' worthItem (by k_asm) (by k_mem) (by assumption) (by assumption) (by exact rfl) (by assumption) (by assumption) ?_); intro _); (try dsimp only)) | ((k_here; (with_reducible show wpAny _ _ (call (Value.ref 76) _) _ _ _); k_dflt (refine' CSpec.useR (by k_asm) (by k_asm) (by k_asm) (by k_asm) (by k_asm) (by first | exact rfl | assumption) (by ktr_room) (by ktr_units) (go_all _ _ _ _ _ _ (by exact List.mem_cons_self ..) (by assumption) (by omega) (by omega)) ?_; intro _ _ _ _ _ zzN9 zzhp9; (obtain ⟨_, _, _, _, zze1, zze2, _⟩ := zzhp9; subst zze1; subst zze2; rw [‹goB _ = _›, ‹goL _ = 0›] at zzN9; dsimp only [tupO] at zzN9); (try dsimp only at zzN9); (try dsimp only); (try k_fold))); (try dsimp only)) | ((k_here; (with_reducible show wpAny _ _ (call (Value.ref 71) _) _ _ _); k_dflt (refine' CSpec.useR (by k_asm) (by k_asm) (by k_asm) (by k_asm) (by k_asm) (by first | exact rfl | assumption) (by ktr_room) (by ktr_units) (gc_all _ _ _ _ _ _ _ _ (by assumption) (by exact pick_q1 (by assumption) (by assumption)) (by exact pick_q2 _ _) (by assumption) (by assumption)) ?_; intro _ _ _ _ _ zzN9 zzhp9; (obtain ⟨_, _, _, zze1, zze2, _, _⟩ := zzhp9; subst zze1; subst zze2); (try dsimp only at zzN9); (try dsimp only); (try k_fold))); (try dsimp only)) | ((k_here; (with_reducible show wpAny _ _ (call (Value.ref 83) _) _ _ _); k_dflt (refine' CSpec.useR (by k_asm) (by k_asm) (by k_asm) (by k_asm) (by k_asm) (by first | exact rfl | assumption) (by ktr_room) (by ktr_units) (penc_spec _ _ _ _ sgI _ _ _ (by assumption) (by omega) (by exact rfl) (by decide)) ?_; intro _ _ _ _ _ zzN9 zzhp9; (obtain ⟨⟨_, zze1⟩, zze2⟩ := zzhp9; subst zze1; subst zze2); (try dsimp only at zzN9); (try dsimp only); (try k_fold))); (try dsimp only)) | ((k_here; (with_reducible show wpAny _ _ (call (Value.ref 104) _) _ _ _); k_dflt (refine' CSpec.useR (by k_asm) (by k_asm) (by k_asm) (by k_asm) (by k_asm) (by first | exact rfl | assumption) (by ktr_room) (by ktr_units) (oline_spec _ _ _ _ _ (by assumption) (by assumption)) ?_; intro _ _ _ _ _ zzN9 zzhp9; (obtain ⟨⟨_, zze1⟩, zze2⟩ := zzhp9; subst zze1; subst zze2); (try dsimp only at zzN9); (try dsimp only); (try k_fold))); (try dsimp only)) |  (walk1; (try dsimp only)) | (dsimp only; walk1) | (leave1; walk_say "STEP leave1"; try dsimp only) | fail "no step"))
    refine StopW.mk ?_
    rename_i D h9 tk9 F9 N9 o9
    obtain ⟨kvs, e1, e2, e3, e4⟩ := hP.in
    have e5 := e4 _ _ _ (newsTail N9)
    have hk : kvs.map (·.1) = als := by rw [e2, ← hals]; exact range_getD als
    refine dictPairs (kvs := kvs) rfl F9 (fun p hp => N9 p (.tail _ (hsub p hp))) (Top.nolimit (by k_asm)) (N9 _ (.head _)).1 ?_ ?_ ?_
    · intro d hd
      exact ⟨e5.1, fun j kv hj => let ⟨a, o, t, n, q1, q2, q3, q4, _⟩ := e5.2 j kv hj; ⟨a, o, t, n, q1, q2, q3, q4, fun e => by rw [e] at q2; rw [hd] at q2; cases q2⟩⟩
    · rw [e1, sizeLine_eq]; decide
    · intro d h' tk o F' N' l9 lo hd9
      rw [merged_nil_of_nodup _ (hk ▸ hnd)] at hd9
      have hW : WorthObj w d o als := ⟨lo, kvs, hd9, worthFlat (by rw [e1, hals]) e3⟩
      have hoD := off1_of (ltNe l9)
      simp only [LCg.Off1, and_true] at hoD
      clear hd9 e1 e2 e3 e4 e5 hk hP hsub N9 F9 o9
      dsimp only
      (repeat' (first | (k_unfold; (try dsimp only)) | ((k_here; (with_reducible show wpAny _ _ (subscriptTail _ _ (Value.ref _) (Value.int _ _)) _ _ _); k_dflt (refine' worthItem (by k_asm) (by k_mem) (by assumption) (by assumption) (by exact rfl) (by assumption) (by assumption) ?_); intro _); (try dsimp only)) | ((k_here; (with_reducible show wpAny _ _ (call (Value.ref 76) _) _ _ _); k_dflt (refine' CSpec.useR (by k_asm) (by k_asm) (by k_asm) (by k_asm) (by k_asm) (by first | exact rfl | assumption) (by ktr_room) (by ktr_units) (go_all _ _ _ _ _ _ (by exact List.mem_cons_self ..) (by assumption) (by omega) (by omega)) ?_; intro _ _ _ _ _ zzN9 zzhp9; (obtain ⟨_, _, _, _, zze1, zze2, _⟩ := zzhp9; subst zze1; subst zze2; rw [‹goB _ = _›, ‹goL _ = 0›] at zzN9; dsimp only [tupO] at zzN9); (try dsimp only at zzN9); (try dsimp only); (try k_fold))); (try dsimp only)) | ((k_here; (with_reducible show wpAny _ _ (call (Value.ref 71) _) _ _ _); k_dflt (refine' CSpec.useR (by k_asm) (by k_asm) (by k_asm) (by k_asm) (by k_asm) (by first | exact rfl | assumption) (by ktr_room) (by ktr_units) (gc_all _ _ _ _ _ _ _ _ (by assumption) (by exact pick_q1 (by assumption) (by assumption)) (by exact pick_q2 _ _) (by assumption) (by assumption)) ?_; intro _ _ _ _ _ zzN9 zzhp9; (obtain ⟨_, _, _, zze1, zze2, _, _⟩ := zzhp9; subst zze1; subst zze2); (try dsimp only at zzN9); (try dsimp only); (try k_fold))); (try dsimp only)) | ((k_here; (with_reducible show wpAny _ _ (call (Value.ref 83) _) _ _ _); k_dflt (refine' CSpec.useR (by k_asm) (by k_asm) (by k_asm) (by k_asm) (by k_asm) (by first | exact rfl | assumption) (by ktr_room) (by ktr_units) (penc_spec _ _ _ _ sgI _ _ _ (by assumption) (by omega) (by exact rfl) (by decide)) ?_; intro _ _ _ _ _ zzN9 zzhp9; (obtain ⟨⟨_, zze1⟩, zze2⟩ := zzhp9; subst zze1; subst zze2); (try dsimp only at zzN9); (try dsimp only); (try k_fold))); (try dsimp only)) | ((k_here; (with_reducible show wpAny _ _ (call (Value.ref 104) _) _ _ _); k_dflt (refine' CSpec.useR (by k_asm) (by k_asm) (by k_asm) (by k_asm) (by k_asm) (by first | exact rfl | assumption) (by ktr_room) (by ktr_units) (oline_spec _ _ _ _ _ (by assumption) (by assumption)) ?_; intro _ _ _ _ _ zzN9 zzhp9; (obtain ⟨⟨_, zze1⟩, zze2⟩ := zzhp9; subst zze1; subst zze2); (try dsimp only at zzN9); (try dsimp only); (try k_fold))); (try dsimp only)) |  (walk1; (try dsimp only)) | (dsimp only; walk1) | (leave1; walk_say "STEP leave1"; try dsimp only) | fail "no step"))
      refine StopW.mk ?_
      rename News _ _ _ ((d, o) :: _) => N8
      k_dflt (refine loopConst (vs := rs) (nn := nR) ["group", "octets", "left"] rfl ?_ (by k_asm) N8 ?_ ?_)
      · exact .tail _ (.head _)
      · intro i v u h tk own hv hoff F7 N7
        obtain ⟨k, tv, hk1, rfl⟩ := hB.get hv
        have hk2 := hK k (List.mem_of_getElem? hk1)
        have hbk : KBw.bInts (byteArr k) = k := KBa.ints_make hk2.1
        have hk5 : k.length ≤ 9 := by have := hk2.2; omega
        dsimp only [List.cons_append, List.nil_append] at F7 N7
        (repeat' (first | (k_unfold; (try dsimp only)) | ((k_here; (with_reducible show wpAny _ _ (subscriptTail _ _ (Value.ref _) (Value.int _ _)) _ _ _); k_dflt (refine' worthItem (by k_asm) (by k_mem) (by assumption) (by assumption) (by exact rfl) (by assumption) (by assumption) ?_); intro _); (try dsimp only)) | ((k_here; (with_reducible show wpAny _ _ (call (Value.ref 76) _) _ _ _); k_dflt (refine' CSpec.useR (by k_asm) (by k_asm) (by k_asm) (by k_asm) (by k_asm) (by first | exact rfl | assumption) (by ktr_room) (by ktr_units) (go_all _ _ _ _ _ _ (by exact List.mem_cons_self ..) (by assumption) (by omega) (by omega)) ?_; intro _ _ _ _ _ zzN9 zzhp9; (obtain ⟨_, _, _, _, zze1, zze2, _⟩ := zzhp9; subst zze1; subst zze2; rw [‹goB _ = _›, ‹goL _ = 0›] at zzN9; dsimp only [tupO] at zzN9); (try dsimp only at zzN9); (try dsimp only); (try k_fold))); (try dsimp only)) | ((k_here; (with_reducible show wpAny _ _ (call (Value.ref 71) _) _ _ _); k_dflt (refine' CSpec.useR (by k_asm) (by k_asm) (by k_asm) (by k_asm) (by k_asm) (by first | exact rfl | assumption) (by ktr_room) (by ktr_units) (gc_all _ _ _ _ _ _ _ _ (by assumption) (by exact pick_q1 (by assumption) (by assumption)) (by exact pick_q2 _ _) (by assumption) (by assumption)) ?_; intro _ _ _ _ _ zzN9 zzhp9; (obtain ⟨_, _, _, zze1, zze2, _, _⟩ := zzhp9; subst zze1; subst zze2); (try dsimp only at zzN9); (try dsimp only); (try k_fold))); (try dsimp only)) | ((k_here; (with_reducible show wpAny _ _ (call (Value.ref 83) _) _ _ _); k_dflt (refine' CSpec.useR (by k_asm) (by k_asm) (by k_asm) (by k_asm) (by k_asm) (by first | exact rfl | assumption) (by ktr_room) (by ktr_units) (penc_spec _ _ _ _ sgI _ _ _ (by assumption) (by omega) (by exact rfl) (by decide)) ?_; intro _ _ _ _ _ zzN9 zzhp9; (obtain ⟨⟨_, zze1⟩, zze2⟩ := zzhp9; subst zze1; subst zze2); (try dsimp only at zzN9); (try dsimp only); (try k_fold))); (try dsimp only)) | ((k_here; (with_reducible show wpAny _ _ (call (Value.ref 104) _) _ _ _); k_dflt (refine' CSpec.useR (by k_asm) (by k_asm) (by k_asm) (by k_asm) (by k_asm) (by first | exact rfl | assumption) (by ktr_room) (by ktr_units) (oline_spec _ _ _ _ _ (by assumption) (by assumption)) ?_; intro _ _ _ _ _ zzN9 zzhp9; (obtain ⟨⟨_, zze1⟩, zze2⟩ := zzhp9; subst zze1; subst zze2); (try dsimp only at zzN9); (try dsimp only); (try k_fold))); (try dsimp only)) |  (walk1; (try dsimp only)) | (dsimp only; walk1) | (leave1; walk_say "STEP leave1"; try dsimp only) | fail "no step"))
        all_goals first
          | exact oneNo (by assumption)
          | exact szOk (by rw [encI_len]; omega)
          | skip
        refine StopW.mk ?_
        rename IntsAre _ _ => hI9
        rename KBw.bInts (KBy.picked _ _ _) = _ => hpk
        have hg1 := pick_q1 (by assumption) hpk
        have hg3 := pick_q2 k.length k
        have hgo := oct_of hpk
        obtain ⟨sa, sb, sc⟩ := sx1 hgo hg1 hg3
        have hlv := hI9.length
        rw [gcV_length _ _ hg1 hg3] at hlv
        have hgl := gcI_length _ hg1 hg3
        k_dflt (refine LCg.CompSrc.ledger (by rfl) (by k_asm) (by k_asm) (List.mem_cons_self ..) (by rw [List.size_toArray, sizeLine_eq]; omega) ?_; intro g'; refine CompStop.of ?_)
        refine compInv (fun i ys nw => IntsAre ys ((gcI (List.take (clipAt k.length 3) k)).take i) ∧ ∀ p ∈ _, p ∈ nw) ⟨by simp only [List.take_zero]; exact .nil, fun _ h => h⟩ ?_ ?_
        · intro i v ys nw I oI C oC D m₂ h tk E' hi hv hJ hC hx F9 N9 off ne
          obtain ⟨hJ1, hsub⟩ := hJ
          obtain ⟨hi2, t9, e9⟩ := gcAt hI9 hv
          subst e9
          have hq := getD_range sc hi2
          have hq1 := hq.1
          have hq2 : (gcI (List.take (clipAt k.length 3) k)).getD i 0 < (als.length : Int) := by rw [hals]; exact hq.2
          have hmd : (d, o) ∈ nw := hsub _ (.tail _ (.head _))
          have hmp := hsub _ (.tail _ (.tail _ (.tail _ (.tail _ (.head _)))))
          (repeat' (first | (k_unfold; (try dsimp only)) | ((k_here; (with_reducible show wpAny _ _ (subscriptTail _ _ (Value.ref _) (Value.int _ _)) _ _ _); k_dflt (refine' worthItem (by k_asm) (by k_mem) (by assumption) (by assumption) (by exact rfl) (by assumption) (by assumption) ?_); intro _); (try dsimp only)) | ((k_here; (with_reducible show wpAny _ _ (call (Value.ref 76) _) _ _ _); k_dflt (refine' CSpec.useR (by k_asm) (by k_asm) (by k_asm) (by k_asm) (by k_asm) (by first | exact rfl | assumption) (by ktr_room) (by ktr_units) (go_all _ _ _ _ _ _ (by exact List.mem_cons_self ..) (by assumption) (by omega) (by omega)) ?_; intro _ _ _ _ _ zzN9 zzhp9; (obtain ⟨_, _, _, _, zze1, zze2, _⟩ := zzhp9; subst zze1; subst zze2; rw [‹goB _ = _›, ‹goL _ = 0›] at zzN9; dsimp only [tupO] at zzN9); (try dsimp only at zzN9); (try dsimp only); (try k_fold))); (try dsimp only)) | ((k_here; (with_reducible show wpAny _ _ (call (Value.ref 71) _) _ _ _); k_dflt (refine' CSpec.useR (by k_asm) (by k_asm) (by k_asm) (by k_asm) (by k_asm) (by first | exact rfl | assumption) (by ktr_room) (by ktr_units) (gc_all _ _ _ _ _ _ _ _ (by assumption) (by exact pick_q1 (by assumption) (by assumption)) (by exact pick_q2 _ _) (by assumption) (by assumption)) ?_; intro _ _ _ _ _ zzN9 zzhp9; (obtain ⟨_, _, _, zze1, zze2, _, _⟩ := zzhp9; subst zze1; subst zze2); (try dsimp only at zzN9); (try dsimp only); (try k_fold))); (try dsimp only)) | ((k_here; (with_reducible show wpAny _ _ (call (Value.ref 83) _) _ _ _); k_dflt (refine' CSpec.useR (by k_asm) (by k_asm) (by k_asm) (by k_asm) (by k_asm) (by first | exact rfl | assumption) (by ktr_room) (by ktr_units) (penc_spec _ _ _ _ sgI _ _ _ (by assumption) (by omega) (by exact rfl) (by decide)) ?_; intro _ _ _ _ _ zzN9 zzhp9; (obtain ⟨⟨_, zze1⟩, zze2⟩ := zzhp9; subst zze1; subst zze2); (try dsimp only at zzN9); (try dsimp only); (try k_fold))); (try dsimp only)) | ((k_here; (with_reducible show wpAny _ _ (call (Value.ref 104) _) _ _ _); k_dflt (refine' CSpec.useR (by k_asm) (by k_asm) (by k_asm) (by k_asm) (by k_asm) (by first | exact rfl | assumption) (by ktr_room) (by ktr_units) (oline_spec _ _ _ _ _ (by assumption) (by assumption)) ?_; intro _ _ _ _ _ zzN9 zzhp9; (obtain ⟨⟨_, zze1⟩, zze2⟩ := zzhp9; subst zze1; subst zze2); (try dsimp only at zzN9); (try dsimp only); (try k_fold))); (try dsimp only)) |  (walk1; (try dsimp only)) | (dsimp only; walk1) | (leave1; walk_say "STEP leave1"; try dsimp only) | fail "no step"))
          exact LCg.CompEnd.intro (by assumption) (by assumption) nw (fun _ h => h) off (.inr ⟨_, hsub _ (.head _), rfl, _, rfl⟩) ⟨ints_snoc hJ1 hi2, hsub⟩
        · intro ys nw hJ
          obtain ⟨hJ1, hsub⟩ := hJ
          rw [List.take_of_length_le (by rw [List.size_toArray]; omega)] at hJ1
          (repeat' (first | (k_unfold; (try dsimp only)) | ((k_here; (with_reducible show wpAny _ _ (subscriptTail _ _ (Value.ref _) (Value.int _ _)) _ _ _); k_dflt (refine' worthItem (by k_asm) (by k_mem) (by assumption) (by assumption) (by exact rfl) (by assumption) (by assumption) ?_); intro _); (try dsimp only)) | ((k_here; (with_reducible show wpAny _ _ (call (Value.ref 76) _) _ _ _); k_dflt (refine' CSpec.useR (by k_asm) (by k_asm) (by k_asm) (by k_asm) (by k_asm) (by first | exact rfl | assumption) (by ktr_room) (by ktr_units) (go_all _ _ _ _ _ _ (by exact List.mem_cons_self ..) (by assumption) (by omega) (by omega)) ?_; intro _ _ _ _ _ zzN9 zzhp9; (obtain ⟨_, _, _, _, zze1, zze2, _⟩ := zzhp9; subst zze1; subst zze2; rw [‹goB _ = _›, ‹goL _ = 0›] at zzN9; dsimp only [tupO] at zzN9); (try dsimp only at zzN9); (try dsimp only); (try k_fold))); (try dsimp only)) | ((k_here; (with_reducible show wpAny _ _ (call (Value.ref 71) _) _ _ _); k_dflt (refine' CSpec.useR (by k_asm) (by k_asm) (by k_asm) (by k_asm) (by k_asm) (by first | exact rfl | assumption) (by ktr_room) (by ktr_units) (gc_all _ _ _ _ _ _ _ _ (by assumption) (by exact pick_q1 (by assumption) (by assumption)) (by exact pick_q2 _ _) (by assumption) (by assumption)) ?_; intro _ _ _ _ _ zzN9 zzhp9; (obtain ⟨_, _, _, zze1, zze2, _, _⟩ := zzhp9; subst zze1; subst zze2); (try dsimp only at zzN9); (try dsimp only); (try k_fold))); (try dsimp only)) | ((k_here; (with_reducible show wpAny _ _ (call (Value.ref 83) _) _ _ _); k_dflt (refine' CSpec.useR (by k_asm) (by k_asm) (by k_asm) (by k_asm) (by k_asm) (by first | exact rfl | assumption) (by ktr_room) (by ktr_units) (penc_spec _ _ _ _ sgI _ _ _ (by assumption) (by omega) (by exact rfl) (by decide)) ?_; intro _ _ _ _ _ zzN9 zzhp9; (obtain ⟨⟨_, zze1⟩, zze2⟩ := zzhp9; subst zze1; subst zze2); (try dsimp only at zzN9); (try dsimp only); (try k_fold))); (try dsimp only)) | ((k_here; (with_reducible show wpAny _ _ (call (Value.ref 104) _) _ _ _); k_dflt (refine' CSpec.useR (by k_asm) (by k_asm) (by k_asm) (by k_asm) (by k_asm) (by first | exact rfl | assumption) (by ktr_room) (by ktr_units) (oline_spec _ _ _ _ _ (by assumption) (by assumption)) ?_; intro _ _ _ _ _ zzN9 zzhp9; (obtain ⟨⟨_, zze1⟩, zze2⟩ := zzhp9; subst zze1; subst zze2); (try dsimp only at zzN9); (try dsimp only); (try k_fold))); (try dsimp only)) |  (walk1; (try dsimp only)) | (dsimp only; walk1) | (leave1; walk_say "STEP leave1"; try dsimp only) | fail "no step"))
          · exact octNo hpk (by assumption)
          · exact keepEnd (by assumption) (by assumption) (fun p hp => .tail _ (.tail _ (hsub p (.tail _ (mem4 hp))))) (fun p hp => .tail _ (.tail _ (hsub p (.tail _ (mem4' hp))))) keepHr
      · intro u h tk F7 N7
        (repeat' (first | (k_unfold; (try dsimp only)) | ((k_here; (with_reducible show wpAny _ _ (subscriptTail _ _ (Value.ref _) (Value.int _ _)) _ _ _); k_dflt (refine' worthItem (by k_asm) (by k_mem) (by assumption) (by assumption) (by exact rfl) (by assumption) (by assumption) ?_); intro _); (try dsimp only)) | ((k_here; (with_reducible show wpAny _ _ (call (Value.ref 76) _) _ _ _); k_dflt (refine' CSpec.useR (by k_asm) (by k_asm) (by k_asm) (by k_asm) (by k_asm) (by first | exact rfl | assumption) (by ktr_room) (by ktr_units) (go_all _ _ _ _ _ _ (by exact List.mem_cons_self ..) (by assumption) (by omega) (by omega)) ?_; intro _ _ _ _ _ zzN9 zzhp9; (obtain ⟨_, _, _, _, zze1, zze2, _⟩ := zzhp9; subst zze1; subst zze2; rw [‹goB _ = _›, ‹goL _ = 0›] at zzN9; dsimp only [tupO] at zzN9); (try dsimp only at zzN9); (try dsimp only); (try k_fold))); (try dsimp only)) | ((k_here; (with_reducible show wpAny _ _ (call (Value.ref 71) _) _ _ _); k_dflt (refine' CSpec.useR (by k_asm) (by k_asm) (by k_asm) (by k_asm) (by k_asm) (by first | exact rfl | assumption) (by ktr_room) (by ktr_units) (gc_all _ _ _ _ _ _ _ _ (by assumption) (by exact pick_q1 (by assumption) (by assumption)) (by exact pick_q2 _ _) (by assumption) (by assumption)) ?_; intro _ _ _ _ _ zzN9 zzhp9; (obtain ⟨_, _, _, zze1, zze2, _, _⟩ := zzhp9; subst zze1; subst zze2); (try dsimp only at zzN9); (try dsimp only); (try k_fold))); (try dsimp only)) | ((k_here; (with_reducible show wpAny _ _ (call (Value.ref 83) _) _ _ _); k_dflt (refine' CSpec.useR (by k_asm) (by k_asm) (by k_asm) (by k_asm) (by k_asm) (by first | exact rfl | assumption) (by ktr_room) (by ktr_units) (penc_spec _ _ _ _ sgI _ _ _ (by assumption) (by omega) (by exact rfl) (by decide)) ?_; intro _ _ _ _ _ zzN9 zzhp9; (obtain ⟨⟨_, zze1⟩, zze2⟩ := zzhp9; subst zze1; subst zze2); (try dsimp only at zzN9); (try dsimp only); (try k_fold))); (try dsimp only)) | ((k_here; (with_reducible show wpAny _ _ (call (Value.ref 104) _) _ _ _); k_dflt (refine' CSpec.useR (by k_asm) (by k_asm) (by k_asm) (by k_asm) (by k_asm) (by first | exact rfl | assumption) (by ktr_room) (by ktr_units) (oline_spec _ _ _ _ _ (by assumption) (by assumption)) ?_; intro _ _ _ _ _ zzN9 zzhp9; (obtain ⟨⟨_, zze1⟩, zze2⟩ := zzhp9; subst zze1; subst zze2); (try dsimp only at zzN9); (try dsimp only); (try k_fold))); (try dsimp only)) |  (walk1; (try dsimp only)) | (dsimp only; walk1) | (leave1; walk_say "STEP leave1"; try dsimp only) | fail "no step"))
        exact hret _ _ _ (by assumption)
end Mine
end

-- part P7
section
open PySem PySem.W PyProof.Rows PySem.Calls
set_option maxRecDepth 100000
local macro_rules | `(tactic| walk_at "no such key") => `(tactic| skip)
namespace Mine
theorem offP7 : True := by
  w_top off
  trivial
theorem fillP7 : (fun (_ : Params → Frag) (_ : OpenLaw) => True) hd.heap_39 PySem.Challenge.rw_or0022_01 := by k_fill; trivial
local macro_rules | `(tactic| walk_at "exec For Tuple Name cons nil") => `(tactic| (k_here; (rename Fr _ _ _ _ => lF'); k_dflt (refine For_turns lF' ?_ (by intro _; rfl) (by assumption))))
local macro_rules | `(tactic| walk_at "compareOp Lt bytes bytes") => `(tactic| (k_here; (with_reducible refine ltBytes ?_); (try dsimp only)))
theorem mem1 {α : Type} {a p : α} {l : List α} (h : p ∈ [a]) : p ∈ a :: l := List.mem_append.mpr (.inl h)
theorem frEq {h₀ h : Heap} {L : Addr} {m m' : PySem.Str → Option Value} (F : Fr h₀ L h m) (e : m = m') : Fr h₀ L h m' := e ▸ F
theorem mem3 {α : Type} {a b c p : α} {l : List α} (h : p ∈ [a, b, c]) : p ∈ a :: b :: c :: l := List.mem_append.mpr (.inl h)
theorem newsDup {h₀ h : Heap} {L : Addr} {p : Addr × Obj} {news : List (Addr × Obj)} (N : News h₀ L h news) (hp : p ∈ news) : News h₀ L h (p :: news) := fun q hq => (List.mem_cons.mp hq).elim (fun e => e ▸ N _ hp) (N q)
theorem selfNo {b : Array UInt8} {P : Prop} (h : (b.toList != b.toList) = true) : P := by simp at h
theorem enc_bytes {als : List Int} (hal : KBw.bInts (byteArr als) = als) (ks : List Int) : KBw.bInts (byteArr (encI als ks)) = encI als ks := KBa.ints_make (oct_enc hal ks)
theorem app_bytes {a b : List Int} (ha : Oct a) (hb : Oct b) : KBw.bInts (byteArr a ++ byteArr b) = a ++ b := by
  rw [byteArr_app]
  exact KBa.ints_make fun k hk => (List.mem_append.mp hk).elim (ha k) (hb k)
theorem enc_len2 {als ks : List Int} : (encI als ks).length = (encJ ks).length := by rw [encI_len, encJ_len]
theorem enc_look {als ks : List Int} : ∀ i, i < (encJ ks).length → (encI als ks).getD i 0 = als.getD ((encJ ks).getD i 0).toNat 0 := fun i hi => by rw [encI_lets]; exact lets_getD _ _ _ hi
theorem lenNo {n m : Nat} {P : Prop} (h : (n : Int) ≠ Int.fdiv (8 * (m : Int) + 5) 6) (e : n = (8 * m + 5) / 6) : P := by
  rw [Int.fdiv_eq_ediv_of_nonneg _ (by decide)] at h
  omega
theorem eqNo {als a b : List Int} {P : Prop} (hal : KBw.bInts (byteArr als) = als) (hr : Ris als) (ha : Oct a) (hb : Oct b) (h : ((Array.toList (byteArr (encI als a)) == Array.toList (byteArr (encI als b))) != (Array.toList (byteArr a) == Array.toList (byteArr b))) = true) : P := by
  have e := eqA_enc hal hr ha hb
  unfold eqA at e
  rw [e] at h
  simp at h
theorem ltNo {als a b : List Int} {P : Prop} (hal : KBw.bInts (byteArr als) = als) (hr : Ris als) (ha : Oct a) (hb : Oct b) (h : (bLt (byteArr (encI als a)) (byteArr (encI als b)) != bLt (byteArr a) (byteArr b)) = true) : P := by
  have e := ltI_enc hal hr ha hb
  unfold ltI at e
  rw [e] at h
  simp at h
theorem fm0 {n : Nat} (h : Int.fmod (n : Int) 3 = 0) : n % 3 = 0 := by
  rw [Int.fmod_eq_emod_of_nonneg _ (by decide)] at h
  omega
theorem appNo {als a b : List Int} {P : Prop} (hm : Int.fmod (a.length : Int) 3 = 0) (h : (Array.toList (byteArr (encI als (a ++ b))) != Array.toList (byteArr (encI als a) ++ byteArr (encI als b))) = true) : P := by
  rw [enc_app (fm0 hm), byteArr_app] at h
  simp at h
theorem take_min {α : Type} (n : Nat) (l : List α) : List.take (min n l.length) l = l.take n := by
  rcases Nat.le_total n l.length with h | h
  · rw [Nat.min_eq_left h]
  · rw [Nat.min_eq_right h, List.take_of_length_le (Nat.le_refl _), List.take_of_length_le h]
theorem preNo {als a b : List Int} {p q : Array UInt8} {P : Prop} (hm : Int.fmod (a.length : Int) 3 = 0) (hp : KBw.bInts p = List.take (min a.length b.length) b) (hq : KBw.bInts q = List.take (min (encI als a).length (encI als b).length) (encI als b))
    (hbk : KBw.bInts (byteArr a) = a) (e : (p.toList == Array.toList (byteArr a)) = true) (h : (q.toList != Array.toList (byteArr (encI als a))) = true) : P := by
  have e1 : p = byteArr a := Array.toList_inj.mp (by simpa using e)
  rw [e1, hbk, take_min] at hp
  rw [take_min, enc_pre (fm0 hm) hp.symm] at hq
  rw [bArr_of hq] at h
  simp at h
theorem keepIn {x a : PySem.Str} {va vx : Option Value} {u m₀ : PySem.Str → Option Value} : ∀ z, z ≠ x → [a].contains z = false → (if z = a then va else if z = x then vx else if z = x then u z else if [a].contains z then u z else m₀ z) = m₀ z := by
  intro z h1 h2
  have h2' := h2
  simp only [List.contains_cons, List.contains_nil, Bool.or_false, beq_eq_false_iff_ne] at h2'
  rw [if_neg h2', if_neg h1, if_neg h1, if_neg (by rw [h2]; exact Bool.false_ne_true)]
theorem keepOut {x b c d : PySem.Str} {vb vx : Option Value} {u u' m₀ : PySem.Str → Option Value} : ∀ z, z ≠ x → [b, c, d].contains z = false → (if z = c then u' z else if [d].contains z then u' z else if z = b then vb else if z = x then vx else if z = x then u z else if [b, c, d].contains z then u z else m₀ z) = m₀ z := by
  intro z h1 h2
  have h2' := h2
  simp only [List.contains_cons, List.contains_nil, Bool.or_false, Bool.or_eq_false_iff, beq_eq_false_iff_ne] at h2'
  obtain ⟨hb, hc, hd⟩ := h2'
  rw [if_neg hc, if_neg (by simp [hd]), if_neg hb, if_neg h1, if_neg h1, if_neg (by rw [h2]; exact Bool.false_ne_true)]

set_option maxHeartbeats 2000000 in
theorem phase7 (w : World) (PL R : Addr) (ws rs : List Value) (kss sk : List (List Int)) (nP nR : Nat) (als : List Int) (ta : Tok) (o3 o4 : Obj) (x4 : Option Value) (m' : PySem.Str → Option Value) (tups : List (Addr × Obj)) :
    Phase w 7 (fun _ L m news => m = (fun y => if y = PySem.Str.ofString "pairs" then some (.ref PL) else if y = PySem.Str.ofString "rows" then some (.ref R) else m' y) ∧ news = (PL, PySem.W.listOf (List.toArray ws) nP) :: (R, PySem.W.listOf (List.toArray rs) nR) :: (L + 1 + 1 + 1, o3) :: (L + 1 + 1 + 1 + 1, o4) :: tups ∧ o3.data = .cell (some (.bytes (byteArr als) ta)) ∧ o4.data = .cell x4 ∧
      BAre rs kss ∧ (∀ k ∈ kss, Oct k ∧ k.length ≤ 5) ∧ Alp als ∧ Ris als ∧ TAre tups ws (sk.map (encP als)) ∧ (∀ k ∈ sk, Oct k ∧ k.length ≤ 5) ∧ @Ne Nat R (L + 1 + 1 + 1) ∧ @Ne Nat R (L + 1 + 1 + 1 + 1)) := by
  unfold Phase
  intro mean mg mb dp un gd fa ccd outer A₀ base h₀ L m news s Q E B F X N T hd hu hP hE hret
  obtain ⟨rfl, rfl, ho3, ho4, hB, hK, ⟨hals, hnd, hal⟩, hris, hT, hS, hR3, hR4⟩ := hP
  unfold lawB
  conv =>
    pattern (occs := *) fd128 _
    all_goals whnf
  dsimp only [List.drop]
  (repeat' (first | (k_unfold; (try dsimp only)) | ((k_here; (with_reducible show wpAny _ _ (call (Value.ref 83) _) _ _ _); k_dflt (refine' CSpec.useR (by k_asm) (by k_asm) (by k_asm) (by k_asm) (by k_asm) (by first | exact rfl | assumption) (by ktr_room) (by ktr_units) (penc_spec _ _ _ _ _ _ _ _ (by assumption) (by assumption) (by assumption) (by assumption)) ?_; intro _ _ _ _ _ zzN9 zzhp9; (obtain ⟨⟨_, zze1⟩, zze2⟩ := zzhp9; subst zze1; subst zze2); (try dsimp only at zzN9); (try dsimp only); (try k_fold))); (try dsimp only)) | ((k_here; (with_reducible show wpAny _ _ (call (Value.ref 97) _) _ _ _); k_dflt (refine' CSpec.useR (by k_asm) (by k_asm) (by k_asm) (by k_asm) (by k_asm) (by first | exact rfl | assumption) (by ktr_room) (by ktr_units) (pdec_spec _ _ _ _ _ _ _ _ _ _ (by assumption) (by assumption) (by assumption) (by exact enc_len2) (by exact enc_look) (by exact encJ_in (by assumption)) (by assumption) (by assumption) (by assumption) (by exact enc_grp (by assumption)) (by exact enc_flat)) ?_; intro _ _ _ _ _ zzN9 zzhp9; (obtain ⟨⟨_, zze1⟩, zze2⟩ := zzhp9; subst zze1; subst zze2); (try dsimp only at zzN9); (try dsimp only); (try k_fold))); (try dsimp only)) |  (walk1; (try dsimp only)) | (dsimp only; walk1) | (leave1; walk_say "STEP leave1"; try dsimp only) | fail "no step"))
  refine StopW.mk ?_
  k_dflt (refine turnsConst (vs := ws) (nn := nP) "signs" ["row", "other_signs", "other"] rfl (.head _) (by k_asm) (by k_asm) ?_ ?_)
  · intro i v u I oI h tk hv hoff F7 N7
    obtain ⟨p, T, t1, t2, nT, hp1, rfl, hmT⟩ := hT.get hv
    obtain ⟨k, hk1, rfl⟩ := map_at hp1
    obtain ⟨hko, hk5⟩ := hS k (List.mem_of_getElem? hk1)
    have hl1 : (encI als k).length ≤ 14 := by rw [encI_len]; omega
    have hl2 : HidLe (((encJ k).length + 3) / 4) 2 := by show _ ≤ _; rw [encJ_len]; omega
    have hbk : KBw.bInts (byteArr k) = k := KBa.ints_make hko
    have hbe := enc_bytes hal k
    have hle : (encI als k).length = (8 * k.length + 5) / 6 := encI_len als k
    have N9 := newsDup (p := (T, tup2 (encP als k) t1 t2 nT)) N7 (.tail _ (.tail _ (.tail _ (.tail _ (.tail _ hmT)))))
    dsimp only [tup2, encP] at N9
    (repeat' (first | (k_unfold; (try dsimp only)) | ((k_here; (with_reducible show wpAny _ _ (call (Value.ref 83) _) _ _ _); k_dflt (refine' CSpec.useR (by k_asm) (by k_asm) (by k_asm) (by k_asm) (by k_asm) (by first | exact rfl | assumption) (by ktr_room) (by ktr_units) (penc_spec _ _ _ _ _ _ _ _ (by assumption) (by assumption) (by assumption) (by assumption)) ?_; intro _ _ _ _ _ zzN9 zzhp9; (obtain ⟨⟨_, zze1⟩, zze2⟩ := zzhp9; subst zze1; subst zze2); (try dsimp only at zzN9); (try dsimp only); (try k_fold))); (try dsimp only)) | ((k_here; (with_reducible show wpAny _ _ (call (Value.ref 97) _) _ _ _); k_dflt (refine' CSpec.useR (by k_asm) (by k_asm) (by k_asm) (by k_asm) (by k_asm) (by first | exact rfl | assumption) (by ktr_room) (by ktr_units) (pdec_spec _ _ _ _ _ _ _ _ _ _ (by assumption) (by assumption) (by assumption) (by exact enc_len2) (by exact enc_look) (by exact encJ_in (by assumption)) (by assumption) (by assumption) (by assumption) (by exact enc_grp (by assumption)) (by exact enc_flat)) ?_; intro _ _ _ _ _ zzN9 zzhp9; (obtain ⟨⟨_, zze1⟩, zze2⟩ := zzhp9; subst zze1; subst zze2); (try dsimp only at zzN9); (try dsimp only); (try k_fold))); (try dsimp only)) |  (walk1; (try dsimp only)) | (dsimp only; walk1) | (leave1; walk_say "STEP leave1"; try dsimp only) | fail "no step"))
    · exact selfNo (by assumption)
    · exact lenNo (by assumption) hle
    refine StopW.mk ?_
    k_dflt (refine turnsConst (vs := ws) (nn := nP) "other_signs" ["other"] rfl (.tail _ (.tail _ (.head _))) (by k_asm) (by k_asm) ?_ ?_)
    · intro i' v' u' I' oI' h' tk' hv' hoff' F5 N5
      obtain ⟨p', T', t3, t4, nT', hp1', rfl, hmT'⟩ := hT.get hv'
      obtain ⟨k', hk1', rfl⟩ := map_at hp1'
      obtain ⟨hko', hk5'⟩ := hS k' (List.mem_of_getElem? hk1')
      have hbk' : KBw.bInts (byteArr k') = k' := KBa.ints_make hko'
      have hbe' := enc_bytes hal k'
      have hle' : (encI als k').length = (8 * k'.length + 5) / 6 := encI_len als k'
      have hab := app_bytes hko hko'
      have hap : (k ++ k').length ≤ 10 := by rw [List.length_append]; omega
      have N6 := newsDup (p := (T', tup2 (encP als k') t3 t4 nT')) N5 (.tail _ (.tail _ (.tail _ (.tail _ (.tail _ (.tail _ (.tail _ hmT')))))))
      dsimp only [tup2, encP] at N6
      (repeat' (first | (k_unfold; (try dsimp only)) | ((k_here; (with_reducible show wpAny _ _ (call (Value.ref 83) _) _ _ _); k_dflt (refine' CSpec.useR (by k_asm) (by k_asm) (by k_asm) (by k_asm) (by k_asm) (by first | exact rfl | assumption) (by ktr_room) (by ktr_units) (penc_spec _ _ _ _ _ _ _ _ (by assumption) (by assumption) (by assumption) (by assumption)) ?_; intro _ _ _ _ _ zzN9 zzhp9; (obtain ⟨⟨_, zze1⟩, zze2⟩ := zzhp9; subst zze1; subst zze2); (try dsimp only at zzN9); (try dsimp only); (try k_fold))); (try dsimp only)) | ((k_here; (with_reducible show wpAny _ _ (call (Value.ref 97) _) _ _ _); k_dflt (refine' CSpec.useR (by k_asm) (by k_asm) (by k_asm) (by k_asm) (by k_asm) (by first | exact rfl | assumption) (by ktr_room) (by ktr_units) (pdec_spec _ _ _ _ _ _ _ _ _ _ (by assumption) (by assumption) (by assumption) (by exact enc_len2) (by exact enc_look) (by exact encJ_in (by assumption)) (by assumption) (by assumption) (by assumption) (by exact enc_grp (by assumption)) (by exact enc_flat)) ?_; intro _ _ _ _ _ zzN9 zzhp9; (obtain ⟨⟨_, zze1⟩, zze2⟩ := zzhp9; subst zze1; subst zze2); (try dsimp only at zzN9); (try dsimp only); (try k_fold))); (try dsimp only)) |  (walk1; (try dsimp only)) | (dsimp only; walk1) | (leave1; walk_say "STEP leave1"; try dsimp only) | fail "no step"))
      all_goals first
        | exact eqNo hal hris hko hko' (by assumption)
        | exact ltNo hal hris hko hko' (by assumption)
        | exact appNo (by assumption) (by assumption)
        | exact preNo (a := k) (b := k') (als := als) (by assumption) (by assumption) (by assumption) hbk (by assumption) (by assumption)
        | exact keepEnd (by assumption) (by assumption) (fun p hp => .tail _ (.tail _ hp)) (fun p hp => .tail _ (mem1 hp)) keepIn
        | exact absurd (by assumption : Int.fmod (k.length : Int) 3 = 0) (by assumption)
    · intro u' h' tk' F5 N5
      dsimp only
      (repeat' (first | (k_unfold; (try dsimp only)) | ((k_here; (with_reducible show wpAny _ _ (call (Value.ref 83) _) _ _ _); k_dflt (refine' CSpec.useR (by k_asm) (by k_asm) (by k_asm) (by k_asm) (by k_asm) (by first | exact rfl | assumption) (by ktr_room) (by ktr_units) (penc_spec _ _ _ _ _ _ _ _ (by assumption) (by assumption) (by assumption) (by assumption)) ?_; intro _ _ _ _ _ zzN9 zzhp9; (obtain ⟨⟨_, zze1⟩, zze2⟩ := zzhp9; subst zze1; subst zze2); (try dsimp only at zzN9); (try dsimp only); (try k_fold))); (try dsimp only)) | ((k_here; (with_reducible show wpAny _ _ (call (Value.ref 97) _) _ _ _); k_dflt (refine' CSpec.useR (by k_asm) (by k_asm) (by k_asm) (by k_asm) (by k_asm) (by first | exact rfl | assumption) (by ktr_room) (by ktr_units) (pdec_spec _ _ _ _ _ _ _ _ _ _ (by assumption) (by assumption) (by assumption) (by exact enc_len2) (by exact enc_look) (by exact encJ_in (by assumption)) (by assumption) (by assumption) (by assumption) (by exact enc_grp (by assumption)) (by exact enc_flat)) ?_; intro _ _ _ _ _ zzN9 zzhp9; (obtain ⟨⟨_, zze1⟩, zze2⟩ := zzhp9; subst zze1; subst zze2); (try dsimp only at zzN9); (try dsimp only); (try k_fold))); (try dsimp only)) |  (walk1; (try dsimp only)) | (dsimp only; walk1) | (leave1; walk_say "STEP leave1"; try dsimp only) | fail "no step"))
      exact keepEnd (by assumption) (by assumption) (fun p hp => .tail _ (.tail _ hp)) (fun p hp => .tail _ (mem1 hp)) keepOut
  · intro u h tk F7 N7
    dsimp only
    have PH := phase3 w R rs kss nR als ta o3 o4 x4 (fun y => if y = PySem.Str.ofString "signs" then u y else if List.contains [PySem.Str.ofString "row", PySem.Str.ofString "other_signs", PySem.Str.ofString "other"] y = true then u y else if y = PySem.Str.ofString "pairs" then some (Value.ref PL) else m' y)
    unfold Phase lawB at PH
    conv at PH =>
      pattern (occs := *) fd128 _
      all_goals whnf
    dsimp only [List.drop] at PH
    refine PH mean mg mb dp un gd fa ccd outer A₀ base h₀ L _ _ _ Q E B (frEq F7 ?_) X (fun p hp => N7 p ?_) T hd hu ⟨rfl, rfl, ho3, ho4, hB, hK, ⟨hals, hnd, hal⟩, hR3, hR4⟩ hE ?_
    · funext y
      by_cases h : y = PySem.Str.ofString "rows"
      · subst h; rfl
      · simp only [if_neg h]
    · exact .tail _ (mem3 (by assumption))
    · exact fun h' tk' m' F' => hret h' tk' m' F'
end Mine
end

-- part P5
section
open PySem PySem.W PyProof.Rows PySem.Calls
set_option maxRecDepth 100000
namespace Mine
theorem offP5 : True := by
  w_top off
  trivial
theorem fillP5 : (fun (_ : Params → Frag) (_ : OpenLaw) => True) hd.heap_39 PySem.Challenge.rw_or0022_01 := by k_fill; trivial
local macro_rules | `(tactic| walk_at "eval ListComp") => `(tactic| (k_here; lcp_look; k_dflt (refine LCp.ListComp_P (F₀ := by k_asm) (by with_unfolding_all rfl) (by decide) (by rfl) (by decide) (by rfl) (by rfl) (by decide) ?_)))
local macro_rules | `(tactic| walk_at "SrcLP") => `(tactic| refine StopW.of ?_)
local macro_rules | `(tactic| walk_at "compareOp NotEq ref ref") => `(tactic| refine StopW.of ?_)
local macro_rules | `(tactic| walk_at "execs cons") => `(tactic| ((with_reducible show wpAny _ _ (execs (Stmt.For (Expr.Tuple _ _ _) _ _ _ _ :: _) _) _ _ _); refine StopW.of ?_))
theorem take_map {als : List Int} {kss : List (List Int)} {i : Nat} {k : List Int} (h : kss[i]? = some k) : (kss.take (i + 1)).map (encP als) = (kss.take i).map (encP als) ++ [encP als k] := by
  rw [List.take_add_one, h, List.map_append]; rfl

set_option maxHeartbeats 2000000 in
theorem phase5 (w : World) (R : Addr) (rs : List Value) (kss : List (List Int)) (nR : Nat) (als : List Int) (ta : Tok) (o3 o4 : Obj) (x4 : Option Value) (m' : PySem.Str → Option Value) :
    Phase w 5 (fun _ L m news => m = (fun y => if y = PySem.Str.ofString "rows" then some (.ref R) else m' y) ∧ news = [(R, PySem.W.listOf (List.toArray rs) nR), (L + 1 + 1 + 1, o3), (L + 1 + 1 + 1 + 1, o4)] ∧ o3.data = .cell (some (.bytes (byteArr als) ta)) ∧ o4.data = .cell x4 ∧
      BAre rs kss ∧ (∀ k ∈ kss, Oct k ∧ k.length ≤ 5) ∧ Alp als ∧ Ris als ∧ HidLe kss.length 63 ∧ @Ne Nat R (L + 1 + 1 + 1) ∧ @Ne Nat R (L + 1 + 1 + 1 + 1)) := by
  unfold Phase
  intro mean mg mb dp un gd fa ccd outer A₀ base h₀ L m news s Q E B F X N T hd hu hP hE hret
  obtain ⟨rfl, rfl, ho3, ho4, hB, hK, ⟨hals, hnd, hal⟩, hris, h63, hR3, hR4⟩ := hP
  unfold lawB
  conv =>
    pattern (occs := *) fd128 _
    all_goals whnf
  dsimp only [List.drop]
  (repeat' (first | (k_unfold; (try dsimp only)) | ((k_here; (with_reducible show wpAny _ _ (call (Value.ref 83) _) _ _ _); k_dflt (refine' CSpec.useR (by k_asm) (by k_asm) (by k_asm) (by k_asm) (by k_asm) (by first | exact rfl | assumption) (by ktr_room) (by ktr_units) (penc_spec _ _ _ _ _ _ _ _ (by assumption) (by assumption) (by assumption) (by assumption)) ?_; intro _ _ _ _ _ zzN9 zzhp9; (obtain ⟨⟨_, zze1⟩, zze2⟩ := zzhp9; subst zze1; subst zze2); (try dsimp only at zzN9); (try dsimp only); (try k_fold))); (try dsimp only)) |  (walk1; (try dsimp only)) | (dsimp only; walk1) | (leave1; walk_say "STEP leave1"; try dsimp only) | fail "no step"))
  refine StopW.mk ?_
  have hrl := hB.length
  have h63' := h63.le
  k_dflt (refine LCg.CompSrc.ledger (by rfl) (by k_asm) (by k_asm) (List.mem_cons_self ..) (by rw [List.size_toArray, sizeLine_eq]; omega) ?_; intro g'; refine CompStop.of ?_)
  refine compInv (fun i ys nw => TAre nw ys ((kss.take i).map (encP als)) ∧ ∀ p ∈ [(R, PySem.W.listOf (List.toArray rs) nR), (L + 1 + 1 + 1, o3), (L + 1 + 1 + 1 + 1, o4)], p ∈ nw) ⟨trivial, fun _ h => h⟩ ?_ ?_
  · intro i v ys nw I oI C oC D m₂ h tk E' hi hv hJ hC hx F9 N9 off ne
    obtain ⟨hP, hsub⟩ := hJ
    obtain ⟨k, tv, hk1, rfl⟩ := hB.get (i := i) (v := v) (by simpa using hv)
    have hk2 := hK k (List.mem_of_getElem? hk1)
    have hbk : KBw.bInts (byteArr k) = k := KBa.ints_make hk2.1
    have hk5 : k.length ≤ 10 := by have := hk2.2; omega
    have hmc : (L + 1 + 1 + 1, o3) ∈ nw := hsub _ (.tail _ (.head _))
    (repeat' (first | (k_unfold; (try dsimp only)) | ((k_here; (with_reducible show wpAny _ _ (call (Value.ref 83) _) _ _ _); k_dflt (refine' CSpec.useR (by k_asm) (by k_asm) (by k_asm) (by k_asm) (by k_asm) (by first | exact rfl | assumption) (by ktr_room) (by ktr_units) (penc_spec _ _ _ _ _ _ _ _ (by assumption) (by assumption) (by assumption) (by assumption)) ?_; intro _ _ _ _ _ zzN9 zzhp9; (obtain ⟨⟨_, zze1⟩, zze2⟩ := zzhp9; subst zze1; subst zze2); (try dsimp only at zzN9); (try dsimp only); (try k_fold))); (try dsimp only)) |  (walk1; (try dsimp only)) | (dsimp only; walk1) | (leave1; walk_say "STEP leave1"; try dsimp only) | fail "no step"))
    refine LCg.CompEnd.intro (by assumption) (by assumption) ((_, tup2 (encP als k) _ _ _) :: nw) (by kcf_all) ⟨⟨by k_ne, by k_ne, by k_ne⟩, off⟩ (.inr ⟨_, .tail _ (hsub _ (.head _)), rfl, _, rfl⟩) ⟨?_, fun p hp => .tail _ (hsub p hp)⟩
    rw [take_map hk1]
    exact TAre.snoc (.head _) (hP.mono fun _ h => .tail _ h)
  · intro ys nw hJ
    obtain ⟨hP, hsub⟩ := hJ
    rw [List.take_of_length_le (by rw [List.size_toArray]; omega)] at hP
    (repeat' (first | (k_unfold; (try dsimp only)) | ((k_here; (with_reducible show wpAny _ _ (call (Value.ref 83) _) _ _ _); k_dflt (refine' CSpec.useR (by k_asm) (by k_asm) (by k_asm) (by k_asm) (by k_asm) (by first | exact rfl | assumption) (by ktr_room) (by ktr_units) (penc_spec _ _ _ _ _ _ _ _ (by assumption) (by assumption) (by assumption) (by assumption)) ?_; intro _ _ _ _ _ zzN9 zzhp9; (obtain ⟨⟨_, zze1⟩, zze2⟩ := zzhp9; subst zze1; subst zze2); (try dsimp only at zzN9); (try dsimp only); (try k_fold))); (try dsimp only)) |  (walk1; (try dsimp only)) | (dsimp only; walk1) | (leave1; walk_say "STEP leave1"; try dsimp only) | fail "no step"))
    refine StopW.mk ?_
    rename_i D h9 tk9 F9 N9 o9
    refine sortPairs (vs := ys) (ps := kss.map (encP als)) F9 N9 (.head _) (hP.mono fun _ h => .tail _ h) (by rw [List.length_map]; omega) ?_
    intro PL nP h7 ws F7 N7 l7 hT tk7
    rw [sortP hal hris fun k hk => (hK k hk).1] at hT
    clear F9 hP
    have N6 : News h₀ L h7 ((PL, PySem.W.listOf (List.toArray ws) nP) :: (R, PySem.W.listOf (List.toArray rs) nR) :: (L + 1 + 1 + 1, o3) :: (L + 1 + 1 + 1 + 1, o4) :: (D, LCg.lst ys) :: nw) := fun p hp => by
      rcases List.mem_cons.mp hp with rfl | hp
      · exact N7 _ (.head _)
      · rcases List.mem_append.mp (show p ∈ [(R, PySem.W.listOf (List.toArray rs) nR), (L + 1 + 1 + 1, o3), (L + 1 + 1 + 1 + 1, o4)] ++ (D, LCg.lst ys) :: nw from hp) with h | h
        · exact N7 _ (.tail _ (.tail _ (hsub p h)))
        · exact N7 _ (.tail _ h)
    clear N9 N7
    dsimp only
    (repeat' (first | (k_unfold; (try dsimp only)) | ((k_here; (with_reducible show wpAny _ _ (call (Value.ref 83) _) _ _ _); k_dflt (refine' CSpec.useR (by k_asm) (by k_asm) (by k_asm) (by k_asm) (by k_asm) (by first | exact rfl | assumption) (by ktr_room) (by ktr_units) (penc_spec _ _ _ _ _ _ _ _ (by assumption) (by assumption) (by assumption) (by assumption)) ?_; intro _ _ _ _ _ zzN9 zzhp9; (obtain ⟨⟨_, zze1⟩, zze2⟩ := zzhp9; subst zze1; subst zze2); (try dsimp only at zzN9); (try dsimp only); (try k_fold))); (try dsimp only)) |  (walk1; (try dsimp only)) | (dsimp only; walk1) | (leave1; walk_say "STEP leave1"; try dsimp only) | fail "no step"))
    refine StopW.mk ?_
    have hwl := hT.length
    rw [List.length_map, sortK_len] at hwl
    k_dflt (refine LCp.SrcLP.ledger (its := List.toArray ws) (by rfl) (by k_asm) (by k_asm) (List.mem_cons_self ..) (by rw [List.size_toArray, sizeLine_eq]; omega) ?_; intro g7)
    refine compInvP (fun i zs nw' => BAre zs ((sortK kss).take i) ∧ nw' = (PL, PySem.W.listOf (List.toArray ws) nP) :: (R, PySem.W.listOf (List.toArray rs) nR) :: (L + 1 + 1 + 1, o3) :: (L + 1 + 1 + 1 + 1, o4) :: (D, LCg.lst ys) :: nw) ⟨trivial, rfl⟩ ?_ ?_
    · intro i v zs nw' hi hv hJ
      obtain ⟨hP, rfl⟩ := hJ
      obtain ⟨p, T, t1, t2, nT, hp1, rfl, hmT⟩ := hT.get (i := i) (v := v) (by simpa using hv)
      obtain ⟨k, hk1, rfl⟩ := map_at hp1
      refine ⟨T, _, .bytes (byteArr (encI als k)) t1, .bytes (byteArr k) t2, nT, rfl, .tail _ (.tail _ (.tail _ (.tail _ hmT))), rfl, rfl, ?_⟩
      intro I oI C oC D2 m₂ h tk E' hC hx hx₂ F9 N9 off ne
      (repeat' (first | (k_unfold; (try dsimp only)) | ((k_here; (with_reducible show wpAny _ _ (call (Value.ref 83) _) _ _ _); k_dflt (refine' CSpec.useR (by k_asm) (by k_asm) (by k_asm) (by k_asm) (by k_asm) (by first | exact rfl | assumption) (by ktr_room) (by ktr_units) (penc_spec _ _ _ _ _ _ _ _ (by assumption) (by assumption) (by assumption) (by assumption)) ?_; intro _ _ _ _ _ zzN9 zzhp9; (obtain ⟨⟨_, zze1⟩, zze2⟩ := zzhp9; subst zze1; subst zze2); (try dsimp only at zzN9); (try dsimp only); (try k_fold))); (try dsimp only)) |  (walk1; (try dsimp only)) | (dsimp only; walk1) | (leave1; walk_say "STEP leave1"; try dsimp only) | fail "no step"))
      rw [List.take_add_one, hk1]
      exact hP.snoc
    · intro zs nw' hJ
      obtain ⟨hP, rfl⟩ := hJ
      rw [List.take_of_length_le (by rw [List.size_toArray, sortK_len]; omega)] at hP
      (repeat' (first | (k_unfold; (try dsimp only)) | ((k_here; (with_reducible show wpAny _ _ (call (Value.ref 83) _) _ _ _); k_dflt (refine' CSpec.useR (by k_asm) (by k_asm) (by k_asm) (by k_asm) (by k_asm) (by first | exact rfl | assumption) (by ktr_room) (by ktr_units) (penc_spec _ _ _ _ _ _ _ _ (by assumption) (by assumption) (by assumption) (by assumption)) ?_; intro _ _ _ _ _ zzN9 zzhp9; (obtain ⟨⟨_, zze1⟩, zze2⟩ := zzhp9; subst zze1; subst zze2); (try dsimp only at zzN9); (try dsimp only); (try k_fold))); (try dsimp only)) |  (walk1; (try dsimp only)) | (dsimp only; walk1) | (leave1; walk_say "STEP leave1"; try dsimp only) | fail "no step"))
      refine StopW.mk ?_
      refine sortRows (vs := rs) (kss := kss) (by assumption) (by assumption) (.tail _ (.tail _ (.head _))) hB (by omega) ?_
      intro D3 c3 h3 ys3 F3 N3 l3 hB3 tk3
      dsimp only
      (repeat' (first | (k_unfold; (try dsimp only)) | ((k_here; (with_reducible show wpAny _ _ (call (Value.ref 83) _) _ _ _); k_dflt (refine' CSpec.useR (by k_asm) (by k_asm) (by k_asm) (by k_asm) (by k_asm) (by first | exact rfl | assumption) (by ktr_room) (by ktr_units) (penc_spec _ _ _ _ _ _ _ _ (by assumption) (by assumption) (by assumption) (by assumption)) ?_; intro _ _ _ _ _ zzN9 zzhp9; (obtain ⟨⟨_, zze1⟩, zze2⟩ := zzhp9; subst zze1; subst zze2); (try dsimp only at zzN9); (try dsimp only); (try k_fold))); (try dsimp only)) |  (walk1; (try dsimp only)) | (dsimp only; walk1) | (leave1; walk_say "STEP leave1"; try dsimp only) | fail "no step"))
      refine StopW.mk ?_
      refine neRows (by assumption) (.tail _ (.head _)) (.head _) hP hB3 ?_ ?_
      · first | ktr_units | (show un < cLine; omega) | (show un + _ < cLine; omega)
      (repeat' (first | (k_unfold; (try dsimp only)) | ((k_here; (with_reducible show wpAny _ _ (call (Value.ref 83) _) _ _ _); k_dflt (refine' CSpec.useR (by k_asm) (by k_asm) (by k_asm) (by k_asm) (by k_asm) (by first | exact rfl | assumption) (by ktr_room) (by ktr_units) (penc_spec _ _ _ _ _ _ _ _ (by assumption) (by assumption) (by assumption) (by assumption)) ?_; intro _ _ _ _ _ zzN9 zzhp9; (obtain ⟨⟨_, zze1⟩, zze2⟩ := zzhp9; subst zze1; subst zze2); (try dsimp only at zzN9); (try dsimp only); (try k_fold))); (try dsimp only)) |  (walk1; (try dsimp only)) | (dsimp only; walk1) | (leave1; walk_say "STEP leave1"; try dsimp only) | fail "no step"))
      refine StopW.mk ?_
      have PH := phase7 w PL R ws rs kss (sortK kss) nP nR als ta o3 o4 x4 m' ((D, LCg.lst ys) :: nw)
      unfold Phase lawB at PH
      conv at PH =>
        pattern (occs := *) fd128 _
        all_goals whnf
      dsimp only [List.drop] at PH
      refine PH mean mg mb dp un gd fa ccd outer A₀ base h₀ L _ _ _ Q E B (by assumption) X (newsTail (newsTail (by assumption))) T hd hu ⟨rfl, rfl, ho3, ho4, hB, hK, ⟨hals, hnd, hal⟩, hris, hT.mono (fun _ h => h), fun k hk => hK k (sortK_mem k hk), hR3, hR4⟩ hE ?_
      exact fun h' tk' m' F' => hret h' tk' m' F'
end Mine
end

-- part P4
section
open PySem PySem.W PyProof.Rows PySem.Calls
set_option maxRecDepth 100000
namespace Mine
theorem offP4 : True := by
  w_top off
  trivial
theorem fillP4 : (fun (_ : Params → Frag) (_ : OpenLaw) => True) hd.heap_39 PySem.Challenge.rw_or0022_01 := by k_fill; trivial
noncomputable def HidR (a b : Int) : Prop := 0 ≤ a ∧ a < b
theorem HidR.lo {a b : Int} (h : HidR a b) : 0 ≤ a := h.1
theorem HidR.lt {a b : Int} (h : HidR a b) : a < b := h.2
section
variable {prog : Program} {w : World} {A : Around} {E : Value → Shared → Prop} {s : Shared} {h₀ : Heap} {L l : Addr} {news : List (Addr × Obj)}
theorem itemB {value slice : Expr} {rs : List Value} {kss : List (List Int)} {n : Nat} {k : Int} {u : Tok} {Q : Value → Shared → Prop} (N : News h₀ L s.heap news) (hm : (l, PySem.W.listOf (List.toArray rs) n) ∈ news) (hB : BAre rs kss) (hK : ∀ k ∈ kss, Oct k ∧ k.length ≤ 5) (h0 : 0 ≤ k) (h1 : k < (rs.length : Int)) (h2 : rs.length ≤ 100)
    (h : ∀ ks t, KBw.bInts (byteArr ks) = ks → ks.length ≤ 14 → Q (.bytes (byteArr ks) t) s)
    (hs : subscripted slice false (.ref l) (.int k u) = operate [.ref l, .int k u] (getItem (.ref l) (.int k u)) := by with_unfolding_all rfl) (hg : ∀ r, letTemporaryGo value (.ref l) r = pure () := by intro _; with_unfolding_all rfl) :
    wpAny (model prog w) A (subscriptTail value slice (.ref l) (.int k u)) Q E s := by
  have hk : k.toNat < rs.length := by omega
  obtain ⟨ks, t, e1, e2⟩ := hB.get (i := k.toNat) (v := rs[k.toNat]) (by simp [hk])
  have hq := hK ks (List.mem_of_getElem? e1)
  refine item_list (x := .bytes (byteArr ks) t) ⟨_, (N _ hm).1, rfl, _, rfl⟩ h0 (by omega) ?_ (h ks t (KBa.ints_make hq.1) (by omega)) hs hg
  rw [← e2]
  simp [hk]
end
local macro_rules | `(tactic| walk_at "exec For Name Call cons nil") => `(tactic| (k_here; k_dflt (refine For_invV _ rfl rfl ?_ (by intro _; rfl) (by assumption))))
theorem bare_snoc {rs : List Value} {kss : List (List Int)} {b : Array UInt8} {k : List Int} {t : Tok} (h : BAre rs kss) (hb : KBw.bInts b = k) : BAre (rs ++ [.bytes b t]) (kss ++ [k]) := by
  have e := bArr_of hb
  rw [e]
  exact h.snoc
theorem clip5 (n : Nat) : clipAt n 5 ≤ 5 := by
  have := clipAt_cast n 5
  rw [if_neg (by decide)] at this
  omega
theorem take5 (n : Nat) (k : List Int) : (List.take (clipAt n 5) k).length ≤ 5 := by
  have := clip5 n
  rw [List.length_take]; omega
structure St4 where
  k : Int
  t : Tok
  rs : List Value
  n : Nat
  kss : List (List Int)

set_option maxHeartbeats 2000000 in
theorem phase4 (w : World) (d c R : Addr) (cells : List Int) (vs rs : List Value) (kss : List (List Int)) (n1 n2 nR : Nat) (k : Int) (tk0 ta : Tok) (als : List Int) (o1 o3 o4 : Obj) (x4 : Option Value) (m' : PySem.Str → Option Value) :
    Phase w 4 (fun _ L m news => m = (fun y => if y = PySem.Str.ofString "rows" then some (.ref R) else m' y) ∧ news = [(d, PySem.W.listOf (List.toArray [.ref c, .int k tk0]) n1), (c, PySem.W.listOf vs.toArray n2), (R, PySem.W.listOf (List.toArray rs) nR), (L + 1, o1), (L + 1 + 1 + 1, o3), (L + 1 + 1 + 1 + 1, o4)] ∧
      o1.data = .cell (some (.ref d)) ∧ o3.data = .cell (some (.bytes (byteArr als) ta)) ∧ o4.data = .cell x4 ∧ IntsAre vs cells ∧ cells.length ≤ 50 ∧ 0 ≤ k ∧ k ≤ 20 ∧
      BAre rs kss ∧ (∀ k ∈ kss, Oct k ∧ k.length ≤ 5) ∧ rs.length = 1 ∧ Alp als ∧ Ris als ∧ @Ne Nat d c ∧ @Ne Nat R d ∧ @Ne Nat R c ∧ @Ne Nat (L + 1) d ∧ @Ne Nat (L + 1 + 1 + 1) d ∧ @Ne Nat (L + 1 + 1 + 1 + 1) d ∧ @Ne Nat R (L + 1) ∧ @Ne Nat R (L + 1 + 1 + 1) ∧ @Ne Nat R (L + 1 + 1 + 1 + 1)) := by
  unfold Phase
  intro mean mg mb dp un gd fa ccd outer A₀ base h₀ L m news s Q E B F X N T hd hu hP hE hret
  obtain ⟨rfl, rfl, ho1, ho3, ho4, hI, h50, hk0, hk1, hB, hK, hr1, hAlp, hris, hdc, hRd, hRc, h1d, h3d, h4d, hR1, hR3, hR4⟩ := hP
  unfold lawB
  conv =>
    pattern (occs := *) fd128 _
    all_goals whnf
  dsimp only [List.drop]
  have hdR := hRd.symm
  have hcR := hRc.symm
  have h1R := hR1.symm
  have h3R := hR3.symm
  have h4R := hR4.symm
  have hdc' := hdc
  (repeat' (first | (k_unfold; (try dsimp only)) | ((k_here; (with_reducible show wpAny _ _ (call (Value.ref 123) _) _ _ _); k_dflt (refine' CSpec.useR (by k_asm) (by k_asm) (by k_asm) (by k_asm) (by k_asm) (by first | exact rfl | assumption) (by ktr_room) (by ktr_units) (near_spec _ _ _ _ _ _ _ _ _ _ _ _ _ (by k_all) (by assumption) (by assumption) (by assumption) (by omega) (by omega) (by assumption) (by assumption)) ?_; intro _ _ _ _ _ zzN9 zzhp9; (obtain ⟨zzb9, _, _, _, zze1, zzhl9, _, _, zze2⟩ := zzhp9; (obtain ⟨_, zzhz9⟩ : ∃ z, KBw.bInts zzb9 = z := ⟨_, rfl⟩); rw [zzhz9] at zzhl9; subst zze1; subst zze2); (try dsimp only at zzN9); (try dsimp only); (try k_fold))); (try dsimp only)) | ((k_here; (with_reducible show wpAny _ _ (call (Value.ref 116) _) _ _ _); k_dflt (refine' CSpec.useR (by k_asm) (by k_asm) (by k_asm) (by k_asm) (by k_asm) (by first | exact rfl | assumption) (by ktr_room) (by ktr_units) (card_use _ _ _ _ _ _ _ _ _ _ _ _ (by k_all) (by assumption) (by assumption) (by assumption) (by omega) (by omega) (by omega) (by omega)) ?_; intro _ _ _ _ _ zzN9 zzhp9; (obtain ⟨zzv9, _, _, zzhv9, zzhv9', zze1, zze2⟩ := zzhp9; (have _ : HidR zzv9 _ := ⟨zzhv9, zzhv9'⟩); clear zzhv9 zzhv9'; subst zze1; subst zze2); (try dsimp only at zzN9); (try dsimp only); (try k_fold))); (try dsimp only)) | ((k_here; (with_reducible show wpAny _ _ (call (Value.builtin "len") [Value.ref _]) _ _ _); k_dflt (refine' KM.len_K (by k_asm) (by k_mem) (by exact List.size_toArray) (by omega) ?_)); (try dsimp only)) | ((k_here; (with_reducible show wpAny _ _ (subscriptTail _ _ (Value.ref _) (Value.int _ _)) _ _ _); k_dflt (refine' itemB (by k_asm) (by k_mem) (by assumption) (by assumption) (by exact HidR.lo (by assumption)) (by exact HidR.lt (by assumption)) (by omega) ?_); intro _ _ _ _); (try dsimp only)) |  (walk1; (try dsimp only)) | (dsimp only; walk1) | (leave1; walk_say "STEP leave1"; try dsimp only) | fail "no step"))
  refine StopW.mk ?_
  rename HidR _ 7 => hh
  obtain ⟨n, hn⟩ := Int.eq_ofNat_of_zero_le hh.1
  subst hn
  have hn7 := hh.2
  k_dflt (refine loopStep (c := 1) (n := n) (σ := St4) (fun st => (d, PySem.W.listOf (List.toArray [.ref c, .int st.k st.t]) n1) :: (c, PySem.W.listOf vs.toArray n2) :: (R, PySem.W.listOf (List.toArray st.rs) st.n) :: [(L + 1, o1), (L + 1 + 1 + 1, o3), (L + 1 + 1 + 1 + 1, o4)]) (fun _ => []) (fun _ => True) [] (fun i st => 0 ≤ st.k ∧ st.k ≤ 30 + 3 * (i : Int) ∧ BAre st.rs st.kss ∧ (∀ k ∈ st.kss, Oct k ∧ k.length ≤ 5) ∧ st.rs.length = i + 1) ⟨_, _, rs, nR, kss⟩ rfl (by assumption) ?_ ?_ (by k_asm) (by k_asm) trivial (fun _ h => nomatch h) ⟨by dsimp only; omega, by dsimp only; omega, hB, hK, hr1⟩ ?_ ?_)
  · exact small_range1 _ (by omega)
  · exact rangeSize1 _
  · intro st i t u h tk own hi hoff _ hp F9 N9
    obtain ⟨k, t0, rs, nR, kss⟩ := st
    obtain ⟨hp1, hp2, hpB, hpK, hpl⟩ := hp
    dsimp only [List.cons_append, List.nil_append] at F9 N9 hp1 hp2 hpB hpK hpl
    clear hB hK
    (repeat' (first | (k_unfold; (try dsimp only)) | ((k_here; (with_reducible show wpAny _ _ (call (Value.ref 123) _) _ _ _); k_dflt (refine' CSpec.useR (by k_asm) (by k_asm) (by k_asm) (by k_asm) (by k_asm) (by first | exact rfl | assumption) (by ktr_room) (by ktr_units) (near_spec _ _ _ _ _ _ _ _ _ _ _ _ _ (by k_all) (by assumption) (by assumption) (by assumption) (by omega) (by omega) (by assumption) (by assumption)) ?_; intro _ _ _ _ _ zzN9 zzhp9; (obtain ⟨zzb9, _, _, _, zze1, zzhl9, _, _, zze2⟩ := zzhp9; (obtain ⟨_, zzhz9⟩ : ∃ z, KBw.bInts zzb9 = z := ⟨_, rfl⟩); rw [zzhz9] at zzhl9; subst zze1; subst zze2); (try dsimp only at zzN9); (try dsimp only); (try k_fold))); (try dsimp only)) | ((k_here; (with_reducible show wpAny _ _ (call (Value.ref 116) _) _ _ _); k_dflt (refine' CSpec.useR (by k_asm) (by k_asm) (by k_asm) (by k_asm) (by k_asm) (by first | exact rfl | assumption) (by ktr_room) (by ktr_units) (card_use _ _ _ _ _ _ _ _ _ _ _ _ (by k_all) (by assumption) (by assumption) (by assumption) (by omega) (by omega) (by omega) (by omega)) ?_; intro _ _ _ _ _ zzN9 zzhp9; (obtain ⟨zzv9, _, _, zzhv9, zzhv9', zze1, zze2⟩ := zzhp9; (have _ : HidR zzv9 _ := ⟨zzhv9, zzhv9'⟩); clear zzhv9 zzhv9'; subst zze1; subst zze2); (try dsimp only at zzN9); (try dsimp only); (try k_fold))); (try dsimp only)) | ((k_here; (with_reducible show wpAny _ _ (call (Value.builtin "len") [Value.ref _]) _ _ _); k_dflt (refine' KM.len_K (by k_asm) (by k_mem) (by exact List.size_toArray) (by omega) ?_)); (try dsimp only)) | ((k_here; (with_reducible show wpAny _ _ (subscriptTail _ _ (Value.ref _) (Value.int _ _)) _ _ _); k_dflt (refine' itemB (by k_asm) (by k_mem) (by assumption) (by assumption) (by exact HidR.lo (by assumption)) (by exact HidR.lt (by assumption)) (by omega) ?_); intro _ _ _ _); (try dsimp only)) |  (walk1; (try dsimp only)) | (dsimp only; walk1) | (leave1; walk_say "STEP leave1"; try dsimp only) | fail "no step"))
    rename KBw.bInts (KBy.picked _ _ _) = _ => hpk
    rename News _ _ _ _ => N8
    rw [List.push_toArray] at N8
    refine kst_end (c := ⟨_, _, rs ++ [_], nR + 1, kss ++ [_]⟩) (by assumption) N8 (by kcf_all) (by kcf_all) rfl trivial (fun _ h => nomatch h) kstHr ⟨?_, ?_, bare_snoc hpB hpk, ?_, ?_⟩
    · dsimp only; omega
    · dsimp only; omega
    · intro k' hk'
      rcases List.mem_append.mp hk' with h | h
      · exact hpK k' h
      · rw [List.mem_singleton.mp h]
        exact ⟨oct_of hpk, take5 _ _⟩
    · simp only [List.length_append, List.length_cons, List.length_nil]
      omega
  · intro st u h tk _ hp F9 N9
    obtain ⟨k, t0, rs, nR, kss⟩ := st
    obtain ⟨hp1, hp2, hpB, hpK, hpl⟩ := hp
    dsimp only at F9 N9 hpB hpK hpl
    dsimp only
    have PH := phase5 w R rs kss nR als ta o3 o4 x4 (fun y => if y = PySem.Str.ofString "turn" then u y else m' y)
    unfold Phase lawB at PH
    conv at PH =>
      pattern (occs := *) fd128 _
      all_goals whnf
    dsimp only [List.drop] at PH
    refine PH mean mg mb dp un gd fa ccd outer A₀ base h₀ L _ _ _ Q E B (frEq F9 ?_) X (fun p hp => N9 p ?_) T hd hu ⟨rfl, rfl, ho3, ho4, hpB, hpK, hAlp, hris, ?_, hR3, hR4⟩ hE ?_
    · funext y
      by_cases h : y = PySem.Str.ofString "rows"
      · subst h; rfl
      · show (if y = PySem.Str.ofString "turn" then u y else if ([] : List PySem.Str).contains y = true then u y else if y = PySem.Str.ofString "rows" then some (Value.ref R) else m' y) = _
        simp only [if_neg h]
        rfl
    · simp only [List.mem_cons, List.not_mem_nil, or_false] at hp ⊢
      rcases hp with rfl | rfl | rfl <;> simp
    · show _ ≤ _
      have := hpB.length
      omega
    · exact fun h' tk' m' F' => hret h' tk' m' F'
end Mine
end

-- part PR
section
open PySem PySem.W PyProof.Rows PySem.Calls
set_option maxRecDepth 100000
namespace Mine
theorem offPR : True := by
  w_top off
  trivial
theorem fillPR : (fun (_ : Params → Frag) (_ : OpenLaw) => True) hd.heap_39 PySem.Challenge.rw_or0022_01 := by k_fill; trivial
local macro_rules | `(tactic| walk_at "call type:bytes") => `(tactic| refine StopW.of ?_)
local macro_rules | `(tactic| walk_at "execs cons") => `(tactic| ((with_reducible show wpAny _ _ (execs (Stmt.For (Expr.Name _ _) (Expr.Call _ _ _ _) _ _ _ :: _) _) _ _ _); refine StopW.of ?_))
structure HidA (ys : List Value) (zs : List Int) : Prop where
  h : IntsAre ys zs
theorem oct_snoc {zs : List Int} {v : Int} (h : Oct zs) (hv : HidR v 256) : Oct (zs ++ [v]) := fun k hk => by
  rcases List.mem_append.mp hk with hk | hk
  · exact h k hk
  · rw [List.mem_singleton.mp hk]; exact hv
noncomputable def JR (d c : Addr) (vs : List Value) (n1 n2 : Nat) (base : List (Addr × Obj)) (i : Nat) (ys : List Value) (nw : List (Addr × Obj)) : Prop :=
  ∃ kk tt zs, nw = (d, PySem.W.listOf (List.toArray [.ref c, .int kk tt]) n1) :: (c, PySem.W.listOf vs.toArray n2) :: base ∧ 0 ≤ kk ∧ kk ≤ 10 + (i : Int) ∧ HidA ys zs ∧ Oct zs ∧ zs.length = i
set_option maxHeartbeats 2000000 in
theorem phaseR (w : World) (d c : Addr) (cells : List Int) (vs : List Value) (n1 n2 : Nat) (k : Int) (tk0 ta : Tok) (als : List Int) (o1 o3 o4 : Obj) (x4 : Option Value) :
    Phase w 3 (fun _ L _ news => news = [(d, PySem.W.listOf (List.toArray [.ref c, .int k tk0]) n1), (c, PySem.W.listOf vs.toArray n2), (L + 1, o1), (L + 1 + 1 + 1, o3), (L + 1 + 1 + 1 + 1, o4)] ∧
      o1.data = .cell (some (.ref d)) ∧ o3.data = .cell (some (.bytes (byteArr als) ta)) ∧ o4.data = .cell x4 ∧ IntsAre vs cells ∧ cells.length ≤ 50 ∧ 0 ≤ k ∧ k ≤ 5 ∧
      Alp als ∧ Ris als ∧ @Ne Nat d c ∧ @Ne Nat (L + 1) d ∧ @Ne Nat (L + 1 + 1 + 1) d ∧ @Ne Nat (L + 1 + 1 + 1 + 1) d) := by
  unfold Phase
  intro mean mg mb dp un gd fa ccd outer A₀ base h₀ L m news s Q E B F X N T hd hu hP hE hret
  obtain ⟨rfl, ho1, ho3, ho4, hI, h50, hk0, hk1, hAlp, hris, hdc, h1d, h3d, h4d⟩ := hP
  unfold lawB
  conv =>
    pattern (occs := *) fd128 _
    all_goals whnf
  dsimp only [List.drop]
  (repeat' (first | (k_unfold; (try dsimp only)) | ((k_here; (with_reducible show wpAny _ _ (call (Value.ref 116) _) _ _ _); k_dflt (refine' CSpec.useR (by k_asm) (by k_asm) (by k_asm) (by k_asm) (by k_asm) (by first | exact rfl | assumption) (by ktr_room) (by ktr_units) (card_use _ _ _ _ _ _ _ _ _ _ _ _ (by k_all) (by assumption) (by assumption) (by assumption) (by omega) (by omega) (by omega) (by omega)) ?_; intro _ _ _ _ _ zzN9 zzhp9; (obtain ⟨zzv9, _, _, zzhv9, zzhv9', zze1, zze2⟩ := zzhp9; (have _ : HidR zzv9 _ := ⟨zzhv9, zzhv9'⟩); clear zzhv9 zzhv9'; subst zze1; subst zze2); (try dsimp only at zzN9); (try dsimp only); (try k_fold))); (try dsimp only)) |  (walk1; (try dsimp only)) | (dsimp only; walk1) | (leave1; walk_say "STEP leave1"; try dsimp only) | fail "no step"))
  refine StopW.mk ?_
  rename HidR _ 6 => hh
  obtain ⟨n, hn⟩ := Int.eq_ofNat_of_zero_le hh.1
  subst hn
  have hn6 := hh.2
  k_dflt (refine LCg.CompSrc.range (n := n) (by rfl) (by k_asm) (by k_asm) (by assumption) (small_range1 _ (by omega)) (rangeSize1 _) (by rw [sizeLine_eq]; omega) ?_; intro g'; refine CompStop.of ?_)
  refine compInv (JR d c vs n1 n2 [(L + 1, o1), (L + 1 + 1 + 1, o3), (L + 1 + 1 + 1 + 1, o4)]) ⟨_, _, [], rfl, by omega, by omega, ⟨.nil⟩, (fun _ h => nomatch h), rfl⟩ ?_ ?_
  · intro i v ys nw I oI C oC D m₂ h tk E' hi hv hJ hC hx F9 N9 off ne
    obtain ⟨kk, tt, zs, rfl, hkk, hkk', hIz, hOz, hlz⟩ := hJ
    obtain ⟨t9, rfl⟩ := hv
    have off2 := off
    simp only [LCg.Off3, and_true] at off2
    obtain ⟨⟨p1, p2, p3⟩, ⟨p4, p5, p6⟩, ⟨p7, p8, p9⟩, ⟨pa, pb, pc⟩, ⟨pd, pe, pf⟩⟩ := off2
    have q1 := p1.symm
    have q2 := p2.symm
    have q3 := p3.symm
    have N8 : News h₀ L h ((d, PySem.W.listOf (List.toArray [.ref c, .int kk tt]) n1) :: (c, PySem.W.listOf vs.toArray n2) :: [(I, oI), (C, oC), (D, LCg.lst ys), (L + 1, o1), (L + 1 + 1 + 1, o3), (L + 1 + 1 + 1 + 1, o4)]) := news_sub N9 (by kcf_all)
    clear N9
    (repeat' (first | (k_unfold; (try dsimp only)) | ((k_here; (with_reducible show wpAny _ _ (call (Value.ref 116) _) _ _ _); k_dflt (refine' CSpec.useR (by k_asm) (by k_asm) (by k_asm) (by k_asm) (by k_asm) (by first | exact rfl | assumption) (by ktr_room) (by ktr_units) (card_use _ _ _ _ _ _ _ _ _ _ _ _ (by k_all) (by assumption) (by assumption) (by assumption) (by omega) (by omega) (by omega) (by omega)) ?_; intro _ _ _ _ _ zzN9 zzhp9; (obtain ⟨zzv9, _, _, zzhv9, zzhv9', zze1, zze2⟩ := zzhp9; (have _ : HidR zzv9 _ := ⟨zzhv9, zzhv9'⟩); clear zzhv9 zzhv9'; subst zze1; subst zze2); (try dsimp only at zzN9); (try dsimp only); (try k_fold))); (try dsimp only)) |  (walk1; (try dsimp only)) | (dsimp only; walk1) | (leave1; walk_say "STEP leave1"; try dsimp only) | fail "no step"))
    rename HidR _ 256 => hq
    exact ⟨kk + 1, _, zs ++ [_], rfl, by omega, by rw [Int.natCast_add]; omega, ⟨IntsAre.append hIz.h (.cons _ _ .nil)⟩, oct_snoc hOz hq, by rw [List.length_append, hlz]; rfl⟩
  · intro ys nw hJ
    obtain ⟨kk, tt, zs, rfl, hkk, hkk', hIz, hOz, hlz⟩ := hJ
    (repeat' (first | (k_unfold; (try dsimp only)) | ((k_here; (with_reducible show wpAny _ _ (call (Value.ref 116) _) _ _ _); k_dflt (refine' CSpec.useR (by k_asm) (by k_asm) (by k_asm) (by k_asm) (by k_asm) (by first | exact rfl | assumption) (by ktr_room) (by ktr_units) (card_use _ _ _ _ _ _ _ _ _ _ _ _ (by k_all) (by assumption) (by assumption) (by assumption) (by omega) (by omega) (by omega) (by omega)) ?_; intro _ _ _ _ _ zzN9 zzhp9; (obtain ⟨zzv9, _, _, zzhv9, zzhv9', zze1, zze2⟩ := zzhp9; (have _ : HidR zzv9 _ := ⟨zzhv9, zzhv9'⟩); clear zzhv9 zzhv9'; subst zze1; subst zze2); (try dsimp only at zzN9); (try dsimp only); (try k_fold))); (try dsimp only)) |  (walk1; (try dsimp only)) | (dsimp only; walk1) | (leave1; walk_say "STEP leave1"; try dsimp only) | fail "no step"))
    refine StopW.mk ?_
    have hIz' := hIz.h
    have hyl := hIz'.length
    refine makeB (by assumption) (by assumption) rfl (List.mem_cons_self ..) hIz' hOz (by omega) ?_
    intro h' t' k' F' N' hB'
    dsimp only
    (repeat' (first | (k_unfold; (try dsimp only)) | ((k_here; (with_reducible show wpAny _ _ (call (Value.ref 116) _) _ _ _); k_dflt (refine' CSpec.useR (by k_asm) (by k_asm) (by k_asm) (by k_asm) (by k_asm) (by first | exact rfl | assumption) (by ktr_room) (by ktr_units) (card_use _ _ _ _ _ _ _ _ _ _ _ _ (by k_all) (by assumption) (by assumption) (by assumption) (by omega) (by omega) (by omega) (by omega)) ?_; intro _ _ _ _ _ zzN9 zzhp9; (obtain ⟨zzv9, _, _, zzhv9, zzhv9', zze1, zze2⟩ := zzhp9; (have _ : HidR zzv9 _ := ⟨zzhv9, zzhv9'⟩); clear zzhv9 zzhv9'; subst zze1; subst zze2); (try dsimp only at zzN9); (try dsimp only); (try k_fold))); (try dsimp only)) |  (walk1; (try dsimp only)) | (dsimp only; walk1) | (leave1; walk_say "STEP leave1"; try dsimp only) | fail "no step"))
    refine StopW.mk ?_
    rename News _ _ _ ((_, PySem.W.listOf _ 0) :: (_, PySem.W.listOf _ (List.length _)) :: _) => N7
    have PH := fun R => phase4 w d c R cells vs [.bytes (byteArr zs) t'] [zs] n1 n2 0 kk tt ta als o1 o3 o4 x4 m
    unfold Phase lawB at PH
    conv at PH =>
      pattern (occs := *) fd128 _
      all_goals whnf
    dsimp only [List.drop] at PH
    refine PH _ mean mg mb dp un gd fa ccd outer A₀ base h₀ L _ _ _ Q E B (by assumption) X (news_sub N7 (by kcf_all)) T hd hu ⟨rfl, rfl, ho1, ho3, ho4, hI, h50, hkk, by omega, ⟨⟨_, rfl⟩, trivial⟩, ?_, rfl, hAlp, hris, hdc, by omega, by omega, h1d, h3d, h4d, by omega, by omega, by omega⟩ hE ?_
    · intro k hk
      rw [List.mem_singleton.mp hk]
      exact ⟨hOz, by omega⟩
    · exact fun h' tk' m' F' => hret h' tk' m' F'
end Mine
end
end

-- part Al
section
open PySem PySem.W PyProof.Rows PySem.Calls
set_option maxRecDepth 100000
namespace Mine
theorem offAl : True := by
  w_top off
  trivial
/-- the alphabet that the law makes -/
noncomputable def alpV (v : Int) : List Int := List.map (fun k' => 1 + v + k') (rangeKs 0 (Int.toNat (64 - 0)))
theorem alpV_len (v : Int) : (alpV v).length = 64 := by
  rw [alpV, List.length_map, rangeKs_length]; rfl
theorem alpV_at (v : Int) {i : Nat} (h : i < 64) : (alpV v).getD i 0 = 1 + v + (i : Int) := by
  have e : (rangeKs 0 (Int.toNat (64 - 0))).length = 64 := by rw [rangeKs_length]; rfl
  rw [alpV, getD_map (d := 0) (by rw [e]; exact h), kll_at (show i < Int.toNat (64 - 0) from h), Int.zero_add]
theorem alpV_ris (v : Int) : Ris (alpV v) := ⟨1 + v, fun j h0 h1 => by
  rw [alpV_at v (by omega)]
  omega⟩
theorem alpV_in {v : Int} (h0 : 0 ≤ v) (h1 : v < 150) : Oct (alpV v) := by
  intro k hk
  obtain ⟨j, hj, rfl⟩ := List.mem_map.mp hk
  have := mem_rangeKs hj
  have e : ((Int.toNat (64 - 0) : Nat) : Int) = 64 := rfl
  rw [e] at this
  omega
theorem alpV_nodup (v : Int) : (alpV v).Nodup := by
  refine List.pairwise_iff_getElem.mpr fun i j hi hj hij => ?_
  have a := alpV_at v (i := i) (by rw [alpV_len] at hi; exact hi)
  have b := alpV_at v (i := j) (by rw [alpV_len] at hj; exact hj)
  rw [List.getD_eq_getElem?_getD, List.getElem?_eq_getElem hi, Option.getD_some] at a
  rw [List.getD_eq_getElem?_getD, List.getElem?_eq_getElem hj, Option.getD_some] at b
  rw [a, b]
  omega
theorem alpV_alp {v : Int} (h0 : 0 ≤ v) (h1 : v < 150) : Alp (alpV v) := ⟨alpV_len v, alpV_nodup v, KBa.ints_make (alpV_in h0 h1)⟩
end Mine
end

-- part Lw
open PySem PySem.W PyProof.Rows PySem.Calls
set_option maxRecDepth 100000
namespace Mine
theorem offLw : True := by
  w_top off
  trivial
theorem fillLw : (fun (_ : Params → Frag) (_ : OpenLaw) => True) hd.heap_39 PySem.Challenge.rw_or0022_01 := by k_fill; trivial
theorem pick5 {α : Type} {p x d c l4 l3 l2 l1 : α} (h : p ∈ [d, c, l1, l3, l4]) : p ∈ [x, d, c, l4, l3, l2, l1] := by
  simp only [List.mem_cons, List.not_mem_nil, or_false] at h ⊢
  rcases h with h | h | h | h | h <;> simp [h]
end Mine
open Mine
local macro_rules | `(tactic| walk_at "call ref") => `(tactic| refine Mine.StopW.of ?_)
local macro_rules | `(tactic| walk_at "execs cons") => `(tactic| ((with_reducible show wpAny _ _ (execs (Stmt.Assign _ (Expr.List _ _) _ :: _) _) _ _ _); refine Mine.StopW.of ?_))
set_option maxHeartbeats 2000000 in
theorem PySem.Challenge.cw_or0022_01_holds : PySem.Challenge.rw_or0022_01.Holds :=
  Mine.hd (by
  k_go0
  refine Mine.tryQ (by assumption) ?_ ?_
  · intro h' tk' m' F'
    dsimp only
    (k_end; kc_close)
  (repeat' (first | (k_unfold; (try dsimp only)) | ((k_here; (with_reducible show wpAny _ _ (call (Value.ref 109) _) _ _ _); k_dflt (refine' CSpecH.use (deck_spec _ _ _ _ _ (by assumption) (by omega)) (by assumption) (by k_asm) (by k_asm) (by k_asm) (by k_asm) (by k_asm) (by first | exact rfl | assumption) (by ktr_room) (by ktr_units) ?_; intro _ _ _ _ _ zzN9 zzhp9; (obtain ⟨_, _, _, _, _, _, _, zze1, zze2, _, _, zzhdc9, zzhoff9⟩ := zzhp9; subst zze1; subst zze2); (have zzhoA := Mine.off1_of fun p hp => (zzhoff9 p hp).1); (have zzhoB := Mine.off1_of fun p hp => (zzhoff9 p hp).2); (simp only [LCg.Off1, and_true] at zzhoA zzhoB); (obtain ⟨zzhA1, zzhA2, zzhA3, zzhA4⟩ := zzhoA); (obtain ⟨zzhB1, zzhB2, zzhB3, zzhB4⟩ := zzhoB); (have _ := zzhA1.symm); (have _ := zzhB1.symm); (have _ := zzhA2.symm); (have _ := zzhB2.symm); (have _ := zzhA3.symm); (have _ := zzhB3.symm); (have _ := zzhA4.symm); (have _ := zzhB4.symm); (have _ := zzhdc9); (try dsimp only at zzN9); (try dsimp only); (try k_fold))); (try dsimp only)) | ((k_here; (with_reducible show wpAny _ _ (call (Value.ref 116) _) _ _ _); k_dflt (refine' CSpec.useR (by k_asm) (by k_asm) (by k_asm) (by k_asm) (by k_asm) (by first | exact rfl | assumption) (by ktr_room) (by ktr_units) (card_use _ _ _ _ _ _ _ _ _ _ _ _ (by k_all) (by assumption) (by assumption) (by assumption) (by omega) (by omega) (by omega) (by omega)) ?_; intro _ _ _ _ _ zzN9 zzhp9; (obtain ⟨_, _, _, _, _, zze1, zze2⟩ := zzhp9; subst zze1; subst zze2); (try dsimp only at zzN9); (try dsimp only); (try k_fold))); (try dsimp only)) |  (walk1; (try dsimp only)) | (dsimp only; walk1) | (leave1; walk_say "STEP leave1"; try dsimp only) | fail "no step"))
  refine Mine.StopW.mk ?_
  rename News _ _ _ ((_, LCg.lst _) :: _) => N7
  have PH := fun w d c cells vs n1 n2 k tk0 ta v o1 o3 o4 x4 => Mine.phaseR w d c cells vs n1 n2 k tk0 ta (Mine.alpV v) o1 o3 o4 x4
  unfold Mine.Phase Mine.lawB at PH
  conv at PH =>
    pattern (occs := *) Mine.fd128 _
    all_goals whnf
  dsimp only [List.drop] at PH
  have NN : News _ _ _ [_, _, _, _, _] := news_sub N7 (fun p hp => Mine.pick5 hp)
  k_dflt (refine' PH _ _ _ _ _ _ _ _ _ _ _ _ _ _ _ _ _ _ _ _ _ _ _ _ _ _ _ _ _ _ _ _ _ ?B ?F ?X ?N ?T ?kd ?ku ?P ?E ?R)
  case B => k_asm
  case F => k_asm
  case X => k_asm
  case N => exact NN
  case T => k_asm
  case kd => ktr_room
  case ku => ktr_units
  case E => passes_own
  case P =>
    refine ⟨?_, ?_, ?_, ?_, ?_, ?_, ?_, ?_, ?_, ?_, ?_, ?_, ?_, ?_⟩
    · exact rfl
    · assumption
    · assumption
    · assumption
    · assumption
    · assumption
    · decide
    · decide
    · exact Mine.alpV_alp (by assumption) (by assumption)
    · exact Mine.alpV_ris _
    · assumption
    · omega
    · omega
    · omega
  case R => exact fun h' tk' m' F' => ⟨rfl, h', tk', m', rfl, F'⟩)
end
