import PyProof.Rows.All
import Wide.All
import OpenK.AllK
import Wide.FinOn
import PySem.Challenge.RW_nu0120_01
open PySem PySem.W PyProof.Rows
set_option Elab.async false
set_option autoImplicit false
set_option maxRecDepth 100000 in
set_option maxHeartbeats 8000000 in
open_top hd for PySem.Challenge.rw_nu0120_01
section
namespace Mine
abbrev Led := List (Addr × Obj)
abbrev prg : Program := PySem.Challenge.rw_nu0120_01.row.prog

/-- the facts at other places -/
def Foc (news : Led) (a : Addr) : Led := news.filter (fun p => decide (p.1 ≠ a))
theorem mem_foc {news : Led} {a : Addr} {p : Addr × Obj} : p ∈ Foc news a ↔ p ∈ news ∧ p.1 ≠ a := by
  unfold Foc; simp [List.mem_filter]
theorem foc_ne {news : Led} {a : Addr} : ∀ p ∈ Foc news a, p.1 ≠ a := fun _ h => (mem_foc.mp h).2
theorem foc_off {news : Led} {a : Addr} : OwnOff (Foc news a) [a] := fun p hp b hb => by
  rw [List.mem_singleton.mp hb]; exact foc_ne p hp
theorem foc_mem {news : Led} {a b : Addr} {o : Obj} (h : (b, o) ∈ news) (hn : b ≠ a) : (b, o) ∈ Foc news a := mem_foc.mpr ⟨h, hn⟩

theorem news_foc {h₀ h : Heap} {L a : Addr} {o : Obj} {news : Led} (N : News h₀ L h news) (hm : (a, o) ∈ news) : News h₀ L h ((a, o) :: Foc news a) := fun p hp => by
  rcases List.mem_cons.mp hp with rfl | hp
  · exact N _ hm
  · exact N _ (mem_foc.mp hp).1
theorem news_uniq {h₀ h : Heap} {L a : Addr} {o o' : Obj} {news : Led} (N : News h₀ L h news) (h1 : (a, o) ∈ news) (h2 : (a, o') ∈ news) : o = o' := by
  have e1 := (N _ h1).1
  have e2 := (N _ h2).1
  dsimp only at e1 e2
  rw [e1] at e2
  exact Option.some.inj e2

/-- a contract: the def at f, called with vs, where Pre holds of the ledger; Post of the ledger and the answer -/
def Ctr (k : Nat) (w : World) (f : Addr) (vs : List Value) (Pre : Led → Prop) (Post : Led → Value → Led → Prop) : Prop :=
  ∀ (p : Program) (loose : List Str) (mean : ExcName → Option Value) (mg mb : Str → Option Value) (dp un : Nat) (gd : Option (List Code)) (cn : Str) (cs : Scope) (a : Addr) (ccd : Value) (cl : List (Str × Addr)) (outer : List Env) (A₀ : Around) (base h₀ : Heap) (L : Addr) (m : Str → Option Value) (news : Led) (s : Shared)
    (Q E : Value → Shared → Prop),
    Below A₀ base outer h₀ → Fr h₀ L s.heap m → (hd.heap_39 w.params).In h₀ → News h₀ L s.heap news → Top p loose mean mg mb h₀ → cs.kind = .function → Pre news → dp + 4 * k < recursionLimit → un + 100 * k < cLine →
    (∀ r news' h' tk', Fr h₀ L h' m → News h₀ L h' news' → Post news r news' → Q r { s with heap := h', toks := tk' }) →
    wpAny (model prg w) (ktrTop dp un gd cn cs L a ccd cl outer) (call (.ref f) vs) Q E s
theorem Ctr.use {k : Nat} {w : World} {f : Addr} {vs : List Value} {Pre : Led → Prop} {Post : Led → Value → Led → Prop} (C : Ctr k w f vs Pre Post)
    {p : Program} {loose : List Str} {mean : ExcName → Option Value} {mg mb : Str → Option Value} {dp un : Nat} {gd : Option (List Code)} {cn : Str} {cs : Scope} {a : Addr} {ccd : Value} {cl : List (Str × Addr)} {outer : List Env} {A₀ : Around} {base h₀ : Heap} {L : Addr} {m : Str → Option Value} {news : Led} {s : Shared}
    {Q E : Value → Shared → Prop} (B : Below A₀ base outer h₀) (F : Fr h₀ L s.heap m) (X : (hd.heap_39 w.params).In h₀) (N : News h₀ L s.heap news) (T : Top p loose mean mg mb h₀) (hk : cs.kind = .function) (hp : Pre news) (h1 : dp + 4 * k < recursionLimit) (h2 : un + 100 * k < cLine)
    (h : ∀ r news' h' tk', Fr h₀ L h' m → News h₀ L h' news' → Post news r news' → Q r { s with heap := h', toks := tk' }) :
    wpAny (model prg w) (ktrTop dp un gd cn cs L a ccd cl outer) (call (.ref f) vs) Q E s := C _ _ _ _ _ _ _ _ _ _ _ _ _ _ _ _ _ _ _ _ _ _ _ B F X N T hk hp h1 h2 h
/-- the walk halts here -/
def Stop (P : Prop) : Prop := P
theorem Stop.out {P : Prop} (h : Stop P) : P := h
theorem Stop.mk {P : Prop} (h : P) : Stop P := h
end Mine
end
section
namespace Mine
/-- a timer: key, time, order -/
abbrev Ent := Int × Int × Int
structure WLoc where
  x : Addr
  d : Addr
  sl : Addr
  lt : Addr
  en : Addr
  ss : List Addr
def WLoc.all (l : WLoc) : List Addr := l.x :: l.d :: l.sl :: l.en :: l.lt :: l.ss
def WLoc.muts (l : WLoc) : List Addr := l.d :: l.en :: l.lt :: l.ss
abbrev dE (hs : Int) (n : String) (t : Tok) (v : Value) : DictEntry := ⟨hs, .str (Str.ofString n) t, v⟩
inductive RVal : Value → Option Int → Prop
  | none : RVal .none none
  | some (r : Int) (t : Tok) : RVal (.int r t) (some r)
/-- an entry that lies among the late ones -/
def isLate (reached : Option Int) (t : Int) : Bool := match reached with
  | none => false
  | some r => decide (t ≤ r)
/-- a list of just these ints -/
def IntL (news : Led) (a : Addr) (ns : List Int) : Prop := ∃ (vs : List Value) (n : Nat), (a, W.listOf vs.toArray n) ∈ news ∧ IntsAre vs ns
/-- the list at a holds just the keys that P tells, each once -/
def KeysAt (news : Led) (a : Addr) (P : Int → Prop) : Prop := ∃ ns : List Int, IntL news a ns ∧ ns.Nodup ∧ ns.length ≤ 60 ∧ ∀ k, k ∈ ns ↔ P k
abbrev tupO (its : List Value) (n : Nat) : Obj := { cls := .type "tuple", data := .seq its.toArray n }
/-- a tuple of just these ints -/
def TupI (news : Led) (v : Value) (l : List Int) : Prop := ∃ (b : Addr) (its : List Value) (n : Nat), v = .ref b ∧ (b, tupO its n) ∈ news ∧ IntsAre its l
def EntsAre (news : Led) : List (Int × Value) → List Ent → Prop
  | [], [] => True
  | (k, v) :: kvs, (k', t, o) :: E => k = k' ∧ TupI news v [t, o] ∧ EntsAre news kvs E
  | _, _ => False
/-- the wheel in the ledger: entries E; P i: the keys of the late list (0) and of the slots (i + 1) -/
structure WheelG (w : World) (news : Led) (l : WLoc) (size : Nat) (E : List Ent) (P : Nat → Int → Prop) (reached : Option Int) (given : Int) : Prop where
  nodup : l.all.Nodup
  inst : (l.x, instObj 75 l.d) ∈ news
  dict : ∃ h1 h2 h3 h4 h5 h6 k1 k2 k3 k4 k5 k6 ts tg n rv, RVal rv reached ∧ (l.d, dictOf [dE h1 "size" k1 (.int size ts), dE h2 "slots" k2 (.ref l.sl), dE h3 "late" k3 (.ref l.lt), dE h4 "entries" k4 (.ref l.en), dE h5 "reached" k5 rv, dE h6 "given" k6 (.int given tg)] n) ∈ news
  slots : ∃ n, (l.sl, W.listOf (l.ss.map Value.ref).toArray n) ∈ news
  size1 : 1 ≤ size
  size9 : size ≤ 9
  len : l.ss.length = size
  lo : (l.en == sysModules) = false
  lists : ∀ (i : Nat) a, (l.lt :: l.ss)[i]? = some a → KeysAt news a (P i)
  ents : ∃ kvs o, (l.en, o) ∈ news ∧ o.IsDictOf (intKind prg w) kvs ∧ EntsAre news kvs E
  keys : (E.map (·.1)).Nodup
/-- where the entries' keys lie -/
def placeOf (size : Nat) (reached : Option Int) (t : Int) : Nat := if isLate reached t then 0 else (t % (size : Int)).toNat + 1
def LieAt (size : Nat) (E : List Ent) (reached : Option Int) (i : Nat) (k : Int) : Prop := ∃ t o, (k, t, o) ∈ E ∧ placeOf size reached t = i
def WheelIn (w : World) (news : Led) (l : WLoc) (size : Nat) (E : List Ent) (reached : Option Int) (given : Int) : Prop := WheelG w news l size E (LieAt size E reached) reached given
/-- what lies at none of these places stays -/
def Keep (muts : List Addr) (news news' : Led) : Prop := ∀ p ∈ news, p.1 ∉ muts → p ∈ news'
theorem Keep.refl {l : List Addr} {news : Led} : Keep l news news := fun _ h _ => h
theorem Keep.trans {l : List Addr} {a b c : Led} (h : Keep l a b) (h' : Keep l b c) : Keep l a c := fun p hp hn => h' p (h p hp hn) hn
theorem Keep.cons {l : List Addr} {a b : Led} {q : Addr × Obj} (h : Keep l a b) : Keep l a (q :: b) := fun p hp hn => .tail _ (h p hp hn)
theorem Keep.focus {l : List Addr} {a b : Led} {c : Addr} {o : Obj} (h : Keep l a b) (hc : c ∈ l) : Keep l a ((c, o) :: Foc b c) := fun p hp hn =>
  .tail _ (mem_foc.mpr ⟨h p hp hn, fun e => hn (e ▸ hc)⟩)
theorem Keep.weaken {l l' : List Addr} {a b : Led} (h : Keep l a b) (hs : ∀ x ∈ l, x ∈ l') : Keep l' a b := fun p hp hn => h p hp fun q => hn (hs _ q)
end Mine
end
section
namespace Mine
/-- no two objects at one place -/
def Uq (news : Led) : Prop := ∀ (a : Addr) (o o' : Obj), (a, o) ∈ news → (a, o') ∈ news → o = o'
theorem uq {h₀ h : Heap} {L : Addr} {news : Led} (N : News h₀ L h news) : Uq news := fun _ _ _ h1 h2 => news_uniq N h1 h2
theorem foc_cls {I b : Addr} {news : Led} {o io : Obj} (N : Uq news) (hI : (I, io) ∈ news) (hb : (b, o) ∈ news) (hc : o.cls ≠ io.cls) : (b, o) ∈ Foc news I :=
  foc_mem hb fun e => hc (by subst e; rw [N _ _ _ hb hI])
theorem ne_cls {I b : Addr} {news : Led} {o io : Obj} (N : Uq news) (hI : (I, io) ∈ news) (hb : (b, o) ∈ news) (hc : o.cls ≠ io.cls) : b ≠ I :=
  fun e => hc (by subst e; rw [N _ _ _ hb hI])
/-- an object turned: the ledger behind it -/
theorem news_set1 {h₀ h h' : Heap} {L a : Addr} {o o' : Obj} {news : Led} (N : News h₀ L h news) (hm : (a, o) ∈ news) (hs : Heap.SameBut a h h') (ho : h'.get? a = some o') : News h₀ L h' ((a, o') :: Foc news a) := fun p hp => by
  rcases List.mem_cons.mp hp with rfl | hp
  · exact ⟨ho, (N _ hm).2⟩
  · obtain ⟨hp, hn⟩ := mem_foc.mp hp
    exact ⟨(hs.2 _ hn).trans (N _ hp).1, (N _ hp).2⟩
theorem upd_foc {news : Led} {a : Addr} {o o' : Obj} : Upd a o o' ((a, o) :: Foc news a) ((a, o') :: Foc news a) := .head foc_ne
theorem updF_foc {news : Led} {a : Addr} {o : Obj} : UpdF a o ((a, o) :: Foc news a) (fun o' => (a, o') :: Foc news a) := .head foc_ne

section
variable {prog : Program} {w : World} {A : Around} {E : Value → Shared → Prop} {s : Shared} {env : Env} {h₀ : Heap}
/-- how a turn of a loop ends: the iterator stands -/
def TurnEnd (h₀ : Heap) (L : Addr) (s₁ : Shared) (I : Addr) (io : Obj) (J : (Str → Option Value) → Led → Prop) (f : Flow) (s₂ : Shared) : Prop :=
  (f = .next ∨ f = .cont) ∧ ∃ h' tk m' news', s₂ = { s₁ with heap := h', toks := tk } ∧ Fr h₀ L h' m' ∧ News h₀ L h' news' ∧ (I, io) ∈ news' ∧ J m' (Foc news' I)
theorem TurnEnd.intro {L : Addr} {s₁ : Shared} {I : Addr} {io : Obj} {J : (Str → Option Value) → Led → Prop} {h' : Heap} {tk : Nat} {m' : Str → Option Value} {news' : Led}
    (F : Fr h₀ L h' m') (N : News h₀ L h' news') (hI : (I, io) ∈ news') (hJ : J m' (Foc news' I)) : TurnEnd h₀ L s₁ I io J .next { s₁ with heap := h', toks := tk } := ⟨.inl rfl, h', tk, m', news', rfl, F, N, hI, hJ⟩
def NoErr : Value → Shared → Prop := fun _ _ => False

theorem for_gen {Q : Flow → Shared → Prop} {target : Expr} {body : List Stmt} {I : Addr} {fp : List Addr} {n : Nat} {P : Nat → Value → Prop} {St : Nat → Heap → Prop} {S : Led → Prop} {icls : Value} {m : Str → Option Value} {news : Led}
    {L : Addr} (hLe : env.locals = L) (W : Walks prog w A I fp [I] n P St) (hIo : ∀ i h, St i h → ∃ o, h.get? I = some o ∧ o.cls = icls)
    (hSt : ∀ i h h' o nw, St i h → h.get? I = some o → h'.get? I = some o → (∀ b o, h₀.get? b = some o → h'.get? b = some o) → News h₀ L h' nw → S nw → St i h')
    (hLI : L ≠ I) (hI₀ : h₀.get? I = none) (off : ∀ p ∈ news, p.1 ≠ I) (hst : St 0 s.heap) (F : Fr h₀ L s.heap m) (N : News h₀ L s.heap news)
    (J : Nat → (Str → Option Value) → Led → Prop) (hJS : ∀ i m nw, J i m nw → S nw) (h0 : J 0 m news)
    (step : ∀ i v m₁ news₁ h tk io, i < n → P i v → io.cls = icls → J i m₁ news₁ → (∀ p ∈ news₁, p.1 ≠ I) → Fr h₀ L h m₁ → News h₀ L h ((I, io) :: news₁) →
      wpAny (model prog w) A (assign target env v) (fun _ s₂ => wpAny (model prog w) A (execs body env) (TurnEnd h₀ L { s with heap := h, toks := tk } I io (J (i + 1))) NoErr s₂) NoErr { s with heap := h, toks := tk })
    (done : ∀ m₁ news₁ h tk, J n m₁ news₁ → Fr h₀ L h m₁ → News h₀ L h news₁ → Q .next { s with heap := h, toks := tk })
    (ht : ∀ v, letOwnedTupleGo target (.ref I) v = pure () := by intro _; rfl) :
    codeAny (model prog w) A (.forLoop target (.ref I) body [] env) (fun r s' => match r with | .ok f => Q f s' | .error e => cameBackBy (model prog w) A env E e s') s := by
  subst hLe
  refine codeAny_forLoop
    (fun k s' => ∃ h' tk m' news' i, s' = { s with heap := h', toks := tk } ∧ St i h' ∧ Fr h₀ env.locals h' m' ∧ News h₀ env.locals h' news' ∧ (∀ p ∈ news', p.1 ≠ I) ∧ J i m' news' ∧ i ≤ n ∧ k = n + 1 - i) ?_ (n + 1)
    ⟨s.heap, s.toks, m, news, 0, rfl, hst, F, N, off, h0, Nat.zero_le _, rfl⟩ ht
  rintro k s' ⟨h', tk', m', news', i, rfl, hst', F', N', off', hJ, hi, rfl⟩
  have next : ∀ h₁ : Heap, (∀ b o, b ∉ [I] → h'.get? b = some o → h₁.get? b = some o) → Fr h₀ env.locals h₁ m' ∧ News h₀ env.locals h₁ news' := fun h₁ hk₁ =>
    ⟨LCg.fr_but F' hk₁ hLI hI₀, LCg.news_but N' hk₁ off'⟩
  by_cases hlt : i < n
  · refine W.item i _ _ _ hlt hst' fun v h₁ tk₁ hP hst₁ hk₁ => ?_
    obtain ⟨F₁, N₁⟩ := next h₁ hk₁
    obtain ⟨io, hio, hcls⟩ := hIo _ _ hst₁
    have N₂ : News h₀ env.locals h₁ ((I, io) :: news') := fun p hp => by
      rcases List.mem_cons.mp hp with rfl | hp
      · exact ⟨hio, Ne.symm hLI, hI₀⟩
      · exact N₁ p hp
    refine wpAny_mono (step i v m' news' h₁ tk₁ io hlt hP hcls hJ off' F₁ N₂) (fun _ s₂ h₂ => wpAny_mono h₂ (fun f s₃ h₃ => ?_) fun _ _ x => x.elim) fun _ _ x => x.elim
    obtain ⟨hf, h₄, tk₄, m₄, news₄, rfl, F₄, N₄, hI₄, hJ₄⟩ := h₃
    have N₅ : News h₀ env.locals h₄ (Foc news₄ I) := fun p hp => N₄ p (mem_foc.mp hp).1
    have fin : ∃ k', k' < n + 1 - i ∧ ∃ h' tk m' news' j, ({ s with heap := h₄, toks := tk₄ } : Shared) = { s with heap := h', toks := tk } ∧ St j h' ∧ Fr h₀ env.locals h' m' ∧ News h₀ env.locals h' news' ∧ (∀ p ∈ news', p.1 ≠ I) ∧ J j m' news' ∧ j ≤ n ∧ k' = n + 1 - j :=
      ⟨n + 1 - (i + 1), by omega, h₄, tk₄, m₄, Foc news₄ I, i + 1, rfl, hSt (i + 1) h₁ h₄ io _ hst₁ hio (N₄ _ hI₄).1 F₄.keep N₅ (hJS _ _ _ hJ₄), F₄, N₅, foc_ne, hJ₄, hlt, rfl⟩
    rcases hf with rfl | rfl <;> exact fin
  · have hin : i = n := by omega
    subst hin
    refine W.done _ _ _ hst' fun h₁ tk₁ hk₁ => wpAny_execs_nil ?_
    obtain ⟨F₁, N₁⟩ := next h₁ hk₁
    exact done m' news' h₁ tk₁ hJ F₁ N₁

/-- a for over a list of the ledger -/
theorem iter_list {Q : Flow → Shared → Prop} {target : Expr} {body : List Stmt} {l : Addr} {its : Array Value} {nn : Nat} {m : Str → Option Value} {news : Led}
    {L : Addr} (hLe : env.locals = L) (hh : A.handled = none) (F : Fr h₀ L s.heap m) (N : News h₀ L s.heap news) (hl : (l, W.listOf its nn) ∈ news)
    (J : Nat → (Str → Option Value) → Led → Prop) (h0 : J 0 m news) (hJS : ∀ i m nw, J i m nw → (l, W.listOf its nn) ∈ nw)
    (step : ∀ i v m₁ news₁ h tk I io, its[i]? = some v → io.cls = .type "list_iterator" → J i m₁ news₁ → (∀ p ∈ news₁, p.1 ≠ I) → Fr h₀ L h m₁ → News h₀ L h ((I, io) :: news₁) →
      wpAny (model prog w) A (assign target env v) (fun _ s₂ => wpAny (model prog w) A (execs body env) (TurnEnd h₀ L { s with heap := h, toks := tk } I io (J (i + 1))) NoErr s₂) NoErr { s with heap := h, toks := tk })
    (done : ∀ m₁ news₁ h tk, J its.size m₁ news₁ → Fr h₀ L h m₁ → News h₀ L h news₁ → Q .next { s with heap := h, toks := tk })
    (ht : ∀ I v, letOwnedTupleGo target (.ref I) v = pure () := by intro _ _; rfl) :
    wpAny (model prog w) A (pyIter (.ref l)) (fun it s₂ => codeAny (model prog w) A (.forLoop target it body [] env) (fun r s' => match r with | .ok f => Q f s' | .error e => cameBackBy (model prog w) A env E e s') s₂) E s := by
  subst hLe
  have hls : s.heap.IsList l its := ⟨_, (N _ hl).1, rfl, nn, rfl⟩
  have hlt : l < s.heap.objs.size := Heap.lt_size (N _ hl).1
  refine wpAny_pyIter_list hls ?_
  have up : ∀ b o, s.heap.get? b = some o → (s.heap.push { cls := .type "list_iterator", data := .fields #[.ref l, .int 0 0] }).get? b = some o := fun b o e => Heap.get?_push_of_some _ e
  refine for_gen rfl (S := fun nw => (l, W.listOf its nn) ∈ nw) (icls := .type "list_iterator") (Walks.list hh s.heap.objs.size l (Nat.ne_of_lt hlt) its) (fun i h st => by obtain ⟨o, e, c, _⟩ := st.1; exact ⟨o, e, c⟩)
    (fun i h h' o nw st e e' k N' hS => ⟨by obtain ⟨o', q, r⟩ := st.1; rw [e] at q; cases q; exact ⟨o, e', r⟩, ⟨_, (N' _ hS).1, rfl, nn, rfl⟩⟩)
    (Nat.ne_of_lt F.ns.lt) (next_is_new F) (fun p hp => Nat.ne_of_lt (Heap.lt_size (N p hp).1)) ⟨⟨_, Heap.get?_push_size _ rfl, rfl, rfl⟩, hls.push _⟩ (F.keeps up) (N.grown up) J hJS h0 ?_ ?_ (ht _)
  · intro i v m₁ news₁ h tk io _ hP hc hJ off F₁ N₁
    exact step i v m₁ news₁ h tk _ io hP hc hJ off F₁ N₁
  · exact done
/-- a for over a tuple of the ledger -/
theorem iter_tuple {Q : Flow → Shared → Prop} {target : Expr} {body : List Stmt} {l : Addr} {its : Array Value} {nn : Nat} {m : Str → Option Value} {news : Led}
    {L : Addr} (hLe : env.locals = L) (hh : A.handled = none) (F : Fr h₀ L s.heap m) (N : News h₀ L s.heap news) (hl : (l, ({ cls := .type "tuple", data := .seq its nn } : Obj)) ∈ news)
    (J : Nat → (Str → Option Value) → Led → Prop) (h0 : J 0 m news) (hJS : ∀ i m nw, J i m nw → (l, ({ cls := .type "tuple", data := .seq its nn } : Obj)) ∈ nw)
    (step : ∀ i v m₁ news₁ h tk I io, its[i]? = some v → io.cls = .type "tuple_iterator" → J i m₁ news₁ → (∀ p ∈ news₁, p.1 ≠ I) → Fr h₀ L h m₁ → News h₀ L h ((I, io) :: news₁) →
      wpAny (model prog w) A (assign target env v) (fun _ s₂ => wpAny (model prog w) A (execs body env) (TurnEnd h₀ L { s with heap := h, toks := tk } I io (J (i + 1))) NoErr s₂) NoErr { s with heap := h, toks := tk })
    (done : ∀ m₁ news₁ h tk, J its.size m₁ news₁ → Fr h₀ L h m₁ → News h₀ L h news₁ → Q .next { s with heap := h, toks := tk })
    (ht : ∀ I v, letOwnedTupleGo target (.ref I) v = pure () := by intro _ _; rfl) :
    wpAny (model prog w) A (pyIter (.ref l)) (fun it s₂ => codeAny (model prog w) A (.forLoop target it body [] env) (fun r s' => match r with | .ok f => Q f s' | .error e => cameBackBy (model prog w) A env E e s') s₂) E s := by
  subst hLe
  have hls : s.heap.IsTuple l its := ⟨_, (N _ hl).1, rfl, nn, rfl⟩
  have hlt : l < s.heap.objs.size := Heap.lt_size (N _ hl).1
  refine wpAny_pyIter_tuple hls ?_
  have up : ∀ b o, s.heap.get? b = some o → (s.heap.push { cls := .type "tuple_iterator", data := .fields #[.ref l, .int 0 0] }).get? b = some o := fun b o e => Heap.get?_push_of_some _ e
  refine for_gen rfl (S := fun nw => (l, ({ cls := .type "tuple", data := .seq its nn } : Obj)) ∈ nw) (icls := .type "tuple_iterator") (Walks.tuple hh s.heap.objs.size l (Nat.ne_of_lt hlt) its) (fun i h st => by obtain ⟨o, e, c, _⟩ := st.1; exact ⟨o, e, c⟩)
    (fun i h h' o nw st e e' k N' hS => ⟨by obtain ⟨o', q, r⟩ := st.1; rw [e] at q; cases q; exact ⟨o, e', r⟩, ⟨_, (N' _ hS).1, rfl, nn, rfl⟩⟩)
    (Nat.ne_of_lt F.ns.lt) (next_is_new F) (fun p hp => Nat.ne_of_lt (Heap.lt_size (N p hp).1)) ⟨⟨_, Heap.get?_push_size _ rfl, rfl, rfl⟩, hls.at fun o e => up _ o e⟩ (F.keeps up) (N.grown up) J hJS h0 ?_ ?_ (ht _)
  · intro i v m₁ news₁ h tk io _ hP hc hJ off F₁ N₁
    exact step i v m₁ news₁ h tk _ io hP hc hJ off F₁ N₁
  · exact done
/-- a for over a range by ones -/
theorem iter_range {Q : Flow → Shared → Prop} {target : Expr} {body : List Stmt} {r : Addr} {a b : Int} {t u v : Tok} {n : Nat} {m : Str → Option Value} {news : Led}
    {L : Addr} (hLe : env.locals = L) (hh : A.handled = none) (F : Fr h₀ L s.heap m) (N : News h₀ L s.heap news) (hr : IsRange s.heap r a b 1 t u v) (hsm : Builtin.Range.small a b 1 = true) (hn : Builtin.Range.rangeSize a b 1 = ((n : Nat) : Int))
    (J : Nat → (Str → Option Value) → Led → Prop) (h0 : J 0 m news)
    (step : ∀ i v m₁ news₁ h tk I io, i < n → (∃ t, v = Value.int (a + (i : Int)) t) → io.cls = .type "range_iterator" → J i m₁ news₁ → (∀ p ∈ news₁, p.1 ≠ I) → Fr h₀ L h m₁ → News h₀ L h ((I, io) :: news₁) →
      wpAny (model prog w) A (assign target env v) (fun _ s₂ => wpAny (model prog w) A (execs body env) (TurnEnd h₀ L { s with heap := h, toks := tk } I io (J (i + 1))) NoErr s₂) NoErr { s with heap := h, toks := tk })
    (done : ∀ m₁ news₁ h tk, J n m₁ news₁ → Fr h₀ L h m₁ → News h₀ L h news₁ → Q .next { s with heap := h, toks := tk })
    (ht : ∀ I v, letOwnedTupleGo target (.ref I) v = pure () := by intro _ _; rfl) :
    wpAny (model prog w) A (pyIter (.ref r)) (fun it s₂ => codeAny (model prog w) A (.forLoop target it body [] env) (fun r s' => match r with | .ok f => Q f s' | .error e => cameBackBy (model prog w) A env E e s') s₂) E s := by
  subst hLe
  refine wpAny_pyIter_range hr hsm ?_
  refine for_gen rfl (S := fun _ => True) (icls := .type "range_iterator") (LCg.range_walks hh a n) (fun i h st => ⟨_, st, rfl⟩)
    (fun i h h' o nw st e e' k N' hS => LCg.range_st i h h' o nw st e e' k N' hS)
    (Nat.ne_of_lt F.ns.lt) (next_is_new F) (fun p hp => Nat.ne_of_lt (Heap.lt_size (N p hp).1)) (by show IsRangeIter _ _ _ _ _; rw [hn]; simpa using Heap.get?_push_size _ rfl) (F.push _) (fun p hp => ⟨Heap.get?_push_of_some _ (N p hp).1, (N p hp).2⟩) J (fun _ _ _ _ => trivial) h0 ?_ ?_ (ht _)
  · intro i v m₁ news₁ h tk io hi hP hc hJ off F₁ N₁
    exact step i v m₁ news₁ h tk _ io hi hP hc hJ off F₁ N₁
  · exact done
end
end Mine
end
section
namespace Mine
theorem kf_ints_of : ∀ {vs : List Value} {ns : List Int}, IntsAre vs ns → kf_ints vs = true
  | _, _, .nil => rfl
  | _, _, .cons n t r => by unfold kf_ints; exact kf_ints_of r
theorem erase_of : ∀ {vs : List Value} {ns : List Int} {k : Int}, IntsAre vs ns → k ∈ ns → ∃ j q, kf_at k vs = some j ∧ ki_delL vs j = some q ∧ IntsAre q (ns.erase k)
  | _, _, _, .nil, h => nomatch h
  | _, _, k, .cons (vs := vs) (ns := ns) n t r, h => by
    by_cases e : n = k
    · subst e
      exact ⟨0, vs, by simp [kf_at, isInt], by simp [ki_delL], by simpa using r⟩
    · have h' : k ∈ ns := (List.mem_cons.mp h).resolve_left fun q => e q.symm
      obtain ⟨j, q, a, b, c⟩ := erase_of r h'
      refine ⟨j + 1, .int n t :: q, ?_, ?_, ?_⟩
      · have e' : (n == k) = false := by simpa using e
        simp [kf_at, isInt, a, e']
      · simp [ki_delL, b]
      · rw [List.erase_cons_tail (by simpa using e)]
        exact .cons n t c
section
variable {prog : Program} {w : World} {A : Around} {E : Value → Shared → Prop} {s : Shared} {h₀ : Heap} {L a : Addr} {m : Str → Option Value} {news : Led} {ns : List Int} {k : Int} {t : Tok}
theorem any_mem (k : Int) (ns : List Int) : ns.any (· == k) = decide (k ∈ ns) := by
  by_cases h : k ∈ ns
  · rw [decide_eq_true h, List.any_eq_true]; exact ⟨k, h, by simp⟩
  · rw [decide_eq_false h, List.any_eq_false]
    intro x hx e
    exact h (by simpa using (by simpa using e : x = k) ▸ hx)
theorem intL_in {b : Bool} {Q : Value → Shared → Prop} (N : News h₀ L s.heap news) (hl : IntL news a ns) (hb : decide (k ∈ ns) = b) (h : Q (.bool b) s) : wpAny (model prog w) A (compareOp .In (.int k t) (.ref a)) Q E s := by
  obtain ⟨vs, n, hm, hi⟩ := hl
  exact in_list_ints ⟨_, (N _ hm).1, rfl, n, rfl⟩ hi (by rw [any_mem, hb]; exact h)
theorem intL_remove {Q : Value → Shared → Prop} (F : Fr h₀ L s.heap m) (N : News h₀ L s.heap news) (hl : IntL news a ns) (hk : k ∈ ns) (hz : ns.length ≤ 1000)
    (h : ∀ h' vs n, Fr h₀ L h' m → News h₀ L h' ((a, W.listOf vs n) :: Foc news a) → IntsAre vs.toList (ns.erase k) → Q .none { s with heap := h' }) : wpAny (model prog w) A (call (.builtin "list.remove") [.ref a, .int k t]) Q E s := by
  obtain ⟨vs, n, hm, hi⟩ := hl
  obtain ⟨j, q, e1, e2, e3⟩ := erase_of hi hk
  exact kf_remove (its := vs.toArray) (n := n) F (news_foc N hm) (kf_ints_of hi) e1 e2 upd_foc (by show vs.length ≤ _; rw [hi.length, sizeLine_eq]; omega) fun h' F' N' => h h' _ _ F' N' e3
theorem intL_append {Q : Value → Shared → Prop} (F : Fr h₀ L s.heap m) (N : News h₀ L s.heap news) (hl : IntL news a ns) (hz : ns.length ≤ 1000)
    (h : ∀ h' vs n, Fr h₀ L h' m → News h₀ L h' ((a, W.listOf vs n) :: Foc news a) → IntsAre vs.toList (ns ++ [k]) → Q .none { s with heap := h' }) : wpAny (model prog w) A (call (.builtin "list.append") [.ref a, .int k t]) Q E s := by
  obtain ⟨vs, n, hm, hi⟩ := hl
  exact append_K (its := vs.toArray) (n := n) F (news_foc N hm) upd_foc (fun h' F' N' => h h' _ _ F' N' (by rw [List.push_toArray]; exact IntsAre.append hi (.cons k t .nil))) (by rw [List.size_toArray, hi.length, sizeLine_eq]; omega)
theorem list_append {its : Array Value} {n : Nat} {x : Value} {Q : Value → Shared → Prop} (F : Fr h₀ L s.heap m) (N : News h₀ L s.heap news) (hm : (a, W.listOf its n) ∈ news) (hz : its.size ≤ 1000)
    (h : ∀ h', Fr h₀ L h' m → News h₀ L h' ((a, W.listOf (its.push x) (n + 1)) :: Foc news a) → Q .none { s with heap := h' }) : wpAny (model prog w) A (call (.builtin "list.append") [.ref a, x]) Q E s :=
  append_K F (news_foc N hm) upd_foc (fun h' F' N' => h h' F' N') (by rw [sizeLine_eq]; omega)
theorem list_item {its : Array Value} {n : Nat} {value slice : PySem.Expr} {u : Tok} {v : Value} {Q : Value → Shared → Prop} (N : News h₀ L s.heap news) (hm : (a, W.listOf its n) ∈ news) (h0 : 0 ≤ k) (hhi : k < 2 ^ 63) (hx : its[k.toNat]? = some v) (h : Q v s)
    (hs : subscripted slice false (.ref a) (.int k u) = operate [.ref a, .int k u] (getItem (.ref a) (.int k u)) := by with_unfolding_all rfl) : wpAny (model prog w) A (subscriptTail value slice (.ref a) (.int k u)) Q E s :=
  have hl : s.heap.IsList a its := ⟨_, (N _ hm).1, rfl, n, rfl⟩
  tail_any hl.typeIs slot_list_getitem.lookup (wpAny_getItem_list hl h0 hhi hx h) hs
theorem dict_pop {Q : Value → Shared → Prop} {v : Value} {o : Obj} {kvs : List (Int × Value)} (F : Fr h₀ L s.heap m) (N : News h₀ L s.heap news) (hm : (a, o) ∈ news) (hd : o.IsDictOf (intKind prog w) kvs) (hl : valueAt kvs k = some v) (hz : kvs.length ≤ 1000)
    (h : ∀ h' o', Fr h₀ L h' m → News h₀ L h' ((a, o') :: Foc news a) → o'.IsDictOf (intKind prog w) (without kvs k) → Q v { s with heap := h', toks := s.toks + 1 }) :
    wpAny (model prog w) A (call (.builtin "dict.pop") [.ref a, .int k t]) Q E s :=
  kob_pop (more := []) F (news_foc N hm) updF_foc hd (intKind_is _ _ _ _) (.inl rfl) rfl (by unfold argsOk; kernel_rfl) hl (by rw [sizeLine_eq]; omega) fun h' o' F' N' hd' => h h' o' F' N' hd'
theorem dict_set {Q : Unit → Shared → Prop} {v : Value} {o : Obj} {kvs : List (Int × Value)} (F : Fr h₀ L s.heap m) (N : News h₀ L s.heap news) (hm : (a, o) ∈ news) (hd : o.IsDictOf (intKind prog w) kvs) (hz : kvs.length ≤ 1000)
    (h : ∀ h' o', Fr h₀ L h' m → News h₀ L h' ((a, o') :: Foc news a) → o'.IsDictOf (intKind prog w) (stored kvs k v) → Q () { s with heap := h', toks := s.toks + 1 }) :
    wpAny (model prog w) A (setItem (.ref a) (.int k t) v) Q E s :=
  kda_set F (news_foc N hm) updF_foc hd (intKind_is _ _ _ _) (by rw [sizeLine_eq]; omega) fun h' o' F' N' hd' => h h' o' F' N' hd'
end
end Mine
end
section
namespace Mine
def dropKey (E : List Ent) (k : Int) : List Ent := E.filter (fun e => decide (e.1 ≠ k))
theorem isL {h₀ h : Heap} {L a : Addr} {news : Led} {its : Array Value} {n : Nat} (N : News h₀ L h news) (hm : (a, W.listOf its n) ∈ news) : h.IsList a its.toList.toArray := by
  rw [Array.toArray_toList]
  exact ⟨_, (N _ hm).1, rfl, n, rfl⟩
theorem nodup_len : ∀ {l l' : List Int}, l.Nodup → (∀ x ∈ l, x ∈ l') → l.length ≤ l'.length
  | [], _, _, _ => Nat.zero_le _
  | x :: l, l', h, hs => by
    have hx : x ∈ l' := hs x (.head _)
    have h1 := List.nodup_cons.mp h
    have h2 : l.length ≤ (l'.erase x).length := nodup_len h1.2 fun y hy => by
      have hne : y ≠ x := fun e => h1.1 (e ▸ hy)
      exact (List.mem_erase_of_ne hne).mpr (hs y (.tail _ hy))
    rw [List.length_erase_of_mem hx] at h2
    have h3 : 0 < l'.length := List.length_pos_of_mem hx
    simp only [List.length_cons]
    omega
section
variable {I : Addr} {news news' : Led} {io : Obj}
theorem IntL.sub {a : Addr} {ns : List Int} (x : IntL news a ns) (hs : ∀ p ∈ news, p ∈ news') : IntL news' a ns := let ⟨vs, n, hm, hi⟩ := x; ⟨vs, n, hs _ hm, hi⟩
theorem IntL.foc {a : Addr} {ns : List Int} (x : IntL news a ns) (hn : a ≠ I) : IntL (Foc news I) a ns := let ⟨vs, n, hm, hi⟩ := x; ⟨vs, n, foc_mem hm hn, hi⟩
theorem IntL.focc {a : Addr} {ns : List Int} (x : IntL news a ns) (N : Uq news) (hI : (I, io) ∈ news) (hc : io.cls ≠ .type "list") : IntL (Foc news I) a ns :=
  let ⟨vs, n, hm, hi⟩ := x; ⟨vs, n, foc_cls N hI hm (Ne.symm hc), hi⟩
theorem IntL.keep {a : Addr} {ns : List Int} {mu : List Addr} (x : IntL news a ns) (K : Keep mu news news') (hn : a ∉ mu) : IntL news' a ns := let ⟨vs, n, hm, hi⟩ := x; ⟨vs, n, K _ hm hn, hi⟩
theorem KeysAt.sub {a : Addr} {P : Int → Prop} (x : KeysAt news a P) (hs : ∀ p ∈ news, p ∈ news') : KeysAt news' a P := let ⟨ns, hl, r⟩ := x; ⟨ns, hl.sub hs, r⟩
theorem KeysAt.foc {a : Addr} {P : Int → Prop} (x : KeysAt news a P) (hn : a ≠ I) : KeysAt (Foc news I) a P := let ⟨ns, hl, r⟩ := x; ⟨ns, hl.foc hn, r⟩
theorem KeysAt.focc {a : Addr} {P : Int → Prop} (x : KeysAt news a P) (N : Uq news) (hI : (I, io) ∈ news) (hc : io.cls ≠ .type "list") : KeysAt (Foc news I) a P := let ⟨ns, hl, r⟩ := x; ⟨ns, hl.focc N hI hc, r⟩
theorem TupI.sub {v : Value} {l : List Int} (x : TupI news v l) (hs : ∀ p ∈ news, p ∈ news') : TupI news' v l := let ⟨b, its, n, e, hm, hi⟩ := x; ⟨b, its, n, e, hs _ hm, hi⟩
theorem TupI.focc {v : Value} {l : List Int} (x : TupI news v l) (N : Uq news) (hI : (I, io) ∈ news) (hc : io.cls ≠ .type "tuple") : TupI (Foc news I) v l :=
  let ⟨b, its, n, e, hm, hi⟩ := x; ⟨b, its, n, e, foc_cls N hI hm (Ne.symm hc), hi⟩
theorem EntsAre.mono (hs : ∀ v l, TupI news v l → TupI news' v l) : ∀ {kvs : List (Int × Value)} {E : List Ent}, EntsAre news kvs E → EntsAre news' kvs E
  | [], [], _ => trivial
  | (_, _) :: _, (_, _, _) :: _, h => ⟨h.1, hs _ _ h.2.1, EntsAre.mono hs h.2.2⟩
  | [], _ :: _, h => h.elim
  | _ :: _, [], h => h.elim
theorem EntsAre.len : ∀ {kvs : List (Int × Value)} {E : List Ent}, EntsAre news kvs E → kvs.length = E.length
  | [], [], _ => rfl
  | (_, _) :: _, (_, _, _) :: _, h => by simp [EntsAre.len h.2.2]
  | [], _ :: _, h => h.elim
  | _ :: _, [], h => h.elim
theorem EntsAre.fst : ∀ {kvs : List (Int × Value)} {E : List Ent}, EntsAre news kvs E → kvs.map (·.1) = E.map (·.1)
  | [], [], _ => rfl
  | (_, _) :: _, (_, _, _) :: _, h => by simp [h.1, EntsAre.fst h.2.2]
  | [], _ :: _, h => h.elim
  | _ :: _, [], h => h.elim
theorem EntsAre.none {k : Int} : ∀ {kvs : List (Int × Value)} {E : List Ent}, EntsAre news kvs E → k ∉ E.map (·.1) → valueAt kvs k = none
  | [], [], _, _ => rfl
  | (k', v) :: kvs, (_, _, _) :: E, h, hk => by
    obtain ⟨rfl, _, h⟩ := h
    simp only [List.map_cons, List.mem_cons, not_or] at hk
    have ih := EntsAre.none h hk.2
    unfold valueAt at ih ⊢
    rw [List.find?_cons_of_neg (by simpa using fun e => hk.1 e.symm)]
    exact ih
  | [], _ :: _, h, _ => h.elim
  | _ :: _, [], h, _ => h.elim
theorem EntsAre.some {k t o : Int} : ∀ {kvs : List (Int × Value)} {E : List Ent}, EntsAre news kvs E → (E.map (·.1)).Nodup → (k, t, o) ∈ E → ∃ v, valueAt kvs k = some v ∧ TupI news v [t, o]
  | (k', v) :: kvs, (_, t', o') :: E, h, hn, hk => by
    obtain ⟨rfl, hv, h⟩ := h
    simp only [List.map_cons, List.nodup_cons] at hn
    by_cases e : k' = k
    · subst e
      refine ⟨v, by simp [valueAt], ?_⟩
      rcases List.mem_cons.mp hk with q | q
      · cases q; exact hv
      · exact absurd (List.mem_map.mpr ⟨_, q, rfl⟩) hn.1
    · have hk' : (k, t, o) ∈ E := (List.mem_cons.mp hk).resolve_left fun q => e (by cases q; rfl)
      obtain ⟨v', h1, h2⟩ := EntsAre.some h hn.2 hk'
      refine ⟨v', ?_, h2⟩
      unfold valueAt at h1 ⊢
      rw [List.find?_cons_of_neg (by simpa using e)]
      exact h1
  | [], [], _, _, h => nomatch h
  | [], _ :: _, h, _, _ => h.elim
  | _ :: _, [], h, _, _ => h.elim
theorem EntsAre.without {k : Int} : ∀ {kvs : List (Int × Value)} {E : List Ent}, EntsAre news kvs E → EntsAre news (without kvs k) (dropKey E k)
  | [], [], _ => trivial
  | (k', v) :: kvs, (_, t', o') :: E, h => by
    obtain ⟨rfl, hv, h⟩ := h
    have ih := EntsAre.without (k := k) h
    unfold PySem.without dropKey at ih ⊢
    by_cases e : k' = k
    · rw [List.filter_cons_of_neg (by simpa using e), List.filter_cons_of_neg (by simpa using e)]; exact ih
    · rw [List.filter_cons_of_pos (by simpa using e), List.filter_cons_of_pos (by simpa using e)]; exact ⟨rfl, hv, ih⟩
  | [], _ :: _, h => h.elim
  | _ :: _, [], h => h.elim
theorem EntsAre.snoc {k t o : Int} {v : Value} (hv : TupI news v [t, o]) : ∀ {kvs : List (Int × Value)} {E : List Ent}, EntsAre news kvs E → EntsAre news (kvs ++ [(k, v)]) (E ++ [(k, t, o)])
  | [], [], _ => ⟨rfl, hv, trivial⟩
  | (_, _) :: _, (_, _, _) :: _, h => ⟨h.1, h.2.1, EntsAre.snoc hv h.2.2⟩
  | [], _ :: _, h => h.elim
  | _ :: _, [], h => h.elim
theorem EntsAre.stored {k t o : Int} {v : Value} {kvs : List (Int × Value)} {E : List Ent} (h : EntsAre news kvs E) (hv : TupI news v [t, o]) (hk : k ∉ E.map (·.1)) : EntsAre news (stored kvs k v) (E ++ [(k, t, o)]) := by
  have e : (kvs.any fun kv => decide (kv.1 = k)) = false := by
    rw [List.any_eq_false]
    intro p hp q
    exact hk (h.fst ▸ List.mem_map.mpr ⟨p, hp, by simpa using q⟩)
  unfold PySem.stored
  rw [if_neg (by rw [e]; decide)]
  exact h.snoc hv
theorem mem_dropKey {E : List Ent} {k : Int} {e : Ent} : e ∈ dropKey E k ↔ e ∈ E ∧ e.1 ≠ k := by unfold dropKey; simp [List.mem_filter]
theorem dropKey_none {E : List Ent} {k : Int} (h : k ∉ E.map (·.1)) : dropKey E k = E := by
  unfold dropKey
  rw [List.filter_eq_self]
  intro e he
  simpa using fun q => h (List.mem_map.mpr ⟨e, he, q⟩)
theorem dropKey_keys {E : List Ent} {k : Int} (h : (E.map (·.1)).Nodup) : ((dropKey E k).map (·.1)).Nodup := by
  unfold dropKey
  exact List.Nodup.sublist (List.Sublist.map _ List.filter_sublist) h
end
theorem ints2 {its : List Value} {x y : Int} (h : IntsAre its [x, y]) : ∃ t1 t2, its = [.int x t1, .int y t2] := by
  cases h with
  | cons _ t1 h =>
    cases h with
    | cons _ t2 h =>
      cases h
      exact ⟨t1, t2, rfl⟩
theorem ints3 {its : List Value} {x y z : Int} (h : IntsAre its [x, y, z]) : ∃ t1 t2 t3, its = [.int x t1, .int y t2, .int z t3] := by
  cases h with
  | cons _ t1 h =>
    obtain ⟨t2, t3, rfl⟩ := ints2 h
    exact ⟨t1, t2, t3, rfl⟩
theorem TupI.two {news : Led} {v : Value} {x y : Int} (h : TupI news v [x, y]) : ∃ b t1 t2 n, v = .ref b ∧ (b, tupO [.int x t1, .int y t2] n) ∈ news := by
  obtain ⟨b, its, n, e, hm, hi⟩ := h
  obtain ⟨t1, t2, rfl⟩ := ints2 hi
  exact ⟨b, t1, t2, n, e, hm⟩
theorem TupI.three {news : Led} {v : Value} {x y z : Int} (h : TupI news v [x, y, z]) : ∃ b t1 t2 t3 n, v = .ref b ∧ (b, tupO [.int x t1, .int y t2, .int z t3] n) ∈ news := by
  obtain ⟨b, its, n, e, hm, hi⟩ := h
  obtain ⟨t1, t2, t3, rfl⟩ := ints3 hi
  exact ⟨b, t1, t2, t3, n, e, hm⟩
section
variable {w : World} {news news' : Led} {l : WLoc} {size : Nat} {E E' : List Ent} {P P' : Nat → Int → Prop} {reached : Option Int} {given : Int}
theorem dictOf_cls {prog : Program} {K : Type} [DecidableEq K] {knd : KeyKind prog w K} {o : Obj} {kvs : List (K × Value)} (h : o.IsDictOf knd kvs) : o.cls = .type "dict" := by
  obtain ⟨_, _, hx, _⟩ := h
  exact hx.1
theorem WheelG.sub (W : WheelG w news l size E P reached given) (hs : ∀ p ∈ news, p ∈ news') : WheelG w news' l size E P reached given where
  nodup := W.nodup
  inst := hs _ W.inst
  dict := by
    obtain ⟨h1, h2, h3, h4, h5, h6, k1, k2, k3, k4, k5, k6, ts, tg, n, rv, a, b⟩ := W.dict
    exact ⟨h1, h2, h3, h4, h5, h6, k1, k2, k3, k4, k5, k6, ts, tg, n, rv, a, hs _ b⟩
  slots := let ⟨n, x⟩ := W.slots; ⟨n, hs _ x⟩
  size1 := W.size1
  size9 := W.size9
  len := W.len
  lo := W.lo
  lists := fun i a e => (W.lists i a e).sub hs
  ents := let ⟨kvs, o, a, b, c⟩ := W.ents; ⟨kvs, o, hs _ a, b, c.mono fun _ _ x => x.sub hs⟩
  keys := W.keys
theorem WheelG.foc {I : Addr} {io : Obj} (W : WheelG w news l size E P reached given) (N : Uq news) (hI : (I, io) ∈ news) (c1 : io.cls ≠ .ref 75) (c2 : io.cls ≠ .type "dict") (c3 : io.cls ≠ .type "list") (c4 : io.cls ≠ .type "tuple") : WheelG w (Foc news I) l size E P reached given where
  nodup := W.nodup
  inst := foc_cls N hI W.inst (Ne.symm c1)
  dict := by
    obtain ⟨h1, h2, h3, h4, h5, h6, k1, k2, k3, k4, k5, k6, ts, tg, n, rv, a, b⟩ := W.dict
    exact ⟨h1, h2, h3, h4, h5, h6, k1, k2, k3, k4, k5, k6, ts, tg, n, rv, a, foc_cls N hI b (Ne.symm c2)⟩
  slots := let ⟨n, x⟩ := W.slots; ⟨n, foc_cls N hI x (Ne.symm c3)⟩
  size1 := W.size1
  size9 := W.size9
  len := W.len
  lo := W.lo
  lists := fun i a e => (W.lists i a e).focc N hI c3
  ents := let ⟨kvs, o, a, b, c⟩ := W.ents; ⟨kvs, o, foc_cls N hI a (by rw [dictOf_cls b]; exact Ne.symm c2), b, c.mono fun _ _ x => x.focc N hI c4⟩
  keys := W.keys
theorem all_ne (hn : l.all.Nodup) : l.x ≠ l.d ∧ l.x ≠ l.en ∧ l.sl ≠ l.d ∧ l.sl ≠ l.en ∧ l.d ≠ l.en ∧ (∀ a ∈ l.lt :: l.ss, a ≠ l.x ∧ a ≠ l.d ∧ a ≠ l.sl ∧ a ≠ l.en) ∧ (l.lt :: l.ss).Nodup := by
  unfold WLoc.all at hn
  simp only [List.nodup_cons, List.mem_cons, not_or] at hn
  obtain ⟨⟨a1, a2, a3, a4, a5⟩, ⟨b1, b2, b3, b4⟩, ⟨c1, c2, c3⟩, ⟨d1, d2⟩, e1, e2⟩ := hn
  refine ⟨a1, a3, Ne.symm b1, c1, b2, ?_, List.nodup_cons.mpr ⟨e1, e2⟩⟩
  intro a ha
  rcases List.mem_cons.mp ha with rfl | ha
  · exact ⟨Ne.symm a4, Ne.symm b3, Ne.symm c2, Ne.symm d1⟩
  · exact ⟨fun e => a5 (e ▸ ha), fun e => b4 (e ▸ ha), fun e => c3 (e ▸ ha), fun e => d2 (e ▸ ha)⟩
theorem WheelG.setEn {o' : Obj} {kvs' : List (Int × Value)} (W : WheelG w news l size E P reached given) (N : Uq news) (hd : o'.IsDictOf (intKind prg w) kvs') (he : EntsAre news kvs' E') (hk : (E'.map (·.1)).Nodup) :
    WheelG w ((l.en, o') :: Foc news l.en) l size E' P reached given := by
  obtain ⟨x1, x2, x3, x4, x5, x6, x7⟩ := all_ne W.nodup
  obtain ⟨kvs, o, hen, hdo, _⟩ := W.ents
  exact {
    nodup := W.nodup
    inst := .tail _ (foc_mem W.inst x2)
    dict := by
      obtain ⟨h1, h2, h3, h4, h5, h6, k1, k2, k3, k4, k5, k6, ts, tg, n, rv, a, b⟩ := W.dict
      exact ⟨h1, h2, h3, h4, h5, h6, k1, k2, k3, k4, k5, k6, ts, tg, n, rv, a, .tail _ (foc_mem b x5)⟩
    slots := let ⟨n, x⟩ := W.slots; ⟨n, .tail _ (foc_mem x x4)⟩
    size1 := W.size1
    size9 := W.size9
    len := W.len
    lo := W.lo
    lists := fun i a e => ((W.lists i a e).foc (x6 a (List.mem_of_getElem? e)).2.2.2).sub fun _ hp => .tail _ hp
    ents := ⟨kvs', o', .head _, hd, he.mono fun v l x => (x.focc N hen (by rw [dictOf_cls hdo]; simp)).sub fun _ hp => .tail _ hp⟩
    keys := hk }
theorem nodup_idx {l : List Addr} {i j : Nat} {a : Addr} (h : l.Nodup) (hi : l[i]? = some a) (hj : l[j]? = some a) : i = j := by
  have hi' : i < l.length := (List.getElem?_eq_some_iff.mp hi).1
  exact (List.getElem?_inj hi' h).mp (hi.trans hj.symm)
theorem WheelG.setList {i : Nat} {a : Addr} {vs : Array Value} {n : Nat} {ns : List Int} (WW : WheelG w news l size E P reached given) (N : Uq news) (hi : (l.lt :: l.ss)[i]? = some a) (hv : IntsAre vs.toList ns) (hnd : ns.Nodup) (hz : ns.length ≤ 60)
    (hP : ∀ k, k ∈ ns ↔ P' i k) (hP' : ∀ j, j ≠ i → P' j = P j) : WheelG w ((a, W.listOf vs n) :: Foc news a) l size E P' reached given := by
  obtain ⟨x1, x2, x3, x4, x5, x6, x7⟩ := all_ne WW.nodup
  obtain ⟨y1, y2, y3, y4⟩ := x6 a (List.mem_of_getElem? hi)
  obtain ⟨ns0, ⟨vs0, n0, hm0, _⟩, _⟩ := WW.lists i a hi
  exact {
    nodup := WW.nodup
    inst := .tail _ (foc_mem WW.inst (Ne.symm y1))
    dict := by
      obtain ⟨h1, h2, h3, h4, h5, h6, k1, k2, k3, k4, k5, k6, ts, tg, n, rv, a, b⟩ := WW.dict
      exact ⟨h1, h2, h3, h4, h5, h6, k1, k2, k3, k4, k5, k6, ts, tg, n, rv, a, .tail _ (foc_mem b (Ne.symm y2))⟩
    slots := let ⟨n, x⟩ := WW.slots; ⟨n, .tail _ (foc_mem x (Ne.symm y3))⟩
    size1 := WW.size1
    size9 := WW.size9
    len := WW.len
    lo := WW.lo
    lists := fun j b e => by
      by_cases hj : j = i
      · subst hj
        rw [hi] at e
        cases e
        exact ⟨ns, ⟨vs.toList, n, by rw [Array.toArray_toList]; exact .head _, hv⟩, hnd, hz, hP⟩
      · have hb : b ≠ a := fun q => hj (nodup_idx x7 (q ▸ e) hi)
        rw [hP' j hj]
        exact ((WW.lists j b e).foc hb).sub fun _ hp => .tail _ hp
    ents := let ⟨kvs, o, p, q, r⟩ := WW.ents; ⟨kvs, o, .tail _ (foc_mem p (Ne.symm y4)), q, r.mono fun v l x => (x.focc N hm0 (by simp)).sub fun _ hp => .tail _ hp⟩
    keys := WW.keys }
theorem WheelG.setD {h1 h2 h3 h4 h5 h6 : Int} {k1 k2 k3 k4 k5 k6 ts tg : Tok} {n : Nat} {rv : Value} {reached' : Option Int} {given' : Int} (W : WheelG w news l size E P reached given) (N : Uq news) (hr : RVal rv reached') :
    WheelG w ((l.d, dictOf [dE h1 "size" k1 (.int size ts), dE h2 "slots" k2 (.ref l.sl), dE h3 "late" k3 (.ref l.lt), dE h4 "entries" k4 (.ref l.en), dE h5 "reached" k5 rv, dE h6 "given" k6 (.int given' tg)] n) :: Foc news l.d) l size E P reached' given' := by
  obtain ⟨x1, x2, x3, x4, x5, x6, x7⟩ := all_ne W.nodup
  have hd : ∃ o, (l.d, o) ∈ news ∧ o.cls = .type "dict" := by
    obtain ⟨h1, h2, h3, h4, h5, h6, k1, k2, k3, k4, k5, k6, ts, tg, n, rv, a, b⟩ := W.dict
    exact ⟨_, b, rfl⟩
  obtain ⟨o0, hd, hc⟩ := hd
  exact {
    nodup := W.nodup
    inst := .tail _ (foc_mem W.inst x1)
    dict := ⟨h1, h2, h3, h4, h5, h6, k1, k2, k3, k4, k5, k6, ts, tg, n, rv, hr, .head _⟩
    slots := let ⟨n, x⟩ := W.slots; ⟨n, .tail _ (foc_mem x x3)⟩
    size1 := W.size1
    size9 := W.size9
    len := W.len
    lo := W.lo
    lists := fun i a e => ((W.lists i a e).foc (x6 a (List.mem_of_getElem? e)).2.1).sub fun _ hp => .tail _ hp
    ents := let ⟨kvs, o, p, q, r⟩ := W.ents; ⟨kvs, o, .tail _ (foc_mem p (Ne.symm x5)), q, r.mono fun v l x => (x.focc N hd (by rw [hc]; simp)).sub fun _ hp => .tail _ hp⟩
    keys := W.keys }
theorem ent_uniq {E : List Ent} (hn : (E.map (·.1)).Nodup) {k t o t' o' : Int} (h1 : (k, t, o) ∈ E) (h2 : (k, t', o') ∈ E) : t = t' ∧ o = o' := by
  induction E with
  | nil => cases h1
  | cons e E ih =>
    simp only [List.map_cons, List.nodup_cons] at hn
    rcases List.mem_cons.mp h1 with q1 | q1
    · rcases List.mem_cons.mp h2 with q2 | q2
      · rw [← q1] at q2; cases q2; exact ⟨rfl, rfl⟩
      · exact absurd (List.mem_map.mpr ⟨_, q2, by rw [← q1]⟩) hn.1
    · rcases List.mem_cons.mp h2 with q2 | q2
      · exact absurd (List.mem_map.mpr ⟨_, q1, by rw [← q2]⟩) hn.1
      · exact ih hn.2 q1 q2
theorem Keep.turn {mu : List Addr} {news nw news3 : Led} {I : Addr} {io : Obj} (K : Keep mu news nw) (hoff : ∀ p ∈ nw, p.1 ≠ I) (K2 : Keep mu ((I, io) :: nw) news3) : Keep mu news (Foc news3 I) := fun p hp hn =>
  mem_foc.mpr ⟨K2 p (.tail _ (K p hp hn)) hn, hoff p (K p hp hn)⟩
theorem lists_muts {l : WLoc} {q : Nat} {a : Addr} (h : (l.lt :: l.ss)[q]? = some a) : a ∈ l.muts := by
  have := List.mem_of_getElem? h
  unfold WLoc.muts
  exact .tail _ (.tail _ this)
theorem WheelG.slot_at (W : WheelG w news l size E P reached given) (t : Int) : ∃ aj, (l.lt :: l.ss)[(t % (size : Int)).toNat + 1]? = some aj := by
  have h1 := W.size1
  have h2 := W.len
  have hm0 := Int.emod_nonneg t (show (size : Int) ≠ 0 by omega)
  have hm1 := Int.emod_lt_of_pos t (show (0 : Int) < (size : Int) by omega)
  exact ⟨_, List.getElem?_eq_getElem (show (t % (size : Int)).toNat + 1 < (l.lt :: l.ss).length by simp only [List.length_cons]; omega)⟩
theorem slot_item {A : Around} {E9 : Value → Shared → Prop} {s : Shared} {h₀ : Heap} {L : Addr} {value slice : PySem.Expr} {u : Tok} {t : Int} {aj : Addr} {Q : Value → Shared → Prop} (N : News h₀ L s.heap news) (WW : WheelG w news l size E P reached given)
    (haj : (l.lt :: l.ss)[(t % (size : Int)).toNat + 1]? = some aj) (h : Q (.ref aj) s)
    (hs : subscripted slice false (.ref l.sl) (.int (t.fmod (size : Int)) u) = operate [.ref l.sl, .int (t.fmod (size : Int)) u] (getItem (.ref l.sl) (.int (t.fmod (size : Int)) u)) := by with_unfolding_all rfl) :
    wpAny (model prg w) A (subscriptTail value slice (.ref l.sl) (.int (t.fmod (size : Int)) u)) Q E9 s := by
  have h1 := WW.size1
  have h2 := WW.size9
  have hfm : t.fmod (size : Int) = t % (size : Int) := Int.fmod_eq_emod_of_nonneg _ (by omega)
  have hm0 := Int.emod_nonneg t (show (size : Int) ≠ 0 by omega)
  have hm1 := Int.emod_lt_of_pos t (show (0 : Int) < (size : Int) by omega)
  obtain ⟨n, hsl⟩ := WW.slots
  refine list_item N hsl (by omega) (by omega) ?_ h hs
  rw [hfm]
  simp only [List.getElem?_cons_succ] at haj
  show (List.toArray _)[_]? = some (Value.ref aj)
  simp [haj]
theorem WheelG.congrP (W : WheelG w news l size E P reached given) (hP : ∀ i k, P i k ↔ P' i k) : WheelG w news l size E P' reached given := by
  have e : P = P' := funext fun i => funext fun k => propext (hP i k)
  rw [← e]; exact W
end
end Mine
end
section
namespace Mine
section
variable {prog : Program} {w : World} {A : Around} {E : Value → Shared → Prop} {s : Shared} {env : Env} {h₀ : Heap} {L : Addr} {m : Str → Option Value} {news : Led} {scope : Scope} {cl : List (Str × Addr)} {x : Str} {elt : Expr} {ifs : List Expr} {p : Value → Bool} {G : Value → Value → Prop}
/-- an element of a block: its test answers p, its value is told by G; nothing is turned -/
def EltOk (prog : Program) (w : World) (A : Around) (h₀ : Heap) (L : Addr) (m : Str → Option Value) (news : Led) (scope : Scope) (cl : List (Str × Addr)) (env : Env) (x : Str) (ifs : List Expr) (elt : Expr) (p : Value → Bool) (G : Value → Value → Prop) (v : Value) : Prop :=
  ∀ (C : Addr) (s₃ : Shared) (m₃ : Str → Option Value) (E' : Value → Shared → Prop), Fr h₀ L s₃.heap m → News h₀ L s₃.heap news → s₃.heap.Ns C m₃ → m₃ x = some v →
    wpAny (model prog w) A (forIn ifs true fun c r => if r = true then do let ok ← isTrue c (compEnvC scope cl C env) (eval c (compEnvC scope cl C env)); pure (ForInStep.yield ok) else pure (ForInStep.yield r)) (fun ok s₄ => ok = p v ∧ Keeps s₃ s₄) E' s₃ ∧
    (p v = true → wpAny (model prog w) A (eval elt (compEnvC scope cl C env)) (fun y s₄ => G v y ∧ Keeps s₃ s₄) E' s₃)
theorem Keeps.refl (s : Shared) : Keeps s s := ⟨s.heap, s.toks, rfl, fun _ _ e => e⟩
theorem Keeps.of_toks (s : Shared) (tk : Nat) : Keeps s { s with toks := tk } := ⟨s.heap, tk, rfl, fun _ _ e => e⟩
theorem eltOk0 {v : Value} (h : ∀ (C : Addr) (s₃ : Shared) (m₃ : Str → Option Value) (E' : Value → Shared → Prop), Fr h₀ L s₃.heap m → News h₀ L s₃.heap news → s₃.heap.Ns C m₃ → m₃ x = some v →
    wpAny (model prog w) A (eval elt (compEnvC scope cl C env)) (fun y s₄ => G v y ∧ Keeps s₃ s₄) E' s₃) : EltOk prog w A h₀ L m news scope cl env x [] elt (fun _ => true) G v := by
  intro C s₃ m₃ E' F N hn hm
  refine ⟨?_, fun _ => h C s₃ m₃ E' F N hn hm⟩
  rw [List.forIn_nil]
  exact wpAny_pure ⟨rfl, Keeps.refl _⟩
theorem eltOk1 {v : Value} {t : Expr} (h1 : ∀ (C : Addr) (s₃ : Shared) (m₃ : Str → Option Value) (E' : Value → Shared → Prop), Fr h₀ L s₃.heap m → News h₀ L s₃.heap news → s₃.heap.Ns C m₃ → m₃ x = some v →
    wpAny (model prog w) A (isTrue t (compEnvC scope cl C env) (eval t (compEnvC scope cl C env))) (fun ok s₄ => ok = p v ∧ Keeps s₃ s₄) E' s₃)
    (h : ∀ (C : Addr) (s₃ : Shared) (m₃ : Str → Option Value) (E' : Value → Shared → Prop), Fr h₀ L s₃.heap m → News h₀ L s₃.heap news → s₃.heap.Ns C m₃ → m₃ x = some v → p v = true →
    wpAny (model prog w) A (eval elt (compEnvC scope cl C env)) (fun y s₄ => G v y ∧ Keeps s₃ s₄) E' s₃) : EltOk prog w A h₀ L m news scope cl env x [t] elt p G v := by
  intro C s₃ m₃ E' F N hn hm
  refine ⟨?_, fun hp => h C s₃ m₃ E' F N hn hm hp⟩
  rw [List.forIn_cons]
  simp only [if_true]
  refine wpAny_bind (wpAny_bind (wpAny_mono (h1 C s₃ m₃ E' F N hn hm) (fun ok s₄ hk => wpAny_pure ?_) fun _ _ e => e))
  dsimp only
  rw [List.forIn_nil]
  exact wpAny_pure hk
theorem quiet_of {I : Addr} {P : Nat → Value → Prop} (hP : ∀ i v, P i v → EltOk prog w A h₀ L m news scope cl env x ifs elt p G v)
    (F : Fr h₀ L s.heap m) (N : News h₀ L s.heap news) (hLI : L ≠ I) (hI₀ : h₀.get? I = none) (off : ∀ q ∈ news, q.1 ≠ I) : QuietOnC prog w A env scope cl x ifs elt [I] P p G s where
  tests := fun C i v s₃ m₃ E' _ hv hn hm hk _ => (hP i v hv C s₃ m₃ E' (LCg.fr_but F hk hLI hI₀) (LCg.news_but N hk off) hn hm).1
  elt := fun C i v s₃ m₃ E' _ hv hp hn hm hk _ => (hP i v hv C s₃ m₃ E' (LCg.fr_but F hk hLI hI₀) (LCg.news_but N hk off) hn hm).2 hp

theorem comp_list {Q : Value → Shared → Prop} {l : Addr} {its : Array Value} {nn : Nat} (hh : A.handled = none) (F : Fr h₀ L s.heap m) (N : News h₀ L s.heap news) (hl : (l, W.listOf its nn) ∈ news) (hsz : its.size ≤ 1000)
    (he : ∀ v ∈ its.toList, EltOk prog w A h₀ L m news scope cl env x ifs elt p G v)
    (hQ : ∀ D h' tk ys n, Fr h₀ L h' m → News h₀ L h' ((D, W.listOf ys n) :: news) → (∀ q ∈ news, q.1 ≠ D) → Paired G (its.toList.filter p) ys.toList → Q (.ref D) { s with heap := h', toks := tk }) :
    wpAny (model prog w) A (pyIter (.ref l)) (fun it s₂ => ∃ I fp wr n P St, it = .ref I ∧ Walks prog w A I fp wr n P St ∧ n ≤ sizeLine ∧ St 0 s₂.heap ∧ (∀ b ∈ fp, b < s₂.heap.objs.size) ∧
      QuietOnC prog w A env scope cl x ifs elt wr P p G s₂ ∧
      (∀ D h' tk ys (vs : List Value), s₂.heap.get? D = none → h'.IsList D ys → h'.PlainList D ys → vs.length = n → (∀ j v, vs[j]? = some v → P j v) → Paired G (vs.filter p) ys.toList →
        (∀ b o, b ∉ wr → s₂.heap.get? b = some o → h'.get? b = some o) → Q (.ref D) { s₂ with heap := h', toks := tk })) E s := by
  have hls : s.heap.IsList l its := ⟨_, (N _ hl).1, rfl, nn, rfl⟩
  have hlt : l < s.heap.objs.size := Heap.lt_size (N _ hl).1
  refine wpAny_pyIter_list hls ?_
  have up : ∀ b o, s.heap.get? b = some o → (s.heap.push { cls := .type "list_iterator", data := .fields #[.ref l, .int 0 0] }).get? b = some o := fun b o e => Heap.get?_push_of_some _ e
  have hLI : L ≠ s.heap.objs.size := Nat.ne_of_lt F.ns.lt
  have off : ∀ q ∈ news, q.1 ≠ s.heap.objs.size := fun q hq => Nat.ne_of_lt (Heap.lt_size (N q hq).1)
  refine ⟨_, _, _, _, _, _, rfl, Walks.list hh s.heap.objs.size l (Nat.ne_of_lt hlt) its, by rw [sizeLine_eq]; omega, ⟨⟨_, Heap.get?_push_size _ rfl, rfl, rfl⟩, hls.push _⟩, ?_, ?_, ?_⟩
  · intro b hb
    show b < (s.heap.push _).objs.size
    rw [Heap.size_push]
    rcases List.mem_cons.mp hb with rfl | hb
    · exact Nat.lt_succ_self _
    · rw [List.mem_singleton.mp hb]; exact Nat.lt_succ_of_lt hlt
  · exact quiet_of (fun i v hv => he v (by rw [← Array.getElem?_toList] at hv; exact List.mem_of_getElem? hv)) (F.keeps up) (N.grown up) hLI (next_is_new F) off
  · intro D h' tk ys vs hD _ hpl hlen hv hpair hk
    obtain ⟨n, hpl⟩ := hpl
    have hvs : vs = its.toList := by
      apply List.ext_getElem?
      intro j
      by_cases hj : j < vs.length
      · have := hv j vs[j] (List.getElem?_eq_getElem hj)
        rw [List.getElem?_eq_getElem hj, Array.getElem?_toList, this]
      · rw [List.getElem?_eq_none (by omega), List.getElem?_eq_none (by rw [Array.length_toList]; omega)]
    subst hvs
    have hk' : ∀ b o, b ∉ [s.heap.objs.size] → s.heap.get? b = some o → h'.get? b = some o := fun b o hb e => hk b o hb (up b o e)
    have D0 : ∀ o, s.heap.get? D ≠ some o := fun o e => by
      have := up D o e
      dsimp only at hD
      rw [this] at hD
      cases hD
    refine hQ D h' tk ys n (LCg.fr_but F hk' hLI (next_is_new F)) (fun q hq => ?_) (fun q hq e => D0 q.2 (e ▸ (N q hq).1)) hpair
    rcases List.mem_cons.mp hq with rfl | hq
    · refine ⟨hpl, fun e => ?_, ?_⟩
      · obtain ⟨oL, _, _, hL, _⟩ := F.ns
        replace e : D = _ := e
        exact D0 oL (by rw [e]; exact hL)
      · cases q : h₀.get? D with
        | none => rfl
        | some o => exact absurd (F.keep _ _ q) (D0 o)
    · exact LCg.news_but N hk' off q hq

theorem comp_list_a {Q : Flow → Shared → Prop} {y : Str} {l : Addr} {its : Array Value} {nn : Nat} (hLe : env.locals = L) (hh : A.handled = none) (F : Fr h₀ L s.heap m) (N : News h₀ L s.heap news) (hl : (l, W.listOf its nn) ∈ news) (hsz : its.size ≤ 1000)
    (he : ∀ v ∈ its.toList, EltOk prog w A h₀ L m news scope cl env x ifs elt p G v)
    (hQ : ∀ D h' tk ys n, Fr h₀ L h' (fun z => if z = y then some (.ref D) else m z) → News h₀ L h' ((D, W.listOf ys n) :: news) → (∀ q ∈ news, q.1 ≠ D) → Paired G (its.toList.filter p) ys.toList → Q .next { s with heap := h', toks := tk }) :
    wpAny (model prog w) A (pyIter (.ref l)) (fun it s₂ => ∃ I fp wr n P St m, it = .ref I ∧ Walks prog w A I fp wr n P St ∧ n ≤ sizeLine ∧ St 0 s₂.heap ∧ (∀ b ∈ fp, b < s₂.heap.objs.size) ∧
      env.locals ∉ wr ∧ s₂.heap.Ns env.locals m ∧ QuietOnC prog w A env scope cl x ifs elt wr P p G s₂ ∧
      (∀ D h' tk ys (vs : List Value), s₂.heap.get? D = none → h'.IsList D ys → h'.PlainList D ys → vs.length = n → (∀ j v, vs[j]? = some v → P j v) → Paired G (vs.filter p) ys.toList →
        h'.Ns env.locals (fun z => if z = y then some (.ref D) else m z) → (∀ b o, b ≠ env.locals → b ∉ wr → s₂.heap.get? b = some o → h'.get? b = some o) → Q .next { s₂ with heap := h', toks := tk })) E s := by
  subst hLe
  have hls : s.heap.IsList l its := ⟨_, (N _ hl).1, rfl, nn, rfl⟩
  have hlt : l < s.heap.objs.size := Heap.lt_size (N _ hl).1
  refine wpAny_pyIter_list hls ?_
  have up : ∀ b o, s.heap.get? b = some o → (s.heap.push { cls := .type "list_iterator", data := .fields #[.ref l, .int 0 0] }).get? b = some o := fun b o e => Heap.get?_push_of_some _ e
  have hLI : env.locals ≠ s.heap.objs.size := Nat.ne_of_lt F.ns.lt
  have off : ∀ q ∈ news, q.1 ≠ s.heap.objs.size := fun q hq => Nat.ne_of_lt (Heap.lt_size (N q hq).1)
  refine ⟨_, _, _, _, _, _, m, rfl, Walks.list hh s.heap.objs.size l (Nat.ne_of_lt hlt) its, by rw [sizeLine_eq]; omega, ⟨⟨_, Heap.get?_push_size _ rfl, rfl, rfl⟩, hls.push _⟩, ?_, by simpa using hLI, (F.keeps up).ns, ?_, ?_⟩
  · intro b hb
    show b < (s.heap.push _).objs.size
    rw [Heap.size_push]
    rcases List.mem_cons.mp hb with rfl | hb
    · exact Nat.lt_succ_self _
    · rw [List.mem_singleton.mp hb]; exact Nat.lt_succ_of_lt hlt
  · exact quiet_of (fun i v hv => he v (by rw [← Array.getElem?_toList] at hv; exact List.mem_of_getElem? hv)) (F.keeps up) (N.grown up) hLI (next_is_new F) off
  · intro D h' tk ys vs hD _ hpl hlen hv hpair hns hk
    obtain ⟨n, hpl⟩ := hpl
    have hvs : vs = its.toList := by
      apply List.ext_getElem?
      intro j
      by_cases hj : j < vs.length
      · have := hv j vs[j] (List.getElem?_eq_getElem hj)
        rw [List.getElem?_eq_getElem hj, Array.getElem?_toList, this]
      · rw [List.getElem?_eq_none (by omega), List.getElem?_eq_none (by rw [Array.length_toList]; omega)]
    subst hvs
    have D0 : ∀ o, s.heap.get? D ≠ some o := fun o e => by
      have := up D o e
      dsimp only at hD
      rw [this] at hD
      cases hD
    have hL0 : h₀.get? env.locals = none := Heap.get?_none_of_le F.above
    refine hQ D h' tk ys n ⟨hns, fun b o e => hk b o (fun q => by rw [q, hL0] at e; cases e) (fun q => by rw [List.mem_singleton.mp q, next_is_new F] at e; cases e) (up b o (F.keep b o e)), F.above⟩ (fun q hq => ?_) (fun q hq e => D0 q.2 (e ▸ (N q hq).1)) hpair
    rcases List.mem_cons.mp hq with rfl | hq
    · refine ⟨hpl, fun e => ?_, ?_⟩
      · obtain ⟨oL, _, _, hL, _⟩ := F.ns
        replace e : D = _ := e
        exact D0 oL (by rw [e]; exact hL)
      · cases q : h₀.get? D with
        | none => rfl
        | some o => exact absurd (F.keep _ _ q) (D0 o)
    · exact ⟨hk q.1 q.2 (N q hq).2.1 (by simpa using off q hq) (up _ _ (N q hq).1), (N q hq).2⟩

theorem ints_of_keys {prog : Program} {w : World} : ∀ {vs : List Value} {kvs : List (Int × Value)}, vs.length = kvs.length → (∀ (j : Nat) v, vs[j]? = some v → ∃ k x, kvs[j]? = some (k, x) ∧ (intKind prog w).is k v = true) → IntsAre vs (kvs.map (·.1))
  | [], [], _, _ => .nil
  | [], _ :: _, h, _ => by simp at h
  | _ :: _, [], h, _ => by simp at h
  | v :: vs, kv :: kvs, h, hv => by
    obtain ⟨k, x', hx, hk⟩ := hv 0 v rfl
    obtain ⟨t, rfl⟩ := PySem.Value.isInt_shape hk
    simp only [List.getElem?_cons_zero, Option.some.injEq] at hx
    subst hx
    exact .cons _ _ (ints_of_keys (by simpa using h) fun j v hj => by simpa using hv (j + 1) v (by simpa using hj))
theorem dict_keys {Q : Value → Shared → Prop} {d : Addr} {o : Obj} {kvs : List (Int × Value)} (hh : A.handled = none) (F : Fr h₀ L s.heap m) (N : News h₀ L s.heap news) (hm : (d, o) ∈ news) (hd : o.IsDictOf (intKind prog w) kvs) (lo : (d == sysModules) = false) (hz : kvs.length ≤ 1000)
    (h : ∀ D c h' tk (vs : List Value), Fr h₀ L h' m → News h₀ L h' ((D, W.listOf vs.toArray c) :: news) → (∀ q ∈ news, q.1 < D) → IntsAre vs (kvs.map (·.1)) → Q (.ref D) { s with heap := h', toks := tk }) :
    wpAny (model prog w) A (call (.type "list") [.ref d]) Q E s := by
  obtain ⟨ep, ha⟩ := KdkAt.of hd
  exact kdl_N (kdl_dict (knd := intKind prog w) lo) hh F N (ha.dictAt (N _ hm).1) (by rw [sizeLine_eq]; omega) fun D c h' tk vs F' N' hlt hl hv => h D c h' tk vs F' N' hlt (ints_of_keys hl hv)
theorem comp_dict_a {Q : Flow → Shared → Prop} {y : Str} {d : Addr} {o : Obj} {kvs : List (Int × Value)} (hLe : env.locals = L) (hh : A.handled = none) (F : Fr h₀ L s.heap m) (N : News h₀ L s.heap news) (hl : (d, o) ∈ news) (hd : o.IsDictOf (intKind prog w) kvs) (lo : (d == sysModules) = false) (hsz : kvs.length ≤ 1000)
    (he : ∀ k v t, (k, v) ∈ kvs → EltOk prog w A h₀ L m news scope cl env x ifs elt p G (.int k t))
    (hQ : ∀ D h' tk ys n vs, Fr h₀ L h' (fun z => if z = y then some (.ref D) else m z) → News h₀ L h' ((D, W.listOf ys n) :: news) → (∀ q ∈ news, q.1 ≠ D) → IntsAre vs (kvs.map (·.1)) → Paired G (vs.filter p) ys.toList → Q .next { s with heap := h', toks := tk }) :
    wpAny (model prog w) A (pyIter (.ref d)) (fun it s₂ => ∃ I fp wr n P St m, it = .ref I ∧ Walks prog w A I fp wr n P St ∧ n ≤ sizeLine ∧ St 0 s₂.heap ∧ (∀ b ∈ fp, b < s₂.heap.objs.size) ∧
      env.locals ∉ wr ∧ s₂.heap.Ns env.locals m ∧ QuietOnC prog w A env scope cl x ifs elt wr P p G s₂ ∧
      (∀ D h' tk ys (vs : List Value), s₂.heap.get? D = none → h'.IsList D ys → h'.PlainList D ys → vs.length = n → (∀ j v, vs[j]? = some v → P j v) → Paired G (vs.filter p) ys.toList →
        h'.Ns env.locals (fun z => if z = y then some (.ref D) else m z) → (∀ b o, b ≠ env.locals → b ∉ wr → s₂.heap.get? b = some o → h'.get? b = some o) → Q .next { s₂ with heap := h', toks := tk })) E s := by
  subst hLe
  obtain ⟨ep, ha⟩ := KdkAt.of hd
  have hda := ha.dictAt (N _ hl).1
  have hlt : d < s.heap.objs.size := Heap.lt_size (N _ hl).1
  refine wpAny_pyIter_dict lo hda ?_
  have up : ∀ b o, s.heap.get? b = some o → (s.heap.push { cls := .type "dict_keyiterator", data := .fields #[.ref d, .int 0 0, .int kvs.length 0, .int ep 0] }).get? b = some o := fun b o e => Heap.get?_push_of_some _ e
  have hLI : env.locals ≠ s.heap.objs.size := Nat.ne_of_lt F.ns.lt
  have off : ∀ q ∈ news, q.1 ≠ s.heap.objs.size := fun q hq => Nat.ne_of_lt (Heap.lt_size (N q hq).1)
  refine ⟨_, _, _, _, _, _, m, rfl, Walks.dictKeys (knd := intKind prog w) hh s.heap.objs.size d (Nat.ne_of_lt hlt) kvs ep, by rw [sizeLine_eq]; omega, ⟨⟨_, Heap.get?_push_size _ rfl, rfl, rfl⟩, hda.at' fun o e => up _ o e⟩, ?_, by simpa using hLI, (F.keeps up).ns, ?_, ?_⟩
  · intro b hb
    show b < (s.heap.push _).objs.size
    rw [Heap.size_push]
    rcases List.mem_cons.mp hb with rfl | hb
    · exact Nat.lt_succ_self _
    · rw [List.mem_singleton.mp hb]; exact Nat.lt_succ_of_lt hlt
  · refine quiet_of (fun i v hv => ?_) (F.keeps up) (N.grown up) hLI (next_is_new F) off
    obtain ⟨k, x', hx, hk⟩ := hv
    obtain ⟨t, rfl⟩ := PySem.Value.isInt_shape hk
    exact he k x' t (List.mem_of_getElem? hx)
  · intro D h' tk ys vs hD _ hpl hlen hv hpair hns hk
    obtain ⟨n, hpl⟩ := hpl
    have hvs : IntsAre vs (kvs.map (·.1)) := ints_of_keys (prog := prog) (w := w) hlen hv
    have D0 : ∀ o, s.heap.get? D ≠ some o := fun o e => by
      have := up D o e
      dsimp only at hD
      rw [this] at hD
      cases hD
    have hL0 : h₀.get? env.locals = none := Heap.get?_none_of_le F.above
    refine hQ D h' tk ys n vs ⟨hns, fun b o e => hk b o (fun q => by rw [q, hL0] at e; cases e) (fun q => by rw [List.mem_singleton.mp q, next_is_new F] at e; cases e) (up b o (F.keep b o e)), F.above⟩ (fun q hq => ?_) (fun q hq e => D0 q.2 (e ▸ (N q hq).1)) hvs hpair
    rcases List.mem_cons.mp hq with rfl | hq
    · refine ⟨hpl, fun e => ?_, ?_⟩
      · obtain ⟨oL, _, _, hL, _⟩ := F.ns
        replace e : D = _ := e
        exact D0 oL (by rw [e]; exact hL)
      · cases q : h₀.get? D with
        | none => rfl
        | some o => exact absurd (F.keep _ _ q) (D0 o)
    · exact ⟨hk q.1 q.2 (N q hq).2.1 (by simpa using off q hq) (up _ _ (N q hq).1), (N q hq).2⟩
end
end Mine
end
section
namespace Mine
/-- the sort's questions stay within n, and with the order lt what it hands back is so -/
def KOk (n : Nat) (lt : Nat → Nat → Bool) {α : Type} : KasT α → (α → Prop) → Prop
  | .ret a, Q => Q a
  | .ask i j k, Q => i < n ∧ j < n ∧ KOk n lt (k (lt i j)) Q
theorem kok_bind {n : Nat} {lt : Nat → Nat → Bool} {α β : Type} {f : α → KasT β} {Q : β → Prop} : ∀ {t : KasT α}, KOk n lt t (fun a => KOk n lt (f a) Q) → KOk n lt (t.bind f) Q
  | .ret _, h => h
  | .ask _ _ _, h => ⟨h.1, h.2.1, kok_bind h.2.2⟩
theorem kok_mono {n : Nat} {lt : Nat → Nat → Bool} {α : Type} {Q Q' : α → Prop} (hq : ∀ a, Q a → Q' a) : ∀ {t : KasT α}, KOk n lt t Q → KOk n lt t Q'
  | .ret _, h => hq _ h
  | .ask _ _ _, h => ⟨h.1, h.2.1, kok_mono hq h.2.2⟩
theorem kok_wp {n : Nat} {lt : Nat → Nat → Bool} {α : Type} {cmp : Nat → Nat → (Bool → Shared → Prop) → Shared → Prop} {G : α → Shared → Prop} {Q : α → Prop} {s : Shared} (hc : ∀ i j C, i < n → j < n → C (lt i j) s → cmp i j C s) (hG : ∀ a, Q a → G a s) :
    ∀ {t : KasT α}, KOk n lt t Q → t.kasWp cmp G s
  | .ret _, h => hG _ h
  | .ask i j k, h => hc i j _ h.1 h.2.1 (kok_wp hc hG h.2.2)
structure Ord (n : Nat) (lt : Nat → Nat → Bool) : Prop where
  trans : ∀ i j k, i < n → j < n → k < n → lt i j = true → lt j k = true → lt i k = true
  total : ∀ i j, i < n → j < n → i ≠ j → lt i j = false → lt j i = true
abbrev Lp (p : Array Nat) (i : Nat) : Nat := p.getD i 0
structure Pm (n : Nat) (p : Array Nat) : Prop where
  perm : p.toList.Perm (List.range n)
theorem Pm.size {n : Nat} {p : Array Nat} (h : Pm n p) : p.size = n := by
  have := h.perm.length_eq
  simpa using this
theorem Pm.lt {n : Nat} {p : Array Nat} (h : Pm n p) {i : Nat} (hi : i < n) : Lp p i < n := by
  have hs := h.size
  have hm : Lp p i ∈ p.toList := by
    have : Lp p i = p[i] := by simp [Array.getD, hs, hi]
    rw [this]; simp
  simpa using h.perm.mem_iff.mp hm
theorem Pm.ne {n : Nat} {p : Array Nat} (h : Pm n p) {i j : Nat} (hi : i < n) (hj : j < n) (hij : i ≠ j) : Lp p i ≠ Lp p j := by
  have hs := h.size
  have hnd : p.toList.Nodup := h.perm.nodup_iff.mpr List.nodup_range
  have e1 : Lp p i = p.toList[i]'(by simp [hs, hi]) := by simp [Array.getD, hs, hi]
  have e2 : Lp p j = p.toList[j]'(by simp [hs, hj]) := by simp [Array.getD, hs, hj]
  rw [e1, e2]
  intro e
  exact hij ((List.getElem_inj hnd).mp e)
/-- rising, falling up to m -/
def Up (lt : Nat → Nat → Bool) (p : Array Nat) (m : Nat) : Prop := ∀ i j, i < j → j < m → lt (Lp p i) (Lp p j) = true
def Dn (lt : Nat → Nat → Bool) (p : Array Nat) (m : Nat) : Prop := ∀ i j, i < j → j < m → lt (Lp p j) (Lp p i) = true
section
variable {n : Nat} {lt : Nat → Nat → Bool} (O : Ord n lt) {p : Array Nat}
include O
theorem up_step (h : Pm n p) {m : Nat} (h1 : 1 ≤ m) (hm : m < n) (hu : Up lt p m) (hl : lt (Lp p m) (Lp p (m - 1)) = false) : Up lt p (m + 1) := by
  have hq := O.total _ _ (h.lt hm) (h.lt (show m - 1 < n by omega)) (h.ne hm (by omega) (by omega)) hl
  intro i j hij hj
  by_cases e : j = m
  · subst e
    by_cases e2 : i = j - 1
    · rw [e2]; exact hq
    · exact O.trans _ _ _ (h.lt (by omega)) (h.lt (by omega)) (h.lt hm) (hu i (j - 1) (by omega) (by omega)) hq
  · exact hu i j hij (by omega)
theorem dn_step (h : Pm n p) {m : Nat} (h1 : 1 ≤ m) (hm : m < n) (hu : Dn lt p m) (hq : lt (Lp p m) (Lp p (m - 1)) = true) : Dn lt p (m + 1) := by
  intro i j hij hj
  by_cases e : j = m
  · subst e
    by_cases e2 : i = j - 1
    · rw [e2]; exact hq
    · exact O.trans _ _ _ (h.lt hm) (h.lt (by omega)) (h.lt (by omega)) hq (hu i (j - 1) (by omega) (by omega))
  · exact hu i j hij (by omega)
theorem asc_ok (h : Pm n p) {Q : Nat → Prop} : ∀ (f m : Nat), 1 ≤ m → m + f ≤ n → Up lt p m → (∀ m', m ≤ m' → m' ≤ m + f → Up lt p m' → (m' < m + f → lt (Lp p m') (Lp p (m' - 1)) = true) → Q m') → KOk n lt (kas_asc p f m) Q
  | 0, m, h1, hm, hu, hQ => hQ m (Nat.le_refl _) (Nat.le_refl _) hu (fun q => absurd q (Nat.lt_irrefl _))
  | f + 1, m, h1, hm, hu, hQ => by
    refine ⟨h.lt (show m < n by omega), h.lt (show m - 1 < n by omega), ?_⟩
    cases e : lt (Lp p m) (Lp p (m - 1)) with
    | true =>
      dsimp only
      rw [if_pos rfl]
      exact hQ m (Nat.le_refl _) (by omega) hu (fun _ => e)
    | false =>
      dsimp only
      rw [if_neg (by simp)]
      refine asc_ok h f (m + 1) (by omega) (by omega) (up_step O h h1 (by omega) hu e) fun m' a b c d => hQ m' (by omega) (by omega) c (fun q => d (by omega))
theorem desc_ok (h : Pm n p) {Q : Array Nat × Nat × Nat → Prop} : ∀ (f m : Nat), 1 ≤ m → m + f ≤ n → Dn lt p m → (∀ m', m ≤ m' → m' ≤ m + f → Dn lt p m' → Q (p, m', 0)) → KOk n lt (kas_desc f p m 0) Q
  | 0, m, h1, hm, hu, hQ => hQ m (Nat.le_refl _) (Nat.le_refl _) hu
  | f + 1, m, h1, hm, hu, hQ => by
    refine ⟨h.lt (show m < n by omega), h.lt (show m - 1 < n by omega), ?_⟩
    cases e : lt (Lp p m) (Lp p (m - 1)) with
    | true =>
      dsimp only
      rw [if_pos rfl, if_neg (by omega)]
      exact desc_ok h f (m + 1) (by omega) (by omega) (dn_step O h h1 (by omega) hu e) fun m' a b c => hQ m' (by omega) (by omega) c
    | false =>
      dsimp only
      rw [if_neg (by simp)]
      refine ⟨h.lt (show m - 1 < n by omega), h.lt (show m < n by omega), ?_⟩
      have hq := O.total _ _ (h.lt (show m < n by omega)) (h.lt (show m - 1 < n by omega)) (h.ne (by omega) (by omega) (by omega)) e
      rw [hq]
      dsimp only
      rw [if_pos rfl]
      exact hQ m (Nat.le_refl _) (by omega) hu
end
theorem rev_pm {n : Nat} {p : Array Nat} (h : Pm n p) (i j : Nat) : Pm n (kas_rev p i j) := ⟨((Array.perm_iff_toList_perm.mp (mirror_perm p i j _))).trans h.perm⟩
theorem rev_get {n : Nat} {p : Array Nat} (h : Pm n p) {m : Nat} (hm : m ≤ n) {k : Nat} (hk : k < n) : Lp (kas_rev p 0 m) k = if k < m then Lp p (m - 1 - k) else Lp p k := by
  have e := getElem?_mirror_all (xs := p) (i := 0) (j := m) (by rw [h.size]; exact hm) k
  have hs := (rev_pm h 0 m).size
  unfold kas_rev at hs ⊢
  have e1 : (mirror p 0 m ((m - 0) / 2))[k]? = some (Lp (mirror p 0 m ((m - 0) / 2)) k) := by
    simp only [Lp, Array.getD, hs, hk, dif_pos, Array.getElem?_eq_getElem]
    rfl
  rw [e1] at e
  have g : ∀ q, q < n → p[q]? = some (Lp p q) := fun q hq => by
    simp only [Lp, Array.getD, h.size, hq, dif_pos, Array.getElem?_eq_getElem]
    rfl
  by_cases hkm : k < m
  · rw [if_pos ⟨Nat.zero_le _, hkm⟩, g _ (by omega)] at e
    rw [if_pos hkm]
    have := Option.some.inj e
    rw [this]
    congr 1
    omega
  · rw [if_neg (by omega), g _ hk] at e
    rw [if_neg hkm]
    exact Option.some.inj e
section
variable {n : Nat} {lt : Nat → Nat → Bool} (O : Ord n lt) {p : Array Nat}
theorem rev_up (h : Pm n p) {m : Nat} (hm : m ≤ n) (hd : Dn lt p m) : Up lt (kas_rev p 0 m) m := by
  intro i j hij hj
  rw [rev_get h hm (by omega), rev_get h hm (by omega), if_pos (by omega), if_pos hj]
  exact hd _ _ (by omega) (by omega)
include O
theorem tail3_ok (h : Pm n p) {m : Nat} (h1 : 1 ≤ m) (hm : m ≤ n) (hd : Dn lt p m) {Q : Nat × Array Nat → Prop} (hQ : ∀ m' p', Pm n p' → 1 ≤ m' → m' ≤ n → Up lt p' m' → Q (m', p')) : KOk n lt (kas_tail3 m n p) Q := by
  refine kok_bind (asc_ok O (rev_pm h 0 m) _ m h1 (by omega) (rev_up h hm hd) fun m' a b c _ => ?_)
  exact hQ m' _ (rev_pm h 0 m) (by omega) (by omega) c
theorem descPart_ok (h : Pm n p) {m : Nat} (h1 : 1 ≤ m) (hm : m + 1 ≤ n) (hd : Dn lt p (m + 1)) {Q : Nat × Array Nat → Prop} (hQ : ∀ m' p', Pm n p' → 1 ≤ m' → m' ≤ n → Up lt p' m' → Q (m', p')) : KOk n lt (kas_descPart m n p) Q := by
  refine kok_bind (desc_ok O h _ (m + 1) (by omega) (by omega) hd fun m' a b c => ?_)
  dsimp only
  rw [if_neg (by omega)]
  exact tail3_ok O h (by omega) (by omega) c hQ
theorem count_ok (h : Pm n p) (hn : 1 ≤ n) (asym : ∀ i j, i < n → j < n → lt i j = true → lt j i = false) {Q : Nat × Array Nat → Prop} (hQ : ∀ m' p', Pm n p' → 1 ≤ m' → m' ≤ n → Up lt p' m' → Q (m', p')) : KOk n lt (kas_count n p) Q := by
  refine kok_bind (asc_ok O h _ 1 (by omega) (by omega) (fun i j a b => by omega) fun m a b c d => ?_)
  by_cases e : m = n
  · subst e
    rw [if_pos (by simp)]
    exact hQ m p h a (by omega) c
  · rw [if_neg (by simpa using e)]
    by_cases hm : m > 1
    · rw [if_pos hm]
      refine ⟨h.lt (by omega), h.lt (show m - 1 < n by omega), ?_⟩
      rw [c 0 (m - 1) (by omega) (by omega)]
      dsimp only
      rw [if_pos rfl]
      exact hQ m p h a (by omega) c
    · rw [if_neg hm]
      have hm1 : m = 1 := by omega
      subst hm1
      have hp := rev_pm h 0 1
      have g : ∀ k, k < n → Lp (kas_rev p 0 1) k = Lp p k := fun k hk => by
        rw [rev_get h hn hk]
        split
        · congr 1; omega
        · rfl
      refine descPart_ok O hp (by omega) (by omega) (fun i j hij hj => ?_) hQ
      have hi0 : i = 0 := by omega
      have hj1 : j = 1 := by omega
      subst hi0; subst hj1
      rw [g _ (by omega), g _ (by omega)]
      exact d (by omega)
theorem place_ok (h : Pm n p) {k : Nat} (hk : k < n) {Q : Nat → Prop} (hu : Up lt p k) : ∀ (f l r : Nat), l ≤ r → r ≤ k → r - l ≤ f → (∀ i, i < l → lt (Lp p i) (Lp p k) = true) → (∀ i, r ≤ i → i < k → lt (Lp p k) (Lp p i) = true) →
    (∀ l', l' ≤ k → (∀ i, i < l' → lt (Lp p i) (Lp p k) = true) → (∀ i, l' ≤ i → i < k → lt (Lp p k) (Lp p i) = true) → Q l') → KOk n lt (kas_place p k f l r) Q
  | 0, l, r, h1, h2, h3, hlo, hhi, hQ => by
    have : l = r := by omega
    subst this
    exact hQ l h2 hlo hhi
  | f + 1, l, r, h1, h2, h3, hlo, hhi, hQ => by
    unfold kas_place
    by_cases e : l ≥ r
    · rw [if_pos e]
      have : l = r := by omega
      subst this
      exact hQ l h2 hlo hhi
    · rw [if_neg e]
      refine ⟨h.lt hk, h.lt (show (l + r) / 2 < n by omega), ?_⟩
      cases q : lt (Lp p k) (Lp p ((l + r) / 2)) with
      | true =>
        dsimp only
        rw [if_pos rfl]
        refine place_ok h hk hu f l ((l + r) / 2) (by omega) (by omega) (by omega) hlo (fun i a b => ?_) hQ
        by_cases e : i = (l + r) / 2
        · rw [e]; exact q
        · exact O.trans _ _ _ (h.lt hk) (h.lt (by omega)) (h.lt (by omega)) q (hu _ i (by omega) b)
      | false =>
        dsimp only
        rw [if_neg (by simp)]
        have q' := O.total _ _ (h.lt hk) (h.lt (show (l + r) / 2 < n by omega)) (h.ne hk (by omega) (by omega)) q
        refine place_ok h hk hu f ((l + r) / 2 + 1) r (by omega) h2 (by omega) (fun i a => ?_) hhi hQ
        by_cases e : i = (l + r) / 2
        · rw [e]; exact q'
        · exact O.trans _ _ _ (h.lt (by omega)) (h.lt (by omega)) (h.lt hk) (hu i _ (by omega) (by omega)) q'
end
theorem bub_pm {n : Nat} {p : Array Nat} (h : Pm n p) (k d : Nat) : Pm n (bubble p k d) := ⟨((Array.perm_iff_toList_perm.mp (bubble_perm p k d))).trans h.perm⟩
theorem bub_get {n : Nat} {p : Array Nat} (h : Pm n p) {k d : Nat} (hk : k < n) (hd : d ≤ k) {i : Nat} (hi : i < n) : Lp (bubble p k d) i = if i = k - d then Lp p k else if k - d < i ∧ i ≤ k then Lp p (i - 1) else Lp p i := by
  have e := getElem?_bubble (xs := p) (src := k) (by rw [h.size]; exact hk) d hd i
  have hs := (bub_pm h k d).size
  have e1 : (bubble p k d)[i]? = some (Lp (bubble p k d) i) := by
    simp only [Lp, Array.getD, hs, hi, dif_pos, Array.getElem?_eq_getElem]
    rfl
  have g : ∀ q, q < n → p[q]? = some (Lp p q) := fun q hq => by
    simp only [Lp, Array.getD, h.size, hq, dif_pos, Array.getElem?_eq_getElem]
    rfl
  rw [e1] at e
  by_cases h1 : i = k - d
  · rw [if_pos h1, g _ hk] at e
    rw [if_pos h1]; exact Option.some.inj e
  · rw [if_neg h1] at e ⊢
    by_cases h2 : k - d < i ∧ i ≤ k
    · rw [if_pos h2, g _ (by omega)] at e
      rw [if_pos h2]; exact Option.some.inj e
    · rw [if_neg h2, g _ hi] at e
      rw [if_neg h2]; exact Option.some.inj e
theorem bin_ok {n : Nat} {lt : Nat → Nat → Bool} (O : Ord n lt) {Q : Array Nat → Prop} (hQ : ∀ p, Pm n p → Up lt p n → Q p) : ∀ (f : Nat) (p : Array Nat) (k : Nat), Pm n p → k + f = n → Up lt p k → KOk n lt (kas_bin f p k) Q
  | 0, p, k, h, hk, hu => by
    have : k = n := by omega
    subst this
    exact hQ p h hu
  | f + 1, p, k, h, hk, hu => by
    refine kok_bind (place_ok O h (show k < n by omega) hu k 0 k (by omega) (by omega) (by omega) (fun i q => by omega) (fun i a b => by omega) fun l hl hlo hhi => ?_)
    refine bin_ok O hQ f _ (k + 1) (bub_pm h _ _) (by omega) fun i j hij hj => ?_
    rw [bub_get h (by omega) (by omega) (by omega), bub_get h (by omega) (by omega) (by omega), show k - (k - l) = l by omega]
    by_cases h1 : i = l
    · rw [if_pos h1, if_neg (by omega), if_pos (by omega)]
      exact hhi _ (by omega) (by omega)
    · rw [if_neg h1]
      by_cases h2 : j = l
      · rw [if_pos h2, if_neg (by omega)]
        exact hlo _ (by omega)
      · rw [if_neg h2]
        by_cases h3 : l < i ∧ i ≤ k
        · rw [if_pos h3, if_pos (by omega)]
          exact hu _ _ (by omega) (by omega)
        · rw [if_neg h3]
          by_cases h4 : l < j ∧ j ≤ k
          · rw [if_pos h4]
            exact hu _ _ (by omega) (by omega)
          · rw [if_neg h4]
            exact hu _ _ (by omega) (by omega)
theorem sort_ok {n : Nat} {lt : Nat → Nat → Bool} (O : Ord n lt) (hn : 1 ≤ n) (asym : ∀ i j, i < n → j < n → lt i j = true → lt j i = false) {Q : Array Nat → Prop} (hQ : ∀ p, Pm n p → Up lt p n → Q p) : KOk n lt (kas_sort n) Q := by
  have h0 : Pm n (List.toArray (List.range n)) := ⟨List.Perm.refl _⟩
  refine kok_bind (count_ok O h0 hn asym fun m p h a b c => ?_)
  dsimp only
  split
  · rw [show max m 1 = m by omega]
    exact bin_ok O hQ _ p m h (by omega) c
  · have : m = n := by omega
    subst this
    exact hQ p h c
end Mine
end
section
namespace Mine
section
variable {prog : Program} {w : World} {A : Around} {E : Value → Shared → Prop} {s : Shared} {h₀ : Heap} {L : Addr} {m : Str → Option Value} {news : Led}
theorem sort_short {a : Addr} {vs : List Value} {n : Nat} {P : PySem.Fin → Shared → Prop} (ho : s.heap.get? a = some (seqObj "list" vs.toArray n)) (h2 : vs.length < 2)
    (h : ∀ h' c, (∀ b o, b ≠ a → s.heap.get? b = some o → h'.get? b = some o) → h'.get? a = some (seqObj "list" vs.toArray c) → P (.done (.ret .none)) { s with heap := h' }) :
    wpAny (model prog w) A (Builtin.«list.sort» ⟨[.ref a], []⟩) P E s := by
  have ha : a < s.heap.objs.size := Heap.lt_size ho
  obtain ⟨e1, ho1⟩ : ∃ e1, (s.heap.update a (Obj.mapSeq fun _ => (#[] : Array Value))).get? a = some (seqObj "list" #[] e1) := ⟨_, get?_update_seq ho fun _ => #[]⟩
  have ho2 : (((s.heap.update a (Obj.mapSeq fun _ => (#[] : Array Value))).push (seqObj "tuple" vs.toArray 0)).push (seqObj "list" #[] 0)).get? a = some (seqObj "list" #[] e1) :=
    Heap.get?_push_of_some _ (Heap.get?_push_of_some _ ho1)
  obtain ⟨c, hc⟩ : ∃ c, ((((s.heap.update a (Obj.mapSeq fun _ => (#[] : Array Value))).push (seqObj "tuple" vs.toArray 0)).push (seqObj "list" #[] 0)).update a (Obj.mapSeq fun _ => vs.toArray)).get? a = some (seqObj "list" vs.toArray c) := ⟨_, get?_update_seq ho2 fun _ => vs.toArray⟩
  have keep : ∀ b o, b ≠ a → s.heap.get? b = some o → ((((s.heap.update a (Obj.mapSeq fun _ => (#[] : Array Value))).push (seqObj "tuple" vs.toArray 0)).push (seqObj "list" #[] 0)).update a (Obj.mapSeq fun _ => vs.toArray)).get? b = some o := fun b o hb e => by
    rw [Heap.get?_update_ne _ _ _ _ hb]
    exact Heap.get?_push_of_some _ (Heap.get?_push_of_some _ ((Heap.get?_update_ne _ _ _ _ hb).trans e))
  have hsz : vs.toArray.size < 2 := by rw [List.size_toArray]; exact h2
  rw [list_sort_plain]
  refine wpAny_bind (listItems_at ho rfl ?_)
  refine wpAny_bind (listUpdate_at ho rfl ?_ (by rw [sizeLine_eq]; omega) (Nat.zero_le _))
  refine wpAny_bind (seqEpoch_at ho1 rfl ?_)
  refine wpAny_bind (wpAny_newTuple ?_ (by show vs.length ≤ _; rw [sizeLine_eq]; omega))
  refine wpAny_bind (wpAny_newList ?_ (Nat.zero_le _))
  refine wpAny_holding ?_
  dsimp only
  rw [if_pos hsz, if_pos hsz]
  refine wpAny_bind (wpAny_pure ?_)
  rw [StateT.run_pure]
  refine wpAny_bind (wpAny_pure ?_)
  dsimp only
  have hout : (arrOf (SortSt.mk' general' (vs.toArray.zip vs.toArray) #[] 7 none)).map (·.2) = vs.toArray := by
    show (vs.toArray.zip vs.toArray).map (·.2) = vs.toArray
    apply Array.toList_inj.mp
    simp [List.map_snd_zip]
  rw [hout]
  refine wpAny_bind (seqEpoch_at ho2 rfl ?_)
  refine wpAny_bind (listUpdate_at ho2 rfl ?_ (Nat.zero_le _) (by rw [sizeLine_eq]; omega))
  show wpAny (model prog w) A _ P E _
  simp only [bne_self_eq_false, Bool.false_eq_true, if_false]
  refine wpAny_pure (h _ c keep hc)

theorem sorted_short {l : Addr} {vs : List Value} {Q : Value → Shared → Prop} (F : Fr h₀ L s.heap m) (N : News h₀ L s.heap news) (hl : s.heap.IsList l vs.toArray) (h2 : vs.length < 2)
    (h : ∀ D c h', Fr h₀ L h' m → News h₀ L h' ((D, W.listOf vs.toArray c) :: news) → (∀ q ∈ news, q.1 < D) → Q (.ref D) { s with heap := h' }) :
    wpAny (model prog w) A (call (.builtin "sorted") [.ref l]) Q E s := by
  refine Calls.call_function_entry kind_sorted plain_sorted entry_sorted (args_sorted1 _) ?_
  unfold Builtin.«sorted»
  refine wpAny_bind (m := checkCount "sorted" 1 1 _) (wpAny_pure ?_)
  refine wpAny_bind (collect_list hl ?_ (by rw [sizeLine_eq]; omega))
  refine wpAny_bind (wpAny_newList ?_ (by rw [sizeLine_eq]; omega))
  have hsz : ((s.heap.push (seqObj "list" #[] 0)).update s.heap.objs.size (Obj.mapSeq (· ++ vs.toArray))).objs.size = s.heap.objs.size + 1 := by
    rw [Heap.size_update, size_push']
  have hoL : (((s.heap.push (seqObj "list" #[] 0)).update s.heap.objs.size (Obj.mapSeq (· ++ vs.toArray))).push (seqObj "list" vs.toArray 0)).get? (s.heap.objs.size + 1) = some (seqObj "list" vs.toArray 0) := by
    rw [← hsz]; exact Heap.get?_push_size _ rfl
  have keep : ∀ b o, s.heap.get? b = some o → (((s.heap.push (seqObj "list" #[] 0)).update s.heap.objs.size (Obj.mapSeq (· ++ vs.toArray))).push (seqObj "list" vs.toArray 0)).get? b = some o := fun b o q => by
    have hlt : b < s.heap.objs.size := Heap.lt_size q
    refine Heap.get?_push_of_some _ ((Heap.get?_update_ne _ _ _ _ (Nat.ne_of_lt hlt)).trans (Heap.get?_push_of_some _ q))
  have hL : L < s.heap.objs.size := F.ns.lt
  show wpAny _ _ _ _ _ { s with heap := ((s.heap.push (seqObj "list" #[] 0)).update s.heap.objs.size (Obj.mapSeq (· ++ vs.toArray))).push (seqObj "list" vs.toArray 0) }
  rw [hsz]
  refine wpAny_bind (wpAny_holding (wpAny_call_entry slot_list_sort ⟨_, hoL, rfl⟩ entry_list_sort ?body (args_list_sort _)))
  case body =>
    refine sort_short hoL h2 fun h' c k ho' => ⟨_, rfl, wpAny_pure ⟨_, rfl, ?_⟩⟩
    have up : ∀ b o, s.heap.get? b = some o → h'.get? b = some o := fun b o e => k b o (Nat.ne_of_lt (Nat.lt_succ_of_lt (Heap.lt_size e))) (keep b o e)
    refine h _ c h' (F.keeps up) (fun q hq => ?_) fun q hq => Nat.lt_succ_of_lt (Heap.lt_size (N q hq).1)
    rcases List.mem_cons.mp hq with rfl | hq
    · exact ⟨ho', Nat.ne_of_gt (Nat.lt_succ_of_lt hL), Heap.get?_none_of_le (Nat.le_trans F.above (Nat.le_succ_of_le (Nat.le_of_lt hL)))⟩
    · exact ⟨up _ _ (N q hq).1, (N q hq).2⟩
end
end Mine
end
section
namespace Mine
/-- a row: time, order, key -/
abbrev Row := Int × Int × Int
abbrev rowL (r : Row) : List Int := [r.1, r.2.1, r.2.2]
abbrev RowV (news : Led) (v : Value) (r : Row) : Prop := TupI news v (rowL r)
abbrev RowsAre (news : Led) (vs : List Value) (R : List Row) : Prop := Paired (RowV news) vs R
theorem paired_mono {α β : Type} {F G : α → β → Prop} (h : ∀ a b, F a b → G a b) : ∀ {l : List α} {r : List β}, Paired F l r → Paired G l r
  | _, _, .nil => .nil
  | _, _, .cons x t => .cons (h _ _ x) (paired_mono h t)
theorem paired_at {α β : Type} {F : α → β → Prop} : ∀ {l : List α} {r : List β} {i : Nat} {v : α}, Paired F l r → l[i]? = some v → ∃ x, r[i]? = some x ∧ F v x
  | _, _, 0, _, .cons x t, h => ⟨_, rfl, by simp at h; subst h; exact x⟩
  | _, _, i + 1, _, .cons x t, h => by simpa using paired_at (i := i) t (by simpa using h)
theorem paired_map {α β : Type} {F : α → β → Prop} {f : Nat → α} {g : Nat → β} : ∀ {p : List Nat}, (∀ i ∈ p, F (f i) (g i)) → Paired F (p.map f) (p.map g)
  | [], _ => .nil
  | i :: p, h => .cons (h i (.head _)) (paired_map fun j hj => h j (.tail _ hj))
def lexB (a b : Row) : Bool := if (a.1 == b.1) = true then (if (a.2.1 == b.2.1) = true then (if (a.2.2 == b.2.2) = true then false else decide (a.2.2 < b.2.2)) else decide (a.2.1 < b.2.1)) else decide (a.1 < b.1)
theorem lexB_iff {a b : Row} : lexB a b = true ↔ a.1 < b.1 ∨ (a.1 = b.1 ∧ (a.2.1 < b.2.1 ∨ (a.2.1 = b.2.1 ∧ a.2.2 < b.2.2))) := by
  unfold lexB
  split
  · rename_i h1
    have h1 : a.1 = b.1 := by simpa using h1
    split
    · rename_i h2
      have h2 : a.2.1 = b.2.1 := by simpa using h2
      split
      · rename_i h3
        have h3 : a.2.2 = b.2.2 := by simpa using h3
        simp only [Bool.false_eq_true, false_iff]; omega
      · simp only [decide_eq_true_eq]; omega
    · rename_i h2
      have h2 : a.2.1 ≠ b.2.1 := by simpa using h2
      simp only [decide_eq_true_eq]; omega
  · rename_i h1
    have h1 : a.1 ≠ b.1 := by simpa using h1
    simp only [decide_eq_true_eq]; omega
theorem lexB_trans {a b c : Row} (h : lexB a b = true) (h' : lexB b c = true) : lexB a c = true := by rw [lexB_iff] at *; omega
theorem lexB_total {a b : Row} (hn : a ≠ b) (h : lexB a b = false) : lexB b a = true := by
  have h2 : ¬ lexB a b = true := by rw [h]; decide
  rw [lexB_iff] at *
  have h3 : ¬ (a.1 = b.1 ∧ a.2.1 = b.2.1 ∧ a.2.2 = b.2.2) := fun ⟨x, y, z⟩ => hn (Prod.ext x (Prod.ext y z))
  omega
theorem lexB_asym {a b : Row} (h : lexB a b = true) : lexB b a = false := by
  cases e : lexB b a with
  | false => rfl
  | true => rw [lexB_iff] at h e; omega
section
variable {prog : Program} {w : World} {A : Around} {E : Value → Shared → Prop} {s : Shared} {h₀ : Heap} {L : Addr} {m : Str → Option Value} {news : Led}
theorem row_lt {x y : Value} {a b : Row} {C : Bool → Shared → Prop} (N : News h₀ L s.heap news) (hx : RowV news x a) (hy : RowV news y b) (h : C (lexB a b) s) : wpAny (model prog w) A (keyLt' (tuples' true) x y) C E s := by
  obtain ⟨xa, t1, t2, t3, n, rfl, hxm⟩ := TupI.three hx
  obtain ⟨ya, u1, u2, u3, k, rfl, hym⟩ := TupI.three hy
  refine kat_lt (N _ hxm).1 rfl (N _ hym).1 rfl ?_
  unfold lexB at h
  refine kat_cons (wpAny_eqBool_int ?_)
  cases e : (a.1 == b.1) with
  | false =>
    rw [e] at h
    refine kat_no (oneLt_int ?_)
    exact h
  | true =>
    rw [e] at h
    refine kat_yes (kat_cons (wpAny_eqBool_int ?_))
    cases e2 : (a.2.1 == b.2.1) with
    | false =>
      rw [e2] at h
      refine kat_no (kat_one _ _ (lt_int ?_))
      exact h
    | true =>
      rw [e2] at h
      refine kat_yes (kat_cons (wpAny_eqBool_int ?_))
      cases e3 : (a.2.2 == b.2.2) with
      | false =>
        rw [e3] at h
        refine kat_no (kat_one _ _ (lt_int ?_))
        exact h
      | true =>
        rw [e3] at h
        exact kat_yes (kat_nil h)
theorem rows_tups (N : News h₀ L s.heap news) : ∀ {vs : List Value} {R : List Row}, RowsAre news vs R → ∃ fs, KatTups s.heap vs fs ∧ fs.length = vs.length ∧ ∀ v ∈ fs, ∃ k t, v = Value.int k t
  | _, _, .nil => ⟨[], .nil, rfl, fun _ h => nomatch h⟩
  | _, _, .cons x t => by
    obtain ⟨fs, h1, h2, h3⟩ := rows_tups N t
    obtain ⟨xa, t1, t2, t3, n, rfl, hxm⟩ := TupI.three x
    refine ⟨_ :: fs, .cons (N _ hxm).1 rfl rfl rfl h1, by simp [h2], fun v hv => ?_⟩
    rcases List.mem_cons.mp hv with rfl | hv
    · exact ⟨_, _, rfl⟩
    · exact h3 v hv
theorem perm_map {α : Type} (d : α) (l : List α) {p : List Nat} (h : p.Perm (List.range l.length)) : (p.map fun i => l.getD i d).Perm l := by
  refine (h.map _).trans ?_
  have e : (List.range l.length).map (fun i => l.getD i d) = l := by
    apply List.ext_getElem
    · simp
    · intro i h1 h2
      simp [h2]
  rw [e]
theorem sorted_rows {l : Addr} {vs : List Value} {R : List Row} {n : Nat} {Q : Value → Shared → Prop} (F : Fr h₀ L s.heap m) (N : News h₀ L s.heap news) (hm : (l, W.listOf vs.toArray n) ∈ news) (hR : RowsAre news vs R) (hnd : R.Nodup) (h64 : R.length < 64)
    (h : ∀ D c h' vs' R', Fr h₀ L h' m → News h₀ L h' ((D, W.listOf (List.toArray vs') c) :: news) → (∀ q ∈ news, q.1 < D) → RowsAre news vs' R' → R'.Perm R → R'.Pairwise (fun a b => lexB a b = true) → Q (.ref D) { s with heap := h' }) :
    wpAny (model prog w) A (call (.builtin "sorted") [.ref l]) Q E s := by
  have hl : s.heap.IsList l vs.toArray := ⟨_, (N _ hm).1, rfl, n, rfl⟩
  have hlen := hR.length
  by_cases h2 : vs.length < 2
  · refine sorted_short F N hl h2 fun D c h' F' N' hlt => h D c h' vs R F' N' hlt hR (List.Perm.refl _) ?_
    match R, hlen with
    | [], _ => exact .nil
    | [_], _ => exact List.pairwise_singleton _ _
    | _ :: _ :: _, e => simp at e; omega
  · refine kat_sorted F N hl (by omega) (by omega) fun D e1 h' F' N' hlt => ?_
    have N2 : News h₀ L h' news := fun p hp => N' p (.tail _ hp)
    obtain ⟨fs, t1, t2, t3⟩ := rows_tups (s := { s with heap := h' }) N2 hR
    refine kat_kind (T := .type "int") t1 (by omega) (fun v hv => ?_) rfl ?_
    · obtain ⟨k, t, rfl⟩ := t3 v hv
      exact Looks.of_pure rfl
    · rw [show (Value.type "int" != Value.type "tuple") = true by decide]
      have hlt2 : ∀ i, i < vs.length → RowV news (vs.getD i Value.none) (R.getD i (0, 0, 0)) := fun i hi => by
        obtain ⟨x, h1, h2⟩ := paired_at hR (List.getElem?_eq_getElem hi)
        rw [List.getD_eq_getElem?_getD, List.getD_eq_getElem?_getD, h1, List.getElem?_eq_getElem hi]
        exact h2
      refine kok_wp (n := vs.length) (lt := fun i j => lexB (R.getD i (0, 0, 0)) (R.getD j (0, 0, 0))) (Q := fun p => Pm vs.length p ∧ Up (fun i j => lexB (R.getD i (0, 0, 0)) (R.getD j (0, 0, 0))) p vs.length)
        (fun i j C hi hj hC => row_lt N2 (hlt2 i hi) (hlt2 j hj) hC) (fun p hp => ?_) (sort_ok (Q := fun p => Pm vs.length p ∧ Up (fun i j => lexB (R.getD i (0, 0, 0)) (R.getD j (0, 0, 0))) p vs.length) (n := vs.length) (lt := fun i j => lexB (R.getD i (0, 0, 0)) (R.getD j (0, 0, 0))) ⟨fun i j k _ _ _ => lexB_trans, fun i j hi hj hij => lexB_total fun e => ?_⟩ (by omega) (fun i j _ _ => lexB_asym) fun p h1 h2 => ⟨h1, h2⟩)
      · obtain ⟨hp, hu⟩ := hp
        refine KasFin.intro F' N' (.head fun q hq => Nat.ne_of_lt (hlt q hq)) fun h2 c F3 N3 => ?_
        refine h D c h2 _ (p.toList.map fun i => R.getD i (0, 0, 0)) F3 N3 hlt ?_ ?_ ?_
        · exact paired_map fun i hi => hlt2 i (by simpa using hp.perm.mem_iff.mp hi)
        · exact perm_map _ R (by rw [← hlen]; exact hp.perm)
        · rw [List.pairwise_map, List.pairwise_iff_getElem]
          intro i j hi hj hij
          have hs := hp.size
          have hj' : j < p.size := by simpa using hj
          have := hu i j hij (by omega)
          have e1 : Lp p i = p.toList[i] := by simp [Array.getD, show i < p.size by omega]
          have e2 : Lp p j = p.toList[j] := by simp [Array.getD, hj']
          rw [e1, e2] at this
          exact this
      · have hi' : i < R.length := by omega
        have hj' : j < R.length := by omega
        rw [List.getD_eq_getElem?_getD, List.getD_eq_getElem?_getD, List.getElem?_eq_getElem hi', List.getElem?_eq_getElem hj'] at e
        exact hij ((List.getElem_inj hnd).mp e)
end
end Mine
end
section
open PySem.Calls PySem.Spec
namespace Mine
/-- a tuple of three, y the last -/
def Tup3 (news : Led) (v y : Value) : Prop := ∃ t x₁ x₂ n, v = .ref t ∧ (t, tupO [x₁, x₂, y] n) ∈ news
section
variable {prog : Program} {w : World} {A : Around} {E : Value → Shared → Prop} {s : Shared} {h₀ : Heap} {L : Addr} {m : Str → Option Value} {env : Env}
def Src3 (h₀ : Heap) (L : Addr) (m : Str → Option Value) (Q : Value → Shared → Prop) (xv : Value) (s₁ : Shared) : Prop :=
  ∃ l its nn news ys, xv = .ref l ∧ Fr h₀ L s₁.heap m ∧ News h₀ L s₁.heap news ∧ (l, W.listOf its nn) ∈ news ∧ its.size ≤ 1000 ∧ Paired (Tup3 news) its.toList ys ∧
    ∀ D h' tk, Fr h₀ L h' m → News h₀ L h' ((D, LCg.lst ys) :: news) → (∀ q ∈ news, q.1 ≠ D) → Q (.ref D) { s₁ with heap := h', toks := tk }
theorem Src3.mk {Q : Value → Shared → Prop} {s₁ : Shared} {l : Addr} {its : Array Value} {nn : Nat} {news : Led} {ys : List Value} (F : Fr h₀ L s₁.heap m) (N : News h₀ L s₁.heap news) (hl : (l, W.listOf its nn) ∈ news) (hz : its.size ≤ 1000) (hp : Paired (Tup3 news) its.toList ys)
    (h : ∀ D h' tk, Fr h₀ L h' m → News h₀ L h' ((D, LCg.lst ys) :: news) → (∀ q ∈ news, q.1 ≠ D) → Q (.ref D) { s₁ with heap := h', toks := tk }) : Src3 h₀ L m Q (.ref l) s₁ := ⟨l, its, nn, news, ys, rfl, F, N, hl, hz, hp, h⟩
theorem comp_three {iter : Expr} {x₁ x₂ x₃ : Str} {p₁ p₂ p₃ p₄ tp : Pos} {tk} {scope : Scope} {cl : List (Str × Addr)} {pos : Pos} {Q : Value → Shared → Prop} (hh : A.handled = none)
    (hclos : closureFor scope env = pure cl) (hcell : ∀ y ∈ scope.names, y.2 ≠ .cell) (hkind : scope.kind = .function)
    (hnames : ∀ y ∈ scope.names, y.2 = .local → scope.names.lookup y.1 = some .local) (hx₁ : scope.names.lookup x₁ = some .local) (hx₂ : scope.names.lookup x₂ = some .local) (hx₃ : scope.names.lookup x₃ = some .local) (hd : (x₃ == ("__debug__" : Str)) = false)
    (h : wpAny (model prog w) A (eval iter env) (Src3 h₀ L m Q) E s)
    (hs : ∀ x, foldedSetIterable iter env x = pure x := by intro _; rfl) :
    wpAny (model prog w) A (eval (.ListComp (.Name x₃ p₄) [⟨.Tuple [.Name x₁ p₁, .Name x₂ p₂, .Name x₃ p₃] tk tp, iter, [], 0⟩] scope pos) env) Q E s := by
  rw [eval_ListComp]
  refine wpAny_comprehension_free (use := none) rfl hs hclos hkind hnames (wpAny_mono h (fun xv s₁ h₁ => ?_) fun _ _ e => e)
  obtain ⟨l, its, nn, news, ys, rfl, F, N, hl, hz, hp, hQ⟩ := h₁
  have hls : s₁.heap.IsList l its := ⟨_, (N _ hl).1, rfl, nn, rfl⟩
  have hlt0 : l < s₁.heap.objs.size := Heap.lt_size (N _ hl).1
  have hlen : its.size = ys.length := by have := hp.length; rwa [Array.length_toList] at this
  refine wpAny_pyIter_list hls ?_
  generalize hI : s₁.heap.objs.size = I
  have up : ∀ b o, s₁.heap.get? b = some o → (s₁.heap.push { cls := .type "list_iterator", data := .fields #[.ref l, .int 0 0] }).get? b = some o := fun b o e => Heap.get?_push_of_some _ e
  refine wpAny_newObj_type (wpAny_newFunctionEnv hcell (by intro y hy; simp at hy) (fun h₁ hns₁ hsb₁ => ?_) hkind)
  dsimp only at hns₁ hsb₁ ⊢
  have e1 : (s₁.heap.push { cls := .type "list_iterator", data := .fields #[.ref l, .int 0 0] }).objs.size = I + 1 := by rw [Heap.size_push, hI]
  have e2 : ((s₁.heap.push { cls := .type "list_iterator", data := .fields #[.ref l, .int 0 0] }).push { cls := .type "list", dict := none, data := .seq #[] }).objs.size = I + 1 + 1 := by rw [Heap.size_push, e1]
  rw [e2] at hns₁ hsb₁
  simp only [e2]
  rw [e1]
  have old : ∀ b o, s₁.heap.get? b = some o → h₁.get? b = some o := fun b o e => by
    have hb : @LT.lt Nat _ b I := by rw [← hI]; exact Heap.lt_size e
    exact hsb₁.extBut b o (Nat.ne_of_lt (by omega)) (Heap.get?_push_of_some _ (Heap.get?_push_of_some _ (up b o e)))
  have hIt : h₁.IsListIter I l 0 := ⟨_, hsb₁.extBut _ _ (Nat.ne_of_lt (by omega)) (Heap.get?_push_of_some _ (Heap.get?_push_of_some _ (by rw [← hI]; exact Heap.get?_push_size _ rfl))), rfl, rfl⟩
  have hacc : h₁.get? (I + 1) = some (LCg.lst []) := hsb₁.extBut _ _ (Nat.ne_of_lt (by omega)) (Heap.get?_push_of_some _ (by rw [← e1]; exact Heap.get?_push_size _ rfl))
  have hLI : @LT.lt Nat _ L I := by rw [← hI]; exact F.ns.lt
  have fresh₀ : ∀ a : Nat, I ≤ a → h₀.get? a = none := fun a ha => by
    cases e : h₀.get? a with
    | none => rfl
    | some o' => have h3 : @LT.lt Nat _ a s₁.heap.objs.size := Heap.lt_size (F.keep a o' e); omega
  have nlt : ∀ p ∈ news, @LT.lt Nat _ p.1 I := fun p hp => by rw [← hI]; exact Heap.lt_size (N p hp).1
  have Wk := Walks.list (prog := prog) (w := w) (A := A) hh I l (Nat.ne_of_lt (hI ▸ hlt0)) its
  have loop : codeAny (model prog w) A (.compLoop (.ListComp (.Name x₃ p₄) [⟨.Tuple [.Name x₁ p₁, .Name x₂ p₂, .Name x₃ p₃] tk tp, iter, [], 0⟩] scope pos) 0 (.ref I) (.ref (I + 1)) (compEnvC scope cl (I + 1 + 1) env))
      (compPost (model prog w) A E none Q (.ref (I + 1)) (I + 1 + 1)) { s₁ with heap := h₁, toks := s₁.toks + ([] : List (Str × Value)).length } := by
    refine LCp.codeAny_compLoop_pair
      (fun k s' => ∃ h' tk i m', s' = { s₁ with heap := h', toks := tk } ∧ i ≤ its.size ∧ k = its.size + 1 - i ∧ (h'.IsListIter I l i ∧ h'.IsList l its) ∧ Fr h₀ L h' m ∧ h'.Ns (I + 1 + 1) m' ∧ News h₀ L h' ((I + 1, LCg.lst (ys.take i)) :: news)) ?_ (its.size + 1)
      ⟨h₁, _, 0, _, rfl, Nat.zero_le _, rfl, ⟨hIt, hls.at fun o e => old _ o e⟩, F.keeps old, hns₁, fun p hp => ?_⟩
    · rintro k s' ⟨h', tk, i, m', rfl, hi, rfl, hst', F', hn', N'⟩
      have offI : ∀ p ∈ (I + 1, LCg.lst (ys.take i)) :: news, p.1 ≠ I := fun p hp => by
        rcases List.mem_cons.mp hp with rfl | hp
        · show @Ne Nat (I + 1) I; omega
        · exact Nat.ne_of_lt (nlt p hp)
      by_cases hlt : i < its.size
      · refine Wk.item i _ _ _ hlt hst' fun v h₂ tk₂ hPv hst₂ hk₂ => ?_
        have hPv' : its.toList[i]? = some v := by rw [Array.getElem?_toList]; exact hPv
        obtain ⟨y, hy, t, a₁, a₂, nt, rfl, hmt⟩ := paired_at hp hPv'
        have N₂ := LCg.news_but N' hk₂ offI
        have ht : IsTup h₂ t #[a₁, a₂, y] := ⟨_, (N₂ _ (List.mem_cons_of_mem _ hmt)).1, rfl, nt, rfl⟩
        refine wpAny_letOwnedTupleGo_listiter hst₂.1 ?_
        refine assign_Tuple_tuple hh ht rfl rfl fun h₅ he => ?_
        have he' : ∀ b o, h₂.get? b = some o → h₅.get? b = some o := fun b o e => he b o (Nat.ne_of_lt (Heap.lt_size e)) e
        refine assignInOrder_cons (wpAny_assign_Name (wpAny_storeName_local (lookup_relabel_local hx₁) ((hn'.at' fun o e => hk₂ _ o (by simpa using (show @Ne Nat (I + 1 + 1) I by omega)) e).at' fun o e => he' _ o e) (fun h₆ hn₆ hs₆ => ?_) (by simp [compEnvC, relabel, hkind])))
        refine assignInOrder_cons (wpAny_assign_Name (wpAny_storeName_local (lookup_relabel_local hx₂) hn₆ (fun h₇ hn₇ hs₇ => ?_) (by simp [compEnvC, relabel, hkind])))
        refine assignInOrder_cons (wpAny_assign_Name (wpAny_storeName_local (lookup_relabel_local hx₃) hn₇ (fun h₃ hn₃ hs₃ => ?_) (by simp [compEnvC, relabel, hkind])))
        refine assignInOrder_nil ?_
        have old3 : ∀ b o, b ≠ I + 1 + 1 → h₂.get? b = some o → h₃.get? b = some o := fun b o hb e => hs₃.extBut b o hb (hs₇.extBut b o hb (hs₆.extBut b o hb (he' b o e)))
        rw [eval_Name _ _ _ hd]
        refine wpAny_bind (wpAny_standAt (wpAny_loadName_local (by simp [compEnvC, relabel, hkind]) (lookup_relabel_local hx₃) hn₃ (if_pos rfl) ?_))
        have hCL : @Ne Nat (I + 1 + 1) L := by omega
        have hC0 : h₀.get? (I + 1 + 1) = none := fresh₀ _ (by omega)
        have F₃ : Fr h₀ L h₃ m := ((((LCg.fr_but F' hk₂ (Nat.ne_of_lt hLI) (fresh₀ I (Nat.le_refl _))).keeps he').change hs₆ hCL hC0).change hs₇ hCL hC0).change hs₃ hCL hC0
        have zD : h₃.get? (I + 1) = some (LCg.lst (ys.take i)) := old3 _ _ (show @Ne Nat (I + 1) (I + 1 + 1) by omega) (N₂ (I + 1, _) (.head _)).1
        refine append_at (hsz := by show (ys.take i).toArray.size ≤ sizeLine; rw [List.size_toArray, List.length_take, sizeLine_eq]; omega) zD fun h₅ hs₅ hD₅ => ?_
        have up5 : ∀ (b : Addr) o, @LT.lt Nat _ b (I + 1) → h₂.get? b = some o → h₅.get? b = some o := fun b o hb e => hs₅.extBut _ _ (Nat.ne_of_lt hb) (old3 _ _ (Nat.ne_of_lt (by omega)) e)
        refine ⟨its.size + 1 - (i + 1), by omega, h₅, _, i + 1, _, rfl, hlt, rfl, ⟨?_, ?_⟩, F₃.change hs₅ (show @Ne Nat (I + 1) L by omega) (fresh₀ _ (by omega)), hn₃.sameBut hs₅ (show @Ne Nat (I + 1 + 1) (I + 1) by omega), fun p hp => ?_⟩
        · obtain ⟨o, e, c, d⟩ := hst₂.1
          exact ⟨o, up5 _ _ (Nat.lt_succ_self I) e, c, d⟩
        · exact hst₂.2.at fun o e => up5 _ _ (Nat.lt_succ_of_lt (hI ▸ hlt0)) e
        · rcases List.mem_cons.mp hp with rfl | hp
          · refine ⟨hD₅.trans (congrArg some ?_), by show @Ne Nat (I + 1) L; omega, fresh₀ _ (by show I ≤ I + 1; omega)⟩
            have h1 : (ys.take i).length = i := by rw [List.length_take]; omega
            have h2 : ys.take (i + 1) = ys.take i ++ [y] := by rw [List.take_add_one, hy]; rfl
            rw [h2]
            exact LCg.lst_snoc (ys.take i) y
          · exact ⟨up5 _ _ (Nat.lt_succ_of_lt (nlt p hp)) (N₂ p (.tail _ hp)).1, (N₂ p (.tail _ hp)).2⟩
      · obtain rfl : i = its.size := Nat.le_antisymm hi (Nat.not_lt.mp hlt)
        refine Wk.done _ _ _ hst' fun h₂ tk₂ hk₂ => ?_
        have N₂ := LCg.news_but N' hk₂ offI
        have F₂ := LCg.fr_but F' hk₂ (Nat.ne_of_lt hLI) (fresh₀ I (Nat.le_refl _))
        refine ⟨m', hn'.at' fun o e => hk₂ _ o (by simpa using (show @Ne Nat (I + 1 + 1) I by omega)) e, fun h'' hs'' => hQ _ h'' tk₂ (F₂.change hs'' (show @Ne Nat (I + 1 + 1) L by omega) (fresh₀ _ (by omega))) (fun p hp => ?_) fun q hq => Nat.ne_of_lt (Nat.lt_succ_of_lt (nlt q hq))⟩
        have ety : ys.take its.size = ys := List.take_of_length_le (by omega)
        rw [ety] at N₂
        refine ⟨hs''.extBut _ _ ?_ (N₂ p hp).1, (N₂ p hp).2⟩
        rcases List.mem_cons.mp hp with rfl | hp
        · exact Nat.ne_of_lt (Nat.lt_succ_self _)
        · exact Nat.ne_of_lt (by have := nlt p hp; omega)
    · rcases List.mem_cons.mp hp with rfl | hp
      · exact ⟨hacc, by show @Ne Nat (I + 1) L; omega, fresh₀ _ (by show I ≤ I + 1; omega)⟩
      · exact ⟨old _ _ (N p hp).1, (N p hp).2⟩
  exact codeAny_compStart_list loop (Wk.self 0 _ _ _ ⟨hIt, hls.at fun o e => old _ o e⟩ loop)
end
end Mine
end
section
local macro_rules | `(tactic| k_mem) => `(tactic| assumption)
local macro_rules | `(tactic| walk_at "getMethod ref") => `(tactic| (k_here; (with_reducible show wpAny _ _ (getMethod (Value.ref _) (PySem.Str.ofString "pop") _) _ _ _); k_dflt (refine' kob_method (knd := intKind _ _) PySem.F.slot_dict_pop ?ty ?N ?m ?d ?_; (case N => k_asm); (case m => assumption); (case d => assumption); (case ty => exact PySem.F.type_dict_pop))))
local macro_rules | `(tactic| walk_at "exec For") => `(tactic| (refine wpAny_For ?_ ?hs; (case hs => (intro _; with_unfolding_all rfl))))
local macro_rules | `(tactic| walk_at "exec For Name Tuple cons nil") => `(tactic| (refine wpAny_For ?_ ?hs; (case hs => (intro _; with_unfolding_all rfl))))
local macro_rules | `(tactic| walk_at "exec For Name Call cons nil") => `(tactic| (refine wpAny_For ?_ ?hs; (case hs => (intro _; with_unfolding_all rfl))))
local macro_rules | `(tactic| walk_at "exec For Name Call cons cons") => `(tactic| (refine wpAny_For ?_ ?hs; (case hs => (intro _; with_unfolding_all rfl))))
local macro_rules | `(tactic| walk_at "call ref") => `(tactic| (k_here; refine Mine.Stop.out ?_))
local macro_rules | `(tactic| walk_at "pyIter ref") => `(tactic| (k_here; refine Mine.Stop.out ?_))
local macro_rules | `(tactic| walk_at "compareOp In int ref") => `(tactic| (k_here; refine Mine.Stop.out ?_))
local macro_rules | `(tactic| walk_at "call builtin:dict.pop") => `(tactic| (k_here; refine Mine.Stop.out ?_))
local macro_rules | `(tactic| walk_at "call builtin:list.remove") => `(tactic| (k_here; refine Mine.Stop.out ?_))
local macro_rules | `(tactic| walk_at "call builtin:list.append") => `(tactic| (k_here; refine Mine.Stop.out ?_))
local macro_rules | `(tactic| walk_at "setItem ref int ref") => `(tactic| (k_here; refine Mine.Stop.out ?_))
local macro_rules | `(tactic| walk_at "subscriptTail") => `(tactic| (k_here; (with_reducible show wpAny _ _ (subscriptTail _ _ (Value.ref _) (Value.int (Int.fmod _ _) _)) _ _ _); refine Mine.Stop.out ?_))
local macro_rules | `(tactic| walk_at "setAttr ref") => `(tactic| (k_here; refine Mine.Stop.out ?_))
namespace Mine
section
variable {w : World} {A : Around} {E9 : Value → Shared → Prop} {s : Shared} {h₀ : Heap} {L : Addr} {m : Str → Option Value} {news : Led} {l : WLoc} {size : Nat} {E : List Ent} {P : Nat → Int → Prop} {reached : Option Int} {given : Int}
set_option maxRecDepth 100000 in
set_option maxHeartbeats 4000000 in
theorem set_given {g : Int} {t : Tok} {Q : Unit → Shared → Prop} (F : Fr h₀ L s.heap m) (X : (hd.heap_39 w.params).In h₀) (N : News h₀ L s.heap news) (WG : WheelG w news l size E P reached given)
    (h : ∀ h' news', Fr h₀ L h' m → News h₀ L h' news' → WheelG w news' l size E P reached g → Keep [l.d] news news' → Q () { s with heap := h', toks := s.toks + 2 }) :
    wpAny (model prg w) A (setAttr (.ref l.x) (Str.ofString "given") (.int g t)) Q E9 s := by
  obtain ⟨nodup, inst, ⟨h1, h2, h3, h4, h5, h6, k1, k2, k3, k4, k5, k6, ts, tg, n, rv, hrv, dict⟩, _⟩ := id WG
  have I := InstAt.of_news N inst dict
  refine set_dict (K := hd.heap_39 w.params) (C := 75) F X (news_foc N dict) I rfl ?k6 ?k7 ?k8 ?k9 ?k10
    (es' := [dE h1 "size" k1 (.int size ts), dE h2 "slots" k2 (.ref l.sl), dE h3 "late" k3 (.ref l.lt), dE h4 "entries" k4 (.ref l.en), dE h5 "reached" k5 rv, dE h6 "given" k6 (.int g t)]) (n' := n) ?k11 upd_foc (Nat.le_of_ble_eq_true rfl) ?_
  case k6 => k_is
  case k7 => k_is
  case k8 => k_is
  case k9 => k_is
  case k10 => with_unfolding_all rfl
  case k11 => with_unfolding_all rfl
  intro h' F' N'
  exact h h' _ F' N' (WG.setD (uq N) hrv) (Keep.refl.focus (by simp))
set_option maxRecDepth 100000 in
set_option maxHeartbeats 4000000 in
theorem set_reached {r : Int} {t : Tok} {Q : Unit → Shared → Prop} (F : Fr h₀ L s.heap m) (X : (hd.heap_39 w.params).In h₀) (N : News h₀ L s.heap news) (WG : WheelG w news l size E P reached given)
    (h : ∀ h' news', Fr h₀ L h' m → News h₀ L h' news' → WheelG w news' l size E P (some r) given → Keep [l.d] news news' → Q () { s with heap := h', toks := s.toks + 2 }) :
    wpAny (model prg w) A (setAttr (.ref l.x) (Str.ofString "reached") (.int r t)) Q E9 s := by
  obtain ⟨nodup, inst, ⟨h1, h2, h3, h4, h5, h6, k1, k2, k3, k4, k5, k6, ts, tg, n, rv, hrv, dict⟩, _⟩ := id WG
  have I := InstAt.of_news N inst dict
  refine set_dict (K := hd.heap_39 w.params) (C := 75) F X (news_foc N dict) I rfl ?k6 ?k7 ?k8 ?k9 ?k10
    (es' := [dE h1 "size" k1 (.int size ts), dE h2 "slots" k2 (.ref l.sl), dE h3 "late" k3 (.ref l.lt), dE h4 "entries" k4 (.ref l.en), dE h5 "reached" k5 (.int r t), dE h6 "given" k6 (.int given tg)]) (n' := n) ?k11 upd_foc (Nat.le_of_ble_eq_true rfl) ?_
  case k6 => k_is
  case k7 => k_is
  case k8 => k_is
  case k9 => k_is
  case k10 => with_unfolding_all rfl
  case k11 => with_unfolding_all rfl
  intro h' F' N'
  exact h h' _ F' N' (WG.setD (uq N) (.some r t)) (Keep.refl.focus (by simp))
end
end Mine
end
section
local macro_rules | `(tactic| k_mem) => `(tactic| assumption)
local macro_rules | `(tactic| walk_at "getMethod ref") => `(tactic| (k_here; (with_reducible show wpAny _ _ (getMethod (Value.ref _) (PySem.Str.ofString "pop") _) _ _ _); k_dflt (refine' kob_method (knd := intKind _ _) PySem.F.slot_dict_pop ?ty ?N ?m ?d ?_; (case N => k_asm); (case m => assumption); (case d => assumption); (case ty => exact PySem.F.type_dict_pop))))
local macro_rules | `(tactic| walk_at "exec For") => `(tactic| (refine wpAny_For ?_ ?hs; (case hs => (intro _; with_unfolding_all rfl))))
local macro_rules | `(tactic| walk_at "exec For Name Tuple cons nil") => `(tactic| (refine wpAny_For ?_ ?hs; (case hs => (intro _; with_unfolding_all rfl))))
local macro_rules | `(tactic| walk_at "exec For Name Call cons nil") => `(tactic| (refine wpAny_For ?_ ?hs; (case hs => (intro _; with_unfolding_all rfl))))
local macro_rules | `(tactic| walk_at "exec For Name Call cons cons") => `(tactic| (refine wpAny_For ?_ ?hs; (case hs => (intro _; with_unfolding_all rfl))))
local macro_rules | `(tactic| walk_at "call ref") => `(tactic| (k_here; refine Mine.Stop.out ?_))
local macro_rules | `(tactic| walk_at "pyIter ref") => `(tactic| (k_here; refine Mine.Stop.out ?_))
local macro_rules | `(tactic| walk_at "compareOp In int ref") => `(tactic| (k_here; refine Mine.Stop.out ?_))
local macro_rules | `(tactic| walk_at "call builtin:dict.pop") => `(tactic| (k_here; refine Mine.Stop.out ?_))
local macro_rules | `(tactic| walk_at "call builtin:list.remove") => `(tactic| (k_here; refine Mine.Stop.out ?_))
local macro_rules | `(tactic| walk_at "call builtin:list.append") => `(tactic| (k_here; refine Mine.Stop.out ?_))
local macro_rules | `(tactic| walk_at "setItem ref int ref") => `(tactic| (k_here; refine Mine.Stop.out ?_))
local macro_rules | `(tactic| walk_at "subscriptTail") => `(tactic| (k_here; (with_reducible show wpAny _ _ (subscriptTail _ _ (Value.ref _) (Value.int (Int.fmod _ _) _)) _ _ _); refine Mine.Stop.out ?_))
namespace Mine
set_option maxRecDepth 100000 in
set_option maxHeartbeats 8000000 in
theorem cancel_ctr (w : World) (l : WLoc) (size : Nat) (E : List Ent) (reached : Option Int) (given key : Int) (tkk : Tok) (hE : E.length ≤ 50) :
    Ctr 1 w 48 [.ref l.x, .int key tkk] (fun news => WheelIn w news l size E reached given)
      (fun news r news' => r = .none ∧ WheelIn w news' l size (dropKey E key) reached given ∧ Keep l.muts news news') := by
  unfold Ctr
  intro p loose mean mg mb dp un gd cn cs a ccd cl outer A₀ base h₀ L m news s Q E9 B F X N T hk hW hd9 hu9 hret
  have WG : WheelG w news l size E (LieAt size E reached) reached given := hW
  obtain ⟨nodup, inst, ⟨h1, h2, h3, h4, h5, h6, k1, k2, k3, k4, k5, k6, ts, tg, n, rv, hrv, dict⟩, ⟨ns, slots⟩, size1, size9, len, lo, lists, ⟨kvs, o, hen, hdo, hents⟩, keys⟩ := hW
  refine wpAny_call ?_
  k_dflt ktr_enter
  rename_i g1 L1 hp1 FG1 F1 N1 B1 X1 T1
  have F1' : Fr g1 L1 hp1 (fun y => List.lookup y [(Str.ofString "key", Value.int key tkk), (Str.ofString "self", Value.ref l.x)]) := F1
  clear F1
  repeat' (first | (k_unfold; (try dsimp only)) | walk1)
  by_cases hin : key ∈ E.map (·.1)
  · obtain ⟨⟨key', t, od⟩, hmem, he⟩ := List.mem_map.mp hin
    replace he : key' = key := he
    subst he
    obtain ⟨v, hv, hvt⟩ := hents.some keys hmem
    refine Stop.mk (kda_in (by k_asm) hen hdo lo (intKind_is _ _ _ _) true (by rw [hv]; rfl) ?_)
    repeat' (first | (k_unfold; (try dsimp only)) | walk1)
    refine Stop.mk (dict_pop (by k_asm) (by k_asm) hen hdo hv (by rw [hents.len]; omega) ?_)
    intro h2 o2 F2 N2 hd2
    have W2 := WG.setEn (o' := o2) (uq N) hd2 (hents.without (k := key')) (dropKey_keys keys)
    have K2 : Keep l.muts news ((l.en, o2) :: Foc news l.en) := Keep.refl.focus (by simp [WLoc.muts])
    obtain ⟨b, t1, t2, nn, rfl, hb⟩ := hvt.two
    have hb2 : (b, tupO [.int t t1, .int od t2] nn) ∈ (l.en, o2) :: Foc news l.en := .tail _ (foc_cls (uq N) hen hb (by rw [dictOf_cls hdo]; simp))
    generalize (l.en, o2) :: Foc news l.en = news2 at N2 W2 K2 hb2
    clear WG inst dict slots lists hen hdo hents hb hvt
    have WG := W2
    obtain ⟨nodup, inst, ⟨h1, h2, h3, h4, h5, h6, k1, k2, k3, k4, k5, k6, ts, tg, n, rv, hrv, dict⟩, ⟨ns, slots⟩, size1, size9, len, lo, lists, ⟨kvs, o, hen, hdo, hents⟩, keys2⟩ := W2
    try dsimp only
    repeat' (first | (k_unfold; (try dsimp only)) | walk1)
    obtain ⟨aj, haj⟩ := WG.slot_at t
    generalize hj : (t % (size : Int)).toNat = j at haj
    refine Stop.mk (slot_item (by k_asm) WG (by rw [hj]; exact haj) ?_)
    repeat' (first | (k_unfold; (try dsimp only)) | walk1)
    rename Fr _ _ _ _ => F3
    rename News _ _ _ _ => N3
    rename Addr => tup
    refine Stop.mk ?_
    refine iter_tuple (its := #[Value.ref l.lt, Value.ref aj]) (nn := 0) (L := L1) rfl rfl F3 N3 (.head _)
      (fun i m' nw => ∃ (P' : Nat → Int → Prop) (u : Option Value), WheelG w nw l size (dropKey E key') P' reached given ∧ (∀ q k, P' q k ↔ LieAt size E reached q k ∧ ¬ (k = key' ∧ q ∈ [0, j + 1].take i)) ∧ (tup, tupO [Value.ref l.lt, Value.ref aj] 0) ∈ nw ∧ Keep l.muts news nw ∧
        m' = fun y => if y = Str.ofString "keys" then u else if y = Str.ofString "order" then some (Value.int od t2) else if y = Str.ofString "time" then some (Value.int t t1) else List.lookup y [(Str.ofString "key", Value.int key' tkk), (Str.ofString "self", Value.ref l.x)]) ?h0 ?hJS ?step ?done
    case h0 => exact ⟨_, none, WG.sub (fun _ hp => .tail _ hp), fun q k => by simp, .head _, K2.cons, by
      funext y
      by_cases e : y = Str.ofString "keys"
      · subst e; rfl
      · rw [if_neg e]⟩
    case hJS => rintro i m' nw ⟨P', u, _, _, h3, _⟩; exact h3
    case step =>
      clear WG inst dict slots lists hen hdo hents
      rintro i v m₁ nw hp2 tk2 I io hv2 hc ⟨P', u, WG, hP', htup, hK, rfl⟩ hoff F4 N4
      obtain ⟨a, q, rfl, hq, hqi⟩ : ∃ a q, v = Value.ref a ∧ (l.lt :: l.ss)[q]? = some a ∧ q = [0, j + 1].getD i 0 ∧ i < 2 := by
        match i, hv2 with
        | 0, e => exact ⟨l.lt, 0, by simpa using e.symm, rfl, rfl, by decide⟩
        | 1, e => exact ⟨aj, j + 1, by simpa using e.symm, by simpa using haj, rfl, by decide⟩
        | i + 2, e => simp at e
      obtain ⟨hqi, hi2⟩ := hqi
      obtain ⟨ns2, hl2, hnd2, hz2, hk2⟩ := WG.lists q a hq
      have hP2 : ∀ q' k, (if q' = q then P' q' k ∧ k ≠ key' else P' q' k) ↔ LieAt size E reached q' k ∧ ¬ (k = key' ∧ q' ∈ [0, j + 1].take (i + 1)) := by
        intro q' k
        rw [hP']
        match i, hi2, hqi with
        | 0, _, e =>
          replace e : q = 0 := e
          subst e
          by_cases h1 : q' = 0 <;> simp [h1]
        | 1, _, e =>
          replace e : q = j + 1 := e
          subst e
          by_cases h1 : q' = j + 1 <;> simp [h1]
      have U4 := uq N4
      have WG1 := WG.sub (news' := (I, io) :: nw) (fun _ hp => .tail _ hp)
      have hmap : ∀ u u' : Option Value, (fun y => if y = Str.ofString "keys" then u' else if y = Str.ofString "keys" then u else if y = Str.ofString "order" then some (Value.int od t2) else if y = Str.ofString "time" then some (Value.int t t1) else List.lookup y [(Str.ofString "key", Value.int key' tkk), (Str.ofString "self", Value.ref l.x)]) = (fun y => if y = Str.ofString "keys" then u' else if y = Str.ofString "order" then some (Value.int od t2) else if y = Str.ofString "time" then some (Value.int t t1) else List.lookup y [(Str.ofString "key", Value.int key' tkk), (Str.ofString "self", Value.ref l.x)]) := by
        intro u u'
        funext y
        by_cases e : y = Str.ofString "keys"
        · rw [if_pos e, if_pos e]
        · rw [if_neg e, if_neg e, if_neg e]
      repeat' (first | (k_unfold; (try dsimp only)) | walk1)
      by_cases hk : key' ∈ ns2
      · obtain ⟨vs2, n2, hm2, hi3⟩ := hl2
        have hl3 : IntL ((I, io) :: nw) a ns2 := ⟨vs2, n2, .tail _ hm2, hi3⟩
        refine Stop.mk (intL_in (by k_asm) hl3 (decide_eq_true hk) ?_)
        repeat' (first | (k_unfold; (try dsimp only)) | walk1)
        refine Stop.mk (intL_remove (by k_asm) (by k_asm) hl3 hk (by omega) ?_)
        intro hp3 vs3 n3 F6 N6 hi6
        repeat' (first | (k_unfold; (try dsimp only)) | walk1)
        rw [hmap] at F6
        have hne : a ≠ I := hoff _ hm2
        have WG2 := WG1.setList (n := n3) (vs := vs3) (P' := fun q' k => if q' = q then P' q' k ∧ k ≠ key' else P' q' k) U4 hq hi6 (hnd2.erase key') (by have := List.length_erase_of_mem hk; omega)
          (fun k => by rw [if_pos rfl, hnd2.mem_erase_iff, hk2]; exact And.comm) (fun q' hq' => by funext k; rw [if_neg hq'])
        have hI6 : (I, io) ∈ (a, W.listOf vs3 n3) :: Foc ((I, io) :: nw) a := .tail _ (foc_mem (.head _) (Ne.symm hne))
        refine TurnEnd.intro F6 N6 hI6 ⟨_, _, WG2.foc (uq N6) hI6 (by rw [hc]; simp) (by rw [hc]; simp) (by rw [hc]; simp) (by rw [hc]; simp), hP2, ?_, ?_, rfl⟩
        · exact foc_cls (uq N6) hI6 (.tail _ (foc_cls U4 (.tail _ hm2) (.tail _ htup) (by simp))) (by rw [hc]; simp)
        · exact hK.turn hoff (Keep.refl.focus (lists_muts hq))
      · refine Stop.mk (intL_in (by k_asm) (hl2.sub (fun _ hp => .tail _ hp)) (decide_eq_false hk) ?_)
        repeat' (first | (k_unfold; (try dsimp only)) | walk1)
        rename Fr _ _ _ _ => F6
        rename News _ _ _ _ => N6
        rw [hmap] at F6
        refine TurnEnd.intro F6 N6 (.head _) ⟨_, _, (WG1.foc (uq N6) (.head _) (by rw [hc]; simp) (by rw [hc]; simp) (by rw [hc]; simp) (by rw [hc]; simp)).congrP ?_, hP2, ?_, hK.turn hoff Keep.refl, rfl⟩
        · intro q' k
          by_cases e : q' = q
          · subst e
            rw [if_pos rfl]
            exact ⟨fun h => ⟨h, fun e => hk (e ▸ (hk2 k).mpr h)⟩, fun h => h.1⟩
          · rw [if_neg e]
        · exact mem_foc.mpr ⟨.tail _ htup, hoff _ htup⟩
    case done =>
      clear WG inst dict slots lists hen hdo hents
      rintro m₁ nw hp2 tk2 ⟨P', u, WG, hP', htup, hK, rfl⟩ F4 N4
      dsimp only
      repeat' (first | (k_unfold; (try dsimp only)) | walk1)
      refine hret _ _ _ _ (by k_asm) (by k_asm) ⟨rfl, WG.congrP ?_, hK⟩
      intro q k
      rw [hP']
      replace hP' := 0
      constructor
      · rintro ⟨⟨t', o', h1, h2⟩, h3⟩
        refine ⟨t', o', mem_dropKey.mpr ⟨h1, fun e => ?_⟩, h2⟩
        replace e : k = key' := e
        subst e
        obtain ⟨rfl, rfl⟩ := ent_uniq keys hmem h1
        refine h3 ⟨rfl, ?_⟩
        show q ∈ [0, j + 1]
        unfold placeOf at h2
        rw [hj] at h2
        split at h2 <;> simp [← h2]
      · rintro ⟨t', o', h1, h2⟩
        obtain ⟨h1, h3⟩ := mem_dropKey.mp h1
        exact ⟨⟨t', o', h1, h2⟩, fun e => h3 e.1⟩
  · refine Stop.mk (kda_in (by k_asm) hen hdo lo (intKind_is _ _ _ _) false (by rw [hents.none hin]; rfl) ?_)
    repeat' (first | (k_unfold; (try dsimp only)) | walk1)
    exact hret _ _ _ _ (by k_asm) (by k_asm) ⟨rfl, by rw [dropKey_none hin]; exact WG, Keep.refl⟩
end Mine
end
section
local macro_rules | `(tactic| k_mem) => `(tactic| assumption)
local macro_rules | `(tactic| walk_at "getMethod ref") => `(tactic| (k_here; (with_reducible show wpAny _ _ (getMethod (Value.ref _) (PySem.Str.ofString "pop") _) _ _ _); k_dflt (refine' kob_method (knd := intKind _ _) PySem.F.slot_dict_pop ?ty ?N ?m ?d ?_; (case N => k_asm); (case m => assumption); (case d => assumption); (case ty => exact PySem.F.type_dict_pop))))
local macro_rules | `(tactic| walk_at "exec For") => `(tactic| (refine wpAny_For ?_ ?hs; (case hs => (intro _; with_unfolding_all rfl))))
local macro_rules | `(tactic| walk_at "exec For Name Tuple cons nil") => `(tactic| (refine wpAny_For ?_ ?hs; (case hs => (intro _; with_unfolding_all rfl))))
local macro_rules | `(tactic| walk_at "exec For Name Call cons nil") => `(tactic| (refine wpAny_For ?_ ?hs; (case hs => (intro _; with_unfolding_all rfl))))
local macro_rules | `(tactic| walk_at "exec For Name Call cons cons") => `(tactic| (refine wpAny_For ?_ ?hs; (case hs => (intro _; with_unfolding_all rfl))))
local macro_rules | `(tactic| walk_at "call ref") => `(tactic| (k_here; refine Mine.Stop.out ?_))
local macro_rules | `(tactic| walk_at "pyIter ref") => `(tactic| (k_here; refine Mine.Stop.out ?_))
local macro_rules | `(tactic| walk_at "compareOp In int ref") => `(tactic| (k_here; refine Mine.Stop.out ?_))
local macro_rules | `(tactic| walk_at "call builtin:dict.pop") => `(tactic| (k_here; refine Mine.Stop.out ?_))
local macro_rules | `(tactic| walk_at "call builtin:list.remove") => `(tactic| (k_here; refine Mine.Stop.out ?_))
local macro_rules | `(tactic| walk_at "call builtin:list.append") => `(tactic| (k_here; refine Mine.Stop.out ?_))
local macro_rules | `(tactic| walk_at "setItem ref int ref") => `(tactic| (k_here; refine Mine.Stop.out ?_))
local macro_rules | `(tactic| walk_at "subscriptTail") => `(tactic| (k_here; (with_reducible show wpAny _ _ (subscriptTail _ _ (Value.ref _) (Value.int (Int.fmod _ _) _)) _ _ _); refine Mine.Stop.out ?_))
namespace Mine
set_option maxRecDepth 100000 in
set_option maxHeartbeats 8000000 in
theorem list_of_ctr (w : World) (l : WLoc) (size : Nat) (E : List Ent) (P : Nat → Int → Prop) (reached : Option Int) (given time : Int) (tkk : Tok) :
    Ctr 1 w 41 [.ref l.x, .int time tkk] (fun news => WheelG w news l size E P reached given)
      (fun news r news' => (∃ a, (l.lt :: l.ss)[placeOf size reached time]? = some a ∧ r = .ref a) ∧ Keep [] news news') := by
  unfold Ctr
  intro p loose mean mg mb dp un gd cn cs a ccd cl outer A₀ base h₀ L m news s Q E9 B F X N T hk hW hd9 hu9 hret
  have WG := hW
  obtain ⟨nodup, inst, ⟨h1, h2, h3, h4, h5, h6, k1, k2, k3, k4, k5, k6, ts, tg, n, rv, hrv, dict⟩, ⟨ns, slots⟩, size1, size9, len, lo, lists, ⟨kvs, o, hen, hdo, hents⟩, keys⟩ := hW
  obtain ⟨aj, haj⟩ := WG.slot_at time
  refine wpAny_call ?_
  k_dflt ktr_enter
  rename_i g1 L1 hp1 FG1 F1 N1 B1 X1 T1
  have F1' : Fr g1 L1 hp1 (fun y => List.lookup y [(Str.ofString "time", Value.int time tkk), (Str.ofString "self", Value.ref l.x)]) := F1
  clear F1
  cases hrv with
  | none =>
    repeat' (first | (k_unfold; (try dsimp only)) | walk1)
    refine Stop.mk (slot_item (by k_asm) WG haj ?_)
    repeat' (first | (k_unfold; (try dsimp only)) | walk1)
    exact hret _ _ _ _ (by k_asm) (by k_asm) ⟨⟨aj, haj, rfl⟩, Keep.refl⟩
  | some r tr =>
    repeat' (first | (k_unfold; (try dsimp only)) | walk1)
    · rename time ≤ r => hle
      exact hret _ _ _ _ (by k_asm) (by k_asm) ⟨⟨l.lt, by unfold placeOf isLate; simp [hle], rfl⟩, Keep.refl⟩
    · rename ¬ time ≤ r => hle
      refine Stop.mk (slot_item (by k_asm) WG haj ?_)
      repeat' (first | (k_unfold; (try dsimp only)) | walk1)
      refine hret _ _ _ _ (by k_asm) (by k_asm) ⟨⟨aj, ?_, rfl⟩, Keep.refl⟩
      unfold placeOf isLate
      rw [if_neg (by simpa using hle)]
      exact haj
end Mine
end
section
local macro_rules | `(tactic| k_mem) => `(tactic| assumption)
local macro_rules | `(tactic| walk_at "getMethod ref") => `(tactic| (k_here; (with_reducible show wpAny _ _ (getMethod (Value.ref _) (PySem.Str.ofString "pop") _) _ _ _); k_dflt (refine' kob_method (knd := intKind _ _) PySem.F.slot_dict_pop ?ty ?N ?m ?d ?_; (case N => k_asm); (case m => assumption); (case d => assumption); (case ty => exact PySem.F.type_dict_pop))))
local macro_rules | `(tactic| walk_at "exec For") => `(tactic| (refine wpAny_For ?_ ?hs; (case hs => (intro _; with_unfolding_all rfl))))
local macro_rules | `(tactic| walk_at "exec For Name Tuple cons nil") => `(tactic| (refine wpAny_For ?_ ?hs; (case hs => (intro _; with_unfolding_all rfl))))
local macro_rules | `(tactic| walk_at "exec For Name Call cons nil") => `(tactic| (refine wpAny_For ?_ ?hs; (case hs => (intro _; with_unfolding_all rfl))))
local macro_rules | `(tactic| walk_at "exec For Name Call cons cons") => `(tactic| (refine wpAny_For ?_ ?hs; (case hs => (intro _; with_unfolding_all rfl))))
local macro_rules | `(tactic| walk_at "call ref") => `(tactic| (k_here; refine Mine.Stop.out ?_))
local macro_rules | `(tactic| walk_at "pyIter ref") => `(tactic| (k_here; refine Mine.Stop.out ?_))
local macro_rules | `(tactic| walk_at "compareOp In int ref") => `(tactic| (k_here; refine Mine.Stop.out ?_))
local macro_rules | `(tactic| walk_at "call builtin:dict.pop") => `(tactic| (k_here; refine Mine.Stop.out ?_))
local macro_rules | `(tactic| walk_at "call builtin:list.remove") => `(tactic| (k_here; refine Mine.Stop.out ?_))
local macro_rules | `(tactic| walk_at "call builtin:list.append") => `(tactic| (k_here; refine Mine.Stop.out ?_))
local macro_rules | `(tactic| walk_at "setItem ref int ref") => `(tactic| (k_here; refine Mine.Stop.out ?_))
local macro_rules | `(tactic| walk_at "subscriptTail") => `(tactic| (k_here; (with_reducible show wpAny _ _ (subscriptTail _ _ (Value.ref _) (Value.int (Int.fmod _ _) _)) _ _ _); refine Mine.Stop.out ?_))
local macro_rules | `(tactic| walk_at "setAttr ref") => `(tactic| (k_here; refine Mine.Stop.out ?_))
namespace Mine
set_option maxRecDepth 100000 in
set_option maxHeartbeats 8000000 in
theorem put_ctr (w : World) (l : WLoc) (size : Nat) (E : List Ent) (reached : Option Int) (given key time : Int) (tkk tkt : Tok) (hE : E.length ≤ 50) :
    Ctr 2 w 34 [.ref l.x, .int key tkk, .int time tkt] (fun news => WheelIn w news l size E reached given)
      (fun news r news' => r = .none ∧ WheelIn w news' l size (dropKey E key ++ [(key, time, given + 1)]) reached (given + 1) ∧ Keep l.muts news news') := by
  unfold Ctr
  intro p loose mean mg mb dp un gd cn cs a ccd cl outer A₀ base h₀ L m news s Q E9 B F X N T hk hW hd9 hu9 hret
  have inst := hW.inst
  have hEk : (E.map (·.1)).Nodup := hW.keys
  refine wpAny_call ?_
  k_dflt ktr_enter
  rename_i g1 L1 hp1 FG1 F1 N1 B1 X1 T1
  have F1' : Fr g1 L1 hp1 (fun y => List.lookup y [(Str.ofString "time", Value.int time tkt), (Str.ofString "key", Value.int key tkk), (Str.ofString "self", Value.ref l.x)]) := F1
  clear F1
  obtain ⟨nodup, _, ⟨h1, h2, h3, h4, h5, h6, k1, k2, k3, k4, k5, k6, ts, tg, n, rv, hrv, dict⟩, _⟩ := id hW
  repeat' (first | (k_unfold; (try dsimp only)) | walk1)
  refine Stop.mk ((cancel_ctr w l size E reached given key tkk hE).use (by k_asm) (by k_asm) (by k_asm) (by k_asm) (by k_asm) rfl hW (by show dp + 1 + 4 < recursionLimit; omega) (by show un + 3 + 100 < cLine; omega) ?_)
  rintro r nw hp2 tk2 F2 N2 ⟨rfl, WG, K2⟩
  clear dict inst hW
  obtain ⟨nodup, inst, ⟨h1, h2, h3, h4, h5, h6, k1, k2, k3, k4, k5, k6, ts, tg, n, rv, hrv, dict⟩, _⟩ := id WG
  clear F1' N1
  repeat' (first | (k_unfold; (try dsimp only)) | walk1)
  refine Stop.mk (set_given (by k_asm) (by k_asm) (by k_asm) WG ?_)
  clear dict inst WG
  intro hp3 nw3 F3 N3 WG K3
  replace K3 := K2.trans (K3.weaken (l' := l.muts) (by simp [WLoc.muts]))
  clear K2 N2 F2
  obtain ⟨nodup, inst, ⟨h1, h2, h3, h4, h5, h6, k1, k2, k3, k4, k5, k6, ts, tg, n, rv, hrv, dict⟩, ⟨ns, slots⟩, size1, size9, len, lo, lists, ⟨kvs, o, hen, hdo, hents⟩, keys⟩ := id WG
  repeat' (first | (k_unfold; (try dsimp only)) | walk1)
  rename Fr _ _ _ _ => F4
  rename News _ _ _ _ => N4
  rename Addr => D
  have WG4 := WG.sub (fun p hp => List.Mem.tail (D, ({ cls := .type "tuple", data := .seq #[Value.int time tkt, Value.int (given + 1) tg] } : Obj)) hp)
  have hTup : TupI ((D, ({ cls := .type "tuple", data := .seq #[Value.int time tkt, Value.int (given + 1) tg] } : Obj)) :: nw3) (.ref D) [time, given + 1] := ⟨D, [.int time tkt, .int (given + 1) tg], 0, rfl, .head _, .cons _ _ (.cons _ _ .nil)⟩
  have hnk : key ∉ (dropKey E key).map (·.1) := fun h => by
    obtain ⟨e, h1, h2⟩ := List.mem_map.mp h
    exact (mem_dropKey.mp h1).2 h2
  have hle : (dropKey E key).length ≤ E.length := List.length_filter_le _ _
  have hnd : ((dropKey E key ++ [(key, time, given + 1)]).map (·.1)).Nodup := by
    rw [List.map_append]
    exact List.nodup_append.mpr ⟨keys, by simp, fun a ha b hb e => by simp at hb; subst hb; subst e; exact hnk ha⟩
  have K4 : Keep l.muts news _ := K3.cons (q := (D, ({ cls := .type "tuple", data := .seq #[Value.int time tkt, Value.int (given + 1) tg] } : Obj)))
  refine Stop.mk (dict_set F4 N4 (.tail _ hen) hdo (by rw [hents.len]; omega) ?_)
  intro hp5 o5 F5 N5 hd5
  have WG5 := WG4.setEn (o' := o5) (uq N4) hd5 ((hents.mono (fun v l x => x.sub fun _ hp => .tail _ hp)).stored hTup hnk) hnd
  replace K4 := K4.focus (c := l.en) (o := o5) (by simp [WLoc.muts])
  clear F4 N4 WG WG4 inst dict slots lists hen hdo hents hd5 hTup K3
  generalize (l.en, o5) :: Foc _ l.en = nw5 at N5 WG5 K4
  obtain ⟨nodup, inst, ⟨h1, h2, h3, h4, h5, h6, k1, k2, k3, k4, k5, k6, ts, tg, n, rv, hrv, dict⟩, ⟨ns, slots⟩, size1, size9, len, lo, lists, ⟨kvs, o, hen, hdo, hents⟩, _⟩ := id WG5
  repeat' (first | (k_unfold; (try dsimp only)) | walk1)
  refine Stop.mk ((list_of_ctr w l size _ _ reached _ time tkt).use (by k_asm) (by k_asm) (by k_asm) (by k_asm) (by k_asm) rfl WG5 (by show dp + 1 + 4 < recursionLimit; omega) (by show un + 3 + 100 < cLine; omega) ?_)
  rintro r nw6 hp6 tk6 F6 N6 ⟨⟨a, ha, rfl⟩, K6⟩
  have WG6 := WG5.sub fun p hp => K6 p hp (by simp)
  replace K4 := K4.trans (K6.weaken (by simp))
  clear inst dict slots lists hen hdo hents N5 F5 WG5 K6
  obtain ⟨ns6, ⟨vs6, n6, hm6, hi6⟩, hnd6, hz6, hk6⟩ := WG6.lists _ a ha
  repeat' (first | (k_unfold; (try dsimp only)) | walk1)
  refine Stop.mk (intL_append (by k_asm) (by k_asm) ⟨vs6, n6, hm6, hi6⟩ (by omega) ?_)
  intro hp7 vs7 n7 F7 N7 hi7
  have hq : ∀ k, k ∈ ns6 ++ [key] ↔ LieAt size (dropKey E key ++ [(key, time, given + 1)]) reached (placeOf size reached time) k := by
    intro k
    rw [List.mem_append, hk6]
    constructor
    · rintro (⟨t, o, h1, h2⟩ | h1)
      · exact ⟨t, o, List.mem_append_left _ h1, h2⟩
      · rw [List.mem_singleton.mp h1]
        exact ⟨time, given + 1, List.mem_append_right _ (.head _), rfl⟩
    · rintro ⟨t, o, h1, h2⟩
      rcases List.mem_append.mp h1 with h1 | h1
      · exact .inl ⟨t, o, h1, h2⟩
      · cases List.mem_singleton.mp h1
        exact .inr (.head _)
  have hnd7 : (ns6 ++ [key]).Nodup := List.nodup_append.mpr ⟨hnd6, by simp, fun a ha b hb e => by
    simp at hb
    subst hb; subst e
    obtain ⟨t, o, h1, _⟩ := (hk6 _).mp ha
    exact hnk (List.mem_map.mpr ⟨_, h1, rfl⟩)⟩
  have hz7 : (ns6 ++ [key]).length ≤ 60 := by
    have := nodup_len hnd7 (l' := (dropKey E key ++ [(key, time, given + 1)]).map (·.1)) (fun x hx => by
      obtain ⟨t, o, h1, _⟩ := (hq x).mp hx
      exact List.mem_map.mpr ⟨_, h1, rfl⟩)
    simp only [List.length_map, List.length_append, List.length_singleton] at this ⊢
    omega
  have WG7 := WG6.setList (n := n7) (vs := vs7) (P' := LieAt size (dropKey E key ++ [(key, time, given + 1)]) reached) (uq N6) ha hi7 hnd7 hz7 hq (fun j hj => by
    funext k
    refine propext ⟨?_, ?_⟩
    · rintro ⟨t, o, h1, h2⟩
      rcases List.mem_append.mp h1 with h1 | h1
      · exact ⟨t, o, h1, h2⟩
      · cases List.mem_singleton.mp h1
        exact absurd h2.symm hj
    · rintro ⟨t, o, h1, h2⟩
      exact ⟨t, o, List.mem_append_left _ h1, h2⟩)
  replace K4 := K4.focus (c := a) (o := W.listOf vs7 n7) (lists_muts ha)
  repeat' (first | (k_unfold; (try dsimp only)) | walk1)
  exact hret _ _ _ _ (by k_asm) (by k_asm) ⟨rfl, WG7, K4⟩
end Mine
end
section
local macro_rules | `(tactic| k_mem) => `(tactic| assumption)
local macro_rules | `(tactic| walk_at "getMethod ref") => `(tactic| (k_here; (with_reducible show wpAny _ _ (getMethod (Value.ref _) (PySem.Str.ofString "pop") _) _ _ _); k_dflt (refine' kob_method (knd := intKind _ _) PySem.F.slot_dict_pop ?ty ?N ?m ?d ?_; (case N => k_asm); (case m => assumption); (case d => assumption); (case ty => exact PySem.F.type_dict_pop))))
local macro_rules | `(tactic| walk_at "exec For") => `(tactic| (refine wpAny_For ?_ ?hs; (case hs => (intro _; with_unfolding_all rfl))))
local macro_rules | `(tactic| walk_at "exec For Name Tuple cons nil") => `(tactic| (refine wpAny_For ?_ ?hs; (case hs => (intro _; with_unfolding_all rfl))))
local macro_rules | `(tactic| walk_at "exec For Name Call cons nil") => `(tactic| (refine wpAny_For ?_ ?hs; (case hs => (intro _; with_unfolding_all rfl))))
local macro_rules | `(tactic| walk_at "exec For Name Call cons cons") => `(tactic| (refine wpAny_For ?_ ?hs; (case hs => (intro _; with_unfolding_all rfl))))
local macro_rules | `(tactic| walk_at "call ref") => `(tactic| (k_here; refine Mine.Stop.out ?_))
local macro_rules | `(tactic| walk_at "pyIter ref") => `(tactic| (k_here; refine Mine.Stop.out ?_))
local macro_rules | `(tactic| walk_at "compareOp In int ref") => `(tactic| (k_here; refine Mine.Stop.out ?_))
local macro_rules | `(tactic| walk_at "call builtin:dict.pop") => `(tactic| (k_here; refine Mine.Stop.out ?_))
local macro_rules | `(tactic| walk_at "call builtin:list.remove") => `(tactic| (k_here; refine Mine.Stop.out ?_))
local macro_rules | `(tactic| walk_at "call builtin:list.append") => `(tactic| (k_here; refine Mine.Stop.out ?_))
local macro_rules | `(tactic| walk_at "setItem ref int ref") => `(tactic| (k_here; refine Mine.Stop.out ?_))
local macro_rules | `(tactic| walk_at "subscriptTail") => `(tactic| (k_here; (with_reducible show wpAny _ _ (subscriptTail _ _ (Value.ref _) (Value.int (Int.fmod _ _) _)) _ _ _); refine Mine.Stop.out ?_))
local macro_rules | `(tactic| walk_at "setAttr ref") => `(tactic| (k_here; refine Mine.Stop.out ?_))
local macro_rules | `(tactic| walk_at "subscriptTail") => `(tactic| (k_here; (with_reducible show wpAny _ _ (subscriptTail _ _ (Value.ref _) (Value.int _ _)) _ _ _); k_dflt (refine' kda_item (knd := intKind _ _) ?N ?m ?d ?k ?v ?_; (case N => k_asm); (case m => k_mem); (case d => assumption); (case k => exact intKind_is _ _ _ _); (case v => assumption))))
namespace Mine
set_option maxRecDepth 100000 in
set_option maxHeartbeats 8000000 in
theorem time_of_ctr (w : World) (l : WLoc) (size : Nat) (E : List Ent) (P : Nat → Int → Prop) (reached : Option Int) (given key : Int) (tkk : Tok) :
    Ctr 1 w 55 [.ref l.x, .int key tkk] (fun news => WheelG w news l size E P reached given)
      (fun news r news' => ((r = .none ∧ key ∉ E.map (·.1)) ∨ ∃ t o tk, (key, t, o) ∈ E ∧ r = .int t tk) ∧ Keep [] news news') := by
  unfold Ctr
  intro p loose mean mg mb dp un gd cn cs a ccd cl outer A₀ base h₀ L m news s Q E9 B F X N T hk hW hd9 hu9 hret
  obtain ⟨nodup, inst, ⟨h1, h2, h3, h4, h5, h6, k1, k2, k3, k4, k5, k6, ts, tg, n, rv, hrv, dict⟩, ⟨ns, slots⟩, size1, size9, len, lo, lists, ⟨kvs, o, hen, hdo, hents⟩, keys⟩ := hW
  refine wpAny_call ?_
  k_dflt ktr_enter
  rename_i g1 L1 hp1 FG1 F1 N1 B1 X1 T1
  have F1' : Fr g1 L1 hp1 (fun y => List.lookup y [(Str.ofString "key", Value.int key tkk), (Str.ofString "self", Value.ref l.x)]) := F1
  clear F1
  repeat' (first | (k_unfold; (try dsimp only)) | walk1)
  by_cases hin : key ∈ E.map (·.1)
  · obtain ⟨⟨key', t, od⟩, hmem, he⟩ := List.mem_map.mp hin
    replace he : key' = key := he
    subst he
    obtain ⟨v, hv, hvt⟩ := hents.some keys hmem
    obtain ⟨b, t1, t2, nn, rfl, hb⟩ := hvt.two
    refine Stop.mk (kda_in (by k_asm) hen hdo lo (intKind_is _ _ _ _) true (by rw [hv]; rfl) ?_)
    repeat' (first | (k_unfold; (try dsimp only)) | walk1)
    exact hret _ _ _ _ (by k_asm) (by k_asm) ⟨.inr ⟨_, _, _, hmem, rfl⟩, Keep.refl⟩
  · refine Stop.mk (kda_in (by k_asm) hen hdo lo (intKind_is _ _ _ _) false (by rw [hents.none hin]; rfl) ?_)
    repeat' (first | (k_unfold; (try dsimp only)) | walk1)
    exact hret _ _ _ _ (by k_asm) (by k_asm) ⟨.inl ⟨rfl, hin⟩, Keep.refl⟩
end Mine
end
section
local macro_rules | `(tactic| k_mem) => `(tactic| assumption)
local macro_rules | `(tactic| walk_at "getMethod ref") => `(tactic| (k_here; (with_reducible show wpAny _ _ (getMethod (Value.ref _) (PySem.Str.ofString "pop") _) _ _ _); k_dflt (refine' kob_method (knd := intKind _ _) PySem.F.slot_dict_pop ?ty ?N ?m ?d ?_; (case N => k_asm); (case m => assumption); (case d => assumption); (case ty => exact PySem.F.type_dict_pop))))
local macro_rules | `(tactic| walk_at "exec For") => `(tactic| (refine wpAny_For ?_ ?hs; (case hs => (intro _; with_unfolding_all rfl))))
local macro_rules | `(tactic| walk_at "exec For Name Tuple cons nil") => `(tactic| (refine wpAny_For ?_ ?hs; (case hs => (intro _; with_unfolding_all rfl))))
local macro_rules | `(tactic| walk_at "exec For Name Call cons nil") => `(tactic| (refine wpAny_For ?_ ?hs; (case hs => (intro _; with_unfolding_all rfl))))
local macro_rules | `(tactic| walk_at "exec For Name Call cons cons") => `(tactic| (refine wpAny_For ?_ ?hs; (case hs => (intro _; with_unfolding_all rfl))))
local macro_rules | `(tactic| walk_at "call ref") => `(tactic| (k_here; refine Mine.Stop.out ?_))
local macro_rules | `(tactic| walk_at "pyIter ref") => `(tactic| (k_here; refine Mine.Stop.out ?_))
local macro_rules | `(tactic| walk_at "compareOp In int ref") => `(tactic| (k_here; refine Mine.Stop.out ?_))
local macro_rules | `(tactic| walk_at "call builtin:dict.pop") => `(tactic| (k_here; refine Mine.Stop.out ?_))
local macro_rules | `(tactic| walk_at "call builtin:list.remove") => `(tactic| (k_here; refine Mine.Stop.out ?_))
local macro_rules | `(tactic| walk_at "call builtin:list.append") => `(tactic| (k_here; refine Mine.Stop.out ?_))
local macro_rules | `(tactic| walk_at "setItem ref int ref") => `(tactic| (k_here; refine Mine.Stop.out ?_))
local macro_rules | `(tactic| walk_at "subscriptTail") => `(tactic| (k_here; (with_reducible show wpAny _ _ (subscriptTail _ _ (Value.ref _) (Value.int (Int.fmod _ _) _)) _ _ _); refine Mine.Stop.out ?_))
local macro_rules | `(tactic| walk_at "setAttr ref") => `(tactic| (k_here; refine Mine.Stop.out ?_))
local macro_rules | `(tactic| walk_at "subscriptTail") => `(tactic| (k_here; (with_reducible show wpAny _ _ (subscriptTail _ _ (Value.ref _) (Value.int _ _)) _ _ _); k_dflt (refine' kda_item (knd := intKind _ _) ?N ?m ?d ?k ?v ?_; (case N => k_asm); (case m => k_mem); (case d => assumption); (case k => exact intKind_is _ _ _ _); (case v => assumption))))
local macro_rules | `(tactic| walk_at "exec Assign cons ListComp") => `(tactic| (k_here; refine Mine.Stop.out ?_))
local macro_rules | `(tactic| walk_at "eval ListComp") => `(tactic| (k_here; refine Mine.Stop.out ?_))
local macro_rules | `(tactic| walk_at "compareOp NotEq ref ref") => `(tactic| (k_here; refine Mine.Stop.out ?_))
local macro_rules | `(tactic| walk_at "compareOp Eq ref ref") => `(tactic| (k_here; refine Mine.Stop.out ?_))
local macro_rules | `(tactic| walk_at "call builtin:sorted") => `(tactic| (k_here; refine Mine.Stop.out ?_))
local macro_rules | `(tactic| walk_at "call builtin:min") => `(tactic| (k_here; refine Mine.Stop.out ?_))
namespace Mine
def TimeIn (E : List Ent) (v y : Value) : Prop := ∃ k t o tk tk', v = .int k tk ∧ (k, t, o) ∈ E ∧ y = .int t tk'
theorem paired_times {E : List Ent} {vs ys : List Value} (hp : Paired (TimeIn E) vs ys) : ∀ {ks : List Int}, IntsAre vs ks →
    ∃ ts, IntsAre ys ts ∧ ts.length = ks.length ∧ (∀ t ∈ ts, ∃ k o, (k, t, o) ∈ E) ∧ (∀ k ∈ ks, ∃ t ∈ ts, ∃ o, (k, t, o) ∈ E) := by
  induction hp with
  | nil =>
    intro ks hi
    cases hi
    exact ⟨[], .nil, rfl, by simp, by simp⟩
  | cons h hp ih =>
    intro ks hi
    obtain ⟨k, t, o, tk, tk', rfl, e2, rfl⟩ := h
    cases hi with
    | cons _ _ hi =>
      obtain ⟨ts, h1, h2, h3, h4⟩ := ih hi
      refine ⟨t :: ts, .cons _ _ h1, by simp [h2], ?_, ?_⟩
      · intro t' ht
        rcases List.mem_cons.mp ht with rfl | ht
        · exact ⟨_, _, e2⟩
        · exact h3 t' ht
      · intro k' hk
        rcases List.mem_cons.mp hk with rfl | hk
        · exact ⟨t, .head _, _, e2⟩
        · obtain ⟨t', q1, q2⟩ := h4 k' hk
          exact ⟨t', .tail _ q1, q2⟩
set_option maxRecDepth 100000 in
set_option maxHeartbeats 8000000 in
theorem next_time_ctr (w : World) (l : WLoc) (size : Nat) (E : List Ent) (P : Nat → Int → Prop) (reached : Option Int) (given : Int) (hE : E.length ≤ 50) :
    Ctr 1 w 60 [.ref l.x] (fun news => WheelG w news l size E P reached given)
      (fun news r news' => ((r = .none ∧ E = []) ∨ ∃ t tk, (∃ k o, (k, t, o) ∈ E) ∧ (∀ e ∈ E, t ≤ e.2.1) ∧ r = .int t tk) ∧ Keep [] news news') := by
  unfold Ctr
  intro p loose mean mg mb dp un gd cn cs a ccd cl outer A₀ base h₀ L m news s Q E9 B F X N T hk hW hd9 hu9 hret
  obtain ⟨nodup, inst, ⟨h1, h2, h3, h4, h5, h6, k1, k2, k3, k4, k5, k6, ts, tg, n, rv, hrv, dict⟩, ⟨ns, slots⟩, size1, size9, len, lo, lists, ⟨kvs, o, hen, hdo, hents⟩, keys⟩ := hW
  refine wpAny_call ?_
  k_dflt (refine' code_defC ?k1 ?k2 ?k3 ?k4 ?k5 ?kA ?kF ?kK ?k6 ?k7 ?k8 ?k9 ?kB ?kD ?_ ?c2 ?c3 ?c4; (case kA => exact rfl); (case kF => exact rfl); (case kK => assumption); (case k1 => k_asm); (case k2 => k_asm); (case k3 => k_asm); (case k4 => k_asm); (case k5 => k_asm); (case k6 => k_is); (case k7 => k_is); (case k8 => ktr_room); (case k9 => exact BindsTo.of_eq rfl); (case kB => exact rfl); (case kD => decide +kernel); (case c2 => exact rfl); (case c3 => exact rfl); (case c4 => exact rfl); k_whole; intro g1 L1 hp1 tk1 cells' FG1 F1 N1 Y' B1 X1 T1 l1; k_cells Y'; (try simp only [List.cons_append, List.nil_append] at N1); (try dsimp only); (try k_fold))
  rename_i oc dc
  have F1' : Fr g1 L1 hp1 (fun _ => none) := F1
  have dc' : oc.data = .cell (some (.ref l.x)) := dc
  clear F1 dc
  repeat' (first | (k_unfold; (try dsimp only)) | walk1)
  refine Stop.mk ?_
  k_fold
  refine' wpAny_Assign_ListComp_free (fun _ => true) (TimeIn E) ?hsw ?hclos ?hcell ?hkind ?hnames ?hx ?hy ?hp ?_ ?hs
  case hsw => with_unfolding_all rfl
  case hclos => with_unfolding_all rfl
  case hcell => decide
  case hkind => with_unfolding_all rfl
  case hnames => decide
  case hx => with_unfolding_all rfl
  case hy => with_unfolding_all rfl
  case hp => with_unfolding_all rfl
  case hs => intro _; with_unfolding_all rfl
  repeat' (first | (k_unfold; (try dsimp only)) | walk1)

  refine Stop.mk (comp_dict_a (L := L1) rfl rfl F1' N1 (.tail _ hen) hdo lo (by rw [hents.len]; omega) ?he ?hQ)
  case he =>
    intro k v tk' hkv
    obtain ⟨⟨k', t, od⟩, hmem, he⟩ := List.mem_map.mp (hents.fst ▸ List.mem_map.mpr ⟨_, hkv, rfl⟩ : k ∈ E.map (·.1))
    replace he : k' = k := he
    subst he
    obtain ⟨v', hv, hvt⟩ := hents.some keys hmem
    obtain ⟨b, t1, t2, nn, rfl, hb⟩ := hvt.two
    refine eltOk0 ?_
    intro C s₃ m₃ E' F3 N3 hn hm
    repeat' (first | (k_unfold; (try dsimp only)) | walk1)
    all_goals first | exact Keeps.of_toks _ _ | exact ⟨_, _, _, _, _, rfl, hmem, rfl⟩
  case hQ =>
    intro D h' tk' ys n vs F3 N3 hD hi hp
    have hft : List.filter (fun _ : Value => true) vs = vs := by simp
    rw [hft] at hp
    obtain ⟨tms, hts, hlen, hts1, hts2⟩ := paired_times hp hi
    clear N1 F1'
    repeat' (first | (k_unfold; (try dsimp only)) | walk1)
    rename News _ _ _ _ => N4
    rename Fr _ _ _ _ => F4
    rename Addr => l4
    have hl1 := isL N4 (a := D) (its := ys) (n := n) (.tail _ (.head _))
    have hl2 : Heap.IsList _ l4 (([] : List Value).toArray) := ⟨_, (N4 _ (.head _)).1, rfl, 0, rfl⟩
    refine Stop.mk (ne_intsK hl1 hts hl2 .nil (by show un + 3 + 64 < cLine; omega) ?_)
    have hE0 : tms = [] ↔ E = [] := by
      rw [hents.fst, List.length_map] at hlen
      constructor
      · rintro rfl; exact List.length_eq_zero_iff.mp hlen.symm
      · rintro rfl; exact List.length_eq_zero_iff.mp hlen
    by_cases he : tms = []
    · rw [decide_eq_true he]
      repeat' (first | (k_unfold; (try dsimp only)) | walk1)
      exact hret _ _ _ _ (by k_asm) (by k_asm) ⟨.inl ⟨rfl, hE0.mp he⟩, fun p hp _ => .tail _ (.tail _ (.tail _ hp))⟩
    · rw [decide_eq_false he]
      repeat' (first | (k_unfold; (try dsimp only)) | walk1)
      refine Stop.mk (kso_min (by k_asm) (by k_asm) hl1 hts (List.length_pos_iff.mpr he) rfl ?_)
      intro h5 M t5 tk5 F5 N5 hM1 hM2
      repeat' (first | (k_unfold; (try dsimp only)) | walk1)
      refine hret _ _ _ _ (by k_asm) (by k_asm) ⟨.inr ⟨M, t5, hts1 M hM1, fun e he' => ?_, rfl⟩, fun p hp _ => .tail _ (.tail _ (.tail _ hp))⟩
      obtain ⟨k, t, o'⟩ := e
      obtain ⟨t', q1, o'', q2⟩ := hts2 k (hents.fst ▸ List.mem_map.mpr ⟨_, he', rfl⟩)
      obtain ⟨rfl, _⟩ := ent_uniq keys he' q2
      exact hM2 _ q1
end Mine
end
section
local macro_rules | `(tactic| k_mem) => `(tactic| assumption)
local macro_rules | `(tactic| walk_at "getMethod ref") => `(tactic| (k_here; (with_reducible show wpAny _ _ (getMethod (Value.ref _) (PySem.Str.ofString "pop") _) _ _ _); k_dflt (refine' kob_method (knd := intKind _ _) PySem.F.slot_dict_pop ?ty ?N ?m ?d ?_; (case N => k_asm); (case m => assumption); (case d => assumption); (case ty => exact PySem.F.type_dict_pop))))
local macro_rules | `(tactic| walk_at "exec For") => `(tactic| (refine wpAny_For ?_ ?hs; (case hs => (intro _; with_unfolding_all rfl))))
local macro_rules | `(tactic| walk_at "exec For Name Tuple cons nil") => `(tactic| (refine wpAny_For ?_ ?hs; (case hs => (intro _; with_unfolding_all rfl))))
local macro_rules | `(tactic| walk_at "exec For Name Call cons nil") => `(tactic| (refine wpAny_For ?_ ?hs; (case hs => (intro _; with_unfolding_all rfl))))
local macro_rules | `(tactic| walk_at "exec For Name Call cons cons") => `(tactic| (refine wpAny_For ?_ ?hs; (case hs => (intro _; with_unfolding_all rfl))))
local macro_rules | `(tactic| walk_at "call ref") => `(tactic| (k_here; refine Mine.Stop.out ?_))
local macro_rules | `(tactic| walk_at "pyIter ref") => `(tactic| (k_here; refine Mine.Stop.out ?_))
local macro_rules | `(tactic| walk_at "compareOp In int ref") => `(tactic| (k_here; refine Mine.Stop.out ?_))
local macro_rules | `(tactic| walk_at "call builtin:dict.pop") => `(tactic| (k_here; refine Mine.Stop.out ?_))
local macro_rules | `(tactic| walk_at "call builtin:list.remove") => `(tactic| (k_here; refine Mine.Stop.out ?_))
local macro_rules | `(tactic| walk_at "call builtin:list.append") => `(tactic| (k_here; refine Mine.Stop.out ?_))
local macro_rules | `(tactic| walk_at "setItem ref int ref") => `(tactic| (k_here; refine Mine.Stop.out ?_))
local macro_rules | `(tactic| walk_at "subscriptTail") => `(tactic| (k_here; (with_reducible show wpAny _ _ (subscriptTail _ _ (Value.ref _) (Value.int (Int.fmod _ _) _)) _ _ _); refine Mine.Stop.out ?_))
local macro_rules | `(tactic| walk_at "setAttr ref") => `(tactic| (k_here; refine Mine.Stop.out ?_))
local macro_rules | `(tactic| walk_at "subscriptTail") => `(tactic| (k_here; (with_reducible show wpAny _ _ (subscriptTail _ _ (Value.ref _) (Value.int _ _)) _ _ _); k_dflt (refine' kda_item (knd := intKind _ _) ?N ?m ?d ?k ?v ?_; (case N => k_asm); (case m => k_mem); (case d => assumption); (case k => exact intKind_is _ _ _ _); (case v => assumption))))
local macro_rules | `(tactic| walk_at "exec Assign cons ListComp") => `(tactic| (k_here; refine Mine.Stop.out ?_))
local macro_rules | `(tactic| walk_at "eval ListComp") => `(tactic| (k_here; refine Mine.Stop.out ?_))
local macro_rules | `(tactic| walk_at "compareOp NotEq ref ref") => `(tactic| (k_here; refine Mine.Stop.out ?_))
local macro_rules | `(tactic| walk_at "compareOp Eq ref ref") => `(tactic| (k_here; refine Mine.Stop.out ?_))
local macro_rules | `(tactic| walk_at "call builtin:sorted") => `(tactic| (k_here; refine Mine.Stop.out ?_))
local macro_rules | `(tactic| walk_at "call builtin:min") => `(tactic| (k_here; refine Mine.Stop.out ?_))
local macro_rules | `(tactic| walk_at "call type:range") => `(tactic| (k_here; refine Mine.Stop.out ?_))
local macro_rules | `(tactic| walk_at "call type:list") => `(tactic| (k_here; refine Mine.Stop.out ?_))
local macro_rules | `(tactic| walk_at "binaryOp Add ref ref") => `(tactic| (k_here; refine Mine.Stop.out ?_))
namespace Mine
theorem emod_apart {s r j j' : Int} (hj : 0 ≤ j) (h1 : j < j') (h2 : j' < s) (h : (r + j) % s = (r + j') % s) : False := by
  have hs : s ≠ 0 := by omega
  have h3 : (r + j' - (r + j)) % s = 0 := Int.emod_eq_emod_iff_emod_sub_eq_zero.mp h.symm
  have h4 : r + j' - (r + j) = j' - j := by omega
  rw [h4, Int.emod_eq_of_lt (by omega) (by omega)] at h3
  omega
theorem lieAt_uniq {size : Nat} {E : List Ent} {reached : Option Int} {i i' : Nat} {k : Int} (hn : (E.map (·.1)).Nodup) (h : LieAt size E reached i k) (h' : LieAt size E reached i' k) : i = i' := by
  obtain ⟨t, o, a, b⟩ := h
  obtain ⟨t', o', a', b'⟩ := h'
  obtain ⟨rfl, rfl⟩ := ent_uniq hn a a'
  rw [← b, ← b']
set_option maxRecDepth 100000 in
set_option maxHeartbeats 8000000 in
theorem keys_until_ctr (w : World) (l : WLoc) (size : Nat) (E : List Ent) (reached : Option Int) (given now : Int) (tkn : Tok) (hE : E.length ≤ 50)
    (hr : ∀ r, reached = some r → -(2 ^ 60) ≤ r ∧ r ≤ now) (hnow : now ≤ 2 ^ 60) :
    Ctr 1 w 72 [.ref l.x, .int now tkn] (fun news => WheelIn w news l size E reached given)
      (fun news r news' => (∃ a ns, r = .ref a ∧ IntL news' a ns ∧ ns.Nodup ∧ (∀ k ∈ ns, k ∈ E.map (·.1)) ∧ (∀ k t o, (k, t, o) ∈ E → t ≤ now → k ∈ ns) ∧ ∀ p ∈ news, p.1 ≠ a) ∧ Keep [] news news') := by
  unfold Ctr
  intro p loose mean mg mb dp un gd cn cs a ccd cl outer A₀ base h₀ L m news s Q E9 B F X N T hk hW hd9 hu9 hret
  have WG : WheelG w news l size E (LieAt size E reached) reached given := hW
  obtain ⟨nodup, inst, ⟨h1, h2, h3, h4, h5, h6, k1, k2, k3, k4, k5, k6, ts, tg, n, rv, hrv, dict⟩, ⟨ns, slots⟩, size1, size9, len, lo, lists, ⟨kvs, o, hen, hdo, hents⟩, keys⟩ := hW
  refine wpAny_call ?_
  k_dflt ktr_enter
  rename_i g1 L1 hp1 FG1 F1 N1 B1 X1 T1
  have F1' : Fr g1 L1 hp1 (fun y => List.lookup y [(Str.ofString "now", Value.int now tkn), (Str.ofString "self", Value.ref l.x)]) := F1
  clear F1
  have fin : ∀ (D : Addr) (c : Nat) (vs : List Value) (h' : Heap) (tk' : Nat), Fr h₀ L h' m → News h₀ L h' ((D, W.listOf vs.toArray c) :: news) → (∀ q ∈ news, q.1 < D) → IntsAre vs (kvs.map (·.1)) → Q (.ref D) { s with heap := h', toks := tk' } := by
    intro D c vs h' tk' F' N' hlt hi
    rw [hents.fst] at hi
    refine hret _ _ _ _ F' N' ⟨⟨D, _, rfl, ⟨vs, c, .head _, hi⟩, keys, fun k hk => hk, fun k t o hm _ => List.mem_map.mpr ⟨_, hm, rfl⟩, fun p hp => Nat.ne_of_lt (hlt p hp)⟩, Keep.refl.cons⟩
  cases hrv with
  | none =>
    repeat' (first | (k_unfold; (try dsimp only)) | walk1)
    refine Stop.mk (dict_keys rfl (by k_asm) (by k_asm) hen hdo lo (by rw [hents.len]; omega) ?_)
    intro D c hp2 tk2 vs F2 N2 hlt hi
    repeat' (first | (k_unfold; (try dsimp only)) | walk1)
    exact fin D c vs _ _ (by k_asm) (by k_asm) hlt hi
  | some r tr =>
    obtain ⟨hr1, hr2⟩ := hr r rfl
    repeat' (first | (k_unfold; (try dsimp only)) | walk1)
    · refine Stop.mk (dict_keys rfl (by k_asm) (by k_asm) hen hdo lo (by rw [hents.len]; omega) ?_)
      intro D c hp2 tk2 vs F2 N2 hlt hi
      repeat' (first | (k_unfold; (try dsimp only)) | walk1)
      exact fin D c vs _ _ (by k_asm) (by k_asm) hlt hi
    · rename ¬ _ => hlt
      clear fin
      obtain ⟨ns0, ⟨vs0, n0, hm0, hi0⟩, hnd0, hz0, hk0⟩ := lists 0 l.lt rfl
      have hls : Heap.IsList hp1 l.lt vs0.toArray := ⟨_, (N1 _ hm0).1, rfl, n0, rfl⟩
      refine Stop.mk (list_copyK (by k_asm) (by k_asm) hls ?_ (by rw [List.size_toArray, hi0.length, sizeLine_eq]; omega))
      intro D c hp2 F2 N2 hltD
      repeat' (first | (k_unfold; (try dsimp only)) | walk1)
      refine Stop.mk (range2_rows (by k_asm) (by k_asm) ?_)
      intro hp3 tk3 t3 u3 v3 hR F3 N3 up3
      repeat' (first | (k_unfold; (try dsimp only)) | walk1)
      obtain ⟨nn, hnn⟩ : ∃ nn : Nat, now - r = nn := ⟨(now - r).toNat, by omega⟩
      have hsz : Builtin.Range.rangeSize (r + 1) (now + 1) 1 = ((nn : Nat) : Int) := by
        unfold Builtin.Range.rangeSize
        rw [if_pos (by decide)]
        split <;> omega
      have hsm : Builtin.Range.small (r + 1) (now + 1) 1 = true := by
        unfold Builtin.Range.small
        rw [hsz]
        simp only [Builtin.Range.rangeFitsLong, Bool.and_eq_true, Bool.or_eq_true, decide_eq_true_eq, beq_iff_eq]
        refine ⟨⟨⟨⟨⟨?_, ?_⟩, ?_, ?_⟩, ?_, ?_⟩, ?_, ?_⟩, .inr ?_⟩
        all_goals first | omega | (rw [if_pos (by decide)]; simp only [Bool.and_eq_true, decide_eq_true_eq]; omega)
      refine Stop.mk (iter_range (L := L1) rfl rfl F3 N3 hR hsm hsz
        (fun i m' nw => ∃ fa ns u, (m' = fun y => if y = Str.ofString "found" then some (Value.ref fa) else if y = Str.ofString "time" then u else List.lookup y [(Str.ofString "now", Value.int now tkn), (Str.ofString "self", Value.ref l.x)]) ∧
          IntL nw fa ns ∧ ns.Nodup ∧ (∀ k, k ∈ ns ↔ LieAt size E (some r) 0 k ∨ ∃ j : Nat, j < i ∧ LieAt size E (some r) (((r + 1 + (j : Int)) % (size : Int)).toNat + 1) k) ∧ (∀ p ∈ news, p.1 ≠ fa) ∧ Keep [] news nw) ?h0 ?step ?done)
      case h0 =>
        refine ⟨D, ns0, none, ?_, ⟨vs0, c, .head _, hi0⟩, hnd0, fun k => by simp [hk0], fun p hp => Nat.ne_of_lt (hltD p hp), Keep.refl.cons⟩
        funext y
        by_cases e : y = Str.ofString "found"
        · rw [if_pos e, if_pos e]
        · rw [if_neg e, if_neg e]
          by_cases e : y = Str.ofString "time"
          · rw [if_pos e, e]; rfl
          · rw [if_neg e]
      case step =>
        clear F3 N3
        rintro i v m₁ nw hp4 tk4 I io hin ⟨tv, rfl⟩ hc ⟨fa, nsf, u, rfl, hfa, hfn, hfk, hff, hK⟩ hoff F4 N4
        have hK2 : Keep [] news ((I, io) :: nw) := hK.cons
        have WG4 := WG.sub fun p hp => hK2 p hp (by simp)
        obtain ⟨nodup, inst, ⟨h1, h2, h3, h4, h5, h6, k1, k2, k3, k4, k5, k6, ts, tg, n, rv, hrv, dict⟩, _⟩ := id WG4
        obtain ⟨aj, haj⟩ := WG.slot_at (r + 1 + (i : Int))
        obtain ⟨nss, ⟨vss, nss2, hms, his⟩, hnds, hzs, hks⟩ := WG4.lists _ aj haj
        obtain ⟨vsf, nf, hmf, hif⟩ := hfa
        repeat' (first | (k_unfold; (try dsimp only)) | walk1)
        refine Stop.mk (slot_item (by k_asm) WG4 haj ?_)
        repeat' (first | (k_unfold; (try dsimp only)) | walk1)
        rename News _ _ _ _ => N5
        have hlf : nsf.length ≤ E.length := by
          have := nodup_len hfn (l' := E.map (·.1)) (fun x hx => by
            rcases (hfk x).mp hx with ⟨t, o, q, _⟩ | ⟨_, _, t, o, q, _⟩ <;> exact List.mem_map.mpr ⟨_, q, rfl⟩)
          rwa [List.length_map] at this
        refine Stop.mk (kmk_add_ints (by k_asm) (by k_asm) (a := fa) (b := aj) (vs := vsf) (ws := vss) ⟨_, (N5 _ (.tail _ hmf)).1, rfl, nf, rfl⟩ ⟨_, (N5 _ hms).1, rfl, nss2, rfl⟩ hif his ?_ (by rw [sizeLine_eq]; omega))
        intro D5 us5 hp5 F5 N6 hlt5 hi5
        repeat' (first | (k_unfold; (try dsimp only)) | walk1)
        rename Fr _ _ _ _ => F6
        rename News _ _ _ _ => N6
        have hI6 : (I, io) ∈ (D5, W.listOf us5.toArray 0) :: (I, io) :: nw := .tail _ (.head _)
        have hD5 : D5 ≠ I := fun e => absurd (hlt5 _ (.head _)) (by rw [e]; exact Nat.lt_irrefl _)
        refine TurnEnd.intro F6 N6 hI6 ⟨D5, nsf ++ nss, some (.int (r + 1 + (i : Int)) tv), ?_, ⟨us5, 0, foc_mem (.head _) hD5, hi5⟩, ?_, ?_, ?_, ?_⟩
        · funext y
          by_cases e : y = Str.ofString "found"
          · simp only [if_pos e]
          · by_cases e2 : y = Str.ofString "time"
            · simp only [if_neg e, if_pos e2]
            · simp only [if_neg e, if_neg e2]
        · refine List.nodup_append.mpr ⟨hfn, hnds, fun x hx y hy e => ?_⟩
          subst e
          have q2 := (hks x).mp hy
          rcases (hfk x).mp hx with q | ⟨j, hj, q⟩
          · exact absurd (lieAt_uniq keys q q2) (by simp)
          · have q3 := lieAt_uniq keys q q2
            have m1 := Int.emod_nonneg (r + 1 + (j : Int)) (show (size : Int) ≠ 0 by omega)
            have m2 := Int.emod_nonneg (r + 1 + (i : Int)) (show (size : Int) ≠ 0 by omega)
            exact emod_apart (s := (size : Int)) (r := r + 1) (j := (j : Int)) (j' := (i : Int)) (by omega) (by omega) (by omega) (by omega)
        · intro k
          rw [List.mem_append, hfk, hks]
          constructor
          · rintro ((q | ⟨j, hj, q⟩) | q)
            · exact .inl q
            · exact .inr ⟨j, by omega, q⟩
            · exact .inr ⟨i, by omega, q⟩
          · rintro (q | ⟨j, hj, q⟩)
            · exact .inl (.inl q)
            · by_cases e : j = i
              · subst e; exact .inr q
              · exact .inl (.inr ⟨j, by omega, q⟩)
        · exact fun p hp e => absurd (hlt5 p (hK2 p hp (by simp))) (by rw [e]; exact Nat.lt_irrefl _)
        · exact hK.turn hoff Keep.refl.cons
      case done =>
        rintro m₁ nw hp4 tk4 ⟨fa, nsf, u, rfl, hfa, hfn, hfk, hff, hK⟩ F4 N4
        dsimp only
        repeat' (first | (k_unfold; (try dsimp only)) | walk1)
        refine hret _ _ _ _ (by k_asm) (by k_asm) ⟨⟨fa, nsf, rfl, hfa, hfn, fun k hk => ?_, fun k t o hm ht => ?_, hff⟩, hK⟩
        · rcases (hfk k).mp hk with ⟨t, o, q, _⟩ | ⟨_, _, t, o, q, _⟩ <;> exact List.mem_map.mpr ⟨_, q, rfl⟩
        · rw [hfk]
          by_cases htr : t ≤ r
          · exact .inl ⟨t, o, hm, by unfold placeOf isLate; simp [htr]⟩
          · obtain ⟨j, hj⟩ : ∃ j : Nat, t = r + 1 + (j : Int) := ⟨(t - r - 1).toNat, by omega⟩
            refine .inr ⟨j, by omega, t, o, hm, ?_⟩
            unfold placeOf isLate
            rw [← hj]
            simp [htr]
end Mine
end
section
namespace Mine
section
variable {prog : Program} {w : World} {A : Around} {E : Value → Shared → Prop} {s : Shared} {env : Env} {h₀ : Heap}
/-- as for_gen, iter_list; the target is a tuple of names -/
theorem for_genT {Q : Flow → Shared → Prop} {target : Expr} {body : List Stmt} {I : Addr} {fp : List Addr} {n : Nat} {P : Nat → Value → Prop} {St : Nat → Heap → Prop} {S : Led → Prop} {icls : Value} {m : Str → Option Value} {news : Led}
    {L : Addr} (hLe : env.locals = L) (W : Walks prog w A I fp [I] n P St) (hIo : ∀ i h, St i h → ∃ o, h.get? I = some o ∧ o.cls = icls)
    (hSt : ∀ i h h' o nw, St i h → h.get? I = some o → h'.get? I = some o → (∀ b o, h₀.get? b = some o → h'.get? b = some o) → News h₀ L h' nw → S nw → St i h')
    (hLI : L ≠ I) (hI₀ : h₀.get? I = none) (off : ∀ p ∈ news, p.1 ≠ I) (hst : St 0 s.heap) (F : Fr h₀ L s.heap m) (N : News h₀ L s.heap news)
    (J : Nat → (Str → Option Value) → Led → Prop) (hJS : ∀ i m nw, J i m nw → S nw) (h0 : J 0 m news)
    (step : ∀ i v m₁ news₁ h tk io, i < n → P i v → io.cls = icls → J i m₁ news₁ → (∀ p ∈ news₁, p.1 ≠ I) → Fr h₀ L h m₁ → News h₀ L h ((I, io) :: news₁) →
      wpAny (model prog w) A (assign target env v) (fun _ s₂ => wpAny (model prog w) A (execs body env) (TurnEnd h₀ L { s with heap := h, toks := tk } I io (J (i + 1))) NoErr s₂) NoErr { s with heap := h, toks := tk })
    (done : ∀ m₁ news₁ h tk, J n m₁ news₁ → Fr h₀ L h m₁ → News h₀ L h news₁ → Q .next { s with heap := h, toks := tk })
    (ht : ∀ i v (h : Heap) tk (Q' : Unit → Shared → Prop) (E' : Value → Shared → Prop), i < n → P i v → St (i + 1) h → Q' () { s with heap := h, toks := tk } → wpAny (model prog w) A (letOwnedTupleGo target (.ref I) v) Q' E' { s with heap := h, toks := tk }) :
    codeAny (model prog w) A (.forLoop target (.ref I) body [] env) (fun r s' => match r with | .ok f => Q f s' | .error e => cameBackBy (model prog w) A env E e s') s := by
  subst hLe
  refine codeAny_forLoop_any
    (fun k s' => ∃ h' tk m' news' i, s' = { s with heap := h', toks := tk } ∧ St i h' ∧ Fr h₀ env.locals h' m' ∧ News h₀ env.locals h' news' ∧ (∀ p ∈ news', p.1 ≠ I) ∧ J i m' news' ∧ i ≤ n ∧ k = n + 1 - i) ?_ (n + 1)
    ⟨s.heap, s.toks, m, news, 0, rfl, hst, F, N, off, h0, Nat.zero_le _, rfl⟩
  rintro k s' ⟨h', tk', m', news', i, rfl, hst', F', N', off', hJ, hi, rfl⟩
  have next : ∀ h₁ : Heap, (∀ b o, b ∉ [I] → h'.get? b = some o → h₁.get? b = some o) → Fr h₀ env.locals h₁ m' ∧ News h₀ env.locals h₁ news' := fun h₁ hk₁ =>
    ⟨LCg.fr_but F' hk₁ hLI hI₀, LCg.news_but N' hk₁ off'⟩
  by_cases hlt : i < n
  · refine W.item i _ _ _ hlt hst' fun v h₁ tk₁ hP hst₁ hk₁ => ?_
    obtain ⟨F₁, N₁⟩ := next h₁ hk₁
    obtain ⟨io, hio, hcls⟩ := hIo _ _ hst₁
    have N₂ : News h₀ env.locals h₁ ((I, io) :: news') := fun p hp => by
      rcases List.mem_cons.mp hp with rfl | hp
      · exact ⟨hio, Ne.symm hLI, hI₀⟩
      · exact N₁ p hp
    refine ht i v h₁ tk₁ _ _ hlt hP hst₁ ?_
    refine wpAny_mono (step i v m' news' h₁ tk₁ io hlt hP hcls hJ off' F₁ N₂) (fun _ s₂ h₂ => wpAny_mono h₂ (fun f s₃ h₃ => ?_) fun _ _ x => x.elim) fun _ _ x => x.elim
    obtain ⟨hf, h₄, tk₄, m₄, news₄, rfl, F₄, N₄, hI₄, hJ₄⟩ := h₃
    have N₅ : News h₀ env.locals h₄ (Foc news₄ I) := fun p hp => N₄ p (mem_foc.mp hp).1
    have fin : ∃ k', k' < n + 1 - i ∧ ∃ h' tk m' news' j, ({ s with heap := h₄, toks := tk₄ } : Shared) = { s with heap := h', toks := tk } ∧ St j h' ∧ Fr h₀ env.locals h' m' ∧ News h₀ env.locals h' news' ∧ (∀ p ∈ news', p.1 ≠ I) ∧ J j m' news' ∧ j ≤ n ∧ k' = n + 1 - j :=
      ⟨n + 1 - (i + 1), by omega, h₄, tk₄, m₄, Foc news₄ I, i + 1, rfl, hSt (i + 1) h₁ h₄ io _ hst₁ hio (N₄ _ hI₄).1 F₄.keep N₅ (hJS _ _ _ hJ₄), F₄, N₅, foc_ne, hJ₄, hlt, rfl⟩
    rcases hf with rfl | rfl <;> exact fin
  · have hin : i = n := by omega
    subst hin
    refine W.done _ _ _ hst' fun h₁ tk₁ hk₁ => wpAny_execs_nil ?_
    obtain ⟨F₁, N₁⟩ := next h₁ hk₁
    exact done m' news' h₁ tk₁ hJ F₁ N₁

/-- a for over a list of the ledger -/
theorem iter_listT {Q : Flow → Shared → Prop} {elts : List Expr} {x1} {tp : Pos} {body : List Stmt} {l : Addr} {its : Array Value} {nn : Nat} {m : Str → Option Value} {news : Led}
    {L : Addr} (hLe : env.locals = L) (hh : A.handled = none) (F : Fr h₀ L s.heap m) (N : News h₀ L s.heap news) (hl : (l, W.listOf its nn) ∈ news)
    (J : Nat → (Str → Option Value) → Led → Prop) (h0 : J 0 m news) (hJS : ∀ i m nw, J i m nw → (l, W.listOf its nn) ∈ nw)
    (step : ∀ i v m₁ news₁ h tk I io, its[i]? = some v → io.cls = .type "list_iterator" → J i m₁ news₁ → (∀ p ∈ news₁, p.1 ≠ I) → Fr h₀ L h m₁ → News h₀ L h ((I, io) :: news₁) →
      wpAny (model prog w) A (assign (.Tuple elts x1 tp) env v) (fun _ s₂ => wpAny (model prog w) A (execs body env) (TurnEnd h₀ L { s with heap := h, toks := tk } I io (J (i + 1))) NoErr s₂) NoErr { s with heap := h, toks := tk })
    (done : ∀ m₁ news₁ h tk, J its.size m₁ news₁ → Fr h₀ L h m₁ → News h₀ L h news₁ → Q .next { s with heap := h, toks := tk })
    (href : ∀ v ∈ its.toList, ∃ T, v = Value.ref T) :
    wpAny (model prog w) A (pyIter (.ref l)) (fun it s₂ => codeAny (model prog w) A (.forLoop (.Tuple elts x1 tp) it body [] env) (fun r s' => match r with | .ok f => Q f s' | .error e => cameBackBy (model prog w) A env E e s') s₂) E s := by
  subst hLe
  have hls : s.heap.IsList l its := ⟨_, (N _ hl).1, rfl, nn, rfl⟩
  have hlt : l < s.heap.objs.size := Heap.lt_size (N _ hl).1
  refine wpAny_pyIter_list hls ?_
  have up : ∀ b o, s.heap.get? b = some o → (s.heap.push { cls := .type "list_iterator", data := .fields #[.ref l, .int 0 0] }).get? b = some o := fun b o e => Heap.get?_push_of_some _ e
  refine for_genT rfl (S := fun nw => (l, W.listOf its nn) ∈ nw) (icls := .type "list_iterator") (Walks.list hh s.heap.objs.size l (Nat.ne_of_lt hlt) its) (fun i h st => by obtain ⟨o, e, c, _⟩ := st.1; exact ⟨o, e, c⟩)
    (fun i h h' o nw st e e' k N' hS => ⟨by obtain ⟨o', q, r⟩ := st.1; rw [e] at q; cases q; exact ⟨o, e', r⟩, ⟨_, (N' _ hS).1, rfl, nn, rfl⟩⟩)
    (Nat.ne_of_lt F.ns.lt) (next_is_new F) (fun p hp => Nat.ne_of_lt (Heap.lt_size (N p hp).1)) ⟨⟨_, Heap.get?_push_size _ rfl, rfl, rfl⟩, hls.push _⟩ (F.keeps up) (N.grown up) J hJS h0 ?_ ?_ ?_
  · intro i v m₁ news₁ h tk io _ hP hc hJ off F₁ N₁
    exact step i v m₁ news₁ h tk _ io hP hc hJ off F₁ N₁
  · exact done
  · intro i v h tk Q' E' _ hP hst hq
    have hP' : its.toList[i]? = some v := by rw [Array.getElem?_toList]; exact hP
    obtain ⟨T, rfl⟩ := href v (List.mem_of_getElem? hP')
    exact wpAny_letOwnedTupleGo_listiter hst.1 hq
end
end Mine
end
section
local macro_rules | `(tactic| k_mem) => `(tactic| assumption)
local macro_rules | `(tactic| walk_at "getMethod ref") => `(tactic| (k_here; (with_reducible show wpAny _ _ (getMethod (Value.ref _) (PySem.Str.ofString "pop") _) _ _ _); k_dflt (refine' kob_method (knd := intKind _ _) PySem.F.slot_dict_pop ?ty ?N ?m ?d ?_; (case N => k_asm); (case m => assumption); (case d => assumption); (case ty => exact PySem.F.type_dict_pop))))
local macro_rules | `(tactic| walk_at "exec For") => `(tactic| (refine wpAny_For ?_ ?hs; (case hs => (intro _; with_unfolding_all rfl))))
local macro_rules | `(tactic| walk_at "exec For Name Tuple cons nil") => `(tactic| (refine wpAny_For ?_ ?hs; (case hs => (intro _; with_unfolding_all rfl))))
local macro_rules | `(tactic| walk_at "exec For Name Call cons nil") => `(tactic| (refine wpAny_For ?_ ?hs; (case hs => (intro _; with_unfolding_all rfl))))
local macro_rules | `(tactic| walk_at "exec For Name Call cons cons") => `(tactic| (refine wpAny_For ?_ ?hs; (case hs => (intro _; with_unfolding_all rfl))))
local macro_rules | `(tactic| walk_at "call ref") => `(tactic| (k_here; refine Mine.Stop.out ?_))
local macro_rules | `(tactic| walk_at "pyIter ref") => `(tactic| (k_here; refine Mine.Stop.out ?_))
local macro_rules | `(tactic| walk_at "compareOp In int ref") => `(tactic| (k_here; refine Mine.Stop.out ?_))
local macro_rules | `(tactic| walk_at "call builtin:dict.pop") => `(tactic| (k_here; refine Mine.Stop.out ?_))
local macro_rules | `(tactic| walk_at "call builtin:list.remove") => `(tactic| (k_here; refine Mine.Stop.out ?_))
local macro_rules | `(tactic| walk_at "call builtin:list.append") => `(tactic| (k_here; refine Mine.Stop.out ?_))
local macro_rules | `(tactic| walk_at "setItem ref int ref") => `(tactic| (k_here; refine Mine.Stop.out ?_))
local macro_rules | `(tactic| walk_at "subscriptTail") => `(tactic| (k_here; (with_reducible show wpAny _ _ (subscriptTail _ _ (Value.ref _) (Value.int (Int.fmod _ _) _)) _ _ _); refine Mine.Stop.out ?_))
local macro_rules | `(tactic| walk_at "setAttr ref") => `(tactic| (k_here; refine Mine.Stop.out ?_))
local macro_rules | `(tactic| walk_at "subscriptTail") => `(tactic| (k_here; (with_reducible show wpAny _ _ (subscriptTail _ _ (Value.ref _) (Value.int _ _)) _ _ _); k_dflt (refine' kda_item (knd := intKind _ _) ?N ?m ?d ?k ?v ?_; (case N => k_asm); (case m => k_mem); (case d => assumption); (case k => exact intKind_is _ _ _ _); (case v => assumption))))
local macro_rules | `(tactic| walk_at "exec Assign cons ListComp") => `(tactic| (k_here; refine Mine.Stop.out ?_))
local macro_rules | `(tactic| walk_at "eval ListComp") => `(tactic| (k_here; refine Mine.Stop.out ?_))
local macro_rules | `(tactic| walk_at "compareOp NotEq ref ref") => `(tactic| (k_here; refine Mine.Stop.out ?_))
local macro_rules | `(tactic| walk_at "compareOp Eq ref ref") => `(tactic| (k_here; refine Mine.Stop.out ?_))
local macro_rules | `(tactic| walk_at "call builtin:sorted") => `(tactic| (k_here; refine Mine.Stop.out ?_))
local macro_rules | `(tactic| walk_at "call builtin:min") => `(tactic| (k_here; refine Mine.Stop.out ?_))
local macro_rules | `(tactic| walk_at "call type:range") => `(tactic| (k_here; refine Mine.Stop.out ?_))
local macro_rules | `(tactic| walk_at "call type:list") => `(tactic| (k_here; refine Mine.Stop.out ?_))
local macro_rules | `(tactic| walk_at "binaryOp Add ref ref") => `(tactic| (k_here; refine Mine.Stop.out ?_))
namespace Mine
abbrev rowOf (e : Ent) : Row := (e.2.1, e.2.2, e.1)
/-- the timers whose time is past now -/
def later (E : List Ent) (now : Int) : List Ent := E.filter (fun e => decide (now < e.2.1))
def dueRows (E : List Ent) (now : Int) : List Row := (E.filter (fun e => decide (e.2.1 ≤ now))).map rowOf
theorem ints_at : ∀ {vs : List Value} {ns : List Int} {i : Nat} {v : Value}, IntsAre vs ns → vs[i]? = some v → ∃ k t, ns[i]? = some k ∧ v = .int k t
  | _, _, 0, _, .cons k t h, e => ⟨k, t, rfl, by simpa using e.symm⟩
  | _, _, i + 1, _, .cons k t h, e => by simpa using ints_at (i := i) h (by simpa using e)
theorem rows_mono {news news' : Led} (h : ∀ v l, TupI news v l → TupI news' v l) {vs : List Value} {R : List Row} (x : RowsAre news vs R) : RowsAre news' vs R := paired_mono (fun _ _ y => h _ _ y) x
theorem take_one {α : Type} {l : List α} {i : Nat} {a : α} (h : l[i]? = some a) : l.take (i + 1) = l.take i ++ [a] := by rw [List.take_add_one, h]; rfl
theorem take_fresh {α : Type} {l : List α} {i : Nat} {a : α} (h : l[i]? = some a) (hn : l.Nodup) : a ∉ l.take i := fun hm => by
  have h1 : (l.take (i + 1)).Nodup := hn.sublist (List.take_sublist _ _)
  rw [take_one h] at h1
  exact (List.nodup_append.mp h1).2.2 a hm a (.head _) rfl
theorem rows_last {news : Led} : ∀ {vs : List Value} {R : List Row}, RowsAre news vs R → ∃ ys, Paired (Tup3 news) vs ys ∧ IntsAre ys (R.map (·.2.2))
  | _, _, .nil => ⟨[], .nil, .nil⟩
  | _, _, .cons x h => by
    obtain ⟨ys, h1, h2⟩ := rows_last h
    obtain ⟨b, t1, t2, t3, n, rfl, hb⟩ := TupI.three x
    exact ⟨_ :: ys, .cons ⟨b, _, _, n, rfl, hb⟩ h1, .cons _ t3 h2⟩
theorem WheelG.mutsIn {w : World} {news : Led} {l : WLoc} {size : Nat} {E : List Ent} {P : Nat → Int → Prop} {reached : Option Int} {given : Int} (W : WheelG w news l size E P reached given) : ∀ a ∈ l.muts, ∃ o, (a, o) ∈ news ∧ o.cls ≠ .type "tuple" ∧ o.cls ≠ .ref 75 := by
  intro a ha
  unfold WLoc.muts at ha
  rcases List.mem_cons.mp ha with rfl | ha
  · obtain ⟨h1, h2, h3, h4, h5, h6, k1, k2, k3, k4, k5, k6, ts, tg, n, rv, _, b⟩ := W.dict
    exact ⟨_, b, by simp, by simp⟩
  · rcases List.mem_cons.mp ha with rfl | ha
    · obtain ⟨kvs, o, p, q, r⟩ := W.ents
      exact ⟨o, p, by rw [dictOf_cls q]; simp, by rw [dictOf_cls q]; simp⟩
    · obtain ⟨i, hi⟩ := List.getElem?_of_mem ha
      obtain ⟨ns, ⟨vs, n, hm, _⟩, _⟩ := W.lists i a hi
      exact ⟨_, hm, by simp, by simp⟩
theorem TupI.keepW {w : World} {news news' : Led} {l : WLoc} {size : Nat} {E : List Ent} {P : Nat → Int → Prop} {reached : Option Int} {given : Int} (W : WheelG w news l size E P reached given) (U : Uq news) (K : Keep l.muts news news') {v : Value} {is : List Int} (x : TupI news v is) : TupI news' v is := by
  obtain ⟨b, its, n, e, hm, hi⟩ := x
  refine ⟨b, its, n, e, K _ hm fun hb => ?_, hi⟩
  obtain ⟨o, ho, hc, _⟩ := W.mutsIn b hb
  exact hc (by rw [U _ _ _ ho hm])
theorem lie_later {size : Nat} {E : List Ent} {now : Int} {reached : Option Int} (hr : ∀ r, reached = some r → r ≤ now) {i : Nat} {k : Int} : LieAt size (later E now) reached i k ↔ LieAt size (later E now) (some now) i k := by
  have e : ∀ t o, (k, t, o) ∈ later E now → placeOf size reached t = placeOf size (some now) t := fun t o h => by
    unfold later at h
    have h := of_decide_eq_true (List.mem_filter.mp h).2
    replace h : now < t := h
    have e1 : isLate (some now) t = false := by unfold isLate; simp; omega
    have e2 : isLate reached t = false := by
      cases hq : reached with
      | none => rfl
      | some r => have := hr r hq; unfold isLate; simp; omega
    unfold placeOf
    rw [e1, e2]
  constructor
  · rintro ⟨t, o, h, q⟩; exact ⟨t, o, h, e t o h ▸ q⟩
  · rintro ⟨t, o, h, q⟩; exact ⟨t, o, h, (e t o h).symm ▸ q⟩
theorem nodup_of_map {α β : Type} {f : α → β} {l : List α} (h : (l.map f).Nodup) : l.Nodup := by
  unfold List.Nodup at h
  rw [List.pairwise_map] at h
  exact h.imp fun hne e => hne (congrArg f e)
set_option maxRecDepth 100000 in
set_option maxHeartbeats 8000000 in
theorem due_ctr (w : World) (l : WLoc) (size : Nat) (E : List Ent) (reached : Option Int) (given now : Int) (tkn : Tok) (hE : E.length ≤ 50)
    (hr : ∀ r, reached = some r → -(2 ^ 60) ≤ r ∧ r ≤ now) (hnow : now ≤ 2 ^ 60) :
    Ctr 2 w 65 [.ref l.x, .int now tkn] (fun news => WheelIn w news l size E reached given)
      (fun news r news' => (∃ (a : Addr) (S : List Row), r = .ref a ∧ IntL news' a (S.map (·.2.2)) ∧ S.Perm (dueRows E now) ∧ S.Pairwise (fun a b => lexB a b = true) ∧ ∀ p ∈ news, p.1 ≠ a) ∧ WheelIn w news' l size (later E now) (some now) given ∧ Keep l.muts news news') := by
  unfold Ctr
  intro p loose mean mg mb dp un gd cn cs a ccd cl outer A₀ base h₀ L m news s Q E9 B F X N T hk hW hd9 hu9 hret
  have WG : WheelG w news l size E (LieAt size E reached) reached given := hW
  obtain ⟨nodup, inst, ⟨h1, h2, h3, h4, h5, h6, k1, k2, k3, k4, k5, k6, ts, tg, n, rv, hrv, dict⟩, ⟨ns, slots⟩, size1, size9, len, lo, lists, ⟨kvs, o, hen, hdo, hents⟩, keys⟩ := id hW
  have keys0 := keys
  refine wpAny_call ?_
  k_dflt ktr_enter
  rename_i g1 L1 hp1 FG1 F1 N1 B1 X1 T1
  have F1' : Fr g1 L1 hp1 (fun y => List.lookup y [(Str.ofString "now", Value.int now tkn), (Str.ofString "self", Value.ref l.x)]) := F1
  clear F1
  repeat' (first | (k_unfold; (try dsimp only)) | walk1)
  rename_i fa hpa hfl hpb Fa Na
  refine Stop.mk ((keys_until_ctr w l size E reached given now tkn hE hr hnow).use (by k_asm) (by k_asm) (by k_asm) (by k_asm) (by k_asm) rfl (hW.sub fun _ hp => .tail _ hp) (by show dp + 1 + 4 < recursionLimit; omega) (by show un + 3 + 100 < cLine; omega) ?_)
  have hfn : ∀ p ∈ news, p.1 ∉ [fa] := fun p hp => by simpa using Nat.ne_of_lt (hfl p hp)
  rintro r nw2 hp2 tk2 F2 N2 ⟨⟨ka, nsK, rfl, ⟨vsK, nK, hmK, hiK⟩, hnK, hsubK, hallK, hfrK⟩, K2⟩
  clear inst dict slots lists hen hdo hents
  have hf2 : (fa, W.listOf #[] 0) ∈ nw2 := K2 _ (.head _) (by simp)
  have K2' : Keep [] news nw2 := fun p hp hn => K2 p (.tail _ hp) hn
  repeat' (first | (k_unfold; (try dsimp only)) | walk1)
  rename Fr _ _ _ _ => F3
  rename News _ _ _ _ => N3
  refine Stop.mk (iter_list (l := ka) (L := L1) rfl rfl F3 N3 hmK
    (fun i m' nw => ∃ (vs : List Value) (n : Nat) (R : List Row) (u1 u2 u3 : Option Value), (m' = fun y => if y = Str.ofString "found" then some (Value.ref fa) else if y = Str.ofString "key" then u1 else if y = Str.ofString "time" then u2 else if y = Str.ofString "order" then u3 else List.lookup y [(Str.ofString "now", Value.int now tkn), (Str.ofString "self", Value.ref l.x)]) ∧
      (fa, W.listOf (List.toArray vs) n) ∈ nw ∧ RowsAre nw vs R ∧ R.Nodup ∧ R.length ≤ i ∧ (∀ t o k, (t, o, k) ∈ R ↔ k ∈ nsK.take i ∧ (k, t, o) ∈ E ∧ t ≤ now) ∧ (ka, W.listOf vsK.toArray nK) ∈ nw ∧ Keep [fa] news nw) ?h0 ?hJS ?step ?done)
  case h0 =>
    refine ⟨[], 0, [], none, none, none, ?_, hf2, .nil, .nil, Nat.zero_le _, by simp, hmK, K2'.weaken (by simp)⟩
    funext y
    by_cases e : y = Str.ofString "found"
    · simp only [if_pos e]
    · simp only [if_neg e]
      by_cases e2 : y = Str.ofString "key"
      · rw [if_pos e2, e2]; rfl
      · rw [if_neg e2]
        by_cases e3 : y = Str.ofString "time"
        · rw [if_pos e3, e3]; rfl
        · rw [if_neg e3]
          by_cases e4 : y = Str.ofString "order"
          · rw [if_pos e4, e4]; rfl
          · rw [if_neg e4]
  case hJS => rintro i m' nw ⟨vs, n, R, u1, u2, u3, _, _, _, _, _, _, h, _⟩; exact h
  case step =>
    clear F3 N3 hf2
    rintro i v m₁ nw hp4 tk4 I io hv hc ⟨vs, nv, R, u1, u2, u3, rfl, hfa, hRA, hRn, hRl, hRm, hka, hK⟩ hoff F4 N4
    obtain ⟨key, tkk, hki, rfl⟩ := ints_at hiK (by simpa using hv)
    have hkm : key ∈ nsK := List.mem_of_getElem? hki
    have WG4 := WG.sub (news' := (I, io) :: nw) fun p hp => .tail _ (hK p hp (hfn p hp))
    obtain ⟨nodup, inst, ⟨h1, h2, h3, h4, h5, h6, k1, k2, k3, k4, k5, k6, ts, tg, n, rv, hrv, dict⟩, ⟨ns, slots⟩, size1, size9, len, lo, lists, ⟨kvs, o, hen, hdo, hents⟩, keys⟩ := id WG4
    obtain ⟨⟨key', t, od⟩, hmem, he⟩ := List.mem_map.mp (hsubK key hkm)
    replace he : key' = key := he
    subst he
    obtain ⟨v, hval, hvt⟩ := hents.some keys hmem
    obtain ⟨b, t1, t2, nn, rfl, hb⟩ := hvt.two
    repeat' (first | (k_unfold; (try dsimp only)) | walk1)
    have hki' := take_fresh hki hnK
    have htk := take_one hki
    · have hle : t ≤ now := by assumption
      rename_i D hpD FD ND lD
      have hRA5 := rows_mono (fun v l x => x.sub (news' := (D, tupO [Value.int t t1, Value.int od t2, Value.int key' tkk] 0) :: (I, io) :: nw) fun p hp => .tail _ (.tail _ hp)) hRA
      have hfa5 : (fa, W.listOf (List.toArray vs) nv) ∈ (D, tupO [Value.int t t1, Value.int od t2, Value.int key' tkk] 0) :: (I, io) :: nw := .tail _ (.tail _ hfa)
      have hT : TupI ((D, tupO [Value.int t t1, Value.int od t2, Value.int key' tkk] 0) :: (I, io) :: nw) (.ref D) [t, od, key'] := ⟨D, _, 0, rfl, .head _, .cons _ _ (.cons _ _ (.cons _ _ .nil))⟩
      have hlen5 := hRA.length
      have hiN : i < nsK.length := (List.getElem?_eq_some_iff.mp hki).1
      have hlenK : nsK.length ≤ E.length := by
        have := nodup_len hnK hsubK
        rwa [List.length_map] at this
      refine Stop.mk (list_append FD ND (a := fa) hfa5 (by rw [List.size_toArray]; omega) ?_)
      intro hp6 F6 N6
      repeat' (first | (k_unfold; (try dsimp only)) | walk1)
      rename Fr _ _ _ _ => F7
      rename News _ _ _ _ => N7
      have hIfa : fa ≠ I := hoff _ hfa
      have hDI : D ≠ I := Nat.ne_of_gt lD.1
      have hI7 : (I, io) ∈ (fa, W.listOf ((List.toArray vs).push (Value.ref D)) (nv + 1)) :: Foc ((D, tupO [Value.int t t1, Value.int od t2, Value.int key' tkk] 0) :: (I, io) :: nw) fa := .tail _ (foc_mem (.tail _ (.head _)) (Ne.symm hIfa))
      have tup7 : ∀ v l, TupI ((D, tupO [Value.int t t1, Value.int od t2, Value.int key' tkk] 0) :: (I, io) :: nw) v l → TupI (Foc ((fa, W.listOf ((List.toArray vs).push (Value.ref D)) (nv + 1)) :: Foc ((D, tupO [Value.int t t1, Value.int od t2, Value.int key' tkk] 0) :: (I, io) :: nw) fa) I) v l := fun v l x =>
        ((x.focc (uq ND) hfa5 (by simp)).sub fun _ hp => .tail _ hp).focc (uq N7) hI7 (by rw [hc]; simp)
      refine TurnEnd.intro F7 N7 hI7 ⟨vs ++ [.ref D], nv + 1, R ++ [(t, od, key')], some (.int key' tkk), some (.int t t1), some (.int od t2), ?_, ?_, ?_, ?_, ?_, ?_, ?_, ?_⟩
      · funext y
        by_cases e : y = Str.ofString "found"
        · subst e; rfl
        · by_cases e2 : y = Str.ofString "key"
          · subst e2; rfl
          · by_cases e3 : y = Str.ofString "time"
            · subst e3; rfl
            · by_cases e4 : y = Str.ofString "order"
              · subst e4; rfl
              · simp only [if_neg e, if_neg e2, if_neg e3, if_neg e4]
      · exact foc_mem (by rw [List.push_toArray]; exact .head _) hIfa
      · exact (rows_mono tup7 hRA5).snoc (tup7 _ _ hT)
      · exact List.nodup_append.mpr ⟨hRn, by simp, fun x hx y hy e => by
          rw [List.mem_singleton.mp hy] at e
          subst e
          exact hki' ((hRm _ _ _).mp hx).1⟩
      · simp only [List.length_append, List.length_singleton]; omega
      · intro t' o' k'
        rw [List.mem_append, hRm, htk, List.mem_append, List.mem_singleton, List.mem_singleton]
        constructor
        · rintro (⟨q1, q2, q3⟩ | q)
          · exact ⟨.inl q1, q2, q3⟩
          · cases q; exact ⟨.inr rfl, hmem, hle⟩
        · rintro ⟨q1 | rfl, q2, q3⟩
          · exact .inl ⟨q1, q2, q3⟩
          · obtain ⟨rfl, rfl⟩ := ent_uniq keys hmem q2
            exact .inr rfl
      · exact foc_mem (.tail _ (foc_mem (.tail _ (.tail _ hka)) (fun e => hfrK _ (.head _) e.symm))) (hoff _ hka)
      · exact hK.turn hoff (Keep.refl.cons.focus (by simp))
    · have hle : ¬ t ≤ now := by assumption
      rename Fr _ _ _ _ => F7
      rename News _ _ _ _ => N7
      refine TurnEnd.intro F7 N7 (.head _) ⟨vs, nv, R, some (.int key' tkk), some (.int t t1), some (.int od t2), ?_, foc_mem (.tail _ hfa) (hoff _ hfa), ?_, hRn, by omega, ?_, foc_mem (.tail _ hka) (hoff _ hka), hK.turn hoff Keep.refl⟩
      · funext y
        by_cases e : y = Str.ofString "found"
        · subst e; rfl
        · by_cases e2 : y = Str.ofString "key"
          · subst e2; rfl
          · by_cases e3 : y = Str.ofString "time"
            · subst e3; rfl
            · by_cases e4 : y = Str.ofString "order"
              · subst e4; rfl
              · simp only [if_neg e, if_neg e2, if_neg e3, if_neg e4]
      · exact rows_mono (fun v l x => (x.sub fun _ hp => .tail _ hp).focc (uq N7) (.head _) (by rw [hc]; simp)) hRA
      · intro t' o' k'
        rw [hRm, take_one hki, List.mem_append, List.mem_singleton]
        constructor
        · rintro ⟨q1, q2, q3⟩
          exact ⟨.inl q1, q2, q3⟩
        · rintro ⟨q1 | rfl, q2, q3⟩
          · exact ⟨q1, q2, q3⟩
          · obtain ⟨rfl, rfl⟩ := ent_uniq keys hmem q2
            exact absurd q3 hle
  case done =>
    clear F3 N3 hf2
    rintro m₁ nw hp4 tk4 ⟨vs, nv, R, u1, u2, u3, rfl, hfa, hRA, hRn, hRl, hRm, _, hK⟩ F4 N4
    have hRall : ∀ t o k, (t, o, k) ∈ R ↔ (k, t, o) ∈ E ∧ t ≤ now := fun t o k => by
      rw [hRm, List.take_of_length_le (by rw [List.size_toArray, hiK.length]; exact Nat.le_refl _)]
      exact ⟨fun h => h.2, fun h => ⟨hallK _ _ _ h.1 h.2, h⟩⟩
    clear hRm hmK hiK hnK hsubK hallK hfrK K2 K2'
    have WG4 := WG.sub (news' := nw) fun p hp => hK p hp (hfn p hp)
    dsimp only
    repeat' (first | (k_unfold; (try dsimp only)) | walk1)
    have hfm : fa ∉ l.muts := fun h => by
      obtain ⟨o, ho, _⟩ := WG.mutsIn fa h
      exact hfn _ ho (by simp)
    replace hK : Keep l.muts news nw := fun p hp _ => hK p hp (hfn p hp)
    refine Stop.mk (iter_listT (l := fa) (L := L1) rfl rfl F4 N4 hfa
      (fun i m' nw => ∃ (v1 v2 v3 : Option Value), (m' = fun y => if y = Str.ofString "found" then some (Value.ref fa) else if y = Str.ofString "key" then v1 else if y = Str.ofString "time" then v2 else if y = Str.ofString "order" then v3 else List.lookup y [(Str.ofString "now", Value.int now tkn), (Str.ofString "self", Value.ref l.x)]) ∧
        (fa, W.listOf (List.toArray vs) nv) ∈ nw ∧ RowsAre nw vs R ∧ WheelIn w nw l size (E.filter fun e => decide (e.1 ∉ (R.take i).map (·.2.2))) reached given ∧ Keep l.muts news nw) ?h0 ?hJS ?step ?done ?href)
    case h0 => exact ⟨u1, u2, u3, rfl, hfa, hRA, by
      have e : (E.filter fun e => decide (e.1 ∉ (R.take 0).map (·.2.2))) = E := by simp
      rw [e]; exact WG4, hK⟩
    case hJS => rintro i m' nw ⟨v1, v2, v3, _, h, _⟩; exact h
    case href =>
      intro v hv
      obtain ⟨i, hi⟩ := List.getElem?_of_mem hv
      obtain ⟨_, _, b, _, _, e, _⟩ := paired_at hRA (by simpa using hi)
      exact ⟨b, e⟩
    case step =>
      clear F4 N4 WG4 hfa hRA hK
      rintro i v m₁ nw hp4 tk4 I io hv hc ⟨v1, v2, v3, rfl, hfa, hRA, hWi, hK⟩ hoff F4 N4
      obtain ⟨⟨t, od, key⟩, hRi, hT⟩ := paired_at hRA (by simpa using hv : vs[i]? = some v)
      replace hT : TupI nw v [t, od, key] := hT
      obtain ⟨b, t1, t2, t3, nn, rfl, hb⟩ := hT.three
      have hb4 : (b, tupO [.int t t1, .int od t2, .int key t3] nn) ∈ (I, io) :: nw := .tail _ hb
      have WG5 : WheelG w ((I, io) :: nw) l size (E.filter fun e => decide (e.1 ∉ (R.take i).map (·.2.2))) (LieAt size (E.filter fun e => decide (e.1 ∉ (R.take i).map (·.2.2))) reached) reached given := WheelG.sub hWi fun _ hp => .tail _ hp
      obtain ⟨nodup, inst, ⟨h1, h2, h3, h4, h5, h6, k1, k2, k3, k4, k5, k6, ts, tg, n, rv, hrv, dict⟩, _⟩ := id WG5
      have hIm : I ∉ l.muts := fun h => by
        obtain ⟨o, ho, _⟩ := hWi.mutsIn I h
        exact hoff _ ho rfl
      have hEl : (E.filter fun e => decide (e.1 ∉ (R.take i).map (·.2.2))).length ≤ 50 := Nat.le_trans (List.length_filter_le _ _) hE
      have U4 := uq N4
      repeat' (first | (k_unfold; (try dsimp only)) | walk1)
      refine Stop.mk ((cancel_ctr w l size _ reached given key t3 hEl).use (by k_asm) (by k_asm) (by k_asm) (by k_asm) (by k_asm) rfl WG5 (by show dp + 1 + 4 < recursionLimit; omega) (by show un + 3 + 100 < cLine; omega) ?_)
      rintro r nw5 hp5 tk5 F5 N5 ⟨rfl, WG6, K5⟩
      clear inst dict
      repeat' (first | (k_unfold; (try dsimp only)) | walk1)
      rename Fr _ _ _ _ => F7
      rename News _ _ _ _ => N7
      have hI7 : (I, io) ∈ nw5 := K5 _ (.head _) hIm
      refine TurnEnd.intro F7 N7 hI7 ⟨some (.int key t3), some (.int t t1), some (.int od t2), ?_, ?_, ?_, ?_, hK.turn hoff K5⟩
      · funext y
        by_cases e : y = Str.ofString "found"
        · subst e; rfl
        · by_cases e2 : y = Str.ofString "key"
          · subst e2; rfl
          · by_cases e3 : y = Str.ofString "time"
            · subst e3; rfl
            · by_cases e4 : y = Str.ofString "order"
              · subst e4; rfl
              · simp only [if_neg e, if_neg e2, if_neg e3, if_neg e4]
      · exact foc_mem (K5 _ (.tail _ hfa) hfm) (hoff _ hfa)
      · exact rows_mono (fun v l x => ((x.sub fun _ hp => .tail _ hp).keepW WG5 U4 K5).focc (uq N7) hI7 (by rw [hc]; simp)) hRA
      · have e : (E.filter fun e => decide (e.1 ∉ (R.take (i + 1)).map (·.2.2))) = dropKey (E.filter fun e => decide (e.1 ∉ (R.take i).map (·.2.2))) key := by
          unfold dropKey
          rw [List.filter_filter]
          refine List.filter_congr fun e _ => ?_
          rw [take_one hRi]
          simp only [List.map_append, List.mem_append, not_or, List.map_cons, List.map_nil, List.mem_singleton]
          rw [← Bool.decide_and]
          exact decide_eq_decide.mpr And.comm
        rw [e]
        exact WheelG.foc WG6 (uq N7) hI7 (by rw [hc]; simp) (by rw [hc]; simp) (by rw [hc]; simp) (by rw [hc]; simp)
    case done =>
      clear F4 N4 WG4 hfa hRA hK
      rintro m₁ nw hp4 tk4 ⟨v1, v2, v3, rfl, hfa, hRA, WG6, hK⟩ F6 N6
      have hE6 : (E.filter fun e => decide (e.1 ∉ (R.take (List.toArray vs).size).map (·.2.2))) = later E now := by
        rw [List.take_of_length_le (by rw [List.size_toArray, hRA.length]; exact Nat.le_refl _)]
        unfold later
        refine List.filter_congr fun e he => decide_eq_decide.mpr ?_
        constructor
        · intro h
          by_cases q : now < e.2.1
          · exact q
          · exact absurd (List.mem_map.mpr ⟨(e.2.1, e.2.2, e.1), (hRall _ _ _).mpr ⟨he, by omega⟩, rfl⟩) h
        · intro q h
          obtain ⟨⟨t, o, k⟩, h1, h2⟩ := List.mem_map.mp h
          replace h2 : k = e.1 := h2
          subst h2
          obtain ⟨h3, h4⟩ := (hRall _ _ _).mp h1
          have := (ent_uniq keys h3 (show (e.1, e.2.1, e.2.2) ∈ E from he)).1
          omega
      rw [hE6] at WG6
      dsimp only
      obtain ⟨nodup, inst, ⟨h1, h2, h3, h4, h5, h6, k1, k2, k3, k4, k5, k6, ts, tg, n, rv, hrv, dict⟩, _⟩ := id WG6
      have hlie := fun (i : Nat) (k : Int) => lie_later (size := size) (E := E) (now := now) (reached := reached) (fun r q => (hr r q).2) (i := i) (k := k)
      have hRp : R.Perm (dueRows E now) := by
        refine (List.perm_ext_iff_of_nodup hRn ?_).mpr fun ⟨t, o, k⟩ => ?_
        · have hk2 : ((dueRows E now).map (·.2.2)).Nodup := by
            unfold dueRows
            rw [List.map_map]
            exact List.Nodup.sublist (List.Sublist.map _ List.filter_sublist) keys0
          exact nodup_of_map hk2
        · rw [hRall]
          unfold dueRows
          rw [List.mem_map]
          constructor
          · rintro ⟨q1, q2⟩
            exact ⟨(k, t, o), List.mem_filter.mpr ⟨q1, decide_eq_true q2⟩, rfl⟩
          · rintro ⟨⟨k', t', o'⟩, q1, q2⟩
            simp only [Prod.mk.injEq] at q2
            obtain ⟨rfl, rfl, rfl⟩ := q2
            obtain ⟨q1, q3⟩ := List.mem_filter.mp q1
            exact ⟨q1, of_decide_eq_true q3⟩
      have hRl64 : R.length < 64 := by
        rw [hRp.length_eq]
        unfold dueRows
        rw [List.length_map]
        exact Nat.lt_of_le_of_lt (List.length_filter_le _ _) (by omega)
      have U6 := uq N6
      have WG0 : WheelG w nw l size (later E now) (LieAt size (later E now) reached) reached given := WG6
      cases hrv with
      | none =>
        repeat' (first | (k_unfold; (try dsimp only)) | walk1)
        refine Stop.mk (set_reached (by k_asm) (by k_asm) (by k_asm) WG0 ?_)
        clear inst dict WG6
        intro hp8 nw8 F8 N8 WG8 K8
        replace K8 := K8.weaken (l' := l.muts) (by simp [WLoc.muts])
        have WG9 : WheelIn w nw8 l size (later E now) (some now) given := WG8.congrP hlie
        have hfa8 := K8 _ hfa hfm
        have hRA8 := rows_mono (fun v l x => x.keepW WG0 U6 K8) hRA
        replace K8 := hK.trans K8
        repeat' (first | (k_unfold; (try dsimp only)) | walk1)
        refine Stop.mk ?_
        k_fold
        refine' comp_three (h₀ := g1) (L := L1) (m := fun y => if y = Str.ofString "found" then some (Value.ref fa) else if y = Str.ofString "key" then v1 else if y = Str.ofString "time" then v2 else if y = Str.ofString "order" then v3 else List.lookup y [(Str.ofString "now", Value.int now tkn), (Str.ofString "self", Value.ref l.x)]) rfl ?hclos ?hcell ?hkind ?hnames ?hx1 ?hx2 ?hx3 ?hd ?_ ?hs
        case hclos => with_unfolding_all rfl
        case hcell => decide
        case hkind => with_unfolding_all rfl
        case hnames => decide
        case hx1 => with_unfolding_all rfl
        case hx2 => with_unfolding_all rfl
        case hx3 => with_unfolding_all rfl
        case hd => decide
        case hs => intro _; with_unfolding_all rfl
        repeat' (first | (k_unfold; (try dsimp only)) | walk1)
        refine Stop.mk (sorted_rows (by k_asm) (by k_asm) hfa8 hRA8 hRn hRl64 ?_)
        intro D c h' vs' R' F' N' hlt hRA' hperm hpw
        obtain ⟨ys, hy1, hy2⟩ := rows_last hRA'
        refine Src3.mk F' N' (.head _) (by rw [List.size_toArray, hRA'.length, hperm.length_eq]; omega) (paired_mono (fun a b x => by obtain ⟨t, y1, y2, q, e, z⟩ := x; exact ⟨t, y1, y2, q, e, .tail _ z⟩) hy1) ?_
        intro D2 h2 tk2 F9 N9 hoff9
        repeat' (first | (k_unfold; (try dsimp only)) | walk1)
        refine hret _ _ _ _ (by k_asm) (by k_asm) ⟨⟨D2, R', rfl, ⟨ys, _, .head _, hy2⟩, hperm.trans hRp, hpw, fun p hp => ?_⟩, WG9.sub (fun _ hp => .tail _ (.tail _ hp)), K8.cons.cons⟩
        by_cases hpm : p.1 ∈ l.muts
        · obtain ⟨o, ho, _⟩ := WG9.mutsIn _ hpm
          exact hoff9 (p.1, o) (.tail _ ho)
        · exact hoff9 _ (.tail _ (K8 _ hp hpm))
      | some r tr =>
        have hrn := (hr r rfl).2
        repeat' (first | (k_unfold; (try dsimp only)) | walk1)
        · refine Stop.mk (set_reached (by k_asm) (by k_asm) (by k_asm) WG0 ?_)
          clear inst dict WG6
          intro hp8 nw8 F8 N8 WG8 K8
          replace K8 := K8.weaken (l' := l.muts) (by simp [WLoc.muts])
          have WG9 : WheelIn w nw8 l size (later E now) (some now) given := WG8.congrP hlie
          have hfa8 := K8 _ hfa hfm
          have hRA8 := rows_mono (fun v l x => x.keepW WG0 U6 K8) hRA
          replace K8 := hK.trans K8
          repeat' (first | (k_unfold; (try dsimp only)) | walk1)
          refine Stop.mk ?_
          k_fold
          refine' comp_three (h₀ := g1) (L := L1) (m := fun y => if y = Str.ofString "found" then some (Value.ref fa) else if y = Str.ofString "key" then v1 else if y = Str.ofString "time" then v2 else if y = Str.ofString "order" then v3 else List.lookup y [(Str.ofString "now", Value.int now tkn), (Str.ofString "self", Value.ref l.x)]) rfl ?hclos ?hcell ?hkind ?hnames ?hx1 ?hx2 ?hx3 ?hd ?_ ?hs
          case hclos => with_unfolding_all rfl
          case hcell => decide
          case hkind => with_unfolding_all rfl
          case hnames => decide
          case hx1 => with_unfolding_all rfl
          case hx2 => with_unfolding_all rfl
          case hx3 => with_unfolding_all rfl
          case hd => decide
          case hs => intro _; with_unfolding_all rfl
          repeat' (first | (k_unfold; (try dsimp only)) | walk1)
          refine Stop.mk (sorted_rows (by k_asm) (by k_asm) hfa8 hRA8 hRn hRl64 ?_)
          intro D c h' vs' R' F' N' hlt hRA' hperm hpw
          obtain ⟨ys, hy1, hy2⟩ := rows_last hRA'
          refine Src3.mk F' N' (.head _) (by rw [List.size_toArray, hRA'.length, hperm.length_eq]; omega) (paired_mono (fun a b x => by obtain ⟨t, y1, y2, q, e, z⟩ := x; exact ⟨t, y1, y2, q, e, .tail _ z⟩) hy1) ?_
          intro D2 h2 tk2 F9 N9 hoff9
          repeat' (first | (k_unfold; (try dsimp only)) | walk1)
          refine hret _ _ _ _ (by k_asm) (by k_asm) ⟨⟨D2, R', rfl, ⟨ys, _, .head _, hy2⟩, hperm.trans hRp, hpw, fun p hp => ?_⟩, WG9.sub (fun _ hp => .tail _ (.tail _ hp)), K8.cons.cons⟩
          by_cases hpm : p.1 ∈ l.muts
          · obtain ⟨o, ho, _⟩ := WG9.mutsIn _ hpm
            exact hoff9 (p.1, o) (.tail _ ho)
          · exact hoff9 _ (.tail _ (K8 _ hp hpm))
        · have hrn2 : ¬ r < now := by assumption
          obtain rfl : now = r := by omega
          have WG9 : WheelIn w nw l size (later E now) (some now) given := WG6
          have hfa8 := hfa
          have hRA8 := hRA
          have K8 := hK
          rename Fr _ _ _ _ => F8
          rename News _ _ _ _ => N8
          refine Stop.mk ?_
          k_fold
          refine' comp_three (h₀ := g1) (L := L1) (m := fun y => if y = Str.ofString "found" then some (Value.ref fa) else if y = Str.ofString "key" then v1 else if y = Str.ofString "time" then v2 else if y = Str.ofString "order" then v3 else List.lookup y [(Str.ofString "now", Value.int now tkn), (Str.ofString "self", Value.ref l.x)]) rfl ?hclos ?hcell ?hkind ?hnames ?hx1 ?hx2 ?hx3 ?hd ?_ ?hs
          case hclos => with_unfolding_all rfl
          case hcell => decide
          case hkind => with_unfolding_all rfl
          case hnames => decide
          case hx1 => with_unfolding_all rfl
          case hx2 => with_unfolding_all rfl
          case hx3 => with_unfolding_all rfl
          case hd => decide
          case hs => intro _; with_unfolding_all rfl
          repeat' (first | (k_unfold; (try dsimp only)) | walk1)
          refine Stop.mk (sorted_rows (by k_asm) (by k_asm) hfa8 hRA8 hRn hRl64 ?_)
          intro D c h' vs' R' F' N' hlt hRA' hperm hpw
          obtain ⟨ys, hy1, hy2⟩ := rows_last hRA'
          refine Src3.mk F' N' (.head _) (by rw [List.size_toArray, hRA'.length, hperm.length_eq]; omega) (paired_mono (fun a b x => by obtain ⟨t, y1, y2, q, e, z⟩ := x; exact ⟨t, y1, y2, q, e, .tail _ z⟩) hy1) ?_
          intro D2 h2 tk2 F9 N9 hoff9
          repeat' (first | (k_unfold; (try dsimp only)) | walk1)
          refine hret _ _ _ _ (by k_asm) (by k_asm) ⟨⟨D2, R', rfl, ⟨ys, _, .head _, hy2⟩, hperm.trans hRp, hpw, fun p hp => ?_⟩, WG9.sub (fun _ hp => .tail _ (.tail _ hp)), K8.cons.cons⟩
          by_cases hpm : p.1 ∈ l.muts
          · obtain ⟨o, ho, _⟩ := WG9.mutsIn _ hpm
            exact hoff9 (p.1, o) (.tail _ ho)
          · exact hoff9 _ (.tail _ (K8 _ hp hpm))
end Mine
end
section
namespace Mine
section
variable {prog : Program} {w : World} {A : Around} {E : Value → Shared → Prop} {s : Shared} {h₀ : Heap} {L a : Addr} {m : Str → Option Value} {news : Led}
theorem list_set {its : List Value} {n : Nat} {k : Int} {t : Tok} {v : Value} {q : List Value} {Q : Unit → Shared → Prop} (F : Fr h₀ L s.heap m) (N : News h₀ L s.heap news) (hm : (a, W.listOf its.toArray n) ∈ news) (h0 : 0 ≤ k) (hfit : k < 2 ^ 63) (e : ki_setL its k.toNat v = some q)
    (h : ∀ h', Fr h₀ L h' m → News h₀ L h' ((a, W.listOf q.toArray n) :: Foc news a) → Q () { s with heap := h' }) : wpAny (model prog w) A (setItem (.ref a) (.int k t) v) Q E s :=
  ki_set (its := its.toArray) F (news_foc N hm) h0 hfit e upd_foc h
theorem lst_item {its : List Value} {n : Nat} {k : Int} {value slice : PySem.Expr} {u : Tok} {v : Value} {Q : Value → Shared → Prop} (N : News h₀ L s.heap news) (hm : (a, W.listOf its.toArray n) ∈ news) (h0 : 0 ≤ k) (hhi : k < 2 ^ 63) (hx : its[k.toNat]? = some v) (h : Q v s)
    (hs : subscripted slice false (.ref a) (.int k u) = operate [.ref a, .int k u] (getItem (.ref a) (.int k u)) := by with_unfolding_all rfl) : wpAny (model prog w) A (subscriptTail value slice (.ref a) (.int k u)) Q E s :=
  list_item N hm h0 hhi (by rw [List.getElem?_toArray]; exact hx) h hs
theorem tup_item {its : List Value} {n : Nat} {k : Int} {value slice : PySem.Expr} {u : Tok} {v : Value} {Q : Value → Shared → Prop} (N : News h₀ L s.heap news) (hm : (a, tupO its n) ∈ news) (h0 : 0 ≤ k) (hhi : k < 2 ^ 63) (hx : its[k.toNat]? = some v) (h : Q v s)
    (hs : subscripted slice false (.ref a) (.int k u) = operate [.ref a, .int k u] (getItem (.ref a) (.int k u)) := by with_unfolding_all rfl) : wpAny (model prog w) A (subscriptTail value slice (.ref a) (.int k u)) Q E s :=
  have ht : IsTup s.heap a its.toArray := ⟨_, (N _ hm).1, rfl, n, rfl⟩
  tail_any ht.typeIs slot_tuple_getitem.lookup (getItem_tuple (j := k.toNat) ht (by omega) hhi (by
    have hl := (List.getElem?_eq_some_iff.mp hx).1
    have e : (if k < 0 then k + ((its.toArray.size : Nat) : Int) else k) = k := if_neg (by omega)
    have e2 : (decide (0 ≤ k) && decide (k < ((its.toArray.size : Nat) : Int))) = true := by rw [List.size_toArray, Bool.and_eq_true, decide_eq_true_eq, decide_eq_true_eq]; omega
    show (if (decide (0 ≤ (if k < 0 then k + ((its.toArray.size : Nat) : Int) else k)) && decide ((if k < 0 then k + ((its.toArray.size : Nat) : Int) else k) < ((its.toArray.size : Nat) : Int))) = true then some (if k < 0 then k + ((its.toArray.size : Nat) : Int) else k).toNat else none) = some k.toNat
    rw [e, if_pos e2]) (by rw [List.getElem?_toArray]; exact hx) h) hs
end
section
variable {M : Model} {A : Around} {E : Value → Shared → Prop} {s : Shared} {h₀ : Heap} {L a : Addr} {m : Str → Option Value} {cn : Str} {cs : Scope} {ccd : Value} {cl : List (Str × Addr)}
  {x : Str} {v : Value} {Q : Unit → Shared → Prop} {news : Led} {c : Addr} {o : Obj} {v₀ : Option Value}
theorem cell_store (F : Fr h₀ L s.heap m) (N : News h₀ L s.heap news) (hc : cl.lookup x = some c) (hm : (c, o) ∈ news) (hd : o.data = .cell v₀)
    (h : ∀ h' o', Fr h₀ L h' m → News h₀ L h' ((c, o') :: Foc news c) → o'.data = .cell (some v) → Q () { s with heap := h' })
    (hk : cs.kind = .function := by rfl) (hx : (envX cn cs L a ccd cl).kindOf x = some .cell := by rfl) : wpAny M A (storeName (envX cn cs L a ccd cl) x v) Q E s :=
  storeX_C F (news_foc N hm) hc updF_foc hd h hk hx
end
end Mine
end
section
namespace Mine
open Classical in
/-- the row at v answers q -/
noncomputable def pq (news : Led) (q : Row → Bool) (v : Value) : Bool := decide (∃ r, RowV news v r ∧ q r = true)
theorem ints_inj : ∀ {vs : List Value} {a b : List Int}, IntsAre vs a → IntsAre vs b → a = b
  | _, _, _, .nil, .nil => rfl
  | _, _, _, .cons n t h, .cons _ _ h' => by rw [ints_inj h h']
theorem row_inj {news : Led} (U : Uq news) {v : Value} {r r' : Row} (h : RowV news v r) (h' : RowV news v r') : r = r' := by
  obtain ⟨b, its, n, rfl, hm, hi⟩ := h
  obtain ⟨b', its', n', e, hm', hi'⟩ := h'
  cases e
  have e := U _ _ _ hm hm'
  have e2 : its = its' := by
    have := congrArg Obj.data e
    simp only [Data.seq.injEq] at this
    simpa using this.1
  subst e2
  have := ints_inj hi hi'
  simp only [rowL, List.cons.injEq, and_true] at this
  exact Prod.ext this.1 (Prod.ext this.2.1 this.2.2)
open Classical in
theorem pq_at {news : Led} (U : Uq news) {q : Row → Bool} {v : Value} {r : Row} (h : RowV news v r) : pq news q v = q r := by
  unfold pq
  cases e : q r with
  | true => exact decide_eq_true ⟨r, h, e⟩
  | false => exact decide_eq_false fun ⟨r', h', e'⟩ => by rw [row_inj U h h', e'] at e; cases e
theorem rows_filter {news : Led} (U : Uq news) {q : Row → Bool} : ∀ {vs : List Value} {R : List Row}, RowsAre news vs R → RowsAre news (vs.filter (pq news q)) (R.filter q)
  | _, _, .nil => .nil
  | _, _, .cons (a := v) (b := r) x h => by
    have ih := rows_filter U (q := q) h
    have e := pq_at U (q := q) x
    cases hq : q r with
    | true =>
      rw [List.filter_cons_of_pos (by rw [e, hq]), List.filter_cons_of_pos (by rw [hq])]
      exact .cons x ih
    | false =>
      rw [List.filter_cons_of_neg (by rw [e, hq]; simp), List.filter_cons_of_neg (by rw [hq]; simp)]
      exact ih
theorem paired_eq : ∀ {vs ys : List Value}, Paired (fun v y => y = v) vs ys → ys = vs
  | _, _, .nil => rfl
  | _, _, .cons h t => by rw [h, paired_eq t]
/-- y is the number that f tells of the row at v -/
def GI (news : Led) (f : Row → Int) (v y : Value) : Prop := ∃ r t, RowV news v r ∧ y = .int (f r) t
theorem paired_ints {news : Led} (U : Uq news) {f : Row → Int} : ∀ {vs ys : List Value} {R : List Row}, RowsAre news vs R → Paired (GI news f) vs ys → IntsAre ys (R.map f)
  | _, _, _, .nil, .nil => .nil
  | _, _, _, .cons x h, .cons y t => by
    obtain ⟨r, tt, h1, rfl⟩ := y
    rw [row_inj U x h1]
    exact .cons _ _ (paired_ints U h t)
theorem rows_mem {news : Led} : ∀ {vs : List Value} {R : List Row} {v : Value}, RowsAre news vs R → v ∈ vs → ∃ r, r ∈ R ∧ RowV news v r
  | _, _, _, .cons x h, hv => by
    rcases List.mem_cons.mp hv with rfl | hv
    · exact ⟨_, .head _, x⟩
    · obtain ⟨r, h1, h2⟩ := rows_mem h hv
      exact ⟨r, .tail _ h1, h2⟩
end Mine
end
section
local macro_rules | `(tactic| k_mem) => `(tactic| assumption)
local macro_rules | `(tactic| walk_at "getMethod ref") => `(tactic| (k_here; (with_reducible show wpAny _ _ (getMethod (Value.ref _) (PySem.Str.ofString "pop") _) _ _ _); k_dflt (refine' kob_method (knd := intKind _ _) PySem.F.slot_dict_pop ?ty ?N ?m ?d ?_; (case N => k_asm); (case m => assumption); (case d => assumption); (case ty => exact PySem.F.type_dict_pop))))
local macro_rules | `(tactic| walk_at "exec For") => `(tactic| (refine wpAny_For ?_ ?hs; (case hs => (intro _; with_unfolding_all rfl))))
local macro_rules | `(tactic| walk_at "exec For Name Tuple cons nil") => `(tactic| (refine wpAny_For ?_ ?hs; (case hs => (intro _; with_unfolding_all rfl))))
local macro_rules | `(tactic| walk_at "exec For Name Call cons nil") => `(tactic| (refine wpAny_For ?_ ?hs; (case hs => (intro _; with_unfolding_all rfl))))
local macro_rules | `(tactic| walk_at "exec For Name Call cons cons") => `(tactic| (refine wpAny_For ?_ ?hs; (case hs => (intro _; with_unfolding_all rfl))))
local macro_rules | `(tactic| walk_at "call ref") => `(tactic| (k_here; refine Mine.Stop.out ?_))
local macro_rules | `(tactic| walk_at "pyIter ref") => `(tactic| (k_here; refine Mine.Stop.out ?_))
local macro_rules | `(tactic| walk_at "compareOp In int ref") => `(tactic| (k_here; refine Mine.Stop.out ?_))
local macro_rules | `(tactic| walk_at "call builtin:dict.pop") => `(tactic| (k_here; refine Mine.Stop.out ?_))
local macro_rules | `(tactic| walk_at "call builtin:list.remove") => `(tactic| (k_here; refine Mine.Stop.out ?_))
local macro_rules | `(tactic| walk_at "call builtin:list.append") => `(tactic| (k_here; refine Mine.Stop.out ?_))
local macro_rules | `(tactic| walk_at "setItem ref int ref") => `(tactic| (k_here; refine Mine.Stop.out ?_))
local macro_rules | `(tactic| walk_at "subscriptTail") => `(tactic| (k_here; (with_reducible show wpAny _ _ (subscriptTail _ _ (Value.ref _) (Value.int (Int.fmod _ _) _)) _ _ _); refine Mine.Stop.out ?_))
local macro_rules | `(tactic| walk_at "setAttr ref") => `(tactic| (k_here; refine Mine.Stop.out ?_))
local macro_rules | `(tactic| walk_at "subscriptTail") => `(tactic| (k_here; (with_reducible show wpAny _ _ (subscriptTail _ _ (Value.ref _) (Value.int _ _)) _ _ _); k_dflt (refine' kda_item (knd := intKind _ _) ?N ?m ?d ?k ?v ?_; (case N => k_asm); (case m => k_mem); (case d => assumption); (case k => exact intKind_is _ _ _ _); (case v => assumption))))
local macro_rules | `(tactic| walk_at "exec Assign cons ListComp") => `(tactic| (k_here; refine Mine.Stop.out ?_))
local macro_rules | `(tactic| walk_at "eval ListComp") => `(tactic| (k_here; refine Mine.Stop.out ?_))
local macro_rules | `(tactic| walk_at "compareOp NotEq ref ref") => `(tactic| (k_here; refine Mine.Stop.out ?_))
local macro_rules | `(tactic| walk_at "compareOp Eq ref ref") => `(tactic| (k_here; refine Mine.Stop.out ?_))
local macro_rules | `(tactic| walk_at "call builtin:sorted") => `(tactic| (k_here; refine Mine.Stop.out ?_))
local macro_rules | `(tactic| walk_at "call builtin:min") => `(tactic| (k_here; refine Mine.Stop.out ?_))
local macro_rules | `(tactic| walk_at "call type:range") => `(tactic| (k_here; refine Mine.Stop.out ?_))
local macro_rules | `(tactic| walk_at "call type:list") => `(tactic| (k_here; refine Mine.Stop.out ?_))
local macro_rules | `(tactic| walk_at "binaryOp Add ref ref") => `(tactic| (k_here; refine Mine.Stop.out ?_))
local macro_rules | `(tactic| walk_at "subscriptTail") => `(tactic| (k_here; (with_reducible show wpAny _ _ (subscriptTail _ _ (Value.ref _) (Value.int _ _)) _ _ _); refine Mine.Stop.out ?_))
local macro_rules | `(tactic| walk_at "setItem ref int") => `(tactic| (k_here; refine Mine.Stop.out ?_))
local macro_rules | `(tactic| walk_at "call builtin:len") => `(tactic| (k_here; refine Mine.Stop.out ?_))
local macro_rules | `(tactic| walk_at "call ref") => `(tactic| (k_here; refine Mine.Stop.out ?_))
namespace Mine
/-- the pool of drawn numbers: two ints at src -/
def Pool (news : Led) (src : Addr) : Prop := ∃ (a b : Int) (ta tb : Tok) (n : Nat), (src, W.listOf #[.int a ta, .int b tb] n) ∈ news ∧ 0 ≤ a ∧ 0 ≤ b ∧ b < 2147483647
theorem Pool.sub {news news' : Led} {src : Addr} (x : Pool news src) (hs : ∀ p ∈ news, p ∈ news') : Pool news' src := let ⟨a, b, ta, tb, n, h, r⟩ := x; ⟨a, b, ta, tb, n, hs _ h, r⟩
theorem fmod_lo {x t : Int} (h : 0 < t) : 0 ≤ x.fmod t := by
  rw [Int.fmod_eq_emod_of_nonneg _ (by omega)]
  exact Int.emod_nonneg _ (by omega)
theorem fmod_hi {x t : Int} (h : 0 < t) : x.fmod t < t := by
  rw [Int.fmod_eq_emod_of_nonneg _ (by omega)]
  exact Int.emod_lt_of_pos _ h
set_option maxRecDepth 100000 in
set_option maxHeartbeats 8000000 in
theorem take_ctr (w : World) (src : Addr) (top : Int) (tkt : Tok) (ht : 1 ≤ top) (ht2 : top ≤ 1000) :
    Ctr 1 w 93 [.ref src, .int top tkt] (fun news => Pool news src)
      (fun news r news' => (∃ d t, r = .int d t ∧ 0 ≤ d ∧ d < top) ∧ Pool news' src ∧ Keep [src] news news') := by
  unfold Ctr
  intro p loose mean mg mb dp un gd cn cs a ccd cl outer A₀ base h₀ L m news s Q E9 B F X N T hk hW hd9 hu9 hret
  obtain ⟨xa, xb, ta, tb, n, hsrc, ha, hb, hb2⟩ := hW
  refine wpAny_call ?_
  k_dflt ktr_enter
  rename_i g1 L1 hp1 FG1 F1 N1 B1 X1 T1
  have F1' : Fr g1 L1 hp1 (fun y => List.lookup y [(Str.ofString "top", Value.int top tkt), (Str.ofString "source", Value.ref src)]) := F1
  clear F1
  repeat' (first | (k_unfold; (try dsimp only)) | walk1)
  refine Stop.mk (list_item (v := .int xa ta) (by k_asm) hsrc (by decide) (by decide) rfl ?_)
  repeat' (first | (k_unfold; (try dsimp only)) | walk1)
  · refine Stop.mk (list_item (v := .int xa ta) (by k_asm) hsrc (by decide) (by decide) rfl ?_)
    repeat' (first | (k_unfold; (try dsimp only)) | walk1)
    refine Stop.mk (list_item (v := .int xa ta) (by k_asm) hsrc (by decide) (by decide) rfl ?_)
    repeat' (first | (k_unfold; (try dsimp only)) | walk1)
    refine Stop.mk (list_set (by k_asm) (by k_asm) hsrc (by decide) (by decide) rfl ?_)
    intro h2 F2 N2
    repeat' (first | (k_unfold; (try dsimp only)) | walk1)
    refine hret _ _ _ _ (by k_asm) (by k_asm) ⟨⟨_, _, rfl, fmod_lo (by omega), fmod_hi (by omega)⟩, ⟨_, _, _, _, _, .head _, ?_, hb, hb2⟩, Keep.refl.focus (.head _)⟩
    rw [Int.fdiv_eq_ediv_of_nonneg _ (by omega)]
    exact Int.ediv_nonneg ha (by omega)
  · refine Stop.mk (list_item (v := .int xb tb) (by k_asm) hsrc (by decide) (by decide) rfl ?_)
    repeat' (first | (k_unfold; (try dsimp only)) | walk1)
    refine Stop.mk (list_set (by k_asm) (by k_asm) hsrc (by decide) (by decide) rfl ?_)
    intro h2 F2 N2
    repeat' (first | (k_unfold; (try dsimp only)) | walk1)
    exact hret _ _ _ _ (by k_asm) (by k_asm) ⟨⟨_, _, rfl, fmod_lo (by omega), fmod_hi (by omega)⟩, ⟨_, _, _, _, _, .head _, ha, fmod_lo (by decide), fmod_hi (by decide)⟩, Keep.refl.focus (.head _)⟩
end Mine
end
section
local macro_rules | `(tactic| k_mem) => `(tactic| assumption)
local macro_rules | `(tactic| walk_at "getMethod ref") => `(tactic| (k_here; (with_reducible show wpAny _ _ (getMethod (Value.ref _) (PySem.Str.ofString "pop") _) _ _ _); k_dflt (refine' kob_method (knd := intKind _ _) PySem.F.slot_dict_pop ?ty ?N ?m ?d ?_; (case N => k_asm); (case m => assumption); (case d => assumption); (case ty => exact PySem.F.type_dict_pop))))
local macro_rules | `(tactic| walk_at "exec For") => `(tactic| (refine wpAny_For ?_ ?hs; (case hs => (intro _; with_unfolding_all rfl))))
local macro_rules | `(tactic| walk_at "exec For Name Tuple cons nil") => `(tactic| (refine wpAny_For ?_ ?hs; (case hs => (intro _; with_unfolding_all rfl))))
local macro_rules | `(tactic| walk_at "exec For Name Call cons nil") => `(tactic| (refine wpAny_For ?_ ?hs; (case hs => (intro _; with_unfolding_all rfl))))
local macro_rules | `(tactic| walk_at "exec For Name Call cons cons") => `(tactic| (refine wpAny_For ?_ ?hs; (case hs => (intro _; with_unfolding_all rfl))))
local macro_rules | `(tactic| walk_at "call ref") => `(tactic| (k_here; refine Mine.Stop.out ?_))
local macro_rules | `(tactic| walk_at "pyIter ref") => `(tactic| (k_here; refine Mine.Stop.out ?_))
local macro_rules | `(tactic| walk_at "compareOp In int ref") => `(tactic| (k_here; refine Mine.Stop.out ?_))
local macro_rules | `(tactic| walk_at "call builtin:dict.pop") => `(tactic| (k_here; refine Mine.Stop.out ?_))
local macro_rules | `(tactic| walk_at "call builtin:list.remove") => `(tactic| (k_here; refine Mine.Stop.out ?_))
local macro_rules | `(tactic| walk_at "call builtin:list.append") => `(tactic| (k_here; refine Mine.Stop.out ?_))
local macro_rules | `(tactic| walk_at "setItem ref int ref") => `(tactic| (k_here; refine Mine.Stop.out ?_))
local macro_rules | `(tactic| walk_at "subscriptTail") => `(tactic| (k_here; (with_reducible show wpAny _ _ (subscriptTail _ _ (Value.ref _) (Value.int (Int.fmod _ _) _)) _ _ _); refine Mine.Stop.out ?_))
local macro_rules | `(tactic| walk_at "setAttr ref") => `(tactic| (k_here; refine Mine.Stop.out ?_))
local macro_rules | `(tactic| walk_at "subscriptTail") => `(tactic| (k_here; (with_reducible show wpAny _ _ (subscriptTail _ _ (Value.ref _) (Value.int _ _)) _ _ _); k_dflt (refine' kda_item (knd := intKind _ _) ?N ?m ?d ?k ?v ?_; (case N => k_asm); (case m => k_mem); (case d => assumption); (case k => exact intKind_is _ _ _ _); (case v => assumption))))
local macro_rules | `(tactic| walk_at "exec Assign cons ListComp") => `(tactic| (k_here; refine Mine.Stop.out ?_))
local macro_rules | `(tactic| walk_at "eval ListComp") => `(tactic| (k_here; refine Mine.Stop.out ?_))
local macro_rules | `(tactic| walk_at "compareOp NotEq ref ref") => `(tactic| (k_here; refine Mine.Stop.out ?_))
local macro_rules | `(tactic| walk_at "compareOp Eq ref ref") => `(tactic| (k_here; refine Mine.Stop.out ?_))
local macro_rules | `(tactic| walk_at "call builtin:sorted") => `(tactic| (k_here; refine Mine.Stop.out ?_))
local macro_rules | `(tactic| walk_at "call builtin:min") => `(tactic| (k_here; refine Mine.Stop.out ?_))
local macro_rules | `(tactic| walk_at "call type:range") => `(tactic| (k_here; refine Mine.Stop.out ?_))
local macro_rules | `(tactic| walk_at "call type:list") => `(tactic| (k_here; refine Mine.Stop.out ?_))
local macro_rules | `(tactic| walk_at "binaryOp Add ref ref") => `(tactic| (k_here; refine Mine.Stop.out ?_))
local macro_rules | `(tactic| walk_at "subscriptTail") => `(tactic| (k_here; (with_reducible show wpAny _ _ (subscriptTail _ _ (Value.ref _) (Value.int _ _)) _ _ _); refine Mine.Stop.out ?_))
local macro_rules | `(tactic| walk_at "setItem ref int") => `(tactic| (k_here; refine Mine.Stop.out ?_))
local macro_rules | `(tactic| walk_at "call builtin:len") => `(tactic| (k_here; refine Mine.Stop.out ?_))
local macro_rules | `(tactic| walk_at "call ref") => `(tactic| (k_here; refine Mine.Stop.out ?_))
namespace Mine
set_option maxRecDepth 100000 in
set_option maxHeartbeats 8000000 in
theorem one_ctr (w : World) (src th : Addr) (ns : List Int) (h1 : 1 ≤ ns.length) (h2 : ns.length ≤ 1000) (hne : th ≠ src) :
    Ctr 2 w 100 [.ref src, .ref th] (fun news => Pool news src ∧ IntL news th ns)
      (fun news r news' => (∃ d t, r = .int d t ∧ d ∈ ns) ∧ Pool news' src ∧ Keep [src] news news') := by
  unfold Ctr
  intro p loose mean mg mb dp un gd cn cs a ccd cl outer A₀ base h₀ L m news s Q E9 B F X N T hk hW hd9 hu9 hret
  obtain ⟨hP, vs, n, hth, hi⟩ := hW
  have hlen := hi.length
  refine wpAny_call ?_
  k_dflt ktr_enter
  rename_i g1 L1 hp1 FG1 F1 N1 B1 X1 T1
  have F1' : Fr g1 L1 hp1 (fun y => List.lookup y [(Str.ofString "things", Value.ref th), (Str.ofString "source", Value.ref src)]) := F1
  clear F1
  repeat' (first | (k_unfold; (try dsimp only)) | walk1)
  refine Stop.mk (Calls.call_len_list (items := vs.toArray) ⟨_, (N1 _ hth).1, rfl, n, rfl⟩ (by rw [List.size_toArray]; omega) ?_)
  repeat' (first | (k_unfold; (try dsimp only)) | walk1)
  refine Stop.mk ((take_ctr w src (vs.toArray.size : Int) _ (by rw [List.size_toArray]; omega) (by rw [List.size_toArray]; omega)).use (by k_asm) (by k_asm) (by k_asm) (by k_asm) (by k_asm) rfl hP (by show dp + 1 + 4 < recursionLimit; omega) (by show un + 3 + 100 < cLine; omega) ?_)
  rintro r nw2 hp2 tk2 F2 N2 ⟨⟨d, t, rfl, hd0, hd1⟩, hP2, K2⟩
  have hth2 := K2 _ hth (by simpa using hne)
  rw [List.size_toArray] at hd1
  repeat' (first | (k_unfold; (try dsimp only)) | walk1)
  obtain ⟨dn, rfl⟩ := Int.eq_ofNat_of_zero_le hd0
  have hdl : dn < vs.length := by omega
  obtain ⟨k, tk, hk2, hv⟩ := ints_at hi (List.getElem?_eq_getElem hdl)
  refine Stop.mk (list_item (v := .int k tk) (by k_asm) hth2 (by omega) (by omega) (by rw [← hv]; simp [hdl]) ?_)
  repeat' (first | (k_unfold; (try dsimp only)) | walk1)
  exact hret _ _ _ _ (by k_asm) (by k_asm) ⟨⟨_, _, rfl, List.mem_of_getElem? hk2⟩, hP2, K2⟩
end Mine
end
section
local macro_rules | `(tactic| k_mem) => `(tactic| assumption)
local macro_rules | `(tactic| walk_at "getMethod ref") => `(tactic| (k_here; (with_reducible show wpAny _ _ (getMethod (Value.ref _) (PySem.Str.ofString "pop") _) _ _ _); k_dflt (refine' kob_method (knd := intKind _ _) PySem.F.slot_dict_pop ?ty ?N ?m ?d ?_; (case N => k_asm); (case m => assumption); (case d => assumption); (case ty => exact PySem.F.type_dict_pop))))
local macro_rules | `(tactic| walk_at "exec For") => `(tactic| (refine wpAny_For ?_ ?hs; (case hs => (intro _; with_unfolding_all rfl))))
local macro_rules | `(tactic| walk_at "exec For Name Tuple cons nil") => `(tactic| (refine wpAny_For ?_ ?hs; (case hs => (intro _; with_unfolding_all rfl))))
local macro_rules | `(tactic| walk_at "exec For Name Call cons nil") => `(tactic| (refine wpAny_For ?_ ?hs; (case hs => (intro _; with_unfolding_all rfl))))
local macro_rules | `(tactic| walk_at "exec For Name Call cons cons") => `(tactic| (refine wpAny_For ?_ ?hs; (case hs => (intro _; with_unfolding_all rfl))))
local macro_rules | `(tactic| walk_at "call ref") => `(tactic| (k_here; refine Mine.Stop.out ?_))
local macro_rules | `(tactic| walk_at "pyIter ref") => `(tactic| (k_here; refine Mine.Stop.out ?_))
local macro_rules | `(tactic| walk_at "compareOp In int ref") => `(tactic| (k_here; refine Mine.Stop.out ?_))
local macro_rules | `(tactic| walk_at "call builtin:dict.pop") => `(tactic| (k_here; refine Mine.Stop.out ?_))
local macro_rules | `(tactic| walk_at "call builtin:list.remove") => `(tactic| (k_here; refine Mine.Stop.out ?_))
local macro_rules | `(tactic| walk_at "call builtin:list.append") => `(tactic| (k_here; refine Mine.Stop.out ?_))
local macro_rules | `(tactic| walk_at "setItem ref int ref") => `(tactic| (k_here; refine Mine.Stop.out ?_))
local macro_rules | `(tactic| walk_at "subscriptTail") => `(tactic| (k_here; (with_reducible show wpAny _ _ (subscriptTail _ _ (Value.ref _) (Value.int (Int.fmod _ _) _)) _ _ _); refine Mine.Stop.out ?_))
local macro_rules | `(tactic| walk_at "setAttr ref") => `(tactic| (k_here; refine Mine.Stop.out ?_))
local macro_rules | `(tactic| walk_at "subscriptTail") => `(tactic| (k_here; (with_reducible show wpAny _ _ (subscriptTail _ _ (Value.ref _) (Value.int _ _)) _ _ _); k_dflt (refine' kda_item (knd := intKind _ _) ?N ?m ?d ?k ?v ?_; (case N => k_asm); (case m => k_mem); (case d => assumption); (case k => exact intKind_is _ _ _ _); (case v => assumption))))
local macro_rules | `(tactic| walk_at "exec Assign cons ListComp") => `(tactic| (k_here; refine Mine.Stop.out ?_))
local macro_rules | `(tactic| walk_at "eval ListComp") => `(tactic| (k_here; refine Mine.Stop.out ?_))
local macro_rules | `(tactic| walk_at "compareOp NotEq ref ref") => `(tactic| (k_here; refine Mine.Stop.out ?_))
local macro_rules | `(tactic| walk_at "compareOp Eq ref ref") => `(tactic| (k_here; refine Mine.Stop.out ?_))
local macro_rules | `(tactic| walk_at "call builtin:sorted") => `(tactic| (k_here; refine Mine.Stop.out ?_))
local macro_rules | `(tactic| walk_at "call builtin:min") => `(tactic| (k_here; refine Mine.Stop.out ?_))
local macro_rules | `(tactic| walk_at "call type:range") => `(tactic| (k_here; refine Mine.Stop.out ?_))
local macro_rules | `(tactic| walk_at "call type:list") => `(tactic| (k_here; refine Mine.Stop.out ?_))
local macro_rules | `(tactic| walk_at "binaryOp Add ref ref") => `(tactic| (k_here; refine Mine.Stop.out ?_))
namespace Mine
theorem bne_dec (a b : Int) : (a != b) = decide (a ≠ b) := by
  by_cases h : a = b <;> simp [h]
set_option maxRecDepth 100000 in
set_option maxHeartbeats 8000000 in
theorem without_ctr (w : World) (ra : Addr) (R : List Row) (key : Int) (tkk : Tok) (hz : R.length ≤ 1000) :
    Ctr 1 w 105 [.ref ra, .int key tkk] (fun news => ∃ vs n, (ra, W.listOf (List.toArray vs) n) ∈ news ∧ RowsAre news vs R)
      (fun news r news' => (∃ a vs n, r = .ref a ∧ (a, W.listOf (List.toArray vs) n) ∈ news' ∧ RowsAre news' vs (R.filter fun r => decide (r.2.2 ≠ key)) ∧ ∀ p ∈ news, p.1 ≠ a) ∧ Keep [] news news') := by
  unfold Ctr
  intro p loose mean mg mb dp un gd cn cs a ccd cl outer A₀ base h₀ L m news s Q E9 B F X N T hk hW hd9 hu9 hret
  obtain ⟨vs, n, hra, hR⟩ := hW
  refine wpAny_call ?_
  k_dflt (refine' code_defC ?k1 ?k2 ?k3 ?k4 ?k5 ?kA ?kF ?kK ?k6 ?k7 ?k8 ?k9 ?kB ?kD ?_ ?c2 ?c3 ?c4; (case kA => exact rfl); (case kF => exact rfl); (case kK => assumption); (case k1 => k_asm); (case k2 => k_asm); (case k3 => k_asm); (case k4 => k_asm); (case k5 => k_asm); (case k6 => k_is); (case k7 => k_is); (case k8 => ktr_room); (case k9 => exact BindsTo.of_eq rfl); (case kB => exact rfl); (case kD => decide +kernel); (case c2 => exact rfl); (case c3 => exact rfl); (case c4 => exact rfl); k_whole; intro g1 L1 hp1 tk1 cells' FG1 F1 N1 Y' B1 X1 T1 l1; k_cells Y'; (try simp only [List.cons_append, List.nil_append] at N1); (try dsimp only); (try k_fold))
  repeat' (first | (k_unfold; (try dsimp only)) | walk1)
  rename_i oc dc
  have F1' : Fr g1 L1 hp1 (fun y => if y = Str.ofString "rows" then some (Value.ref ra) else none) := F1
  have dc' : oc.data = .cell (some (.int key tkk)) := dc
  clear F1 dc
  have hra1 : (ra, W.listOf (List.toArray vs) n) ∈ (L1 + 1, oc) :: news := .tail _ hra
  have hR1 : RowsAre ((L1 + 1, oc) :: news) vs R := rows_mono (fun _ _ x => x.sub fun _ hp => .tail _ hp) hR
  have U1 := uq N1
  refine Stop.mk ?_
  k_fold
  refine' wpAny_ListComp_free (pq ((L1 + 1, oc) :: news) fun r => decide (r.2.2 ≠ key)) (fun v y => y = v) ?hclos ?hcell ?hkind ?hnames ?hx ?_ ?hs
  case hclos => with_unfolding_all rfl
  case hcell => decide
  case hkind => with_unfolding_all rfl
  case hnames => decide
  case hx => with_unfolding_all rfl
  case hs => intro _; with_unfolding_all rfl
  repeat' (first | (k_unfold; (try dsimp only)) | walk1)
  refine Stop.mk (comp_list (l := ra) rfl F1' N1 hra1 (by rw [List.size_toArray, hR.length]; exact hz) ?he ?hQ)
  case he =>
    intro v hv
    obtain ⟨r, hr, hrv⟩ := rows_mem hR1 hv
    have hpq := pq_at U1 (q := fun r => decide (r.2.2 ≠ key)) hrv
    obtain ⟨b, t1, t2, t3, nn, rfl, hb⟩ := hrv.three
    refine eltOk1 ?_ ?_
    · intro C s₃ m₃ E' F3 N3 hn hm
      rw [hpq]
      repeat' (first | (k_unfold; (try dsimp only)) | walk1)
      · exact bne_dec _ _
      · exact Keeps.of_toks _ _
    · intro C s₃ m₃ E' F3 N3 hn hm _
      repeat' (first | (k_unfold; (try dsimp only)) | walk1)
      exact Keeps.refl _
  case hQ =>
    intro D h' tk' ys nn F3 N3 hD hp
    have hys := paired_eq hp
    repeat' (first | (k_unfold; (try dsimp only)) | walk1)
    refine hret _ _ _ _ (by k_asm) (by k_asm) ⟨⟨D, ys.toList, nn, rfl, by rw [Array.toArray_toList]; exact .head _, ?_, fun p hp => hD _ (.tail _ hp)⟩, Keep.refl.cons.cons⟩
    rw [hys]
    exact rows_mono (fun _ _ x => x.sub fun _ hp => .tail _ hp) (rows_filter U1 hR1)
end Mine
end
section
local macro_rules | `(tactic| k_mem) => `(tactic| assumption)
local macro_rules | `(tactic| walk_at "getMethod ref") => `(tactic| (k_here; (with_reducible show wpAny _ _ (getMethod (Value.ref _) (PySem.Str.ofString "pop") _) _ _ _); k_dflt (refine' kob_method (knd := intKind _ _) PySem.F.slot_dict_pop ?ty ?N ?m ?d ?_; (case N => k_asm); (case m => assumption); (case d => assumption); (case ty => exact PySem.F.type_dict_pop))))
local macro_rules | `(tactic| walk_at "exec For") => `(tactic| (refine wpAny_For ?_ ?hs; (case hs => (intro _; with_unfolding_all rfl))))
local macro_rules | `(tactic| walk_at "exec For Name Tuple cons nil") => `(tactic| (refine wpAny_For ?_ ?hs; (case hs => (intro _; with_unfolding_all rfl))))
local macro_rules | `(tactic| walk_at "exec For Name Call cons nil") => `(tactic| (refine wpAny_For ?_ ?hs; (case hs => (intro _; with_unfolding_all rfl))))
local macro_rules | `(tactic| walk_at "exec For Name Call cons cons") => `(tactic| (refine wpAny_For ?_ ?hs; (case hs => (intro _; with_unfolding_all rfl))))
local macro_rules | `(tactic| walk_at "call ref") => `(tactic| (k_here; refine Mine.Stop.out ?_))
local macro_rules | `(tactic| walk_at "pyIter ref") => `(tactic| (k_here; refine Mine.Stop.out ?_))
local macro_rules | `(tactic| walk_at "compareOp In int ref") => `(tactic| (k_here; refine Mine.Stop.out ?_))
local macro_rules | `(tactic| walk_at "call builtin:dict.pop") => `(tactic| (k_here; refine Mine.Stop.out ?_))
local macro_rules | `(tactic| walk_at "call builtin:list.remove") => `(tactic| (k_here; refine Mine.Stop.out ?_))
local macro_rules | `(tactic| walk_at "call builtin:list.append") => `(tactic| (k_here; refine Mine.Stop.out ?_))
local macro_rules | `(tactic| walk_at "setItem ref int ref") => `(tactic| (k_here; refine Mine.Stop.out ?_))
local macro_rules | `(tactic| walk_at "subscriptTail") => `(tactic| (k_here; (with_reducible show wpAny _ _ (subscriptTail _ _ (Value.ref _) (Value.int (Int.fmod _ _) _)) _ _ _); refine Mine.Stop.out ?_))
local macro_rules | `(tactic| walk_at "setAttr ref") => `(tactic| (k_here; refine Mine.Stop.out ?_))
local macro_rules | `(tactic| walk_at "subscriptTail") => `(tactic| (k_here; (with_reducible show wpAny _ _ (subscriptTail _ _ (Value.ref _) (Value.int _ _)) _ _ _); k_dflt (refine' kda_item (knd := intKind _ _) ?N ?m ?d ?k ?v ?_; (case N => k_asm); (case m => k_mem); (case d => assumption); (case k => exact intKind_is _ _ _ _); (case v => assumption))))
local macro_rules | `(tactic| walk_at "exec Assign cons ListComp") => `(tactic| (k_here; refine Mine.Stop.out ?_))
local macro_rules | `(tactic| walk_at "eval ListComp") => `(tactic| (k_here; refine Mine.Stop.out ?_))
local macro_rules | `(tactic| walk_at "compareOp NotEq ref ref") => `(tactic| (k_here; refine Mine.Stop.out ?_))
local macro_rules | `(tactic| walk_at "compareOp Eq ref ref") => `(tactic| (k_here; refine Mine.Stop.out ?_))
local macro_rules | `(tactic| walk_at "call builtin:sorted") => `(tactic| (k_here; refine Mine.Stop.out ?_))
local macro_rules | `(tactic| walk_at "call builtin:min") => `(tactic| (k_here; refine Mine.Stop.out ?_))
local macro_rules | `(tactic| walk_at "call type:range") => `(tactic| (k_here; refine Mine.Stop.out ?_))
local macro_rules | `(tactic| walk_at "call type:list") => `(tactic| (k_here; refine Mine.Stop.out ?_))
local macro_rules | `(tactic| walk_at "binaryOp Add ref ref") => `(tactic| (k_here; refine Mine.Stop.out ?_))
local macro_rules | `(tactic| walk_at "subscriptTail") => `(tactic| (k_here; (with_reducible show wpAny _ _ (subscriptTail _ _ (Value.ref _) (Value.int _ _)) _ _ _); first | k_dflt (refine' Mine.tup_item ?N ?m ?h0 ?hhi ?hx ?_; (case N => k_asm); (case m => assumption); (case h0 => decide); (case hhi => decide); (case hx => with_unfolding_all rfl)) | k_dflt (refine' Mine.lst_item ?N ?m ?h0 ?hhi ?hx ?_; (case N => k_asm); (case m => assumption); (case h0 => decide); (case hhi => decide); (case hx => with_unfolding_all rfl)) | refine Mine.Stop.out ?_))
local macro_rules | `(tactic| walk_at "setItem ref int") => `(tactic| (k_here; refine Mine.Stop.out ?_))
local macro_rules | `(tactic| walk_at "call builtin:len") => `(tactic| (k_here; refine Mine.Stop.out ?_))
local macro_rules | `(tactic| walk_at "call ref") => `(tactic| (k_here; refine Mine.Stop.out ?_))
namespace Mine
theorem WheelG.keepG {w : World} {news news' : Led} {l : WLoc} {size : Nat} {E : List Ent} {P : Nat → Int → Prop} {reached : Option Int} {given : Int} {mu : List Addr} (W : WheelG w news l size E P reached given) (h1 : ∀ a ∈ l.all, a ∉ mu) (h2 : ∀ v is, TupI news v is → TupI news' v is) (K : Keep mu news news') : WheelG w news' l size E P reached given where
  nodup := W.nodup
  inst := K _ W.inst (h1 _ (by simp [WLoc.all]))
  dict := by
    obtain ⟨h1', h2, h3, h4, h5, h6, k1, k2, k3, k4, k5, k6, ts, tg, n, rv, a, b⟩ := W.dict
    exact ⟨h1', h2, h3, h4, h5, h6, k1, k2, k3, k4, k5, k6, ts, tg, n, rv, a, K _ b (h1 _ (by simp [WLoc.all]))⟩
  slots := let ⟨n, x⟩ := W.slots; ⟨n, K _ x (h1 _ (by simp [WLoc.all]))⟩
  size1 := W.size1
  size9 := W.size9
  len := W.len
  lo := W.lo
  lists := fun i a e => by
    have hm := List.mem_of_getElem? e
    obtain ⟨ns, hl, r⟩ := W.lists i a e
    refine ⟨ns, hl.keep K (h1 _ ?_), r⟩
    unfold WLoc.all
    exact .tail _ (.tail _ (.tail _ (.tail _ hm)))
  ents := let ⟨kvs, o, a, b, c⟩ := W.ents; ⟨kvs, o, K _ a (h1 _ (by simp [WLoc.all])), b, c.mono h2⟩
  keys := W.keys
theorem TupI.keep1 {news news' : Led} {c : Addr} {o : Obj} (U : Uq news) (hc : (c, o) ∈ news) (hcls : o.cls ≠ .type "tuple") (K : Keep [c] news news') {v : Value} {is : List Int} (x : TupI news v is) : TupI news' v is := by
  obtain ⟨b, its, n, e, hm, hi⟩ := x
  refine ⟨b, its, n, e, K _ hm fun hb => ?_, hi⟩
  rw [List.mem_singleton] at hb
  replace hb : b = c := hb
  subst hb
  exact hcls (by rw [U _ _ _ hc hm])
theorem WheelG.keep1 {w : World} {news news' : Led} {l : WLoc} {size : Nat} {E : List Ent} {P : Nat → Int → Prop} {reached : Option Int} {given : Int} {c : Addr} {o : Obj} (W : WheelG w news l size E P reached given) (U : Uq news) (hc : (c, o) ∈ news) (hcls : o.cls ≠ .type "tuple") (hn : c ∉ l.all) (K : Keep [c] news news') : WheelG w news' l size E P reached given :=
  W.keepG (fun a ha h => hn (by rw [List.mem_singleton] at h; exact h ▸ ha)) (fun _ _ x => x.keep1 U hc hcls K) K
/-- the law's things: the pool, the rows, the state, the wheel -/
structure LawIn (w : World) (news : Led) (src ra sa : Addr) (l : WLoc) (size : Nat) (E : List Ent) (reached : Option Int) (given now : Int) : Prop where
  pool : Pool news src
  rows : ∃ vs n, (ra, W.listOf (List.toArray vs) n) ∈ news ∧ RowsAre news vs (E.map rowOf)
  state : ∃ t1 t2 n, (sa, W.listOf #[.int now t1, .int given t2] n) ∈ news
  wheel : WheelIn w news l size E reached given
  src_sa : src ≠ sa
  src_ra : src ≠ ra
  ra_sa : ra ≠ sa
  src_l : src ∉ l.all
  sa_l : sa ∉ l.all
  ra_l : ra ∉ l.all
  rch : ∀ r, reached = some r → -(2 ^ 60) ≤ r ∧ r ≤ now
  keys : ∀ e ∈ E, 0 ≤ e.1 ∧ e.1 < 7
  times : ∀ e ∈ E, e.2.1 ≤ now + 40
theorem len7 {E : List Ent} (h1 : (E.map (·.1)).Nodup) (h2 : ∀ e ∈ E, 0 ≤ e.1 ∧ e.1 < 7) : E.length ≤ 7 := by
  have := nodup_len h1 (l' := [0, 1, 2, 3, 4, 5, 6]) (fun x hx => by
    obtain ⟨e, he, rfl⟩ := List.mem_map.mp hx
    have := h2 e he
    simp only [List.mem_cons, List.not_mem_nil, or_false]
    omega)
  simpa using this
theorem LawIn.draw {w : World} {news news' : Led} {src ra sa : Addr} {l : WLoc} {size : Nat} {E : List Ent} {reached : Option Int} {given now : Int} (x : LawIn w news src ra sa l size E reached given now) (U : Uq news) (hp : Pool news' src) (K : Keep [src] news news') : LawIn w news' src ra sa l size E reached given now where
  pool := hp
  rows := by
    obtain ⟨vs, n, h1, h2⟩ := x.rows
    obtain ⟨a, b, ta, tb, n', hs, _⟩ := x.pool
    exact ⟨vs, n, K _ h1 (by simpa using Ne.symm x.src_ra), rows_mono (fun _ _ y => y.keep1 U hs (by simp) K) h2⟩
  state := by
    obtain ⟨t1, t2, n, h1⟩ := x.state
    exact ⟨t1, t2, n, K _ h1 (by simpa using Ne.symm x.src_sa)⟩
  wheel := by
    obtain ⟨a, b, ta, tb, n', hs, _⟩ := x.pool
    exact WheelG.keep1 x.wheel U hs (by simp) x.src_l K
  src_sa := x.src_sa
  src_ra := x.src_ra
  ra_sa := x.ra_sa
  src_l := x.src_l
  sa_l := x.sa_l
  ra_l := x.ra_l
  rch := x.rch
  keys := x.keys
  times := x.times
theorem muts_all {l : WLoc} {a : Addr} (h : a ∈ l.muts) : a ∈ l.all := by
  unfold WLoc.muts at h
  unfold WLoc.all
  simp only [List.mem_cons] at h ⊢
  rcases h with h | h | h | h
  · exact .inr (.inl h)
  · exact .inr (.inr (.inr (.inl h)))
  · exact .inr (.inr (.inr (.inr (.inl h))))
  · exact .inr (.inr (.inr (.inr (.inr h))))
theorem map_drop (E : List Ent) (key : Int) : (dropKey E key).map rowOf = (E.map rowOf).filter fun r => decide (r.2.2 ≠ key) := by
  unfold dropKey
  rw [List.filter_map]
  rfl
theorem map_later (E : List Ent) (now : Int) : (later E now).map rowOf = (E.map rowOf).filter fun r => decide (now < r.1) := by
  unfold later
  rw [List.filter_map]
  rfl
theorem due_map (E : List Ent) (now : Int) : dueRows E now = (E.map rowOf).filter fun r => decide (r.1 ≤ now) := by
  unfold dueRows
  rw [List.filter_map]
  rfl
theorem Pool.keep {news news' : Led} {src : Addr} {mu : List Addr} (x : Pool news src) (K : Keep mu news news') (hn : src ∉ mu) : Pool news' src := let ⟨a, b, ta, tb, n, h, r⟩ := x; ⟨a, b, ta, tb, n, K _ h hn, r⟩
theorem LawIn.sub {w : World} {news news' : Led} {src ra sa : Addr} {l : WLoc} {size : Nat} {E : List Ent} {reached : Option Int} {given now : Int} (x : LawIn w news src ra sa l size E reached given now) (hs : ∀ p ∈ news, p ∈ news') : LawIn w news' src ra sa l size E reached given now where
  pool := x.pool.sub hs
  rows := by
    obtain ⟨vs, n, h1, h2⟩ := x.rows
    exact ⟨vs, n, hs _ h1, rows_mono (fun _ _ y => y.sub hs) h2⟩
  state := by
    obtain ⟨t1, t2, n, h1⟩ := x.state
    exact ⟨t1, t2, n, hs _ h1⟩
  wheel := WheelG.sub x.wheel hs
  src_sa := x.src_sa
  src_ra := x.src_ra
  ra_sa := x.ra_sa
  src_l := x.src_l
  sa_l := x.sa_l
  ra_l := x.ra_l
  rch := x.rch
  keys := x.keys
  times := x.times
theorem WheelG.allIn {w : World} {news : Led} {l : WLoc} {size : Nat} {E : List Ent} {P : Nat → Int → Prop} {reached : Option Int} {given : Int} (W : WheelG w news l size E P reached given) : ∀ a ∈ l.all, ∃ o, (a, o) ∈ news := by
  intro a ha
  by_cases hm : a ∈ l.muts
  · obtain ⟨o, h, _⟩ := W.mutsIn a hm
    exact ⟨o, h⟩
  · unfold WLoc.all at ha
    unfold WLoc.muts at hm
    simp only [List.mem_cons, not_or] at ha hm
    rcases ha with rfl | h | rfl | h | h | h
    · exact ⟨_, W.inst⟩
    · exact absurd h hm.1
    · obtain ⟨n, h⟩ := W.slots
      exact ⟨_, h⟩
    · exact absurd h hm.2.1
    · exact absurd h hm.2.2.1
    · exact absurd h hm.2.2.2
theorem LawIn.fresh {w : World} {nw nw' : Led} {src ra sa : Addr} {l : WLoc} {size : Nat} {E : List Ent} {reached : Option Int} {given now : Int} (hs : ∀ p ∈ nw, p ∈ nw') (P : Pool nw src) (St : ∃ t1 t2 n, (sa, W.listOf #[.int now t1, .int given t2] n) ∈ nw) (WL : WheelIn w nw l size E reached given)
    (hf : ∀ p ∈ nw, p.1 ≠ ra) (R : ∃ vs n, (ra, W.listOf (List.toArray vs) n) ∈ nw' ∧ RowsAre nw' vs (E.map rowOf)) (ne : src ≠ sa) (h1 : src ∉ l.all) (h2 : sa ∉ l.all) (rch : ∀ r, reached = some r → -(2 ^ 60) ≤ r ∧ r ≤ now) (keys : ∀ e ∈ E, 0 ≤ e.1 ∧ e.1 < 7) (times : ∀ e ∈ E, e.2.1 ≤ now + 40) : LawIn w nw' src ra sa l size E reached given now where
  pool := P.sub hs
  rows := R
  state := by
    obtain ⟨t1, t2, n, h⟩ := St
    exact ⟨t1, t2, n, hs _ h⟩
  wheel := WheelG.sub WL hs
  src_sa := ne
  src_ra := by
    obtain ⟨a, b, ta, tb, n', h, _⟩ := P
    exact hf _ h
  ra_sa := by
    obtain ⟨t1, t2, n, h⟩ := St
    exact Ne.symm (hf _ h)
  src_l := h1
  sa_l := h2
  ra_l := fun h => by
    obtain ⟨o, ho⟩ := WL.allIn ra h
    exact hf _ ho rfl
  rch := rch
  keys := keys
  times := times
theorem told_none {E : List Ent} {k : Int} (h : k ∉ E.map (·.1)) : ((E.map rowOf).filter (fun r => decide (r.2.2 = k))).map (·.1) = [] := by
  have e : (E.map rowOf).filter (fun r => decide (r.2.2 = k)) = [] := by
    rw [List.filter_eq_nil_iff]
    intro r hr
    obtain ⟨e, he, rfl⟩ := List.mem_map.mp hr
    simp only [decide_eq_true_eq]
    exact fun q => h (List.mem_map.mpr ⟨e, he, q⟩)
  rw [e]; rfl
theorem told_some {k t o : Int} : ∀ {E : List Ent}, (E.map (·.1)).Nodup → (k, t, o) ∈ E → ((E.map rowOf).filter (fun r => decide (r.2.2 = k))).map (·.1) = [t]
  | [], _, h => nomatch h
  | e :: E, hn, h => by
    simp only [List.map_cons, List.nodup_cons] at hn
    by_cases q : e.1 = k
    · have he : e = (k, t, o) := by
        rcases List.mem_cons.mp h with h | h
        · exact h.symm
        · exact absurd (List.mem_map.mpr ⟨_, h, q.symm⟩) hn.1
      subst he
      rw [List.map_cons, List.filter_cons_of_pos (by simp), List.map_cons, told_none hn.1]
    · have h' : (k, t, o) ∈ E := (List.mem_cons.mp h).resolve_left fun e' => q (by rw [← e'])
      rw [List.map_cons, List.filter_cons_of_neg (by simpa using q)]
      exact told_some hn.2 h'
theorem lex_uniq : ∀ {a b : List Row}, a.Perm b → a.Pairwise (fun x y => lexB x y = true) → b.Pairwise (fun x y => lexB x y = true) → a = b
  | [], b, h, _, _ => h.nil_eq
  | x :: a, [], h, _, _ => absurd h.length_eq (by simp)
  | x :: a, y :: b, h, ha, hb => by
    have h1 := List.pairwise_cons.mp ha
    have h2 := List.pairwise_cons.mp hb
    have e : x = y := by
      rcases List.mem_cons.mp (h.mem_iff.mp (.head _)) with e | hx
      · exact e
      · rcases List.mem_cons.mp (h.mem_iff.mpr (.head _)) with e | hy
        · exact e.symm
        · have q1 := h1.1 y hy
          have q2 := h2.1 x hx
          rw [lexB_asym q1] at q2
          cases q2
    subst e
    rw [lex_uniq (List.Perm.cons_inv h) h1.2 h2.2]
theorem dueRows_nodup {E : List Ent} (h : (E.map (·.1)).Nodup) (now : Int) : (dueRows E now).Nodup := by
  have hk2 : ((dueRows E now).map (·.2.2)).Nodup := by
    unfold dueRows
    rw [List.map_map]
    exact List.Nodup.sublist (List.Sublist.map _ List.filter_sublist) h
  exact nodup_of_map hk2
theorem dueRows_len (E : List Ent) (now : Int) : (dueRows E now).length ≤ E.length := by
  unfold dueRows
  rw [List.length_map]
  exact List.length_filter_le _ _
theorem TupI.keepC {news news' : Led} {c : Addr} {o : Obj} {v0 : Option Value} (U : Uq news) (hc : (c, o) ∈ news) (hd : o.data = .cell v0) (K : Keep [c] news news') {v : Value} {is : List Int} (x : TupI news v is) : TupI news' v is := by
  obtain ⟨b, its, n, e, hm, hi⟩ := x
  refine ⟨b, its, n, e, K _ hm fun hb => ?_, hi⟩
  rw [List.mem_singleton] at hb
  replace hb : b = c := hb
  subst hb
  rw [U _ _ _ hc hm] at hd
  cases hd
theorem LawIn.keepC {w : World} {news news' : Led} {src ra sa c : Addr} {o : Obj} {v0 : Option Value} {l : WLoc} {size : Nat} {E : List Ent} {reached : Option Int} {given now : Int} (x : LawIn w news src ra sa l size E reached given now) (U : Uq news) (hc : (c, o) ∈ news) (hd : o.data = .cell v0) (K : Keep [c] news news')
    (h1 : c ≠ src) (h2 : c ≠ ra) (h3 : c ≠ sa) (h4 : c ∉ l.all) : LawIn w news' src ra sa l size E reached given now where
  pool := x.pool.keep K (by simpa using Ne.symm h1)
  rows := by
    obtain ⟨vs, n, q1, q2⟩ := x.rows
    exact ⟨vs, n, K _ q1 (by simpa using Ne.symm h2), rows_mono (fun _ _ y => y.keepC U hc hd K) q2⟩
  state := by
    obtain ⟨t1, t2, n, q1⟩ := x.state
    exact ⟨t1, t2, n, K _ q1 (by simpa using Ne.symm h3)⟩
  wheel := WheelG.keepG x.wheel (fun a ha h => h4 (by rw [List.mem_singleton] at h; exact h ▸ ha)) (fun _ _ y => y.keepC U hc hd K) K
  src_sa := x.src_sa
  src_ra := x.src_ra
  ra_sa := x.ra_sa
  src_l := x.src_l
  sa_l := x.sa_l
  ra_l := x.ra_l
  rch := x.rch
  keys := x.keys
  times := x.times
end Mine
end
section
local macro_rules | `(tactic| k_mem) => `(tactic| assumption)
local macro_rules | `(tactic| walk_at "getMethod ref") => `(tactic| (k_here; (with_reducible show wpAny _ _ (getMethod (Value.ref _) (PySem.Str.ofString "pop") _) _ _ _); k_dflt (refine' kob_method (knd := intKind _ _) PySem.F.slot_dict_pop ?ty ?N ?m ?d ?_; (case N => k_asm); (case m => assumption); (case d => assumption); (case ty => exact PySem.F.type_dict_pop))))
local macro_rules | `(tactic| walk_at "exec For") => `(tactic| (refine wpAny_For ?_ ?hs; (case hs => (intro _; with_unfolding_all rfl))))
local macro_rules | `(tactic| walk_at "exec For Name Tuple cons nil") => `(tactic| (refine wpAny_For ?_ ?hs; (case hs => (intro _; with_unfolding_all rfl))))
local macro_rules | `(tactic| walk_at "exec For Name Call cons nil") => `(tactic| (refine wpAny_For ?_ ?hs; (case hs => (intro _; with_unfolding_all rfl))))
local macro_rules | `(tactic| walk_at "exec For Name Call cons cons") => `(tactic| (refine wpAny_For ?_ ?hs; (case hs => (intro _; with_unfolding_all rfl))))
local macro_rules | `(tactic| walk_at "call ref") => `(tactic| (k_here; refine Mine.Stop.out ?_))
local macro_rules | `(tactic| walk_at "pyIter ref") => `(tactic| (k_here; refine Mine.Stop.out ?_))
local macro_rules | `(tactic| walk_at "compareOp In int ref") => `(tactic| (k_here; refine Mine.Stop.out ?_))
local macro_rules | `(tactic| walk_at "call builtin:dict.pop") => `(tactic| (k_here; refine Mine.Stop.out ?_))
local macro_rules | `(tactic| walk_at "call builtin:list.remove") => `(tactic| (k_here; refine Mine.Stop.out ?_))
local macro_rules | `(tactic| walk_at "call builtin:list.append") => `(tactic| (k_here; refine Mine.Stop.out ?_))
local macro_rules | `(tactic| walk_at "setItem ref int ref") => `(tactic| (k_here; refine Mine.Stop.out ?_))
local macro_rules | `(tactic| walk_at "subscriptTail") => `(tactic| (k_here; (with_reducible show wpAny _ _ (subscriptTail _ _ (Value.ref _) (Value.int (Int.fmod _ _) _)) _ _ _); refine Mine.Stop.out ?_))
local macro_rules | `(tactic| walk_at "setAttr ref") => `(tactic| (k_here; refine Mine.Stop.out ?_))
local macro_rules | `(tactic| walk_at "subscriptTail") => `(tactic| (k_here; (with_reducible show wpAny _ _ (subscriptTail _ _ (Value.ref _) (Value.int _ _)) _ _ _); k_dflt (refine' kda_item (knd := intKind _ _) ?N ?m ?d ?k ?v ?_; (case N => k_asm); (case m => k_mem); (case d => assumption); (case k => exact intKind_is _ _ _ _); (case v => assumption))))
local macro_rules | `(tactic| walk_at "exec Assign cons ListComp") => `(tactic| (k_here; refine Mine.Stop.out ?_))
local macro_rules | `(tactic| walk_at "eval ListComp") => `(tactic| (k_here; refine Mine.Stop.out ?_))
local macro_rules | `(tactic| walk_at "compareOp NotEq ref ref") => `(tactic| (k_here; refine Mine.Stop.out ?_))
local macro_rules | `(tactic| walk_at "compareOp Eq ref ref") => `(tactic| (k_here; refine Mine.Stop.out ?_))
local macro_rules | `(tactic| walk_at "call builtin:sorted") => `(tactic| (k_here; refine Mine.Stop.out ?_))
local macro_rules | `(tactic| walk_at "call builtin:min") => `(tactic| (k_here; refine Mine.Stop.out ?_))
local macro_rules | `(tactic| walk_at "call type:range") => `(tactic| (k_here; refine Mine.Stop.out ?_))
local macro_rules | `(tactic| walk_at "call type:list") => `(tactic| (k_here; refine Mine.Stop.out ?_))
local macro_rules | `(tactic| walk_at "binaryOp Add ref ref") => `(tactic| (k_here; refine Mine.Stop.out ?_))
local macro_rules | `(tactic| walk_at "subscriptTail") => `(tactic| (k_here; (with_reducible show wpAny _ _ (subscriptTail _ _ (Value.ref _) (Value.int _ _)) _ _ _); first | k_dflt (refine' Mine.tup_item ?N ?m ?h0 ?hhi ?hx ?_; (case N => k_asm); (case m => assumption); (case h0 => decide); (case hhi => decide); (case hx => with_unfolding_all rfl)) | k_dflt (refine' Mine.lst_item ?N ?m ?h0 ?hhi ?hx ?_; (case N => k_asm); (case m => assumption); (case h0 => decide); (case hhi => decide); (case hx => with_unfolding_all rfl)) | refine Mine.Stop.out ?_))
local macro_rules | `(tactic| walk_at "setItem ref int") => `(tactic| (k_here; refine Mine.Stop.out ?_))
local macro_rules | `(tactic| walk_at "call builtin:len") => `(tactic| (k_here; refine Mine.Stop.out ?_))
local macro_rules | `(tactic| walk_at "call ref") => `(tactic| (k_here; refine Mine.Stop.out ?_))
namespace Mine
set_option maxRecDepth 100000 in
set_option maxHeartbeats 16000000 in
theorem right_ctr (w : World) (src ra sa : Addr) (l : WLoc) (size : Nat) (E : List Ent) (reached : Option Int) (given now : Int) (hn1 : -(2 ^ 50) ≤ now) (hn2 : now ≤ 2 ^ 50) :
    Ctr 3 w 110 [.ref src, .ref l.x, .ref ra, .ref sa] (fun news => LawIn w news src ra sa l size E reached given now)
      (fun news r news' => (∃ ra' E' reached' given' now', r = .ref ra' ∧ LawIn w news' src ra' sa l size E' reached' given' now' ∧ now ≤ now' ∧ now' ≤ now + 20) ∧ Keep (src :: sa :: l.muts) news news') := by
  unfold Ctr
  intro p loose mean mg mb dp un gd cn cs a ccd cl outer A₀ base h₀ L m news s Q E9 B F X N T hk hW hd9 hu9 hret
  refine wpAny_call ?_
  k_dflt (refine' code_defC ?k1 ?k2 ?k3 ?k4 ?k5 ?kA ?kF ?kK ?k6 ?k7 ?k8 ?k9 ?kB ?kD ?_ ?c2 ?c3 ?c4; (case kA => exact rfl); (case kF => exact rfl); (case kK => assumption); (case k1 => k_asm); (case k2 => k_asm); (case k3 => k_asm); (case k4 => k_asm); (case k5 => k_asm); (case k6 => k_is); (case k7 => k_is); (case k8 => ktr_room); (case k9 => exact BindsTo.of_eq rfl); (case kB => exact rfl); (case kD => decide +kernel); (case c2 => exact rfl); (case c3 => exact rfl); (case c4 => exact rfl); k_whole; intro g1 L1 hp1 tk1 cells' FG1 F1 N1 Y' B1 X1 T1 l1; k_cells Y'; (try simp only [List.cons_append, List.nil_append] at N1); (try dsimp only); (try k_fold))
  repeat' (first | (k_unfold; (try dsimp only)) | walk1)
  rename_i o1 o2 d1 d2
  have F1' : Fr g1 L1 hp1 (fun y => if y = Str.ofString "rows" then some (Value.ref ra) else if y = Str.ofString "wheel" then some (Value.ref l.x) else if y = Str.ofString "source" then some (Value.ref src) else none) := F1
  have dk : o1.data = .cell none := d1
  have ds : o2.data = .cell (some (.ref sa)) := d2
  clear F1 d1 d2
  have W1 := hW.sub (news' := (L1 + 1 + 1, o1) :: (L1 + 1, o2) :: news) fun _ hp => .tail _ (.tail _ hp)
  have U1 := uq N1
  have lt1 : ∀ p ∈ news, p.1 ≠ L1 + 1 ∧ p.1 ≠ L1 + 1 + 1 := fun p hp => by
    have h : @LT.lt Nat _ p.1 L1 := l1 p hp
    exact ⟨Nat.ne_of_lt (Nat.lt_succ_of_lt h), Nat.ne_of_lt (Nat.lt_succ_of_lt (Nat.lt_succ_of_lt h))⟩
  refine Stop.mk ((take_ctr w src 8 _ (by decide) (by decide)).use (by k_asm) (by k_asm) (by k_asm) (by k_asm) (by k_asm) rfl W1.pool (by show dp + 1 + 4 < recursionLimit; omega) (by show un + 3 + 100 < cLine; omega) ?_)
  rintro r nw2 hp2 tk2 F2 N2 ⟨⟨way, wt, rfl, hway0, hway8⟩, P2, K2⟩
  have W2 := W1.draw U1 P2 K2
  have U2 := uq N2
  repeat' (first | (k_unfold; (try dsimp only)) | walk1)
  refine Stop.mk ((take_ctr w src 7 _ (by decide) (by decide)).use (by k_asm) (by k_asm) (by k_asm) (by k_asm) (by k_asm) rfl P2 (by show dp + 1 + 4 < recursionLimit; omega) (by show un + 3 + 100 < cLine; omega) ?_)
  rintro r nw3 hp3 tk3 F3 N3 ⟨⟨key, kt, rfl, hkey0, hkey7⟩, P3, K3⟩
  have W3 := W2.draw U2 P3 K3
  have hc1 : (L1 + 1 + 1, o1) ∈ nw3 := K3 _ (K2 _ (.head _) (by
    obtain ⟨a, b, ta, tb, n', hs, _⟩ := hW.pool
    simpa using Ne.symm (lt1 _ hs).2)) (by
    obtain ⟨a, b, ta, tb, n', hs, _⟩ := hW.pool
    simpa using Ne.symm (lt1 _ hs).2)
  have hc2 : (L1 + 1, o2) ∈ nw3 := K3 _ (K2 _ (.tail _ (.head _)) (by
    obtain ⟨a, b, ta, tb, n', hs, _⟩ := hW.pool
    simpa using Ne.symm (lt1 _ hs).1)) (by
    obtain ⟨a, b, ta, tb, n', hs, _⟩ := hW.pool
    simpa using Ne.symm (lt1 _ hs).1)
  have K13 : Keep [src] news nw3 := fun p hp hn => K3 _ (K2 _ (.tail _ (.tail _ hp)) hn) hn
  have P3' := P3
  clear W1 W2 W3 P2 P3 K2 K3 F2 N2 F1' N1 U1 U2
  repeat' (first | (k_unfold; (try dsimp only)) | walk1)
  k_dflt (refine' cell_store ?F ?N ?c ?m ?d ?_ ?a ?b; (case a => rfl); (case b => rfl); (case F => k_asm); (case N => k_asm); (case c => rfl); (case m => exact .tail _ hc1); (case d => exact dk))
  rename_i D hpD ltD hpE hpF FD ND
  intro hp4 o4 F4 N4 d4
  have hsrcc : src ≠ L1 + 1 + 1 := by
    obtain ⟨a, b, ta, tb, n', hs, _⟩ := hW.pool
    exact (lt1 _ hs).2
  have P4 : Pool ((L1 + 1 + 1, o4) :: Foc ((D, tupO [Value.int way wt, Value.int key kt] 0) :: nw3) (L1 + 1 + 1)) src := by
    obtain ⟨a, b, ta, tb, n', hs, r⟩ := P3'
    exact ⟨a, b, ta, tb, n', .tail _ (foc_mem (.tail _ hs) hsrcc), r⟩
  have K4 : Keep [src] news ((L1 + 1 + 1, o4) :: Foc ((D, tupO [Value.int way wt, Value.int key kt] 0) :: nw3) (L1 + 1 + 1)) := fun p hp hn =>
    .tail _ (foc_mem (.tail _ (K13 p hp hn)) (lt1 p hp).2)
  have hc4 : (L1 + 1, o2) ∈ (L1 + 1 + 1, o4) :: Foc ((D, tupO [Value.int way wt, Value.int key kt] 0) :: nw3) (L1 + 1 + 1) := .tail _ (foc_mem (.tail _ hc2) (Nat.ne_of_lt (Nat.lt_succ_self _)))
  have hk4 : (L1 + 1 + 1, o4) ∈ (L1 + 1 + 1, o4) :: Foc ((D, tupO [Value.int way wt, Value.int key kt] 0) :: nw3) (L1 + 1 + 1) := .head _
  replace N4 : News g1 L1 hp4 ((L1 + 1 + 1, o4) :: Foc ((D, tupO [Value.int way wt, Value.int key kt] 0) :: nw3) (L1 + 1 + 1)) := N4
  generalize (L1 + 1 + 1, o4) :: Foc ((D, tupO [Value.int way wt, Value.int key kt] 0) :: nw3) (L1 + 1 + 1) = nw4 at N4 P4 K4 hc4 hk4
  clear P3' K13 hc1 hc2 FD ND ltD dk
  have W4 := hW.draw (uq N) P4 K4
  have hE7 : E.length ≤ 7 := len7 W4.wheel.keys W4.keys
  have hsam : sa ∉ l.muts := fun h => hW.sa_l (muts_all h)
  have hsrm : src ∉ l.muts := fun h => hW.src_l (muts_all h)
  have hram : ra ∉ l.muts := fun h => hW.ra_l (muts_all h)
  have hcell : ∀ c, (∀ p ∈ news, p.1 ≠ c) → c ≠ src ∧ c ≠ sa ∧ c ∉ l.muts := fun c hc => by
    refine ⟨fun e => ?_, fun e => ?_, fun h => ?_⟩
    · obtain ⟨a, b, ta, tb, n', hs, _⟩ := hW.pool
      exact hc _ hs e.symm
    · obtain ⟨t1, t2, n', hs⟩ := hW.state
      exact hc _ hs e.symm
    · obtain ⟨o, ho, _⟩ := hW.wheel.mutsIn c h
      exact hc _ ho rfl
  obtain ⟨hA1, hA2, hA3⟩ := hcell (L1 + 1) fun p hp => (lt1 p hp).1
  obtain ⟨hB1, hB2, hB3⟩ := hcell (L1 + 1 + 1) fun p hp => (lt1 p hp).2
  clear hcell
  have U4 := uq N4
  obtain ⟨t1, t2, nst, hst⟩ := W4.state
  obtain ⟨nodup, inst, ⟨h1, h2, h3, h4, h5, h6, k1, k2, k3, k4, k5, k6, ts, tg, n, rv, hrv, dict⟩, _⟩ := id W4.wheel
  repeat' (first | (k_unfold; (try dsimp only)) | walk1)
  · rename_i th hpT FT NT ltT
    have hth : th ≠ src := by
      obtain ⟨a, b, ta, tb, n', hs, _⟩ := W4.pool
      exact Ne.symm (Nat.ne_of_lt (ltT _ hs))
    refine Stop.mk ((one_ctr w src th [0, 1, 1, 2, 3, 5, 8, 13, 40, -1, -6] (by decide) (by decide) hth).use (by k_asm) (by k_asm) (by k_asm) (by k_asm) (by k_asm) rfl ⟨W4.pool.sub fun _ hp => .tail _ hp, _, _, .head _, by repeat (first | exact .nil | refine .cons _ _ ?_)⟩ (by show dp + 1 + 4 * 2 < recursionLimit; omega) (by show un + 3 + 100 * 2 < cLine; omega) ?_)
    rintro r nw5 hp5 tk5 F5 N5 ⟨⟨d, dt, rfl, hd⟩, P5, K5⟩
    clear inst dict
    have K5' : Keep [src] nw4 nw5 := fun p hp hn => K5 _ (.tail _ hp) hn
    have W5 := W4.draw U4 P5 K5'
    have hc5 := K5' _ hc4 (by simpa using hA1)
    have hk5 := K5' _ hk4 (by simpa using hB1)
    have hd' : -6 ≤ d ∧ d ≤ 40 := by
      simp only [List.mem_cons, List.not_mem_nil, or_false] at hd
      omega
    clear hst
    obtain ⟨t1, t2, nst, hst⟩ := W5.state
    have U5 := uq N5
    repeat' (first | (k_unfold; (try dsimp only)) | walk1)
    refine Stop.mk (list_set (by k_asm) (by k_asm) hst (by decide) (by decide) rfl ?_)
    intro hp6 F6 N6
    obtain ⟨tg6, N6'⟩ : ∃ tg6, News g1 L1 hp6 ((sa, W.listOf #[Value.int now t1, Value.int (given + 1) tg6] nst) :: Foc nw5 sa) := ⟨_, N6⟩
    clear N6
    have K6 : Keep [sa] nw5 ((sa, W.listOf #[Value.int now t1, Value.int (given + 1) tg6] nst) :: Foc nw5 sa) := Keep.refl.focus (.head _)
    have hst6 : (sa, W.listOf #[Value.int now t1, Value.int (given + 1) tg6] nst) ∈ (sa, W.listOf #[Value.int now t1, Value.int (given + 1) tg6] nst) :: Foc nw5 sa := .head _
    have WL6 : WheelIn w _ l size E reached given := WheelG.keep1 W5.wheel U5 hst (by simp) hW.sa_l K6
    have hrow6 : ∃ vs n, (ra, W.listOf (List.toArray vs) n) ∈ (sa, W.listOf #[Value.int now t1, Value.int (given + 1) tg6] nst) :: Foc nw5 sa ∧ RowsAre ((sa, W.listOf #[Value.int now t1, Value.int (given + 1) tg6] nst) :: Foc nw5 sa) vs (E.map rowOf) := by
      obtain ⟨vs, n, q1, q2⟩ := W5.rows
      exact ⟨vs, n, K6 _ q1 (by simpa using hW.ra_sa), rows_mono (fun _ _ y => y.keep1 U5 hst (by simp) K6) q2⟩
    have P6 := P5.keep K6 (by simpa using hW.src_sa)
    have hc6 := K6 _ hc5 (by simpa using hA2)
    have hk6 := K6 _ hk5 (by simpa using hB2)
    have K6' : Keep (src :: sa :: l.muts) news ((sa, W.listOf #[Value.int now t1, Value.int (given + 1) tg6] nst) :: Foc nw5 sa) := ((K4.trans K5').weaken (by simp)).trans (K6.weaken (by simp))
    generalize (sa, W.listOf #[Value.int now t1, Value.int (given + 1) tg6] nst) :: Foc nw5 sa = nw6 at N6' hst6 WL6 hrow6 P6 hc6 hk6 K6'
    clear hst W5 U5 hc5 hk5 K5 K5' P5 K6 W4 hc4 hk4 K4 P4 U4
    have U6 := uq N6'
    obtain ⟨nodup, inst, ⟨h1, h2, h3, h4, h5, h6, k1, k2, k3, k4, k5, k6, ts, tg, n, rv, hrv, dict⟩, _⟩ := id WL6
    dsimp only
    repeat' (first | (k_unfold; (try dsimp only)) | walk1)
    refine Stop.mk ((put_ctr w l size E reached given key (now + d) _ _ (by omega)).use (by k_asm) (by k_asm) (by k_asm) (by k_asm) (by k_asm) rfl WL6 (by show dp + 1 + 4 * 2 < recursionLimit; omega) (by show un + 3 + 100 * 2 < cLine; omega) ?_)
    rintro r nw7 hp7 tk7 F7 N7 ⟨rfl, WL7, K7⟩
    clear inst dict
    have hst7 := K7 _ hst6 hsam
    have hc7 := K7 _ hc6 hA3
    have hk7 := K7 _ hk6 hB3
    have P7 := P6.keep K7 hsrm
    have hrow7 : ∃ vs n, (ra, W.listOf (List.toArray vs) n) ∈ nw7 ∧ RowsAre nw7 vs (E.map rowOf) := by
      obtain ⟨vs, n, q1, q2⟩ := hrow6
      exact ⟨vs, n, K7 _ q1 hram, rows_mono (fun _ _ y => y.keepW WL6 U6 K7) q2⟩
    replace K7 := K6'.trans (K7.weaken (l' := src :: sa :: l.muts) (by simp; exact fun x hx => .inr (.inr hx)))
    clear hst6 WL6 hrow6 P6 hc6 hk6 K6' U6 N6' F6
    repeat' (first | (k_unfold; (try dsimp only)) | walk1)
    refine Stop.mk ((without_ctr w ra (E.map rowOf) key _ (by rw [List.length_map]; omega)).use (by k_asm) (by k_asm) (by k_asm) (by k_asm) (by k_asm) rfl hrow7 (by show dp + 1 + 4 < recursionLimit; omega) (by show un + 3 + 100 < cLine; omega) ?_)
    rintro r nw8 hp8 tk8 F8 N8 ⟨⟨wa, vs8, n8, rfl, hwa, hR8, hfr8⟩, K8⟩
    have hst8 := K8 _ hst7 (by simp)
    have hc8 := K8 _ hc7 (by simp)
    have hk8 := K8 _ hk7 (by simp)
    have P8 := P7.keep K8 (by simp)
    have WL8 := WL7.sub fun p hp => K8 p hp (by simp)
    replace K8 := K7.trans (K8.weaken (l' := src :: sa :: l.muts) (by simp))
    clear hst7 hc7 hk7 P7 hrow7 WL7 K7 N7 F7
    repeat' (first | (k_unfold; (try dsimp only)) | walk1)
    rename_i D hpD ltD l9 hp9 F9 N9 lt9
    refine Stop.mk (kmk_add_lit (a := wa) (b := l9) (its := vs8.toArray) (its2 := #[Value.ref D]) (zs := vs8 ++ [Value.ref D]) (by k_asm) (by k_asm) ⟨_, (N9 _ (.tail _ (.tail _ hwa))).1, rfl, n8, rfl⟩ ⟨_, (N9 _ (.head _)).1, rfl, 0, rfl⟩ (by simp) ?_ (by
      have q1 := hR8.length
      have q2 := List.length_filter_le (fun r : Row => decide (r.2.2 ≠ key)) (List.map rowOf E)
      rw [List.length_map] at q2
      show vs8.length + 1 ≤ sizeLine
      rw [sizeLine_eq]
      omega))
    intro D10 hp10 F10 N10 lt10
    have hT : ∀ (t0 : Tok) (nw' : Led), (D, tupO [Value.int (now + d) t0, Value.int (given + 1) tg6, Value.int key kt] 0) ∈ nw' → RowV nw' (.ref D) (now + d, given + 1, key) := fun t0 nw' h => ⟨D, _, 0, rfl, h, .cons _ _ (.cons _ _ (.cons _ _ .nil))⟩
    repeat' (first | (k_unfold; (try dsimp only)) | walk1)
    refine hret _ _ _ _ (by k_asm) (by k_asm) ⟨⟨D10, dropKey E key ++ [(key, now + d, given + 1)], reached, given + 1, now, rfl, LawIn.fresh (nw := nw8) (fun _ hp => .tail _ (.tail _ (.tail _ hp))) P8 ⟨_, _, _, hst8⟩ WL8 (fun p hp => Nat.ne_of_lt (lt10 p (.tail _ (.tail _ hp)))) ⟨_, _, .head _, ?_⟩ hW.src_sa hW.src_l hW.sa_l hW.rch ?_ ?_, by omega, by omega⟩, K8.cons.cons.cons⟩
    · rw [List.map_append, map_drop]
      exact (rows_mono (fun _ _ y => y.sub fun _ hp => .tail _ (.tail _ (.tail _ hp))) hR8).snoc (hT _ _ (.tail _ (.tail _ (.head _))))
    · intro e he
      rcases List.mem_append.mp he with he | he
      · exact hW.keys e (mem_dropKey.mp he).1
      · cases List.mem_singleton.mp he
        exact ⟨hkey0, hkey7⟩
    · intro e he
      rcases List.mem_append.mp he with he | he
      · exact hW.times e (mem_dropKey.mp he).1
      · cases List.mem_singleton.mp he
        show now + d ≤ now + 40
        omega
  · refine Stop.mk ((cancel_ctr w l size E reached given key _ (by omega)).use (by k_asm) (by k_asm) (by k_asm) (by k_asm) (by k_asm) rfl W4.wheel (by show dp + 1 + 4 < recursionLimit; omega) (by show un + 3 + 100 < cLine; omega) ?_)
    rintro r nw7 hp7 tk7 F7 N7 ⟨rfl, WL7, K7⟩
    clear inst dict
    have hst7 := K7 _ hst hsam
    have hc7 := K7 _ hc4 hA3
    have hk7 := K7 _ hk4 hB3
    have P7 := P4.keep K7 hsrm
    have hrow7 : ∃ vs n, (ra, W.listOf (List.toArray vs) n) ∈ nw7 ∧ RowsAre nw7 vs (E.map rowOf) := by
      obtain ⟨vs, n, q1, q2⟩ := W4.rows
      exact ⟨vs, n, K7 _ q1 hram, rows_mono (fun _ _ y => y.keepW W4.wheel U4 K7) q2⟩
    replace K7 := (K4.weaken (by simp)).trans (K7.weaken (l' := src :: sa :: l.muts) (by simp; exact fun x hx => .inr (.inr hx)))
    clear hst hc4 hk4 P4 W4 U4 K4
    repeat' (first | (k_unfold; (try dsimp only)) | walk1)
    refine Stop.mk ((without_ctr w ra (E.map rowOf) key _ (by rw [List.length_map]; omega)).use (by k_asm) (by k_asm) (by k_asm) (by k_asm) (by k_asm) rfl hrow7 (by show dp + 1 + 4 < recursionLimit; omega) (by show un + 3 + 100 < cLine; omega) ?_)
    rintro r nw8 hp8 tk8 F8 N8 ⟨⟨wa, vs8, n8, rfl, hwa, hR8, hfr8⟩, K8⟩
    have hst8 := K8 _ hst7 (by simp)
    have P8 := P7.keep K8 (by simp)
    have WL8 := WL7.sub fun p hp => K8 p hp (by simp)
    have K8' := K7.trans (K8.weaken (l' := src :: sa :: l.muts) (by simp))
    repeat' (first | (k_unfold; (try dsimp only)) | walk1)
    refine hret _ _ _ _ (by k_asm) (by k_asm) ⟨⟨wa, dropKey E key, reached, given, now, rfl, LawIn.fresh (nw := nw7) (fun p hp => K8 p hp (by simp)) P7 ⟨_, _, _, hst7⟩ WL7 hfr8 ⟨_, _, hwa, by rw [map_drop]; exact hR8⟩ hW.src_sa hW.src_l hW.sa_l hW.rch (fun e he => hW.keys e (mem_dropKey.mp he).1) (fun e he => hW.times e (mem_dropKey.mp he).1), by omega, by omega⟩, K8'⟩
  · obtain ⟨vsr, nr, hra4, hR4⟩ := W4.rows
    have hkn : (E.map (·.1)).Nodup := W4.wheel.keys
    refine Stop.mk ?_
    k_fold
    refine' wpAny_Assign_ListComp_free (pq nw4 fun r => decide (r.2.2 = key)) (GI nw4 (·.1)) ?hsw ?hclos ?hcell ?hkind ?hnames ?hx ?hy ?hp ?_ ?hs
    case hsw => with_unfolding_all rfl
    case hclos => with_unfolding_all rfl
    case hcell => decide
    case hkind => with_unfolding_all rfl
    case hnames => decide
    case hx => with_unfolding_all rfl
    case hy => with_unfolding_all rfl
    case hp => with_unfolding_all rfl
    case hs => intro _; with_unfolding_all rfl
    repeat' (first | (k_unfold; (try dsimp only)) | walk1)
    rename Fr _ _ _ _ => FC
    rename News _ _ _ _ => NC
    refine Stop.mk (comp_list_a (L := L1) (l := ra) rfl rfl FC NC hra4 (by rw [List.size_toArray, hR4.length, List.length_map]; omega) ?he ?hQ)
    case he =>
      intro v hv
      obtain ⟨r, hr, hrv⟩ := rows_mem hR4 hv
      have hpq := pq_at U4 (q := fun r => decide (r.2.2 = key)) hrv
      obtain ⟨b, q1, q2, q3, nn, rfl, hb⟩ := hrv.three
      refine eltOk1 ?_ ?_
      · intro C s₃ m₃ E' F3 N3 hn hm
        rw [hpq]
        repeat' (first | (k_unfold; (try dsimp only)) | walk1)
        all_goals first | exact Keeps.of_toks _ _ | (by_cases q : r.2.2 = key <;> simp [q])
      · intro C s₃ m₃ E' F3 N3 hn hm _
        repeat' (first | (k_unfold; (try dsimp only)) | walk1)
        all_goals first | exact Keeps.of_toks _ _ | exact ⟨r, _, hrv, rfl⟩
    case hQ =>
      intro D h' tk' ys nn F3 N3 hD hp
      have hti := paired_ints U4 (rows_filter U4 hR4) hp
      clear FC NC inst dict
      have WD : LawIn w ((D, W.listOf ys nn) :: nw4) src ra sa l size E reached given now := W4.sub fun _ hp => .tail _ hp
      obtain ⟨nodup, inst, ⟨h1, h2, h3, h4, h5, h6, k1, k2, k3, k4, k5, k6, ts, tg, n, rv, hrv, dict⟩, _⟩ := id WD.wheel
      have hk5 : (L1 + 1 + 1, o4) ∈ (D, W.listOf ys nn) :: nw4 := .tail _ hk4
      repeat' (first | (k_unfold; (try dsimp only)) | walk1)
      refine Stop.mk ((time_of_ctr w l size E _ reached given key _).use (by k_asm) (by k_asm) (by k_asm) (by k_asm) (by k_asm) rfl WD.wheel (by show dp + 1 + 4 < recursionLimit; omega) (by show un + 3 + 100 < cLine; omega) ?_)
      rintro r nw6 hp6 tk6 F6 N6 ⟨hr, K6⟩
      have W6 := WD.sub fun p hp => K6 p hp (by simp)
      have hD6 := K6 _ (.head _) (by simp)
      have K6' : Keep (src :: sa :: l.muts) news nw6 := (K4.weaken (by simp)).trans fun p hp _ => K6 p (.tail _ hp) (by simp)
      clear inst dict
      rcases hr with ⟨rfl, hnone⟩ | ⟨t, o, tt, hmem, rfl⟩
      · rw [told_none hnone] at hti
        repeat' (first | (k_unfold; (try dsimp only)) | walk1)
        rename News _ _ _ _ => N7
        rename Fr _ _ _ _ => F7
        rename Addr => l7
        have hl1 := isL N7 (a := D) (its := ys) (n := nn) (.tail _ hD6)
        have hl2 : Heap.IsList _ l7 (([] : List Value).toArray) := ⟨_, (N7 _ (.head _)).1, rfl, 0, rfl⟩
        refine Stop.mk (ne_intsK hl1 hti hl2 .nil (by show un + 3 + 64 < cLine; omega) ?_)
        rw [decide_eq_true (rfl : ([] : List Int) = [])]
        repeat' (first | (k_unfold; (try dsimp only)) | walk1)
        exact hret _ _ _ _ (by k_asm) (by k_asm) ⟨⟨ra, E, reached, given, now, rfl, W6.sub fun _ hp => .tail _ hp, by omega, by omega⟩, K6'.cons⟩
      · rw [told_some hkn hmem] at hti
        obtain ⟨tq, hq⟩ : ∃ tq, ys.toList = [Value.int t tq] := by
          cases hh : ys.toList with
          | nil => rw [hh] at hti; cases hti
          | cons v vs =>
            rw [hh] at hti
            cases hti with
            | cons _ tq h => cases h; exact ⟨tq, rfl⟩
        obtain rfl : ys = #[Value.int t tq] := Array.toList_inj.mp hq
        repeat' (first | (k_unfold; (try dsimp only)) | walk1)
        rename News _ _ _ _ => N7
        rename Fr _ _ _ _ => F7
        rename Addr => l7
        have hl1 := isL N7 (a := D) (n := nn) (.tail _ hD6)
        have hl2 : Heap.IsList _ l7 (([] : List Value).toArray) := ⟨_, (N7 _ (.head _)).1, rfl, 0, rfl⟩
        refine Stop.mk (ne_intsK hl1 hti hl2 .nil (by show un + 3 + 64 < cLine; omega) ?_)
        rw [decide_eq_false (by simp : ¬ [t] = [])]
        repeat' (first | (k_unfold; (try dsimp only)) | walk1)
        rotate_left
        · have hne : t ≠ [t].getD (Int.toNat 0) 0 := by assumption
          exact absurd rfl hne
        exact hret _ _ _ _ (by k_asm) (by k_asm) ⟨⟨ra, E, reached, given, now, rfl, W6.sub fun _ hp => .tail _ hp, by omega, by omega⟩, K6'.cons⟩
  · rename_i th hpT FT NT ltT
    have hth : th ≠ src := by
      obtain ⟨a, b, ta, tb, n', hs, _⟩ := W4.pool
      exact Ne.symm (Nat.ne_of_lt (ltT _ hs))
    refine Stop.mk ((one_ctr w src th [0, 1, 1, 2, 3, 7, 20] (by decide) (by decide) hth).use (by k_asm) (by k_asm) (by k_asm) (by k_asm) (by k_asm) rfl ⟨W4.pool.sub fun _ hp => .tail _ hp, _, _, .head _, by repeat (first | exact .nil | refine .cons _ _ ?_)⟩ (by show dp + 1 + 4 * 2 < recursionLimit; omega) (by show un + 3 + 100 * 2 < cLine; omega) ?_)
    rintro r nw5 hp5 tk5 F5 N5 ⟨⟨d, dt, rfl, hd⟩, P5, K5⟩
    clear inst dict
    have K5' : Keep [src] nw4 nw5 := fun p hp hn => K5 _ (.tail _ hp) hn
    have W5 := W4.draw U4 P5 K5'
    have hc5 := K5' _ hc4 (by simpa using hA1)
    have hk5 := K5' _ hk4 (by simpa using hB1)
    have hd' : 0 ≤ d ∧ d ≤ 20 := by
      simp only [List.mem_cons, List.not_mem_nil, or_false] at hd
      omega
    clear hst
    obtain ⟨t1, t2, nst, hst⟩ := W5.state
    have U5 := uq N5
    repeat' (first | (k_unfold; (try dsimp only)) | walk1)
    refine Stop.mk (list_set (by k_asm) (by k_asm) hst (by decide) (by decide) rfl ?_)
    intro hp6 F6 N6
    obtain ⟨tg6, N6'⟩ : ∃ tg6, News g1 L1 hp6 ((sa, W.listOf #[Value.int (now + d) tg6, Value.int given t2] nst) :: Foc nw5 sa) := ⟨_, N6⟩
    clear N6
    have K6 : Keep [sa] nw5 ((sa, W.listOf #[Value.int (now + d) tg6, Value.int given t2] nst) :: Foc nw5 sa) := Keep.refl.focus (.head _)
    have hst6 : (sa, W.listOf #[Value.int (now + d) tg6, Value.int given t2] nst) ∈ (sa, W.listOf #[Value.int (now + d) tg6, Value.int given t2] nst) :: Foc nw5 sa := .head _
    have WL6 : WheelIn w _ l size E reached given := WheelG.keep1 W5.wheel U5 hst (by simp) hW.sa_l K6
    have hrow6 : ∃ vs n, (ra, W.listOf (List.toArray vs) n) ∈ (sa, W.listOf #[Value.int (now + d) tg6, Value.int given t2] nst) :: Foc nw5 sa ∧ RowsAre ((sa, W.listOf #[Value.int (now + d) tg6, Value.int given t2] nst) :: Foc nw5 sa) vs (E.map rowOf) := by
      obtain ⟨vs, n, q1, q2⟩ := W5.rows
      exact ⟨vs, n, K6 _ q1 (by simpa using hW.ra_sa), rows_mono (fun _ _ y => y.keep1 U5 hst (by simp) K6) q2⟩
    have P6 := P5.keep K6 (by simpa using hW.src_sa)
    have hc6 := K6 _ hc5 (by simpa using hA2)
    have K6' : Keep (src :: sa :: l.muts) news ((sa, W.listOf #[Value.int (now + d) tg6, Value.int given t2] nst) :: Foc nw5 sa) := ((K4.trans K5').weaken (by simp)).trans (K6.weaken (by simp))
    generalize (sa, W.listOf #[Value.int (now + d) tg6, Value.int given t2] nst) :: Foc nw5 sa = nw6 at N6' hst6 WL6 hrow6 P6 hc6 K6'
    clear hst W5 U5 hc5 hk5 K5 K5' P5 K6 W4 hc4 hk4 K4 P4 U4
    have U6 := uq N6'
    obtain ⟨vsr, nr, hra6, hR6⟩ := hrow6
    dsimp only
    repeat' (first | (k_unfold; (try dsimp only)) | walk1)
    refine Stop.mk ?_
    k_fold
    refine' wpAny_ListComp_free (pq nw6 fun r => decide (r.1 ≤ now + d)) (fun v y => y = v) ?hclos ?hcell ?hkind ?hnames ?hx ?_ ?hs
    case hclos => with_unfolding_all rfl
    case hcell => decide
    case hkind => with_unfolding_all rfl
    case hnames => decide
    case hx => with_unfolding_all rfl
    case hs => intro _; with_unfolding_all rfl
    repeat' (first | (k_unfold; (try dsimp only)) | walk1)
    refine Stop.mk (comp_list (l := ra) rfl (by k_asm) N6' hra6 (by rw [List.size_toArray, hR6.length, List.length_map]; omega) ?he ?hQ)
    case he =>
      intro v hv
      obtain ⟨r, hr, hrv⟩ := rows_mem hR6 hv
      have hpq := pq_at U6 (q := fun r => decide (r.1 ≤ now + d)) hrv
      obtain ⟨b, q1, q2, q3, nn, rfl, hb⟩ := hrv.three
      refine eltOk1 ?_ ?_
      · intro C s₃ m₃ E' F3 N3 hn hm
        rw [hpq]
        repeat' (first | (k_unfold; (try dsimp only)) | walk1)
        all_goals exact Keeps.of_toks _ _
      · intro C s₃ m₃ E' F3 N3 hn hm _
        repeat' (first | (k_unfold; (try dsimp only)) | walk1)
        exact Keeps.refl _
    case hQ =>
      intro D h' tk' ys nn F7 N7 hD hp
      have hys := paired_eq hp
      repeat' (first | (k_unfold; (try dsimp only)) | walk1)
      have hRD : RowsAre ((D, W.listOf ys nn) :: nw6) ys.toList (dueRows E (now + d)) := by
        rw [hys, due_map]
        exact rows_mono (fun _ _ x => x.sub fun _ hp => .tail _ hp) (rows_filter U6 hR6)
      have hDm : (D, W.listOf ys.toList.toArray nn) ∈ (D, W.listOf ys nn) :: nw6 := by rw [Array.toArray_toList]; exact .head _
      refine Stop.mk (sorted_rows (by k_asm) (by k_asm) hDm hRD (dueRows_nodup WL6.keys _) (Nat.lt_of_le_of_lt (dueRows_len _ _) (by omega)) ?_)
      intro DS cS hpS vsS RS FS NS ltS hRS hpmS hpwS
      have US := uq NS
      have WLS : WheelIn w ((DS, W.listOf vsS.toArray cS) :: (D, W.listOf ys nn) :: nw6) l size E reached given := WheelG.sub WL6 fun _ hp => .tail _ (.tail _ hp)
      have hstS : (sa, W.listOf #[Value.int (now + d) tg6, Value.int given t2] nst) ∈ (DS, W.listOf vsS.toArray cS) :: (D, W.listOf ys nn) :: nw6 := .tail _ (.tail _ hst6)
      have hcS : (L1 + 1, o2) ∈ (DS, W.listOf vsS.toArray cS) :: (D, W.listOf ys nn) :: nw6 := .tail _ (.tail _ hc6)
      obtain ⟨nodup, inst, ⟨h1, h2, h3, h4, h5, h6, k1, k2, k3, k4, k5, k6, ts, tg, n, rv, hrv, dict⟩, _⟩ := id WLS
      clear N7 F7
      repeat' (first | (k_unfold; (try dsimp only)) | walk1)
      refine Stop.mk ((due_ctr w l size E reached given (now + d) _ (by omega) (fun r q => ⟨(hW.rch r q).1, by have := (hW.rch r q).2; omega⟩) (by omega)).use (by k_asm) (by k_asm) (by k_asm) (by k_asm) (by k_asm) rfl WLS (by show dp + 1 + 4 * 2 < recursionLimit; omega) (by show un + 3 + 100 * 2 < cLine; omega) ?_)
      rintro r nw8 hp8 tk8 F8 N8 ⟨⟨da, S, rfl, ⟨vsd, nd, hda, hid⟩, hSp, hSw, hfr8⟩, WL8, K8⟩
      obtain rfl : S = RS := lex_uniq (hSp.trans hpmS.symm) hSw hpwS
      have hDSm : DS ∉ l.muts := fun h => by
        obtain ⟨o, ho, _⟩ := WL6.mutsIn DS h
        exact Nat.lt_irrefl _ (ltS _ (.tail _ ho))
      have hDS8 := K8 _ (.head _) hDSm
      have hRS8 : RowsAre nw8 vsS S := rows_mono (fun _ _ x => TupI.keepW WLS US K8 (x.sub fun _ hp => .tail _ hp)) hRS
      have hra8 := K8 _ (.tail _ (.tail _ hra6)) hram
      have hR8 : RowsAre nw8 vsr (E.map rowOf) := rows_mono (fun _ _ x => TupI.keepW WLS US K8 (x.sub fun _ hp => .tail _ (.tail _ hp))) hR6
      have hst8 := K8 _ hstS hsam
      have hc8 := K8 _ hcS hA3
      have P8 := (P6.sub (news' := (DS, W.listOf vsS.toArray cS) :: (D, W.listOf ys nn) :: nw6) fun _ hp => .tail _ (.tail _ hp)).keep K8 hsrm
      have K8' : Keep (src :: sa :: l.muts) news nw8 := K6'.trans ((show Keep l.muts nw6 nw8 from fun p hp hn => K8 p (.tail _ (.tail _ hp)) hn).weaken (by simp; exact fun x hx => .inr (.inr hx)))
      have U8 := uq N8
      clear inst dict hstS hcS WLS US hRD hDm hra6 hR6 hst6 hc6 P6 WL6 K8 K6'
      (try clear NS)
      (try clear FS)
      (try clear N6')
      repeat' (first | (k_unfold; (try dsimp only)) | walk1)
      refine Stop.mk ?_
      show wpAny _ _ _ _ _ _
      k_fold
      refine' wpAny_ListComp_free (fun _ => true) (GI nw8 (·.2.2)) ?hclos ?hcell ?hkind ?hnames ?hx ?_ ?hs
      case hclos => with_unfolding_all rfl
      case hcell => decide
      case hkind => with_unfolding_all rfl
      case hnames => decide
      case hx => with_unfolding_all rfl
      case hs => intro _; with_unfolding_all rfl
      repeat' (first | (k_unfold; (try dsimp only)) | walk1)
      refine Stop.mk (comp_list (l := DS) rfl (by k_asm) N8 hDS8 (by
        have q := hRS8.length
        rw [hpmS.length_eq] at q
        have q2 := dueRows_len E (now + d)
        rw [List.size_toArray]; omega) ?he ?hQ)
      case he =>
        intro v hv
        obtain ⟨r, hr, hrv⟩ := rows_mem hRS8 hv
        obtain ⟨b, q1, q2, q3, nn, rfl, hb⟩ := hrv.three
        refine eltOk0 ?_
        intro C s₃ m₃ E' F3 N3 hn hm
        repeat' (first | (k_unfold; (try dsimp only)) | walk1)
        all_goals first | exact Keeps.of_toks _ _ | exact ⟨r, _, hrv, rfl⟩
      case hQ =>
        intro D9 hp9 tk9 ys9 nn9 F9 N9 hD9 hpr9
        have hft : List.filter (fun _ : Value => true) (List.toArray vsS).toList = vsS := by simp
        rw [hft] at hpr9
        have hti := paired_ints U8 hRS8 hpr9
        have hl1 : Heap.IsList hp9 da vsd.toArray := ⟨_, (N9 _ (.tail _ hda)).1, rfl, nd, rfl⟩
        have hl2 := isL N9 (a := D9) (its := ys9) (n := nn9) (.head _)
        repeat' (first | (k_unfold; (try dsimp only)) | walk1)
        refine Stop.mk (ne_intsK hl1 hid hl2 hti (by show un + 3 + 64 < cLine; omega) ?_)
        rw [decide_eq_true (rfl : List.map (fun x : Row => x.2.2) S = List.map (fun x => x.2.2) S)]
        have U9 := uq N9
        have hra9 : (ra, W.listOf vsr.toArray nr) ∈ (D9, W.listOf ys9 nn9) :: nw8 := .tail _ hra8
        have hR9 : RowsAre ((D9, W.listOf ys9 nn9) :: nw8) vsr (E.map rowOf) := rows_mono (fun _ _ x => x.sub fun _ hp => .tail _ hp) hR8
        have hst9 : (sa, W.listOf #[Value.int (now + d) tg6, Value.int given t2] nst) ∈ (D9, W.listOf ys9 nn9) :: nw8 := .tail _ hst8
        have hc9 : (L1 + 1, o2) ∈ (D9, W.listOf ys9 nn9) :: nw8 := .tail _ hc8
        repeat' (first | (k_unfold; (try dsimp only)) | walk1)
        refine Stop.mk ?_
        k_fold
        refine' wpAny_ListComp_free (pq ((D9, W.listOf ys9 nn9) :: nw8) fun r => decide (now + d < r.1)) (fun v y => y = v) ?hclos ?hcell ?hkind ?hnames ?hx ?_ ?hs
        case hclos => with_unfolding_all rfl
        case hcell => decide
        case hkind => with_unfolding_all rfl
        case hnames => decide
        case hx => with_unfolding_all rfl
        case hs => intro _; with_unfolding_all rfl
        repeat' (first | (k_unfold; (try dsimp only)) | walk1)
        refine Stop.mk (comp_list (l := ra) rfl (by k_asm) N9 hra9 (by rw [List.size_toArray, hR9.length, List.length_map]; omega) ?he ?hQ)
        case he =>
          intro v hv
          obtain ⟨r, hr, hrv⟩ := rows_mem hR9 hv
          have hpq := pq_at U9 (q := fun r => decide (now + d < r.1)) hrv
          obtain ⟨b, q1, q2, q3, nn, rfl, hb⟩ := hrv.three
          refine eltOk1 ?_ ?_
          · intro C s₃ m₃ E' F3 N3 hn hm
            rw [hpq]
            repeat' (first | (k_unfold; (try dsimp only)) | walk1)
            all_goals exact Keeps.of_toks _ _
          · intro C s₃ m₃ E' F3 N3 hn hm _
            repeat' (first | (k_unfold; (try dsimp only)) | walk1)
            exact Keeps.refl _
        case hQ =>
          intro Dz hpz tkz ysz nnz Fz Nz hDz hprz
          have hysz := paired_eq hprz
          repeat' (first | (k_unfold; (try dsimp only)) | walk1)
          refine hret _ _ _ _ (by k_asm) (by k_asm) ⟨⟨Dz, later E (now + d), some (now + d), given, now + d, rfl, LawIn.fresh (nw := (D9, W.listOf ys9 nn9) :: nw8) (fun _ hp => .tail _ hp) (P8.sub fun _ hp => .tail _ hp) ⟨_, _, _, hst9⟩ (WheelG.sub WL8 fun _ hp => .tail _ hp) hDz ⟨ysz.toList, nnz, by rw [Array.toArray_toList]; exact .head _, ?_⟩ hW.src_sa hW.src_l hW.sa_l ?_ ?_ ?_, by omega, by omega⟩, K8'.cons.cons⟩
          · rw [hysz, map_later]
            exact rows_mono (fun _ _ x => x.sub fun _ hp => .tail _ hp) (rows_filter U9 hR9)
          · intro r q
            cases q
            exact ⟨by omega, Int.le_refl _⟩
          · intro e he
            exact hW.keys e (List.mem_filter.mp he).1
          · intro e he
            have := hW.times e (List.mem_filter.mp he).1
            omega
end Mine
end
section
local macro_rules | `(tactic| k_mem) => `(tactic| assumption)
local macro_rules | `(tactic| walk_at "getMethod ref") => `(tactic| (k_here; (with_reducible show wpAny _ _ (getMethod (Value.ref _) (PySem.Str.ofString "pop") _) _ _ _); k_dflt (refine' kob_method (knd := intKind _ _) PySem.F.slot_dict_pop ?ty ?N ?m ?d ?_; (case N => k_asm); (case m => assumption); (case d => assumption); (case ty => exact PySem.F.type_dict_pop))))
local macro_rules | `(tactic| walk_at "exec For") => `(tactic| (refine wpAny_For ?_ ?hs; (case hs => (intro _; with_unfolding_all rfl))))
local macro_rules | `(tactic| walk_at "exec For Name Tuple cons nil") => `(tactic| (refine wpAny_For ?_ ?hs; (case hs => (intro _; with_unfolding_all rfl))))
local macro_rules | `(tactic| walk_at "exec For Name Call cons nil") => `(tactic| (refine wpAny_For ?_ ?hs; (case hs => (intro _; with_unfolding_all rfl))))
local macro_rules | `(tactic| walk_at "exec For Name Call cons cons") => `(tactic| (refine wpAny_For ?_ ?hs; (case hs => (intro _; with_unfolding_all rfl))))
local macro_rules | `(tactic| walk_at "call ref") => `(tactic| (k_here; refine Mine.Stop.out ?_))
local macro_rules | `(tactic| walk_at "pyIter ref") => `(tactic| (k_here; refine Mine.Stop.out ?_))
local macro_rules | `(tactic| walk_at "compareOp In int ref") => `(tactic| (k_here; refine Mine.Stop.out ?_))
local macro_rules | `(tactic| walk_at "call builtin:dict.pop") => `(tactic| (k_here; refine Mine.Stop.out ?_))
local macro_rules | `(tactic| walk_at "call builtin:list.remove") => `(tactic| (k_here; refine Mine.Stop.out ?_))
local macro_rules | `(tactic| walk_at "call builtin:list.append") => `(tactic| (k_here; refine Mine.Stop.out ?_))
local macro_rules | `(tactic| walk_at "setItem ref int ref") => `(tactic| (k_here; refine Mine.Stop.out ?_))
local macro_rules | `(tactic| walk_at "subscriptTail") => `(tactic| (k_here; (with_reducible show wpAny _ _ (subscriptTail _ _ (Value.ref _) (Value.int (Int.fmod _ _) _)) _ _ _); refine Mine.Stop.out ?_))
local macro_rules | `(tactic| walk_at "setAttr ref") => `(tactic| (k_here; refine Mine.Stop.out ?_))
local macro_rules | `(tactic| walk_at "subscriptTail") => `(tactic| (k_here; (with_reducible show wpAny _ _ (subscriptTail _ _ (Value.ref _) (Value.int _ _)) _ _ _); k_dflt (refine' kda_item (knd := intKind _ _) ?N ?m ?d ?k ?v ?_; (case N => k_asm); (case m => k_mem); (case d => assumption); (case k => exact intKind_is _ _ _ _); (case v => assumption))))
local macro_rules | `(tactic| walk_at "eval ListComp") => `(tactic| (k_here; refine Mine.Stop.out ?_))
local macro_rules | `(tactic| walk_at "compareOp NotEq ref ref") => `(tactic| (k_here; refine Mine.Stop.out ?_))
local macro_rules | `(tactic| walk_at "compareOp Eq ref ref") => `(tactic| (k_here; refine Mine.Stop.out ?_))
local macro_rules | `(tactic| walk_at "call builtin:sorted") => `(tactic| (k_here; refine Mine.Stop.out ?_))
local macro_rules | `(tactic| walk_at "call builtin:min") => `(tactic| (k_here; refine Mine.Stop.out ?_))
local macro_rules | `(tactic| walk_at "call type:range") => `(tactic| (k_here; refine Mine.Stop.out ?_))
local macro_rules | `(tactic| walk_at "call type:list") => `(tactic| (k_here; refine Mine.Stop.out ?_))
local macro_rules | `(tactic| walk_at "binaryOp Add ref ref") => `(tactic| (k_here; refine Mine.Stop.out ?_))
namespace Mine
theorem allLt_mem {a : Addr} : ∀ {l : Led}, AllLt a l → ∀ p ∈ l, @LT.lt Nat _ p.1 a
  | [], _, _, h => nomatch h
  | _ :: _, x, p, h => by
    rcases List.mem_cons.mp h with rfl | h
    · exact x.1
    · exact allLt_mem x.2 p h
section
variable {w : World} {A : Around} {E9 : Value → Shared → Prop} {s : Shared} {h₀ : Heap} {L x dx : Addr} {m : Str → Option Value} {news : Led} {es es' : List DictEntry} {n n' : Nat} {name : Str} {v : Value}
theorem inst_set {Q : Unit → Shared → Prop} (F : Fr h₀ L s.heap m) (X : (hd.heap_39 w.params).In h₀) (N : News h₀ L s.heap news) (hx : (x, instObj 75 dx) ∈ news) (hd' : (dx, dictOf es n) ∈ news)
    (ht : takerIn (hd.heap_39 w.params) 75 name = some none) (hl : (getL name es).isSome = true)
    (e : (putL name (PyData.keyHash w.params name) (.str name (s.toks + 1)) v es, putN name es n) = (es', n')) (hz : es'.length ≤ 1000)
    (h : ∀ h', Fr h₀ L h' m → News h₀ L h' ((dx, dictOf es' n') :: Foc news dx) → Q () { s with heap := h', toks := s.toks + 2 }) :
    wpAny (model prg w) A (setAttr (.ref x) name v) Q E9 s := by
  refine set_dict (K := hd.heap_39 w.params) (C := 75) F X (news_foc N hd') (InstAt.of_news N hx hd') rfl ?k6 ?k7 ht ?k9 hl e upd_foc hz h
  case k6 => k_is
  case k7 => k_is
  case k9 => k_is
end
theorem off1_mem {D : Addr} : ∀ {l : Led}, LCg.Off1 D l → ∀ p ∈ l, p.1 ≠ D
  | [], _, _, h => nomatch h
  | _ :: _, x, p, h => by
    rcases List.mem_cons.mp h with rfl | h
    · exact x.1
    · exact off1_mem x.2 p h
/-- the wheel on its way: its dict is o; ext is what is made beside -/
structure IS (news nw : Led) (x dx D : Addr) (as : List Addr) (o : Obj) (ext : Led) : Prop where
  inst : (x, instObj 75 dx) ∈ nw
  dict : (dx, o) ∈ nw
  slots : (D, LCg.lst (as.map Value.ref)) ∈ nw
  lists : ∀ a ∈ as, ∃ n, (a, W.listOf #[] n) ∈ nw
  old : ∀ p ∈ news, p ∈ nw ∧ p.1 ≠ dx
  ext : ∀ p ∈ ext, p ∈ nw ∧ p.1 ≠ dx
theorem IS.set {news nw : Led} {x dx D : Addr} {as : List Addr} {o o' : Obj} {ext : Led} (S : IS news nw x dx D as o ext) (U : Uq nw) (ho : o.cls = .type "dict") : IS news ((dx, o') :: Foc nw dx) x dx D as o' ext where
  inst := .tail _ (foc_cls U S.dict S.inst (by rw [ho]; simp))
  dict := .head _
  slots := .tail _ (foc_cls U S.dict S.slots (by rw [ho]; simp))
  lists := fun a ha => by
    obtain ⟨n, h⟩ := S.lists a ha
    exact ⟨n, .tail _ (foc_cls U S.dict h (by rw [ho]; simp))⟩
  old := fun p hp => ⟨.tail _ (foc_mem (S.old p hp).1 (S.old p hp).2), (S.old p hp).2⟩
  ext := fun p hp => ⟨.tail _ (foc_mem (S.ext p hp).1 (S.ext p hp).2), (S.ext p hp).2⟩
theorem IS.add {news nw : Led} {x dx D : Addr} {as : List Addr} {o : Obj} {ext : Led} {q : Addr × Obj} (S : IS news nw x dx D as o ext) (hq : q.1 ≠ dx) : IS news (q :: nw) x dx D as o (q :: ext) where
  inst := .tail _ S.inst
  dict := .tail _ S.dict
  slots := .tail _ S.slots
  lists := fun a ha => by
    obtain ⟨n, h⟩ := S.lists a ha
    exact ⟨n, .tail _ h⟩
  old := fun p hp => ⟨.tail _ (S.old p hp).1, (S.old p hp).2⟩
  ext := fun p hp => by
    rcases List.mem_cons.mp hp with rfl | hp
    · exact ⟨.head _, hq⟩
    · exact ⟨.tail _ (S.ext p hp).1, (S.ext p hp).2⟩
/-- the lists made so far: new, all different, all empty -/
def Made (N0 : Led) (i : Nat) (ys : List Value) (nw : Led) : Prop := ∃ as : List Addr, ys = as.map Value.ref ∧ as.length = i ∧ as.Nodup ∧ (∀ a ∈ as, (∃ n, (a, W.listOf #[] n) ∈ nw) ∧ ∀ p ∈ N0, p.1 ≠ a) ∧ ∀ p ∈ N0, p ∈ nw
theorem slots_rest {prog : Program} {w : World} {A : Around} {h₀ : Heap} {L : Addr} {m : Str → Option Value} {env : Env} {elt : Expr} {x : Str} {scope : Scope} {cl : List (Str × Addr)} {s : Shared} {P : Nat → Value → Prop} {Fin : List Value → Led → Prop} {N0 : Led} {n : Nat}
    (step : ∀ i ys nw v I oI C oC D m₂ h tk (E' : Value → Shared → Prop), LCg.NsObj oC m₂ → m₂ x = some v → Fr h₀ L h m → News h₀ L h ((I, oI) :: (C, oC) :: (D, LCg.lst ys) :: nw) → LCg.Off3 I C D nw → ((@Ne Nat I C) ∧ (@Ne Nat I D) ∧ (@Ne Nat C D)) → Made N0 i ys nw →
      wpAny (model prog w) A (eval elt (compEnvC scope cl C env)) (LCg.CompEnd h₀ L m { s with heap := h, toks := tk } I oI C oC D (LCg.lst ys) (fun _ => True) (fun y news' => Made N0 (i + 1) (ys ++ [y]) news')) E' { s with heap := h, toks := tk })
    (fin : ∀ ys nw, Made N0 n ys nw → Fin ys nw) : ∀ (k i : Nat) (ys : List Value) (nw : Led), i + k = n → Made N0 i ys nw → LCg.CompRest prog w A h₀ L m env elt x scope cl s (fun _ => True) P Fin k i ys nw
  | 0, i, ys, nw, hi, hM => LCg.CompRest.zero (fin ys nw (by
      have : i = n := by omega
      exact this ▸ hM))
  | k + 1, i, ys, nw, hi, hM => LCg.CompRest.succ fun v I oI C oC D m₂ h tk E' _ hoC hm F N off ne => by
      refine wpAny_mono (step i ys nw v I oI C oC D m₂ h tk E' hoC hm F N off ne hM) (fun y s₂ hc => ?_) fun _ _ e => e
      obtain ⟨h', tk', news', rfl, F', N', off', _, hM'⟩ := hc
      exact ⟨h', tk', news', rfl, F', N', off', trivial, slots_rest step fin k (i + 1) _ _ (by omega) hM'⟩
set_option maxRecDepth 100000 in
set_option maxHeartbeats 8000000 in
theorem wheel_ctr (w : World) (size : Nat) (tsz : Tok) (h1 : 1 ≤ size) (h9 : size ≤ 9) :
    Ctr 2 w 75 [.int size tsz] (fun _ => True)
      (fun news r news' => (∃ l, r = .ref l.x ∧ WheelIn w news' l size [] none 0 ∧ ∀ a ∈ l.all, ∀ p ∈ news, p.1 ≠ a) ∧ Keep [] news news') := by
  unfold Ctr
  intro p loose mean mg mb dp un gd cn cs a ccd cl outer A₀ base h₀ L m news s Q E9 B F X N T hk hW hd9 hu9 hret
  k_dflt (refine' call_cls (K := hd.heap_39 w.params) (C := 75) F X N ?k1 ?k2 ?k3 ?_; (case k1 => k_is); (case k2 => k_is); (case k3 => k_is))
  intro x dx hp0 F0 N0 lt0 ltx
  have lt0' := lt0
  have ltx' := ltx
  replace lt0 := allLt_of lt0
  k_lt2 ltx
  k_dflt (refine' code_def ?k1 ?k2 ?k3 ?k4 ?k5 ?kA ?kF ?kK ?k6 ?k7 ?k8 ?k9 ?kB ?_ ?c2 ?c3 ?c4 ?c5; (case kA => exact rfl); (case kF => exact rfl); (case kK => assumption); (case k1 => k_asm); (case k2 => k_asm); (case k3 => k_asm); (case k4 => k_asm); (case k5 => k_asm); (case k6 => k_is); (case k7 => k_is); (case k8 => ktr_room); (case k9 => exact binds_K (by k_in) rfl (by k_is) rfl rfl rfl); (case c5 => decide); (case kB => exact locs rfl); (case c2 => exact rfl); (case c3 => exact rfl); (case c4 => exact rfl); k_whole; intro g1 L1 hp1 FG1 F1 N1 B1 X1 T1; (try dsimp only); (try k_fold))
  have F1' : Fr g1 L1 hp1 (fun y => List.lookup y [(Str.ofString "size", Value.int size tsz), (Str.ofString "self", Value.ref x)]) := F1
  clear F1
  repeat' (first | (k_unfold; (try dsimp only)) | walk1)
  refine Stop.mk (inst_set (by k_asm) (by k_asm) N1 (.head _) (.tail _ (.head _)) (by k_is) (by with_unfolding_all rfl) (es' := [dE (PyData.keyHash w.params (Str.ofString "size")) "size" _ (.int size tsz)]) (n' := 1) (by with_unfolding_all rfl) (Nat.le_of_ble_eq_true rfl) ?_)
  intro hp2 F2 N2
  obtain ⟨tka, N2'⟩ : ∃ tka, News g1 L1 hp2 ((dx, dictOf [dE (PyData.keyHash w.params (Str.ofString "size")) "size" tka (.int size tsz)] 1) :: Foc ((x, instObj 75 dx) :: (dx, dictOf [] 0) :: news) dx) := ⟨_, N2⟩
  clear N2
  have hx2 : (x, instObj 75 dx) ∈ (dx, dictOf [dE (PyData.keyHash w.params (Str.ofString "size")) "size" tka (.int size tsz)] 1) :: Foc ((x, instObj 75 dx) :: (dx, dictOf [] 0) :: news) dx := .tail _ (foc_mem (.head _) (Nat.ne_of_gt ltx'))
  have hd2 : (dx, dictOf [dE (PyData.keyHash w.params (Str.ofString "size")) "size" tka (.int size tsz)] 1) ∈ (dx, dictOf [dE (PyData.keyHash w.params (Str.ofString "size")) "size" tka (.int size tsz)] 1) :: Foc ((x, instObj 75 dx) :: (dx, dictOf [] 0) :: news) dx := .head _
  have hs2 : ∀ p ∈ news, p ∈ (dx, dictOf [dE (PyData.keyHash w.params (Str.ofString "size")) "size" tka (.int size tsz)] 1) :: Foc ((x, instObj 75 dx) :: (dx, dictOf [] 0) :: news) dx := fun p hp => .tail _ (foc_mem (.tail _ (.tail _ hp)) (Nat.ne_of_lt (lt0' p hp)))
  generalize (dx, dictOf [dE (PyData.keyHash w.params (Str.ofString "size")) "size" tka (.int size tsz)] 1) :: Foc ((x, instObj 75 dx) :: (dx, dictOf [] 0) :: news) dx = nw2 at N2' hx2 hd2 hs2
  repeat' (first | (k_unfold; (try dsimp only)) | walk1)
  refine Stop.mk ?_
  k_fold
  refine' LCg.ListComp_U (by k_asm) ?hclos ?hcell ?hkind ?hnames ?hx ?_ ?hs
  case hclos => with_unfolding_all rfl
  case hcell => decide
  case hkind => with_unfolding_all rfl
  case hnames => decide
  case hx => with_unfolding_all rfl
  case hs => intro _; with_unfolding_all rfl
  repeat' (first | (k_unfold; (try dsimp only)) | walk1)
  refine Stop.mk (range1_rows (by k_asm) (by k_asm) ?_)
  intro hp3 tk3 t3 u3 v3 hR F3 N3 up3
  have hsz : Builtin.Range.rangeSize 0 (size : Int) 1 = ((size : Nat) : Int) := by
    unfold Builtin.Range.rangeSize
    rw [if_pos (by decide)]
    split <;> omega
  have hsm : Builtin.Range.small 0 (size : Int) 1 = true := by
    have hc : size = 1 ∨ size = 2 ∨ size = 3 ∨ size = 4 ∨ size = 5 ∨ size = 6 ∨ size = 7 ∨ size = 8 ∨ size = 9 := by omega
    rcases hc with rfl | rfl | rfl | rfl | rfl | rfl | rfl | rfl | rfl <;> decide
  refine LCg.CompSrc.range rfl F3 N3 hR hsm hsz (by rw [sizeLine_eq]; omega) fun g => ?_
  refine slots_rest (N0 := nw2) (n := size) ?_ ?_ size 0 [] nw2 (by omega) ⟨[], rfl, rfl, .nil, fun _ h => (nomatch h), fun _ h => h⟩
  · intro i ys nw v I oI C oC D m₂ h tk E' hoC hm FE NE offE neE hP
    repeat' (first | (k_unfold; (try dsimp only)) | walk1)
    rename_i l9 hp9 F9 N9 lt9
    obtain ⟨as, rfl, hlen, hnd, has, hsub⟩ := hP
    have ln : ∀ p ∈ nw, @LT.lt Nat _ p.1 l9 := fun p hp => allLt_mem lt9.2.2.2 p hp
    have hl9 : l9 ∉ as := fun h => by
      obtain ⟨⟨n, hm⟩, _⟩ := has l9 h
      exact Nat.lt_irrefl _ (ln _ hm)
    refine LCg.CompEnd.intro F9 N9 ((l9, W.listOf #[] 0) :: nw) (fun p hp => ?_) (LCg.Off3.of fun p hp => ?_) trivial ⟨as ++ [l9], by simp, by simp [hlen], ?_, ?_, fun p hp => .tail _ (hsub p hp)⟩
    · rcases List.mem_cons.mp hp with rfl | hp
      · exact .tail _ (.head _)
      · rcases List.mem_cons.mp hp with rfl | hp
        · exact .tail _ (.tail _ (.head _))
        · rcases List.mem_cons.mp hp with rfl | hp
          · exact .tail _ (.tail _ (.tail _ (.head _)))
          · rcases List.mem_cons.mp hp with rfl | hp
            · exact .head _
            · exact .tail _ (.tail _ (.tail _ (.tail _ hp)))
    · rcases List.mem_cons.mp hp with rfl | hp
      · exact ⟨Nat.ne_of_gt lt9.1, Nat.ne_of_gt lt9.2.1, Nat.ne_of_gt lt9.2.2.1⟩
      · exact offE.mem p hp
    · exact List.nodup_append.mpr ⟨hnd, by simp, fun a ha b hb e => hl9 (by rw [List.mem_singleton.mp hb] at e; exact e ▸ ha)⟩
    · intro a ha
      rcases List.mem_append.mp ha with ha | ha
      · obtain ⟨⟨n, hm⟩, hf⟩ := has a ha
        exact ⟨⟨n, .tail _ hm⟩, hf⟩
      · rw [List.mem_singleton.mp ha]
        exact ⟨⟨0, .head _⟩, fun p hp => Nat.ne_of_lt (ln p (hsub p hp))⟩
  · intro ys nw hS D hpD tkD FD ND offD
    obtain ⟨as, rfl, hlen, hnd, has, hsub⟩ := hS
    have hx3 := hsub _ hx2
    have hd3 := hsub _ hd2
    have hs3 := fun p hp => hsub p (hs2 p hp)
    have hasx : ∀ a ∈ as, a ≠ x ∧ a ≠ dx ∧ ∀ p ∈ news, p.1 ≠ a := fun a ha => ⟨fun e => (has a ha).2 _ hx2 e.symm, fun e => (has a ha).2 _ hd2 e.symm, fun p hp => (has a ha).2 p (hs2 p hp)⟩
    have S3 : IS news ((D, LCg.lst (as.map Value.ref)) :: nw) x dx D as (dictOf [dE (PyData.keyHash w.params (Str.ofString "size")) "size" tka (.int size tsz)] 1) [] := ⟨.tail _ hx3, .tail _ hd3, .head _, fun a ha => by
      obtain ⟨n, h⟩ := (has a ha).1
      exact ⟨n, .tail _ h⟩, fun p hp => ⟨.tail _ (hs3 p hp), Nat.ne_of_lt (lt0' p hp)⟩, fun _ h => (nomatch h)⟩
    have hDn : ∀ p ∈ nw, p.1 ≠ D := off1_mem offD
    have hDx : D ≠ x ∧ D ≠ dx ∧ D ∉ as ∧ ∀ p ∈ news, p.1 ≠ D := ⟨Ne.symm (hDn _ hx3), Ne.symm (hDn _ hd3), fun h => by
      obtain ⟨n, hm⟩ := (has D h).1
      exact hDn _ hm rfl, fun p hp => hDn _ (hs3 p hp)⟩
    clear hx2 hd2 hs2 hsub has hx3 hd3 hs3 hDn
    generalize (D, LCg.lst (as.map Value.ref)) :: nw = nw3 at ND S3
    have U3 := uq ND
    repeat' (first | (k_unfold; (try dsimp only)) | walk1)
    refine Stop.mk (inst_set (by k_asm) (by k_asm) ND S3.inst S3.dict (by k_is) (by with_unfolding_all rfl) (es' := [dE (PyData.keyHash w.params (Str.ofString "size")) "size" tka (.int size tsz), dE (PyData.keyHash w.params (Str.ofString "slots")) "slots" _ (.ref D)]) (n' := 2) (by with_unfolding_all rfl) (Nat.le_of_ble_eq_true rfl) ?_)
    intro hp4 F4 N4
    obtain ⟨tkb, N4'⟩ : ∃ tkb, News g1 L1 hp4 ((dx, dictOf [dE (PyData.keyHash w.params (Str.ofString "size")) "size" tka (.int size tsz), dE (PyData.keyHash w.params (Str.ofString "slots")) "slots" tkb (.ref D)] 2) :: Foc nw3 dx) := ⟨_, N4⟩
    clear N4
    have S4 := S3.set (o' := dictOf [dE (PyData.keyHash w.params (Str.ofString "size")) "size" tka (.int size tsz), dE (PyData.keyHash w.params (Str.ofString "slots")) "slots" tkb (.ref D)] 2) U3 rfl
    generalize (dx, dictOf [dE (PyData.keyHash w.params (Str.ofString "size")) "size" tka (.int size tsz), dE (PyData.keyHash w.params (Str.ofString "slots")) "slots" tkb (.ref D)] 2) :: Foc nw3 dx = nw4 at N4' S4
    clear S3 U3
    repeat' (first | (k_unfold; (try dsimp only)) | walk1)
    rename_i l5 hp5 F5 N5 lt5
    have S5 := S4.add (q := (l5, W.listOf #[] 0)) (Ne.symm (Nat.ne_of_lt (lt5 _ S4.dict)))
    have U5 := uq N5
    refine Stop.mk (inst_set (by k_asm) (by k_asm) N5 S5.inst S5.dict (by k_is) (by with_unfolding_all rfl) (es' := [dE (PyData.keyHash w.params (Str.ofString "size")) "size" tka (.int size tsz), dE (PyData.keyHash w.params (Str.ofString "slots")) "slots" tkb (.ref D), dE (PyData.keyHash w.params (Str.ofString "late")) "late" _ (.ref l5)]) (n' := 3) (by with_unfolding_all rfl) (Nat.le_of_ble_eq_true rfl) ?_)
    intro hp6 F6 N6
    obtain ⟨tkc, N6'⟩ : ∃ tkc, News g1 L1 hp6 ((dx, dictOf [dE (PyData.keyHash w.params (Str.ofString "size")) "size" tka (.int size tsz), dE (PyData.keyHash w.params (Str.ofString "slots")) "slots" tkb (.ref D), dE (PyData.keyHash w.params (Str.ofString "late")) "late" tkc (.ref l5)] 3) :: Foc ((l5, W.listOf #[] 0) :: nw4) dx) := ⟨_, N6⟩
    clear N6
    have S6 := S5.set (o' := dictOf [dE (PyData.keyHash w.params (Str.ofString "size")) "size" tka (.int size tsz), dE (PyData.keyHash w.params (Str.ofString "slots")) "slots" tkb (.ref D), dE (PyData.keyHash w.params (Str.ofString "late")) "late" tkc (.ref l5)] 3) U5 rfl
    generalize (dx, dictOf [dE (PyData.keyHash w.params (Str.ofString "size")) "size" tka (.int size tsz), dE (PyData.keyHash w.params (Str.ofString "slots")) "slots" tkb (.ref D), dE (PyData.keyHash w.params (Str.ofString "late")) "late" tkc (.ref l5)] 3) :: Foc ((l5, W.listOf #[] 0) :: nw4) dx = nw6 at N6' S6
    clear S5 U5
    repeat' (first | (k_unfold; (try dsimp only)) | walk1)
    rename_i en hp7 oen F7 N7 lt7 len7 hsn7 fsn7 hdn7 fin7
    have S7 := S6.add (q := (en, oen)) (Ne.symm (Nat.ne_of_lt (lt7 _ S6.dict)))
    have U7 := uq N7
    refine Stop.mk (inst_set (by k_asm) (by k_asm) N7 S7.inst S7.dict (by k_is) (by with_unfolding_all rfl) (es' := [dE (PyData.keyHash w.params (Str.ofString "size")) "size" tka (.int size tsz), dE (PyData.keyHash w.params (Str.ofString "slots")) "slots" tkb (.ref D), dE (PyData.keyHash w.params (Str.ofString "late")) "late" tkc (.ref l5), dE (PyData.keyHash w.params (Str.ofString "entries")) "entries" _ (.ref en)]) (n' := 4) (by with_unfolding_all rfl) (Nat.le_of_ble_eq_true rfl) ?_)
    intro hp8 F8 N8
    obtain ⟨tkd, N8'⟩ : ∃ tkd, News g1 L1 hp8 ((dx, dictOf [dE (PyData.keyHash w.params (Str.ofString "size")) "size" tka (.int size tsz), dE (PyData.keyHash w.params (Str.ofString "slots")) "slots" tkb (.ref D), dE (PyData.keyHash w.params (Str.ofString "late")) "late" tkc (.ref l5), dE (PyData.keyHash w.params (Str.ofString "entries")) "entries" tkd (.ref en)] 4) :: Foc ((en, oen) :: nw6) dx) := ⟨_, N8⟩
    clear N8
    have S8 := S7.set (o' := dictOf [dE (PyData.keyHash w.params (Str.ofString "size")) "size" tka (.int size tsz), dE (PyData.keyHash w.params (Str.ofString "slots")) "slots" tkb (.ref D), dE (PyData.keyHash w.params (Str.ofString "late")) "late" tkc (.ref l5), dE (PyData.keyHash w.params (Str.ofString "entries")) "entries" tkd (.ref en)] 4) U7 rfl
    generalize (dx, dictOf [dE (PyData.keyHash w.params (Str.ofString "size")) "size" tka (.int size tsz), dE (PyData.keyHash w.params (Str.ofString "slots")) "slots" tkb (.ref D), dE (PyData.keyHash w.params (Str.ofString "late")) "late" tkc (.ref l5), dE (PyData.keyHash w.params (Str.ofString "entries")) "entries" tkd (.ref en)] 4) :: Foc ((en, oen) :: nw6) dx = nw8 at N8' S8
    clear S7 U7
    repeat' (first | (k_unfold; (try dsimp only)) | walk1)
    have U8 := uq N8'
    refine Stop.mk (inst_set (by k_asm) (by k_asm) N8' S8.inst S8.dict (by k_is) (by with_unfolding_all rfl) (es' := [dE (PyData.keyHash w.params (Str.ofString "size")) "size" tka (.int size tsz), dE (PyData.keyHash w.params (Str.ofString "slots")) "slots" tkb (.ref D), dE (PyData.keyHash w.params (Str.ofString "late")) "late" tkc (.ref l5), dE (PyData.keyHash w.params (Str.ofString "entries")) "entries" tkd (.ref en), dE (PyData.keyHash w.params (Str.ofString "reached")) "reached" _ .none]) (n' := 5) (by with_unfolding_all rfl) (Nat.le_of_ble_eq_true rfl) ?_)
    intro hp9 F9 N9
    obtain ⟨tke, N9'⟩ : ∃ tke, News g1 L1 hp9 ((dx, dictOf [dE (PyData.keyHash w.params (Str.ofString "size")) "size" tka (.int size tsz), dE (PyData.keyHash w.params (Str.ofString "slots")) "slots" tkb (.ref D), dE (PyData.keyHash w.params (Str.ofString "late")) "late" tkc (.ref l5), dE (PyData.keyHash w.params (Str.ofString "entries")) "entries" tkd (.ref en), dE (PyData.keyHash w.params (Str.ofString "reached")) "reached" tke .none] 5) :: Foc nw8 dx) := ⟨_, N9⟩
    clear N9
    have S9 := S8.set (o' := dictOf [dE (PyData.keyHash w.params (Str.ofString "size")) "size" tka (.int size tsz), dE (PyData.keyHash w.params (Str.ofString "slots")) "slots" tkb (.ref D), dE (PyData.keyHash w.params (Str.ofString "late")) "late" tkc (.ref l5), dE (PyData.keyHash w.params (Str.ofString "entries")) "entries" tkd (.ref en), dE (PyData.keyHash w.params (Str.ofString "reached")) "reached" tke .none] 5) U8 rfl
    generalize (dx, dictOf [dE (PyData.keyHash w.params (Str.ofString "size")) "size" tka (.int size tsz), dE (PyData.keyHash w.params (Str.ofString "slots")) "slots" tkb (.ref D), dE (PyData.keyHash w.params (Str.ofString "late")) "late" tkc (.ref l5), dE (PyData.keyHash w.params (Str.ofString "entries")) "entries" tkd (.ref en), dE (PyData.keyHash w.params (Str.ofString "reached")) "reached" tke .none] 5) :: Foc nw8 dx = nw9 at N9' S9
    clear S8 U8
    repeat' (first | (k_unfold; (try dsimp only)) | walk1)
    have U9 := uq N9'
    refine Stop.mk (inst_set (by k_asm) (by k_asm) N9' S9.inst S9.dict (by k_is) (by with_unfolding_all rfl) (es' := [dE (PyData.keyHash w.params (Str.ofString "size")) "size" tka (.int size tsz), dE (PyData.keyHash w.params (Str.ofString "slots")) "slots" tkb (.ref D), dE (PyData.keyHash w.params (Str.ofString "late")) "late" tkc (.ref l5), dE (PyData.keyHash w.params (Str.ofString "entries")) "entries" tkd (.ref en), dE (PyData.keyHash w.params (Str.ofString "reached")) "reached" tke .none, dE (PyData.keyHash w.params (Str.ofString "given")) "given" _ (.int 0 _)]) (n' := 6) (by with_unfolding_all rfl) (Nat.le_of_ble_eq_true rfl) ?_)
    intro hp10 F10 N10
    obtain ⟨tkf, tg, N10'⟩ : ∃ tkf tg, News g1 L1 hp10 ((dx, dictOf [dE (PyData.keyHash w.params (Str.ofString "size")) "size" tka (.int size tsz), dE (PyData.keyHash w.params (Str.ofString "slots")) "slots" tkb (.ref D), dE (PyData.keyHash w.params (Str.ofString "late")) "late" tkc (.ref l5), dE (PyData.keyHash w.params (Str.ofString "entries")) "entries" tkd (.ref en), dE (PyData.keyHash w.params (Str.ofString "reached")) "reached" tke .none, dE (PyData.keyHash w.params (Str.ofString "given")) "given" tkf (.int 0 tg)] 6) :: Foc nw9 dx) := ⟨_, _, N10⟩
    clear N10
    have S10 := S9.set (o' := dictOf [dE (PyData.keyHash w.params (Str.ofString "size")) "size" tka (.int size tsz), dE (PyData.keyHash w.params (Str.ofString "slots")) "slots" tkb (.ref D), dE (PyData.keyHash w.params (Str.ofString "late")) "late" tkc (.ref l5), dE (PyData.keyHash w.params (Str.ofString "entries")) "entries" tkd (.ref en), dE (PyData.keyHash w.params (Str.ofString "reached")) "reached" tke .none, dE (PyData.keyHash w.params (Str.ofString "given")) "given" tkf (.int 0 tg)] 6) U9 rfl
    generalize (dx, dictOf [dE (PyData.keyHash w.params (Str.ofString "size")) "size" tka (.int size tsz), dE (PyData.keyHash w.params (Str.ofString "slots")) "slots" tkb (.ref D), dE (PyData.keyHash w.params (Str.ofString "late")) "late" tkc (.ref l5), dE (PyData.keyHash w.params (Str.ofString "entries")) "entries" tkd (.ref en), dE (PyData.keyHash w.params (Str.ofString "reached")) "reached" tke .none, dE (PyData.keyHash w.params (Str.ofString "given")) "given" tkf (.int 0 tg)] 6) :: Foc nw9 dx = nw10 at N10' S10
    clear S9 U9
    repeat' (first | (k_unfold; (try dsimp only)) | walk1)
    have n5 : ∀ p ∈ nw4, p.1 ≠ l5 := fun p hp => Nat.ne_of_lt (lt5 p hp)
    have n7 : ∀ p ∈ nw6, p.1 ≠ en := fun p hp => Nat.ne_of_lt (lt7 p hp)
    have hxd : x ≠ dx := Nat.ne_of_gt ltx'
    have hlt6 := S6.ext (l5, W.listOf #[] 0) (.head _)
    have hen := S10.ext (en, oen) (.head _)
    have hlt := S10.ext (l5, W.listOf #[] 0) (.tail _ (.head _))
    refine hret _ _ _ _ (by k_asm) (by k_asm) ⟨⟨⟨x, dx, D, l5, en, as⟩, rfl, ?_, ?_⟩, fun p hp _ => (S10.old p hp).1⟩
    · exact {
        nodup := by
          show (x :: dx :: D :: en :: l5 :: as).Nodup
          simp only [List.nodup_cons, List.mem_cons, not_or]
          refine ⟨⟨hxd, Ne.symm hDx.1, n7 _ S6.inst, n5 _ S4.inst, fun h => (hasx x h).1 rfl⟩, ⟨Ne.symm hDx.2.1, n7 _ S6.dict, n5 _ S4.dict, fun h => (hasx dx h).2.1 rfl⟩, ⟨n7 _ S6.slots, n5 _ S4.slots, hDx.2.2.1⟩, ⟨Ne.symm (n7 _ hlt6.1), fun h => ?_⟩, fun h => ?_, hnd⟩
          · obtain ⟨n, hm⟩ := S6.lists en h
            exact n7 _ hm rfl
          · obtain ⟨n, hm⟩ := S4.lists l5 h
            exact n5 _ hm rfl
        inst := S10.inst
        dict := ⟨_, _, _, _, _, _, _, _, _, _, _, _, _, _, _, _, .none, S10.dict⟩
        slots := ⟨_, S10.slots⟩
        size1 := h1
        size9 := h9
        len := hlen
        lo := len7
        lists := fun i a e => by
          refine ⟨[], ?_, .nil, Nat.zero_le _, fun k => ⟨fun h => (nomatch h), fun ⟨_, _, h, _⟩ => (nomatch h)⟩⟩
          rcases List.mem_cons.mp (List.mem_of_getElem? e) with rfl | h
          · exact ⟨[], 0, hlt.1, .nil⟩
          · obtain ⟨n, hm⟩ := S10.lists a h
            exact ⟨[], n, hm, .nil⟩
        ents := ⟨[], oen, hen.1, hdn7, trivial⟩
        keys := .nil }
    · intro a ha p hp
      have ha : a ∈ x :: dx :: D :: en :: l5 :: as := ha
      simp only [List.mem_cons] at ha
      have hpd := lt0' p hp
      rcases ha with rfl | rfl | rfl | rfl | rfl | ha
      · exact Nat.ne_of_lt (Nat.lt_trans hpd ltx')
      · exact Nat.ne_of_lt hpd
      · exact hDx.2.2.2 p hp
      · exact n7 _ (S6.old p hp).1
      · exact n5 _ (S4.old p hp).1
      · exact (hasx a ha).2.2 p hp
end Mine
end
section
local macro_rules | `(tactic| k_mem) => `(tactic| assumption)
local macro_rules | `(tactic| walk_at "getMethod ref") => `(tactic| (k_here; (with_reducible show wpAny _ _ (getMethod (Value.ref _) (PySem.Str.ofString "pop") _) _ _ _); k_dflt (refine' kob_method (knd := intKind _ _) PySem.F.slot_dict_pop ?ty ?N ?m ?d ?_; (case N => k_asm); (case m => assumption); (case d => assumption); (case ty => exact PySem.F.type_dict_pop))))
local macro_rules | `(tactic| walk_at "exec For") => `(tactic| (refine wpAny_For ?_ ?hs; (case hs => (intro _; with_unfolding_all rfl))))
local macro_rules | `(tactic| walk_at "exec For Name Tuple cons nil") => `(tactic| (refine wpAny_For ?_ ?hs; (case hs => (intro _; with_unfolding_all rfl))))
local macro_rules | `(tactic| walk_at "exec For Name Call cons nil") => `(tactic| (refine wpAny_For ?_ ?hs; (case hs => (intro _; with_unfolding_all rfl))))
local macro_rules | `(tactic| walk_at "exec For Name Call cons cons") => `(tactic| (refine wpAny_For ?_ ?hs; (case hs => (intro _; with_unfolding_all rfl))))
local macro_rules | `(tactic| walk_at "call ref") => `(tactic| (k_here; refine Mine.Stop.out ?_))
local macro_rules | `(tactic| walk_at "pyIter ref") => `(tactic| (k_here; refine Mine.Stop.out ?_))
local macro_rules | `(tactic| walk_at "compareOp In int ref") => `(tactic| (k_here; refine Mine.Stop.out ?_))
local macro_rules | `(tactic| walk_at "call builtin:dict.pop") => `(tactic| (k_here; refine Mine.Stop.out ?_))
local macro_rules | `(tactic| walk_at "call builtin:list.remove") => `(tactic| (k_here; refine Mine.Stop.out ?_))
local macro_rules | `(tactic| walk_at "call builtin:list.append") => `(tactic| (k_here; refine Mine.Stop.out ?_))
local macro_rules | `(tactic| walk_at "setItem ref int ref") => `(tactic| (k_here; refine Mine.Stop.out ?_))
local macro_rules | `(tactic| walk_at "subscriptTail") => `(tactic| (k_here; (with_reducible show wpAny _ _ (subscriptTail _ _ (Value.ref _) (Value.int (Int.fmod _ _) _)) _ _ _); refine Mine.Stop.out ?_))
local macro_rules | `(tactic| walk_at "setAttr ref") => `(tactic| (k_here; refine Mine.Stop.out ?_))
local macro_rules | `(tactic| walk_at "subscriptTail") => `(tactic| (k_here; (with_reducible show wpAny _ _ (subscriptTail _ _ (Value.ref _) (Value.int _ _)) _ _ _); k_dflt (refine' kda_item (knd := intKind _ _) ?N ?m ?d ?k ?v ?_; (case N => k_asm); (case m => k_mem); (case d => assumption); (case k => exact intKind_is _ _ _ _); (case v => assumption))))
local macro_rules | `(tactic| walk_at "exec Assign cons ListComp") => `(tactic| (k_here; refine Mine.Stop.out ?_))
local macro_rules | `(tactic| walk_at "eval ListComp") => `(tactic| (k_here; refine Mine.Stop.out ?_))
local macro_rules | `(tactic| walk_at "compareOp NotEq ref ref") => `(tactic| (k_here; refine Mine.Stop.out ?_))
local macro_rules | `(tactic| walk_at "compareOp Eq ref ref") => `(tactic| (k_here; refine Mine.Stop.out ?_))
local macro_rules | `(tactic| walk_at "call builtin:sorted") => `(tactic| (k_here; refine Mine.Stop.out ?_))
local macro_rules | `(tactic| walk_at "call builtin:min") => `(tactic| (k_here; refine Mine.Stop.out ?_))
local macro_rules | `(tactic| walk_at "call type:range") => `(tactic| (k_here; refine Mine.Stop.out ?_))
local macro_rules | `(tactic| walk_at "call type:list") => `(tactic| (k_here; refine Mine.Stop.out ?_))
local macro_rules | `(tactic| walk_at "binaryOp Add ref ref") => `(tactic| (k_here; refine Mine.Stop.out ?_))
local macro_rules | `(tactic| walk_at "subscriptTail") => `(tactic| (k_here; (with_reducible show wpAny _ _ (subscriptTail _ _ (Value.ref _) (Value.int _ _)) _ _ _); first | k_dflt (refine' Mine.tup_item ?N ?m ?h0 ?hhi ?hx ?_; (case N => k_asm); (case m => assumption); (case h0 => decide); (case hhi => decide); (case hx => with_unfolding_all rfl)) | k_dflt (refine' Mine.lst_item ?N ?m ?h0 ?hhi ?hx ?_; (case N => k_asm); (case m => assumption); (case h0 => decide); (case hhi => decide); (case hx => with_unfolding_all rfl)) | refine Mine.Stop.out ?_))
local macro_rules | `(tactic| walk_at "setItem ref int") => `(tactic| (k_here; refine Mine.Stop.out ?_))
local macro_rules | `(tactic| walk_at "call builtin:len") => `(tactic| (k_here; refine Mine.Stop.out ?_))
local macro_rules | `(tactic| walk_at "call ref") => `(tactic| (k_here; refine Mine.Stop.out ?_))
namespace Mine
theorem base_item {prog : Program} {w : World} {A : Around} {E : Value → Shared → Prop} {s : Shared} {a : Addr} {its : Array Value} {k : Int} {value slice : PySem.Expr} {u : Tok} {v : Value} {Q : Value → Shared → Prop} (hl : s.heap.IsList a its) (h0 : 0 ≤ k) (hhi : k < 2 ^ 63) (hx : its[k.toNat]? = some v) (h : Q v s)
    (hs : subscripted slice false (.ref a) (.int k u) = operate [.ref a, .int k u] (getItem (.ref a) (.int k u)) := by with_unfolding_all rfl) : wpAny (model prog w) A (subscriptTail value slice (.ref a) (.int k u)) Q E s :=
  tail_any hl.typeIs slot_list_getitem.lookup (wpAny_getItem_list hl h0 hhi hx h) hs
/-- as Ctr, with a list of the base heap -/
def CtrS (k : Nat) (sc : Addr) (svs : List Value) (w : World) (f : Addr) (vs : List Value) (Pre : Led → Prop) (Post : Led → Value → Led → Prop) : Prop :=
  ∀ (p : Program) (loose : List Str) (mean : ExcName → Option Value) (mg mb : Str → Option Value) (dp un : Nat) (gd : Option (List Code)) (cn : Str) (cs : Scope) (a : Addr) (ccd : Value) (cl : List (Str × Addr)) (outer : List Env) (A₀ : Around) (base h₀ : Heap) (L : Addr) (m : Str → Option Value) (news : Led) (s : Shared)
    (Q E : Value → Shared → Prop),
    h₀.IsList sc svs.toArray → Below A₀ base outer h₀ → Fr h₀ L s.heap m → (hd.heap_39 w.params).In h₀ → News h₀ L s.heap news → Top p loose mean mg mb h₀ → cs.kind = .function → Pre news → dp + 4 * k < recursionLimit → un + 100 * k < cLine →
    (∀ r news' h' tk', Fr h₀ L h' m → News h₀ L h' news' → Post news r news' → Q r { s with heap := h', toks := tk' }) →
    wpAny (model prg w) (ktrTop dp un gd cn cs L a ccd cl outer) (call (.ref f) vs) Q E s
theorem CtrS.use {k : Nat} {sc : Addr} {svs : List Value} {w : World} {f : Addr} {vs : List Value} {Pre : Led → Prop} {Post : Led → Value → Led → Prop} (C : CtrS k sc svs w f vs Pre Post)
    {p : Program} {loose : List Str} {mean : ExcName → Option Value} {mg mb : Str → Option Value} {dp un : Nat} {gd : Option (List Code)} {cn : Str} {cs : Scope} {a : Addr} {ccd : Value} {cl : List (Str × Addr)} {outer : List Env} {A₀ : Around} {base h₀ : Heap} {L : Addr} {m : Str → Option Value} {news : Led} {s : Shared}
    {Q E : Value → Shared → Prop} (hS : h₀.IsList sc svs.toArray) (B : Below A₀ base outer h₀) (F : Fr h₀ L s.heap m) (X : (hd.heap_39 w.params).In h₀) (N : News h₀ L s.heap news) (T : Top p loose mean mg mb h₀) (hk : cs.kind = .function) (hp : Pre news) (h1 : dp + 4 * k < recursionLimit) (h2 : un + 100 * k < cLine)
    (h : ∀ r news' h' tk', Fr h₀ L h' m → News h₀ L h' news' → Post news r news' → Q r { s with heap := h', toks := tk' }) :
    wpAny (model prg w) (ktrTop dp un gd cn cs L a ccd cl outer) (call (.ref f) vs) Q E s := C _ _ _ _ _ _ _ _ _ _ _ _ _ _ _ _ _ _ _ _ _ _ _ hS B F X N T hk hp h1 h2 h

set_option maxRecDepth 100000 in
set_option maxHeartbeats 8000000 in
theorem pool_ctr (w : World) (sc : Addr) (svs : List Value) (ns : List Int) (k : Nat) (kt : Tok) (hi : IntsAre svs ns) (hl : ns.length ≤ 63) (hkb : k ≤ 1) :
    CtrS 1 sc svs w 86 [.ref sc, .int k kt] (fun _ => True)
      (fun news r news' => (∃ a, r = .ref a ∧ Pool news' a ∧ ∀ p ∈ news, p.1 ≠ a) ∧ Keep [] news news') := by
  unfold CtrS
  intro p loose mean mg mb dp un gd cn cs a ccd cl outer A₀ base h₀ L m news s Q E9 hS B F X N T hk hW hd9 hu9 hret
  refine wpAny_call ?_
  k_dflt ktr_enter
  rename_i g1 L1 hp1 FG1 F1 N1 B1 X1 T1
  have F1' : Fr g1 L1 hp1 (fun y => List.lookup y [(Str.ofString "k", Value.int k kt), (Str.ofString "script", Value.ref sc)]) := F1
  clear F1
  have hS1 : Heap.IsList hp1 sc svs.toArray := hS.at fun o e => F1'.keep _ _ (FG1.keep _ _ e)
  have hlen := hi.length
  repeat' (first | (k_unfold; (try dsimp only)) | walk1)
  rename_i hp2 F2 N2
  have hSg : Heap.IsList g1 sc svs.toArray := hS.at fun o e => FG1.keep _ _ e
  have kpS : ∀ {h' : Heap} {m' : Str → Option Value}, Fr g1 L1 h' m' → Heap.IsList h' sc svs.toArray := fun F => hSg.at fun o e => F.keep _ _ e
  refine Stop.mk (Calls.call_len_list (kpS F2) (by rw [List.size_toArray]; omega) ?_)
  repeat' (first | (k_unfold; (try dsimp only)) | walk1)
  · rename_i la hpz Fz Nz ltz k1 k2 k3 k4
    refine hret _ _ _ _ (by k_asm) (by k_asm) ⟨⟨la, rfl, ⟨_, _, _, _, _, .head _, ?_, fmod_lo (by decide), fmod_hi (by decide)⟩, fun p hp => Nat.ne_of_lt (ltz p hp)⟩, Keep.refl.cons⟩
    repeat' split
    all_goals omega
  · rename_i la hpz Fz Nz ltz k1 k2 k3 k4
    refine hret _ _ _ _ (by k_asm) (by k_asm) ⟨⟨la, rfl, ⟨_, _, _, _, _, .head _, ?_, fmod_lo (by decide), fmod_hi (by decide)⟩, fun p hp => Nat.ne_of_lt (ltz p hp)⟩, Keep.refl.cons⟩
    repeat' split
    all_goals omega
end Mine
end
section
local macro_rules | `(tactic| k_mem) => `(tactic| assumption)
local macro_rules | `(tactic| walk_at "getMethod ref") => `(tactic| (k_here; (with_reducible show wpAny _ _ (getMethod (Value.ref _) (PySem.Str.ofString "pop") _) _ _ _); k_dflt (refine' kob_method (knd := intKind _ _) PySem.F.slot_dict_pop ?ty ?N ?m ?d ?_; (case N => k_asm); (case m => assumption); (case d => assumption); (case ty => exact PySem.F.type_dict_pop))))
local macro_rules | `(tactic| walk_at "exec For") => `(tactic| (refine wpAny_For ?_ ?hs; (case hs => (intro _; with_unfolding_all rfl))))
local macro_rules | `(tactic| walk_at "exec For Name Tuple cons nil") => `(tactic| (refine wpAny_For ?_ ?hs; (case hs => (intro _; with_unfolding_all rfl))))
local macro_rules | `(tactic| walk_at "exec For Name Call cons nil") => `(tactic| (refine wpAny_For ?_ ?hs; (case hs => (intro _; with_unfolding_all rfl))))
local macro_rules | `(tactic| walk_at "exec For Name Call cons cons") => `(tactic| (refine wpAny_For ?_ ?hs; (case hs => (intro _; with_unfolding_all rfl))))
local macro_rules | `(tactic| walk_at "call ref") => `(tactic| (k_here; refine Mine.Stop.out ?_))
local macro_rules | `(tactic| walk_at "pyIter ref") => `(tactic| (k_here; refine Mine.Stop.out ?_))
local macro_rules | `(tactic| walk_at "compareOp In int ref") => `(tactic| (k_here; refine Mine.Stop.out ?_))
local macro_rules | `(tactic| walk_at "call builtin:dict.pop") => `(tactic| (k_here; refine Mine.Stop.out ?_))
local macro_rules | `(tactic| walk_at "call builtin:list.remove") => `(tactic| (k_here; refine Mine.Stop.out ?_))
local macro_rules | `(tactic| walk_at "call builtin:list.append") => `(tactic| (k_here; refine Mine.Stop.out ?_))
local macro_rules | `(tactic| walk_at "setItem ref int ref") => `(tactic| (k_here; refine Mine.Stop.out ?_))
local macro_rules | `(tactic| walk_at "subscriptTail") => `(tactic| (k_here; (with_reducible show wpAny _ _ (subscriptTail _ _ (Value.ref _) (Value.int (Int.fmod _ _) _)) _ _ _); refine Mine.Stop.out ?_))
local macro_rules | `(tactic| walk_at "setAttr ref") => `(tactic| (k_here; refine Mine.Stop.out ?_))
local macro_rules | `(tactic| walk_at "subscriptTail") => `(tactic| (k_here; (with_reducible show wpAny _ _ (subscriptTail _ _ (Value.ref _) (Value.int _ _)) _ _ _); k_dflt (refine' kda_item (knd := intKind _ _) ?N ?m ?d ?k ?v ?_; (case N => k_asm); (case m => k_mem); (case d => assumption); (case k => exact intKind_is _ _ _ _); (case v => assumption))))
local macro_rules | `(tactic| walk_at "exec Assign cons ListComp") => `(tactic| (k_here; refine Mine.Stop.out ?_))
local macro_rules | `(tactic| walk_at "eval ListComp") => `(tactic| (k_here; refine Mine.Stop.out ?_))
local macro_rules | `(tactic| walk_at "compareOp NotEq ref ref") => `(tactic| (k_here; refine Mine.Stop.out ?_))
local macro_rules | `(tactic| walk_at "compareOp Eq ref ref") => `(tactic| (k_here; refine Mine.Stop.out ?_))
local macro_rules | `(tactic| walk_at "call builtin:sorted") => `(tactic| (k_here; refine Mine.Stop.out ?_))
local macro_rules | `(tactic| walk_at "call builtin:min") => `(tactic| (k_here; refine Mine.Stop.out ?_))
local macro_rules | `(tactic| walk_at "call type:range") => `(tactic| (k_here; refine Mine.Stop.out ?_))
local macro_rules | `(tactic| walk_at "call type:list") => `(tactic| (k_here; refine Mine.Stop.out ?_))
local macro_rules | `(tactic| walk_at "binaryOp Add ref ref") => `(tactic| (k_here; refine Mine.Stop.out ?_))
local macro_rules | `(tactic| walk_at "subscriptTail") => `(tactic| (k_here; (with_reducible show wpAny _ _ (subscriptTail _ _ (Value.ref _) (Value.int _ _)) _ _ _); first | k_dflt (refine' Mine.tup_item ?N ?m ?h0 ?hhi ?hx ?_; (case N => k_asm); (case m => assumption); (case h0 => decide); (case hhi => decide); (case hx => with_unfolding_all rfl)) | k_dflt (refine' Mine.lst_item ?N ?m ?h0 ?hhi ?hx ?_; (case N => k_asm); (case m => assumption); (case h0 => decide); (case hhi => decide); (case hx => with_unfolding_all rfl)) | refine Mine.Stop.out ?_))
local macro_rules | `(tactic| walk_at "setItem ref int") => `(tactic| (k_here; refine Mine.Stop.out ?_))
local macro_rules | `(tactic| walk_at "call builtin:len") => `(tactic| (k_here; refine Mine.Stop.out ?_))
local macro_rules | `(tactic| walk_at "call ref") => `(tactic| (k_here; refine Mine.Stop.out ?_))
namespace Mine
theorem LawIn.focI {w : World} {news : Led} {src ra sa I : Addr} {io : Obj} {l : WLoc} {size : Nat} {E : List Ent} {reached : Option Int} {given now : Int} (x : LawIn w news src ra sa l size E reached given now) (U : Uq news) (hI : (I, io) ∈ news) (hc : io.cls = .type "range_iterator") : LawIn w (Foc news I) src ra sa l size E reached given now where
  pool := by
    obtain ⟨a, b, ta, tb, n, h, r⟩ := x.pool
    exact ⟨a, b, ta, tb, n, foc_cls U hI h (by rw [hc]; simp), r⟩
  rows := by
    obtain ⟨vs, n, q1, q2⟩ := x.rows
    exact ⟨vs, n, foc_cls U hI q1 (by rw [hc]; simp), rows_mono (fun _ _ y => y.focc U hI (by rw [hc]; simp)) q2⟩
  state := by
    obtain ⟨t1, t2, n, q1⟩ := x.state
    exact ⟨t1, t2, n, foc_cls U hI q1 (by rw [hc]; simp)⟩
  wheel := WheelG.foc x.wheel U hI (by rw [hc]; simp) (by rw [hc]; simp) (by rw [hc]; simp) (by rw [hc]; simp)
  src_sa := x.src_sa
  src_ra := x.src_ra
  ra_sa := x.ra_sa
  src_l := x.src_l
  sa_l := x.sa_l
  ra_l := x.ra_l
  rch := x.rch
  keys := x.keys
  times := x.times
theorem due_all {E : List Ent} {now : Int} (h : ∀ e ∈ E, e.2.1 ≤ now + 40) : dueRows E (now + 100) = E.map rowOf ∧ later E (now + 100) = [] := by
  constructor
  · unfold dueRows
    rw [List.filter_eq_self.mpr]
    intro e he
    have := h e he
    exact decide_eq_true (by omega)
  · unfold later
    rw [List.filter_eq_nil_iff]
    intro e he
    have := h e he
    simp only [decide_eq_true_eq]
    omega
theorem none_rest {prog : Program} {w : World} {A : Around} {h₀ : Heap} {L : Addr} {m : Str → Option Value} {env : Env} {ct elt : PySem.Expr} {x : Str} {scope : Scope} {cl : List (Str × Addr)} {s : Shared} {P : Nat → Value → Prop} {Fin : List Value → Led → Prop} (Inv : Led → Prop)
    (step : ∀ i nw v I oI C oC D m₂ h tk (E' : Value → Shared → Prop), P i v → LCg.NsObj oC m₂ → m₂ x = some v → Fr h₀ L h m → News h₀ L h ((I, oI) :: (C, oC) :: (D, LCg.lst []) :: nw) → LCg.Off3 I C D nw → ((@Ne Nat I C) ∧ (@Ne Nat I D) ∧ (@Ne Nat C D)) → Inv nw →
      wpAny (model prog w) A (isTrue ct (compEnvC scope cl C env) (eval ct (compEnvC scope cl C env))) (fun ok s' => ok = false ∧ LCg.CompEnd h₀ L m { s with heap := h, toks := tk } I oI C oC D (LCg.lst []) (fun _ => True) (fun _ news' => Inv news') Value.none s') E' { s with heap := h, toks := tk })
    (fin : ∀ nw, Inv nw → Fin [] nw) : ∀ (k i : Nat) (nw : Led), Inv nw → LCt.CompRestT prog w A h₀ L m env ct elt x scope cl s (fun _ => True) P Fin k i [] nw
  | 0, i, nw, hM => LCt.CompRestT.zero (fin nw hM)
  | k + 1, i, nw, hM => LCt.CompRestT.succ fun v I oI C oC D m₂ h tk E' hP hoC hm F N off ne => by
      refine wpAny_mono (step i nw v I oI C oC D m₂ h tk E' hP hoC hm F N off ne hM) (fun ok s₂ hc => ?_) fun _ _ e => e
      obtain ⟨rfl, h', tk', news', rfl, F', N', off', _, hM'⟩ := hc
      rw [if_neg (by simp)]
      exact ⟨h', tk', news', rfl, F', N', off', trivial, none_rest Inv step fin k (i + 1) _ hM'⟩
end Mine
end
section
local macro_rules | `(tactic| k_mem) => `(tactic| assumption)
local macro_rules | `(tactic| walk_at "getMethod ref") => `(tactic| (k_here; (with_reducible show wpAny _ _ (getMethod (Value.ref _) (PySem.Str.ofString "pop") _) _ _ _); k_dflt (refine' kob_method (knd := intKind _ _) PySem.F.slot_dict_pop ?ty ?N ?m ?d ?_; (case N => k_asm); (case m => assumption); (case d => assumption); (case ty => exact PySem.F.type_dict_pop))))
local macro_rules | `(tactic| walk_at "exec For") => `(tactic| (refine wpAny_For ?_ ?hs; (case hs => (intro _; with_unfolding_all rfl))))
local macro_rules | `(tactic| walk_at "exec For Name Tuple cons nil") => `(tactic| (refine wpAny_For ?_ ?hs; (case hs => (intro _; with_unfolding_all rfl))))
local macro_rules | `(tactic| walk_at "exec For Name Call cons nil") => `(tactic| (refine wpAny_For ?_ ?hs; (case hs => (intro _; with_unfolding_all rfl))))
local macro_rules | `(tactic| walk_at "exec For Name Call cons cons") => `(tactic| (refine wpAny_For ?_ ?hs; (case hs => (intro _; with_unfolding_all rfl))))
local macro_rules | `(tactic| walk_at "call ref") => `(tactic| (k_here; refine Mine.Stop.out ?_))
local macro_rules | `(tactic| walk_at "pyIter ref") => `(tactic| (k_here; refine Mine.Stop.out ?_))
local macro_rules | `(tactic| walk_at "compareOp In int ref") => `(tactic| (k_here; refine Mine.Stop.out ?_))
local macro_rules | `(tactic| walk_at "call builtin:dict.pop") => `(tactic| (k_here; refine Mine.Stop.out ?_))
local macro_rules | `(tactic| walk_at "call builtin:list.remove") => `(tactic| (k_here; refine Mine.Stop.out ?_))
local macro_rules | `(tactic| walk_at "call builtin:list.append") => `(tactic| (k_here; refine Mine.Stop.out ?_))
local macro_rules | `(tactic| walk_at "setItem ref int ref") => `(tactic| (k_here; refine Mine.Stop.out ?_))
local macro_rules | `(tactic| walk_at "subscriptTail") => `(tactic| (k_here; (with_reducible show wpAny _ _ (subscriptTail _ _ (Value.ref _) (Value.int (Int.fmod _ _) _)) _ _ _); refine Mine.Stop.out ?_))
local macro_rules | `(tactic| walk_at "setAttr ref") => `(tactic| (k_here; refine Mine.Stop.out ?_))
local macro_rules | `(tactic| walk_at "subscriptTail") => `(tactic| (k_here; (with_reducible show wpAny _ _ (subscriptTail _ _ (Value.ref _) (Value.int _ _)) _ _ _); k_dflt (refine' kda_item (knd := intKind _ _) ?N ?m ?d ?k ?v ?_; (case N => k_asm); (case m => k_mem); (case d => assumption); (case k => exact intKind_is _ _ _ _); (case v => assumption))))
local macro_rules | `(tactic| walk_at "exec Assign cons ListComp") => `(tactic| (k_here; refine Mine.Stop.out ?_))
local macro_rules | `(tactic| walk_at "eval ListComp") => `(tactic| (k_here; refine Mine.Stop.out ?_))
local macro_rules | `(tactic| walk_at "compareOp NotEq ref ref") => `(tactic| (k_here; refine Mine.Stop.out ?_))
local macro_rules | `(tactic| walk_at "compareOp Eq ref ref") => `(tactic| (k_here; refine Mine.Stop.out ?_))
local macro_rules | `(tactic| walk_at "call builtin:sorted") => `(tactic| (k_here; refine Mine.Stop.out ?_))
local macro_rules | `(tactic| walk_at "call builtin:min") => `(tactic| (k_here; refine Mine.Stop.out ?_))
local macro_rules | `(tactic| walk_at "call type:range") => `(tactic| (k_here; refine Mine.Stop.out ?_))
local macro_rules | `(tactic| walk_at "call type:list") => `(tactic| (k_here; refine Mine.Stop.out ?_))
local macro_rules | `(tactic| walk_at "binaryOp Add ref ref") => `(tactic| (k_here; refine Mine.Stop.out ?_))
local macro_rules | `(tactic| walk_at "subscriptTail") => `(tactic| (k_here; (with_reducible show wpAny _ _ (subscriptTail _ _ (Value.ref _) (Value.int _ _)) _ _ _); first | k_dflt (refine' Mine.tup_item ?N ?m ?h0 ?hhi ?hx ?_; (case N => k_asm); (case m => assumption); (case h0 => decide); (case hhi => decide); (case hx => with_unfolding_all rfl)) | k_dflt (refine' Mine.lst_item ?N ?m ?h0 ?hhi ?hx ?_; (case N => k_asm); (case m => assumption); (case h0 => decide); (case hhi => decide); (case hx => with_unfolding_all rfl)) | refine Mine.Stop.out ?_))
local macro_rules | `(tactic| walk_at "setItem ref int") => `(tactic| (k_here; refine Mine.Stop.out ?_))
local macro_rules | `(tactic| walk_at "call builtin:len") => `(tactic| (k_here; refine Mine.Stop.out ?_))
local macro_rules | `(tactic| walk_at "call ref") => `(tactic| (k_here; refine Mine.Stop.out ?_))
theorem Mine.news_sub2 {h₀ h : Heap} {L : Addr} {p q : Addr × Obj} {nw : Mine.Led} (N : News h₀ L h (p :: q :: nw)) : News h₀ L h nw := fun r hr => N r (.tail _ (.tail _ hr))
set_option maxRecDepth 100000 in
set_option maxHeartbeats 16000000 in
open Mine in
theorem Mine.law_walk : PySem.Challenge.rw_nu0120_01.Holds := hd (by
  k_go0
  rename_i w s0 s1 mg mb G Y fa o pm doc ho hg KX XX V GL T B TE TW a1 a2 M a3 a4 hcd ns0 hs hlay hL0 hr0 hl2 a5 a6 sc svs w9 hLs ra w1 r0 hI hr hcond hcondT K0 hD h1 tk1 F0 oc dc N0 X0
  obtain ⟨ns, hI, hns⟩ : ∃ ns, IntsAre svs ns ∧ ns.length ≤ 63 := ⟨_, hI, by omega⟩
  have F1 : Fr s1.heap s1.heap.objs.size h1 (fun y => if y = Str.ofString "script" then some (Value.ref sc) else none) := F0
  have dc' : oc.data = .cell none := dc
  clear F0 dc
  have K1 : Below callerA s1.heap [] s1.heap := K0
  clear K0
  have hlen := hI.length
  repeat' (first | (k_unfold; (try dsimp only)) | walk1)
  refine Stop.mk (Calls.call_len_list (hLs.at fun o e => F1.keep _ _ e) (by rw [List.size_toArray]; omega) ?_)
  repeat' (first | (k_unfold; (try dsimp only)) | walk1)
  refine Stop.mk (min_two_N rfl F1 N0 ?_)
  intro h2 tk2 F2 N2
  have hb2 : (if ((svs.toArray.size : Nat) : Int) < 2 then ((svs.toArray.size : Nat) : Int) else 2) ≤ 2 := by split <;> omega
  generalize (if ((svs.toArray.size : Nat) : Int) < 2 then ((svs.toArray.size : Nat) : Int) else 2) = b at hb2
  clear F1 N0
  repeat' (first | (k_unfold; (try dsimp only)) | walk1)
  have hm : ∃ nn : Nat, (if b > 1 then b else 1) = (nn : Int) ∧ nn ≤ 2 := by
    by_cases h : b > 1
    · exact ⟨2, by rw [if_pos h]; omega, by omega⟩
    · exact ⟨1, by rw [if_neg h]; rfl, by omega⟩
  obtain ⟨nn, hnn, hn2⟩ := hm
  rw [hnn]
  refine Stop.mk (range1_rows (by k_asm) (by k_asm) ?_)
  intro h3 tk3 t3 u3 v3 hR F3 N3 up3
  repeat' (first | (k_unfold; (try dsimp only)) | walk1)
  have hsz : Builtin.Range.rangeSize 0 (nn : Int) 1 = ((nn : Nat) : Int) := by
    unfold Builtin.Range.rangeSize
    rw [if_pos (by decide)]
    split <;> omega
  have hsm : Builtin.Range.small 0 (nn : Int) 1 = true := by
    have hc : nn = 0 ∨ nn = 1 ∨ nn = 2 := by omega
    rcases hc with rfl | rfl | rfl <;> decide
  refine Stop.mk (iter_range (L := s1.heap.objs.size) rfl rfl F3 N3 hR hsm hsz
    (fun i m' nw => ∃ (u1 u2 u3 u4 u5 u6 : Option Value) (oc' : Obj) (v0 : Option Value), (m' = fun y => if y = Str.ofString "k" then u1 else if y = Str.ofString "source" then u2 else if y = Str.ofString "rows" then u3 else if y = Str.ofString "state" then u4 else if y = Str.ofString "turn" then u5 else if y = Str.ofString "times" then u6 else if y = Str.ofString "script" then some (Value.ref sc) else none) ∧
      (s1.heap.objs.size + 1, oc') ∈ nw ∧ oc'.data = .cell v0) ?h0 ?step ?done)
  case h0 =>
    refine ⟨none, none, none, none, none, none, oc, none, ?_, .head _, dc'⟩
    funext y
    by_cases e : y = Str.ofString "k"
    · subst e; rfl
    · by_cases e2 : y = Str.ofString "source"
      · subst e2; rfl
      · by_cases e3 : y = Str.ofString "rows"
        · subst e3; rfl
        · by_cases e4 : y = Str.ofString "state"
          · subst e4; rfl
          · by_cases e5 : y = Str.ofString "turn"
            · subst e5; rfl
            · by_cases e6 : y = Str.ofString "times"
              · subst e6; rfl
              · simp only [if_neg e, if_neg e2, if_neg e3, if_neg e4, if_neg e5, if_neg e6]
  case step =>
    clear F3 N3 hR up3 hsz hsm
    rintro i v m₁ nw hp4 tk4 I io hin ⟨tv, rfl⟩ hc ⟨u1, u2, u3, u4, u5, u6, oc', v0, rfl, hcm, hcd⟩ hoff F4 N4
    rw [Int.zero_add]
    repeat' (first | (k_unfold; (try dsimp only)) | walk1)
    have hLc : ∀ {a : Addr} {o : Obj} {h : Heap} {nw : Led}, (a, o) ∈ nw → News s1.heap s1.heap.objs.size h nw → a ≠ s1.heap.objs.size := fun hm N => (N _ hm).2.1
    refine Stop.mk ((pool_ctr w sc svs ns i tv hI hns (by omega)).use hLs K1 (by k_asm) (by k_asm) (by k_asm) (by k_asm) rfl trivial (by decide) (by decide) ?_)
    rintro r nw5 hp5 tk5 F5 N5 ⟨⟨src, rfl, P5, fr5⟩, K5⟩
    have hI5 := K5 _ (.head _) (by simp)
    have hc5 := K5 _ (.tail _ hcm) (by simp)
    repeat' (first | (k_unfold; (try dsimp only)) | walk1)
    have hIs : I ≠ src := fr5 _ (.head _)
    have hcs : s1.heap.objs.size + 1 ≠ src := fr5 _ (.tail _ hcm)
    have hIc : I ≠ s1.heap.objs.size + 1 := Ne.symm (hoff _ hcm)
    clear K5 fr5 hcm
    refine Stop.mk ((take_ctr w src 9 _ (by decide) (by decide)).use K1 (by k_asm) (by k_asm) (by k_asm) (by k_asm) rfl P5 (by decide) (by decide) ?_)
    rintro r nw6 hp6 tk6 F6 N6 ⟨⟨d, dt, rfl, hd0, hd9⟩, P6, K6⟩
    have hI6 := K6 _ hI5 (by simpa using hIs)
    have hc6 := K6 _ hc5 (by simpa using hcs)
    clear hI5 hc5 P5 K6
    repeat' (first | (k_unfold; (try dsimp only)) | walk1)
    obtain ⟨size, hsize⟩ : ∃ size : Nat, 1 + d = (size : Int) := ⟨(1 + d).toNat, by omega⟩
    rw [hsize]
    refine Stop.mk ((wheel_ctr w size _ (by omega) (by omega)).use K1 (by k_asm) (by k_asm) (by k_asm) (by k_asm) rfl trivial (by decide) (by decide) ?_)
    rintro r nw7 hp7 tk7 F7 N7 ⟨⟨l, rfl, WL7, fr7⟩, K7⟩
    have hI7 := K7 _ hI6 (by simp)
    have hc7 := K7 _ hc6 (by simp)
    have P7 := P6.keep K7 (by simp)
    have hIl : I ∉ l.all := fun h => fr7 I h _ hI6 rfl
    have hcl : s1.heap.objs.size + 1 ∉ l.all := fun h => fr7 _ h _ hc6 rfl
    have hsl : src ∉ l.all := fun h => by
      obtain ⟨a, b, ta, tb, n', hs, _⟩ := P6
      exact fr7 _ h _ hs rfl
    clear hI6 hc6 P6 K7 fr7
    repeat' (first | (k_unfold; (try dsimp only)) | walk1)
    rename_i ra hpa lta th hpb Fb Nb ltb
    have hthn : ∀ p ∈ nw7, p.1 ≠ th := fun p hp => Nat.ne_of_lt (allLt_mem ltb.2 p hp)
    have hran : ∀ p ∈ nw7, p.1 ≠ ra := fun p hp => Nat.ne_of_lt (lta p hp)
    have hsrn : ∀ p ∈ nw7, p.1 ≠ th := hthn
    have hcra : s1.heap.objs.size + 1 ≠ ra := hran _ hc7
    have hIra : I ≠ ra := hran _ hI7
    have hth : th ≠ src := by
      obtain ⟨a, b, ta, tb, n', hs, _⟩ := P7
      exact Ne.symm (hthn _ hs)
    have hras : ra ≠ src := by
      obtain ⟨a, b, ta, tb, n', hs, _⟩ := P7
      exact Ne.symm (hran _ hs)
    have hral : ra ∉ l.all := fun h => by
      obtain ⟨o, ho⟩ := WL7.allIn ra h
      exact hran _ ho rfl
    refine Stop.mk ((one_ctr w src th [0, 5, -3, 10 ^ Int.toNat 12] (by decide) (by decide) hth).use K1 (by k_asm) (by k_asm) (by k_asm) (by k_asm) rfl ⟨P7.sub fun _ hp => .tail _ (.tail _ hp), _, _, .head _, by repeat (first | exact .nil | refine .cons _ _ ?_)⟩ (by decide) (by decide) ?_)
    rintro r nw8 hp8 tk8 F8 N8 ⟨⟨now0, nt, rfl, hnow⟩, P8, K8⟩
    have hnow' : -3 ≤ now0 ∧ now0 ≤ 1000000000000 := by
      have e : (10 : Int) ^ Int.toNat 12 = 1000000000000 := by decide
      rw [e] at hnow
      simp only [List.mem_cons, List.not_mem_nil, or_false] at hnow
      omega
    have hI8 := K8 _ (.tail _ (.tail _ hI7)) (by simpa using hIs)
    have hc8 := K8 _ (.tail _ (.tail _ hc7)) (by simpa using hcs)
    have hra8 := K8 _ (.tail _ (.head _)) (by simpa using hras)
    have K8' : Keep [src] nw7 nw8 := fun p hp hn => K8 _ (.tail _ (.tail _ hp)) hn
    have WL8 : WheelIn w nw8 l size [] none 0 := by
      obtain ⟨a, b, ta, tb, n', hs, _⟩ := P7
      refine WheelG.keepG WL7 (fun a ha h => hsl (by rw [List.mem_singleton] at h; exact h ▸ ha)) (fun v is x => ?_) K8'
      exact TupI.keep1 (uq (news_sub2 Nb)) hs (by simp) K8' x
    clear hI7 hc7 P7 WL7 K8 K8' hthn hran hsrn hnow ltb lta Fb Nb
    repeat' (first | (k_unfold; (try dsimp only)) | walk1)
    rename_i sa hpa lta D hpb ltb hpc Fc Nc
    have hsan : ∀ p ∈ nw8, p.1 ≠ sa := fun p hp => Nat.ne_of_lt (lta p hp)
    have hIsa : I ≠ sa := hsan _ hI8
    have hcsa : s1.heap.objs.size + 1 ≠ sa := hsan _ hc8
    have hsal : sa ∉ l.all := fun h => by
      obtain ⟨o, ho⟩ := WL8.allIn sa h
      exact hsan _ ho rfl
    have hssa : src ≠ sa := by
      obtain ⟨a, b, ta, tb, n', hs, _⟩ := P8
      exact hsan _ hs
    have W9 : LawIn w ((D, tupO [Value.ref l.x, Value.ref ra, Value.ref sa] 0) :: (sa, W.listOf #[Value.int now0 nt, Value.int 0 tk8] 0) :: nw8) src ra sa l size [] none 0 now0 := {
      pool := P8.sub fun _ hp => .tail _ (.tail _ hp)
      rows := ⟨[], 0, .tail _ (.tail _ hra8), .nil⟩
      state := ⟨nt, tk8, 0, .tail _ (.head _)⟩
      wheel := WL8.sub fun _ hp => .tail _ (.tail _ hp)
      src_sa := hssa
      src_ra := Ne.symm hras
      ra_sa := hsan _ hra8
      src_l := hsl
      sa_l := hsal
      ra_l := hral
      rch := fun r q => nomatch q
      keys := fun e h => nomatch h
      times := fun e h => nomatch h }
    have hc9 : (s1.heap.objs.size + 1, oc') ∈ (D, tupO [Value.ref l.x, Value.ref ra, Value.ref sa] 0) :: (sa, W.listOf #[Value.int now0 nt, Value.int 0 tk8] 0) :: nw8 := .tail _ (.tail _ hc8)
    have hI9 : (I, io) ∈ (D, tupO [Value.ref l.x, Value.ref ra, Value.ref sa] 0) :: (sa, W.listOf #[Value.int now0 nt, Value.int 0 tk8] 0) :: nw8 := .tail _ (.tail _ hI8)
    k_dflt (refine' cell_store ?F ?N ?c ?m ?d ?_ ?ka ?kb; (case ka => rfl); (case kb => rfl); (case F => k_asm); (case N => k_asm); (case c => rfl); (case m => exact hc9); (case d => exact hcd))
    intro hp9 o9 F9 N9 d9
    have W10 := W9.keepC (uq Nc) hc9 hcd (Keep.refl.focus (c := s1.heap.objs.size + 1) (o := o9) (.head _)) hcs hcra hcsa hcl
    have hI10 : (I, io) ∈ (s1.heap.objs.size + 1, o9) :: Foc ((D, tupO [Value.ref l.x, Value.ref ra, Value.ref sa] 0) :: (sa, W.listOf #[Value.int now0 nt, Value.int 0 tk8] 0) :: nw8) (s1.heap.objs.size + 1) := .tail _ (foc_mem hI9 hIc)
    have hc10 : (s1.heap.objs.size + 1, o9) ∈ (s1.heap.objs.size + 1, o9) :: Foc ((D, tupO [Value.ref l.x, Value.ref ra, Value.ref sa] 0) :: (sa, W.listOf #[Value.int now0 nt, Value.int 0 tk8] 0) :: nw8) (s1.heap.objs.size + 1) := .head _
    replace N9 : News s1.heap s1.heap.objs.size hp9 ((s1.heap.objs.size + 1, o9) :: Foc ((D, tupO [Value.ref l.x, Value.ref ra, Value.ref sa] 0) :: (sa, W.listOf #[Value.int now0 nt, Value.int 0 tk8] 0) :: nw8) (s1.heap.objs.size + 1)) := N9
    generalize (s1.heap.objs.size + 1, o9) :: Foc ((D, tupO [Value.ref l.x, Value.ref ra, Value.ref sa] 0) :: (sa, W.listOf #[Value.int now0 nt, Value.int 0 tk8] 0) :: nw8) (s1.heap.objs.size + 1) = nw9 at N9 W10 hI10 hc10
    clear W9 hI9 hc9 Fc Nc hsan ltb lta P8 WL8 hra8 hI8 hc8 hcd
    repeat' (first | (k_unfold; (try dsimp only)) | walk1)
    refine Stop.mk (range1_rows (by k_asm) (by k_asm) ?_)
    intro hpr tkr tr ur vr hRr FrR NrR upr
    repeat' (first | (k_unfold; (try dsimp only)) | walk1)
    refine Stop.mk (iter_range (L := s1.heap.objs.size) (n := 16) rfl rfl FrR NrR hRr (by decide) (by decide)
      (fun t m' nw => ∃ (w1 w2 : Option Value) (ra : Addr) (E : List Ent) (reached : Option Int) (given now : Int), (m' = fun y => if y = Str.ofString "state" then some (Value.ref sa) else if y = Str.ofString "rows" then some (Value.ref ra) else if y = Str.ofString "source" then some (Value.ref src) else if y = Str.ofString "k" then some (Value.int i tv) else if y = Str.ofString "turn" then w1 else if y = Str.ofString "times" then w2 else if y = Str.ofString "script" then some (Value.ref sc) else none) ∧
        LawIn w nw src ra sa l size E reached given now ∧ -3 ≤ now ∧ now ≤ 1000000000000 + 20 * (t : Int) ∧ (I, io) ∈ nw ∧ (s1.heap.objs.size + 1, o9) ∈ nw) ?jh0 ?jstep ?jdone)
    case jh0 =>
      refine ⟨u5, u6, ra, [], none, 0, now0, ?_, W10, hnow'.1, by omega, hI10, hc10⟩
      funext y
      by_cases e0 : y = Str.ofString "state"
      · subst e0; rfl
      · by_cases e1 : y = Str.ofString "rows"
        · subst e1; rfl
        · by_cases e2 : y = Str.ofString "source"
          · subst e2; rfl
          · by_cases e3 : y = Str.ofString "k"
            · subst e3; rfl
            · by_cases e4 : y = Str.ofString "turn"
              · subst e4; rfl
              · by_cases e5 : y = Str.ofString "times"
                · subst e5; rfl
                · simp only [if_neg e0, if_neg e1, if_neg e2, if_neg e3, if_neg e4, if_neg e5]
    case jstep =>
      clear FrR NrR hRr upr W10 hI10 hc10
      rintro t v m₂ nwj hpj tkj I2 io2 ht ⟨tv2, rfl⟩ hcj ⟨w1, w2, raj, Ej, reached, given, now, rfl, WJ, hn1, hn2, hIJ, hcJ⟩ hoff2 FJ NJ
      have hI2m : I2 ∉ src :: sa :: l.muts := fun h => by
        rcases List.mem_cons.mp h with rfl | h
        · obtain ⟨a, b, ta, tb, n', hs, _⟩ := WJ.pool
          exact hoff2 _ hs rfl
        · rcases List.mem_cons.mp h with rfl | h
          · obtain ⟨a, b, n', hs⟩ := WJ.state
            exact hoff2 _ hs rfl
          · obtain ⟨o, ho, _⟩ := WJ.wheel.mutsIn I2 h
            exact hoff2 _ ho rfl
      have hIm : I ∉ src :: sa :: l.muts := fun h => by
        rcases List.mem_cons.mp h with h | h
        · exact hIs h
        · rcases List.mem_cons.mp h with h | h
          · exact hIsa h
          · exact hIl (muts_all h)
      have hcm' : s1.heap.objs.size + 1 ∉ src :: sa :: l.muts := fun h => by
        rcases List.mem_cons.mp h with h | h
        · exact hcs h
        · rcases List.mem_cons.mp h with h | h
          · exact hcsa h
          · exact hcl (muts_all h)
      have hcJ2 : (s1.heap.objs.size + 1, o9) ∈ (I2, io2) :: nwj := .tail _ hcJ
      repeat' (first | (k_unfold; (try dsimp only)) | walk1)
      refine Stop.mk ((right_ctr w src raj sa l size Ej reached given now (by omega) (by omega)).use K1 (by k_asm) (by k_asm) (by k_asm) (by k_asm) rfl (WJ.sub fun _ hp => .tail _ hp) (by decide) (by decide) ?_)
      rintro r nwa hpa tka Fa Na ⟨⟨ra2, E2, reached2, given2, now2, rfl, W2, hw1, hw2⟩, Ka⟩
      have hI2a := Ka _ (.head _) hI2m
      have hIa := Ka _ (.tail _ hIJ) hIm
      have hca := Ka _ (.tail _ hcJ) hcm'
      have Ua := uq Na
      have hoff3 : I ≠ I2 ∧ s1.heap.objs.size + 1 ≠ I2 := ⟨hoff2 _ hIJ, hoff2 _ hcJ⟩
      have hE7 : E2.length ≤ 7 := len7 W2.wheel.keys W2.keys
      clear WJ hIJ hcJ hcJ2 Ka
      obtain ⟨vsr, nr, hra2, hR2⟩ := W2.rows
      repeat' (first | (k_unfold; (try dsimp only)) | walk1)
      refine Stop.mk ?_
      show wpAny _ _ _ _ _ _
      k_fold
      refine' wpAny_ListComp_free (fun _ => true) (GI nwa (·.1)) ?hclos ?hcell ?hkind ?hnames ?hx ?_ ?hs
      case hclos => with_unfolding_all rfl
      case hcell => decide
      case hkind => with_unfolding_all rfl
      case hnames => decide
      case hx => with_unfolding_all rfl
      case hs => intro _; with_unfolding_all rfl
      repeat' (first | (k_unfold; (try dsimp only)) | walk1)
      refine Stop.mk (comp_list (l := ra2) rfl (by k_asm) (by k_asm) hra2 (by rw [List.size_toArray, hR2.length, List.length_map]; omega) ?che ?chQ)
      case che =>
        intro v hv
        obtain ⟨r, hr, hrv⟩ := rows_mem hR2 hv
        obtain ⟨b, q1, q2, q3, nn, rfl, hb⟩ := hrv.three
        refine eltOk0 ?_
        intro C s₃ m₃ E' F3 N3 hn hm
        repeat' (first | (k_unfold; (try dsimp only)) | walk1)
        all_goals first | exact Keeps.of_toks _ _ | exact ⟨r, _, hrv, rfl⟩
      case chQ =>
        intro D h' tk' ys nn F3 N3 hD hp
        have hft : List.filter (fun _ : Value => true) (List.toArray vsr).toList = vsr := by simp
        rw [hft] at hp
        have hti := paired_ints Ua hR2 hp
        repeat' (first | (k_unfold; (try dsimp only)) | walk1)
        refine Stop.mk (kso_sorted (by k_asm) (by k_asm) (isL N3 (a := D) (its := ys) (n := nn) (.head _)) hti (by rw [List.length_map, List.length_map]; omega) ?_)
        intro DS vS nS cS hpS FS NS ltS hIS hlenS hpmS hpwS hfS
        have WS : LawIn w ((DS, W.listOf vS.toArray cS) :: (D, W.listOf ys nn) :: nwa) src ra2 sa l size E2 reached2 given2 now2 := W2.sub fun _ hp => .tail _ (.tail _ hp)
        obtain ⟨_, inst, ⟨h1, h2, h3, h4, h5, h6, k1, k2, k3, k4, k5, k6, ts, tg, n, rv, hrv, dict⟩, _⟩ := id WS.wheel
        have hcS : (s1.heap.objs.size + 1, o9) ∈ (DS, W.listOf vS.toArray cS) :: (D, W.listOf ys nn) :: nwa := .tail _ (.tail _ hca)
        repeat' (first | (k_unfold; (try dsimp only)) | walk1)
        refine Stop.mk ((next_time_ctr w l size E2 _ reached2 given2 (by omega)).use K1 (by k_asm) (by k_asm) (by k_asm) (by k_asm) rfl WS.wheel (by decide) (by decide) ?_)
        rintro r nwb hpb tkb Fb Nb ⟨hrr, Kb⟩
        have Wb := WS.sub fun p hp => Kb p hp (by simp)
        have hDSb := Kb _ (.head _) (by simp)
        have hIb := Kb _ (.tail _ (.tail _ hIa)) (by simp)
        have hI2b := Kb _ (.tail _ (.tail _ hI2a)) (by simp)
        have hcb := Kb _ hcS (by simp)
        clear inst dict hcS WS Kb hti hp hra2 hR2 hIa hI2a hca W2 Ua
        (try clear N3)
        (try clear F3)
        (try clear NS)
        (try clear FS)
        rw [List.length_map, List.length_map] at hlenS
        rcases hrr with ⟨rfl, hE0⟩ | ⟨tm, tkm, ⟨k0, o0, hmem⟩, hmin, rfl⟩
        · obtain rfl : nS = [] := List.length_eq_zero_iff.mp (by rw [hlenS, hE0]; rfl)
          repeat' (first | (k_unfold; (try dsimp only)) | walk1)
          rename_i lx hpx Fx Nx ltx
          refine Stop.mk (ne_intsK (a := DS) (b := lx) (vs := vS) (us := []) ⟨_, (Nx _ (.tail _ hDSb)).1, rfl, cS, rfl⟩ hIS ⟨_, (Nx _ (.head _)).1, rfl, 0, rfl⟩ .nil (by show 4 + 3 + 64 < cLine; decide) ?_)
          rw [decide_eq_true (rfl : ([] : List Int) = [])]
          repeat' (first | (k_unfold; (try dsimp only)) | walk1)
          rename Fr _ _ _ _ => Fz
          rename News _ _ _ _ => Nz
          refine TurnEnd.intro Fz Nz (.tail _ hI2b) ⟨some (.int (0 + (t : Int)) tv2), some (.ref DS), ra2, E2, reached2, given2, now2, ?_, LawIn.focI (Wb.sub fun _ hp => .tail _ hp) (uq Nz) (.tail _ hI2b) hcj, by omega, by push_cast; omega, foc_mem (.tail _ hIb) hoff3.1, foc_mem (.tail _ hcb) hoff3.2⟩
          funext y
          by_cases e0 : y = Str.ofString "state"
          · subst e0; rfl
          · by_cases e1 : y = Str.ofString "rows"
            · subst e1; rfl
            · by_cases e2 : y = Str.ofString "source"
              · subst e2; rfl
              · by_cases e3 : y = Str.ofString "k"
                · subst e3; rfl
                · by_cases e4 : y = Str.ofString "turn"
                  · subst e4; rfl
                  · by_cases e5 : y = Str.ofString "times"
                    · subst e5; rfl
                    · simp only [if_neg e0, if_neg e1, if_neg e2, if_neg e3, if_neg e4, if_neg e5]
        · have hpos : 0 < nS.length := by
            rw [hlenS]
            exact List.length_pos_of_mem hmem
          have hh := hfS (by rw [List.length_map, List.length_map, ← hlenS]; exact hpos)
          obtain ⟨z, nS', rfl⟩ : ∃ z nS', nS = z :: nS' := by
            cases nS with
            | nil => simp at hpos
            | cons z r => exact ⟨z, r, rfl⟩
          have hz : z = tm := by
            obtain ⟨q1, q2⟩ := hh
            replace q1 : z ∈ (List.map rowOf E2).map (·.1) := q1
            have q3 := q2 tm (List.mem_map.mpr ⟨_, List.mem_map.mpr ⟨_, hmem, rfl⟩, rfl⟩)
            replace q3 : z ≤ tm := q3
            obtain ⟨r1, q4, q5⟩ := List.mem_map.mp q1
            obtain ⟨e1, q6, q7⟩ := List.mem_map.mp q4
            have q8 := hmin e1 q6
            have q9 : e1.2.1 = z := by rw [← q5, ← q7]
            omega
          subst hz
          obtain ⟨tz, vS', rfl⟩ : ∃ tz vS', vS = .int z tz :: vS' := by
            cases hIS with
            | cons _ tz h => exact ⟨tz, _, rfl⟩
          repeat' (first | (k_unfold; (try dsimp only)) | walk1)
          rename_i lx hpx Fx Nx ltx
          refine Stop.mk (ne_intsK (a := DS) (b := lx) (us := []) ⟨_, (Nx _ (.tail _ hDSb)).1, rfl, cS, rfl⟩ hIS ⟨_, (Nx _ (.head _)).1, rfl, 0, rfl⟩ .nil (by show 4 + 3 + 64 < cLine; decide) ?_)
          rw [decide_eq_false (by simp : ¬ z :: nS' = [])]
          repeat' (first | (k_unfold; (try dsimp only)) | walk1)
          refine Stop.mk (list_item (its := List.toArray (Value.int z tz :: vS')) (v := .int z tz) (by k_asm) (.tail _ hDSb) (by decide) (by decide) rfl ?_)
          repeat' (first | (k_unfold; (try dsimp only)) | walk1)
          · have hne : z ≠ z := by assumption
            exact absurd rfl hne
          · rename Fr _ _ _ _ => Fz
            rename News _ _ _ _ => Nz
            refine TurnEnd.intro Fz Nz (.tail _ hI2b) ⟨some (.int (0 + (t : Int)) tv2), some (.ref DS), ra2, E2, reached2, given2, now2, ?_, LawIn.focI (Wb.sub fun _ hp => .tail _ hp) (uq Nz) (.tail _ hI2b) hcj, by omega, by push_cast; omega, foc_mem (.tail _ hIb) hoff3.1, foc_mem (.tail _ hcb) hoff3.2⟩
            funext y
            by_cases e0 : y = Str.ofString "state"
            · subst e0; rfl
            · by_cases e1 : y = Str.ofString "rows"
              · subst e1; rfl
              · by_cases e2 : y = Str.ofString "source"
                · subst e2; rfl
                · by_cases e3 : y = Str.ofString "k"
                  · subst e3; rfl
                  · by_cases e4 : y = Str.ofString "turn"
                    · subst e4; rfl
                    · by_cases e5 : y = Str.ofString "times"
                      · subst e5; rfl
                      · simp only [if_neg e0, if_neg e1, if_neg e2, if_neg e3, if_neg e4, if_neg e5]
    case jdone =>
      rintro m₂ nwj hpj tkj ⟨w1, w2, raj, Ej, reached, given, now, rfl, WJ, hn1, hn2, hIJ, hcJ⟩ FJ NJ
      clear FrR NrR hRr upr W10 hI10 hc10
      obtain ⟨s1t, s2t, snt, hstJ⟩ := WJ.state
      have UJ := uq NJ
      obtain ⟨vsr, nr, hraJ, hRJ⟩ := WJ.rows
      have hram : raj ∉ l.muts := fun h => WJ.ra_l (muts_all h)
      have hIm' : I ∉ l.muts := fun h => hIl (muts_all h)
      have hcm' : s1.heap.objs.size + 1 ∉ l.muts := fun h => hcl (muts_all h)
      have hE7 : Ej.length ≤ 7 := len7 WJ.wheel.keys WJ.keys
      obtain ⟨hall, hnone⟩ := due_all WJ.times
      have hnd := dueRows_nodup WJ.wheel.keys (now + 100)
      rw [hall] at hnd
      obtain ⟨_, inst, ⟨h1, h2, h3, h4, h5, h6, k1, k2, k3, k4, k5, k6, ts, tg, n, rv, hrv, dict⟩, _⟩ := id WJ.wheel
      dsimp only
      repeat' (first | (k_unfold; (try dsimp only)) | walk1)
      refine Stop.mk ((due_ctr w l size Ej reached given (now + 100) _ (by omega) (fun r q => ⟨(WJ.rch r q).1, by have := (WJ.rch r q).2; omega⟩) (by omega)).use K1 (by k_asm) (by k_asm) (by k_asm) (by k_asm) rfl WJ.wheel (by decide) (by decide) ?_)
      rintro r nwd hpd tkd Fd Nd ⟨⟨da, S, rfl, ⟨vsd, ndd, hda, hid⟩, hSp, hSw, hfrd⟩, WLd, Kd⟩
      rw [hall] at hSp
      rw [hnone] at WLd
      have hrad := Kd _ hraJ hram
      have hRd := rows_mono (fun _ _ x => TupI.keepW WJ.wheel UJ Kd x) hRJ
      have hId := Kd _ hIJ hIm'
      have hcd' := Kd _ hcJ hcm'
      have Ud := uq Nd
      clear inst dict hstJ WJ hraJ hRJ hIJ hcJ Kd UJ
      repeat' (first | (k_unfold; (try dsimp only)) | walk1)
      refine Stop.mk ?_
      show wpAny _ _ _ _ _ _
      k_fold
      refine' wpAny_ListComp_free (fun _ => true) (GI nwd (·.2.2)) ?hclos ?hcell ?hkind ?hnames ?hx ?_ ?hs
      case hclos => with_unfolding_all rfl
      case hcell => decide
      case hkind => with_unfolding_all rfl
      case hnames => decide
      case hx => with_unfolding_all rfl
      case hs => intro _; with_unfolding_all rfl
      repeat' (first | (k_unfold; (try dsimp only)) | walk1)
      refine Stop.mk (sorted_rows (by k_asm) (by k_asm) hrad hRd hnd (by rw [List.length_map]; omega) ?_)
      intro DS cS hpS vsS RS FS NS ltS hRS hpmS hpwS
      obtain rfl : S = RS := lex_uniq (hSp.trans hpmS.symm) hSw hpwS
      repeat' (first | (k_unfold; (try dsimp only)) | walk1)
      refine Stop.mk (comp_list (l := DS) rfl (by k_asm) (by k_asm) (.head _) (by
        have q := hRS.length
        rw [hpmS.length_eq, List.length_map] at q
        rw [List.size_toArray]; omega) ?dhe ?dhQ)
      case dhe =>
        intro v hv
        obtain ⟨r, hr, hrv⟩ := rows_mem hRS hv
        obtain ⟨b, q1, q2, q3, nn, rfl, hb⟩ := hrv.three
        have hb' := List.Mem.tail (DS, W.listOf vsS.toArray cS) hb
        refine eltOk0 ?_
        intro C s₃ m₃ E' F3 N3 hn hm
        repeat' (first | (k_unfold; (try dsimp only)) | walk1)
        all_goals first | exact Keeps.of_toks _ _ | exact ⟨r, _, hrv, rfl⟩
      case dhQ =>
        intro D9 hp9 tk9 ys9 nn9 F9 N9 hD9 hpr9
        have hft : List.filter (fun _ : Value => true) (List.toArray vsS).toList = vsS := by simp
        rw [hft] at hpr9
        have hti := paired_ints Ud hRS hpr9
        have hl1 : Heap.IsList hp9 da vsd.toArray := ⟨_, (N9 _ (.tail _ (.tail _ hda))).1, rfl, ndd, rfl⟩
        have hl2 := isL N9 (a := D9) (its := ys9) (n := nn9) (.head _)
        repeat' (first | (k_unfold; (try dsimp only)) | walk1)
        refine Stop.mk (ne_intsK hl1 hid hl2 hti (by show 4 + 3 + 64 < cLine; decide) ?_)
        rw [decide_eq_true (rfl : List.map (fun x : Row => x.2.2) S = List.map (fun x => x.2.2) S)]
        have WL9 : WheelIn w ((D9, W.listOf ys9 nn9) :: (DS, W.listOf vsS.toArray cS) :: nwd) l size [] (some (now + 100)) given := WheelG.sub WLd fun _ hp => .tail _ (.tail _ hp)
        obtain ⟨_, inst, ⟨h1, h2, h3, h4, h5, h6, k1, k2, k3, k4, k5, k6, ts, tg, n, rv, hrv, dict⟩, _⟩ := id WL9
        have hc9 : (s1.heap.objs.size + 1, o9) ∈ (D9, W.listOf ys9 nn9) :: (DS, W.listOf vsS.toArray cS) :: nwd := .tail _ (.tail _ hcd')
        repeat' (first | (k_unfold; (try dsimp only)) | walk1)
        refine Stop.mk ((next_time_ctr w l size [] _ (some (now + 100)) given (by simp)).use K1 (by k_asm) (by k_asm) (by k_asm) (by k_asm) rfl WL9 (by decide) (by decide) ?_)
        rintro r nwe hpe tke Fe Ne ⟨hre, Ke⟩
        have WLe := WL9.sub fun p hp => Ke p hp (by simp)
        have hce := Ke _ hc9 (by simp)
        have hIe := Ke _ (.tail _ (.tail _ hId)) (by simp)
        obtain rfl : r = .none := by
          rcases hre with ⟨e, _⟩ | ⟨_, _, ⟨_, _, h⟩, _⟩
          · exact e
          · exact nomatch h
        clear inst dict hc9 WL9 Ke hcd' hId
        repeat' (first | (k_unfold; (try dsimp only)) | walk1)
        refine Stop.mk ?_
        show wpAny _ _ _ _ _ _
        k_fold
        refine' LCt.ListComp_T (by k_asm) ?hclos ?hcell ?hkind ?hnames ?hx ?_ ?hs
        case hclos => with_unfolding_all rfl
        case hcell => decide
        case hkind => with_unfolding_all rfl
        case hnames => decide
        case hx => with_unfolding_all rfl
        case hs => intro _; with_unfolding_all rfl
        repeat' (first | (k_unfold; (try dsimp only)) | walk1)
        refine Stop.mk (range1_rows (by k_asm) (by k_asm) ?_)
        intro hpq tkq tq uq' vq hRq Fq Nq upq
        refine LCt.CompSrcT.range (n := 7) rfl Fq Nq hRq (by decide) (by decide) (by rw [sizeLine_eq]; omega) fun g => ?_
        refine none_rest (fun nw => (s1.heap.objs.size + 1, o9) ∈ nw ∧ (I, io) ∈ nw ∧ WheelIn w nw l size [] (some (now + 100)) given) ?_ ?_ 7 0 nwe ⟨hce, hIe, WLe⟩
        · rintro q nw v I' oI C' oC D' m₂ h tk E' ⟨tv3, rfl⟩ hoC hm FE NE offE neE ⟨i1, i2, i3⟩
          have hc' : (s1.heap.objs.size + 1, o9) ∈ (I', oI) :: (C', oC) :: (D', LCg.lst []) :: nw := .tail _ (.tail _ (.tail _ i1))
          have hC' : (C', oC) ∈ (I', oI) :: (C', oC) :: (D', LCg.lst []) :: nw := .tail _ (.head _)
          have WLq : WheelIn w ((I', oI) :: (C', oC) :: (D', LCg.lst []) :: nw) l size [] (some (now + 100)) given := WheelG.sub i3 fun _ hp => .tail _ (.tail _ (.tail _ hp))
          obtain ⟨_, inst, ⟨h1, h2, h3, h4, h5, h6, k1, k2, k3, k4, k5, k6, ts, tg, n, rv, hrv, dict⟩, _⟩ := id WLq
          repeat' (first | (k_unfold; (try dsimp only)) | walk1)
          refine Stop.mk ((time_of_ctr w l size [] _ (some (now + 100)) given _ _).use K1 (by k_asm) (by k_asm) (by k_asm) (by k_asm) rfl WLq (by decide) (by decide) ?_)
          rintro r nwt hpt tkt Ft Nt ⟨hrt, Kt⟩
          obtain rfl : r = .none := by
            rcases hrt with ⟨e, _⟩ | ⟨_, _, _, h, _⟩
            · exact e
            · exact nomatch h
          have hsub : ∀ p ∈ (I', oI) :: (C', oC) :: (D', LCg.lst []) :: Foc (Foc (Foc nwt I') C') D', p ∈ nwt := fun p hp => by
            rcases List.mem_cons.mp hp with rfl | hp
            · exact Kt _ (.head _) (by simp)
            · rcases List.mem_cons.mp hp with rfl | hp
              · exact Kt _ (.tail _ (.head _)) (by simp)
              · rcases List.mem_cons.mp hp with rfl | hp
                · exact Kt _ (.tail _ (.tail _ (.head _))) (by simp)
                · exact (mem_foc.mp (mem_foc.mp (mem_foc.mp hp).1).1).1
          have hoff9 : LCg.Off3 I' C' D' (Foc (Foc (Foc nwt I') C') D') := LCg.Off3.of fun p hp => ⟨(mem_foc.mp (mem_foc.mp (mem_foc.mp hp).1).1).2, (mem_foc.mp (mem_foc.mp hp).1).2, (mem_foc.mp hp).2⟩
          have hkp : ∀ p ∈ nw, p ∈ Foc (Foc (Foc nwt I') C') D' := fun p hp =>
            mem_foc.mpr ⟨mem_foc.mpr ⟨mem_foc.mpr ⟨Kt _ (.tail _ (.tail _ (.tail _ hp))) (by simp), (offE.mem p hp).1⟩, (offE.mem p hp).2.1⟩, (offE.mem p hp).2.2⟩
          have hinv : (s1.heap.objs.size + 1, o9) ∈ Foc (Foc (Foc nwt I') C') D' ∧ (I, io) ∈ Foc (Foc (Foc nwt I') C') D' ∧ WheelIn w (Foc (Foc (Foc nwt I') C') D') l size [] (some (now + 100)) given := ⟨hkp _ i1, hkp _ i2, WheelG.sub i3 hkp⟩
          have hend : ∀ tkz, LCg.CompEnd s1.heap s1.heap.objs.size _ { s1 with heap := h, toks := tk } I' oI C' oC D' (LCg.lst []) (fun _ => True) (fun _ news' => (s1.heap.objs.size + 1, o9) ∈ news' ∧ (I, io) ∈ news' ∧ WheelIn w news' l size [] (some (now + 100)) given) Value.none { s1 with heap := hpt, toks := tkz } := fun tkz => LCg.CompEnd.intro Ft Nt _ hsub hoff9 trivial hinv
          clear inst dict
          repeat' (first | (k_unfold; (try dsimp only)) | walk1)
          all_goals first | rfl | exact ⟨rfl, hend _⟩ | exact hend _
        · rintro nw ⟨i1, i2, i3⟩ D hpD tkD FD ND offD
          repeat' (first | (k_unfold; (try dsimp only)) | walk1)
          rename_i lx hpx Fx Nx ltx
          refine Stop.mk (ne_intsK (a := D) (b := lx) (vs := []) (us := []) ⟨_, (Nx _ (.tail _ (.head _))).1, rfl, 0, rfl⟩ .nil ⟨_, (Nx _ (.head _)).1, rfl, 0, rfl⟩ .nil (by show 4 + 3 + 64 < cLine; decide) ?_)
          rw [decide_eq_true (rfl : ([] : List Int) = [])]
          repeat' (first | (k_unfold; (try dsimp only)) | walk1)
          rename Fr _ _ _ _ => Fz
          rename News _ _ _ _ => Nz
          refine TurnEnd.intro Fz Nz (.tail _ (.tail _ i2)) ⟨some (.int (i : Int) tv), some (.ref src), some (.ref raj), some (.ref sa), w1, w2, o9, some (.ref l.x), ?_, foc_mem (.tail _ (.tail _ i1)) (Ne.symm hIc), d9⟩
          funext y
          by_cases e0 : y = Str.ofString "state"
          · subst e0; rfl
          · by_cases e1 : y = Str.ofString "rows"
            · subst e1; rfl
            · by_cases e2 : y = Str.ofString "source"
              · subst e2; rfl
              · by_cases e3 : y = Str.ofString "k"
                · subst e3; rfl
                · by_cases e4 : y = Str.ofString "turn"
                  · subst e4; rfl
                  · by_cases e5 : y = Str.ofString "times"
                    · subst e5; rfl
                    · simp only [if_neg e0, if_neg e1, if_neg e2, if_neg e3, if_neg e4, if_neg e5]
  case done =>
    rintro m₁ nw hp4 tk4 ⟨u1, u2, u3, u4, u5, u6, oc', v0, rfl, hcm, hcd⟩ F4 N4
    dsimp only
    repeat' (first | (k_unfold; (try dsimp only)) | walk1)
    dsimp only
    repeat' (first | (k_unfold; (try dsimp only)) | walk1)
    have hkeep := F4.keep
    k_end
    kc_close)
end
theorem PySem.Challenge.cw_nu0120_01_holds : PySem.Challenge.rw_nu0120_01.Holds :=
  Mine.law_walk
