import PyProof.Rows.All
import Wide.All
import OpenK.AllK
import Wide.FinOn
import KE.KLcTest
import PySem.Challenge.RW_nz0271_01
set_option Elab.async false
section
open PySem PySem.W PyProof.Rows
set_option maxRecDepth 100000 in
set_option maxHeartbeats 8000000 in
open_top hd for PySem.Challenge.rw_nz0271_01
end
section
open PySem PySem.W PySem.Calls PyProof.Rows
set_option maxRecDepth 100000
namespace Mine

abbrev arnd (dp un : Nat) (fr : Option (List Env)) (gd : Option (List Code)) : Around := { handled := none, depth := dp, frames := fr, guards := gd, units := un }

/-- the walk halts here -/
structure Halt (P : Prop) : Prop where
  out : P
theorem natNe {a b : Addr} (h : a ≠ b) : @Ne Nat a b := h
theorem canon {m : Str → Option Value} {ps : List (Str × Value)} (h : ∀ p ∈ ps, m p.1 = some p.2) : m = kstB m ps := by
  funext z
  exact (kstB_eq h fun _ => rfl).symm
theorem fr_canon {h₀ h : Heap} {L : Addr} {m : Str → Option Value} {ps : List (Str × Value)} (hp : ∀ p ∈ ps, m p.1 = some p.2) (F : Fr h₀ L h m) : Fr h₀ L h (kstB m ps) := by
  rw [← canon hp]; exact F

/-- a def's contract over the whole heap at the call: it gives back a value mk t and keeps every object -/
def PureV (prog : Program) (w : World) (K : Frag) (p : Program) (loose : List Str) (mean : ExcName → Option Value) (mg mb : Str → Option Value) (f : Addr) (vs : List Value) (H : Heap → Prop) (mk : Tok → Value) (dd uu : Nat) : Prop :=
  ∀ (dp un : Nat) (fr : Option (List Env)) (gd : Option (List Code)) (s : Shared) (Q E : Value → Shared → Prop),
    dp + dd < recursionLimit → un + uu < cLine → K.In s.heap → Top p loose mean mg mb s.heap → H s.heap →
    (∀ t h' tk', (∀ b o, s.heap.get? b = some o → h'.get? b = some o) → Q (mk t) { s with heap := h', toks := tk' }) →
    wpAny (model prog w) (arnd dp un fr gd) (call (.ref f) vs) Q E s

/-- the same where new objects come back -/
def PureO (prog : Program) (w : World) (K : Frag) (p : Program) (loose : List Str) (mean : ExcName → Option Value) (mg mb : Str → Option Value) (f : Addr) (vs : List Value) (H : Heap → Prop) (R : Value → List (Addr × Obj) → Prop) (dd uu : Nat) : Prop :=
  ∀ (dp un : Nat) (fr : Option (List Env)) (gd : Option (List Code)) (s : Shared) (Q E : Value → Shared → Prop),
    dp + dd < recursionLimit → un + uu < cLine → K.In s.heap → Top p loose mean mg mb s.heap → H s.heap →
    (∀ r tl h' tk', R r tl → (∀ b o, s.heap.get? b = some o → h'.get? b = some o) → (∀ q ∈ tl, h'.get? q.1 = some q.2 ∧ s.heap.get? q.1 = none) → Q r { s with heap := h', toks := tk' }) →
    wpAny (model prog w) (arnd dp un fr gd) (call (.ref f) vs) Q E s

section
variable {prog : Program} {w : World} {K : Frag} {p : Program} {loose : List Str} {mean : ExcName → Option Value} {mg mb : Str → Option Value} {f : Addr} {vs : List Value} {H : Heap → Prop} {mk : Tok → Value} {R : Value → List (Addr × Obj) → Prop} {dd uu : Nat}
  {dp un : Nat} {fr : Option (List Env)} {gd : Option (List Code)} {s : Shared} {h₀ : Heap} {L : Addr} {m : Str → Option Value} {news : List (Addr × Obj)}

theorem pure_use {Q E : Value → Shared → Prop} (C : PureV prog w K p loose mean mg mb f vs H mk dd uu) (F : Fr h₀ L s.heap m) (X : K.In h₀) (N : News h₀ L s.heap news) (T : Top p loose mean mg mb h₀)
    (hd : dp + dd < recursionLimit) (hu : un + uu < cLine) (hH : H s.heap)
    (h : ∀ t h' tk', Fr h₀ L h' m → News h₀ L h' news → (∀ b o, s.heap.get? b = some o → h'.get? b = some o) → Q (mk t) { s with heap := h', toks := tk' }) :
    wpAny (model prog w) (arnd dp un fr gd) (call (.ref f) vs) Q E s :=
  C dp un fr gd s Q E hd hu (X.keeps F.keep) (T.keeps F.keep) hH fun t h' tk' hk => h t h' tk' (F.keeps hk) (N.grown hk) hk

theorem news_tl {h h' : Heap} {tl : List (Addr × Obj)} (F : Fr h₀ L h m) (N : News h₀ L h news) (hk : ∀ b o, h.get? b = some o → h'.get? b = some o) (ht : ∀ q ∈ tl, h'.get? q.1 = some q.2 ∧ h.get? q.1 = none) :
    News h₀ L h' (tl ++ news) := fun q hq => by
  rcases List.mem_append.mp hq with hq | hq
  · obtain ⟨a, b⟩ := ht q hq
    have ne : h.get? q.1 = none := b
    refine ⟨a, fun e => ?_, ?_⟩
    · obtain ⟨oL, _, _, hL, _⟩ := F.ns
      rw [e, hL] at ne; cases ne
    · cases q' : h₀.get? q.1 with
      | none => rfl
      | some o => have := F.keep _ _ q'; rw [ne] at this; cases this
  · exact N.grown hk q hq
theorem ne_tl {h : Heap} {tl : List (Addr × Obj)} {h' : Heap} (N : News h₀ L h news) (ht : ∀ q ∈ tl, h'.get? q.1 = some q.2 ∧ h.get? q.1 = none) : ∀ q ∈ tl, ∀ r ∈ news, r.1 ≠ q.1 :=
  fun q hq r hr e => by
    have a := (N r hr).1
    rw [e, (ht q hq).2] at a
    cases a

theorem pure_useO {Q E : Value → Shared → Prop} (C : PureO prog w K p loose mean mg mb f vs H R dd uu) (F : Fr h₀ L s.heap m) (X : K.In h₀) (N : News h₀ L s.heap news) (T : Top p loose mean mg mb h₀)
    (hd : dp + dd < recursionLimit) (hu : un + uu < cLine) (hH : H s.heap)
    (h : ∀ r tl h' tk', R r tl → Fr h₀ L h' m → News h₀ L h' (tl ++ news) → (∀ q ∈ tl, ∀ r ∈ news, r.1 ≠ q.1) → (∀ b o, s.heap.get? b = some o → h'.get? b = some o) → Q r { s with heap := h', toks := tk' }) :
    wpAny (model prog w) (arnd dp un fr gd) (call (.ref f) vs) Q E s :=
  C dp un fr gd s Q E hd hu (X.keeps F.keep) (T.keeps F.keep) hH fun r tl h' tk' hr hk ht => h r tl h' tk' hr (F.keeps hk) (news_tl F N hk ht) (ne_tl N ht) hk

theorem tl_one {h : Heap} {T : Addr} {o : Obj} (N : News h₀ L h news) (hm : (T, o) ∈ news) : ∀ q ∈ [(T, o)], h.get? q.1 = some q.2 ∧ h₀.get? q.1 = none := fun q hq => by
  rw [List.mem_singleton.mp hq]
  exact ⟨(N _ hm).1, (N _ hm).2.2⟩

theorem pure_enter {Rr : Result → Shared → Prop} {name qual : Str} {params : Arguments} {body : List Stmt} {scope : Scope} {dV kV doc pm cdv ct oc : Value} {an od : Option Addr} {osl : Array (Option Value)} {args : Args} {binds : List (Str × Value)} {A : Around}
    (X₀ : K.In s.heap) (T : Top p loose mean mg mb s.heap)
    (ho : K.lookup f = some ⟨oc, od, .func (fnOf name qual params body scope dV kV doc pm an cdv ct), osl⟩) (hcd : codeIn K cdv qual = true) (hroom : A.depth < recursionLimit)
    (hbind : BindsTo s (fnOf name qual params body scope dV kV doc pm an cdv ct) args binds) (hloc : ∀ y ∈ binds, scope.names.lookup y.1 = some .local)
    (h : ∀ L' h₁, Fr s.heap L' h₁ (fun y => binds.reverse.lookup y) → News s.heap L' h₁ [] →
      wpAny (model prog w) (A.deeper (envOf qual scope L' f cdv)) (execs body (envOf qual scope L' f cdv))
        (fun fl s' => Rr (.ok (.ret (match fl with | .ret v => v | _ => .none))) s')
        (fun _ _ => False)
        { s with heap := h₁, toks := s.toks + binds.length })
    (hco : scope.isCoroutine = false) (hgen : scope.isGenerator = false) (hk : scope.kind = .function)
    (hcell : ∀ x ∈ scope.names, x.2 ≠ .cell) : codeAny (model prog w) A (.call (.ref f) args) Rr s := by
  refine codeAny_call_def (fd := fnOf name qual params body scope dV kV doc pm an cdv ct) (body := body) (binds := binds) hroom (X₀ _ _ ho) rfl T.nolimit (codeRec_of X₀ hcd) rfl hbind hcell hloc (fun h₁ hns hk₁ => ?_) hco hgen hk
  exact wpAny_mono (h s.heap.objs.size h₁ ⟨hns, hk₁, Nat.le_refl _⟩ News.nil) (fun _ _ x => x) fun _ _ x => x.elim

end
end Mine
namespace Mine
section
variable {prog : Program} {w : World} {K : Frag} {p : Program} {loose : List Str} {mean : ExcName → Option Value} {mg mb : Str → Option Value} {f t : Addr} {ot : Obj} {s : Shared}
/-- entering a def that may change one object alone -/
theorem imp_enter {Rr : Result → Shared → Prop} {name qual : Str} {params : Arguments} {body : List Stmt} {scope : Scope} {dV kV doc pm cdv ct oc : Value} {an od : Option Addr} {osl : Array (Option Value)} {args : Args} {binds : List (Str × Value)} {A : Around}
    (X₀ : K.In (s.heap.hide t)) (T : Top p loose mean mg mb (s.heap.hide t)) (ht : s.heap.get? t = some ot)
    (ho : K.lookup f = some ⟨oc, od, .func (fnOf name qual params body scope dV kV doc pm an cdv ct), osl⟩) (hcd : codeIn K cdv qual = true) (hroom : A.depth < recursionLimit)
    (hbind : BindsTo s (fnOf name qual params body scope dV kV doc pm an cdv ct) args binds) (hloc : ∀ y ∈ binds, scope.names.lookup y.1 = some .local)
    (h : ∀ L' h₁, Fr (s.heap.hide t) L' h₁ (fun y => binds.reverse.lookup y) → News (s.heap.hide t) L' h₁ [(t, ot)] →
      wpAny (model prog w) (A.deeper (envOf qual scope L' f cdv)) (execs body (envOf qual scope L' f cdv))
        (fun fl s' => Rr (.ok (.ret (match fl with | .ret v => v | _ => .none))) s')
        (fun _ _ => False)
        { s with heap := h₁, toks := s.toks + binds.length })
    (hco : scope.isCoroutine = false) (hgen : scope.isGenerator = false) (hk : scope.kind = .function)
    (hcell : ∀ x ∈ scope.names, x.2 ≠ .cell) : codeAny (model prog w) A (.call (.ref f) args) Rr s := by
  have up : ∀ b o, (s.heap.hide t).get? b = some o → s.heap.get? b = some o := fun _ _ e => Heap.of_hide e
  refine codeAny_call_def (fd := fnOf name qual params body scope dV kV doc pm an cdv ct) (body := body) (binds := binds) hroom ((X₀.keeps up) _ _ ho) rfl (T.keeps up).nolimit (codeRec_of (X₀.keeps up) hcd) rfl hbind hcell hloc (fun h₁ hns hk₁ => ?_) hco hgen hk
  refine wpAny_mono (h s.heap.objs.size h₁ ⟨hns, fun b o e => hk₁ b o (up b o e), by rw [Heap.hide_size]; exact Nat.le_refl _⟩ (fun q hq => ?_)) (fun _ _ x => x) fun _ _ x => x.elim
  rw [List.mem_singleton.mp hq]
  exact ⟨hk₁ _ _ ht, Nat.ne_of_lt (Heap.lt_size ht), Heap.hide_self _ _⟩
abbrev tapeObj (c : Addr) (a : Int) (ta : Tok) (n : Nat) : Obj := listOf #[.ref c, .int a ta] n
def DrawC (prog : Program) (w : World) (K : Frag) (p : Program) (loose : List Str) (mean : ExcName → Option Value) (mg mb : Str → Option Value) (f : Addr) (lim : Int) (t c : Addr) (a : Int) (n : Nat) (cs : List Value) : Prop :=
  ∀ (dp un : Nat) (fr : Option (List Env)) (gd : Option (List Code)) (s : Shared) (ta tl : Tok) (Q E : Value → Shared → Prop),
    dp + 2 < recursionLimit → un + 16 < cLine → K.In (s.heap.hide t) → Top p loose mean mg mb (s.heap.hide t) → s.heap.get? t = some (tapeObj c a ta n) → (s.heap.hide t).IsList c cs.toArray →
    (∀ d t' ta' h' tk', 0 ≤ d → d < lim → h'.get? t = some (tapeObj c (a + 1) ta' n) → (∀ b o, b ≠ t → s.heap.get? b = some o → h'.get? b = some o) → Q (.int d t') { s with heap := h', toks := tk' }) →
    wpAny (model prog w) (arnd dp un fr gd) (call (.ref f) [.ref t, .int lim tl]) Q E s
end
end Mine
end
section
open PySem PySem.W PySem.Calls PyProof.Rows
set_option maxRecDepth 100000
namespace Mine
open PyProof.Rows.LCg

/-- iterating xv at s₁ makes one fresh iterator of n items -/
def IterSrc (prog : Program) (w : World) (A : Around) (xv : Value) (n : Nat) (P : Nat → Value → Prop) (s₁ : Shared) : Prop :=
  ∀ (Q : Value → Shared → Prop) (E : Value → Shared → Prop),
    (∀ (o : Obj) (St : Nat → Heap → Prop), o.isFreed = false → Walks prog w A s₁.heap.objs.size [s₁.heap.objs.size] [s₁.heap.objs.size] n P St → St 0 (s₁.heap.push o) → (∀ i h, St i h → ∃ o, h.get? s₁.heap.objs.size = some o) →
      Q (.ref s₁.heap.objs.size) { s₁ with heap := s₁.heap.push o }) → wpAny (model prog w) A (pyIter xv) Q E s₁

theorem iter_str {prog : Program} {w : World} {A : Around} {s : Shared} {x : Str} {t : Tok} (hh : A.handled = none) : IterSrc prog w A (.str x t) x.cps.size (SignAt x) s := by
  intro Q E hQ
  cases ha : x.cps.all (· < 128)
  · exact wpAny_pyIter_wide ha (hQ _ _ rfl (Walks.strWide hh _ x t) ⟨_, Heap.get?_push_size _ rfl, rfl, rfl⟩ (fun i h st => by obtain ⟨o, e, _⟩ := st; exact ⟨o, e⟩))
  · exact wpAny_pyIter_ascii ha (hQ _ _ rfl (Walks.strAscii hh _ x t) ⟨_, Heap.get?_push_size _ rfl, rfl, rfl⟩ (fun i h st => by obtain ⟨o, e, _⟩ := st; exact ⟨o, e⟩))

def ByteAt (b : Array UInt8) (i : Nat) (v : Value) : Prop := ∃ c u, b[i]? = some c ∧ v = .int (c.toNat : Int) u
theorem iter_bytes {prog : Program} {w : World} {A : Around} {s : Shared} {b : Array UInt8} {t : Tok} (hh : A.handled = none) : IterSrc prog w A (.bytes b t) b.size (ByteAt b) s := by
  intro Q E hQ
  exact KBw.pyIter_bytes (hQ _ _ rfl (KBw.walks hh _ b t) ⟨_, Heap.get?_push_size _ rfl, rfl, rfl⟩ (fun i h st => by obtain ⟨o, e, _⟩ := st; exact ⟨o, e⟩))

section
variable {prog : Program} {w : World} {A : Around} {E : Value → Shared → Prop} {s : Shared} {h₀ : Heap} {L : Addr} {m : Str → Option Value} {env : Env}

def SrcV (prog : Program) (w : World) (A : Around) (h₀ : Heap) (L : Addr) (m : Str → Option Value) (env : Env) (elt : Expr) (x : Str) (scope : Scope) (cl : List (Str × Addr)) (Fin : Shared → List Value → List (Addr × Obj) → Prop) (xv : Value) (s₁ : Shared) : Prop :=
  ∃ n P news, Fr h₀ L s₁.heap m ∧ News h₀ L s₁.heap news ∧ n ≤ sizeLine ∧ IterSrc prog w A xv n P s₁ ∧
    ∀ s₂ : Shared, (∃ h, s₂ = { s₁ with heap := h }) → CompRest prog w A h₀ L m env elt x scope cl s₂ (fun _ => True) P (Fin s₂) n 0 [] news

theorem ListComp_V {elt iter : Expr} {x : Str} {px : Pos} {scope : Scope} {cl : List (Str × Addr)} {pos : Pos} {Q : Value → Shared → Prop} (F₀ : Fr h₀ L s.heap m)
    (hclos : closureFor scope env = pure cl) (hcell : ∀ y ∈ scope.names, y.2 ≠ .cell) (hkind : scope.kind = .function)
    (hnames : ∀ y ∈ scope.names, y.2 = .local → scope.names.lookup y.1 = some .local) (hx : scope.names.lookup x = some .local)
    (h : wpAny (model prog w) A (eval iter env) (SrcV prog w A h₀ L m env elt x scope cl (fun s₂ => FinE h₀ L m s₂ Q)) E s)
    (hs : ∀ x, foldedSetIterable iter env x = pure x := by intro _; rfl) :
    wpAny (model prog w) A (eval (.ListComp elt [⟨.Name x px, iter, [], 0⟩] scope pos) env) Q E s := by
  rw [eval_ListComp]
  refine wpAny_comprehension_free (use := none) rfl hs hclos hkind hnames (wpAny_mono h (fun xv s₁ h₁ => ?_) fun _ _ e => e)
  obtain ⟨n, P, news, F, N, hsz, src, R⟩ := h₁
  refine src _ _ fun o St hfree W st hIo => ?_
  have up : ∀ b o', s₁.heap.get? b = some o' → (s₁.heap.push o).get? b = some o' := fun b o' e => Heap.get?_push_of_some _ e
  refine block_U W hsz hIo (fun i h h' o' nw sti e e' _ _ _ => W.frame _ _ _ sti fun b hb o'' e'' => by
      rw [List.mem_singleton.mp hb] at e'' ⊢; rw [e] at e''; cases e''; exact e')
    hcell hkind hx st (fun b hb => ?_)
    (F.keeps up) (N.grown up) (Nat.ne_of_lt F.ns.lt) (next_is_new F) (fun p hp => Nat.ne_of_lt (Heap.lt_size (N p hp).1)) trivial (R _ ⟨_, rfl⟩) ?_
  · show b < (s₁.heap.push _).objs.size
    rw [Heap.size_push, List.mem_singleton.mp hb]
    exact Nat.lt_succ_self _
  · intro D C h tk m' ys news' F' N' o1 hn hC₀ hD₀ hCL hDL hCD offC fin
    refine ⟨m', hn, fun h'' hs'' => fin D h'' tk (F'.change hs'' hCL hC₀) (fun p hp => ?_) o1⟩
    refine ⟨hs''.extBut _ _ ?_ (N' p hp).1, (N' p hp).2⟩
    rcases List.mem_cons.mp hp with rfl | hp
    · exact Ne.symm hCD
    · exact offC p hp

/-- each turn gives one text and keeps the ledger -/
theorem rest_strs {α : Type} {elt : Expr} {x : Str} {scope : Scope} {cl : List (Str × Addr)} {P : Nat → Value → Prop} {Fin : List Value → List (Addr × Obj) → Prop} {news : List (Addr × Obj)} (cs : List α) (g : α → Str) (iv : α → Tok → Value)
    (hP : ∀ i v, i < cs.length → P i v → ∃ c t, cs[i]? = some c ∧ v = iv c t)
    (turn : ∀ c t I oI C oC D m₂ ys h tk (E' : Value → Shared → Prop), c ∈ cs → NsObj oC m₂ → m₂ x = some (iv c t) → Fr h₀ L h m → News h₀ L h ((I, oI) :: (C, oC) :: (D, lst ys) :: news) → ((@Ne Nat I C) ∧ (@Ne Nat I D) ∧ (@Ne Nat C D)) →
      wpAny (model prog w) A (eval elt (compEnvC scope cl C env)) (fun y s' => ∃ t' h' tk', y = .str (g c) t' ∧ s' = { s with heap := h', toks := tk' } ∧ Fr h₀ L h' m ∧ News h₀ L h' ((I, oI) :: (C, oC) :: (D, lst ys) :: news)) E' { s with heap := h, toks := tk })
    (fin : ∀ ys, StrsAre ys (cs.map g) → Fin ys news) : CompRest prog w A h₀ L m env elt x scope cl s (fun _ => True) P Fin cs.length 0 [] news := by
  have key : ∀ (j i : Nat) (ys : List Value), i + j = cs.length → StrsAre ys ((cs.take i).map g) → CompRest prog w A h₀ L m env elt x scope cl s (fun _ => True) P Fin j i ys news := by
    intro j
    induction j with
    | zero =>
      intro i ys hi hy
      have e : i = cs.length := by omega
      subst e
      rw [List.take_length] at hy
      exact CompRest.zero (fin ys hy)
    | succ j ih =>
      intro i ys hi hy
      refine CompRest.succ ?_
      intro v I oI C oC D m₂ h tk E' hv hC hx F N off ne
      obtain ⟨c, t, hk, hv'⟩ := hP i v (by omega) hv
      rw [hv'] at hx
      refine wpAny_mono (turn c t I oI C oC D m₂ ys h tk E' (List.mem_of_getElem? hk) hC hx F N ne) (fun y s₂ hq => ?_) fun _ _ e => e
      obtain ⟨t', h', tk', hy', hs', F', N'⟩ := hq
      refine ⟨h', tk', news, hs', F', N', off, trivial, ?_⟩
      rw [hy']
      refine ih (i + 1) _ (by omega) ?_
      rw [List.take_add_one, hk]
      simpa using kct_snoc hy
  exact key cs.length 0 [] (by omega) (by simp only [List.take_zero, List.map_nil]; exact .nil)
end
end Mine
end
section
open PySem PySem.W PySem.Calls PyProof.Rows
set_option maxRecDepth 100000
namespace Mine
open PySem.Builtin
theorem slot_find : Slot "bytes" "find" "bytes.find" :=
  .of (owner := "bytes") (n := "find") (by rw [typeLookup_type, builtinLookup_eq_fast]; kernel_rfl) (by decide +kernel) (by decide +kernel) (by decide +kernel)
    (by first | exact .inl (by decide +kernel) | exact .inr (by decide +kernel)) (by rw [isSubtype_type]; kernel_rfl)
theorem type_find : typeOf (.builtin "bytes.find") = pure (.type "method_descriptor") := by show builtinType _ = _; rw [builtinType_eq_fast]; kernel_rfl
theorem entry_find : entryFor table "bytes.find" = some Builtin.«bytes.find» := entryFor_of_tree (by kernel_rfl)
theorem args_find (a b c d : Value) : argsOk "bytes.find" ⟨[a, b, c, d], []⟩ := by
  unfold argsOk; rw [signature?_of (id := "bytes.find") (n := ['d', 'n', 'i', 'f']) (o := ['s', 'e', 't', 'y', 'b']) (by kernel_rfl) FB.owner_bytes]; kernel_rfl
theorem slot_join : Slot "bytes" "join" "bytes.join" :=
  .of (owner := "bytes") (n := "join") (by rw [typeLookup_type, builtinLookup_eq_fast]; kernel_rfl) (by decide +kernel) (by decide +kernel) (by decide +kernel)
    (by first | exact .inl (by decide +kernel) | exact .inr (by decide +kernel)) (by rw [isSubtype_type]; kernel_rfl)
theorem type_join : typeOf (.builtin "bytes.join") = pure (.type "method_descriptor") := by show builtinType _ = _; rw [builtinType_eq_fast]; kernel_rfl
theorem entry_join : entryFor table "bytes.join" = some Builtin.«bytes.join» := entryFor_of_tree (by kernel_rfl)
theorem args_join (a b : Value) : argsOk "bytes.join" ⟨[a, b], []⟩ := by
  unfold argsOk; rw [signature?_of (id := "bytes.join") (n := ['n', 'i', 'o', 'j']) (o := ['s', 'e', 't', 'y', 'b']) (by kernel_rfl) FB.owner_bytes]; kernel_rfl
theorem slot_strip : Slot "bytes" "strip" "bytes.strip" :=
  .of (owner := "bytes") (n := "strip") (by rw [typeLookup_type, builtinLookup_eq_fast]; kernel_rfl) (by decide +kernel) (by decide +kernel) (by decide +kernel)
    (by first | exact .inl (by decide +kernel) | exact .inr (by decide +kernel)) (by rw [isSubtype_type]; kernel_rfl)
theorem type_strip : typeOf (.builtin "bytes.strip") = pure (.type "method_descriptor") := by show builtinType _ = _; rw [builtinType_eq_fast]; kernel_rfl
theorem entry_strip : entryFor table "bytes.strip" = some Builtin.«bytes.strip» := entryFor_of_tree (by kernel_rfl)
theorem args_strip (a b : Value) : argsOk "bytes.strip" ⟨[a, b], []⟩ := by
  unfold argsOk; rw [signature?_of (id := "bytes.strip") (n := ['p', 'i', 'r', 't', 's']) (o := ['s', 'e', 't', 'y', 'b']) (by kernel_rfl) FB.owner_bytes]; kernel_rfl
section
variable {M : Model} {prog : Program} {w : World} {A : Around} {E : Value → Shared → Prop} {s : Shared} {b c : Array UInt8} {t u : Tok}
theorem method_find {pl : Sem Bool} {Q : Value × List Value → Shared → Prop} (h : Q (.builtin "bytes.find", [.bytes b t]) s) : wpAny M A (getMethod (.bytes b t) "find" pl) Q E s := by
  with_reducible exact KBd.method_of (.bytes b t) (typeIs_bytes _ _ _) slot_find type_find KBd.noRef h
theorem method_join {pl : Sem Bool} {Q : Value × List Value → Shared → Prop} (h : Q (.builtin "bytes.join", [.bytes b t]) s) : wpAny M A (getMethod (.bytes b t) "join" pl) Q E s := by
  with_reducible exact KBd.method_of (.bytes b t) (typeIs_bytes _ _ _) slot_join type_join KBd.noRef h
theorem method_strip {pl : Sem Bool} {Q : Value × List Value → Shared → Prop} (h : Q (.builtin "bytes.strip", [.bytes b t]) s) : wpAny M A (getMethod (.bytes b t) "strip" pl) Q E s := by
  with_reducible exact KBd.method_of (.bytes b t) (typeIs_bytes _ _ _) slot_strip type_strip KBd.noRef h

theorem bound_int {i : Int} {ti : Tok} : Bytes.bound? (some (.int i ti)) = pure (some i) := by
  have e : specialOf (.int i ti) "__index__" = typeLookup (.type "int") "__index__" := rfl
  unfold Bytes.bound?
  dsimp only
  rw [e, int_index]
  rfl
theorem searchArgs_eq {i j : Int} {ti tj : Tok} : Bytes.searchArgs .bytes "find" ⟨[.bytes b t, .bytes c u, .int i ti, .int j tj], []⟩ =
    pure (b, c, if (Bytes.window b.size (some i) (some j)).2 - (Bytes.window b.size (some i) (some j)).1 < c.size then none else some ((Bytes.window b.size (some i) (some j)).1.toNat, (Bytes.window b.size (some i) (some j)).2.toNat)) := by
  unfold Bytes.searchArgs
  have e1 : ∀ id : String, selfAndSome id "find" 1 3 ⟨[.bytes b t, .bytes c u, .int i ti, .int j tj], []⟩ = pure (.bytes b t, [.bytes c u, .int i ti, .int j tj]) := fun id => by kernel_rfl
  extract_lets id
  rw [e1, pure_bind]
  show (Bytes.bound? (some (.int i ti)) >>= fun start => Bytes.bound? (some (.int j tj)) >>= fun stop => Bytes.buffer? id (.bytes c u) >>= fun r => _) = _
  rw [bound_int, bound_int, KBy.buffer_eq]
  rfl

def findAt (b c : Array UInt8) (i j : Int) : Option Nat :=
  (if (Bytes.window b.size (some i) (some j)).2 - (Bytes.window b.size (some i) (some j)).1 < c.size then none else some ((Bytes.window b.size (some i) (some j)).1.toNat, (Bytes.window b.size (some i) (some j)).2.toNat)).bind fun (lo, hi) => Bytes.find? b c lo hi
theorem meets_find {i j : Int} {ti tj : Tok} : Meets («bytes.find» ⟨[.bytes b t, .bytes c u, .int i ti, .int j tj], []⟩)
    (fun _ R s => R (.ok (.ret (.int (match findAt b c i j with | some k => (k : Int) | none => -1) s.toks))) { s with toks := s.toks + 1 }) := by
  refine .of_wp fun prog w A R s hS => ?_
  show wpAny _ _ (Bytes.searchArgs .bytes "find" ⟨[.bytes b t, .bytes c u, .int i ti, .int j tj], []⟩ >>= fun r => _) _ _ s
  rw [searchArgs_eq]
  refine wpAny_bind (wpAny_pure ?_)
  show wpAny _ _ (match findAt b c i j with | some i => retInt i | none => rule _ >>= fun _ => retInt (-1)) _ _ s
  cases h : findAt b c i j with
  | some k =>
    rw [h] at hS
    exact wpAny_bind (wpAny_mkInt (wpAny_pure ⟨_, rfl, hS⟩))
  | none =>
    rw [h] at hS
    exact wpAny_bind (wpAny_rule (wpAny_bind (wpAny_mkInt (wpAny_pure ⟨_, rfl, hS⟩))))
theorem call_find {i j : Int} {ti tj : Tok} {Q : Value → Shared → Prop} (h : Q (.int (match findAt b c i j with | some k => (k : Int) | none => -1) s.toks) { s with toks := s.toks + 1 }) :
    wpAny (model prog w) A (call (.builtin "bytes.find") [.bytes b t, .bytes c u, .int i ti, .int j tj]) Q E s :=
  call_meets slot_find (typeIs_bytes _ _ _) entry_find (args_find _ _ _ _) meets_find h
end
end Mine
end
section
open PySem PySem.W PySem.Calls PyProof.Rows
set_option maxRecDepth 100000
namespace Mine
open PySem.Builtin
section
variable {M : Model} {prog : Program} {w : World} {A : Around} {E : Value → Shared → Prop} {s : Shared} {b c : Array UInt8} {t u : Tok}

/-- octets without those of a set at both ends -/
def stripB (b c : Array UInt8) : Array UInt8 := ((b.toList.dropWhile c.contains).reverse.dropWhile c.contains).reverse.toArray
theorem strip_same (h : (((b.toList.dropWhile c.contains).reverse.dropWhile c.contains).reverse).length = b.size) : stripB b c = b := by
  have s1 : (b.toList.dropWhile c.contains).Sublist b.toList := (List.dropWhile_suffix _).sublist
  have s2 : ((b.toList.dropWhile c.contains).reverse.dropWhile c.contains).Sublist (b.toList.dropWhile c.contains).reverse := (List.dropWhile_suffix _).sublist
  have s3 : (((b.toList.dropWhile c.contains).reverse.dropWhile c.contains).reverse).Sublist b.toList := by
    have := s2.reverse
    rw [List.reverse_reverse] at this
    exact this.trans s1
  have e := s3.eq_of_length (by rw [h]; simp)
  unfold stripB
  rw [e]
theorem strip_size : (stripB b c).size ≤ b.size := by
  have s1 : (b.toList.dropWhile c.contains).Sublist b.toList := (List.dropWhile_suffix _).sublist
  have s2 : ((b.toList.dropWhile c.contains).reverse.dropWhile c.contains).Sublist (b.toList.dropWhile c.contains).reverse := (List.dropWhile_suffix _).sublist
  have h1 := s1.length_le
  have h2 := s2.length_le
  simp only [stripB, List.size_toArray, List.length_reverse, Array.length_toList] at *
  omega
theorem meets_strip (hsz : b.size ≤ sizeLine) : Meets («bytes.strip» ⟨[.bytes b t, .bytes c u], []⟩) (fun _ R s => ∀ t' k, R (.ok (.ret (.bytes (stripB b c) t'))) { s with toks := k }) := by
  refine .of_wp fun prog w A R s hS => ?_
  show wpAny _ _ (Bytes.stripM .bytes "strip" true true ⟨[.bytes b t, .bytes c u], []⟩) _ _ s
  unfold Bytes.stripM
  extract_lets id
  have e1 : selfAndSome id "strip" 0 1 ⟨[.bytes b t, .bytes c u], []⟩ = pure (.bytes b t, [.bytes c u]) := by kernel_rfl
  rw [e1, pure_bind]
  show wpAny _ _ (Bytes.bytesLike id (.bytes c u) >>= fun set => _) _ _ s
  rw [KBd.like_eq, pure_bind, pure_bind]
  show wpAny _ _ (Bytes.payload (.bytes b t) >>= fun b_1 => _) _ _ s
  have e2 : Bytes.payload (.bytes b t) = pure b := rfl
  rw [e2, pure_bind]
  simp only [if_true]
  refine wpAny_ite ?_
  split
  · rename_i h
    have h' := eq_of_beq h
    refine wpAny_bind (wpAny_rule ?_)
    have e3 : Bytes.Kind.same .bytes (.bytes b t) = pure (.bytes b t) := rfl
    rw [e3, pure_bind]
    have := hS t s.toks
    rw [strip_same h'] at this
    exact wpAny_pure ⟨_, rfl, this⟩
  · show wpAny _ _ (mkBytes (stripB b c) >>= fun v => ret v) _ _ s
    exact wpAny_bind (wpAny_mkBytes (wpAny_pure ⟨_, rfl, hS _ _⟩) (Nat.le_trans strip_size hsz))
theorem call_strip (hsz : b.size ≤ 16777216) {Q : Value → Shared → Prop} (h : ∀ t' k, Q (.bytes (stripB b c) t') { s with toks := k }) :
    wpAny (model prog w) A (call (.builtin "bytes.strip") [.bytes b t, .bytes c u]) Q E s :=
  call_meets slot_strip (typeIs_bytes _ _ _) entry_strip (args_strip _ _) (meets_strip (by rw [sizeLine_eq]; exact hsz)) h

inductive BytesAre : List Value → List (Array UInt8) → Prop
  | nil : BytesAre [] []
  | cons (y : Array UInt8) (t : Tok) {vs ys} : BytesAre vs ys → BytesAre (.bytes y t :: vs) (y :: ys)
theorem BytesAre.length : ∀ {vs : List Value} {ys : List (Array UInt8)}, BytesAre vs ys → vs.length = ys.length
  | _, _, .nil => rfl
  | _, _, .cons _ _ r => by simp [r.length]
theorem BytesAre.at : ∀ {vs : List Value} {ys : List (Array UInt8)}, BytesAre vs ys → ∀ (i : Nat) (hi : i < ys.length), ∃ t, vs[i]? = some (.bytes ys[i] t)
  | _, _, .cons y t r, 0, _ => ⟨t, rfl⟩
  | _, _, .cons y t r, i + 1, hi => by
    obtain ⟨t', e⟩ := r.at i (by simpa using hi)
    exact ⟨t', by simpa using e⟩
theorem BytesAre.snoc {y : Array UInt8} {t : Tok} : ∀ {vs : List Value} {ys : List (Array UInt8)}, BytesAre vs ys → BytesAre (vs ++ [.bytes y t]) (ys ++ [y])
  | _, _, .nil => .cons y t .nil
  | _, _, .cons z u r => .cons z u r.snoc
theorem BytesAre.one {v : Value} {ys : List (Array UInt8)} (h : BytesAre [v] ys) : ∃ y t, v = .bytes y t ∧ ys = [y] := by
  cases h with
  | cons y t r => cases r; exact ⟨y, t, rfl, rfl⟩

theorem take_eq (y : Array UInt8) (t : Tok) (id : String) : Bytes.takeBufferQuiet? id (.bytes y t) 0 = pure (some (y, none)) := by
  unfold Bytes.takeBufferQuiet? Bytes.takeBuffer?
  rw [KBy.special_eq KBy.look_buffer, KBy.own_buffer]
  show (do let r ← (do let x ← Bytes.buffer? id (.bytes y t); pure (x.map (·, none))).attempt; _) = _
  rw [KBy.buffer_eq]
  rfl
theorem letGo_eq : ∀ (tk : List (Value × Option Value)) (keep : List Value) {Q : Unit → Shared → Prop}, (∀ p ∈ tk, p.2 = none) → Q () s → wpAny M A (Bytes.joinLetGo tk keep) Q E s
  | [], _, _, _, h => wpAny_pure h
  | (x, w) :: r, keep, Q, hn, h => by
    obtain rfl : w = none := hn _ (.head _)
    unfold Bytes.joinLetGo
    extract_lets later
    refine wpAny_bind (m := letGo _ _) (wpAny_letGo ?_)
    exact letGo_eq r keep (fun p hp => hn p (.tail _ hp)) h
theorem meets_join {D : Addr} {o : Obj} {vs : List Value} {ys : List (Array UInt8)} {n : Nat} (hc : o.cls = .type "list") (hd : o.data = .seq vs.toArray n) (hb : BytesAre vs ys)
    (hsz : (Bytes.joined b ys).size ≤ 16777216) (hsz2 : ys.toArray.foldl (fun a p => a + p.size) (b.size * (ys.toArray.size - 1)) ≤ 16777216) (hone : ∀ y, ys = [y] → Bytes.joined b ys = y) :
    Meets («bytes.join» ⟨[.bytes b t, .ref D], []⟩) (fun _ R s => s.heap.get? D = some o ∧ ∀ t' k, R (.ok (.ret (.bytes (Bytes.joined b ys) t'))) { s with toks := k }) := by
  refine .of_wp fun prog w A R s hS => ?_
  obtain ⟨ho, hS⟩ := hS
  show wpAny _ _ (Bytes.joinM .bytes ⟨[.bytes b t, .ref D], []⟩) _ _ s
  unfold Bytes.joinM
  extract_lets id
  have e1 : selfAndOne id ⟨[.bytes b t, .ref D], []⟩ = pure (.bytes b t, .ref D) := by kernel_rfl
  rw [e1, pure_bind]
  dsimp -zeta only
  extract_lets jp1
  rw [if_pos (by decide)]
  refine wpAny_bind ?_
  unfold Bytes.joinItems
  refine wpAny_bind (wpAny_typeOf ⟨o, ho, hc⟩ ?_)
  rw [if_pos (by decide)]
  refine wpAny_pure ?_
  show wpAny _ _ (seqItems? (.ref D) >>= fun r => _) _ _ s
  refine wpAny_bind (wpAny_seqItems ho hd ?_)
  dsimp -zeta only
  extract_lets jp
  rw [if_pos (by decide)]
  clear jp1
  have key : wpAny (model prog w) A.in1 (jp ()) (fun fin s' => ∃ v, fin = Fin.done (Flow.ret v) ∧ R (Except.ok (Flow.ret v)) s') (fun e s' => R (Except.error e) s') s := by
    show wpAny _ _ (forIn [:vs.toArray.size] _ _ >>= fun r => _) _ _ s
    refine wpAny_bind ?_
    rw [Std.Legacy.Range.forIn_eq_forIn_range']
    refine wpAny_forIn_list _
      (fun rest b' s' => ∃ i, s' = s ∧ rest = List.range' i (vs.length - i) ∧ i ≤ vs.length ∧ b'.1 = (ys.take i).toArray ∧ (∀ p ∈ b'.2, p.2 = none ∧ p.1.onHeap = false))
      _ ?_ ?_ _ _ ⟨0, rfl, ?_, Nat.zero_le _, by show #[] = _; simp, ?_⟩
    · rintro x rest ⟨parts, taken⟩ s' ⟨i, rfl, hr, hi, hp, ht⟩
      have hlt : i < vs.length := by
        rcases Nat.lt_or_ge i vs.length with h | h
        · exact h
        · rw [show vs.length - i = 0 by omega] at hr; cases hr
      obtain ⟨j, hj⟩ : ∃ j, vs.length - i = j + 1 := ⟨vs.length - i - 1, by omega⟩
      rw [hj, List.range'_succ] at hr
      obtain ⟨rfl, rfl⟩ := List.cons.inj hr
      obtain ⟨ty, hy⟩ := hb.at x (by rw [← hb.length]; exact hlt)
      refine wpAny_bind (wpAny_seqItems ho hd ?_)
      dsimp -zeta only
      extract_lets x0 jp2
      have hc0 : (Bytes.Kind.bytes == Bytes.Kind.bytearray || taken.any fun x => x.fst.onHeap) = false := by
        rw [show (Bytes.Kind.bytes == Bytes.Kind.bytearray) = false by decide, Bool.false_or, List.any_eq_false]
        intro p hp
        rw [(ht p hp).2]; exact Bool.false_ne_true
      rw [hc0, if_neg Bool.false_ne_true]
      have ex : x0 = .bytes (ys[x]'(by rw [← hb.length]; exact hlt)) ty := by
        show vs.toArray.getD x .none = _
        simp only [Array.getD, List.size_toArray, hlt, dite_true]
        have := hy
        rw [List.getElem?_eq_getElem hlt] at this
        exact Option.some.inj this
      show wpAny _ _ (holding _ (Bytes.takeBufferQuiet? id x0 0) >>= fun r => _) _ _ s'
      refine wpAny_bind (wpAny_holding ?_)
      rw [ex, take_eq]
      refine wpAny_pure ?_
      dsimp -zeta only
      extract_lets p1 t1
      refine wpAny_bind (wpAny_seqItems ho hd ?_)
      dsimp -zeta only
      rw [if_neg (by simp)]
      refine wpAny_pure ⟨x + 1, rfl, ?_, hlt, ?_, ?_⟩
      · rw [show vs.length - (x + 1) = j by omega]
      · show parts.push _ = _
        have hp' : parts = (ys.take x).toArray := hp
        rw [hp', List.take_add_one, List.getElem?_eq_getElem (by rw [← hb.length]; exact hlt)]
        simp
      · intro p hp
        rcases List.mem_append.mp hp with h | h
        · exact ht p h
        · rw [List.mem_singleton.mp h]
          exact ⟨rfl, rfl⟩
    · rintro ⟨parts, taken⟩ s' ⟨i, rfl, hr, hi, hp, ht⟩
      have hi' : i = vs.length := by
        have := congrArg List.length hr
        simp at this
        omega
      have hp' : parts = ys.toArray := by
        have : parts = (ys.take i).toArray := hp
        rw [this, hi', hb.length, List.take_length]
      subst hp'
      dsimp -zeta only
      extract_lets p1 t1
      have e2 : Bytes.payload (.bytes b t) = pure b := rfl
      rw [e2, pure_bind]
      extract_lets jp3
      rw [if_neg (by rw [KBy.tooLong_not (by exact hsz2)]; exact Bool.false_ne_true)]
      show wpAny _ _ (mkBytes (Bytes.joined b ys.toArray.toList) >>= fun r => _) _ _ s'
      refine wpAny_bind (wpAny_mkBytes ?_ (by rw [sizeLine_eq]; exact hsz))
      refine wpAny_bind (wpAny_holding (wpAny_point ?_))
      refine wpAny_bind (letGo_eq _ _ (fun p hp => (ht p hp).1) ?_)
      exact wpAny_pure ⟨_, rfl, hS _ _⟩
    · show List.range' 0 _ = _
      simp
    · intro p hp
      cases hp
  clear_value jp
  rcases vs with _ | ⟨v0, _ | ⟨v1, r⟩⟩
  · exact key
  · obtain ⟨y, ty, rfl, rfl⟩ := hb.one
    show wpAny _ _ (typeOf (.bytes y ty) >>= fun r => _) _ _ s
    refine wpAny_bind (wpAny_typeOf (T := "bytes") (typeIs_bytes _ _ _) ?_)
    rw [if_pos (by decide)]
    have := hS ty s.toks
    rw [hone y rfl] at this
    exact wpAny_bind (wpAny_rule (wpAny_pure ⟨_, rfl, this⟩))
  · exact key

/-- octets one behind the other -/
def catB (ys : List (Array UInt8)) : Array UInt8 := (ys.map (·.toList)).flatten.toArray
theorem joined_nil (ys : List (Array UInt8)) : Bytes.joined #[] ys = catB ys := by
  have key : ∀ (ys : List (Array UInt8)) (k : Nat) (acc : Array UInt8), (ys.zipIdx k).foldl (fun out (x : Array UInt8 × Nat) => (if x.2 > 0 then out ++ #[] else out) ++ x.1) acc = acc ++ catB ys := by
    intro ys
    induction ys with
    | nil => intro k acc; simp [catB]
    | cons y r ih =>
      intro k acc
      rw [List.zipIdx_cons, List.foldl_cons, ih]
      have e : (if k > 0 then acc ++ #[] else acc) = acc := by split <;> simp
      show (if k > 0 then acc ++ #[] else acc) ++ y ++ catB r = _
      rw [e]
      refine Array.toList_inj.mp ?_
      simp [catB]
  have := key ys 0 #[]
  rw [Array.empty_append] at this
  exact this
theorem catB_one (y : Array UInt8) : catB [y] = y := by refine Array.toList_inj.mp ?_; simp [catB]
theorem catB_size (ys : List (Array UInt8)) : (catB ys).size = (ys.map (·.size)).sum := by
  induction ys with
  | nil => rfl
  | cons y r ih =>
    simp only [catB, List.size_toArray, List.map_cons, List.flatten_cons, List.length_append, List.sum_cons] at ih ⊢
    rw [ih]; simp
theorem foldl_size (ys : List (Array UInt8)) : ∀ k : Nat, ys.foldl (fun a p => a + p.size) k = k + (ys.map (·.size)).sum := by
  induction ys with
  | nil => intro k; simp
  | cons y r ih => intro k; rw [List.foldl_cons, ih, List.map_cons, List.sum_cons]; omega
theorem call_join {D : Addr} {vs : List Value} {ys : List (Array UInt8)} {n : Nat} {Q : Value → Shared → Prop} (ho : s.heap.get? D = some (listOf vs.toArray n)) (hb : BytesAre vs ys) (hsz : (catB ys).size ≤ 16777216)
    (h : ∀ t' k, Q (.bytes (catB ys) t') { s with toks := k }) : wpAny (model prog w) A (call (.builtin "bytes.join") [.bytes #[] t, .ref D]) Q E s := by
  refine call_meets slot_join (typeIs_bytes _ _ _) entry_join (args_join _ _) (meets_join (o := listOf vs.toArray n) (vs := vs) (ys := ys) (n := n) rfl rfl hb (by rw [joined_nil]; exact hsz) ?_ (fun y hy => by rw [joined_nil, hy, catB_one])) ⟨ho, fun t' k => by rw [joined_nil]; exact h t' k⟩
  simp only [List.foldl_toArray']
  show List.foldl (fun a p => a + p.size) (0 * _) ys ≤ _
  rw [foldl_size, ← catB_size]
  omega
end
end Mine
end
section
open PySem PySem.W PySem.Calls PyProof.Rows PySem.Spec
set_option maxRecDepth 100000
namespace Mine
open PyProof.Rows.LCg PyProof.Rows.LCt
section
variable {prog : Program} {w : World} {A : Around} {E : Value → Shared → Prop} {s : Shared} {h₀ : Heap} {L : Addr} {m : Str → Option Value} {env : Env}

def SrcVT (prog : Program) (w : World) (A : Around) (h₀ : Heap) (L : Addr) (m : Str → Option Value) (env : Env) (ct elt : Expr) (x : Str) (scope : Scope) (cl : List (Str × Addr)) (Fin : Shared → List Value → List (Addr × Obj) → Prop) (xv : Value) (s₁ : Shared) : Prop :=
  ∃ n P news, Fr h₀ L s₁.heap m ∧ News h₀ L s₁.heap news ∧ n ≤ sizeLine ∧ IterSrc prog w A xv n P s₁ ∧
    ∀ s₂ : Shared, (∃ h, s₂ = { s₁ with heap := h }) → CompRestT prog w A h₀ L m env ct elt x scope cl s₂ (fun _ => True) P (Fin s₂) n 0 [] news

theorem Assign_ListComp_VT {ct elt iter : Expr} {x y : Str} {px py : Pos} {scope : Scope} {cl : List (Str × Addr)} {pos spos : Pos} {Q : Flow → Shared → Prop} (_F₀ : Fr h₀ L s.heap m) (hLe : env.locals = L)
    (hsw : swapsWith (.ListComp elt [⟨.Name x px, iter, [ct], 0⟩] scope pos) (some (.Name y py)) spos.line env = pure true)
    (hclos : closureFor scope env = pure cl) (hcell : ∀ z ∈ scope.names, z.2 ≠ .cell) (hkind : scope.kind = .function)
    (hnames : ∀ z ∈ scope.names, z.2 = .local → scope.names.lookup z.1 = some .local) (hx : scope.names.lookup x = some .local)
    (hy : env.kindOf y = some .local) (hp : (env.scope.kind == .class || (env.scope.kind == .module && env.locals != env.globals)) = false)
    (h : wpAny (model prog w) A (eval iter env) (SrcVT prog w A h₀ L m env ct elt x scope cl (fun s₂ => FinA h₀ L m s₂ y Q)) E s)
    (hs : ∀ x, foldedSetIterable iter env x = pure x := by intro _; rfl) :
    wpAny (model prog w) A (exec (.Assign [.Name y py] (.ListComp elt [⟨.Name x px, iter, [ct], 0⟩] scope pos) spos) env) Q E s := by
  subst hLe
  rw [exec_Assign_Name_used _ _ _ _ hsw]
  refine wpAny_bind (wpAny_standAt (wpAny_bind ?_))
  show wpAny _ A (do let _ ← comprehension (.ListComp elt [⟨.Name x px, iter, [ct], 0⟩] scope pos) scope env _ (newList []) false (eval iter env) (some (assign (.Name y py) env))) _ _ s
  refine wpAny_bind (wpAny_mono (wpAny_comprehension_free (use := some (assign (.Name y py) env)) (Q := fun _ s' => Q .next s') rfl hs hclos hkind hnames
    (wpAny_mono h (fun xv s₁ h₁ => ?_) fun _ _ e => e)) (fun _ s' hq => wpAny_pure (wpAny_pure hq)) fun _ _ e => e)
  obtain ⟨n, P, news, F, N, hsz, src, R⟩ := h₁
  refine src _ _ fun o St hfree W st hIo => ?_
  have up : ∀ b o', s₁.heap.get? b = some o' → (s₁.heap.push o).get? b = some o' := fun b o' e => Heap.get?_push_of_some _ e
  refine block_T W hsz hIo (fun i h h' o' nw sti e e' _ _ _ => W.frame _ _ _ sti fun b hb o'' e'' => by
      rw [List.mem_singleton.mp hb] at e'' ⊢; rw [e] at e''; cases e''; exact e')
    hcell hkind hx st (fun b hb => ?_)
    (F.keeps up) (N.grown up) (Nat.ne_of_lt F.ns.lt) (next_is_new F) (fun p hp => Nat.ne_of_lt (Heap.lt_size (N p hp).1)) trivial (R _ ⟨_, rfl⟩) ?_
  · show b < (s₁.heap.push _).objs.size
    rw [Heap.size_push, List.mem_singleton.mp hb]
    exact Nat.lt_succ_self _
  · intro D C h' tk m' ys news' F' N' o1 hn hC₀ hD₀ hCL hDL hCD offC fin
    show wpAny _ A (assign (.Name y py) env (.ref D)) _ _ _
    refine wpAny_assign_Name (wpAny_storeName_local hy F'.ns (fun h₂ hn₂ hs₂ => ?_) hp)
    have hL₀ : h₀.get? env.locals = none := Heap.get?_none_of_le F'.above
    have F₂ : Fr h₀ env.locals h₂ (fun z => if z = y then some (.ref D) else m z) := ⟨hn₂, fun b o e => hs₂.extBut b o (fun q => by rw [q, hL₀] at e; cases e) (F'.keep b o e), F'.above⟩
    refine ⟨m', hn.sameBut hs₂ hCL, fun h'' hs'' => fin D h'' _ (F₂.change hs'' hCL hC₀) (fun p hp => ?_) o1⟩
    have z : h₂.get? p.1 = some p.2 := hs₂.extBut _ _ (N' p hp).2.1 (N' p hp).1
    refine ⟨hs''.extBut _ _ ?_ z, (N' p hp).2⟩
    rcases List.mem_cons.mp hp with rfl | hp
    · exact Ne.symm hCD
    · exact offC p hp

/-- octets sifted: each turn asks and keeps the ledger -/
theorem rest_sift {ct elt : Expr} {x : Str} {scope : Scope} {cl : List (Str × Addr)} {Fin : List Value → List (Addr × Obj) → Prop} {news : List (Addr × Obj)} (b : Array UInt8) (keep : UInt8 → Bool)
    (turn : ∀ (c : UInt8) (t : Tok) I oI C oC D m₂ ys h tk (E' : Value → Shared → Prop), NsObj oC m₂ → m₂ x = some (.int (c.toNat : Int) t) → Fr h₀ L h m → News h₀ L h ((I, oI) :: (C, oC) :: (D, lst ys) :: news) → ((@Ne Nat I C) ∧ (@Ne Nat I D) ∧ (@Ne Nat C D)) →
      wpAny (model prog w) A (isTrue ct (compEnvC scope cl C env) (eval ct (compEnvC scope cl C env))) (fun ok s' => ok = keep c ∧ ∃ h' tk', s' = { s with heap := h', toks := tk' } ∧ Fr h₀ L h' m ∧ News h₀ L h' ((I, oI) :: (C, oC) :: (D, lst ys) :: news)) E' { s with heap := h, toks := tk })
    (item : ∀ (c : UInt8) (t : Tok) I oI C oC D m₂ ys h tk (E' : Value → Shared → Prop), NsObj oC m₂ → m₂ x = some (.int (c.toNat : Int) t) → Fr h₀ L h m → News h₀ L h ((I, oI) :: (C, oC) :: (D, lst ys) :: news) → ((@Ne Nat I C) ∧ (@Ne Nat I D) ∧ (@Ne Nat C D)) →
      wpAny (model prog w) A (eval elt (compEnvC scope cl C env)) (fun y s' => ∃ t' h' tk', y = .int (c.toNat : Int) t' ∧ s' = { s with heap := h', toks := tk' } ∧ Fr h₀ L h' m ∧ News h₀ L h' ((I, oI) :: (C, oC) :: (D, lst ys) :: news)) E' { s with heap := h, toks := tk })
    (fin : ∀ ys, IntsAre ys ((b.toList.filter keep).map fun c => (c.toNat : Int)) → Fin ys news) : CompRestT prog w A h₀ L m env ct elt x scope cl s (fun _ => True) (ByteAt b) Fin b.size 0 [] news := by
  have key : ∀ (j i : Nat) (ys : List Value), i + j = b.size → IntsAre ys (((b.toList.take i).filter keep).map fun c => (c.toNat : Int)) → CompRestT prog w A h₀ L m env ct elt x scope cl s (fun _ => True) (ByteAt b) Fin j i ys news := by
    intro j
    induction j with
    | zero =>
      intro i ys hi hy
      rw [List.take_of_length_le (by simp; omega)] at hy
      exact CompRestT.zero (fin ys hy)
    | succ j ih =>
      intro i ys hi hy
      refine CompRestT.succ ?_
      intro v I oI C oC D m₂ h tk E' hv hC hx F N off ne
      obtain ⟨c, t, hk, hv'⟩ := hv
      rw [hv'] at hx
      have hk' : b.toList[i]? = some c := by simpa using hk
      have ht : b.toList.take (i + 1) = b.toList.take i ++ [c] := by rw [List.take_add_one, hk']; rfl
      refine wpAny_mono (turn c t I oI C oC D m₂ ys h tk E' hC hx F N ne) (fun ok s₂ hq => ?_) fun _ _ e => e
      obtain ⟨rfl, h', tk', rfl, F', N'⟩ := hq
      cases hkeep : keep c with
      | true =>
        simp only [if_true]
        refine wpAny_mono (item c t I oI C oC D m₂ ys h' tk' E' hC hx F' N' ne) (fun y s₃ hq => ?_) fun _ _ e => e
        obtain ⟨t', h'', tk'', rfl, rfl, F'', N''⟩ := hq
        refine ⟨h'', tk'', news, rfl, F'', N'', off, trivial, ih (i + 1) _ (by omega) ?_⟩
        rw [ht, List.filter_append, List.map_append]
        have e : ([c].filter keep) = [c] := by simp [hkeep]
        rw [e]
        exact IntsAre.append hy (.cons _ t' .nil)
      | false =>
        simp only [Bool.false_eq_true, if_false]
        refine ⟨h', tk', news, rfl, F', N', off, trivial, ih (i + 1) _ (by omega) ?_⟩
        rw [ht, List.filter_append, List.map_append]
        have e : ([c].filter keep) = [] := by simp [hkeep]
        rw [e]
        simpa using hy
  exact key b.size 0 [] (by omega) (by simp only [List.take_zero, List.filter_nil, List.map_nil]; exact .nil)

/-- a range's turns that each give octets and turn one number of the ledger -/
theorem rest_bits {elt : Expr} {x : Str} {scope : Scope} {cl : List (Str × Addr)} {P : Nat → Value → Prop} {Fin : List Value → List (Addr × Obj) → Prop} (Led : Int → Tok → List (Addr × Obj)) (Ok : Array UInt8 → Prop) (n : Nat) (a₀ : Int) (ta₀ : Tok)
    (hadr : ∀ a ta, (Led a ta).map (·.1) = (Led a₀ ta₀).map (·.1))
    (turn : ∀ (i : Nat) ta I oI C oC D m₂ ys h tk (E' : Value → Shared → Prop), i < n → NsObj oC m₂ → Fr h₀ L h m → News h₀ L h ((I, oI) :: (C, oC) :: (D, lst ys) :: Led (a₀ + i) ta) → Off3 I C D (Led (a₀ + i) ta) → ((@Ne Nat I C) ∧ (@Ne Nat I D) ∧ (@Ne Nat C D)) →
      wpAny (model prog w) A (eval elt (compEnvC scope cl C env)) (fun y s' => ∃ c t' ta' h' tk', Ok c ∧ y = .bytes c t' ∧ s' = { s with heap := h', toks := tk' } ∧ Fr h₀ L h' m ∧ News h₀ L h' ((I, oI) :: (C, oC) :: (D, lst ys) :: Led (a₀ + i + 1) ta')) E' { s with heap := h, toks := tk })
    (fin : ∀ ys cs ta, BytesAre ys cs → (∀ c ∈ cs, Ok c) → cs.length = n → Fin ys (Led (a₀ + n) ta)) : CompRest prog w A h₀ L m env elt x scope cl s (fun _ => True) P Fin n 0 [] (Led a₀ ta₀) := by
  have off (I C D : Addr) : ∀ (l l' : List (Addr × Obj)), l'.map (·.1) = l.map (·.1) → Off3 I C D l → Off3 I C D l' := by
    intro l
    induction l with
    | nil => intro l' e _; cases l' with
      | nil => trivial
      | cons _ _ => cases e
    | cons p r ih => intro l' e h; cases l' with
      | nil => cases e
      | cons q r' =>
        simp only [List.map_cons, List.cons.injEq] at e
        exact ⟨by rw [e.1]; exact h.1, ih r' e.2 h.2⟩
  have key : ∀ (j i : Nat) (ys : List Value) (cs : List (Array UInt8)) (ta : Tok), i + j = n → BytesAre ys cs → (∀ c ∈ cs, Ok c) → cs.length = i → CompRest prog w A h₀ L m env elt x scope cl s (fun _ => True) P Fin j i ys (Led (a₀ + i) ta) := by
    intro j
    induction j with
    | zero =>
      intro i ys cs ta hi hy hok hl
      obtain rfl : i = n := by omega
      exact CompRest.zero (fin ys cs ta hy hok hl)
    | succ j ih =>
      intro i ys cs ta hi hy hok hl
      refine CompRest.succ ?_
      intro v I oI C oC D m₂ h tk E' hv hC hx F N hoff ne
      refine wpAny_mono (turn i ta I oI C oC D m₂ ys h tk E' (by omega) hC F N hoff ne) (fun y s₂ hq => ?_) fun _ _ e => e
      obtain ⟨c, t', ta', h', tk', hc, rfl, rfl, F', N'⟩ := hq
      refine ⟨h', tk', _, rfl, F', N', off I C D _ _ ?_ hoff, trivial, ?_⟩
      · exact (hadr _ _).trans (hadr _ _).symm
      · have e : a₀ + (i : Int) + 1 = a₀ + ((i + 1 : Nat) : Int) := by omega
        rw [e]
        refine ih (i + 1) _ (cs ++ [c]) ta' (by omega) hy.snoc (fun d hd => ?_) (by simp [hl])
        rcases List.mem_append.mp hd with h | h
        · exact hok d h
        · rw [List.mem_singleton.mp h]; exact hc
  have := key n 0 [] [] ta₀ (by omega) .nil (fun _ h => nomatch h) rfl
  simpa using this
end
end Mine
namespace Mine
open PyProof.Rows.LCg
section
variable {prog : Program} {w : World} {A : Around} {s : Shared} {h₀ : Heap} {L : Addr} {m : Str → Option Value} {env : Env}
theorem rest_bits_law {elt : Expr} {x : Str} {scope : Scope} {cl : List (Str × Addr)} {P : Nat → Value → Prop} {Fin : List Value → List (Addr × Obj) → Prop} {FA TA CS : Addr} {oFA : Obj} {n0 : Nat} {R : List (Addr × Obj)} (Ok : Array UInt8 → Prop) {n : Nat} {a₀ : Int} {ta₀ : Tok}
    (turn : ∀ (i : Nat) ta I oI C oC D m₂ ys h tk (E' : Value → Shared → Prop), i < n → NsObj oC m₂ → Fr h₀ L h m → News h₀ L h ((I, oI) :: (C, oC) :: (D, lst ys) :: (FA, oFA) :: (TA, listOf #[.ref CS, .int (a₀ + i) ta] n0) :: R) → Off3 I C D ((FA, oFA) :: (TA, listOf #[.ref CS, .int (a₀ + i) ta] n0) :: R) → ((@Ne Nat I C) ∧ (@Ne Nat I D) ∧ (@Ne Nat C D)) →
      wpAny (model prog w) A (eval elt (compEnvC scope cl C env)) (fun y s' => ∃ c t' ta' h' tk', Ok c ∧ y = .bytes c t' ∧ s' = { s with heap := h', toks := tk' } ∧ Fr h₀ L h' m ∧ News h₀ L h' ((I, oI) :: (C, oC) :: (D, lst ys) :: (FA, oFA) :: (TA, listOf #[.ref CS, .int (a₀ + i + 1) ta'] n0) :: R)) E' { s with heap := h, toks := tk })
    (fin : ∀ ys cs ta, BytesAre ys cs → (∀ c ∈ cs, Ok c) → cs.length = n → Fin ys ((FA, oFA) :: (TA, listOf #[.ref CS, .int (a₀ + n) ta] n0) :: R)) :
    CompRest prog w A h₀ L m env elt x scope cl s (fun _ => True) P Fin n 0 [] ((FA, oFA) :: (TA, listOf #[.ref CS, .int a₀ ta₀] n0) :: R) :=
  rest_bits (fun a ta => (FA, oFA) :: (TA, listOf #[.ref CS, .int a ta] n0) :: R) Ok n a₀ ta₀ (fun _ _ => rfl) turn fin
end
end Mine
end
section
open PySem PySem.W PySem.Calls PyProof.Rows
set_option maxRecDepth 100000
namespace Mine
open PySem.Builtin

theorem find_range {p : Nat → Bool} {a n k : Nat} (h : ((List.range n).map (· + a)).find? p = some k) : a ≤ k ∧ k < n + a ∧ p k = true ∧ ∀ i, a ≤ i → i < k → p i = false := by
  rw [List.find?_map] at h
  cases h' : (List.range n).find? (p ∘ (· + a)) with
  | none => rw [h'] at h; cases h
  | some j =>
    rw [h'] at h
    cases h
    rw [List.find?_range_eq_some] at h'
    obtain ⟨h1, h2, h3⟩ := h'
    have h2' := List.mem_range.mp h2
    refine ⟨Nat.le_add_left _ _, Nat.add_lt_add_right h2' _, h1, fun i hi hik => ?_⟩
    have hik' : i < j + a := hik
    have := h3 (i - a) (by omega)
    simp only [Function.comp, Bool.not_eq_true'] at this
    rw [show i - a + a = i by omega] at this
    exact this
theorem find_range_none {p : Nat → Bool} {a n : Nat} (h : ((List.range n).map (· + a)).find? p = none) : ∀ i, a ≤ i → i < n + a → p i = false := by
  intro i hi hin
  rw [List.find?_eq_none] at h
  have := h i (List.mem_map.mpr ⟨i - a, List.mem_range.mpr (by omega), by show i - a + a = i; omega⟩)
  simpa using this
theorem ext_one {b : Array UInt8} {i : Nat} (h : i < b.size) {c : UInt8} : (b.extract i (i + 1) == #[c]) = decide (b[i] = c) := by
  have e : b.extract i (i + 1) = #[b[i]] := by
    apply Array.ext
    · simp; omega
    · intro j h1 h2
      simp at h2
      subst h2
      simp
  rw [e]
  by_cases hc : b[i] = c
  · simp [hc]
  · simp [hc]
theorem window_eq {b : Array UInt8} {i : Nat} (_h : i ≤ b.size) : Bytes.window b.size (some (i : Int)) (some (b.size : Int)) = ((i : Int), (b.size : Int)) := by
  unfold Bytes.window
  simp only [Option.getD_some]
  rw [if_neg (by omega), if_neg (by omega)]
  simp
theorem findAt_eq {b : Array UInt8} {i : Nat} (h : i ≤ b.size) : findAt b #[10] i b.size = if b.size ≤ i then none else Bytes.find? b #[10] i b.size := by
  unfold findAt
  rw [window_eq h]
  simp only [List.size_toArray, List.length_cons, List.length_nil, Int.toNat_natCast]
  by_cases h' : b.size ≤ i
  · rw [if_pos h', if_pos (by show (b.size : Int) - i < ((0 + 1 : Nat) : Int); omega)]; rfl
  · rw [if_neg h', if_neg (by show ¬ (b.size : Int) - i < ((0 + 1 : Nat) : Int); omega)]; rfl
theorem findAt_some {b : Array UInt8} {i k : Nat} (h : i ≤ b.size) (e : findAt b #[10] i b.size = some k) : i ≤ k ∧ ∃ hk : k < b.size, b[k] = 10 ∧ ∀ j (hj : j < b.size), i ≤ j → j < k → b[j] ≠ 10 := by
  rw [findAt_eq h] at e
  split at e
  · cases e
  · obtain ⟨h1, h2, h3, h4⟩ := find_range e
    have hk : k < b.size := by
      have : (#[10] : Array UInt8).size = 1 := rfl
      rw [this] at h2; omega
    refine ⟨h1, hk, ?_, fun j hj hij hjk => ?_⟩
    · have : (b.extract k (k + 1) == #[10]) = true := h3
      rw [ext_one hk] at this
      exact of_decide_eq_true this
    · have : (b.extract j (j + 1) == #[10]) = false := h4 j hij hjk
      rw [ext_one hj] at this
      exact of_decide_eq_false this
theorem findAt_none {b : Array UInt8} {i : Nat} (h : i ≤ b.size) (e : findAt b #[10] i b.size = none) : ∀ j (hj : j < b.size), i ≤ j → b[j] ≠ 10 := by
  rw [findAt_eq h] at e
  split at e
  · intro j hj hij; omega
  · intro j hj hij
    have : (b.extract j (j + 1) == #[10]) = false := find_range_none e j hij (by
      have : (#[10] : Array UInt8).size = 1 := rfl
      rw [this]; omega)
    rw [ext_one hj] at this
    exact of_decide_eq_false this
end Mine
namespace Mine
section
variable {prog : Program} {w : World} {A : Around} {E : Value → Shared → Prop} {s : Shared} {b : Array UInt8} {t : Tok}
theorem item_byte {i : Int} {ui : Tok} {value slice : Expr} {Q : Value → Shared → Prop} (h0 : 0 ≤ i) (h1 : i < b.size) (hfit : b.size ≤ 1099511627776) (h : Q (.int ((b.getD i.toNat 0).toNat : Nat) s.toks) { s with toks := s.toks + 1 })
    (hs : subscripted slice false (.bytes b t) (.int i ui) = operate [.bytes b t, .int i ui] (getItem (.bytes b t) (.int i ui)) := by with_unfolding_all rfl)
    (ht : ∀ r, letTemporaryGo value (.bytes b t) r = pure () := by intro _; with_unfolding_all rfl) :
    wpAny (model prog w) A (subscriptTail value slice (.bytes b t) (.int i ui)) Q E s := by
  have e2 : (b.toList.getD i.toNat 0) = b.getD i.toNat 0 := by
    rw [Array.getD_eq_getD_getElem?, List.getD_eq_getElem?_getD]; simp
  have g : wpAny (model prog w) A (getItem (.bytes b t) (.int i ui)) Q E s := by
    have := getItem_bytes (prog := prog) (w := w) (A := A) (E := E) (s := s) (t := t) (u := ui) (l := b.toList) (i := i) (Q := Q) (by simpa using hfit) h0 (by simpa using h1) (by rw [e2]; exact h)
    rw [Array.toArray_toList] at this
    exact this
  exact tail_of_ItemOn ⟨"bytes", _, FB.slot_bytes_getitem.lookup, typeIs_bytes _ _ _, g⟩ hs ht
/-- a cut with both ends written as places in it -/
theorem slice_byte {value slice : Expr} {h₀ : Heap} {L : Addr} {m : Str → Option Value} {news : List (Addr × Obj)} {i j : Nat} {ti tj : Tok} {Q : Value → Shared → Prop} (hF : Fr h₀ L s.heap m) (hN : News h₀ L s.heap news) (hij : i ≤ j) (hj : j ≤ b.size) (hz : b.size ≤ 16777216)
    (h : ∀ h' t' k, Fr h₀ L h' m → News h₀ L h' news → Q (.bytes (b.extract i j) t') { s with heap := h', toks := k })
    (hs : subscripted slice false (.bytes b t) (.ref s.heap.objs.size) = operate [.ref s.heap.objs.size, .bytes b t] (getItem (.bytes b t) (.ref s.heap.objs.size)) := by with_unfolding_all rfl)
    (ht : ∀ r, letTemporaryGo value (.bytes b t) r = pure () := by intro _; with_unfolding_all rfl) :
    wpAny (model prog w) A (subscriptTail value slice (.bytes b t) (.ref s.heap.objs.size)) Q E { s with heap := s.heap.push { cls := .type "slice", data := .fields #[.int (i : Int) ti, .int (j : Int) tj, .none] } } := by
  refine KBc.slice_K hF hN (ks := KBw.bInts b) rfl (.int _ _) (.int _ _) (by rw [KBw.ints_length]; exact hz) (fun h' t' k F' N' _ => ?_) hs ht
  have e : KBy.picked b (some (i : Int)) (some (j : Int)) = b.extract i j := by
    rw [KBc.picked_eq]
    simp only [Option.elim, clipAt_nat]
    rw [Nat.min_eq_left (Nat.le_trans hij hj), Nat.min_eq_left hj]
    refine Array.toList_inj.mp ?_
    simp
  rw [e]
  exact h h' t' k F' N'
/-- a cut from the begin -/
theorem slice_byte0 {value slice : Expr} {h₀ : Heap} {L : Addr} {m : Str → Option Value} {news : List (Addr × Obj)} {j : Nat} {tj : Tok} {Q : Value → Shared → Prop} (hF : Fr h₀ L s.heap m) (hN : News h₀ L s.heap news) (hj : j ≤ b.size) (hz : b.size ≤ 16777216)
    (h : ∀ h' t' k, Fr h₀ L h' m → News h₀ L h' news → Q (.bytes (b.extract 0 j) t') { s with heap := h', toks := k })
    (hs : subscripted slice false (.bytes b t) (.ref s.heap.objs.size) = operate [.ref s.heap.objs.size, .bytes b t] (getItem (.bytes b t) (.ref s.heap.objs.size)) := by with_unfolding_all rfl)
    (ht : ∀ r, letTemporaryGo value (.bytes b t) r = pure () := by intro _; with_unfolding_all rfl) :
    wpAny (model prog w) A (subscriptTail value slice (.bytes b t) (.ref s.heap.objs.size)) Q E { s with heap := s.heap.push { cls := .type "slice", data := .fields #[.none, .int (j : Int) tj, .none] } } := by
  refine KBc.slice_K hF hN (ks := KBw.bInts b) rfl .none (.int _ _) (by rw [KBw.ints_length]; exact hz) (fun h' t' k F' N' _ => ?_) hs ht
  have e : KBy.picked b none (some (j : Int)) = b.extract 0 j := by
    rw [KBc.picked_eq]
    simp only [Option.elim, clipAt_nat]
    rw [Nat.min_eq_left hj]
    refine Array.toList_inj.mp ?_
    simp
  rw [e]
  exact h h' t' k F' N'
theorem call_find_some {c : Array UInt8} {u : Tok} {i j : Int} {ti tj : Tok} {k : Nat} {Q : Value → Shared → Prop} (e : findAt b c i j = some k) (h : Q (.int (k : Int) s.toks) { s with toks := s.toks + 1 }) :
    wpAny (model prog w) A (call (.builtin "bytes.find") [.bytes b t, .bytes c u, .int i ti, .int j tj]) Q E s := call_find (by rw [e]; exact h)
theorem call_find_none {c : Array UInt8} {u : Tok} {i j : Int} {ti tj : Tok} {Q : Value → Shared → Prop} (e : findAt b c i j = none) (h : Q (.int (-1) s.toks) { s with toks := s.toks + 1 }) :
    wpAny (model prog w) A (call (.builtin "bytes.find") [.bytes b t, .bytes c u, .int i ti, .int j tj]) Q E s := call_find (by rw [e]; exact h)
end
end Mine
namespace Mine
/-- where a row that begins at i ends, and where the next one begins -/
def lineEnds (b : Array UInt8) (i : Nat) : Nat × Nat :=
  match findAt b #[10] i b.size with
  | none => (b.size, b.size)
  | some k => if i < k ∧ b.getD (k - 1) 0 = 13 then (k - 1, k + 1) else (k, k + 1)
/-- octets without their line's ends -/
def unf : List UInt8 → List UInt8
  | [] => []
  | c :: r => if c = 10 then unf r else if c = 13 ∧ r.head? = some 10 then unf r else c :: unf r
theorem unf_none : ∀ {l : List UInt8}, (∀ c ∈ l, c ≠ 10) → unf l = l
  | [], _ => rfl
  | c :: r, h => by
    have hc : c ≠ 10 := h c (.head _)
    have hr : ¬ (c = 13 ∧ r.head? = some 10) := fun ⟨_, e⟩ => by
      cases r with
      | nil => cases e
      | cons d r => exact h d (.tail _ (.head _)) (Option.some.inj e)
    rw [unf, if_neg hc, if_neg hr, unf_none fun c hc => h c (.tail _ hc)]
theorem unf_row : ∀ {l r : List UInt8}, (∀ c ∈ l, c ≠ 10) → l.getLast? ≠ some 13 → unf (l ++ 10 :: r) = l ++ unf r
  | [], r, _, _ => by show unf (10 :: r) = _; rw [unf, if_pos rfl]; rfl
  | c :: l, r, h, h13 => by
    have hc : c ≠ 10 := h c (.head _)
    have hr : ¬ (c = 13 ∧ (l ++ 10 :: r).head? = some 10) := fun ⟨e1, e⟩ => by
      cases l with
      | nil => exact h13 (by rw [e1]; rfl)
      | cons d l => exact h d (.tail _ (.head _)) (Option.some.inj e)
    show unf (c :: (l ++ 10 :: r)) = _
    rw [unf, if_neg hc, if_neg hr, unf_row (fun c hc => h c (.tail _ hc)) ?_]
    · rfl
    · cases l with
      | nil => intro e; cases e
      | cons d l => rwa [List.getLast?_cons_cons] at h13
theorem unf_crlf : ∀ {l r : List UInt8}, (∀ c ∈ l, c ≠ 10) → unf (l ++ 13 :: 10 :: r) = l ++ unf r
  | [], r, _ => by
    show unf (13 :: 10 :: r) = _
    rw [unf, if_neg (by decide), if_pos ⟨rfl, rfl⟩, unf, if_pos rfl]; rfl
  | c :: l, r, h => by
    have hc : c ≠ 10 := h c (.head _)
    have hr : ¬ (c = 13 ∧ (l ++ 13 :: 10 :: r).head? = some 10) := fun ⟨_, e⟩ => by
      cases l with
      | nil => have := Option.some.inj e; revert this; decide
      | cons d l => exact h d (.tail _ (.head _)) (Option.some.inj e)
    show unf (c :: (l ++ 13 :: 10 :: r)) = _
    rw [unf, if_neg hc, if_neg hr, unf_crlf fun c hc => h c (.tail _ hc)]; rfl

theorem mem_cut {b : Array UInt8} {i k : Nat} {c : UInt8} (hk : k ≤ b.size) (h : c ∈ (b.toList.drop i).take (k - i)) : ∃ j, ∃ hj : j < b.size, i ≤ j ∧ j < k ∧ b[j] = c := by
  obtain ⟨n, hn, e⟩ := List.mem_iff_getElem.mp h
  have hn' : n < k - i ∧ i + n < b.size := by
    simp only [List.length_take, List.length_drop, Array.length_toList] at hn; omega
  refine ⟨i + n, hn'.2, by omega, by omega, ?_⟩
  rw [← e, List.getElem_take, List.getElem_drop, Array.getElem_toList]
theorem drop_cut {b : Array UInt8} {i k : Nat} (hik : i ≤ k) (hk : k < b.size) : b.toList.drop i = (b.toList.drop i).take (k - i) ++ b[k] :: b.toList.drop (k + 1) := by
  have h1 := (List.take_append_drop (k - i) (b.toList.drop i)).symm
  rw [List.drop_drop, show i + (k - i) = k by omega] at h1
  have h2 : b.toList.drop k = b[k] :: b.toList.drop (k + 1) := by
    rw [List.drop_eq_getElem_cons (by simpa using hk)]; simp
  rw [h2] at h1
  exact h1
/-- a row's end, and what stands unfolded from there -/
theorem line_spec {b : Array UInt8} {i : Nat} (hi : i ≤ b.size) :
    i ≤ (lineEnds b i).1 ∧ (lineEnds b i).1 ≤ b.size ∧
    ((lineEnds b i).1 = b.size → unf (b.toList.drop i) = (b.extract i (lineEnds b i).1).toList) ∧
    ((lineEnds b i).1 ≠ b.size → i < (lineEnds b i).2 ∧ (lineEnds b i).2 ≤ b.size ∧ unf (b.toList.drop i) = (b.extract i (lineEnds b i).1).toList ++ unf (b.toList.drop (lineEnds b i).2)) := by
  have ext (k : Nat) : (b.extract i k).toList = (b.toList.drop i).take (k - i) := by
    simp
  unfold lineEnds
  cases hf : findAt b #[10] i b.size with
  | none =>
    have hn := findAt_none hi hf
    refine ⟨hi, Nat.le_refl _, fun _ => ?_, fun h => absurd rfl h⟩
    rw [ext, List.take_of_length_le (by simp)]
    refine unf_none fun c hc e => ?_
    have hc' : c ∈ (b.toList.drop i).take (b.size - i) := by rw [List.take_of_length_le (by simp)]; exact hc
    obtain ⟨j, hj, h1, h2, h3⟩ := mem_cut (Nat.le_refl _) hc'
    exact hn j hj h1 (h3.trans e)
  | some k =>
    obtain ⟨hik, hk, h10, hno⟩ := findAt_some hi hf
    have no10 : ∀ k' ≤ k, ∀ c ∈ (b.toList.drop i).take (k' - i), c ≠ 10 := fun k' hk' c hc e => by
      obtain ⟨j, hj, h1, h2, h3⟩ := mem_cut (Nat.le_trans hk' (Nat.le_of_lt hk)) hc
      exact hno j hj h1 (by omega) (h3.trans e)
    dsimp only
    split
    · rename_i h13
      obtain ⟨hlt, h13⟩ := h13
      have hb : b[k - 1]'(by omega) = 13 := by
        have : b.getD (k - 1) 0 = b[k - 1]'(by omega) := by simp [Array.getD, show k - 1 < b.size by omega]
        rw [← this]; exact h13
      refine ⟨by show i ≤ k - 1; omega, by show k - 1 ≤ b.size; omega, fun h => absurd h (by show ¬ k - 1 = b.size; omega), fun _ => ⟨by show i < k + 1; omega, hk, ?_⟩⟩
      have h0 := drop_cut (show i ≤ k - 1 by omega) (show k - 1 < b.size by omega)
      have h2 : b.toList.drop (k - 1 + 1) = 10 :: b.toList.drop (k + 1) := by
        rw [show k - 1 + 1 = k by omega, List.drop_eq_getElem_cons (by simpa using hk)]
        simp [h10]
      rw [hb, h2] at h0
      have h3 := unf_crlf (r := b.toList.drop (k + 1)) (no10 (k - 1) (by omega))
      rw [ext]
      exact (congrArg unf h0).trans h3
    · rename_i h13
      refine ⟨hik, Nat.le_of_lt hk, fun h => absurd h (by show ¬ k = b.size; omega), fun _ => ⟨by show i < k + 1; omega, hk, ?_⟩⟩
      have h0 := drop_cut hik hk
      rw [h10] at h0
      have h3 := unf_row (r := b.toList.drop (k + 1)) (no10 k (Nat.le_refl _)) ?_
      · rw [ext]
        exact (congrArg unf h0).trans h3
      · intro e
        refine h13 ?_
        rw [List.getLast?_eq_getElem?] at e
        have hlen : ((b.toList.drop i).take (k - i)).length = k - i := by simp; omega
        rw [hlen] at e
        have hlt : i < k := by
          rcases Nat.lt_or_ge i k with h | h
          · exact h
          · rw [show k - i = 0 by omega] at e; simp at e
        refine ⟨hlt, ?_⟩
        rw [List.getElem?_take_of_lt (by omega), List.getElem?_drop] at e
        rw [show i + (k - i - 1) = k - 1 by omega] at e
        rw [Array.getD_eq_getD_getElem?, ← Array.getElem?_toList, e]
        rfl
end Mine
namespace Mine
section
open PySem.Builtin
variable {prog : Program} {w : World} {A : Around} {E : Value → Shared → Prop} {s : Shared} {b c : Array UInt8} {t u : Tok}
theorem gives_contains {i : Int} {ti : Tok} (h0 : 0 ≤ i) (h1 : i < 256) : Gives («bytes.__contains__» ⟨[.bytes c u, .int i ti], []⟩) (.val (.bool (c.contains i.toNat.toUInt8))) := by
  refine .of_wp fun M A E s Q hq => ?_
  show wpAny M A (Bytes.containsIn "bytes.__contains__" (.bytes c u) (.int i ti) >>= fun r => ret (.bool r)) _ E s
  have e : Bytes.containsIn "bytes.__contains__" (.bytes c u) (.int i ti) = pure (c.contains i.toNat.toUInt8) := by
    unfold Bytes.containsIn
    have e1 : (asIndex (.int i ti)).attempt = pure (.ok i) := rfl
    rw [e1, pure_bind, KBy.buffer_eq, pure_bind]
    dsimp only
    have a1 : ¬ i < 0 := by omega
    have a2 : ¬ i ≥ 256 := by omega
    rw [decide_eq_false a1, decide_eq_false a2]
    rfl
  rw [e, pure_bind]
  exact wpAny_pure ⟨_, rfl, hq⟩
theorem notIn_byte {i : Int} {ti : Tok} {Q : Value → Shared → Prop} (h0 : 0 ≤ i) (h1 : i < 256) (h : Q (.bool (!c.contains i.toNat.toUInt8)) s) : wpAny (model prog w) A (compareOp .NotIn (.int i ti) (.bytes c u)) Q E s :=
  notIn_gives (typeIs_bytes _ _ _) FB.slot_bytes_contains FB.entry_bytes_contains (FB.args_bytes_contains_2 _ _) (gives_contains h0 h1) h
end
end Mine
end
section
open PySem PySem.W PySem.Calls PyProof.Rows PySem.Spec
set_option maxRecDepth 100000
namespace Mine
section
variable {prog : Program} {w : World} {A : Around} {E : Value → Shared → Prop} {s : Shared} {env : Env} {h₀ : Heap} {x : Str} {body : List Stmt} {Q : Flow → Shared → Prop}
/-- a for over a list of the base, whatever its items, by a word over the whole state -/
theorem iter_any {l : Addr} {vs : List Value} {m₀ : Str → Option Value} {news : List (Addr × Obj)} (J : Nat → (Str → Option Value) → List (Addr × Obj) → Prop)
    (hh : A.handled = none) (hl : h₀.IsList l vs.toArray) (F : Fr h₀ env.locals s.heap m₀) (N : News h₀ env.locals s.heap news) (hj : J 0 m₀ news)
    (turn : ∀ i v m₁ nx h tk own, vs[i]? = some v → TbOff own nx → J i m₁ nx → Fr h₀ env.locals h (fun y => if y = x then some v else m₁ y) → News h₀ env.locals h (nx ++ own) →
      wpAny (model prog w) A (execs body env) (TbPost h₀ env.locals (J (i + 1)) own { s with heap := h, toks := tk } Q) E { s with heap := h, toks := tk })
    (done : ∀ m₁ nx h tk, J vs.length m₁ nx → Fr h₀ env.locals h m₁ → News h₀ env.locals h nx → Q .next { s with heap := h, toks := tk }) :
    wpAny (model prog w) A (pyIter (.ref l)) (fun it s₂ => LoopAtV prog w A h₀ env x body Q E it s₂) E s := by
  have hls : s.heap.IsList l vs.toArray := hl.at fun o e => F.keep l o e
  obtain ⟨ol, hol, _⟩ := id hl
  have hlt : l < h₀.objs.size := Heap.lt_size hol
  have hne : l ≠ s.heap.objs.size := Nat.ne_of_lt (Nat.lt_trans (Nat.lt_of_lt_of_le hlt F.above) F.ns.lt)
  refine wpAny_pyIter_list hls ?_
  have W := Walks.list (prog := prog) (w := w) hh s.heap.objs.size l hne vs.toArray
  have hlen : vs.toArray.size = vs.length := by simp
  rw [hlen] at W
  refine ⟨_, _, _, vs.length, _, _, m₀, news, J, rfl, W, ?_, ?_, ?_, ⟨⟨_, Heap.get?_push_size _ rfl, rfl, rfl⟩, hls.at fun o e => Heap.get?_push_of_some _ e⟩, F.push _, (fun p hp => ⟨Heap.get?_push_of_some _ (N p hp).1, (N p hp).2⟩), hj, ?_, ?_⟩
  · intro hm
    rcases List.mem_cons.mp hm with e | hm
    · exact absurd F.ns.lt (e ▸ Nat.lt_irrefl _)
    · exact absurd (Nat.lt_of_lt_of_le hlt F.above) ((List.mem_singleton.mp hm) ▸ Nat.lt_irrefl _)
  · intro b hb
    rw [List.mem_singleton.mp hb]
    exact next_is_new F
  · intro p hp hI
    exact absurd (Heap.lt_size (N p hp).1) ((List.mem_singleton.mp hI) ▸ Nat.lt_irrefl _)
  · rintro i v m₁ news₁ s₁ own ⟨hh', tk', rfl⟩ hin hP hJ hoff hown _ hmem hst F₁ N₁
    obtain ⟨⟨oi, hoi, _⟩, _⟩ := hst
    have hI : (s.heap.objs.size, oi) ∈ own := hmem _ (.head _) (next_is_new F) oi hoi
    have hsep : TbOff own news₁ := by
      intro p hp q hq e
      rcases List.mem_cons.mp (hown p hp) with h1 | h1
      · exact hoff q hq (List.mem_singleton.mpr (by rw [← e, h1]))
      · have h2 := List.mem_singleton.mp h1
        have h3 := (N₁ q (List.mem_append.mpr (.inr hq))).2.2
        rw [← e, h2, hol] at h3
        cases h3
    have N₂ : News h₀ env.locals hh' (news₁ ++ own) := fun p hp => N₁ p ((List.mem_append.mp hp).elim (fun h => List.mem_append.mpr (.inr h)) fun h => List.mem_append.mpr (.inl h))
    refine wpAny_mono (turn i v m₁ news₁ hh' tk' own (by simpa using hP) hsep hJ F₁ N₂) (fun f s₂ p => ?_) fun _ _ e => e
    have fin : TbEnd h₀ env.locals (J (i + 1)) own { s with heap := hh', toks := tk' } s₂ → LoopStepU h₀ env.locals [s.heap.objs.size] own (J (i + 1)) { s with heap := hh', toks := tk' } .next s₂ := by
      rintro ⟨h', tk, m', news', nx, e, F', N', hn, ho, ha, hm⟩
      exact ⟨rfl, h', tk, m', nx, e, F', fun p hp => N' p ((List.mem_append.mp hp).elim (ho p) (hn p)), fun p hp hq => ha _ hI p hp (List.mem_singleton.mp hq).symm, hm⟩
    cases f with
    | ret v => exact .ret p
    | brk => exact .brk p
    | next => exact .next (fin p)
    | cont => exact .cont (fin p)
  · rintro h' tk m' news' F' N' _ hJ
    exact done m' news' h' tk hJ F' N'

/-- a for over a range of ones, by a word over the whole state -/
theorem iter_rangeJ {r : Addr} {a₀ b₀ : Int} {t₀ u₀ v₀ : Tok} {n : Nat} {m₀ : Str → Option Value} {news : List (Addr × Obj)} (J : Nat → (Str → Option Value) → List (Addr × Obj) → Prop)
    (hh : A.handled = none) (hr : IsRange s.heap r a₀ b₀ 1 t₀ u₀ v₀) (hsmall : Builtin.Range.small a₀ b₀ 1 = true) (hn : Builtin.Range.rangeSize a₀ b₀ 1 = (n : Int)) (F : Fr h₀ env.locals s.heap m₀) (N : News h₀ env.locals s.heap news) (hj : J 0 m₀ news)
    (turn : ∀ i v m₁ nx h tk own, i < n → (∃ t, v = .int (a₀ + (i : Int)) t) → TbOff own nx → J i m₁ nx → Fr h₀ env.locals h (fun y => if y = x then some v else m₁ y) → News h₀ env.locals h (nx ++ own) →
      wpAny (model prog w) A (execs body env) (TbPost h₀ env.locals (J (i + 1)) own { s with heap := h, toks := tk } Q) E { s with heap := h, toks := tk })
    (done : ∀ m₁ nx h tk, J n m₁ nx → Fr h₀ env.locals h m₁ → News h₀ env.locals h nx → Q .next { s with heap := h, toks := tk }) :
    wpAny (model prog w) A (pyIter (.ref r)) (fun it s₂ => LoopAtV prog w A h₀ env x body Q E it s₂) E s := by
  refine wpAny_pyIter_range hr hsmall ?_
  have W : Walks prog w A s.heap.objs.size [s.heap.objs.size] [s.heap.objs.size] n (fun i v => i < n ∧ ∃ t, v = .int (a₀ + i * 1) t)
      (fun i h => IsRangeIter h s.heap.objs.size (a₀ + (i : Nat) * 1) ((n : Int) - (i : Nat)) 1) := (Walks.range hh _ a₀ 1 n).bound
  refine ⟨_, _, _, n, _, _, m₀, news, J, rfl, W, ?_, ?_, ?_, (by show IsRangeIter _ _ _ _ _; rw [hn]; simpa using Heap.get?_push_size _ rfl), F.push _, (fun p hp => ⟨Heap.get?_push_of_some _ (N p hp).1, (N p hp).2⟩), hj, ?_, ?_⟩
  · intro hm
    exact absurd F.ns.lt ((List.mem_singleton.mp hm) ▸ Nat.lt_irrefl _)
  · intro b' hb
    rw [List.mem_singleton.mp hb]
    exact next_is_new F
  · intro p hp hI
    exact absurd (Heap.lt_size (N p hp).1) ((List.mem_singleton.mp hI) ▸ Nat.lt_irrefl _)
  · rintro i v m₁ news₁ s₁ own ⟨hh', tk', rfl⟩ hin ⟨_, t, rfl⟩ hJ hoff hown _ hmem hst F₁ N₁
    have hI : ∃ oi, (s.heap.objs.size, oi) ∈ own := ⟨_, hmem _ (.head _) (next_is_new F) _ hst⟩
    obtain ⟨oi, hI⟩ := hI
    have hsep : TbOff own news₁ := by
      intro p hp q hq e
      have h1 := List.mem_singleton.mp (hown p hp)
      exact hoff q hq (List.mem_singleton.mpr (by rw [← e, h1]))
    have N₂ : News h₀ env.locals hh' (news₁ ++ own) := fun p hp => N₁ p ((List.mem_append.mp hp).elim (fun h => List.mem_append.mpr (.inr h)) fun h => List.mem_append.mpr (.inl h))
    refine wpAny_mono (turn i _ m₁ news₁ hh' tk' own hin ⟨t, by rw [Int.mul_one]⟩ hsep hJ F₁ N₂) (fun f s₂ p => ?_) fun _ _ e => e
    have fin : TbEnd h₀ env.locals (J (i + 1)) own { s with heap := hh', toks := tk' } s₂ → LoopStepU h₀ env.locals [s.heap.objs.size] own (J (i + 1)) { s with heap := hh', toks := tk' } .next s₂ := by
      rintro ⟨h', tk, m', news', nx, e, F', N', hn, ho, ha, hm⟩
      exact ⟨rfl, h', tk, m', nx, e, F', fun p hp => N' p ((List.mem_append.mp hp).elim (ho p) (hn p)), fun p hp hq => ha _ hI p hp (List.mem_singleton.mp hq).symm, hm⟩
    cases f with
    | ret v => exact .ret p
    | brk => exact .brk p
    | next => exact .next (fin p)
    | cont => exact .cont (fin p)
  · rintro h' tk m' news' F' N' _ hJ
    exact done m' news' h' tk hJ F' N'
end
end Mine
end
section
open PySem PySem.W PySem.Calls PyProof.Rows PySem.Spec
set_option maxRecDepth 100000
namespace Mine
section
variable {prog : Program} {w : World} {K : Frag} {p : Program} {loose : List Str} {mean : ExcName → Option Value} {mg mb : Str → Option Value}
  {dp un : Nat} {fr : Option (List Env)} {gd : Option (List Code)} {s : Shared} {h₀ : Heap} {L : Addr} {m : Str → Option Value} {news : List (Addr × Obj)} {E : Value → Shared → Prop} {A : Around}
theorem draw_use {f : Addr} {lim a : Int} {t c : Addr} {n nc : Nat} {cs : List Value} {ta tl : Tok} {news' : Tok → List (Addr × Obj)} {Q : Value → Shared → Prop} (C : DrawC prog w K p loose mean mg mb f lim t c a n cs) (F : Fr h₀ L s.heap m) (X : K.In h₀) (N : News h₀ L s.heap news) (T : Top p loose mean mg mb h₀)
    (U : ∀ ta', Upd t (tapeObj c a ta n) (tapeObj c (a + 1) ta' n) news (news' ta')) (hm : (c, listOf cs.toArray nc) ∈ news) (hct : @Ne Nat c t)
    (hd : dp + 2 < recursionLimit) (hu : un + 16 < cLine)
    (h : ∀ d t' ta' h' tk', 0 ≤ d → d < lim → Fr h₀ L h' m → News h₀ L h' (news' ta') → Q (.int d t') { s with heap := h', toks := tk' }) :
    wpAny (model prog w) (arnd dp un fr gd) (call (.ref f) [.ref t, .int lim tl]) Q E s := by
  have zt : s.heap.get? t = some (tapeObj c a ta n) ∧ t ≠ L ∧ h₀.get? t = none := by
    obtain ⟨pre, post, e1, e2, h1, h2⟩ := (U 0).split
    exact N (t, _) (by rw [e1]; exact List.mem_append.mpr (.inr (.head _)))
  have up : ∀ b o, h₀.get? b = some o → (s.heap.hide t).get? b = some o := fun b o e => by
    have hb : b ≠ t := fun q => by rw [q, zt.2.2] at e; cases e
    rw [Heap.hide_ne _ hb]; exact F.keep b o e
  refine C dp un fr gd s ta tl Q E hd hu (X.keeps up) (T.keeps up) zt.1 ⟨_, (Heap.hide_ne _ hct).trans (N _ hm).1, rfl, _, rfl⟩ fun d t' ta' h' tk' h0 h1 ht' hk => ?_
  refine h d t' ta' h' tk' h0 h1 ⟨F.ns.at' fun o e => hk L o zt.2.1.symm e, fun b o e => hk b o (fun q => by rw [q, zt.2.2] at e; cases e) (F.keep b o e), F.above⟩ fun q hq => ?_
  obtain ⟨pre, post, e1, e2, o1, o2⟩ := (U ta').split
  rw [e2] at hq
  rcases List.mem_append.mp hq with hq | hq
  · have z := N q (by rw [e1]; exact List.mem_append.mpr (.inl hq))
    exact ⟨hk _ _ (o1 q hq) z.1, z.2⟩
  · rcases List.mem_cons.mp hq with rfl | hq
    · exact ⟨ht', zt.2⟩
    · have z := N q (by rw [e1]; exact List.mem_append.mpr (.inr (.tail _ hq)))
      exact ⟨hk _ _ (o2 q hq) z.1, z.2⟩

theorem range_use {n : Int} {t : Tok} {Q : Value → Shared → Prop} (F : Fr h₀ L s.heap m) (N : News h₀ L s.heap news)
    (h : ∀ r h' tk' t0 t1, Fr h₀ L h' m → News h₀ L h' news → IsRange h' r 0 n 1 t0 t t1 → Q (.ref r) { s with heap := h', toks := tk' }) :
    wpAny (model prog w) A (call (.type "range") [.int n t]) Q E s :=
  call_range_1 (h _ _ _ _ _ (F.push _) (N.grown fun _ _ e => Heap.get?_push_of_some _ e) (IsRange.new _ _ _ _ _ _ _))

theorem tup_item {l : Addr} {items : List Value} {n : Nat} {i : Int} {u : Tok} {value slice : Expr} {Q : Value → Shared → Prop} (F : Fr h₀ L s.heap m) (X : K.In h₀)
    (hl : K.lookup l = some { cls := .type "tuple", data := .seq items.toArray n }) (h0 : 0 ≤ i) (h1 : i < items.length) (hsz : items.length ≤ 1000)
    (h : ∀ v, v ∈ items → Q v s)
    (hs : subscripted slice false (.ref l) (.int i u) = operate [.ref l, .int i u] (getItem (.ref l) (.int i u)) := by with_unfolding_all rfl) :
    wpAny (model prog w) A (subscriptTail value slice (.ref l) (.int i u)) Q E s := by
  have hi : i.toNat < items.length := by omega
  have hj : seqIndex? i items.length = some i.toNat := by
    have hn : ¬ i < 0 := by omega
    simp [seqIndex?, hn, h0, h1]
  exact topTup_K F X hl (by omega) (by omega) hj (List.getElem?_eq_getElem hi) (h _ (List.getElem_mem _)) hs
end
end Mine
end
section
open PySem PySem.W PySem.Calls PyProof.Rows
local macro_rules | `(tactic| walk_at "p_enter") => `(tactic| (refine' Mine.pure_enter ?k3 ?k5 ?k6 ?k7 ?k8 ?k9 ?kB ?_ ?c2 ?c3 ?c4 ?c5; (case k3 => k_asm); (case k5 => k_asm); (case k6 => k_is); (case k7 => k_is); (case k8 => ktr_room); (case k9 => exact BindsTo.of_eq rfl); (case c5 => decide); (case kB => exact locs rfl); (case c2 => exact rfl); (case c3 => exact rfl); (case c4 => exact rfl); k_whole; intro L' h' F' N'; (try dsimp only); (try k_fold)))
local macro_rules | `(tactic| cell_end "p_end" $h:term $_:term) => `(tactic| (refine' $h _ _ _ ?pe2; (case pe2 => exact Fr.keep (by k_asm))))
local macro_rules | `(tactic| cell_end "p_endO" $h:term $m:term) => `(tactic| (refine' $h _ [(_, _)] _ _ ?pe1 ?pe2 ?pe3; (case pe2 => exact Fr.keep (by k_asm)); (case pe3 => exact Mine.tl_one (by k_asm) $m)))
local macro_rules | `(tactic| walk_at "call builtin:list.append") => `(tactic| (k_here; (with_reducible show wpAny _ _ (call (Value.builtin _) [Value.ref _, _]) _ _ _); k_dflt (refine' append_K ?k1 ?k2 ?k3 ?_ ?z; (case k1 => k_asm); (case k2 => k_asm); (case k3 => k_upd); (case z => first | size_fits | (rw [PySem.sizeLine_eq]; (try simp only [List.size_toArray]); omega)); k_whole); intro h' F' N'; (try k_sweep)))
namespace Mine
def lowc (n : Int) : Int := if 65 ≤ n ∧ n ≤ 90 then n + 32 else n
set_option maxRecDepth 100000 in
set_option maxHeartbeats 8000000 in
theorem c_lower_code : ∀ (w : World) (loose : List Str) (mean : ExcName → Option Value) (mg mb : Str → Option Value) (n : Int) (tk : Tok), 0 ≤ n → n < 2000000 →
    PureV Challenge.rw_nz0271_01.row.prog w (hd.heap_39 w.params) hd.view_39 loose mean mg mb 28 [.int n tk] (fun _ => True) (fun t => .int (lowc n) t) 1 8 := by
  w_top off
  k_fill
  unfold PureV
  intro w loose mean mg mb n tk hn0 hn1 dp un fr gd s Q E hd hu X T hH hret
  refine wpAny_call ?_
  k_dflt walk_at "p_enter"
  k_steps
  · have e : lowc n = n + 32 := if_pos ⟨by assumption, by assumption⟩
    rw [e] at hret
    cell_end "p_end" hret 0
  · have e : lowc n = n := if_neg (by omega)
    rw [e] at hret
    cell_end "p_end" hret 0
  · have e : lowc n = n := if_neg (by omega)
    rw [e] at hret
    cell_end "p_end" hret 0
end Mine
end
section
open PySem PySem.W PySem.Calls PyProof.Rows
local macro_rules | `(tactic| walk_at "p_enter") => `(tactic| (refine' Mine.pure_enter ?k3 ?k5 ?k6 ?k7 ?k8 ?k9 ?kB ?_ ?c2 ?c3 ?c4 ?c5; (case k3 => k_asm); (case k5 => k_asm); (case k6 => k_is); (case k7 => k_is); (case k8 => ktr_room); (case k9 => exact BindsTo.of_eq rfl); (case c5 => decide); (case kB => exact locs rfl); (case c2 => exact rfl); (case c3 => exact rfl); (case c4 => exact rfl); k_whole; intro L' h' F' N'; (try dsimp only); (try k_fold)))
local macro_rules | `(tactic| cell_end "p_end" $h:term $_:term) => `(tactic| (refine' $h _ _ _ ?pe2; (case pe2 => exact Fr.keep (by k_asm))))
local macro_rules | `(tactic| cell_end "p_endO" $h:term $m:term) => `(tactic| (refine' $h _ [(_, _)] _ _ ?pe1 ?pe2 ?pe3; (case pe2 => exact Fr.keep (by k_asm)); (case pe3 => exact Mine.tl_one (by k_asm) $m)))
local macro_rules | `(tactic| walk_at "call builtin:list.append") => `(tactic| (k_here; (with_reducible show wpAny _ _ (call (Value.builtin _) [Value.ref _, _]) _ _ _); k_dflt (refine' append_K ?k1 ?k2 ?k3 ?_ ?z; (case k1 => k_asm); (case k2 => k_asm); (case k3 => k_upd); (case z => first | size_fits | (rw [PySem.sizeLine_eq]; (try simp only [List.size_toArray]); omega)); k_whole); intro h' F' N'; (try k_sweep)))
namespace Mine
def lowN (c : Nat) : Nat := if 65 ≤ c ∧ c ≤ 90 then c + 32 else c
def lowS (x : Str) : Str := ⟨(x.cps.toList.map lowN).toArray⟩
theorem lowc_nat (c : Nat) : lowc (c : Int) = (lowN c : Int) := by
  unfold lowc lowN
  split <;> split <;> omega
theorem lowN_le {c : Nat} (h : c ≤ 1114111) : lowN c ≤ 1114111 := by
  unfold lowN; split <;> omega
theorem glue_ones {α : Type} (g : α → Nat) (l : List α) : Txt.join (Str.ofString "") (l.map fun a => (⟨#[g a]⟩ : Str)) = ⟨(l.map g).toArray⟩ := by
  show Builtin.Str.glued (Str.ofString "") _ = _
  rw [StrLaws.glued_eq_join]
  have e : Str.ofString "" = Str.empty := by decide
  rw [e]
  induction l with
  | nil => rfl
  | cons a r ih =>
    cases r with
    | nil => rfl
    | cons b r =>
      have ih' := congrArg Str.cps ih
      refine Str.ext' ?_
      show ((⟨#[g a]⟩ : Str) ++ Str.empty ++ Str.join Str.empty ((b :: r).map fun a => (⟨#[g a]⟩ : Str))).cps = _
      rw [Str.cps_append, Str.cps_append, ih']
      simp [Str.empty]
theorem sum_ones {α : Type} (g : α → Nat) (l : List α) : ((l.map fun a => (⟨#[g a]⟩ : Str)).map (·.length)).sum = l.length := by
  induction l with
  | nil => rfl
  | cons a r ih => simp only [List.map_cons, List.sum_cons, List.length_cons] at ih ⊢; rw [ih]; show 1 + _ = _; omega

local macro_rules | `(tactic| walk_at "eval ListComp") => `(tactic| (k_here; k_dflt (refine Mine.ListComp_V (F₀ := by k_asm) (by with_unfolding_all rfl) (by decide) (by rfl) (by decide) (by rfl) ?_)))
local macro_rules | `(tactic| walk_at "call ref") => `(tactic| (k_here; (try dsimp only [List.nil_append, List.cons_append]); (with_reducible show wpAny _ _ (call (Value.ref 28) [Value.int _ _]) _ _ _); k_dflt (refine' Mine.pure_use (c_lower_code _ _ _ _ _ _ _ (by omega) (by omega)) ?pF ?pX ?pN ?pT ?pd ?pu ?pH ?_; (case pF => k_asm); (case pX => k_asm); (case pN => k_asm); (case pT => k_asm); (case pd => ktr_room); (case pu => ktr_units); (case pH => exact trivial)); intro t' h' tk' F' N' pk'; (try dsimp only); (try k_fold)))

set_option maxRecDepth 100000 in
set_option maxHeartbeats 8000000 in
theorem c_lower_text : ∀ (w : World) (loose : List Str) (mean : ExcName → Option Value) (mg mb : Str → Option Value) (x : Str) (tk : Tok), x.cps.size ≤ 500000 → (∀ c ∈ x.cps.toList, c ≤ 1114111) →
    PureV Challenge.rw_nz0271_01.row.prog w (hd.heap_39 w.params) hd.view_39 loose mean mg mb 33 [.str x tk] (fun _ => True) (fun t => .str (lowS x) t) 2 16 := by
  w_top off
  k_fill
  unfold PureV
  intro w loose mean mg mb x tk hsz hcs dp un fr gd s Q E hd hu X T hH hret
  refine wpAny_call ?_
  k_dflt walk_at "p_enter"
  k_steps
  refine ⟨_, _, _, by k_asm, by k_asm, ?_, iter_str rfl, ?_⟩
  · rw [sizeLine_eq]; omega
  rintro s₂ ⟨g, rfl⟩
  have e : x.cps.size = x.cps.toList.length := by simp
  rw [e]
  refine rest_strs x.cps.toList (fun c => ⟨#[lowN c]⟩) (fun c t => .str ⟨#[c]⟩ t) ?_ ?_ ?_
  · rintro i v hi ⟨c, u, hc, rfl⟩
    exact ⟨c, u, by simpa using hc, rfl⟩
  · intro c t I oI C oC D m₂ ys h tk E' hc hC hx F' N' ne
    have hc' := hcs c hc
    have hl' := lowN_le hc'
    k_steps
    rw [lowc_nat]
    refine chr_of_range (by omega) (by omega) ?_
    k_steps
    all_goals k_asm
  · intro ys hys
    unfold LCg.FinE
    intro D h tk F' N' o1
    k_steps
    refine join_listW (News.isList (by k_asm) (by k_mem)) (by simpa using hys) (by decide) ?_ ?_
    · rw [sum_ones, List.length_map]; omega
    intro t' k
    rw [glue_ones]
    k_steps
    cell_end "p_end" hret 0
end Mine
end
section
open PySem PySem.W PySem.Calls PyProof.Rows
local macro_rules | `(tactic| walk_at "p_enter") => `(tactic| (refine' Mine.pure_enter ?k3 ?k5 ?k6 ?k7 ?k8 ?k9 ?kB ?_ ?c2 ?c3 ?c4 ?c5; (case k3 => k_asm); (case k5 => k_asm); (case k6 => k_is); (case k7 => k_is); (case k8 => ktr_room); (case k9 => exact BindsTo.of_eq rfl); (case c5 => decide); (case kB => exact locs rfl); (case c2 => exact rfl); (case c3 => exact rfl); (case c4 => exact rfl); k_whole; intro L' h' F' N'; (try dsimp only); (try k_fold)))
local macro_rules | `(tactic| cell_end "p_end" $h:term $_:term) => `(tactic| (refine' $h _ _ _ ?pe2; (case pe2 => exact Fr.keep (by k_asm))))
local macro_rules | `(tactic| cell_end "p_endO" $h:term $m:term) => `(tactic| (refine' $h _ [(_, _)] _ _ ?pe1 ?pe2 ?pe3; (case pe2 => exact Fr.keep (by k_asm)); (case pe3 => exact Mine.tl_one (by k_asm) $m)))
local macro_rules | `(tactic| walk_at "call builtin:list.append") => `(tactic| (k_here; (with_reducible show wpAny _ _ (call (Value.builtin _) [Value.ref _, _]) _ _ _); k_dflt (refine' append_K ?k1 ?k2 ?k3 ?_ ?z; (case k1 => k_asm); (case k2 => k_asm); (case k3 => k_upd); (case z => first | size_fits | (rw [PySem.sizeLine_eq]; (try simp only [List.size_toArray]); omega)); k_whole); intro h' F' N'; (try k_sweep)))
local macro_rules | `(tactic| walk_at "a rule for the count alone") => `(tactic| fail "no step")
namespace Mine
def bytesS (b : Array UInt8) : Str := ⟨(b.toList.map (·.toNat)).toArray⟩
theorem bytesS_size (b : Array UInt8) : (bytesS b).cps.size = b.size := by simp [bytesS]
theorem bytesS_le (b : Array UInt8) : ∀ c ∈ (bytesS b).cps.toList, c ≤ 1114111 := by
  intro c hc
  simp only [bytesS, List.mem_map] at hc
  obtain ⟨u, _, rfl⟩ := hc
  have := u.toNat_lt
  omega

/-- an object of a class that stands in the base -/
def InstIn (h₀ : Heap) (x : Addr) (ox : Obj) (C : Addr) (od : Option Obj) : Prop := InstAt h₀ x ox C od
theorem InstIn.at {h₀ h : Heap} {x C : Addr} {ox : Obj} {od : Option Obj} (I : InstIn h₀ x ox C od) (k : ∀ b o, h₀.get? b = some o → h.get? b = some o) : InstAt h x ox C od := by
  obtain ⟨a, b, c, d⟩ := I
  refine ⟨k _ _ a, b, c, ?_⟩
  revert d
  cases ox.dict <;> cases od <;> simp only [imp_self] <;> exact fun e => k _ _ e

abbrev fieldEs (w : World) (nm rw : Array UInt8) (t1 t2 t3 t4 : Tok) : List DictEntry :=
  [⟨PyData.keyHash w.params (Str.ofString "name"), .str (Str.ofString "name") t1, .bytes nm t2⟩, ⟨PyData.keyHash w.params (Str.ofString "raw"), .str (Str.ofString "raw") t3, .bytes rw t4⟩]
/-- a Field of that name and those raw octets stands there -/
def FieldAt (w : World) (x : Addr) (nm rw : Array UInt8) (h : Heap) : Prop :=
  ∃ d t1 t2 t3 t4 n, h.get? x = some (instObj 62 d) ∧ h.get? d = some (dictOf (fieldEs w nm rw t1 t2 t3 t4) n)
theorem FieldAt.inst {w : World} {x : Addr} {nm rw : Array UInt8} {h : Heap} (F : FieldAt w x nm rw h) : ∃ d t1 t2 t3 t4 n, InstIn h x (instObj 62 d) 62 (some (dictOf (fieldEs w nm rw t1 t2 t3 t4) n)) := by
  obtain ⟨d, t1, t2, t3, t4, n, a, b⟩ := F
  exact ⟨d, t1, t2, t3, t4, n, a, rfl, rfl, b⟩
theorem FieldAt.keeps {w : World} {x : Addr} {nm rw : Array UInt8} {h h' : Heap} (F : FieldAt w x nm rw h) (k : ∀ b o, h.get? b = some o → h'.get? b = some o) : FieldAt w x nm rw h' := by
  obtain ⟨d, t1, t2, t3, t4, n, a, b⟩ := F
  exact ⟨d, t1, t2, t3, t4, n, k _ _ a, k _ _ b⟩

local macro_rules | `(tactic| k_inst) => `(tactic| (refine' Mine.InstIn.at ?iI ?ik; (case iI => with_reducible assumption); (case ik => exact Fr.keep (by k_asm))))
local macro_rules | `(tactic| walk_at "eval ListComp") => `(tactic| (k_here; k_dflt (refine Mine.ListComp_V (F₀ := by k_asm) (by with_unfolding_all rfl) (by decide) (by rfl) (by decide) (by rfl) ?_)))
local macro_rules | `(tactic| walk_at "call ref") => `(tactic| (k_here; (try dsimp only [List.nil_append, List.cons_append]); (with_reducible show wpAny _ _ (call (Value.ref 33) [Value.str _ _]) _ _ _); k_dflt (refine' Mine.pure_use (c_lower_text _ _ _ _ _ _ _ (by first | assumption | (rw [bytesS_size]; assumption)) (by first | assumption | exact bytesS_le _)) ?pF ?pX ?pN ?pT ?pd ?pu ?pH ?_; (case pF => k_asm); (case pX => k_asm); (case pN => k_asm); (case pT => k_asm); (case pd => ktr_room); (case pu => ktr_units); (case pH => exact trivial)); intro t' h' tk' F' N' pk'; (try dsimp only); (try k_fold)))

set_option maxRecDepth 100000 in
set_option maxHeartbeats 8000000 in
theorem c_word : ∀ (w : World) (loose : List Str) (mean : ExcName → Option Value) (mg mb : Str → Option Value) (x : Addr) (nm rw : Array UInt8), nm.size ≤ 500000 →
    PureV Challenge.rw_nz0271_01.row.prog w (hd.heap_39 w.params) hd.view_39 loose mean mg mb 52 [.ref x] (FieldAt w x nm rw) (fun t => .str (lowS (bytesS nm)) t) 3 24 := by
  w_top off
  k_fill
  unfold PureV
  intro w loose mean mg mb x nm rw hsz dp un fr gd s Q E hd hu X T hH hret
  obtain ⟨d, t1, t2, t3, t4, n, hI⟩ := hH.inst
  refine wpAny_call ?_
  k_dflt walk_at "p_enter"
  k_steps
  refine ⟨_, _, _, by k_asm, by k_asm, ?_, iter_bytes rfl, ?_⟩
  · rw [sizeLine_eq]; omega
  rintro s₂ ⟨g, rfl⟩
  have e : nm.size = nm.toList.length := by simp
  rw [e]
  refine rest_strs nm.toList (fun c => ⟨#[c.toNat]⟩) (fun c t => .int (c.toNat : Int) t) ?_ ?_ ?_
  · rintro i v hi ⟨c, u, hc, rfl⟩
    exact ⟨c, u, by simpa using hc, rfl⟩
  · intro c t I oI C oC D m₂ ys h tk E' hc hC hx F' N' ne
    have hc' := c.toNat_lt
    k_steps
    all_goals first | k_asm | skip
  · intro ys hys
    unfold LCg.FinE
    intro D h tk F' N' o1
    k_steps
    refine join_listW (News.isList (by k_asm) (by k_mem)) (by simpa using hys) (by decide) ?_ ?_
    · rw [sum_ones, List.length_map]; omega
    intro t' k
    rw [glue_ones]
    have hb : (⟨(nm.toList.map (·.toNat)).toArray⟩ : Str) = bytesS nm := rfl
    rw [hb]
    k_steps
    cell_end "p_end" hret 0
end Mine
end
section
open PySem PySem.W PySem.Calls PyProof.Rows
local macro_rules | `(tactic| walk_at "p_enter") => `(tactic| (refine' Mine.pure_enter ?k3 ?k5 ?k6 ?k7 ?k8 ?k9 ?kB ?_ ?c2 ?c3 ?c4 ?c5; (case k3 => k_asm); (case k5 => k_asm); (case k6 => k_is); (case k7 => k_is); (case k8 => ktr_room); (case k9 => exact BindsTo.of_eq rfl); (case c5 => decide); (case kB => exact locs rfl); (case c2 => exact rfl); (case c3 => exact rfl); (case c4 => exact rfl); k_whole; intro L' h' F' N'; (try dsimp only); (try k_fold)))
local macro_rules | `(tactic| cell_end "p_end" $h:term $_:term) => `(tactic| (refine' $h _ _ _ ?pe2; (case pe2 => exact Fr.keep (by k_asm))))
local macro_rules | `(tactic| cell_end "p_endO" $h:term $m:term) => `(tactic| (refine' $h _ [(_, _)] _ _ ?pe1 ?pe2 ?pe3; (case pe2 => exact Fr.keep (by k_asm)); (case pe3 => exact Mine.tl_one (by k_asm) $m)))
local macro_rules | `(tactic| walk_at "call builtin:list.append") => `(tactic| (k_here; (with_reducible show wpAny _ _ (call (Value.builtin _) [Value.ref _, _]) _ _ _); k_dflt (refine' append_K ?k1 ?k2 ?k3 ?_ ?z; (case k1 => k_asm); (case k2 => k_asm); (case k3 => k_upd); (case z => first | size_fits | (rw [PySem.sizeLine_eq]; (try simp only [List.size_toArray]); omega)); k_whole); intro h' F' N'; (try k_sweep)))
local macro_rules | `(tactic| walk_at "a rule for the count alone") => `(tactic| fail "no step")
namespace Mine
local macro_rules | `(tactic| walk_at "getMethod bytes") => `(tactic| (k_here; (with_reducible refine Mine.method_find ?_)))
local macro_rules | `(tactic| walk_at "call builtin:bytes.find") => `(tactic| (k_here; (first | refine Mine.call_find_some (by with_reducible assumption) ?_ | refine Mine.call_find_none (by with_reducible assumption) ?_)))
local macro_rules | `(tactic| walk_at "subscriptTail") => `(tactic| (k_here; (with_reducible show wpAny _ _ (subscriptTail _ _ (Value.bytes _ _) (Value.int _ _)) _ _ _); (refine Mine.item_byte (by omega) (by omega) (by omega) ?_)))

set_option maxRecDepth 100000 in
set_option maxHeartbeats 8000000 in
theorem c_line_at : ∀ (w : World) (loose : List Str) (mean : ExcName → Option Value) (mg mb : Str → Option Value) (b : Array UInt8) (tb : Tok) (i : Nat) (ti te : Tok), b.size ≤ 500000 → i ≤ b.size →
    PureO Challenge.rw_nz0271_01.row.prog w (hd.heap_39 w.params) hd.view_39 loose mean mg mb 73 [.bytes b tb, .int (i : Int) ti, .int (b.size : Int) te] (fun _ => True)
      (fun r tl => ∃ T t1 t2, r = .ref T ∧ tl = [(T, ({ cls := .type "tuple", data := .seq #[.int ((lineEnds b i).1 : Int) t1, .int ((lineEnds b i).2 : Int) t2] } : Obj))]) 2 16 := by
  w_top off
  k_fill
  unfold PureO
  intro w loose mean mg mb b tb i ti te hsz hi dp un fr gd s Q E hd hu X T hH hret
  rcases hf : findAt b #[10] (i : Int) (b.size : Int) with _ | k
  · have el : lineEnds b i = (b.size, b.size) := by unfold lineEnds; rw [hf]
    refine wpAny_call ?_
    k_dflt walk_at "p_enter"
    k_steps
    cell_end "p_endO" hret (List.Mem.head _)
    rw [el]
    exact ⟨_, _, _, rfl, rfl⟩
  obtain ⟨hik, hks, hkc, _⟩ := findAt_some hi hf
  by_cases h13 : i < k ∧ b.getD (k - 1) 0 = 13
  · have el : lineEnds b i = (k - 1, k + 1) := by unfold lineEnds; rw [hf]; exact if_pos h13
    have e1 : ((k - 1 : Nat) : Int) = (k : Int) - 1 := by omega
    have e2 : ((k + 1 : Nat) : Int) = (k : Int) + 1 := by omega
    have e3 : ((b.getD ((k : Int) - 1).toNat 0).toNat : Int) = 13 := by rw [← e1, Int.toNat_natCast, h13.2]; rfl
    have hlt := h13.1
    refine wpAny_call ?_
    k_dflt walk_at "p_enter"
    k_steps
    all_goals first
      | exact absurd e3 (by assumption)
      | (cell_end "p_endO" hret (List.Mem.head _); rw [el]; exact ⟨_, _, _, rfl, by rw [e1, e2]⟩)
  · have el : lineEnds b i = (k, k + 1) := by unfold lineEnds; rw [hf]; exact if_neg h13
    have e2 : ((k + 1 : Nat) : Int) = (k : Int) + 1 := by omega
    have e1 : ((k : Int) - 1).toNat = k - 1 := by omega
    have h13' : (i : Int) < k → ¬ ((b.getD ((k : Int) - 1).toNat 0).toNat : Int) = 13 := fun a e => h13 ⟨by omega, by
      rw [e1] at e
      exact UInt8.toNat_inj.mp (by have h9 : UInt8.toNat 13 = 13 := rfl; omega)⟩
    refine wpAny_call ?_
    k_dflt walk_at "p_enter"
    k_steps
    all_goals first
      | exact absurd (by assumption) (h13' (by omega))
      | (cell_end "p_endO" hret (List.Mem.head _); rw [el]; exact ⟨_, _, _, rfl, by rw [e2]⟩)
end Mine
end
section
open PySem PySem.W PySem.Calls PyProof.Rows
local macro_rules | `(tactic| walk_at "p_enter") => `(tactic| (refine' Mine.pure_enter ?k3 ?k5 ?k6 ?k7 ?k8 ?k9 ?kB ?_ ?c2 ?c3 ?c4 ?c5; (case k3 => k_asm); (case k5 => k_asm); (case k6 => k_is); (case k7 => k_is); (case k8 => ktr_room); (case k9 => exact BindsTo.of_eq rfl); (case c5 => decide); (case kB => exact locs rfl); (case c2 => exact rfl); (case c3 => exact rfl); (case c4 => exact rfl); k_whole; intro L' h' F' N'; (try dsimp only); (try k_fold)))
local macro_rules | `(tactic| cell_end "p_end" $h:term $_:term) => `(tactic| (refine' $h _ _ _ ?pe2; (case pe2 => exact Fr.keep (by k_asm))))
local macro_rules | `(tactic| cell_end "p_endO" $h:term $m:term) => `(tactic| (refine' $h _ [(_, _)] _ _ ?pe1 ?pe2 ?pe3; (case pe2 => exact Fr.keep (by k_asm)); (case pe3 => exact Mine.tl_one (by k_asm) $m)))
local macro_rules | `(tactic| walk_at "call builtin:list.append") => `(tactic| (k_here; (with_reducible show wpAny _ _ (call (Value.builtin _) [Value.ref _, _]) _ _ _); k_dflt (refine' append_K ?k1 ?k2 ?k3 ?_ ?z; (case k1 => k_asm); (case k2 => k_asm); (case k3 => k_upd); (case z => first | size_fits | (rw [PySem.sizeLine_eq]; (try simp only [List.size_toArray]); omega)); k_whole); intro h' F' N'; (try k_sweep)))
namespace Mine
local macro_rules | `(tactic| walk_at "call ref") => `(tactic| (k_here; (try dsimp only [List.nil_append, List.cons_append]); (with_reducible show wpAny _ _ (call (Value.ref 73) [Value.bytes _ _, Value.int _ _, Value.int _ _]) _ _ _); k_dflt (refine' Mine.pure_useO (c_line_at _ _ _ _ _ _ _ _ _ _ (by assumption) (by assumption)) ?pF ?pX ?pN ?pT ?pd ?pu ?pH ?_; (case pF => k_asm); (case pX => k_asm); (case pN => k_asm); (case pT => k_asm); (case pd => ktr_room); (case pu => ktr_units); (case pH => exact trivial)); intro r' tl' h' tk' hr' F' N' nt' pk'; (try dsimp only at hr'); obtain ⟨T', t1', t2', er', et'⟩ := hr'; subst er' et'; (try simp only [List.nil_append, List.cons_append] at N'); (try simp only [List.forall_mem_cons, List.not_mem_nil, false_implies, implies_true, and_true] at nt'); (try replace nt' := Mine.natNe nt'); (try dsimp only); (try k_fold)))
local macro_rules | `(tactic| walk_at "exec While") => `(tactic| (k_here; refine Mine.Halt.out ?_))
local macro_rules | `(tactic| walk_at "subscriptTail") => `(tactic| (k_here; (with_reducible show wpAny _ _ (subscriptTail _ (Expr.Slice _ _ none _) (Value.bytes _ _) (Value.ref _)) _ _ _); (with_reducible rename Fr _ _ _ _ => F'); (with_reducible rename News _ _ _ _ => N'); (refine Mine.slice_byte (s := ⟨_, _, _, _, _⟩) F' N' (by first | assumption | omega) (by first | assumption | omega) (by omega) ?_); intro h' t' k' F' N'; (try dsimp only)))

theorem catB_snoc (ys : List (Array UInt8)) (y : Array UInt8) : (catB (ys ++ [y])).toList = (catB ys).toList ++ y.toList := by simp [catB]

set_option maxRecDepth 100000 in
set_option maxHeartbeats 8000000 in
theorem c_rows_of : ∀ (w : World) (loose : List Str) (mean : ExcName → Option Value) (mg mb : Str → Option Value) (b : Array UInt8) (tb : Tok), b.size ≤ 500000 →
    PureO Challenge.rw_nz0271_01.row.prog w (hd.heap_39 w.params) hd.view_39 loose mean mg mb 80 [.bytes b tb] (fun _ => True)
      (fun r tl => ∃ D vs ys n, r = .ref D ∧ tl = [(D, listOf vs.toArray n)] ∧ BytesAre vs ys ∧ (catB ys).toList = unf b.toList) 3 24 := by
  w_top off
  k_fill
  unfold PureO
  intro w loose mean mg mb b tb hsz dp un fr gd s Q E hd hu X T hH hret
  refine wpAny_call ?_
  k_dflt walk_at "p_enter"
  k_steps
  constructor
  refine While_inv2 (fun n m nx => ∃ (i : Nat) (ti : Tok) (D : Addr) (cnt : Nat) (vs : List Value) (ys : List (Array UInt8)), (∀ p ∈ [(Str.ofString "raw", Value.bytes b tb), (Str.ofString "rows", Value.ref D), (Str.ofString "at", Value.int (i : Int) ti)], m p.1 = some p.2) ∧
      nx = [(D, listOf vs.toArray cnt)] ∧ BytesAre vs ys ∧ i ≤ b.size ∧ vs.length ≤ i ∧ (catB ys).toList ++ unf (b.toList.drop i) = unf b.toList ∧ n = b.size - i) (n₀ := b.size) (by k_asm) (by k_asm) ?_ ?_
  · with_unfolding_all exact ⟨0, _, _, 0, [], [], List.forall_mem_cons.mpr ⟨rfl, List.forall_mem_cons.mpr ⟨rfl, List.forall_mem_cons.mpr ⟨rfl, List.forall_mem_nil _⟩⟩⟩, rfl, .nil, Nat.zero_le _, Nat.le_refl _, rfl, rfl⟩
  · rintro n m₁ nx h₁ tk₁ F₁ N₁ ⟨i, ti, D, cnt, vs, ys, hm, rfl, hb, hi, hv, hu, rfl⟩
    have F' := fr_canon hm F₁
    dsimp only [kstB] at F'
    clear F₁
    obtain ⟨hl1, hl2, hl3, hl4⟩ := line_spec hi
    k_steps
    · have e1 : (lineEnds b i).1 = b.size := by omega
      have e2 := hl3 e1
      cell_end "p_endO" hret (List.Mem.tail _ (List.Mem.head _))
      exact ⟨_, _, _, _, rfl, rfl, hb.snoc, by rw [catB_snoc, ← e2, hu]⟩
    · have e1 : (lineEnds b i).1 ≠ b.size := by omega
      obtain ⟨e2, e3, e4⟩ := hl4 e1
      (with_reducible rename Fr _ _ _ _ => F9)
      (with_reducible rename News _ _ _ _ => N9)
      with_unfolding_all exact ⟨_, _, _, _, _, rfl, F9, fun p hp => N9 p (.tail _ hp), Nat.sub_lt_sub_left (Nat.lt_of_lt_of_le e2 e3) e2, (lineEnds b i).2, _, D, cnt + 1, _, _, List.forall_mem_cons.mpr ⟨rfl, List.forall_mem_cons.mpr ⟨rfl, List.forall_mem_cons.mpr ⟨rfl, List.forall_mem_nil _⟩⟩⟩, rfl, hb.snoc, e3, by
        rw [List.length_append]; exact Nat.le_trans (Nat.add_le_add_right hv 1) e2, by rw [catB_snoc, List.append_assoc, ← e4, hu], rfl⟩
end Mine
end
section
open PySem PySem.W PySem.Calls PyProof.Rows
local macro_rules | `(tactic| walk_at "p_enter") => `(tactic| (refine' Mine.pure_enter ?k3 ?k5 ?k6 ?k7 ?k8 ?k9 ?kB ?_ ?c2 ?c3 ?c4 ?c5; (case k3 => k_asm); (case k5 => k_asm); (case k6 => k_is); (case k7 => k_is); (case k8 => ktr_room); (case k9 => exact BindsTo.of_eq rfl); (case c5 => decide); (case kB => exact locs rfl); (case c2 => exact rfl); (case c3 => exact rfl); (case c4 => exact rfl); k_whole; intro L' h' F' N'; (try dsimp only); (try k_fold)))
local macro_rules | `(tactic| cell_end "p_end" $h:term $_:term) => `(tactic| (refine' $h _ _ _ ?pe2; (case pe2 => exact Fr.keep (by k_asm))))
local macro_rules | `(tactic| cell_end "p_endO" $h:term $m:term) => `(tactic| (refine' $h _ [(_, _)] _ _ ?pe1 ?pe2 ?pe3; (case pe2 => exact Fr.keep (by k_asm)); (case pe3 => exact Mine.tl_one (by k_asm) $m)))
local macro_rules | `(tactic| walk_at "call builtin:list.append") => `(tactic| (k_here; (with_reducible show wpAny _ _ (call (Value.builtin _) [Value.ref _, _]) _ _ _); k_dflt (refine' append_K ?k1 ?k2 ?k3 ?_ ?z; (case k1 => k_asm); (case k2 => k_asm); (case k3 => k_upd); (case z => first | size_fits | (rw [PySem.sizeLine_eq]; (try simp only [List.size_toArray]); omega)); k_whole); intro h' F' N'; (try k_sweep)))
namespace Mine
/-- octets unfolded, without white at both ends -/
def unfB (b : Array UInt8) : Array UInt8 := stripB (unf b.toList).toArray #[32, 9]
theorem unf_len : ∀ l : List UInt8, (unf l).length ≤ l.length
  | [] => Nat.le_refl _
  | c :: r => by
    have ih := unf_len r
    rw [unf]
    split
    · simp only [List.length_cons]; omega
    · split
      · simp only [List.length_cons]; omega
      · simp only [List.length_cons]; omega
theorem unfB_size (b : Array UInt8) : (unfB b).size ≤ b.size := by
  refine Nat.le_trans strip_size ?_
  rw [List.size_toArray]; exact Nat.le_trans (unf_len _) (by simp)
theorem catB_eq {ys : List (Array UInt8)} {b : Array UInt8} (h : (catB ys).toList = unf b.toList) : catB ys = (unf b.toList).toArray := by
  rw [← h, Array.toArray_toList]
theorem unf_le {b : Array UInt8} (h : b.size ≤ 500000) : (unf b.toList).toArray.size ≤ 500000 := by
  rw [List.size_toArray]; exact Nat.le_trans (unf_len _) (by simpa using h)
local macro_rules | `(tactic| walk_at "call ref") => `(tactic| (k_here; (try dsimp only [List.nil_append, List.cons_append]); (with_reducible show wpAny _ _ (call (Value.ref 80) [Value.bytes _ _]) _ _ _); k_dflt (refine' Mine.pure_useO (c_rows_of _ _ _ _ _ _ _ (by assumption)) ?pF ?pX ?pN ?pT ?pd ?pu ?pH ?_; (case pF => k_asm); (case pX => k_asm); (case pN => k_asm); (case pT => k_asm); (case pd => ktr_room); (case pu => ktr_units); (case pH => exact trivial)); intro r' tl' h' tk' hr' F' N' nt' pk'; (try dsimp only at hr'); obtain ⟨D', vs', ys', n', er', et', hb', hc'⟩ := hr'; subst er' et'; have hc9 := Mine.catB_eq hc'; have hz9 := Mine.unf_le (b := _) (by assumption); rw [← hc9] at hz9; (try simp only [List.nil_append, List.cons_append] at N'); (try simp only [List.forall_mem_cons, List.not_mem_nil, false_implies, implies_true, and_true] at nt'); (try replace nt' := Mine.natNe nt'); (try dsimp only); (try k_fold)))
local macro_rules | `(tactic| walk_at "getMethod bytes") => `(tactic| (k_here; (first | with_reducible refine Mine.method_join ?_ | with_reducible refine Mine.method_strip ?_)))
local macro_rules | `(tactic| walk_at "call builtin:bytes.join") => `(tactic| (k_here; (with_reducible rename BytesAre _ _ => hb9); (refine Mine.call_join (News.get (by k_asm) (by k_mem)) hb9 ?hz ?_; (case hz => first | assumption | omega)); intro t' k'; (with_reducible rename (catB _ = _) => hc8); rw [hc8]; rw [hc8] at *))
local macro_rules | `(tactic| walk_at "call builtin:bytes.strip") => `(tactic| (k_here; (refine Mine.call_strip ?hz ?_; (case hz => first | assumption | omega)); intro t' k'))
set_option maxRecDepth 100000 in
set_option maxHeartbeats 8000000 in
theorem c_unfolded : ∀ (w : World) (loose : List Str) (mean : ExcName → Option Value) (mg mb : Str → Option Value) (b : Array UInt8) (tb : Tok), b.size ≤ 500000 →
    PureV Challenge.rw_nz0271_01.row.prog w (hd.heap_39 w.params) hd.view_39 loose mean mg mb 87 [.bytes b tb] (fun _ => True) (fun t => .bytes (unfB b) t) 4 32 := by
  w_top off
  k_fill
  unfold PureV
  intro w loose mean mg mb b tb hsz dp un fr gd s Q E hd hu X T hH hret
  refine wpAny_call ?_
  k_dflt walk_at "p_enter"
  k_steps
  cell_end "p_end" hret 0
end Mine
end
section
open PySem PySem.W PySem.Calls PyProof.Rows
local macro_rules | `(tactic| walk_at "p_enter") => `(tactic| (refine' Mine.pure_enter ?k3 ?k5 ?k6 ?k7 ?k8 ?k9 ?kB ?_ ?c2 ?c3 ?c4 ?c5; (case k3 => k_asm); (case k5 => k_asm); (case k6 => k_is); (case k7 => k_is); (case k8 => ktr_room); (case k9 => exact BindsTo.of_eq rfl); (case c5 => decide); (case kB => exact locs rfl); (case c2 => exact rfl); (case c3 => exact rfl); (case c4 => exact rfl); k_whole; intro L' h' F' N'; (try dsimp only); (try k_fold)))
local macro_rules | `(tactic| cell_end "p_end" $h:term $_:term) => `(tactic| (refine' $h _ _ _ ?pe2; (case pe2 => exact Fr.keep (by k_asm))))
local macro_rules | `(tactic| cell_end "p_endO" $h:term $m:term) => `(tactic| (refine' $h _ [(_, _)] _ _ ?pe1 ?pe2 ?pe3; (case pe2 => exact Fr.keep (by k_asm)); (case pe3 => exact Mine.tl_one (by k_asm) $m)))
local macro_rules | `(tactic| walk_at "call builtin:list.append") => `(tactic| (k_here; (with_reducible show wpAny _ _ (call (Value.builtin _) [Value.ref _, _]) _ _ _); k_dflt (refine' append_K ?k1 ?k2 ?k3 ?_ ?z; (case k1 => k_asm); (case k2 => k_asm); (case k3 => k_upd); (case z => first | size_fits | (rw [PySem.sizeLine_eq]; (try simp only [List.size_toArray]); omega)); k_whole); intro h' F' N'; (try k_sweep)))
namespace Mine
/-- the first unfolded octets of a name -/
def firstBody (recs : List (Array UInt8 × Array UInt8)) (W : Str) : Option (Array UInt8) := (recs.find? fun r => lowS (bytesS r.1) == W).map fun r => unfB r.2
def optV (o : Option (Array UInt8)) (t : Tok) : Value := match o with
  | some b => .bytes b t
  | none => .none
def FieldsAre (w : World) (xs : List Value) (recs : List (Array UInt8 × Array UInt8)) (h : Heap) : Prop :=
  xs.length = recs.length ∧ ∀ (i : Nat) (r : Array UInt8 × Array UInt8), recs[i]? = some r → ∃ x, xs[i]? = some (Value.ref x) ∧ FieldAt w x r.1 r.2 h
def FieldList (w : World) (fa : Addr) (recs : List (Array UInt8 × Array UInt8)) (h : Heap) : Prop :=
  ∃ xs n, h.get? fa = some (listOf xs.toArray n) ∧ FieldsAre w xs recs h
theorem FieldList.keeps {w : World} {fa : Addr} {recs : List (Array UInt8 × Array UInt8)} {h h' : Heap} (F : FieldList w fa recs h) (k : ∀ b o, h.get? b = some o → h'.get? b = some o) : FieldList w fa recs h' := by
  obtain ⟨xs, n, a, b, c⟩ := F
  exact ⟨xs, n, k _ _ a, b, fun i r hr => by obtain ⟨x, e, f⟩ := c i r hr; exact ⟨x, e, f.keeps k⟩⟩
theorem firstBody_hit {recs : List (Array UInt8 × Array UInt8)} {W : Str} {i : Nat} {r : Array UInt8 × Array UInt8} (hi : recs[i]? = some r) (h : lowS (bytesS r.1) = W) (hb : ∀ (j : Nat) (r' : Array UInt8 × Array UInt8), j < i → recs[j]? = some r' → lowS (bytesS r'.1) ≠ W) : firstBody recs W = some (unfB r.2) := by
  unfold firstBody
  have e : recs.find? (fun r => lowS (bytesS r.1) == W) = some r := by
    obtain ⟨hlt, he⟩ := List.getElem?_eq_some_iff.mp hi
    rw [List.find?_eq_some_iff_getElem]
    refine ⟨by simpa using h, i, hlt, he, fun j hj => ?_⟩
    have := hb j recs[j] hj (List.getElem?_eq_getElem _)
    simpa using this
  rw [e]; rfl
theorem firstBody_miss {recs : List (Array UInt8 × Array UInt8)} {W : Str} (hb : ∀ (j : Nat) (r' : Array UInt8 × Array UInt8), recs[j]? = some r' → lowS (bytesS r'.1) ≠ W) : firstBody recs W = none := by
  unfold firstBody
  have e : recs.find? (fun r => lowS (bytesS r.1) == W) = none := by
    rw [List.find?_eq_none]
    intro r hr
    obtain ⟨j, hj, e⟩ := List.mem_iff_getElem.mp hr
    have := hb j r (by rw [List.getElem?_eq_getElem hj, e])
    simpa using this
  rw [e]; rfl

local macro_rules | `(tactic| walk_at "call ref") => `(tactic| (k_here; (try dsimp only [List.nil_append, List.cons_append]); (with_reducible show wpAny _ _ (call (Value.ref 33) [Value.str _ _]) _ _ _); k_dflt (refine' Mine.pure_use (c_lower_text _ _ _ _ _ _ _ (by assumption) (by assumption)) ?pF ?pX ?pN ?pT ?pd ?pu ?pH ?_; (case pF => k_asm); (case pX => k_asm); (case pN => k_asm); (case pT => k_asm); (case pd => ktr_room); (case pu => ktr_units); (case pH => exact trivial)); intro t' h' tk' F' N' pk'; (try dsimp only); (try k_fold)))
local macro_rules | `(tactic| walk_at "call ref") => `(tactic| (k_here; (try dsimp only [List.nil_append, List.cons_append]); (with_reducible show wpAny _ _ (call (Value.ref 52) [Value.ref _]) _ _ _); k_dflt (refine' Mine.pure_use (c_word _ _ _ _ _ _ _ _ ?pz) ?pF ?pX ?pN ?pT ?pd ?pu ?pH ?_; (case pF => k_asm); (case pX => k_asm); (case pN => k_asm); (case pT => k_asm); (case pd => ktr_room); (case pu => ktr_units); (case pH => exact FieldAt.keeps (by assumption) (Fr.keep (by k_asm))); (case pz => assumption)); intro t' h' tk' F' N' pk'; (try dsimp only); (try k_fold)))
local macro_rules | `(tactic| walk_at "call ref") => `(tactic| (k_here; (try dsimp only [List.nil_append, List.cons_append]); (with_reducible show wpAny _ _ (call (Value.ref 87) [Value.bytes _ _]) _ _ _); k_dflt (refine' Mine.pure_use (c_unfolded _ _ _ _ _ _ _ (by assumption)) ?pF ?pX ?pN ?pT ?pd ?pu ?pH ?_; (case pF => k_asm); (case pX => k_asm); (case pN => k_asm); (case pT => k_asm); (case pd => ktr_room); (case pu => ktr_units); (case pH => exact trivial)); intro t' h' tk' F' N' pk'; (try dsimp only); (try k_fold)))
local macro_rules | `(tactic| k_inst) => `(tactic| (refine' Mine.InstIn.at ?iI ?ik; (case iI => with_reducible assumption); (case ik => exact Fr.keep (by k_asm))))
local macro_rules | `(tactic| walk_at "exec For Name Name cons nil") => `(tactic| (k_here; (rename Fr _ _ _ _ => lF'); (with_unfolding_all refine' For_invVF lF' ?k1 ?k2 ?_; (case k1 => exact rfl); (case k2 => exact rfl); k_whole)))
local macro_rules | `(tactic| walk_at "pyIter ref") => `(tactic| ((with_reducible show wpAny _ _ (pyIter (Value.ref _)) (fun it s₂ => LoopAtV _ _ _ _ _ _ _ _ _ it s₂) _ _); refine Mine.Halt.out ?_))
set_option maxRecDepth 100000 in
set_option maxHeartbeats 8000000 in
theorem c_first_body : ∀ (w : World) (loose : List Str) (mean : ExcName → Option Value) (mg mb : Str → Option Value) (fa : Addr) (recs : List (Array UInt8 × Array UInt8)) (W : Str) (tw : Tok), W.cps.size ≤ 500000 → (∀ c ∈ W.cps.toList, c ≤ 1114111) →
    (∀ r ∈ recs, r.1.size ≤ 500000 ∧ r.2.size ≤ 500000) →
    PureV Challenge.rw_nz0271_01.row.prog w (hd.heap_39 w.params) hd.view_39 loose mean mg mb 94 [.ref fa, .str W tw] (FieldList w fa recs) (optV (firstBody recs (lowS W))) 5 40 := by
  w_top off
  k_fill
  unfold PureV
  intro w loose mean mg mb fa recs W tw hW hWc hrecs dp un fr gd s Q E hd hu X T hH hret
  obtain ⟨xs, n, hfa, hlen, hf⟩ := hH
  refine wpAny_call ?_
  k_dflt walk_at "p_enter"
  k_steps
  constructor
  refine iter_any (l := fa) (vs := xs) (fun i m nx => nx = [] ∧ (∃ tW, ∀ p ∈ [(Str.ofString "wanted", Value.str (lowS W) tW)], m p.1 = some p.2) ∧ ∀ (j : Nat) (r' : Array UInt8 × Array UInt8), j < i → recs[j]? = some r' → lowS (bytesS r'.1) ≠ lowS W) rfl ⟨_, hfa, rfl, _, rfl⟩ (by k_asm) (by k_asm) ?_ ?_ ?_
  · exact ⟨rfl, ⟨_, List.forall_mem_cons.mpr ⟨rfl, List.forall_mem_nil _⟩⟩, fun j r' h => absurd h (Nat.not_lt_zero _)⟩
  · rintro i v m₁ nx h₁ tk₁ own hv hoff ⟨rfl, ⟨tW, hm⟩, hno⟩ F₁ N₁
    have hilt : i < recs.length := by rw [← hlen]; exact (List.getElem?_eq_some_iff.mp hv).1
    obtain ⟨x, hx, hF⟩ := hf i recs[i] (List.getElem?_eq_getElem hilt)
    rw [hv] at hx
    obtain rfl := Option.some.inj hx
    obtain ⟨d, t1, t2, t3, t4, n1, hI⟩ := hF.inst
    obtain ⟨hs1, hs2⟩ := hrecs recs[i] (List.getElem_mem _)
    rw [canon hm] at F₁
    dsimp only [kstB] at F₁
    k_steps
    · (with_reducible rename (_ == _) = true => a9)
      rw [firstBody_hit (List.getElem?_eq_getElem hilt) (eq_of_beq a9) hno] at hret
      exact hret _ _ _ (Fr.keep (by k_asm))
    · (with_reducible rename Fr _ _ _ _ => F9)
      (with_reducible rename News _ _ _ _ => N9)
      have a9 : lowS (bytesS recs[i].fst) ≠ lowS W := by
        intro e
        simp_all
      refine ⟨_, _, _, _, [], rfl, F9, N9, ?_, ?_, hoff, rfl, ⟨tW, ?_⟩, ?_⟩
      · intro p hp; cases hp
      · intro p hp; simpa using hp
      · with_unfolding_all exact List.forall_mem_cons.mpr ⟨rfl, List.forall_mem_nil _⟩
      · intro j r' hj hr
        rcases Nat.lt_or_ge j i with h | h
        · exact hno j r' h hr
        · obtain rfl : j = i := by omega
          rw [List.getElem?_eq_getElem hilt] at hr
          cases hr
          exact a9
  · rintro m₁ nx h₁ tk₁ ⟨rfl, ⟨tW, hm⟩, hno⟩ F₁ N₁
    have e : firstBody recs (lowS W) = none := firstBody_miss fun j r' hj => hno j r' (by rw [hlen]; exact (List.getElem?_eq_some_iff.mp hj).1) hj
    rw [e] at hret
    k_steps
    refine' hret 0 _ _ ?pe2
    case pe2 => exact F₁.keep
end Mine
end
section
open PySem PySem.W PySem.Calls PyProof.Rows
local macro_rules | `(tactic| walk_at "p_enter") => `(tactic| (refine' Mine.pure_enter ?k3 ?k5 ?k6 ?k7 ?k8 ?k9 ?kB ?_ ?c2 ?c3 ?c4 ?c5; (case k3 => k_asm); (case k5 => k_asm); (case k6 => k_is); (case k7 => k_is); (case k8 => ktr_room); (case k9 => exact BindsTo.of_eq rfl); (case c5 => decide); (case kB => exact locs rfl); (case c2 => exact rfl); (case c3 => exact rfl); (case c4 => exact rfl); k_whole; intro L' h' F' N'; (try dsimp only); (try k_fold)))
local macro_rules | `(tactic| cell_end "p_end" $h:term $_:term) => `(tactic| (refine' $h _ _ _ ?pe2; (case pe2 => exact Fr.keep (by k_asm))))
local macro_rules | `(tactic| cell_end "p_endO" $h:term $m:term) => `(tactic| (refine' $h _ [(_, _)] _ _ ?pe1 ?pe2 ?pe3; (case pe2 => exact Fr.keep (by k_asm)); (case pe3 => exact Mine.tl_one (by k_asm) $m)))
local macro_rules | `(tactic| walk_at "call builtin:list.append") => `(tactic| (k_here; (with_reducible show wpAny _ _ (call (Value.builtin _) [Value.ref _, _]) _ _ _); k_dflt (refine' append_K ?k1 ?k2 ?k3 ?_ ?z; (case k1 => k_asm); (case k2 => k_asm); (case k3 => k_upd); (case z => first | size_fits | (rw [PySem.sizeLine_eq]; (try simp only [List.size_toArray]); omega)); k_whole); intro h' F' N'; (try k_sweep)))
namespace Mine
abbrev wordEnds : Array UInt8 := #[32, 9, 40, 59]
/-- the octets up to the first that ends a word -/
def takeWord (b : Array UInt8) : List UInt8 := b.toList.takeWhile fun c => !wordEnds.contains c
abbrev cteS : Str := Str.ofString "content-transfer-encoding"
/-- what encoding_of tells -/
def encOf (recs : List (Array UInt8 × Array UInt8)) : Str := match firstBody recs (lowS cteS) with
  | none => Str.ofString "7bit"
  | some b => if lowS (bytesS (takeWord b).toArray) = Str.ofString "" then Str.ofString "7bit" else lowS (bytesS (takeWord b).toArray)
theorem takeWord_eq {b : Array UInt8} {i : Nat} (hi : i ≤ b.size) (hno : ∀ j (hj : j < b.size), j < i → wordEnds.contains b[j] = false) (hend : ∀ hi : i < b.size, wordEnds.contains b[i] = true) : takeWord b = b.toList.take i := by
  unfold takeWord
  have e : b.toList = b.toList.take i ++ b.toList.drop i := (List.take_append_drop i _).symm
  have h1 : ∀ c ∈ b.toList.take i, (fun c => !wordEnds.contains c) c = true := by
    intro c hc
    obtain ⟨j, hj, rfl⟩ := List.mem_iff_getElem.mp hc
    have hj' : j < i ∧ j < b.size := by simp only [List.length_take, Array.length_toList] at hj; omega
    rw [List.getElem_take, Array.getElem_toList]
    simp only [hno j hj'.2 hj'.1, Bool.not_false]
  conv => lhs; rw [e]
  rw [List.takeWhile_append_of_pos h1]
  rcases Nat.lt_or_ge i b.size with h | h
  · rw [List.drop_eq_getElem_cons (by simpa using h), List.takeWhile_cons_of_neg (by rw [Array.getElem_toList, hend h]; decide), List.append_nil]
  · rw [List.drop_eq_nil_of_le (by simpa using h)]; simp
theorem c_fb_some {prog : Program} {w : World} {K : Frag} {p : Program} {loose : List Str} {mean : ExcName → Option Value} {mg mb : Str → Option Value} {f : Addr} {vs : List Value} {H : Heap → Prop} {dd uu : Nat} {o : Option (Array UInt8)} {b : Array UInt8}
    (C : PureV prog w K p loose mean mg mb f vs H (optV o) dd uu) (e : o = some b) : PureV prog w K p loose mean mg mb f vs H (fun t => .bytes b t) dd uu := by subst e; exact C
theorem c_fb_none {prog : Program} {w : World} {K : Frag} {p : Program} {loose : List Str} {mean : ExcName → Option Value} {mg mb : Str → Option Value} {f : Addr} {vs : List Value} {H : Heap → Prop} {dd uu : Nat} {o : Option (Array UInt8)}
    (C : PureV prog w K p loose mean mg mb f vs H (optV o) dd uu) (e : o = none) : PureV prog w K p loose mean mg mb f vs H (fun _ => .none) dd uu := by subst e; exact C
theorem cte_size : cteS.cps.size ≤ 500000 := by decide +kernel
theorem cte_le : ∀ c ∈ cteS.cps.toList, c ≤ 1114111 := by decide +kernel
local macro_rules | `(tactic| walk_at "call ref") => `(tactic| (k_here; (try dsimp only [List.nil_append, List.cons_append]); (with_reducible show wpAny _ _ (call (Value.ref 94) [Value.ref _, Value.str _ _]) _ _ _); k_dflt (refine' Mine.pure_use (c_fb_none (c_first_body _ _ _ _ _ _ _ _ _ cte_size cte_le (by assumption)) (by with_reducible assumption)) ?pF ?pX ?pN ?pT ?pd ?pu ?pH ?_; (case pF => k_asm); (case pX => k_asm); (case pN => k_asm); (case pT => k_asm); (case pd => ktr_room); (case pu => ktr_units); (case pH => exact FieldList.keeps (by assumption) (Fr.keep (by k_asm)))); intro t' h' tk' F' N' pk'; (try dsimp only); (try k_fold)))
local macro_rules | `(tactic| walk_at "call ref") => `(tactic| (k_here; (try dsimp only [List.nil_append, List.cons_append]); (with_reducible show wpAny _ _ (call (Value.ref 94) [Value.ref _, Value.str _ _]) _ _ _); k_dflt (refine' Mine.pure_use (c_fb_some (c_first_body _ _ _ _ _ _ _ _ _ cte_size cte_le (by assumption)) (by with_reducible assumption)) ?pF ?pX ?pN ?pT ?pd ?pu ?pH ?_; (case pF => k_asm); (case pX => k_asm); (case pN => k_asm); (case pT => k_asm); (case pd => ktr_room); (case pu => ktr_units); (case pH => exact FieldList.keeps (by assumption) (Fr.keep (by k_asm)))); intro t' h' tk' F' N' pk'; (try dsimp only); (try k_fold)))
local macro_rules | `(tactic| walk_at "call ref") => `(tactic| (k_here; (try dsimp only [List.nil_append, List.cons_append]); (with_reducible show wpAny _ _ (call (Value.ref 33) [Value.str _ _]) _ _ _); k_dflt (refine' Mine.pure_use (c_lower_text _ _ _ _ _ _ _ (by first | assumption | (rw [bytesS_size]; assumption)) (by first | assumption | exact bytesS_le _)) ?pF ?pX ?pN ?pT ?pd ?pu ?pH ?_; (case pF => k_asm); (case pX => k_asm); (case pN => k_asm); (case pT => k_asm); (case pd => ktr_room); (case pu => ktr_units); (case pH => exact trivial)); intro t' h' tk' F' N' pk'; (try dsimp only); (try k_fold)))
theorem fb_size {recs : List (Array UInt8 × Array UInt8)} {W : Str} {b : Array UInt8} (hr : ∀ r ∈ recs, r.1.size ≤ 500000 ∧ r.2.size ≤ 500000) (h : firstBody recs W = some b) : b.size ≤ 500000 := by
  unfold firstBody at h
  obtain ⟨r, hf, rfl⟩ := Option.map_eq_some_iff.mp h
  exact Nat.le_trans (unfB_size _) (hr r (List.mem_of_find?_eq_some hf)).2
local macro_rules | `(tactic| walk_at "subscriptTail") => `(tactic| (k_here; (with_reducible show wpAny _ _ (subscriptTail _ _ (Value.bytes _ _) (Value.int _ _)) _ _ _); (refine Mine.item_byte (by omega) (by omega) (by omega) ?_)))
local macro_rules | `(tactic| walk_at "subscriptTail") => `(tactic| (k_here; (with_reducible show wpAny _ _ (subscriptTail _ (Expr.Slice none _ none _) (Value.bytes _ _) (Value.ref _)) _ _ _); (with_reducible rename Fr _ _ _ _ => F'); (with_reducible rename News _ _ _ _ => N'); (refine Mine.slice_byte0 (s := ⟨_, _, _, _, _⟩) F' N' (by first | assumption | omega) (by omega) ?_); intro h' t' k' F' N'; (try dsimp only)))
local macro_rules | `(tactic| walk_at "compareOp NotIn int bytes") => `(tactic| (k_here; (refine Mine.notIn_byte (by omega) (by omega) ?_)))
local macro_rules | `(tactic| walk_at "eval ListComp") => `(tactic| (k_here; k_dflt (refine Mine.ListComp_V (F₀ := by k_asm) (by with_unfolding_all rfl) (by decide) (by rfl) (by decide) (by rfl) ?_)))
local macro_rules | `(tactic| walk_at "exec While BoolOp") => `(tactic| (k_here; refine Mine.Halt.out ?_))
set_option maxRecDepth 100000 in
set_option maxHeartbeats 8000000 in
theorem c_encoding_of : ∀ (w : World) (loose : List Str) (mean : ExcName → Option Value) (mg mb : Str → Option Value) (fa : Addr) (recs : List (Array UInt8 × Array UInt8)),
    (∀ r ∈ recs, r.1.size ≤ 500000 ∧ r.2.size ≤ 500000) →
    PureV Challenge.rw_nz0271_01.row.prog w (hd.heap_39 w.params) hd.view_39 loose mean mg mb 99 [.ref fa] (FieldList w fa recs) (fun t => .str (encOf recs) t) 6 48 := by
  w_top off
  k_fill
  unfold PureV
  intro w loose mean mg mb fa recs hrecs dp un fr gd s Q E hd hu X T hH hret
  rcases hfb : firstBody recs (lowS cteS) with _ | b
  · have e : encOf recs = Str.ofString "7bit" := by unfold encOf; rw [hfb]
    rw [e] at hret
    refine wpAny_call ?_
    k_dflt walk_at "p_enter"
    k_steps
    exact hret _ _ _ (Fr.keep (by k_asm))
  · have hbs := fb_size hrecs hfb
    refine wpAny_call ?_
    k_dflt walk_at "p_enter"
    k_steps
    constructor
    refine While_inv2 (fun n m nx => nx = [] ∧ ∃ (i : Nat) (ti tb : Tok), (∀ p ∈ [(Str.ofString "told_body", Value.bytes b tb), (Str.ofString "at", Value.int (i : Int) ti)], m p.1 = some p.2) ∧ i ≤ b.size ∧
      (∀ j (hj : j < b.size), j < i → wordEnds.contains b[j] = false) ∧ n = b.size - i) (n₀ := b.size) (by k_asm) (by k_asm) ?_ ?_
    · with_unfolding_all exact ⟨rfl, 0, _, _, List.forall_mem_cons.mpr ⟨rfl, List.forall_mem_cons.mpr ⟨rfl, List.forall_mem_nil _⟩⟩, Nat.zero_le _, fun j hj h => absurd h (Nat.not_lt_zero _), rfl⟩
    · rintro n m₁ nx h₁ tk₁ F₁ N₁ ⟨rfl, i, ti, tb, hm, hi, hno, rfl⟩
      rw [canon hm] at F₁
      dsimp only [kstB] at F₁
      have h256 : (b.getD (i : Int).toNat 0).toNat < 256 := UInt8.toNat_lt _
      have eby : ∀ h : i < b.size, ((b.getD (i : Int).toNat 0).toNat : Int).toNat.toUInt8 = b[i] := fun h => by simp [Array.getD, h]
      k_steps
      · have hw : takeWord b = b.toList.take i := takeWord_eq hi hno fun h => by rw [← eby h]; assumption
        have hws : (takeWord b).toArray.size ≤ 500000 := by rw [hw]; simp; omega
        have hwd : b.extract 0 i = (takeWord b).toArray := by rw [hw]; refine Array.toList_inj.mp ?_; simp
        rw [hwd]
        generalize hW : (takeWord b).toArray = W at *
        refine ⟨_, _, _, by k_asm, by k_asm, ?_, iter_bytes rfl, ?_⟩
        · rw [sizeLine_eq]; omega
        rintro s₂ ⟨g, rfl⟩
        have e9 : W.size = W.toList.length := by simp
        rw [e9]
        refine rest_strs W.toList (fun c => ⟨#[c.toNat]⟩) (fun c t => .int (c.toNat : Int) t) ?_ ?_ ?_
        · rintro i' v hi' ⟨c, u, hc, rfl⟩
          exact ⟨c, u, by simpa using hc, rfl⟩
        · intro c t I oI C oC D m₂ ys h tk E' hc hC hx F' N' ne
          have hc' := c.toNat_lt
          k_steps
          all_goals k_asm
        · intro ys hys
          unfold LCg.FinE
          intro D h tk F' N' o1
          k_steps
          refine join_listW (News.isList (by k_asm) (by k_mem)) (by simpa using hys) (by decide) ?_ ?_
          · rw [sum_ones, List.length_map]; omega
          intro t' k
          rw [glue_ones]
          have hb : (⟨(W.toList.map (·.toNat)).toArray⟩ : Str) = bytesS W := rfl
          rw [hb]
          by_cases hem : lowS (bytesS W) = Str.ofString ""
          · have eo : encOf recs = Str.ofString "7bit" := by unfold encOf; rw [hfb]; dsimp only; rw [hW]; exact if_pos hem
            rw [eo] at hret
            k_steps
            all_goals first
              | exact hret _ _ _ (Fr.keep (by k_asm))
              | exact absurd (eq_of_beq (by assumption)) hem
              | exact absurd (beq_iff_eq.mpr hem) (by assumption)
              | (exfalso; exact Bool.noConfusion ((beq_iff_eq.mpr hem).symm.trans (by assumption)))
          · have eo : encOf recs = lowS (bytesS W) := by unfold encOf; rw [hfb]; dsimp only; rw [hW]; exact if_neg hem
            rw [eo] at hret
            k_steps
            all_goals first
              | exact hret _ _ _ (Fr.keep (by k_asm))
              | exact absurd (eq_of_beq (by assumption)) hem
              | exact absurd (beq_iff_eq.mpr hem) (by assumption)
              | (exfalso; exact Bool.noConfusion ((beq_iff_eq.mpr hem).symm.trans (by assumption)))
      · (with_reducible rename Fr _ _ _ _ => F9)
        have hlt : i < b.size := by omega
        have hno' : ∀ j (hj : j < b.size), j < i + 1 → wordEnds.contains b[j] = false := fun j hj hji => by
          rcases Nat.lt_or_ge j i with h | h
          · exact hno j hj h
          · obtain rfl : j = i := by omega
            rw [← eby hlt]; simp_all
        with_unfolding_all exact ⟨_, _, _, _, _, rfl, F9, News.nil, Nat.sub_lt_sub_left hlt (Nat.lt_succ_self i), rfl, i + 1, _, _, List.forall_mem_cons.mpr ⟨rfl, List.forall_mem_cons.mpr ⟨rfl, List.forall_mem_nil _⟩⟩, hlt, hno', rfl⟩
      · have hw : takeWord b = b.toList.take i := takeWord_eq hi hno fun h => absurd h (by omega)
        have hws : (takeWord b).toArray.size ≤ 500000 := by rw [hw]; simp; omega
        have hwd : b.extract 0 i = (takeWord b).toArray := by rw [hw]; refine Array.toList_inj.mp ?_; simp
        rw [hwd]
        generalize hW : (takeWord b).toArray = W at *
        refine ⟨_, _, _, by k_asm, by k_asm, ?_, iter_bytes rfl, ?_⟩
        · rw [sizeLine_eq]; omega
        rintro s₂ ⟨g, rfl⟩
        have e9 : W.size = W.toList.length := by simp
        rw [e9]
        refine rest_strs W.toList (fun c => ⟨#[c.toNat]⟩) (fun c t => .int (c.toNat : Int) t) ?_ ?_ ?_
        · rintro i' v hi' ⟨c, u, hc, rfl⟩
          exact ⟨c, u, by simpa using hc, rfl⟩
        · intro c t I oI C oC D m₂ ys h tk E' hc hC hx F' N' ne
          have hc' := c.toNat_lt
          k_steps
          all_goals k_asm
        · intro ys hys
          unfold LCg.FinE
          intro D h tk F' N' o1
          k_steps
          refine join_listW (News.isList (by k_asm) (by k_mem)) (by simpa using hys) (by decide) ?_ ?_
          · rw [sum_ones, List.length_map]; omega
          intro t' k
          rw [glue_ones]
          have hb : (⟨(W.toList.map (·.toNat)).toArray⟩ : Str) = bytesS W := rfl
          rw [hb]
          by_cases hem : lowS (bytesS W) = Str.ofString ""
          · have eo : encOf recs = Str.ofString "7bit" := by unfold encOf; rw [hfb]; dsimp only; rw [hW]; exact if_pos hem
            rw [eo] at hret
            k_steps
            all_goals first
              | exact hret _ _ _ (Fr.keep (by k_asm))
              | exact absurd (eq_of_beq (by assumption)) hem
              | exact absurd (beq_iff_eq.mpr hem) (by assumption)
              | (exfalso; exact Bool.noConfusion ((beq_iff_eq.mpr hem).symm.trans (by assumption)))
          · have eo : encOf recs = lowS (bytesS W) := by unfold encOf; rw [hfb]; dsimp only; rw [hW]; exact if_neg hem
            rw [eo] at hret
            k_steps
            all_goals first
              | exact hret _ _ _ (Fr.keep (by k_asm))
              | exact absurd (eq_of_beq (by assumption)) hem
              | exact absurd (beq_iff_eq.mpr hem) (by assumption)
              | (exfalso; exact Bool.noConfusion ((beq_iff_eq.mpr hem).symm.trans (by assumption)))
end Mine
end
section
open PySem PySem.W PySem.Calls PyProof.Rows
local macro_rules | `(tactic| walk_at "p_enter") => `(tactic| (refine' Mine.pure_enter ?k3 ?k5 ?k6 ?k7 ?k8 ?k9 ?kB ?_ ?c2 ?c3 ?c4 ?c5; (case k3 => k_asm); (case k5 => k_asm); (case k6 => k_is); (case k7 => k_is); (case k8 => ktr_room); (case k9 => exact BindsTo.of_eq rfl); (case c5 => decide); (case kB => exact locs rfl); (case c2 => exact rfl); (case c3 => exact rfl); (case c4 => exact rfl); k_whole; intro L' h' F' N'; (try dsimp only); (try k_fold)))
local macro_rules | `(tactic| cell_end "p_end" $h:term $_:term) => `(tactic| (refine' $h _ _ _ ?pe2; (case pe2 => exact Fr.keep (by k_asm))))
local macro_rules | `(tactic| cell_end "p_endO" $h:term $m:term) => `(tactic| (refine' $h _ [(_, _)] _ _ ?pe1 ?pe2 ?pe3; (case pe2 => exact Fr.keep (by k_asm)); (case pe3 => exact Mine.tl_one (by k_asm) $m)))
local macro_rules | `(tactic| walk_at "call builtin:list.append") => `(tactic| (k_here; (with_reducible show wpAny _ _ (call (Value.builtin _) [Value.ref _, _]) _ _ _); k_dflt (refine' append_K ?k1 ?k2 ?k3 ?_ ?z; (case k1 => k_asm); (case k2 => k_asm); (case k3 => k_upd); (case z => first | size_fits | (rw [PySem.sizeLine_eq]; (try simp only [List.size_toArray]); omega)); k_whole); intro h' F' N'; (try k_sweep)))
namespace Mine
local macro_rules | `(tactic| walk_at "p_enter") => `(tactic| (refine' Mine.imp_enter ?k3 ?k5 ?kt ?k6 ?k7 ?k8 ?k9 ?kB ?_ ?c2 ?c3 ?c4 ?c5; (case k3 => k_asm); (case k5 => k_asm); (case kt => assumption); (case k6 => k_is); (case k7 => k_is); (case k8 => ktr_room); (case k9 => exact BindsTo.of_eq rfl); (case c5 => decide); (case kB => exact locs rfl); (case c2 => exact rfl); (case c3 => exact rfl); (case c4 => exact rfl); k_whole; intro L' h' F' N'; (try dsimp only); (try k_fold)))
set_option maxRecDepth 100000 in
set_option maxHeartbeats 8000000 in
theorem c_draw : ∀ (w : World) (loose : List Str) (mean : ExcName → Option Value) (mg mb : Str → Option Value) (lim : Int) (t c : Addr) (a : Int) (n : Nat) (cs : List Value) (ns : List Int), IntsAre cs ns → 0 < ns.length → ns.length ≤ 100 → 0 ≤ a → a ≤ 1000 → 0 < lim → lim ≤ 1000 →
    DrawC Challenge.rw_nz0271_01.row.prog w (hd.heap_39 w.params) hd.view_39 loose mean mg mb 108 lim t c a n cs := by
  w_top off
  k_fill
  unfold DrawC
  intro w loose mean mg mb lim t c a n cs ns hI hn0 hn1 ha0 ha1 hl0 hl1 dp un fr gd s ta tl Q E hd hu X T ht hc hret
  refine wpAny_call ?_
  k_dflt walk_at "p_enter"
  k_steps
  (with_reducible rename Fr _ _ _ _ => F9)
  (with_reducible rename News _ _ _ _ => N9)
  exact hret _ _ _ _ _ (Int.fmod_nonneg_of_pos _ hl0) (Int.fmod_lt_of_pos _ hl0) (N9 _ (.head _)).1 (fun b o hb e => F9.keep b o ((Heap.hide_ne _ hb).trans e))
end Mine
end
section
open PySem PySem.W PySem.Calls PyProof.Rows
local macro_rules | `(tactic| walk_at "p_enter") => `(tactic| (refine' Mine.pure_enter ?k3 ?k5 ?k6 ?k7 ?k8 ?k9 ?kB ?_ ?c2 ?c3 ?c4 ?c5; (case k3 => k_asm); (case k5 => k_asm); (case k6 => k_is); (case k7 => k_is); (case k8 => ktr_room); (case k9 => exact BindsTo.of_eq rfl); (case c5 => decide); (case kB => exact locs rfl); (case c2 => exact rfl); (case c3 => exact rfl); (case c4 => exact rfl); k_whole; intro L' h' F' N'; (try dsimp only); (try k_fold)))
local macro_rules | `(tactic| cell_end "p_end" $h:term $_:term) => `(tactic| (refine' $h _ _ _ ?pe2; (case pe2 => exact Fr.keep (by k_asm))))
local macro_rules | `(tactic| cell_end "p_endO" $h:term $m:term) => `(tactic| (refine' $h _ [(_, _)] _ _ ?pe1 ?pe2 ?pe3; (case pe2 => exact Fr.keep (by k_asm)); (case pe3 => exact Mine.tl_one (by k_asm) $m)))
local macro_rules | `(tactic| walk_at "call builtin:list.append") => `(tactic| (k_here; (with_reducible show wpAny _ _ (call (Value.builtin _) [Value.ref _, _]) _ _ _); k_dflt (refine' append_K ?k1 ?k2 ?k3 ?_ ?z; (case k1 => k_asm); (case k2 => k_asm); (case k3 => k_upd); (case z => first | size_fits | (rw [PySem.sizeLine_eq]; (try simp only [List.size_toArray]); omega)); k_whole); intro h' F' N'; (try k_sweep)))
namespace Mine
/-- every 13 stands right ahead of a 10 -/
def crOk : List UInt8 → Bool
  | [] => true
  | c :: r => (c != 13 || r.head? == some 10) && crOk r
theorem crOk_append : ∀ a b : List UInt8, crOk a = true → crOk b = true → crOk (a ++ b) = true
  | [], b, _, h => h
  | c :: r, b, ha, hb => by
    simp only [crOk, Bool.and_eq_true, Bool.or_eq_true] at ha
    simp only [List.cons_append, crOk, Bool.and_eq_true, Bool.or_eq_true]
    refine ⟨?_, crOk_append r b ha.2 hb⟩
    rcases ha.1 with h | h
    · exact .inl h
    · right
      cases r with
      | nil => simp at h
      | cons d r' => simpa using h
theorem catB_crOk {cs : List (Array UInt8)} (h : ∀ c ∈ cs, crOk c.toList = true) : crOk (catB cs).toList = true := by
  show crOk (cs.map (·.toList)).flatten = true
  induction cs with
  | nil => rfl
  | cons c r ih => rw [List.map_cons, List.flatten_cons]; exact crOk_append _ _ (h c (.head _)) (ih fun d hd => h d (.tail _ hd))
theorem catB_sizeLe {cs : List (Array UInt8)} {n : Nat} (h : ∀ c ∈ cs, c.size ≤ n) : (catB cs).size ≤ n * cs.length := by
  rw [catB_size]
  induction cs with
  | nil => exact Nat.zero_le _
  | cons c r ih =>
    rw [List.map_cons, List.sum_cons, List.length_cons, Nat.mul_add]
    have h1 := h c (.head _)
    have h2 := ih fun d hd => h d (.tail _ hd)
    omega
structure RecOk (r : Array UInt8 × Array UInt8) : Prop where
  nm : r.1.size ≤ 500000
  rw : r.2.size ≤ 500000
  cr : crOk r.2.toList = true
  key : lowS (bytesS r.1) = lowS cteS ↔ r.1.size = 25
def nameOkB : Value → Bool
  | .bytes b _ => decide (b.size ≤ 500000) && ((lowS (bytesS b) == lowS cteS) == (b.size == 25))
  | _ => false
theorem names_of {items : List Value} {v : Value} (hv : v ∈ items) (h : items.all nameOkB = true) : ∃ nm t, v = Value.bytes nm t ∧ nm.size ≤ 500000 ∧ (lowS (bytesS nm) = lowS cteS ↔ nm.size = 25) := by
  have := List.all_eq_true.mp h v hv
  cases v with
  | bytes b t =>
    simp only [nameOkB, Bool.and_eq_true, decide_eq_true_eq, beq_iff_eq] at this
    refine ⟨b, t, rfl, this.1, ?_⟩
    have h2 := this.2
    constructor
    · intro e
      rw [e] at h2
      simpa using h2
    · intro e
      rw [e] at h2
      simpa using h2
  | _ => cases this
def bitOkB : Value → Bool
  | .bytes b _ => decide (b.size ≤ 10) && crOk b.toList
  | _ => false
theorem bits_of {items : List Value} {v : Value} (hv : v ∈ items) (h : items.all bitOkB = true) : ∃ b t, v = Value.bytes b t ∧ (b.size ≤ 10 ∧ crOk b.toList = true) := by
  have := List.all_eq_true.mp h v hv
  cases v with
  | bytes b t =>
    simp only [bitOkB, Bool.and_eq_true, decide_eq_true_eq] at this
    exact ⟨b, t, rfl, this⟩
  | _ => cases this
/-- what the law keeps of raw octets -/
def plainOf (b : Array UInt8) : List UInt8 := b.toList.filter fun c => !(c == 10 || c == 13)
def isWhite (c : UInt8) : Bool := c == 9 || c == 32
def isEnd (c : UInt8) : Bool := c == 9 || c == 32 || c == 40 || c == 59
def wordOf (l : List UInt8) : Str := ⟨((l.takeWhile fun c => !isEnd c).map fun c => lowN c.toNat).toArray⟩
def dueWord (b : Array UInt8) : Str := if wordOf ((plainOf b).dropWhile isWhite) = Str.ofString "" then Str.ofString "7bit" else wordOf ((plainOf b).dropWhile isWhite)
def dueOf (recs : List (Array UInt8 × Array UInt8)) : Option Str := (recs.find? fun r => r.1.size == 25).map fun r => dueWord r.2
def DueIs (recs : List (Array UInt8 × Array UInt8)) (dv : Value) : Prop := (dueOf recs = none ∧ dv = .none) ∨ ∃ x t, dueOf recs = some x ∧ dv = .str x t
def LedFields (w : World) (TL : List (Addr × Obj)) (xs : List Value) (recs : List (Array UInt8 × Array UInt8)) : Prop :=
  xs.length = recs.length ∧ ∀ (j : Nat) (r : Array UInt8 × Array UInt8), recs[j]? = some r → ∃ x d t1 t2 t3 t4 n, xs[j]? = some (Value.ref x) ∧ (x, instObj 62 d) ∈ TL ∧ (d, dictOf (fieldEs w r.1 r.2 t1 t2 t3 t4) n) ∈ TL
theorem LedFields.snoc {w : World} {TL : List (Addr × Obj)} {xs : List Value} {recs : List (Array UInt8 × Array UInt8)} (h : LedFields w TL xs recs) {x d : Addr} {nm rw : Array UInt8} {t1 t2 t3 t4 : Tok} {n : Nat} :
    LedFields w ((x, instObj 62 d) :: (d, dictOf (fieldEs w nm rw t1 t2 t3 t4) n) :: TL) (xs ++ [Value.ref x]) (recs ++ [(nm, rw)]) := by
  obtain ⟨h1, h2⟩ := h
  refine ⟨by simp [h1], fun j r hr => ?_⟩
  rcases Nat.lt_or_ge j recs.length with hj | hj
  · rw [List.getElem?_append_left hj] at hr
    obtain ⟨x', d', a, b, c, e, n', e1, e2, e3⟩ := h2 j r hr
    exact ⟨x', d', a, b, c, e, n', by rw [List.getElem?_append_left (by omega)]; exact e1, .tail _ (.tail _ e2), .tail _ (.tail _ e3)⟩
  · rw [List.getElem?_append_right hj] at hr
    have hj' : j - recs.length = 0 := by
      rcases Nat.eq_zero_or_pos (j - recs.length) with h | h
      · exact h
      · rw [List.getElem?_eq_none (by simp; omega)] at hr; cases hr
    rw [hj'] at hr
    obtain rfl : (nm, rw) = r := Option.some.inj hr
    refine ⟨x, d, t1, t2, t3, t4, n, ?_, .head _, .tail _ (.head _)⟩
    rw [List.getElem?_append_right (by omega), h1, hj']; rfl
theorem dueOf_snoc (recs : List (Array UInt8 × Array UInt8)) (r : Array UInt8 × Array UInt8) : dueOf (recs ++ [r]) = (dueOf recs).or (if r.1.size = 25 then some (dueWord r.2) else none) := by
  unfold dueOf
  rw [List.find?_append]
  cases h : recs.find? fun r => r.1.size == 25 with
  | some q => rfl
  | none =>
    by_cases hr : r.1.size = 25
    · simp [hr]
    · simp [hr]

def LawJ (w : World) (FA TA CS CE : Addr) (oCE : Obj) (ws : List Value) (nw n0 : Nat) (i : Nat) (m : Str → Option Value) (nx : List (Addr × Obj)) : Prop :=
  ∃ (a : Int) (ta : Tok) (xs : List Value) (recs : List (Array UInt8 × Array UInt8)) (k : Nat) (dv : Value) (TL : List (Addr × Obj)),
    (∀ p ∈ [(Str.ofString "fields", Value.ref FA), (Str.ofString "due", dv)], m p.1 = some p.2) ∧
    nx = (FA, listOf xs.toArray k) :: (TA, tapeObj CS a ta n0) :: (CS, listOf ws.toArray nw) :: (CE, oCE) :: TL ∧
    OwnOff TL [FA, TA, CS, CE] ∧ LedFields w TL xs recs ∧ recs.length ≤ i ∧ 0 ≤ a ∧ a ≤ 1 + 7 * (i : Int) ∧ DueIs recs dv ∧ ∀ r ∈ recs, RecOk r

section
variable {prog : Program} {w : World} {A : Around} {E : Value → Shared → Prop} {s : Shared} {env : Env} {h₀ : Heap} {body : List Stmt} {Q : Flow → Shared → Prop}
theorem law_loop {FA TA CS CE r : Addr} {oCE : Obj} {ws : List Value} {nw n0 : Nat} {x : Str} {b₀ : Int} {t₀ u₀ v₀ : Tok} {m₀ : Str → Option Value} {ta : Tok} {a : Int} {k : Nat} {L : Addr} (hLe : env.locals = L)
    (hh : A.handled = none) (hr : IsRange s.heap r 0 b₀ 1 t₀ u₀ v₀) (hb0 : 0 ≤ b₀) (hb1 : b₀ ≤ 10)
    (F : Fr h₀ L s.heap m₀) (N : News h₀ L s.heap [(FA, listOf #[] k), (TA, tapeObj CS a ta n0), (CS, listOf ws.toArray nw), (CE, oCE)]) (ha : a = 1)
    (hm : ∀ p ∈ [(Str.ofString "fields", Value.ref FA), (Str.ofString "due", Value.none)], m₀ p.1 = some p.2)
    (turn : ∀ (i : Nat) v h tk own (a : Int) ta xs recs k dv TL W (u : Str → Option Value), i < 10 → (∃ t, v = .int (i : Int) t) → W = TL ++ own → TbOff own ((FA, listOf xs.toArray k) :: (TA, tapeObj CS a ta n0) :: (CS, listOf ws.toArray nw) :: (CE, oCE) :: TL) →
      OwnOff TL [FA, TA, CS, CE] → OwnOff W [FA, TA, CS, CE] → LedFields w TL xs recs → recs.length ≤ i → 0 ≤ a → a ≤ 1 + 7 * (i : Int) → DueIs recs dv → (∀ r ∈ recs, RecOk r) →
      Fr h₀ L h (fun y => if y = x then some v else kstB u [(Str.ofString "fields", Value.ref FA), (Str.ofString "due", dv)] y) →
      News h₀ L h ((FA, listOf xs.toArray k) :: (TA, tapeObj CS a ta n0) :: (CS, listOf ws.toArray nw) :: (CE, oCE) :: W) →
      wpAny (model prog w) A (execs body env) (TbPost h₀ L (LawJ w FA TA CS CE oCE ws nw n0 (i + 1)) own { s with heap := h, toks := tk } Q) E { s with heap := h, toks := tk })
    (done : ∀ m₁ h tk (a : Int) ta xs recs k dv TL, recs.length ≤ 10 → (∀ p ∈ [(Str.ofString "fields", Value.ref FA), (Str.ofString "due", dv)], m₁ p.1 = some p.2) → LedFields w TL xs recs → DueIs recs dv → (∀ r ∈ recs, RecOk r) →
      Fr h₀ L h m₁ → News h₀ L h ((FA, listOf xs.toArray k) :: (TA, tapeObj CS a ta n0) :: (CS, listOf ws.toArray nw) :: (CE, oCE) :: TL) → Q .next { s with heap := h, toks := tk }) :
    wpAny (model prog w) A (pyIter (.ref r)) (fun it s₂ => LoopAtV prog w A h₀ env x body Q E it s₂) E s := by
  subst hLe
  have init : LawJ w FA TA CS CE oCE ws nw n0 0 m₀ [(FA, listOf #[] k), (TA, tapeObj CS a ta n0), (CS, listOf ws.toArray nw), (CE, oCE)] := by
    refine ⟨a, ta, [], [], k, .none, [], hm, rfl, ?_, ⟨rfl, ?_⟩, Nat.le_refl _, by omega, by omega, Or.inl ⟨rfl, rfl⟩, ?_⟩
    · intro p hp; cases hp
    · intro j r h; cases h
    · intro r h; cases h
  have hn : Builtin.Range.rangeSize 0 b₀ 1 = (((b₀ - 0).toNat : Nat) : Int) := rangeSize_nat _ _
  have hn4 : (b₀ - 0).toNat ≤ 10 := by omega
  refine iter_rangeJ (LawJ w FA TA CS CE oCE ws nw n0) hh hr (small_one (by omega) (by omega) (by omega) (by omega)) hn F N init ?_ ?_
  · rintro i v m₁ nx h tk own hin ⟨t, rfl⟩ hoff ⟨a, ta, xs, recs, k, dv, TL, hp, rfl, ho, hf, hl, ha0, ha1, hd, hok⟩ F₁ N₁
    rw [canon hp] at F₁
    refine turn i _ h tk own a ta xs recs k dv TL (TL ++ own) m₁ (by omega) ⟨t, by rw [Int.zero_add]⟩ rfl hoff ho (fun p hp' b hb => ?_) hf hl ha0 ha1 hd hok F₁ N₁
    rcases List.mem_append.mp hp' with h1 | h1
    · exact ho p h1 b hb
    · intro e
      rcases List.mem_cons.mp hb with rfl | hb
      · exact hoff p h1 _ (.head _) e
      · rcases List.mem_cons.mp hb with rfl | hb
        · exact hoff p h1 _ (.tail _ (.head _)) e
        · rcases List.mem_cons.mp hb with rfl | hb
          · exact hoff p h1 _ (.tail _ (.tail _ (.head _))) e
          · rcases List.mem_cons.mp hb with rfl | hb
            · exact hoff p h1 _ (.tail _ (.tail _ (.tail _ (.head _)))) e
            · cases hb
  · rintro m₁ nx h tk ⟨a, ta, xs, recs, k, dv, TL, hp, rfl, ho, hf, hl, ha0, ha1, hd, hok⟩ F₁ N₁
    exact done m₁ h tk a ta xs recs k dv TL (Nat.le_trans hl hn4) hp hf hd hok F₁ N₁

/-- a turn's end -/
theorem law_end {L FA TA CS CE x d : Addr} {oCE : Obj} {ws xs : List Value} {nw n0 k k' i : Nat} {recs : List (Array UInt8 × Array UInt8)} {nm rw : Array UInt8} {dv : Value} {TL own W led : List (Addr × Obj)} {a a' : Int} {ta ta' t1 t2 t3 t4 : Tok} {n : Nat} {m' : Str → Option Value} {h' : Heap} {tk tk' : Nat} {h : Heap}
    (F : Fr h₀ L h' m') (N : News h₀ L h' led) (hW : W = TL ++ own)
    (hoff : TbOff own ((FA, listOf xs.toArray k) :: (TA, tapeObj CS a ta n0) :: (CS, listOf ws.toArray nw) :: (CE, oCE) :: TL)) (ho : OwnOff TL [FA, TA, CS, CE])
    (hx : ∀ p ∈ W, p.1 ≠ x) (hd : ∀ p ∈ W, p.1 ≠ d) (hx4 : ∀ b ∈ [FA, TA, CS, CE], x ≠ b) (hd4 : ∀ b ∈ [FA, TA, CS, CE], d ≠ b)
    (hsub : ∀ p ∈ (x, instObj 62 d) :: (d, dictOf (fieldEs w nm rw t1 t2 t3 t4) n) :: (FA, listOf (xs ++ [Value.ref x]).toArray k') :: (TA, tapeObj CS a' ta' n0) :: (CS, listOf ws.toArray nw) :: (CE, oCE) :: W, p ∈ led)
    (hf : LedFields w TL xs recs) (hl : recs.length ≤ i) (ha0 : 0 ≤ a') (ha1 : a' ≤ 1 + 7 * ((i : Int) + 1)) (hdue : DueIs (recs ++ [(nm, rw)]) dv) (hok : ∀ r ∈ recs, RecOk r) (hr : RecOk (nm, rw))
    (hp : ∀ p ∈ [(Str.ofString "fields", Value.ref FA), (Str.ofString "due", dv)], m' p.1 = some p.2) :
    TbEnd h₀ L (LawJ w FA TA CS CE oCE ws nw n0 (i + 1)) own { s with heap := h, toks := tk } { s with heap := h', toks := tk' } := by
  subst hW
  refine ⟨h', tk', m', led, _, rfl, F, N, ?_, fun p hp => hsub p (.tail _ (.tail _ (.tail _ (.tail _ (.tail _ (.tail _ (List.mem_append.mpr (.inr hp)))))))), ?_,
    a', ta', xs ++ [Value.ref x], recs ++ [(nm, rw)], k', dv, (x, instObj 62 d) :: (d, dictOf (fieldEs w nm rw t1 t2 t3 t4) n) :: TL, hp, rfl, ?_, hf.snoc, by simp; exact hl, ha0, by omega, hdue, ?_⟩
  · intro p hp
    have h4 : ∀ {q : Addr × Obj}, q ∈ TL → q ∈ led := fun h => hsub _ (.tail _ (.tail _ (.tail _ (.tail _ (.tail _ (.tail _ (List.mem_append.mpr (.inl h))))))))
    rcases List.mem_cons.mp hp with rfl | hp
    · exact hsub _ (.tail _ (.tail _ (.head _)))
    rcases List.mem_cons.mp hp with rfl | hp
    · exact hsub _ (.tail _ (.tail _ (.tail _ (.head _))))
    rcases List.mem_cons.mp hp with rfl | hp
    · exact hsub _ (.tail _ (.tail _ (.tail _ (.tail _ (.head _)))))
    rcases List.mem_cons.mp hp with rfl | hp
    · exact hsub _ (.tail _ (.tail _ (.tail _ (.tail _ (.tail _ (.head _))))))
    rcases List.mem_cons.mp hp with rfl | hp
    · exact hsub _ (.head _)
    rcases List.mem_cons.mp hp with rfl | hp
    · exact hsub _ (.tail _ (.head _))
    exact h4 hp
  · intro p hp q hq
    rcases List.mem_cons.mp hq with rfl | hq
    · exact hoff p hp (FA, listOf xs.toArray k) (.head _)
    rcases List.mem_cons.mp hq with rfl | hq
    · exact hoff p hp (TA, tapeObj CS a ta n0) (.tail _ (.head _))
    rcases List.mem_cons.mp hq with rfl | hq
    · exact hoff p hp _ (.tail _ (.tail _ (.head _)))
    rcases List.mem_cons.mp hq with rfl | hq
    · exact hoff p hp _ (.tail _ (.tail _ (.tail _ (.head _))))
    rcases List.mem_cons.mp hq with rfl | hq
    · exact hx p (List.mem_append.mpr (.inr hp))
    rcases List.mem_cons.mp hq with rfl | hq
    · exact hd p (List.mem_append.mpr (.inr hp))
    exact hoff p hp q (.tail _ (.tail _ (.tail _ (.tail _ hq))))
  · intro p hp b hb
    rcases List.mem_cons.mp hp with rfl | hp
    · exact hx4 b hb
    rcases List.mem_cons.mp hp with rfl | hp
    · exact hd4 b hb
    exact ho p hp b hb
  · intro r hr'
    rcases List.mem_append.mp hr' with h1 | h1
    · exact hok r h1
    · rw [List.mem_singleton.mp h1]; exact hr

def CellsPost (h₀ : Heap) (L : Addr) (m : Str → Option Value) (ce : Addr) (oce : Obj) (s : Shared) (v : Value) (s' : Shared) : Prop :=
  ∃ CS ws ns n h' tk', v = Value.ref CS ∧ s' = { s with heap := h', toks := tk' } ∧ Fr h₀ L h' m ∧ News h₀ L h' [(CS, listOf ws.toArray n), (ce, oce)] ∧ IntsAre ws ns ∧ 0 < ns.length ∧ ns.length ≤ 63 ∧ ce < CS
theorem cells_mono {t : Sem Value} {L : Addr} {m : Str → Option Value} {ce : Addr} {oce : Obj} {Q : Value → Shared → Prop} (_F : Fr h₀ L s.heap m) (_N : News h₀ L s.heap [(ce, oce)])
    (h1 : wpAny (model prog w) A t (CellsPost h₀ L m ce oce s) E s)
    (h2 : ∀ CS ws ns n h' tk', Fr h₀ L h' m → News h₀ L h' [(CS, listOf ws.toArray n), (ce, oce)] → IntsAre ws ns → 0 < ns.length → ns.length ≤ 63 → ce < CS → Q (.ref CS) { s with heap := h', toks := tk' }) : wpAny (model prog w) A t Q E s :=
  wpAny_mono h1 (fun v s' ⟨CS, ws, ns, n, h', tk', e1, e2, F, N, a, b, c, d⟩ => by subst e1 e2; exact h2 CS ws ns n h' tk' F N a b c d) fun _ _ x => x
end
end Mine
end
section
open PySem PySem.W PySem.Calls PyProof.Rows PySem.Spec
set_option maxRecDepth 100000
namespace Mine
section
variable {prog : Program} {w : World} {A : Around} {E : Value → Shared → Prop} {s : Shared} {h₀ : Heap} {L : Addr} {m : Str → Option Value}
abbrev natsOf (l : List UInt8) : List Int := l.map fun c => (c.toNat : Int)
def PlainPost (h₀ : Heap) (L : Addr) (base : List (Addr × Obj)) (FA : Addr) (l : List UInt8) (s : Shared) (f : Flow) (s' : Shared) : Prop :=
  f = .next ∧ ∃ h' tk' m' D ys n, s' = { s with heap := h', toks := tk' } ∧ Fr h₀ L h' m' ∧ News h₀ L h' ((D, listOf ys.toArray n) :: base) ∧ IntsAre ys (natsOf l) ∧
    ∀ p ∈ [(Str.ofString "fields", Value.ref FA), (Str.ofString "plain", Value.ref D)], m' p.1 = some p.2
def WordPost (h₀ : Heap) (L : Addr) (base : List (Addr × Obj)) (FA : Addr) (l : List UInt8) (s : Shared) (f : Flow) (s' : Shared) : Prop :=
  f = .next ∧ ∃ h' tk' m' t, s' = { s with heap := h', toks := tk' } ∧ Fr h₀ L h' m' ∧ News h₀ L h' base ∧
    ∀ p ∈ [(Str.ofString "fields", Value.ref FA), (Str.ofString "word", Value.str (wordOf l) t)], m' p.1 = some p.2
theorem plain_mono {t : Sem Flow} {base : List (Addr × Obj)} {p0 : Addr × Obj} {Q : Flow → Shared → Prop} {FA : Addr} (l : List UInt8) (_F : Fr h₀ L s.heap m) (_hm : m (Str.ofString "fields") = some (Value.ref FA)) (_N : News h₀ L s.heap (p0 :: base))
    (h1 : wpAny (model prog w) A t (PlainPost h₀ L base FA l s) E s)
    (h2 : ∀ h' tk' m' D ys n, Fr h₀ L h' m' → News h₀ L h' ((D, listOf ys.toArray n) :: base) → IntsAre ys (natsOf l) → (∀ p ∈ [(Str.ofString "fields", Value.ref FA), (Str.ofString "plain", Value.ref D)], m' p.1 = some p.2) → Q .next { s with heap := h', toks := tk' }) :
    wpAny (model prog w) A t Q E s :=
  wpAny_mono h1 (fun f s' ⟨e, h', tk', m', D, ys, n, e1, F, N, a, b⟩ => by subst e e1; exact h2 h' tk' m' D ys n F N a b) fun _ _ x => x
theorem word_mono {t : Sem Flow} {base : List (Addr × Obj)} {p0 : Addr × Obj} {Q : Flow → Shared → Prop} {FA : Addr} (l : List UInt8) (_F : Fr h₀ L s.heap m) (_hm : m (Str.ofString "fields") = some (Value.ref FA)) (_N : News h₀ L s.heap (p0 :: base))
    (h1 : wpAny (model prog w) A t (WordPost h₀ L base FA l s) E s)
    (h2 : ∀ h' tk' m' t, Fr h₀ L h' m' → News h₀ L h' base → (∀ p ∈ [(Str.ofString "fields", Value.ref FA), (Str.ofString "word", Value.str (wordOf l) t)], m' p.1 = some p.2) → Q .next { s with heap := h', toks := tk' }) :
    wpAny (model prog w) A t Q E s :=
  wpAny_mono h1 (fun f s' ⟨e, h', tk', m', t, e1, F, N, b⟩ => by subst e e1; exact h2 h' tk' m' t F N b) fun _ _ x => x
theorem drop_white {P : List UInt8} {k : Nat} {c : UInt8} (h : P[k]? = some c) (hw : isWhite c = true) (hd : (P.drop k).dropWhile isWhite = P.dropWhile isWhite) : (P.drop (k + 1)).dropWhile isWhite = P.dropWhile isWhite := by
  rw [← hd]
  have e : P.drop k = c :: P.drop (k + 1) := by
    obtain ⟨hk, rfl⟩ := List.getElem?_eq_some_iff.mp h
    rw [List.drop_eq_getElem_cons hk]
  rw [e, List.dropWhile_cons, if_pos hw]
theorem drop_stop {P : List UInt8} {k : Nat} {c : UInt8} (h : P[k]? = some c) (hw : isWhite c = false) (hd : (P.drop k).dropWhile isWhite = P.dropWhile isWhite) : P.drop k = P.dropWhile isWhite := by
  rw [← hd]
  have e : P.drop k = c :: P.drop (k + 1) := by
    obtain ⟨hk, rfl⟩ := List.getElem?_eq_some_iff.mp h
    rw [List.drop_eq_getElem_cons hk]
  rw [e, List.dropWhile_cons, if_neg (by simp [hw])]
theorem drop_all {P : List UInt8} {k : Nat} (h : P.length ≤ k) (hd : (P.drop k).dropWhile isWhite = P.dropWhile isWhite) : P.drop k = P.dropWhile isWhite := by
  rw [← hd, List.drop_eq_nil_of_le h]; rfl

theorem plain_len {b : Array UInt8} {k : Nat} (h : b.size ≤ 500000) : (natsOf ((plainOf b).drop k)).length ≤ 500000 := by
  rw [List.length_map, List.length_drop]
  have : (plainOf b).length ≤ b.size := by unfold plainOf; exact Nat.le_trans (List.length_filter_le _ _) (by simp)
  omega
theorem white_len {b : Array UInt8} (h : b.size ≤ 500000) : (natsOf ((plainOf b).dropWhile isWhite)).length ≤ 500000 := by
  rw [List.length_map]
  have h1 : (plainOf b).length ≤ b.size := by unfold plainOf; exact Nat.le_trans (List.length_filter_le _ _) (by simp)
  have h2 := (List.dropWhile_suffix (l := plainOf b) isWhite).length_le
  omega
def PlainJ (base : List (Addr × Obj)) (FA : Addr) (P : List UInt8) (n : Nat) (m : Str → Option Value) (nx : List (Addr × Obj)) : Prop :=
  ∃ (k : Nat) (D : Addr) (ys : List Value) (z : Nat), nx = (D, listOf ys.toArray z) :: base ∧ (∀ p ∈ [(Str.ofString "fields", Value.ref FA), (Str.ofString "plain", Value.ref D)], m p.1 = some p.2) ∧
    IntsAre ys (natsOf (P.drop k)) ∧ k ≤ P.length ∧ (P.drop k).dropWhile isWhite = P.dropWhile isWhite ∧ n = P.length - k
theorem two_facts {m : Str → Option Value} {x y : Str} {v u : Value} (h1 : m x = some v) (h2 : m y = some u) : ∀ p ∈ [(x, v), (y, u)], m p.1 = some p.2 :=
  List.forall_mem_cons.mpr ⟨h1, List.forall_mem_cons.mpr ⟨h2, List.forall_mem_nil _⟩⟩
theorem while_plain {env : Env} {test : Expr} {body : List Stmt} {pos : Pos} {base : List (Addr × Obj)} {FA D : Addr} {ys : List Value} {z : Nat} (P : List UInt8) (hLe : env.locals = L) (F : Fr h₀ L s.heap m) (hf : m (Str.ofString "fields") = some (Value.ref FA)) (hp : m (Str.ofString "plain") = some (Value.ref D)) (N : News h₀ L s.heap ((D, listOf ys.toArray z) :: base)) (hy : IntsAre ys (natsOf P))
    (turn : ∀ k D ys z u h tk, IntsAre ys (natsOf (P.drop k)) → k ≤ P.length → (P.drop k).dropWhile isWhite = P.dropWhile isWhite → Fr h₀ L h (kstB u [(Str.ofString "fields", Value.ref FA), (Str.ofString "plain", Value.ref D)]) → News h₀ L h ((D, listOf ys.toArray z) :: base) →
      wpAny (model prog w) A (isTrue test env (eval test env)) (fun b s₂ =>
        if b = true then wpAny (model prog w) A (execs body env) (WhileStep2 h₀ L s (PlainJ base FA P) (PlainPost h₀ L base FA (P.dropWhile isWhite) s) (P.length - k)) E s₂ else PlainPost h₀ L base FA (P.dropWhile isWhite) s .next s₂) E { s with heap := h, toks := tk })
    (hE : PassesOwn (model prog w) A env E := by passes_own) :
    wpAny (model prog w) A (exec (.While test body [] pos) env) (PlainPost h₀ L base FA (P.dropWhile isWhite) s) E s := by
  subst hLe
  refine While_inv2 (PlainJ base FA P) (n₀ := P.length) F N ⟨0, D, ys, z, rfl, two_facts hf hp, hy, Nat.zero_le _, rfl, rfl⟩ ?_ hE
  rintro n m₁ nx h₁ tk₁ F₁ N₁ ⟨k, D', ys', z', rfl, hm, hI, hk, hd, rfl⟩
  rw [canon hm] at F₁
  exact turn k D' ys' z' m₁ h₁ tk₁ hI hk hd F₁ N₁
theorem plain_stop {base : List (Addr × Obj)} {FA D : Addr} {ys : List Value} {z k : Nat} {P : List UInt8} {h' : Heap} {tk' : Nat} {m' : Str → Option Value} (F : Fr h₀ L h' m') (N : News h₀ L h' ((D, listOf ys.toArray z) :: base)) (hf : m' (Str.ofString "fields") = some (Value.ref FA)) (hp : m' (Str.ofString "plain") = some (Value.ref D)) (hI : IntsAre ys (natsOf (P.drop k)))
    (hd : P.drop k = P.dropWhile isWhite) : PlainPost h₀ L base FA (P.dropWhile isWhite) s .next { s with heap := h', toks := tk' } :=
  ⟨rfl, h', tk', m', D, ys, z, rfl, F, N, hd ▸ hI, two_facts hf hp⟩
theorem plain_step {base : List (Addr × Obj)} {FA D : Addr} {ys : List Value} {z k : Nat} {P : List UInt8} {h' : Heap} {tk' : Nat} {m' : Str → Option Value} {Q : Flow → Shared → Prop} (F : Fr h₀ L h' m') (N : News h₀ L h' ((D, listOf ys.toArray z) :: base)) (hf : m' (Str.ofString "fields") = some (Value.ref FA)) (hp : m' (Str.ofString "plain") = some (Value.ref D)) (hI : IntsAre ys (natsOf (P.drop (k + 1))))
    (hk : k < P.length) (hd : (P.drop (k + 1)).dropWhile isWhite = P.dropWhile isWhite) : WhileStep2 h₀ L s (PlainJ base FA P) Q (P.length - k) .next { s with heap := h', toks := tk' } :=
  ⟨h', tk', m', _, P.length - (k + 1), rfl, F, N, by omega, k + 1, D, ys, z, rfl, two_facts hf hp, hI, hk, hd, rfl⟩

def lowsTo (l : List UInt8) (i : Nat) : Str := ⟨((l.take i).map fun c => lowN c.toNat).toArray⟩
def WordStep (h₀ : Heap) (L : Addr) (nx own : List (Addr × Obj)) (FA : Addr) (l : List UInt8) (i : Nat) (c : UInt8) (s : Shared) (f : Flow) (s' : Shared) : Prop :=
  match f with
  | .ret _ => False
  | .brk => isEnd c = true ∧ ∃ h' tk' m' t, s' = { s with heap := h', toks := tk' } ∧ Fr h₀ L h' m' ∧ News h₀ L h' (nx ++ own) ∧ ∀ p ∈ [(Str.ofString "fields", Value.ref FA), (Str.ofString "word", Value.str (lowsTo l i) t)], m' p.1 = some p.2
  | _ => isEnd c = false ∧ ∃ h' tk' m' t, s' = { s with heap := h', toks := tk' } ∧ Fr h₀ L h' m' ∧ News h₀ L h' (nx ++ own) ∧ ∀ p ∈ [(Str.ofString "fields", Value.ref FA), (Str.ofString "word", Value.str (lowsTo l (i + 1)) t)], m' p.1 = some p.2
theorem take_word {l : List UInt8} {i : Nat} (hno : ∀ j c, j < i → l[j]? = some c → isEnd c = false) (hi : ∀ c, l[i]? = some c → isEnd c = true) : wordOf l = lowsTo l i := by
  unfold wordOf lowsTo
  have e : (l.takeWhile fun c => !isEnd c) = l.take i := by
    have e : l = l.take i ++ l.drop i := (List.take_append_drop i _).symm
    have h1 : ∀ c ∈ l.take i, (fun c => !isEnd c) c = true := by
      intro c hc
      obtain ⟨j, hj⟩ := List.mem_iff_getElem?.mp hc
      rw [List.getElem?_take] at hj
      split at hj
      · simp [hno j c (by assumption) hj]
      · cases hj
    conv => lhs; rw [e]
    rw [List.takeWhile_append_of_pos h1]
    cases hd : l.drop i with
    | nil => simp
    | cons c r =>
      have : l[i]? = some c := by
        have := congrArg List.head? hd
        rw [List.head?_drop] at this
        exact this
      rw [List.takeWhile_cons_of_neg (by simp [hi c this]), List.append_nil]
  rw [e]
theorem word_loop {env : Env} {x : Str} {body : List Stmt} {base : List (Addr × Obj)} {FA D : Addr} {ys : List Value} {z : Nat} {t₀ : Tok} (l : List UInt8) (hLe : env.locals = L) (hh : A.handled = none) (F : Fr h₀ L s.heap m) (hf : m (Str.ofString "fields") = some (Value.ref FA)) (hp : m (Str.ofString "word") = some (Value.str (Str.ofString "") t₀)) (N : News h₀ L s.heap ((D, listOf ys.toArray z) :: base)) (hy : IntsAre ys (natsOf l))
    (turn : ∀ i (c : UInt8) t tw u h tk own, i < l.length → l[i]? = some c → OwnOff own (((D, listOf ys.toArray z) :: base).map (·.1)) → Fr h₀ L h (fun y => if y = x then some (.int (c.toNat : Int) t) else kstB u [(Str.ofString "fields", Value.ref FA), (Str.ofString "word", Value.str (lowsTo l i) tw)] y) → News h₀ L h (((D, listOf ys.toArray z) :: base) ++ own) →
      wpAny (model prog w) A (execs body env) (WordStep h₀ L ((D, listOf ys.toArray z) :: base) own FA l i c { s with heap := h, toks := tk }) E { s with heap := h, toks := tk }) :
    wpAny (model prog w) A (pyIter (.ref D)) (fun it s₂ => LoopAtV prog w A h₀ env x body (WordPost h₀ L base FA l s) E it s₂) E s := by
  subst hLe
  refine iter_invNL (fun i m nx => nx = (D, listOf ys.toArray z) :: base ∧ (∀ j c, j < i → l[j]? = some c → isEnd c = false) ∧ ∃ t, ∀ p ∈ [(Str.ofString "fields", Value.ref FA), (Str.ofString "word", Value.str (lowsTo l i) t)], m p.1 = some p.2)
    hh (.head _) hy F N ⟨rfl, fun j c h => absurd h (Nat.not_lt_zero _), t₀, two_facts hf hp⟩ ?_ ?_
  · rintro i n t m₁ nx h tk own hn - hoff - ⟨rfl, hno, tw, hm⟩ F₁ N₁
    have hn' : (natsOf l)[i]? = some n := hn
    rw [List.getElem?_map] at hn'
    obtain ⟨c, hc, rfl⟩ := Option.map_eq_some_iff.mp hn'
    rw [canon hm] at F₁
    obtain ⟨hi, -⟩ := List.getElem?_eq_some_iff.mp hc
    refine wpAny_mono (turn i c t tw m₁ h tk own hi hc hoff F₁ N₁) (fun f s₂ q => ?_) fun _ _ e => e
    have up : (isEnd c = false ∧ ∃ h' tk' m' t, s₂ = { s with heap := h', toks := tk' } ∧ Fr h₀ env.locals h' m' ∧ News h₀ env.locals h' (((D, listOf ys.toArray z) :: base) ++ own) ∧ ∀ p ∈ [(Str.ofString "fields", Value.ref FA), (Str.ofString "word", Value.str (lowsTo l (i + 1)) t)], m' p.1 = some p.2) →
        InvEndN h₀ env.locals (fun m' nx => (D, listOf ys.toArray z) ∈ nx ∧ nx = (D, listOf ys.toArray z) :: base ∧ (∀ j c, j < i + 1 → l[j]? = some c → isEnd c = false) ∧ ∃ t, ∀ p ∈ [(Str.ofString "fields", Value.ref FA), (Str.ofString "word", Value.str (lowsTo l (i + 1)) t)], m' p.1 = some p.2) own (((D, listOf ys.toArray z) :: base).map (·.1)) { s with heap := h, toks := tk } s₂ := by
      rintro ⟨he, h', tk', m', t', rfl, F', N', hm'⟩
      refine ⟨h', tk', m', _, _, rfl, F', N', fun p hp => List.mem_append.mpr (.inl hp), fun p hp => List.mem_append.mpr (.inr hp), rfl, .head _, rfl, fun j c' hj hc' => ?_, t', hm'⟩
      rcases Nat.lt_succ_iff_lt_or_eq.mp hj with h | rfl
      · exact hno j c' h hc'
      · rw [hc] at hc'; cases hc'; exact he
    cases f with
    | ret v => exact absurd q id
    | brk =>
      obtain ⟨he, h', tk', m', t', rfl, F', N', hm'⟩ := q
      exact ⟨rfl, h', tk', m', t', rfl, F', fun p hp => N' p (List.mem_append.mpr (.inl (.tail _ hp))), (take_word hno fun c' hc' => by rw [hc] at hc'; cases hc'; exact he) ▸ hm'⟩
    | next => exact up q
    | cont => exact up q
  · rintro m₁ nx h tk - ⟨rfl, hno, t, hm⟩ F₁ N₁
    refine ⟨rfl, h, tk, m₁, t, rfl, F₁, fun p hp => N₁ p (.tail _ hp), ?_⟩
    rw [List.length_map] at hno hm
    rw [take_word hno fun c hc => by rw [List.getElem?_eq_none (Nat.le_refl _)] at hc; cases hc]
    exact hm

theorem news_drop3 {h : Heap} {p q r t : Addr × Obj} {base : List (Addr × Obj)} (N : News h₀ L h (p :: q :: r :: t :: base)) : News h₀ L h (p :: base) := fun x hx => by
  rcases List.mem_cons.mp hx with rfl | hx
  · exact N _ (.head _)
  · exact N _ (.tail _ (.tail _ (.tail _ (.tail _ hx))))
theorem plain_nil {P : List UInt8} {k : Nat} (h : decide (natsOf (P.drop k) = []) = true) (hd : (P.drop k).dropWhile isWhite = P.dropWhile isWhite) : P.drop k = P.dropWhile isWhite :=
  drop_all (by simpa using of_decide_eq_true h) hd
theorem plain_head {P : List UInt8} {k : Nat} (h : decide (natsOf (P.drop k) = []) = false) : ∃ c, P[k]? = some c ∧ (natsOf (P.drop k)).getD (Int.toNat 0) 0 = (c.toNat : Int) ∧ k < P.length := by
  have hk : k < P.length := by
    have := of_decide_eq_false h
    simp only [List.map_eq_nil_iff, List.drop_eq_nil_iff] at this
    omega
  refine ⟨P[k], List.getElem?_eq_getElem hk, ?_, hk⟩
  rw [List.drop_eq_getElem_cons hk]; rfl
theorem white_any (c : UInt8) : ([9, 32].any fun x => x == (c.toNat : Int)) = isWhite c := by
  have h (n : Nat) (d : UInt8) (e : d.toNat = n) : ((n : Int) == (c.toNat : Int)) = (c == d) := by
    rw [Bool.eq_iff_iff, beq_iff_eq, beq_iff_eq, ← e]
    constructor
    · intro q; exact (UInt8.toNat_inj.mp (Int.ofNat.inj q)).symm
    · intro q; rw [q]
  unfold isWhite
  rw [List.any_cons, List.any_cons, List.any_nil, Bool.or_false, ← h 9 9 rfl, ← h 32 32 rfl]; rfl
theorem end_any (c : UInt8) : ([9, 32, 40, 59].any fun x => x == (c.toNat : Int)) = isEnd c := by
  have h (n : Nat) (d : UInt8) (e : d.toNat = n) : ((n : Int) == (c.toNat : Int)) = (c == d) := by
    rw [Bool.eq_iff_iff, beq_iff_eq, beq_iff_eq, ← e]
    constructor
    · intro q; exact (UInt8.toNat_inj.mp (Int.ofNat.inj q)).symm
    · intro q; rw [q]
  unfold isEnd
  rw [List.any_cons, List.any_cons, List.any_cons, List.any_cons, List.any_nil, Bool.or_false, ← h 9 9 rfl, ← h 32 32 rfl, ← h 40 40 rfl, ← h 59 59 rfl, Bool.or_assoc, Bool.or_assoc]; rfl
theorem plain_no {P : List UInt8} {k : Nat} (h : decide (natsOf (P.drop k) = []) = false) (ha : ([9, 32].any fun x => x == (natsOf (P.drop k)).getD (Int.toNat 0) 0) = false) (hd : (P.drop k).dropWhile isWhite = P.dropWhile isWhite) : P.drop k = P.dropWhile isWhite := by
  obtain ⟨c, hc, e, -⟩ := plain_head h
  rw [e, white_any] at ha
  exact drop_stop hc ha hd
theorem plain_yes {P : List UInt8} {k : Nat} (h : decide (natsOf (P.drop k) = []) = false) (ha : ([9, 32].any fun x => x == (natsOf (P.drop k)).getD (Int.toNat 0) 0) = true) (hd : (P.drop k).dropWhile isWhite = P.dropWhile isWhite) : k < P.length ∧ (P.drop (k + 1)).dropWhile isWhite = P.dropWhile isWhite := by
  obtain ⟨c, hc, e, hk⟩ := plain_head h
  rw [e, white_any] at ha
  exact ⟨hk, drop_white hc ha hd⟩
theorem plain_ints {P : List UInt8} {k : Nat} {ws : List Value} (h : IntsAre ws (List.drop 1 (natsOf (P.drop k)))) : IntsAre ws (natsOf (P.drop (k + 1))) := by
  have e : List.drop 1 (natsOf (P.drop k)) = natsOf (P.drop (k + 1)) := by
    show List.drop 1 (List.map _ _) = _
    rw [← List.map_drop, List.drop_drop]
  rw [← e]; exact h
theorem word_brk {nx own : List (Addr × Obj)} {FA : Addr} {l : List UInt8} {i : Nat} {c : UInt8} {h' : Heap} {tk' : Nat} {m' : Str → Option Value} {t : Tok} (F : Fr h₀ L h' m') (N : News h₀ L h' (nx ++ own)) (hf : m' (Str.ofString "fields") = some (Value.ref FA)) (hw : m' (Str.ofString "word") = some (.str (lowsTo l i) t))
    (he : ([9, 32, 40, 59].any fun x => x == (c.toNat : Int)) = true) : WordStep h₀ L nx own FA l i c s .brk { s with heap := h', toks := tk' } :=
  ⟨end_any c ▸ he, h', tk', m', t, rfl, F, N, two_facts hf hw⟩
theorem word_next {nx own : List (Addr × Obj)} {FA : Addr} {l : List UInt8} {i : Nat} {c : UInt8} {h' : Heap} {tk' : Nat} {m' : Str → Option Value} {t : Tok} {W : Str} (F : Fr h₀ L h' m') (N : News h₀ L h' (nx ++ own)) (hf : m' (Str.ofString "fields") = some (Value.ref FA)) (hw : m' (Str.ofString "word") = some (.str W t)) (hW : W = lowsTo l (i + 1))
    (he : ([9, 32, 40, 59].any fun x => x == (c.toNat : Int)) = false) : WordStep h₀ L nx own FA l i c s .next { s with heap := h', toks := tk' } :=
  ⟨end_any c ▸ he, h', tk', m', t, rfl, F, N, two_facts hf (hW ▸ hw)⟩
theorem lowsTo_succ {l : List UInt8} {i : Nat} {c : UInt8} (h : l[i]? = some c) : lowsTo l (i + 1) = ⟨(lowsTo l i).cps.push (lowN c.toNat)⟩ := by
  unfold lowsTo
  rw [List.take_add_one, h]
  simp
theorem lowsTo_size (l : List UInt8) (i : Nat) : (lowsTo l i).cps.size ≤ l.length := by
  unfold lowsTo; simp; omega
theorem due_yes {b : Array UInt8} (h : (wordOf ((plainOf b).dropWhile isWhite) != Str.ofString "") = true) : dueWord b = wordOf ((plainOf b).dropWhile isWhite) := by
  unfold dueWord
  rw [if_neg (by simpa using h)]
theorem due_no {b : Array UInt8} (h : (wordOf ((plainOf b).dropWhile isWhite) != Str.ofString "") = false) : dueWord b = Str.ofString "7bit" := by
  unfold dueWord
  rw [if_pos (by simpa using h)]
theorem word_str {l : List UInt8} {i : Nat} {c : UInt8} {v : Int} (h : l[i]? = some c) (hv : v = (lowN c.toNat : Int)) : lowsTo l i ++ (⟨#[v.toNat]⟩ : Str) = lowsTo l (i + 1) := by
  subst hv
  rw [lowsTo_succ h]
  show (⟨(lowsTo l i).cps ++ #[lowN c.toNat]⟩ : Str) = _
  rw [Array.push_eq_append]
theorem crlf_any (c : UInt8) : ([10, 13].any fun x => x == (c.toNat : Int)) = (c == 10 || c == 13) := by
  have h (n : Nat) (d : UInt8) (e : d.toNat = n) : ((n : Int) == (c.toNat : Int)) = (c == d) := by
    rw [Bool.eq_iff_iff, beq_iff_eq, beq_iff_eq, ← e]
    constructor
    · intro q; exact (UInt8.toNat_inj.mp (Int.ofNat.inj q)).symm
    · intro q; rw [q]
  rw [List.any_cons, List.any_cons, List.any_nil, Bool.or_false, ← h 10 10 rfl, ← h 13 13 rfl]; rfl
end
end Mine
end
section
open PySem PySem.W PySem.Calls PyProof.Rows
local macro_rules | `(tactic| walk_at "p_enter") => `(tactic| (refine' Mine.pure_enter ?k3 ?k5 ?k6 ?k7 ?k8 ?k9 ?kB ?_ ?c2 ?c3 ?c4 ?c5; (case k3 => k_asm); (case k5 => k_asm); (case k6 => k_is); (case k7 => k_is); (case k8 => ktr_room); (case k9 => exact BindsTo.of_eq rfl); (case c5 => decide); (case kB => exact locs rfl); (case c2 => exact rfl); (case c3 => exact rfl); (case c4 => exact rfl); k_whole; intro L' h' F' N'; (try dsimp only); (try k_fold)))
local macro_rules | `(tactic| cell_end "p_end" $h:term $_:term) => `(tactic| (refine' $h _ _ _ ?pe2; (case pe2 => exact Fr.keep (by k_asm))))
local macro_rules | `(tactic| cell_end "p_endO" $h:term $m:term) => `(tactic| (refine' $h _ [(_, _)] _ _ ?pe1 ?pe2 ?pe3; (case pe2 => exact Fr.keep (by k_asm)); (case pe3 => exact Mine.tl_one (by k_asm) $m)))
local macro_rules | `(tactic| walk_at "call builtin:list.append") => `(tactic| (k_here; (with_reducible show wpAny _ _ (call (Value.builtin _) [Value.ref _, _]) _ _ _); k_dflt (refine' append_K ?k1 ?k2 ?k3 ?_ ?z; (case k1 => k_asm); (case k2 => k_asm); (case k3 => k_upd); (case z => first | size_fits | (rw [PySem.sizeLine_eq]; (try simp only [List.size_toArray]); omega)); k_whole); intro h' F' N'; (try k_sweep)))
local macro_rules | `(tactic| walk_at "a rule for the count alone") => `(tactic| fail "no step")
namespace Mine
/-- octets of which every 13 has its 10: unfolding keeps all but 10 and 13 -/
theorem unf_filter : ∀ l : List UInt8, crOk l = true → unf l = l.filter fun c => !(c == 10 || c == 13)
  | [], _ => rfl
  | c :: r, h => by
    simp only [crOk, Bool.and_eq_true, Bool.or_eq_true] at h
    have ih := unf_filter r h.2
    rw [unf]
    by_cases h10 : c = 10
    · subst h10
      rw [if_pos rfl, ih]; rfl
    · by_cases h13 : c = 13
      · subst h13
        have hh : r.head? = some 10 := by
          rcases h.1 with e | e
          · cases e
          · exact eq_of_beq e
        rw [if_neg (by decide), if_pos ⟨rfl, hh⟩, ih]; rfl
      · rw [if_neg h10, if_neg (fun e => h13 e.1), List.filter_cons, if_pos (by simp [h10, h13]), ih]
theorem white_contains (c : UInt8) : (#[32, 9] : Array UInt8).contains c = isWhite c := by
  rw [Bool.eq_iff_iff]
  simp [isWhite, or_comm]
theorem ends_contains (c : UInt8) : wordEnds.contains c = isEnd c := by
  rw [Bool.eq_iff_iff]
  simp [isEnd, wordEnds, or_comm, or_left_comm, or_assoc]
theorem white_end {c : UInt8} (h : isWhite c = true) : isEnd c = true := by
  simp only [isWhite, isEnd, Bool.or_eq_true] at *
  rcases h with h | h
  · exact .inl (.inl (.inl h))
  · exact .inl (.inl (.inr h))
/-- white taken off the end takes nothing from the word -/
theorem word_trim (l : List UInt8) : ((l.reverse.dropWhile isWhite).reverse.takeWhile fun c => !isEnd c) = l.takeWhile fun c => !isEnd c := by
  have e : l = (l.reverse.dropWhile isWhite).reverse ++ (l.reverse.takeWhile isWhite).reverse := by
    rw [← List.reverse_append, List.takeWhile_append_dropWhile, List.reverse_reverse]
  generalize ha : (l.reverse.dropWhile isWhite).reverse = a at *
  generalize hb : (l.reverse.takeWhile isWhite).reverse = b at *
  have hw : ∀ c ∈ b, isWhite c = true := by
    intro c hc
    rw [← hb, List.mem_reverse] at hc
    exact List.all_eq_true.mp List.all_takeWhile c hc
  have hn : (b.takeWhile fun c => !isEnd c) = [] := by
    cases b with
    | nil => rfl
    | cons c r => rw [List.takeWhile_cons_of_neg (by simp [white_end (hw c (.head _))])]
  rw [e, List.takeWhile_append, hn]
  split
  · rename_i hl
    rw [List.append_nil]
    exact (List.takeWhile_prefix _).eq_of_length hl
  · rfl
theorem word_of (b : Array UInt8) (h : crOk b.toList = true) : lowS (bytesS (takeWord (unfB b)).toArray) = wordOf ((plainOf b).dropWhile isWhite) := by
  have e1 : takeWord (unfB b) = ((plainOf b).dropWhile isWhite).takeWhile fun c => !isEnd c := by
    unfold takeWord unfB stripB
    rw [unf_filter _ h]
    have w1 : (#[32, 9] : Array UInt8).contains = isWhite := funext white_contains
    have w2 : (fun c => !wordEnds.contains c) = fun c => !isEnd c := funext fun c => by rw [ends_contains]
    rw [w1, w2]
    exact word_trim ((plainOf b).dropWhile isWhite)
  rw [e1]
  unfold lowS bytesS wordOf
  simp [List.map_map, Function.comp_def]
theorem enc_due {recs : List (Array UInt8 × Array UInt8)} (hok : ∀ r ∈ recs, RecOk r) : encOf recs = (dueOf recs).getD (Str.ofString "7bit") := by
  have hf : recs.find? (fun r => lowS (bytesS r.1) == lowS cteS) = recs.find? (fun r => r.1.size == 25) := by
    induction recs with
    | nil => rfl
    | cons r rs ih =>
      have e : (lowS (bytesS r.1) == lowS cteS) = (r.1.size == 25) := by
        rw [Bool.eq_iff_iff, beq_iff_eq, beq_iff_eq]
        exact (hok r (.head _)).key
      rw [List.find?_cons, List.find?_cons, e, ih fun q hq => hok q (.tail _ hq)]
  unfold encOf firstBody dueOf
  rw [hf]
  cases hq : recs.find? (fun r => r.1.size == 25) with
  | none => rfl
  | some r =>
    have hr := hok r (List.mem_of_find?_eq_some hq)
    show (if lowS (bytesS (takeWord (unfB r.2)).toArray) = Str.ofString "" then Str.ofString "7bit" else lowS (bytesS (takeWord (unfB r.2)).toArray)) = dueWord r.2
    rw [word_of r.2 hr.cr]
    rfl
end Mine
end
section
open PySem PySem.W PySem.Calls PyProof.Rows
local macro_rules | `(tactic| walk_at "p_enter") => `(tactic| (refine' Mine.pure_enter ?k3 ?k5 ?k6 ?k7 ?k8 ?k9 ?kB ?_ ?c2 ?c3 ?c4 ?c5; (case k3 => k_asm); (case k5 => k_asm); (case k6 => k_is); (case k7 => k_is); (case k8 => ktr_room); (case k9 => exact BindsTo.of_eq rfl); (case c5 => decide); (case kB => exact locs rfl); (case c2 => exact rfl); (case c3 => exact rfl); (case c4 => exact rfl); k_whole; intro L' h' F' N'; (try dsimp only); (try k_fold)))
local macro_rules | `(tactic| cell_end "p_end" $h:term $_:term) => `(tactic| (refine' $h _ _ _ ?pe2; (case pe2 => exact Fr.keep (by k_asm))))
local macro_rules | `(tactic| cell_end "p_endO" $h:term $m:term) => `(tactic| (refine' $h _ [(_, _)] _ _ ?pe1 ?pe2 ?pe3; (case pe2 => exact Fr.keep (by k_asm)); (case pe3 => exact Mine.tl_one (by k_asm) $m)))
local macro_rules | `(tactic| walk_at "call builtin:list.append") => `(tactic| (k_here; (with_reducible show wpAny _ _ (call (Value.builtin _) [Value.ref _, _]) _ _ _); k_dflt (refine' append_K ?k1 ?k2 ?k3 ?_ ?z; (case k1 => k_asm); (case k2 => k_asm); (case k3 => k_upd); (case z => first | size_fits | (rw [PySem.sizeLine_eq]; (try simp only [List.size_toArray]); omega)); k_whole); intro h' F' N'; (try k_sweep)))
namespace Mine
theorem c_enc_is {prog : Program} {w : World} {K : Frag} {p : Program} {loose : List Str} {mean : ExcName → Option Value} {mg mb : Str → Option Value} {f : Addr} {vs : List Value} {H : Heap → Prop} {dd uu : Nat} {o x : Str}
    (C : PureV prog w K p loose mean mg mb f vs H (fun t => .str o t) dd uu) (e : o = x) : PureV prog w K p loose mean mg mb f vs H (fun t => .str x t) dd uu := by subst e; exact C
theorem field_list {w : World} {h₀ h : Heap} {L FA : Addr} {xs : List Value} {recs : List (Array UInt8 × Array UInt8)} {k : Nat} {a b c : Addr × Obj} {TL : List (Addr × Obj)} (hLF : LedFields w TL xs recs) (N : News h₀ L h ((FA, listOf xs.toArray k) :: a :: b :: c :: TL)) : FieldList w FA recs h :=
  ⟨xs, k, (N _ (.head _)).1, hLF.1, fun i r hr => by
    obtain ⟨x, d, t1, t2, t3, t4, n, e, h1, h2⟩ := hLF.2 i r hr
    exact ⟨x, e, d, t1, t2, t3, t4, n, (N _ (.tail _ (.tail _ (.tail _ (.tail _ h1))))).1, (N _ (.tail _ (.tail _ (.tail _ (.tail _ h2))))).1⟩⟩
local macro_rules | `(tactic| walk_at "call ref") => `(tactic| (k_here; (try dsimp only [List.nil_append, List.cons_append]); (with_reducible show wpAny _ _ (call (Value.ref 99) [Value.ref _]) _ _ _); k_dflt (refine' Mine.pure_use (c_enc_is (c_encoding_of _ _ _ _ _ _ _ (by assumption)) (by with_reducible assumption)) ?pF ?pX ?pN ?pT ?pd ?pu ?pH ?_; (case pF => k_asm); (case pX => k_asm); (case pN => k_asm); (case pT => k_asm); (case pd => ktr_room); (case pu => ktr_units); (case pH => with_reducible assumption)); intro t' h' tk' F' N' pk'; (try dsimp only); (try k_fold)))
structure StopB : Prop where
structure StopIf : Prop where
theorem offs {FA TA CS CE d x : Addr} {W : List (Addr × Obj)} (l1 : @LT.lt Nat _ FA d ∧ @LT.lt Nat _ TA d ∧ @LT.lt Nat _ CS d ∧ @LT.lt Nat _ CE d ∧ AllLt d W) (l2 : @LT.lt Nat _ d x) :
    (∀ p ∈ W, p.1 ≠ x) ∧ (∀ p ∈ W, p.1 ≠ d) ∧ (∀ b ∈ [FA, TA, CS, CE], x ≠ b) ∧ (∀ b ∈ [FA, TA, CS, CE], d ≠ b) := by
  obtain ⟨h1, h2, h3, h4, h5⟩ := l1
  refine ⟨fun p hp => Nat.ne_of_lt (Nat.lt_trans (tb_ltOf h5 p hp) l2), fun p hp => Nat.ne_of_lt (tb_ltOf h5 p hp), ?_, ?_⟩
  · intro b hb
    simp only [List.mem_cons, List.not_mem_nil, or_false] at hb
    rcases hb with rfl | rfl | rfl | rfl <;> exact Nat.ne_of_gt (Nat.lt_trans (by assumption) l2)
  · intro b hb
    simp only [List.mem_cons, List.not_mem_nil, or_false] at hb
    rcases hb with rfl | rfl | rfl | rfl <;> exact Nat.ne_of_gt (by assumption)
theorem news_ends3 {h₀ h : Heap} {L : Addr} {p q r : Addr × Obj} (N : News h₀ L h [p, q, r]) : News h₀ L h [p, r] := fun x hx => by
  rcases List.mem_cons.mp hx with rfl | hx
  · exact N _ (.head _)
  · exact N _ (.tail _ (.tail _ hx))
theorem news_ends4 {h₀ h : Heap} {L D : Addr} {ws : List Value} {n : Nat} {q r t : Addr × Obj} (N : News h₀ L h [(D, listOf ws.toArray n), q, r, t]) : News h₀ L h [(D, listOf ws.toArray n), t] := fun x hx => by
  rcases List.mem_cons.mp hx with rfl | hx
  · exact N _ (.head _)
  · exact N _ (.tail _ (.tail _ (.tail _ hx)))
theorem news_drop {h₀ h : Heap} {L : Addr} {p : Addr × Obj} {r : List (Addr × Obj)} (N : News h₀ L h (p :: r)) : News h₀ L h r := fun q hq => N q (.tail _ hq)
local macro_rules | `(tactic| walk_at "eval BoolOp") => `(tactic| (k_here; (with_reducible rename Mine.StopB => sb9); refine Mine.Halt.out ?_))
local macro_rules | `(tactic| walk_at "pyIter ref") => `(tactic| ((with_reducible show wpAny _ _ (pyIter (Value.ref _)) (fun it s₂ => LoopAtV _ _ _ _ _ _ _ _ _ it s₂) _ _); refine Mine.Halt.out ?_))
local macro_rules | `(tactic| walk_at "call type:range") => `(tactic| (k_here; (with_reducible rename Fr _ _ _ _ => F'); (with_reducible rename News _ _ _ _ => N'); (refine Mine.range_use F' N' ?_); intro r' h' tk' t0' t1' F' N' rg'; (try dsimp only)))
local macro_rules | `(tactic| walk_at "exec For Name Call cons nil") => `(tactic| (k_here; (with_reducible rename Fr _ _ _ _ => lF'); (with_unfolding_all refine' For_invVF lF' ?k1 ?k2 ?_; (case k1 => exact rfl); (case k2 => exact rfl); k_whole)))
local macro_rules | `(tactic| walk_at "call ref") => `(tactic| (k_here; (try dsimp only [List.nil_append, List.cons_append]); (with_reducible show wpAny _ _ (call (Value.ref 108) [Value.ref _, Value.int _ _]) _ _ _); k_dflt (refine' Mine.draw_use (c_draw _ _ _ _ _ _ _ _ _ _ _ _ ?qI ?q0 ?q1 ?q2 ?q3 ?q4 ?q5) ?pF ?pX ?pN ?pT ?pU ?pm ?pc ?pd ?pu ?_; (case pF => k_asm); (case pX => k_asm); (case pN => k_asm); (case pT => k_asm); (case pU => (intro ta9; k_upd)); (case pm => k_mem); (case pc => k_ne); (case pd => ktr_room); (case pu => ktr_units); (case qI => assumption); (case q0 => omega); (case q1 => omega); (case q2 => omega); (case q3 => omega); (case q4 => omega); (case q5 => omega)); intro d' t' ta' h' tk' dlo' dhi' F' N'; (try dsimp only)))
local macro_rules | `(tactic| walk_at "subscriptTail") => `(tactic| (k_here; (with_reducible show wpAny _ _ (subscriptTail _ _ (Value.ref 100) (Value.int _ _)) _ _ _); k_dflt (refine' Mine.tup_item ?pF ?pX ?pl ?p0 ?p1 ?p2 ?_; (case pF => k_asm); (case pX => k_asm); (case pl => k_is); (case p0 => omega); (case p1 => (simp only [List.length_cons, List.length_nil]; omega)); (case p2 => decide)); intro v9 hv9; (obtain ⟨nm9, tn9, en9, nmz9, nmk9⟩ := Mine.names_of hv9 (by decide +kernel)); subst en9; clear hv9))
local macro_rules | `(tactic| walk_at "subscriptTail") => `(tactic| (k_here; (with_reducible show wpAny _ _ (subscriptTail _ _ (Value.ref 101) (Value.int _ _)) _ _ _); k_dflt (refine' Mine.tup_item ?pF ?pX ?pl ?p0 ?p1 ?p2 ?_; (case pF => k_asm); (case pX => k_asm); (case pl => k_is); (case p0 => omega); (case p1 => (simp only [List.length_cons, List.length_nil]; omega)); (case p2 => decide)); intro v9 hv9; (obtain ⟨bt9, tb9, eb9, bok9⟩ := Mine.bits_of hv9 (by decide +kernel)); subst eb9; clear hv9))
local macro_rules | `(tactic| walk_at "call builtin:bytes.join") => `(tactic| (k_here; (with_reducible rename BytesAre _ _ => hb9); (refine Mine.call_join (News.get (by k_asm) (by k_mem)) hb9 ?hz ?_; (case hz => assumption)); intro t' k'))
local macro_rules | `(tactic| walk_at "exec Assign cons ListComp") => `(tactic| (k_here; refine Mine.Halt.out ?_))
local macro_rules | `(tactic| walk_at "exec While BoolOp") => `(tactic| (k_here; (with_reducible rename Mine.StopIf => si9); refine Mine.Halt.out ?_))
local macro_rules | `(tactic| walk_at "exec For Name Name cons nil") => `(tactic| (k_here; (with_reducible rename Mine.StopIf => si9); refine Mine.Halt.out ?_))
local macro_rules | `(tactic| walk_at "exec If") => `(tactic| (k_here; (with_reducible rename Mine.StopIf => si9); refine Mine.Halt.out ?_))
local macro_rules | `(tactic| walk_at "getMethod bytes") => `(tactic| (k_here; (with_reducible refine Mine.method_join ?_)))
local macro_rules | `(tactic| walk_at "eval ListComp") => `(tactic| (k_here; k_dflt (refine LCg.ListComp_U (F₀ := by k_asm) (by with_unfolding_all rfl) (by decide) (by rfl) (by decide) (by rfl) ?_)))
local macro_rules | `(tactic| walk_at "CompSrc") => `(tactic| (refine Mine.Halt.out ?_))
local macro_rules | `(tactic| walk_at "clear all") => `(tactic| (
  (try ((with_reducible rename Ground _ _ _ _ _ _ _ _ _ => z9); clear z9))
  (try ((with_reducible rename Flt.MathXP _ _ _ => z9); clear z9))
  (try ((with_reducible rename LooseAre _ _ _ => z9); clear z9))
  (try ((with_reducible rename Tables _ _ _ _ => z9); clear z9))
  (try ((with_reducible rename TopE _ _ _ _ => z9); clear z9))
  (try ((with_reducible rename TopW _ _ _ => z9); clear z9))
  (try ((with_reducible rename Well _ _ _ _ => z9); clear z9))
  (try ((with_reducible rename Reads _ _ _ _ => z9); clear z9))
  (try ((with_reducible rename ReadsAll _ _ _ _ => z9); clear z9))
  (try ((with_reducible rename Dflts _ _ _ => z9); clear z9))
  (try ((with_reducible rename CellsAre _ _ _ => z9); clear z9))
  (try ((with_reducible rename IsRange _ _ _ _ _ _ _ _ => z9); clear z9))))
set_option maxRecDepth 100000 in
set_option maxHeartbeats 8000000 in
theorem law_holds : PySem.Challenge.rw_nz0271_01.Holds := hd (by
  w_top off
  k_go0
  all_goals try k_fold
  have sb : StopB := ⟨⟩
  k_steps
  constructor
  (with_reducible rename Mine.StopB => sb)
  clear sb
  refine cells_mono (by k_asm) (by k_asm) ?_ ?_
  · k_steps
    · (with_reducible rename News _ _ _ _ => NN)
      (with_reducible rename Fr _ _ _ _ => FF)
      (with_reducible rename IntsAre _ _ => hI9)
      (with_reducible rename (_ ∧ _) => l9)
      exact ⟨_, _, _, _, _, _, rfl, rfl, FF, news_ends3 NN, hI9, by omega, by omega, l9.2⟩
    · (with_reducible rename News _ _ _ _ => NN)
      (with_reducible rename Fr _ _ _ _ => FF)
      (with_reducible rename (_ ∧ _) => l9)
      exact ⟨_, _, [0], _, _, _, rfl, rfl, FF, news_ends4 (ws := [_]) NN, .cons 0 _ .nil, by decide, by decide, l9.2.2⟩
  · intro CS ws ns n h' tk' F' N' hI hn0 hn1 hlt
    replace hlt := ltN hlt
    k_steps
    constructor
    refine law_loop (w := _) (by rfl) (by rfl) (by assumption) (by omega) (by omega) (by k_asm) (by k_asm) (by rfl) ?hm ?_ ?_
    case hm => with_unfolding_all exact List.forall_mem_cons.mpr ⟨rfl, List.forall_mem_cons.mpr ⟨rfl, List.forall_mem_nil _⟩⟩
    · intro i v h tk own a ta xs recs k dv TL W u hi hv hW hoff hoTL hoW hLF hlen ha0 ha1 hdv hok F9 N9
      obtain ⟨tv, rfl⟩ := hv
      dsimp only [kstB] at F9
      have hi9 : (i : Int) < 10 := by omega
      have hxs9 : xs.length ≤ 10 := by have := hLF.1; omega
      walk_at "clear all"
      k_steps
      constructor
      refine LCg.CompSrc.range (by rfl) (by k_asm) (by k_asm) (by assumption) (small_one (by omega) (by omega) (by omega) (by omega)) (rangeSize_nat _ _) (by rw [sizeLine_eq]; omega) ?_
      intro g
      refine rest_bits_law (fun b => b.size ≤ 10 ∧ crOk b.toList = true) ?_ ?_
      · intro i2 ta2 I oI C oC D m₂ ys h2 tk2 E2 hi2 hC2 F2 N2 off2 ne2
        simp only [LCg.Off3] at off2
        k_steps
        all_goals try with_reducible exact (by assumption : _ ∧ _).1
        all_goals try with_reducible exact (by assumption : _ ∧ _).2
        all_goals k_asm
      · intro ys cs ta9 hb hok9 hl9
        unfold LCg.FinE
        intro D h2 tk2 F2 N2 o1
        have hz9 : (catB cs).size ≤ 500000 := by have := catB_sizeLe (n := 10) (fun c hc => (hok9 c hc).1); omega
        have hcr9 : crOk (catB cs).toList = true := catB_crOk fun c hc => (hok9 c hc).2
        k_steps
        refine Mine.call_join (n := _) (News.get N2 (.head _)) hb (by omega) ?_
        intro tj kj
        rename Array UInt8 => nm
        generalize hrw : catB cs = rw at *
        replace N2 := news_drop N2
        clear hrw hok9 hl9 hb o1
        have si9 : StopIf := ⟨⟩
        k_steps
        constructor
        (with_reducible rename Mine.StopIf => si9)
        clear si9
        have hrok : RecOk (nm, rw) := by
          (with_reducible rename (_ ↔ _) => nmk9)
          exact ⟨by assumption, hz9, hcr9, nmk9⟩
        (with_reducible rename (_ ∧ _ ∧ _ ∧ _ ∧ AllLt _ _) => l19)
        have off9 := Mine.offs l19 (by assumption)
        rcases hdv with ⟨hd0, rfl⟩ | ⟨x0, tx0, hd0, rfl⟩
        · k_steps
          · constructor
            refine Mine.Assign_ListComp_VT (by k_asm) (by rfl) (by with_unfolding_all rfl) (by with_unfolding_all rfl) (by decide) (by rfl) (by decide) (by rfl) (by rfl) (by rfl) ?_
            k_steps
            refine ⟨_, _, _, by k_asm, by k_asm, ?_, iter_bytes rfl, ?_⟩
            · rw [sizeLine_eq]; omega
            rintro s₂ ⟨g2, rfl⟩
            refine rest_sift rw (fun c => !(c == 10 || c == 13)) ?_ ?_ ?_
            · intro c t I oI C oC D m₂ ys h tk E' hc hx F N ne
              k_steps
              · exact congrArg (fun b => !b) (crlf_any c)
              · k_asm
              · first
                  | k_asm
                  | ((with_reducible rename News _ _ _ _ => NN); exact news_drop NN)
            · intro c t I oI C oC D m₂ ys h tk E' hc hx F N ne
              k_steps
              all_goals k_asm
            · intro ys hys
              unfold LCg.FinA
              intro D h3 tk3 F3 N3 o3
              clear o3
              have si9 : StopIf := ⟨⟩
              k_steps
              constructor
              (with_reducible rename Mine.StopIf => si9)
              clear si9
              refine plain_mono ((plainOf rw).dropWhile isWhite) (by k_asm) (by with_unfolding_all rfl) (by k_asm) ?_ ?_
              · refine while_plain (z := _) (plainOf rw) (by rfl) (by k_asm) (by with_unfolding_all rfl) (by with_unfolding_all rfl) (by k_asm) hys ?_
                intro k2 D' ys' n' u2 h₁ tk₁ hI2 hk2 hdw F₁ N₁
                dsimp only [kstB] at F₁
                have hl9 : (natsOf (List.drop k2 (plainOf rw))).length ≤ 500000 := plain_len hz9
                k_steps
                · (with_reducible rename News _ _ _ _ => NN)
                  (with_reducible rename Fr _ _ _ _ => FF)
                  (with_reducible rename (decide _ = _) => e1)
                  refine plain_stop FF (news_drop NN) (by with_unfolding_all rfl) (by with_unfolding_all rfl) hI2 (plain_nil e1 hdw)
                · (with_reducible rename News _ _ _ _ => NN)
                  (with_reducible rename Fr _ _ _ _ => FF)
                  (with_reducible rename (decide _ = _) => e1)
                  (with_reducible rename (List.any _ _ = _) => e2)
                  (with_reducible rename IntsAre _ _ => hI9)
                  refine plain_step FF (news_drop3 NN) (by with_unfolding_all rfl) (by with_unfolding_all rfl) (plain_ints hI9) (plain_yes e1 e2 hdw).1 (plain_yes e1 e2 hdw).2
                · (with_reducible rename News _ _ _ _ => NN)
                  (with_reducible rename Fr _ _ _ _ => FF)
                  (with_reducible rename (decide _ = _) => e1)
                  (with_reducible rename (List.any _ _ = _) => e2)
                  refine plain_stop FF (news_drop (news_drop NN)) (by with_unfolding_all rfl) (by with_unfolding_all rfl) hI2 (plain_no e1 e2 hdw)
              · intro h4 tk4 m4 D4 ys4 n4 F4 N4 hI4 hm4
                rw [canon hm4] at F4
                dsimp only [kstB] at F4
                have hl9 : (natsOf (List.dropWhile isWhite (plainOf rw))).length ≤ 500000 := white_len hz9
                have si9 : StopIf := ⟨⟩
                k_steps
                constructor
                (with_reducible rename Mine.StopIf => si9)
                clear si9
                refine word_mono ((plainOf rw).dropWhile isWhite) (by k_asm) (by with_unfolding_all rfl) (by k_asm) ?_ ?_
                · (with_reducible rename Fr _ _ _ _ => lF')
                  (with_unfolding_all refine' For_invVF lF' ?k1 ?k2 ?_)
                  case k1 => exact rfl
                  case k2 => exact rfl
                  k_steps
                  constructor
                  refine word_loop ((plainOf rw).dropWhile isWhite) (by rfl) (by rfl) (by k_asm) (by with_unfolding_all rfl) (by with_unfolding_all rfl) (by k_asm) hI4 ?_
                  intro i2 c t2 tw u5 h5 tk5 own5 hi5 hc5 hoff5 F5 N5
                  dsimp only [kstB] at F5
                  have hc9 : c.toNat < 256 := UInt8.toNat_lt c
                  have hw9 : (lowsTo ((plainOf rw).dropWhile isWhite) i2).cps.size ≤ 500000 := Nat.le_trans (lowsTo_size _ _) (by simpa using hl9)
                  k_steps
                  all_goals (try dsimp only)
                  · (with_reducible rename News _ _ _ _ => NN)
                    (with_reducible rename Fr _ _ _ _ => FF)
                    (with_reducible rename (List.any _ _ = _) => e2)
                    exact word_brk FF (news_drop NN) (by with_unfolding_all rfl) (by with_unfolding_all rfl) e2
                  all_goals
                    (with_reducible rename News _ _ _ _ => NN)
                    (with_reducible rename Fr _ _ _ _ => FF)
                    (with_reducible rename (List.any _ _ = _) => e2)
                    exact word_next FF (news_drop NN) (by with_unfolding_all rfl) (by with_unfolding_all rfl) (word_str hc5 (by unfold lowN; split <;> omega)) e2
                · intro h5 tk5 m5 t5 F5 N5 hm5
                  rw [canon hm5] at F5
                  dsimp only [kstB] at F5
                  (with_reducible rename (@Eq Int _ _) => h25)
                  k_steps
                  · (with_reducible rename News _ _ _ _ => NN)
                    (with_reducible rename Fr _ _ _ _ => FF)
                    (with_reducible rename ((_ != _) = _) => e3)
                    refine law_end (h₀ := _) FF NN hW hoff hoTL off9.1 off9.2.1 off9.2.2.1 off9.2.2.2 (fun p hp => hp) hLF hlen (by omega) (by omega) (.inr ⟨wordOf ((plainOf rw).dropWhile isWhite), _, (by rw [dueOf_snoc, hd0, if_pos (by dsimp only; omega)]; exact congrArg some (due_yes e3)), rfl⟩) hok hrok (by with_unfolding_all exact List.forall_mem_cons.mpr ⟨rfl, List.forall_mem_cons.mpr ⟨rfl, List.forall_mem_nil _⟩⟩)
                  · (with_reducible rename News _ _ _ _ => NN)
                    (with_reducible rename Fr _ _ _ _ => FF)
                    (with_reducible rename ((_ != _) = _) => e3)
                    refine law_end (h₀ := _) FF NN hW hoff hoTL off9.1 off9.2.1 off9.2.2.1 off9.2.2.2 (fun p hp => hp) hLF hlen (by omega) (by omega) (.inr ⟨Str.ofString "7bit", _, (by rw [dueOf_snoc, hd0, if_pos (by dsimp only; omega)]; exact congrArg some (due_no e3)), rfl⟩) hok hrok (by with_unfolding_all exact List.forall_mem_cons.mpr ⟨rfl, List.forall_mem_cons.mpr ⟨rfl, List.forall_mem_nil _⟩⟩)
          · (with_reducible rename (@Ne Int _ _) => h25)
            (with_reducible rename News _ _ _ _ => NN)
            (with_reducible rename Fr _ _ _ _ => FF)
            refine law_end (h₀ := _) FF NN hW hoff hoTL off9.1 off9.2.1 off9.2.2.1 off9.2.2.2 (fun p hp => hp) hLF hlen (by omega) (by omega) (.inl ⟨?h3, rfl⟩) hok hrok ?hp
            case h3 => rw [dueOf_snoc, hd0, if_neg (by dsimp only; omega)]; rfl
            case hp => with_unfolding_all exact List.forall_mem_cons.mpr ⟨rfl, List.forall_mem_cons.mpr ⟨rfl, List.forall_mem_nil _⟩⟩
        · k_steps
          (with_reducible rename News _ _ _ _ => NN)
          (with_reducible rename Fr _ _ _ _ => FF)
          simp only [List.push_toArray] at NN
          refine law_end (h₀ := _) FF NN hW hoff hoTL off9.1 off9.2.1 off9.2.2.1 off9.2.2.2 (fun p hp => hp) hLF hlen (by omega) (by omega) (.inr ⟨x0, tx0, ?h3, rfl⟩) hok hrok ?hp
          case h3 => rw [dueOf_snoc, hd0]; rfl
          case hp => with_unfolding_all exact List.forall_mem_cons.mpr ⟨rfl, List.forall_mem_cons.mpr ⟨rfl, List.forall_mem_nil _⟩⟩
    · intro m₁ h tk a ta xs recs k dv TL hlen hm hLF hdv hok F N
      rw [canon hm] at F
      dsimp only [kstB] at F
      have hsz9 : ∀ r ∈ recs, r.1.size ≤ 500000 ∧ r.2.size ≤ 500000 := fun r hr => ⟨(hok r hr).nm, (hok r hr).rw⟩
      have hfl9 := field_list hLF N
      have hen9 := enc_due hok
      rcases hdv with ⟨hd0, rfl⟩ | ⟨x0, tx0, hd0, rfl⟩
      · rw [hd0] at hen9
        have hen8 : encOf recs = Str.ofString "7bit" := hen9
        k_steps
      · rw [hd0] at hen9
        have hen8 : encOf recs = x0 := hen9
        k_steps)
end Mine
end
theorem PySem.Challenge.cw_nz0271_01_holds : PySem.Challenge.rw_nz0271_01.Holds := by
  exact Mine.law_holds
