import PyProof.Rows.All
import Wide.All
import OpenK.AllK
import Wide.FinOn
import PySem.Challenge.RW_no0052_01
open PySem PySem.W PyProof.Rows PySem.Calls
set_option Elab.async false
set_option maxRecDepth 100000
namespace Mine
set_option maxRecDepth 100000 in
set_option maxHeartbeats 8000000 in
open_top hd for PySem.Challenge.rw_no0052_01
end Mine
namespace Mine
/-- what a step keeps: every object but those of a ledger -/
def Keeps (news : List (Addr × Obj)) (h g : Heap) : Prop := ∀ b o, b ∉ news.map (·.1) → h.get? b = some o → g.get? b = some o
theorem Keeps.fr {h₀ h h' : Heap} {L : Addr} {m : Str → Option Value} {news : List (Addr × Obj)} (F : Fr h₀ L h m) (N : News h₀ L h news) (k : Keeps news h h') : Fr h₀ L h' m := by
  obtain ⟨oL, es, ep, hL, r⟩ := F.ns
  refine ⟨⟨oL, es, ep, k L oL (fun q => ?_) hL, r⟩, fun b o e => k b o (fun q => ?_) (F.keep b o e), F.above⟩
  · obtain ⟨p, hp, e⟩ := List.mem_map.mp q
    exact (N p hp).2.1 e
  · obtain ⟨p, hp, rfl⟩ := List.mem_map.mp q
    rw [(N p hp).2.2] at e; cases e
/-- entering a def without cells: the base is the heap less what the ledger names -/
theorem enterP {prog : Program} {w : World} {A : Around} {s : Shared} {h₀ : Heap} {L : Addr} {m mg mb : Str → Option Value} {news : List (Addr × Obj)} {K : Frag} {p : Program} {loose : List Str} {mean : ExcName → Option Value}
    {R : Result → Shared → Prop} {name qual : Str} {params : Arguments} {body : List Stmt} {scope : Scope} {dV kV doc pm cdv ct oc : Value} {an od : Option Addr} {osl : Array (Option Value)} {f : Addr} {args : Args} {binds : List (Str × Value)}
    (F : Fr h₀ L s.heap m) (X₀ : K.In h₀) (N : News h₀ L s.heap news) (T : Top p loose mean mg mb h₀)
    (ho : K.lookup f = some ⟨oc, od, .func (fnOf name qual params body scope dV kV doc pm an cdv ct), osl⟩) (hcd : codeIn K cdv qual = true) (hroom : A.depth < recursionLimit)
    (hbind : BindsTo s (fnOf name qual params body scope dV kV doc pm an cdv ct) args binds) (hloc : ∀ y ∈ binds, scope.names.lookup y.1 = some .local)
    (h : ∀ g L' h₁, Keeps news s.heap g → h₀.StaysIn g → Fr g L' h₁ (fun y => binds.reverse.lookup y) → News g L' h₁ news → K.In g → Top p loose mean mg mb g →
      wpAny (model prog w) (A.deeper (envOf qual scope L' f cdv)) (execs body (envOf qual scope L' f cdv))
        (fun fl s' => R (.ok (.ret (match fl with | .ret v => v | _ => .none))) s') (fun _ _ => False) { s with heap := h₁, toks := s.toks + binds.length })
    (hco : scope.isCoroutine = false) (hgen : scope.isGenerator = false) (hk : scope.kind = .function)
    (hcell : ∀ x ∈ scope.names, x.2 ≠ .cell) : codeAny (model prog w) A (.call (.ref f) args) R s := by
  have nm : ∀ b o, h₀.get? b = some o → b ∉ news.map (·.1) := fun b o e q => by
    obtain ⟨p, hp, rfl⟩ := List.mem_map.mp q
    rw [(N p hp).2.2] at e; cases e
  have st : h₀.StaysIn (hideAll s.heap (news.map (·.1))) := fun b o e => hideAll_get _ (F.keep b o e) (nm b o e)
  refine codeAny_call_def (fd := fnOf name qual params body scope dV kV doc pm an cdv ct) (body := body) (binds := binds) hroom ((X₀.keeps F.keep) _ _ ho) rfl (T.nolimit.keeps F.keep) (codeRec_of (X₀.keeps F.keep) hcd) rfl hbind hcell hloc (fun h₁ hns hk₁ => ?_) hco hgen hk
  exact wpAny_mono (h (hideAll s.heap (news.map fun q : Addr × Obj => q.1)) s.heap.objs.size h₁ (fun b o hb e => hideAll_get _ e hb) st ⟨hns, fun b o e => hk₁ b o (of_hideAll _ e), Nat.le_of_eq (hideAll_size _ _)⟩
    (fun p hp => ⟨hk₁ _ _ (N p hp).1, Nat.ne_of_lt (Heap.lt_size (N p hp).1), hideAll_none _ (List.mem_map_of_mem hp)⟩) (X₀.keeps st) (T.keeps st)) (fun _ _ x => x) fun _ _ x => x.elim
/-- the same where the def has cells -/
theorem enterC {prog : Program} {w : World} {A : Around} {s : Shared} {h₀ : Heap} {L : Addr} {m mg mb : Str → Option Value} {news : List (Addr × Obj)} {K : Frag} {p : Program} {loose : List Str} {mean : ExcName → Option Value}
    {R : Result → Shared → Prop} {name qual : Str} {params : Arguments} {body : List Stmt} {scope : Scope} {dV kV doc pm cdv ct oc : Value} {an od : Option Addr} {osl : Array (Option Value)} {f : Addr} {args : Args} {binds : List (Str × Value)}
    (F : Fr h₀ L s.heap m) (X₀ : K.In h₀) (N : News h₀ L s.heap news) (T : Top p loose mean mg mb h₀)
    (ho : K.lookup f = some ⟨oc, od, .func (fnOf name qual params body scope dV kV doc pm an cdv ct), osl⟩) (hcd : codeIn K cdv qual = true) (hroom : A.depth < recursionLimit)
    (hbind : BindsTo s (fnOf name qual params body scope dV kV doc pm an cdv ct) args binds)
    (hkind : (binds.all fun y => scope.names.lookup y.1 == some .local || scope.names.lookup y.1 == some .cell) = true)
    (hnd : ((cellsFrom 0 scope.names []).map (·.1)).Nodup)
    (h : ∀ g L' h₁ tk cells, Keeps news s.heap g → h₀.StaysIn g → Fr g L' h₁ (bindL (envOfC qual scope L' f cdv).kindOf binds fun _ => none) → News g L' h₁ (cells ++ news) →
      CellsAre (bindC (envOfC qual scope L' f cdv).kindOf binds fun _ => none) (cellsFrom (L' + 1) scope.names []) cells → K.In g → Top p loose mean mg mb g → (∀ p ∈ news, p.1 < L') →
      wpAny (model prog w) (A.deeper (envOfC qual scope L' f cdv)) (execs body (envOfC qual scope L' f cdv))
        (fun fl s' => R (.ok (.ret (match fl with | .ret v => v | _ => .none))) s') (fun _ _ => False) { s with heap := h₁, toks := tk })
    (hco : scope.isCoroutine = false) (hgen : scope.isGenerator = false) (hk : scope.kind = .function) : codeAny (model prog w) A (.call (.ref f) args) R s := by
  have nm : ∀ b o, h₀.get? b = some o → b ∉ news.map (·.1) := fun b o e q => by
    obtain ⟨p, hp, rfl⟩ := List.mem_map.mp q
    rw [(N p hp).2.2] at e; cases e
  have st : h₀.StaysIn (hideAll s.heap (news.map (·.1))) := fun b o e => hideAll_get _ (F.keep b o e) (nm b o e)
  refine codeAny_call_function hroom ((X₀.keeps F.keep) _ _ ho) rfl hco hgen rfl (codeRec_of (X₀.keeps F.keep) hcd) (hbind _ _ _ _ ?_)
  refine wpAny_newFunctionEnv_cells hk (kindsX hkind _) fun env' he s' x => ?_
  subst he
  refine ⟨(T.nolimit.keeps F.keep).keeps x.toInCall.keep, codeAny_func ?_⟩
  obtain ⟨h₁, tk, rfl, _⟩ := x.done
  have hk₁ := x.toInCall.keep
  obtain ⟨cells, NC, Y⟩ := Cl.news (h₀ := s.heap) (Nat.le_refl _) fun n c hm => ⟨x.cell n c (lookup_of_mem_nodup (cellsFrom_names scope.names 0 (s.heap.objs.size + 1) [] [] rfl ▸ hnd) hm), x.above n c hm⟩
  refine wpAny_mono (h (hideAll s.heap (news.map fun q : Addr × Obj => q.1)) s.heap.objs.size h₁ tk cells (fun b o hb e => hideAll_get _ e hb) st ⟨x.toInCall.ns, fun b o e => hk₁ b o (of_hideAll _ e), Nat.le_of_eq (hideAll_size _ _)⟩ (fun p hp => ?_) Y (X₀.keeps st) (T.keeps st) (fun p hp => Heap.lt_size (N p hp).1)) (fun _ _ x => x) fun _ _ x => x.elim
  rcases List.mem_append.mp hp with hp | hp
  · refine ⟨(NC p hp).1, (NC p hp).2.1, ?_⟩
    cases q : (hideAll s.heap (news.map (·.1))).get? p.1 with
    | none => rfl
    | some o => have := of_hideAll _ q; rw [(NC p hp).2.2] at this; cases this
  · exact ⟨hk₁ _ _ (N p hp).1, Nat.ne_of_lt (Heap.lt_size (N p hp).1), hideAll_none _ (List.mem_map_of_mem hp)⟩
end Mine
namespace Mine
open LCg (Off1)
theorem off1_of {D : Addr} : ∀ {l : List (Addr × Obj)}, (∀ p ∈ l, p.1 ≠ D) → Off1 D l
  | [], _ => trivial
  | _ :: _, h => ⟨h _ (.head _), off1_of fun q hq => h q (.tail _ hq)⟩
theorem off1_mem {D : Addr} : ∀ {l : List (Addr × Obj)}, Off1 D l → ∀ p ∈ l, p.1 ≠ D
  | [], _, _, h => nomatch h
  | _ :: _, x, p, h => by
    rcases List.mem_cons.mp h with rfl | h
    · exact x.1
    · exact off1_mem x.2 p h
/-- how a turn of a loop ends -/
def TurnEnd (h₀ : Heap) (L I : Addr) (oI : Obj) (src : List (Addr × Obj)) (J : (Str → Option Value) → List (Addr × Obj) → Prop) (s₁ : Shared) (Q : Flow → Shared → Prop) (f : Flow) (s₂ : Shared) : Prop :=
  match f with
  | .ret v => Q (.ret v) s₂
  | .brk => Q .next s₂
  | _ => ∃ h' tk m' nx, s₂ = { s₁ with heap := h', toks := tk } ∧ Fr h₀ L h' m' ∧ News h₀ L h' ((I, oI) :: (src ++ nx)) ∧ Off1 I nx ∧ J m' nx
section
variable {prog : Program} {w : World} {A : Around} {E : Value → Shared → Prop} {s : Shared} {env : Env} {h₀ : Heap} {x : Str} {body : List Stmt} {Q : Flow → Shared → Prop}
theorem loopF {I : Addr} {fp : List Addr} {n : Nat} {P : Nat → Value → Prop} {St : Nat → Heap → Prop} {m₀ : Str → Option Value} {news : List (Addr × Obj)} (src : List (Addr × Obj)) (J : Nat → (Str → Option Value) → List (Addr × Obj) → Prop)
    (W : Walks prog w A I fp [I] n P St) (hLf : env.locals ∉ fp) (hI₀ : h₀.get? I = none) (hfp : ∀ b ∈ fp, b ≠ I → h₀.get? b ≠ none ∨ b ∈ src.map (·.1))
    (hsrc : ∀ p ∈ src, p.1 ≠ I) (hIo : ∀ i h, St i h → ∃ o, h.get? I = some o) (hst : St 0 s.heap) (F : Fr h₀ env.locals s.heap m₀) (N : News h₀ env.locals s.heap (src ++ news)) (off : ∀ p ∈ news, p.1 ≠ I) (hj : J 0 m₀ news)
    (turn : ∀ i v m₁ news₁ h tk oI, i < n → P i v → J i m₁ news₁ → Off1 I news₁ → Fr h₀ env.locals h (fun y => if y = x then some v else m₁ y) → News h₀ env.locals h ((I, oI) :: (src ++ news₁)) →
      wpAny (model prog w) A (execs body env) (TurnEnd h₀ env.locals I oI src (J (i + 1)) { s with heap := h, toks := tk } Q) E { s with heap := h, toks := tk })
    (done : ∀ m₁ news₁ h tk, J n m₁ news₁ → Fr h₀ env.locals h m₁ → News h₀ env.locals h (src ++ news₁) → Q .next { s with heap := h, toks := tk }) :
    LoopAtV prog w A h₀ env x body Q E (.ref I) s := by
  refine ⟨I, fp, [I], n, P, St, m₀, src ++ news, fun i m nx => ∃ nx', nx = src ++ nx' ∧ J i m nx', rfl, W, hLf, ?_, ?_, hst, F, N, ⟨news, rfl, hj⟩, ?_, ?_⟩
  · intro b hb
    rw [List.mem_singleton.mp hb]; exact hI₀
  · intro p hp hm
    have := List.mem_singleton.mp hm
    rcases List.mem_append.mp hp with hp | hp
    · exact hsrc p hp this
    · exact off p hp this
  · rintro i v m₁ news₁ s₁ own ⟨hh', tk', rfl⟩ hin hP ⟨nx, rfl, hJ⟩ hoff hown hget hall hst' F₁ N₁
    obtain ⟨oI, hoI⟩ := hIo _ _ hst'
    have hIown : (I, oI) ∈ own := hall I (W.sub I (List.mem_singleton.mpr rfl)) hI₀ oI hoI
    have N₂ : News h₀ env.locals hh' ((I, oI) :: (src ++ nx)) := fun p hp => by
      rcases List.mem_cons.mp hp with rfl | hp
      · exact N₁ _ (List.mem_append_left _ hIown)
      · exact N₁ _ (List.mem_append_right _ hp)
    have hownIs : ∀ p ∈ own, p = (I, oI) ∨ p ∈ src := fun p hp => by
      by_cases hpI : p.1 = I
      · left
        have h1 := hget p hp
        rw [hpI] at h1
        have h2 : p.2 = oI := by
          have := h1.symm.trans hoI
          exact Option.some.inj this
        rw [← hpI, ← h2]
      · right
        rcases hfp p.1 (hown p hp) hpI with h1 | h1
        · exact absurd (N₁ p (List.mem_append_left _ hp)).2.2 h1
        · obtain ⟨q, hq, e⟩ := List.mem_map.mp h1
          have h2 := (N₁ q (List.mem_append_right _ (List.mem_append_left _ hq))).1
          have h3 := hget p hp
          have e' : q.1 = p.1 := e
          rw [e'] at h2
          have h4 : q.2 = p.2 := Option.some.inj (h2.symm.trans h3)
          have : q = p := Prod.ext e' h4
          exact this ▸ hq
    refine wpAny_mono (turn i v m₁ nx hh' tk' oI hin hP hJ (off1_of fun p hp h => hoff p (List.mem_append_right _ hp) (List.mem_singleton.mpr h)) F₁ N₂) (fun f s₂ p => ?_) fun _ _ e => e
    have fin : (∃ h' tk m' nx, s₂ = { ({ s with heap := hh', toks := tk' } : Shared) with heap := h', toks := tk } ∧ Fr h₀ env.locals h' m' ∧ News h₀ env.locals h' ((I, oI) :: (src ++ nx)) ∧ Off1 I nx ∧ J (i + 1) m' nx) →
        LoopStepU h₀ env.locals [I] own (fun m nx => ∃ nx', nx = src ++ nx' ∧ J (i + 1) m nx') { s with heap := hh', toks := tk' } .next s₂ := by
      rintro ⟨h', tk, m', nx', e, F', N', ho, hJ'⟩
      refine ⟨rfl, h', tk, m', src ++ nx', e, F', fun p hp => ?_, fun p hp hq => ?_, ⟨nx', rfl, hJ'⟩⟩
      · rcases List.mem_append.mp hp with hp | hp
        · rcases hownIs p hp with rfl | hp
          · exact N' _ (.head _)
          · exact N' _ (.tail _ (List.mem_append_left _ hp))
        · exact N' _ (.tail _ hp)
      · have := List.mem_singleton.mp hq
        rcases List.mem_append.mp hp with hp | hp
        · exact hsrc p hp this
        · exact off1_mem ho p hp this
    cases f with
    | ret v => exact .ret p
    | brk => exact .brk p
    | next => exact .next (fin p)
    | cont => exact .cont (fin p)
  · rintro h' tk m' news' F' N' _ ⟨nx, rfl, hJ⟩
    exact done m' nx h' tk hJ F' N'
theorem TurnEnd.next {L I : Addr} {oI : Obj} {src nx all : List (Addr × Obj)} {J : (Str → Option Value) → List (Addr × Obj) → Prop} {s₁ : Shared} {h' : Heap} {tk : Nat} {m' : Str → Option Value}
    (F : Fr h₀ L h' m') (N : News h₀ L h' all) (hJ : J m' nx) (sub : ∀ p ∈ (I, oI) :: (src ++ nx), p ∈ all) (off : Off1 I nx) : TurnEnd h₀ L I oI src J s₁ Q .next { s₁ with heap := h', toks := tk } :=
  ⟨h', tk, m', nx, rfl, F, fun p hp => N p (sub p hp), off, hJ⟩
/-- a for over a tuple of the base -/
theorem loop_tuple {t : Addr} {items : Array Value} {m₀ : Str → Option Value} {news : List (Addr × Obj)} (J : Nat → (Str → Option Value) → List (Addr × Obj) → Prop)
    (hh : A.handled = none) (ht : h₀.IsTuple t items) (F : Fr h₀ env.locals s.heap m₀) (N : News h₀ env.locals s.heap news) (hj : J 0 m₀ news)
    (turn : ∀ I i v m₁ news₁ h tk oI, items[i]? = some v → J i m₁ news₁ → Off1 I news₁ → Fr h₀ env.locals h (fun y => if y = x then some v else m₁ y) → News h₀ env.locals h ((I, oI) :: news₁) →
      wpAny (model prog w) A (execs body env) (TurnEnd h₀ env.locals I oI [] (J (i + 1)) { s with heap := h, toks := tk } Q) E { s with heap := h, toks := tk })
    (done : ∀ m₁ news₁ h tk, J items.size m₁ news₁ → Fr h₀ env.locals h m₁ → News h₀ env.locals h news₁ → Q .next { s with heap := h, toks := tk }) :
    wpAny (model prog w) A (pyIter (.ref t)) (fun it s₂ => LoopAtV prog w A h₀ env x body Q E it s₂) E s := by
  have hts : s.heap.IsTuple t items := by
    obtain ⟨o, ho, r⟩ := ht
    exact ⟨o, F.keep _ _ ho, r⟩
  obtain ⟨ot, hot, _⟩ := id ht
  have hlt : t < h₀.objs.size := Heap.lt_size hot
  have hne : t ≠ s.heap.objs.size := Nat.ne_of_lt (Nat.lt_trans (Nat.lt_of_lt_of_le hlt F.above) F.ns.lt)
  refine wpAny_pyIter_tuple hts ?_
  have W := Walks.tuple (prog := prog) (w := w) hh s.heap.objs.size t hne items
  refine loopF [] J W ?_ (next_is_new F) ?_ (fun _ h => nomatch h) (fun i h st => by obtain ⟨o, e, _⟩ := st.1; exact ⟨o, e⟩) ⟨⟨_, Heap.get?_push_size _ rfl, rfl, rfl⟩, ?_⟩ (F.push _) (fun p hp => ⟨Heap.get?_push_of_some _ (N p hp).1, (N p hp).2⟩) (fun p hp => Nat.ne_of_lt (Heap.lt_size (N p hp).1)) hj ?_ ?_
  · intro hm
    rcases List.mem_cons.mp hm with e | hm
    · exact absurd F.ns.lt (e ▸ Nat.lt_irrefl _)
    · exact absurd (Nat.lt_of_lt_of_le hlt F.above) ((List.mem_singleton.mp hm) ▸ Nat.lt_irrefl _)
  · intro b hb hbI
    rcases List.mem_cons.mp hb with e | hm
    · exact absurd e hbI
    · rw [List.mem_singleton.mp hm]
      exact .inl (by rw [hot]; exact fun e => nomatch e)
  · obtain ⟨o, ho, r⟩ := hts
    exact ⟨o, Heap.get?_push_of_some _ ho, r⟩
  · intro i v m₁ news₁ h tk oI _ hP hJ ho F₁ N₁
    exact turn _ i v m₁ news₁ h tk oI hP hJ ho F₁ N₁
  · intro m₁ news₁ h tk hJ F₁ N₁
    exact done m₁ news₁ h tk hJ F₁ N₁
/-- a for over a list that stands in the base or in the ledger (src: its entry, or none) -/
theorem loop_list {l : Addr} {items : Array Value} {m₀ : Str → Option Value} {news : List (Addr × Obj)} (src : List (Addr × Obj)) (J : Nat → (Str → Option Value) → List (Addr × Obj) → Prop)
    (hh : A.handled = none) (hl : s.heap.IsList l items) (hsrc : h₀.get? l ≠ none ∨ l ∈ src.map (·.1)) (F : Fr h₀ env.locals s.heap m₀) (N : News h₀ env.locals s.heap (src ++ news)) (hlL : l ≠ env.locals) (hj : J 0 m₀ news)
    (turn : ∀ I i v m₁ news₁ h tk oI, items[i]? = some v → J i m₁ news₁ → Off1 I news₁ → (∀ p ∈ src, p.1 ≠ I) → Fr h₀ env.locals h (fun y => if y = x then some v else m₁ y) → News h₀ env.locals h ((I, oI) :: (src ++ news₁)) →
      wpAny (model prog w) A (execs body env) (TurnEnd h₀ env.locals I oI src (J (i + 1)) { s with heap := h, toks := tk } Q) E { s with heap := h, toks := tk })
    (done : ∀ m₁ news₁ h tk, J items.size m₁ news₁ → Fr h₀ env.locals h m₁ → News h₀ env.locals h (src ++ news₁) → Q .next { s with heap := h, toks := tk }) :
    wpAny (model prog w) A (pyIter (.ref l)) (fun it s₂ => LoopAtV prog w A h₀ env x body Q E it s₂) E s := by
  obtain ⟨ol, hol, _⟩ := id hl
  have hlt : l < s.heap.objs.size := Heap.lt_size hol
  refine wpAny_pyIter_list hl ?_
  have W := Walks.list (prog := prog) (w := w) hh s.heap.objs.size l (Nat.ne_of_lt hlt) items
  refine loopF src J W ?_ (next_is_new F) ?_ (fun p hp => Nat.ne_of_lt (Heap.lt_size (N p (List.mem_append_left _ hp)).1)) (fun i h st => by obtain ⟨o, e, _⟩ := st.1; exact ⟨o, e⟩) ⟨⟨_, Heap.get?_push_size _ rfl, rfl, rfl⟩, ?_⟩ (F.push _) (fun p hp => ⟨Heap.get?_push_of_some _ (N p hp).1, (N p hp).2⟩) (fun p hp => Nat.ne_of_lt (Heap.lt_size (N p (List.mem_append_right _ hp)).1)) hj ?_ ?_
  · intro hm
    rcases List.mem_cons.mp hm with e | hm
    · exact absurd F.ns.lt (e ▸ Nat.lt_irrefl _)
    · exact hlL (List.mem_singleton.mp hm).symm
  · intro b hb hbI
    rcases List.mem_cons.mp hb with e | hm
    · exact absurd e hbI
    · rw [List.mem_singleton.mp hm]
      exact hsrc
  · obtain ⟨o, ho, r⟩ := hl
    exact ⟨o, Heap.get?_push_of_some _ ho, r⟩
  · intro i v m₁ news₁ h tk oI _ hP hJ ho F₁ N₁
    exact turn _ i v m₁ news₁ h tk oI hP hJ ho (fun p hp => Nat.ne_of_lt (Heap.lt_size (N p (List.mem_append_left _ hp)).1)) F₁ N₁
  · intro m₁ news₁ h tk hJ F₁ N₁
    exact done m₁ news₁ h tk hJ F₁ N₁
/-- a for over a range by ones -/
theorem loop_range {r : Addr} {a₀ b₀ : Int} {t₀ u₀ v₀ : Tok} {n : Nat} {m₀ : Str → Option Value} {news : List (Addr × Obj)} (J : Nat → (Str → Option Value) → List (Addr × Obj) → Prop)
    (hh : A.handled = none) (hr : IsRange s.heap r a₀ b₀ 1 t₀ u₀ v₀) (hsmall : Builtin.Range.small a₀ b₀ 1 = true) (hn : Builtin.Range.rangeSize a₀ b₀ 1 = (n : Int)) (F : Fr h₀ env.locals s.heap m₀) (N : News h₀ env.locals s.heap news) (hj : J 0 m₀ news)
    (turn : ∀ I i t m₁ news₁ h tk oI, i < n → J i m₁ news₁ → Off1 I news₁ → Fr h₀ env.locals h (fun y => if y = x then some (.int (a₀ + (i : Int)) t) else m₁ y) → News h₀ env.locals h ((I, oI) :: news₁) →
      wpAny (model prog w) A (execs body env) (TurnEnd h₀ env.locals I oI [] (J (i + 1)) { s with heap := h, toks := tk } Q) E { s with heap := h, toks := tk })
    (done : ∀ m₁ news₁ h tk, J n m₁ news₁ → Fr h₀ env.locals h m₁ → News h₀ env.locals h news₁ → Q .next { s with heap := h, toks := tk }) :
    wpAny (model prog w) A (pyIter (.ref r)) (fun it s₂ => LoopAtV prog w A h₀ env x body Q E it s₂) E s := by
  refine wpAny_pyIter_range hr hsmall ?_
  have W : Walks prog w A s.heap.objs.size [s.heap.objs.size] [s.heap.objs.size] n (fun i v => i < n ∧ ∃ t, v = .int (a₀ + i * 1) t)
      (fun i h => IsRangeIter h s.heap.objs.size (a₀ + (i : Nat) * 1) ((n : Int) - (i : Nat)) 1) := (Walks.range hh _ a₀ 1 n).bound
  refine loopF [] J W ?_ (next_is_new F) ?_ (fun _ h => nomatch h) (fun i h st => ⟨_, st⟩) (by show IsRangeIter _ _ _ _ _; rw [hn]; simpa using Heap.get?_push_size _ rfl) (F.push _) (fun p hp => ⟨Heap.get?_push_of_some _ (N p hp).1, (N p hp).2⟩) (fun p hp => Nat.ne_of_lt (Heap.lt_size (N p hp).1)) hj ?_ ?_
  · intro hm
    exact absurd F.ns.lt ((List.mem_singleton.mp hm) ▸ Nat.lt_irrefl _)
  · intro b hb hbI
    exact absurd (List.mem_singleton.mp hb) hbI
  · rintro i v m₁ news₁ h tk oI hi ⟨_, t, rfl⟩ hJ ho F₁ N₁
    have e1 : a₀ + (i : Int) * 1 = a₀ + (i : Int) := by omega
    rw [e1] at F₁
    exact turn _ i t m₁ news₁ h tk oI hi hJ ho F₁ N₁
  · intro m₁ news₁ h tk hJ F₁ N₁
    exact done m₁ news₁ h tk hJ F₁ N₁
end
end Mine
namespace Mine
theorem fill : Mine.hd.heap_39 = Mine.hd.heap_39 ∧ PySem.Challenge.rw_no0052_01 = PySem.Challenge.rw_no0052_01 := by
  w_top off
  k_fill
  exact ⟨rfl, rfl⟩
abbrev atop (dp un : Nat) (fr : Option (List Env)) (gd : Option (List Code)) : Around := { handled := none, depth := dp, frames := fr, guards := gd, units := un }
theorem fmod_range {a b : Int} (h : 0 < b) : 0 ≤ a.fmod b ∧ a.fmod b < b := by
  rw [Int.fmod_eq_emod_of_nonneg _ (by omega)]
  exact ⟨Int.emod_nonneg _ (by omega), Int.emod_lt_of_pos _ h⟩
local macro_rules | `(tactic| units_room) => `(tactic| ktr_units)
/-- the pool of the draws: its list of three -/
def PoolObj (S : Addr) (o : Obj) : Prop := ∃ p0 t0 p2 t2 n, 0 ≤ p2 ∧ o = PySem.W.listOf #[.int p0 t0, .ref S, .int p2 t2] n
set_option maxHeartbeats 4000000 in
theorem draw_walk {w : World} {dp un : Nat} {fr : Option (List Env)} {gd : Option (List Code)} {s : Shared} {h₀ : Heap} {L : Addr} {m mg mb : Str → Option Value} {loose : List Str} {mean : ExcName → Option Value}
    {l S : Addr} {op : Obj} {many : Int} {tk : Tok} {ys : List Value} {ns : List Int} {Q : Value → Shared → Prop} {E : Value → Shared → Prop}
    (F : Fr h₀ L s.heap m) (X : (Mine.hd.heap_39 w.params).In h₀) (T : Top Mine.hd.view_39 loose mean mg mb h₀) (hdp : dp + 20 < recursionLimit) (hun : un + 500 < cLine)
    (N : News h₀ L s.heap [(l, op)]) (hop : PoolObj S op) (hS : s.heap.IsList S ys.toArray) (hSl : S ≠ l) (hI : IntsAre ys ns) (hlen : ns.length ≤ 24) (hm : 0 < many)
    (h : ∀ r t h' tk' op', 0 ≤ r → r < many → PoolObj S op' → Keeps [(l, op)] s.heap h' → h'.get? l = some op' → Q (.int r t) { s with heap := h', toks := tk' }) :
    wpAny (model PySem.Challenge.rw_no0052_01.row.prog w) (atop dp un fr gd) (call (.ref 109) [.ref l, .int many tk]) Q E s := by
  obtain ⟨p0, t0, p2, t2, n, h2, rfl⟩ := hop
  (refine wpAny_call ?_; k_dflt (refine' enterP ?k1 ?k2 ?k3 ?k4 ?k6 ?k7 ?k8 ?k9 ?kB ?_ ?c2 ?c3 ?c4 ?c5; (case k1 => k_asm); (case k2 => k_asm); (case k3 => k_asm); (case k4 => k_asm); (case k6 => k_is); (case k7 => k_is); (case k8 => ktr_room); (case k9 => exact BindsTo.of_eq rfl); (case c5 => decide); (case kB => exact locs rfl); (case c2 => exact rfl); (case c3 => exact rfl); (case c4 => exact rfl); k_whole; intro g' L' h' kp' st' F' N' X' T'; (try dsimp only)))
  have hS' : g'.IsList S ys.toArray := by
    obtain ⟨o, ho, r⟩ := hS
    exact ⟨o, kp' S o (by simpa using hSl) ho, r⟩
  k_steps
  all_goals first
    | ((try dsimp only)
       refine h _ _ _ _ _ (fmod_range hm).1 (fmod_range hm).2 ⟨_, _, _, _, _, ?_, rfl⟩ (fun b o hb e => Fr.keep (by assumption) b o (kp' b o hb e)) (News.get (h₀ := g') (L := L') (by assumption) (List.Mem.tail _ (List.Mem.head _)))
       exact Int.add_nonneg h2 (by decide))
    | (exfalso; simp_all; done)
end Mine
namespace Mine
theorem wpAny_forIn_range0 {M : Model} {A : Around} {E : Value → Shared → Prop} {s : Shared} {β : Type} (n : Nat) (f : Nat → β → Sem (ForInStep β)) (I : List Nat → β → Shared → Prop) (Q : β → Shared → Prop)
    (turn : ∀ x rest b s, I (x :: rest) b s → wpAny M A (f x b) (fun r s' => match r with | .yield b' => I rest b' s' | .done b' => Q b' s') E s)
    (fin : ∀ b s, I [] b s → Q b s) (b : β) (h : I (List.range' 0 n) b s) : wpAny M A (forIn [0:n] b f) Q E s := by
  rw [Std.Legacy.Range.forIn_eq_forIn_range']
  refine wpAny_forIn_list f I Q turn fin _ b ?_
  simpa using h
set_option maxHeartbeats 1000000 in
theorem tuple_index_strs (l : Addr) (items : Array Value) (n : Nat) (x : Str) (tk : Tok) (j : Nat) (hj : j < items.size) (hs : ∀ m, m < items.size → ∃ y u, items[m]? = some (.str y u) ∧ (y = x ↔ m = j)) :
    Meets (Builtin.«tuple.index» ⟨[.ref l, .str x tk], []⟩)
      (fun _ R s => s.heap.get? l = some { cls := .type "tuple", data := .seq items n } ∧ R (.ok (.ret (.int j s.toks))) { s with toks := s.toks + 1 }) :=
  .of_wp fun prog w A R s h => by
    obtain ⟨hp, g, d, tk, os⟩ := s; obtain ⟨hl, h⟩ := h
    wp_walk using wpAny_loadPart' hl, wpAny_forIn_range0 _ _ (fun rest b s' => b.1 = none ∧ s' = ⟨hp, g, d, tk, os⟩ ∧ ∃ i, i ≤ j ∧ rest = List.range' i (items.size - i)) _
    case turn =>
      rintro i rest b s' ⟨hb, rfl, i', hi', hr⟩
      obtain ⟨k, hk⟩ : ∃ k, items.size - i' = k + 1 := ⟨items.size - i' - 1, by omega⟩
      rw [hk, List.range'_succ] at hr
      injection hr with h1 h2
      subst h1
      obtain ⟨y, u, hy, hyx⟩ := hs i (by omega)
      rw [hy]
      refine wpAny_bind (wpAny_eqBool_str ?_)
      by_cases hyx' : y = x
      · have hij := hyx.mp hyx'
        subst hij
        simp only [hyx', decide_true, if_true]
        wp_walk
        exact ⟨_, rfl, h⟩
      · have hij : i ≠ j := fun q => hyx' (hyx.mpr q)
        simp only [hyx', decide_false, Bool.false_eq_true, if_false]
        wp_walk
        refine ⟨rfl, rfl, i + 1, by omega, ?_⟩
        rw [h2]
        congr 1
        omega
    case fin =>
      rintro ⟨b1, b2⟩ s' ⟨hb, rfl, i, hi, hr⟩
      exfalso
      have : items.size - i ≠ 0 := by omega
      obtain ⟨k, hk⟩ : ∃ k, items.size - i = k + 1 := ⟨items.size - i - 1, by omega⟩
      rw [hk, List.range'_succ] at hr
      cases hr
    case h =>
      exact ⟨rfl, rfl, 0, Nat.zero_le _, by simp⟩
end Mine
namespace Mine
open LCg (Off1)
theorem fill2 : Mine.hd.heap_39 = Mine.hd.heap_39 ∧ PySem.Challenge.rw_no0052_01 = PySem.Challenge.rw_no0052_01 := by
  w_top off
  k_fill
  exact ⟨rfl, rfl⟩
def kinds : List Str := [Str.ofString "closed", Str.ofString "idle", Str.ofString "loss", Str.ofString "probe", Str.ofString "ack", Str.ofString "path"]
def kn (i : Nat) : Str := kinds.getD i (Str.ofString "")
def kvs : Array Value := #[.str (Str.ofString "closed") 189, .str (Str.ofString "idle") 190, .str (Str.ofString "loss") 191, .str (Str.ofString "probe") 192, .str (Str.ofString "ack") 193, .str (Str.ofString "path") 194]
theorem kvs_at {i : Nat} {v : Value} (h : kvs[i]? = some v) : i < 6 ∧ ∃ t, v = .str (kn i) t := by
  have hi : i < 6 := by
    have := (Array.getElem?_eq_some_iff.mp h).1
    exact this
  refine ⟨hi, ?_⟩
  match i, hi with
  | 0, _ => exact ⟨189, (Option.some.inj h).symm⟩
  | 1, _ => exact ⟨190, (Option.some.inj h).symm⟩
  | 2, _ => exact ⟨191, (Option.some.inj h).symm⟩
  | 3, _ => exact ⟨192, (Option.some.inj h).symm⟩
  | 4, _ => exact ⟨193, (Option.some.inj h).symm⟩
  | 5, _ => exact ⟨194, (Option.some.inj h).symm⟩
theorem kinds_tuple {w : World} {h : Heap} (X : (Mine.hd.heap_39 w.params).In h) : h.IsTuple 15 kvs :=
  ⟨_, X 15 _ (by k_is), rfl, _, rfl⟩
theorem fresh_of {news : List (Addr × Obj)} {h g : Heap} {a : Addr} (k : Keeps news h g) (hn : a ∉ news.map (·.1)) (e : g.get? a = none) : h.get? a = none := by
  cases q : h.get? a with
  | none => rfl
  | some o =>
    have := k _ _ hn q
    rw [e] at this; cases this
theorem Keeps.news {h₀ h h' : Heap} {L : Addr} {news : List (Addr × Obj)} (N : News h₀ L h news) (k : Keeps [] h h') : News h₀ L h' news := fun p hp => ⟨k _ _ (fun q => nomatch q) (N p hp).1, (N p hp).2⟩
theorem Keeps.more {h₀ h h' : Heap} {L : Addr} {m : Str → Option Value} {news nx : List (Addr × Obj)} (F : Fr h₀ L h m) (N : News h₀ L h news) (k : Keeps [] h h') (hx : ∀ p ∈ nx, h'.get? p.1 = some p.2 ∧ h.get? p.1 = none) : News h₀ L h' (nx ++ news) := fun p hp => by
  rcases List.mem_append.mp hp with hp | hp
  · obtain ⟨a, b⟩ := hx p hp
    refine ⟨a, fun e => ?_, ?_⟩
    · obtain ⟨oL, _, _, hL, _⟩ := F.ns
      rw [e, hL] at b; cases b
    · cases q : h₀.get? p.1 with
      | none => rfl
      | some o => have := F.keep _ _ q; rw [b] at this; cases this
  · exact Keeps.news N k p hp
theorem keeps_all {g h h' : Heap} {L : Addr} {m : Str → Option Value} (k : Keeps [] h g) (F : Fr g L h' m) : Keeps [] h h' := fun b o hb e => F.keep b o (k b o hb e)
theorem off1_fresh {h₀ h : Heap} {L D : Addr} {news : List (Addr × Obj)} (N : News h₀ L h news) (e : h.get? D = none) : Off1 D news := off1_of fun p hp q => by
  have := (N p hp).1
  rw [q, e] at this; cases this
theorem newEntry {h₀ h : Heap} {L D : Addr} {m : Str → Option Value} (F : Fr h₀ L h m) (e : h.get? D = none) : D ≠ L ∧ h₀.get? D = none := by
  refine ⟨fun q => ?_, ?_⟩
  · obtain ⟨oL, _, _, hL, _⟩ := F.ns
    rw [q, hL] at e; cases e
  · cases q : h₀.get? D with
    | none => rfl
    | some o => have := F.keep _ _ q; rw [e] at this; cases this
theorem kn_inj {i j : Nat} (hi : i < 6) (hj : j < 6) (h : kn i = kn j) : i = j := by
  revert h
  match i, hi, j, hj with
  | 0, _, 0, _ | 1, _, 1, _ | 2, _, 2, _ | 3, _, 3, _ | 4, _, 4, _ | 5, _, 5, _ => intro _; rfl
  | 0, _, 1, _ | 0, _, 2, _ | 0, _, 3, _ | 0, _, 4, _ | 0, _, 5, _ => intro h; exact absurd h (by decide)
  | 1, _, 0, _ | 1, _, 2, _ | 1, _, 3, _ | 1, _, 4, _ | 1, _, 5, _ => intro h; exact absurd h (by decide)
  | 2, _, 0, _ | 2, _, 1, _ | 2, _, 3, _ | 2, _, 4, _ | 2, _, 5, _ => intro h; exact absurd h (by decide)
  | 3, _, 0, _ | 3, _, 1, _ | 3, _, 2, _ | 3, _, 4, _ | 3, _, 5, _ => intro h; exact absurd h (by decide)
  | 4, _, 0, _ | 4, _, 1, _ | 4, _, 2, _ | 4, _, 3, _ | 4, _, 5, _ => intro h; exact absurd h (by decide)
  | 5, _, 0, _ | 5, _, 1, _ | 5, _, 2, _ | 5, _, 3, _ | 5, _, 4, _ => intro h; exact absurd h (by decide)
theorem kvs_of (i : Nat) (hi : i < 6) : ∃ t, kvs[i]? = some (.str (kn i) t) := by
  match i, hi with
  | 0, _ => exact ⟨189, rfl⟩
  | 1, _ => exact ⟨190, rfl⟩
  | 2, _ => exact ⟨191, rfl⟩
  | 3, _ => exact ⟨192, rfl⟩
  | 4, _ => exact ⟨193, rfl⟩
  | 5, _ => exact ⟨194, rfl⟩
theorem kinds_method {M : Model} {w : World} {A : Around} {E : Value → Shared → Prop} {s : Shared} {h₀ : Heap} {L : Addr} {m : Str → Option Value} {pl : Sem Bool} {Q : Value × List Value → Shared → Prop} (F : Fr h₀ L s.heap m) (X : (Mine.hd.heap_39 w.params).In h₀)
    (h : Q (.builtin "tuple.index", [.ref 15]) s) : wpAny M A (getMethod (.ref 15) "index" pl) Q E s := by
  have ho := F.keep 15 _ (X 15 _ (by k_is))
  exact getMethod_builtin ⟨_, ho, rfl⟩ PySem.F.plainAttrs_tuple PySem.F.slot_tuple_index PySem.F.type_tuple_index (fun b e => by injection e with e; subst e; exact ⟨_, ho, rfl⟩) h
theorem kinds_item {prog : Program} {w : World} {A : Around} {E : Value → Shared → Prop} {s : Shared} {h₀ : Heap} {L : Addr} {m : Str → Option Value} {Q : Value → Shared → Prop} {value slice : PySem.Expr} {i : Nat} {u : Tok} (F : Fr h₀ L s.heap m) (X : (Mine.hd.heap_39 w.params).In h₀) (hi : i < 6)
    (h : ∀ t, Q (.str (kn i) t) s) (hs : subscripted slice false (.ref 15) (.int (i : Nat) u) = operate [.ref 15, .int (i : Nat) u] (getItem (.ref 15) (.int (i : Nat) u)) := by with_unfolding_all rfl) : wpAny (model prog w) A (subscriptTail value slice (.ref 15) (.int (i : Nat) u)) Q E s := by
  obtain ⟨t, ht⟩ := kvs_of i hi
  exact topTup_K (l := kvs.toList) F X (by k_is) (by omega) (by omega) (show seqIndex? (i : Int) 6 = some i from by rw [seqIndex_of (by omega) (by omega)]; simp) (by rw [Array.getElem?_toList]; exact ht) (h t) hs
theorem kind_index {prog : Program} {w : World} {A : Around} {E : Value → Shared → Prop} {s : Shared} {h₀ : Heap} {L : Addr} {m : Str → Option Value} {Q : Value → Shared → Prop} {i : Nat} {t : Tok} (F : Fr h₀ L s.heap m) (X : (Mine.hd.heap_39 w.params).In h₀) (hi : i < 6)
    (h : Q (.int (i : Nat) s.toks) { s with toks := s.toks + 1 }) : wpAny (model prog w) A (call (.builtin "tuple.index") [.ref 15, .str (kn i) t]) Q E s := by
  have ho := F.keep 15 _ (X 15 _ (by k_is))
  refine call_meets PySem.F.slot_tuple_index ⟨_, ho, rfl⟩ PySem.F.entry_tuple_index (PySem.F.args_tuple_index_2 _ _)
    (tuple_index_strs 15 kvs 0 (kn i) t i hi fun m hm => ?_) ⟨ho, h⟩
  have hm' : m < 6 := hm
  obtain ⟨u, hu⟩ := kvs_of m hm'
  exact ⟨_, u, hu, fun e => kn_inj hm' hi e, fun e => by rw [e]⟩
end Mine
namespace Mine
/-! The sort as a tree of questions: run with answers; right for up to six things. -/
def kRun {α : Type} (c : Nat → Nat → Bool) : KasT α → α
  | .ret a => a
  | .ask i j k => kRun c (k (c i j))
def kIn {α : Type} (n : Nat) : KasT α → Bool
  | .ret _ => true
  | .ask i j k => decide (i < n) && decide (j < n) && (i != j) && kIn n (k true) && kIn n (k false)
theorem kWp_run {α : Type} {n : Nat} {c : Nat → Nat → Bool} {cmp : Nat → Nat → (Bool → Shared → Prop) → Shared → Prop} {Q : α → Shared → Prop} {s : Shared}
    (hc : ∀ i j (C : Bool → Shared → Prop), i < n → j < n → i ≠ j → C (c i j) s → cmp i j C s) : ∀ t : KasT α, kIn n t = true → Q (kRun c t) s → t.kasWp cmp Q s
  | .ret _, _, h => h
  | .ask i j k, hk, h => by
    simp only [kIn, Bool.and_eq_true, decide_eq_true_eq, bne_iff_ne, ne_eq] at hk
    obtain ⟨⟨⟨⟨hi, hj⟩, hij⟩, ht⟩, hf⟩ := hk
    refine hc i j _ hi hj hij ?_
    refine kWp_run hc (k (c i j)) ?_ h
    cases c i j with
    | true => exact ht
    | false => exact hf
/-- all ways to choose k of a list in turn -/
def sel : List Nat → Nat → List (List Nat)
  | _, 0 => [[]]
  | av, k + 1 => av.flatMap fun x => (sel (av.erase x) k).map (x :: ·)
def okFor (n : Nat) (σ : List Nat) : Bool :=
  let p := (kRun (fun i j => decide (σ.getD i 0 < σ.getD j 0)) (kas_sort n)).toList
  p.map (fun i => σ.getD i 0) == List.range n && p.all (· < n)
theorem kIn2 : kIn 2 (kas_sort 2) = true := by decide +kernel
theorem kIn3 : kIn 3 (kas_sort 3) = true := by decide +kernel
theorem kIn4 : kIn 4 (kas_sort 4) = true := by decide +kernel
theorem kIn5 : kIn 5 (kas_sort 5) = true := by decide +kernel
theorem kIn6 : kIn 6 (kas_sort 6) = true := by decide +kernel
theorem ok2 : (sel (List.range 2) 2).all (okFor 2) = true := by decide +kernel
theorem ok3 : (sel (List.range 3) 3).all (okFor 3) = true := by decide +kernel
theorem ok4 : (sel (List.range 4) 4).all (okFor 4) = true := by decide +kernel
theorem ok5 : (sel (List.range 5) 5).all (okFor 5) = true := by decide +kernel
theorem ok6 : (sel (List.range 6) 6).all (okFor 6) = true := by decide +kernel
end Mine
namespace Mine
def lx (a b : Int × Nat) : Bool := decide (a.1 < b.1) || (decide (a.1 = b.1) && decide (a.2 < b.2))
theorem lx_iff {a b : Int × Nat} : lx a b = true ↔ (a.1 < b.1 ∨ (a.1 = b.1 ∧ a.2 < b.2)) := by
  simp [lx]
theorem lx_irrefl (a : Int × Nat) : lx a a = false := by simp [lx]
theorem lx_trans {a b c : Int × Nat} (h : lx a b = true) (k : lx b c = true) : lx a c = true := by
  rw [lx_iff] at *
  omega
theorem lx_asymm {a b : Int × Nat} (h : lx a b = true) : lx b a = false := by
  cases k : lx b a with
  | false => rfl
  | true => have := lx_trans h k; rw [lx_irrefl] at this; cases this
theorem lx_total {a b : Int × Nat} (h : lx a b = false) : a = b ∨ lx b a = true := by
  obtain ⟨a1, a2⟩ := a
  obtain ⟨b1, b2⟩ := b
  have h' : ¬ (a1 < b1 ∨ (a1 = b1 ∧ a2 < b2)) := fun q => by rw [lx_iff.mpr q] at h; cases h
  by_cases e : a1 = b1 ∧ a2 = b2
  · exact .inl (by rw [e.1, e.2])
  · exact .inr (lx_iff.mpr (by show b1 < a1 ∨ (b1 = a1 ∧ b2 < a2); omega))
theorem countP_lt' {α : Type} {p q : α → Bool} : ∀ {l : List α} {x : α}, (∀ y ∈ l, p y = true → q y = true) → x ∈ l → q x = true → p x = false → l.countP p < l.countP q
  | y :: l, x, hpq, hx, hq, hp => by
    have hle : l.countP p ≤ l.countP q := List.countP_mono_left fun z hz => hpq z (.tail _ hz)
    rcases List.mem_cons.mp hx with rfl | hx
    · rw [List.countP_cons, List.countP_cons, hp, hq]
      simp only [Bool.false_eq_true, if_false, if_true]
      omega
    · have := countP_lt' (l := l) (fun z hz => hpq z (.tail _ hz)) hx hq hp
      rw [List.countP_cons, List.countP_cons]
      have hy : (if p y = true then 1 else 0) ≤ (if q y = true then 1 else 0) := by
        cases hpy : p y with
        | false => simp
        | true => simp [hpq y (.head _) hpy]
      omega
def rank (K : List (Int × Nat)) (x : Int × Nat) : Nat := K.countP fun y => lx y x
theorem rank_lt {K : List (Int × Nat)} {a b : Int × Nat} (h : lx a b = true) (ha : a ∈ K) : rank K a < rank K b :=
  countP_lt' (fun y _ hy => lx_trans hy h) ha h (lx_irrefl a)
theorem rank_bound {K : List (Int × Nat)} {a : Int × Nat} (ha : a ∈ K) : rank K a < K.length := by
  have := countP_lt' (p := fun y => lx y a) (q := fun _ => true) (l := K) (fun _ _ _ => rfl) ha rfl (lx_irrefl a)
  have e : K.countP (fun _ => true) = K.length := by
    induction K with
    | nil => rfl
    | cons x r ih => simp
  rw [e] at this
  exact this
theorem rank_iff {K : List (Int × Nat)} {a b : Int × Nat} (ha : a ∈ K) (hb : b ∈ K) : lx a b = decide (rank K a < rank K b) := by
  cases h : lx a b with
  | true => exact (decide_eq_true (rank_lt h ha)).symm
  | false =>
    refine (decide_eq_false ?_).symm
    rcases lx_total h with rfl | h
    · exact Nat.lt_irrefl _
    · exact Nat.lt_asymm (rank_lt h hb)
theorem rank_inj {K : List (Int × Nat)} {a b : Int × Nat} (ha : a ∈ K) (hb : b ∈ K) (h : rank K a = rank K b) : a = b := by
  cases k : lx a b with
  | true => have := rank_lt k ha; omega
  | false =>
    rcases lx_total k with e | k
    · exact e
    · have := rank_lt k hb; omega
theorem sel_complete : ∀ (k : Nat) (av l : List Nat), l.length = k → l.Nodup → (∀ x ∈ l, x ∈ av) → l ∈ sel av k
  | 0, av, l, hl, _, _ => by
    have : l = [] := List.eq_nil_of_length_eq_zero hl
    subst this
    simp [sel]
  | k + 1, av, [], hl, _, _ => by simp at hl
  | k + 1, av, x :: l, hl, hn, hs => by
    rw [List.nodup_cons] at hn
    refine List.mem_flatMap.mpr ⟨x, hs x (.head _), List.mem_map.mpr ⟨l, sel_complete k _ l (by simpa using hl) hn.2 fun y hy => ?_, rfl⟩⟩
    exact (List.mem_erase_of_ne (fun (e : y = x) => hn.1 (e ▸ hy))).mpr (hs y (.tail _ hy))
theorem sel_perm : ∀ (k : Nat) (av l : List Nat), k = av.length → l ∈ sel av k → l.Perm av
  | 0, av, l, hk, h => by
    have e : av = [] := List.eq_nil_of_length_eq_zero hk.symm
    subst e
    simp [sel] at h
    subst h
    exact List.Perm.nil
  | k + 1, av, l, hk, h => by
    obtain ⟨x, hx, h⟩ := List.mem_flatMap.mp h
    obtain ⟨l', hl', rfl⟩ := List.mem_map.mp h
    have := sel_perm k (av.erase x) l' (by rw [List.length_erase_of_mem hx]; omega) hl'
    exact (List.Perm.cons x this).trans (List.perm_cons_erase hx).symm
theorem kRun_congr {α : Type} {n : Nat} {c c' : Nat → Nat → Bool} (hc : ∀ i j, i < n → j < n → i ≠ j → c i j = c' i j) : ∀ t : KasT α, kIn n t = true → kRun c t = kRun c' t
  | .ret _, _ => rfl
  | .ask i j k, hk => by
    simp only [kIn, Bool.and_eq_true, decide_eq_true_eq, bne_iff_ne, ne_eq] at hk
    obtain ⟨⟨⟨⟨hi, hj⟩, hij⟩, ht⟩, hf⟩ := hk
    show kRun c (k (c i j)) = kRun c' (k (c' i j))
    rw [hc i j hi hj hij]
    refine kRun_congr hc _ ?_
    cases c' i j with
    | true => exact ht
    | false => exact hf
theorem kIn_sort {n : Nat} (h2 : 2 ≤ n) (h6 : n ≤ 6) : kIn n (kas_sort n) = true := by
  match n, h2, h6 with
  | 2, _, _ => exact kIn2
  | 3, _, _ => exact kIn3
  | 4, _, _ => exact kIn4
  | 5, _, _ => exact kIn5
  | 6, _, _ => exact kIn6
  | n + 7, _, h => omega
theorem ok_sort {n : Nat} (h2 : 2 ≤ n) (h6 : n ≤ 6) : (sel (List.range n) n).all (okFor n) = true := by
  match n, h2, h6 with
  | 2, _, _ => exact ok2
  | 3, _, _ => exact ok3
  | 4, _, _ => exact ok4
  | 5, _, _ => exact ok5
  | 6, _, _ => exact ok6
  | n + 7, _, h => omega
abbrev kd : Int × Nat := (0, 0)
theorem sort_pure {K : List (Int × Nat)} (h2 : 2 ≤ K.length) (h6 : K.length ≤ 6) (hnd : K.Nodup) :
    let p := (kRun (fun i j => lx (K.getD i kd) (K.getD j kd)) (kas_sort K.length)).toList
    p.Perm (List.range K.length) ∧ (p.map fun i => K.getD i kd).Pairwise (fun a b => lx a b = true) := by
  intro p
  have hmem : ∀ i, i < K.length → K.getD i kd ∈ K := fun i hi => by
    have e : K.getD i kd = K[i] := by simp [hi]
    rw [e]; exact List.getElem_mem hi
  have hσ : ∀ i, i < K.length → (K.map (rank K)).getD i 0 = rank K (K.getD i kd) := fun i hi => by simp [hi]
  have hp : p = (kRun (fun i j => decide ((K.map (rank K)).getD i 0 < (K.map (rank K)).getD j 0)) (kas_sort K.length)).toList := by
    show (kRun (fun i j => lx (K.getD i kd) (K.getD j kd)) (kas_sort K.length)).toList = _
    rw [kRun_congr (n := K.length) (fun i j hi hj _ => ?_) _ (kIn_sort h2 h6)]
    rw [hσ i hi, hσ j hj]
    exact rank_iff (hmem i hi) (hmem j hj)
  have hsel : K.map (rank K) ∈ sel (List.range K.length) K.length := by
    refine sel_complete _ _ _ (by simp) ?_ fun x hx => ?_
    · rw [List.nodup_iff_pairwise_ne, List.pairwise_map]
      refine List.Pairwise.imp_of_mem ?_ (List.nodup_iff_pairwise_ne.mp hnd)
      intro a b ha hb hab e
      exact hab (rank_inj ha hb e)
    · obtain ⟨a, ha, rfl⟩ := List.mem_map.mp hx
      exact List.mem_range.mpr (rank_bound ha)
  have hok := List.all_eq_true.mp (ok_sort h2 h6) _ hsel
  simp only [okFor, Bool.and_eq_true, beq_iff_eq, List.all_eq_true, decide_eq_true_eq] at hok
  rw [← hp] at hok
  obtain ⟨hmap, hlt⟩ := hok
  have hlen : p.length = K.length := by
    have := congrArg List.length hmap
    simpa using this
  have hnp : p.Nodup := by
    have h1 : (p.map fun i => (K.map (rank K)).getD i 0).Nodup := by rw [hmap]; exact List.nodup_range
    rw [List.nodup_iff_pairwise_ne] at h1 ⊢
    rw [List.pairwise_map] at h1
    exact h1.imp fun h e => h (by rw [e])
  refine ⟨sel_perm _ _ _ (by simp) (sel_complete _ _ _ hlen hnp fun x hx => List.mem_range.mpr (hlt x hx)), ?_⟩
  have h1 : (p.map fun i => (K.map (rank K)).getD i 0).Pairwise (· < ·) := by rw [hmap]; exact List.pairwise_lt_range
  rw [List.pairwise_map] at h1 ⊢
  refine List.Pairwise.imp_of_mem ?_ h1
  intro a b ha hb hab
  rw [hσ a (hlt a ha), hσ b (hlt b hb)] at hab
  rw [rank_iff (hmem a (hlt a ha)) (hmem b (hlt b hb))]
  exact decide_eq_true hab
end Mine
namespace Mine
section
variable {prog : Program} {w : World} {A : Around} {E : Value → Shared → Prop} {s : Shared} {h₀ : Heap} {L a : Addr} {m : Str → Option Value} {news : List (Addr × Obj)} {vs : List Value}
theorem list_sort_short {n : Nat} {P : PySem.Fin → Shared → Prop} (F : Fr h₀ L s.heap m) (N : News h₀ L s.heap news) (ho : s.heap.get? a = some (seqObj "list" vs.toArray n)) (haL : a ≠ L) (ha0 : h₀.get? a = none) (hna : ∀ p ∈ news, p.1 ≠ a)
    (h1 : vs.length < 2)
    (h : ∀ e1 h', Fr h₀ L h' m → News h₀ L h' ((a, seqObj "list" vs.toArray e1) :: news) → P (.done (.ret .none)) { s with heap := h' }) :
    wpAny (model prog w) A (Builtin.«list.sort» ⟨[.ref a], []⟩) P E s := by
  have ha : a < s.heap.objs.size := Heap.lt_size ho
  have s1 := Heap.SameBut.update s.heap a (Obj.mapSeq fun _ => (#[] : Array Value))
  obtain ⟨e1, ho1⟩ : ∃ e1, (s.heap.update a (Obj.mapSeq fun _ => (#[] : Array Value))).get? a = some (seqObj "list" #[] e1) := ⟨_, get?_update_seq ho fun _ => #[]⟩
  have F3 : Fr h₀ L (((s.heap.update a (Obj.mapSeq fun _ => (#[] : Array Value))).push (seqObj "tuple" vs.toArray 0)).push (seqObj "list" #[] 0)) m := ((kas_fr F s1 haL ha0).push _).push _
  have N2 : News h₀ L (((s.heap.update a (Obj.mapSeq fun _ => (#[] : Array Value))).push (seqObj "tuple" vs.toArray 0)).push (seqObj "list" #[] 0)) news :=
    (kas_news N s1 hna).grown fun b x e => Heap.get?_push_of_some _ (Heap.get?_push_of_some _ e)
  have N3 : News h₀ L (((s.heap.update a (Obj.mapSeq fun _ => (#[] : Array Value))).push (seqObj "tuple" vs.toArray 0)).push (seqObj "list" #[] 0)) ((a, seqObj "list" #[] e1) :: news) := fun p hp => by
    rcases List.mem_cons.mp hp with rfl | hp
    · exact ⟨Heap.get?_push_of_some _ (Heap.get?_push_of_some _ ho1), haL, ha0⟩
    · exact N2 p hp
  have na := N3 (a, seqObj "list" #[] e1) (.head _)
  rw [list_sort_plain]
  refine wpAny_bind (listItems_at ho rfl ?_)
  refine wpAny_bind (listUpdate_at ho rfl ?_ (by rw [List.size_toArray, sizeLine_eq]; omega) (Nat.zero_le _))
  refine wpAny_bind (seqEpoch_at ho1 rfl ?_)
  refine wpAny_bind (wpAny_newTuple ?_ (by show vs.length ≤ _; rw [sizeLine_eq]; omega))
  refine wpAny_bind (wpAny_newList ?_ (Nat.zero_le _))
  refine wpAny_holding ?_
  show wpAny (model prog w) A _ P E { s with heap := ((s.heap.update a (Obj.mapSeq fun _ => (#[] : Array Value))).push (seqObj "tuple" vs.toArray 0)).push (seqObj "list" #[] 0) }
  dsimp only
  have hn2 : vs.toArray.size < 2 := by rw [List.size_toArray]; exact h1
  rw [if_pos hn2, if_pos hn2]
  refine wpAny_bind (wpAny_pure ?_)
  refine wpAny_bind (wpAny_pure ?_)
  dsimp only
  have hout : (arrOf (SortSt.mk' general' (vs.toArray.zip vs.toArray) #[] 7 none)).map (·.2) = vs.toArray := by
    show (vs.toArray.zip vs.toArray).map (·.2) = vs.toArray
    apply Array.toList_inj.mp
    simp [List.map_snd_zip]
  rw [hout]
  have s2 := Heap.SameBut.update (((s.heap.update a (Obj.mapSeq fun _ => (#[] : Array Value))).push (seqObj "tuple" vs.toArray 0)).push (seqObj "list" #[] 0)) a (Obj.mapSeq fun _ => vs.toArray)
  obtain ⟨c2, hc2⟩ : ∃ c2, ((((s.heap.update a (Obj.mapSeq fun _ => (#[] : Array Value))).push (seqObj "tuple" vs.toArray 0)).push (seqObj "list" #[] 0)).update a (Obj.mapSeq fun _ => vs.toArray)).get? a = some (seqObj "list" vs.toArray c2) := ⟨_, get?_update_seq na.1 fun _ => vs.toArray⟩
  refine wpAny_bind (seqEpoch_at na.1 rfl ?_)
  refine wpAny_bind (listUpdate_at na.1 rfl ?_ (Nat.zero_le _) (by rw [List.size_toArray, sizeLine_eq]; omega))
  simp only [bne_self_eq_false, Bool.false_eq_true, if_false]
  refine wpAny_pure (h c2 _ (kas_fr F3 s2 haL ha0) fun p hp => ?_)
  rcases List.mem_cons.mp hp with rfl | hp
  · exact ⟨hc2, haL, ha0⟩
  · exact kas_news N2 s2 hna p hp
/-- the place a list of one or none is sorted -/
theorem sorted_short {l : Addr} {Q : Value → Shared → Prop} (F : Fr h₀ L s.heap m) (N : News h₀ L s.heap news) (hl : s.heap.IsList l vs.toArray) (h1 : vs.length < 2)
    (h : ∀ D e1 h', Fr h₀ L h' m → News h₀ L h' ((D, seqObj "list" vs.toArray e1) :: news) → (∀ q ∈ news, q.1 < D) → Q (.ref D) { s with heap := h' }) :
    wpAny (model prog w) A (call (.builtin "sorted") [.ref l]) Q E s := by
  refine Calls.call_function_entry kind_sorted plain_sorted entry_sorted (args_sorted1 _) ?_
  unfold Builtin.«sorted»
  refine wpAny_bind (m := checkCount "sorted" 1 1 _) (wpAny_pure ?_)
  refine wpAny_bind (collect_list hl ?_ (by rw [sizeLine_eq]; omega))
  refine wpAny_bind (wpAny_newList ?_ (by rw [sizeLine_eq]; omega))
  have hsz : ((s.heap.push (seqObj "list" #[] 0)).update s.heap.objs.size (Obj.mapSeq (· ++ vs.toArray))).objs.size = s.heap.objs.size + 1 := by
    rw [Heap.size_update, size_push']
  have hoL : (((s.heap.push (seqObj "list" #[] 0)).update s.heap.objs.size (Obj.mapSeq (· ++ vs.toArray))).push (seqObj "list" vs.toArray 0)).get? (s.heap.objs.size + 1) = some (seqObj "list" vs.toArray 0) := by
    rw [← hsz]; exact Heap.get?_push_size _ rfl
  have keep : ∀ b o, s.heap.get? b = some o → (((s.heap.push (seqObj "list" #[] 0)).update s.heap.objs.size (Obj.mapSeq (· ++ vs.toArray))).push (seqObj "list" vs.toArray 0)).get? b = some o := fun b o q => by
    have hlt : b < s.heap.objs.size := Heap.lt_size q
    rw [Heap.get?_push_ne _ _ _ (by rw [hsz]; exact Nat.ne_of_lt (Nat.lt_succ_of_lt hlt)), Heap.get?_update_ne _ _ _ _ (Nat.ne_of_lt hlt), Heap.get?_push_ne _ _ _ (Nat.ne_of_lt hlt)]
    exact q
  have hL : L < s.heap.objs.size := F.ns.lt
  show wpAny _ _ _ _ _ { s with heap := ((s.heap.push (seqObj "list" #[] 0)).update s.heap.objs.size (Obj.mapSeq (· ++ vs.toArray))).push (seqObj "list" vs.toArray 0) }
  rw [hsz]
  refine wpAny_bind (wpAny_holding (wpAny_call_entry slot_list_sort ⟨_, hoL, rfl⟩ entry_list_sort ?body (args_list_sort _)))
  case body =>
    refine list_sort_short (s := { s with heap := ((s.heap.push (seqObj "list" #[] 0)).update s.heap.objs.size (Obj.mapSeq (· ++ vs.toArray))).push (seqObj "list" vs.toArray 0) })
      (F.kept keep) (N.grown keep) hoL (Nat.ne_of_gt (Nat.lt_succ_of_lt hL)) (Heap.get?_none_of_le (Nat.le_trans F.above (Nat.le_succ_of_le (Nat.le_of_lt hL))))
      (fun p hp => Nat.ne_of_lt (Nat.lt_succ_of_lt (Heap.lt_size (N p hp).1))) h1 fun e1 h' F' N' => ?_
    exact ⟨_, rfl, wpAny_pure ⟨_, rfl, h _ e1 h' F' N' fun q hq => Nat.lt_succ_of_lt (Heap.lt_size (N q hq).1)⟩⟩
/-- a tuple whose first two items are the ints of a key -/
def KeyObj (o : Obj) (r : Int × Nat) : Prop := ∃ t t2 rest e, o = { cls := .type "tuple", data := .seq (Value.int r.1 t :: Value.int r.2 t2 :: rest).toArray e }
inductive Alls {α β : Type} (R : α → β → Prop) : List α → List β → Prop
  | nil : Alls R [] []
  | cons {a : α} {b : β} {as : List α} {bs : List β} : R a b → Alls R as bs → Alls R (a :: as) (b :: bs)
theorem Alls.length {α β : Type} {R : α → β → Prop} {as : List α} {bs : List β} (h : Alls R as bs) : as.length = bs.length := by
  induction h with
  | nil => rfl
  | cons _ _ ih => simp [ih]
theorem Alls.get {α β : Type} {R : α → β → Prop} {as : List α} {bs : List β} (h : Alls R as bs) : ∀ i (hi : i < as.length) (hj : i < bs.length), R as[i] bs[i] := by
  induction h with
  | nil => intro i hi; cases hi
  | cons r _ ih =>
    intro i hi hj
    cases i with
    | zero => exact r
    | succ i => exact ih i (by simpa using hi) (by simpa using hj)
theorem Alls.mono {α β : Type} {R R' : α → β → Prop} {as : List α} {bs : List β} (hr : ∀ a b, R a b → R' a b) (h : Alls R as bs) : Alls R' as bs := by
  induction h with
  | nil => exact .nil
  | cons r _ ih => exact .cons (hr _ _ r) ih
theorem Alls.append {α β : Type} {R : α → β → Prop} {as as' : List α} {bs bs' : List β} (h : Alls R as bs) (k : Alls R as' bs') : Alls R (as ++ as') (bs ++ bs') := by
  induction h with
  | nil => exact k
  | cons r _ ih => exact .cons r ih
theorem Alls.pick {α β : Type} {R : α → β → Prop} {as : List α} {bs : List β} {da : α} {db : β} (h : Alls R as bs) : ∀ (p : List Nat), (∀ i ∈ p, i < as.length) → Alls R (p.map fun i => as.getD i da) (p.map fun i => bs.getD i db)
  | [], _ => .nil
  | i :: p, hp => by
    have hi := hp i (.head _)
    have hj : i < bs.length := h.length ▸ hi
    refine .cons ?_ (h.pick p fun j hj => hp j (.tail _ hj))
    have e1 : as.getD i da = as[i] := by simp [hi]
    have e2 : bs.getD i db = bs[i] := by simp [hj]
    show R (as.getD i da) (bs.getD i db)
    rw [e1, e2]
    exact h.get i hi hj
abbrev refs (tl : List (Addr × Obj)) : List Value := tl.map fun p => .ref p.1
theorem key_lt {Q : Bool → Shared → Prop} {x y : Addr} {ox oy : Obj} {r q : Int × Nat} (hx : s.heap.get? x = some ox) (hy : s.heap.get? y = some oy) (kx : KeyObj ox r) (ky : KeyObj oy q) (hne : r ≠ q) (hq : Q (lx r q) s) :
    wpAny (model prog w) A (keyLt' (tuples' true) (.ref x) (.ref y)) Q E s := by
  obtain ⟨t, t2, rest, e, rfl⟩ := kx
  obtain ⟨u, u2, rest', e', rfl⟩ := ky
  refine kat_lt hx rfl hy rfl ?_
  show KatLex prog w A true _ Q ((Value.int r.1 t, Value.int q.1 u) :: (Value.int r.2 t2, Value.int q.2 u2) :: rest.zip rest') 0 s
  refine kat_cons (wpAny_eqBool_int ?_)
  refine kat_go (fun he => kat_yes (kat_cons (wpAny_eqBool_int ?_))) fun he => kat_no (oneLt_int ?_)
  · have he' : r.1 = q.1 := by simpa using he
    have h2 : r.2 ≠ q.2 := fun h2 => hne (Prod.ext he' h2)
    have e0 : ((r.2 : Int) == (q.2 : Int)) = false := by
      rw [beq_eq_false_iff_ne]; omega
    rw [e0]
    refine kat_no (kat_one _ _ ?_)
    refine lt_int ?_
    show Q (decide ((r.2 : Int) < (q.2 : Int))) s
    have : decide ((r.2 : Int) < (q.2 : Int)) = lx r q := by
      rw [Bool.eq_iff_iff, decide_eq_true_eq, lx_iff]
      omega
    rw [this]; exact hq
  · have he' : r.1 ≠ q.1 := by simpa using he
    have : decide (r.1 < q.1) = lx r q := by
      rw [Bool.eq_iff_iff, decide_eq_true_eq, lx_iff]
      omega
    rw [this]; exact hq
theorem katTups_of {h : Heap} : ∀ {tl : List (Addr × Obj)} {K : List (Int × Nat)}, Alls (fun p r => KeyObj p.2 r) tl K → (∀ p ∈ tl, h.get? p.1 = some p.2) → ∃ fs, fs.length = tl.length ∧ KatTups h (refs tl) fs ∧ ∀ v ∈ fs, ∃ n t, v = Value.int n t
  | _, _, .nil, _ => ⟨[], rfl, KatTups.nil, fun _ h => nomatch h⟩
  | _, _, .cons (a := p) r q, hg => by
    obtain ⟨fs, h1, h2, h3⟩ := katTups_of q fun x hx => hg x (.tail _ hx)
    obtain ⟨t, t2, rest, e, hp⟩ := r
    have hgp := hg p (.head _)
    rw [hp] at hgp
    refine ⟨Value.int _ t :: fs, by simp [h1], KatTups.cons hgp rfl rfl rfl h2, fun v hv => ?_⟩
    rcases List.mem_cons.mp hv with rfl | hv
    · exact ⟨_, _, rfl⟩
    · exact h3 v hv
theorem getD_ref {tl : List (Addr × Obj)} {i : Nat} (hi : i < tl.length) : (refs tl).getD i Value.none = .ref (tl[i]).1 := by simp [refs, hi]
/-- sorted, of tuples by distinct keys of their first two ints -/
theorem sorted_keys {l : Addr} {tl : List (Addr × Obj)} {K : List (Int × Nat)} {R : Addr × Obj → Int × Nat → Prop} {Q : Value → Shared → Prop} (F : Fr h₀ L s.heap m) (N : News h₀ L s.heap news) (hl : s.heap.IsList l (refs tl).toArray)
    (htl : ∀ p ∈ tl, p ∈ news) (hR : ∀ p r, R p r → KeyObj p.2 r) (hK : Alls R tl K) (hnd : K.Nodup) (h6 : K.length ≤ 6)
    (h : ∀ D e1 tl' K' h', Fr h₀ L h' m → News h₀ L h' ((D, seqObj "list" (refs tl').toArray e1) :: news) → (∀ q ∈ news, q.1 < D) → Alls R tl' K' → K'.Perm K → K'.Pairwise (fun a b => lx a b = true) → (∀ p ∈ tl', p ∈ tl) → Q (.ref D) { s with heap := h' }) :
    wpAny (model prog w) A (call (.builtin "sorted") [.ref l]) Q E s := by
  have hlen := hK.length
  have hvl : (refs tl).length = K.length := by simp [refs, hlen]
  by_cases h2 : 2 ≤ K.length
  · refine kat_sorted F N hl (by rw [hvl]; exact h2) (by rw [hvl]; omega) fun D e1 h' F' N' lt => ?_
    have hg : ∀ p ∈ tl, h'.get? p.1 = some p.2 := fun p hp => (N' p (.tail _ (htl p hp))).1
    obtain ⟨fs, f1, f2, f3⟩ := katTups_of (hK.mono fun p r => hR p r) hg
    refine kat_kind (T := .type "int") f2 (by omega) (fun v hv => ?_) (by rfl) ?_
    · obtain ⟨n, t, rfl⟩ := f3 v hv
      exact Looks.of_pure rfl
    · show KasT.kasWp (kas_ask prog w A.in1.in1 (tuples' true) (refs tl)) _ _ _
      rw [hvl]
      refine kWp_run (n := K.length) (c := fun i j => lx (K.getD i kd) (K.getD j kd)) (fun i j C hi hj hij hC => ?_) _ (kIn_sort h2 h6) ?_
      · have hi' : i < tl.length := by omega
        have hj' : j < tl.length := by omega
        show wpAny (model prog w) _ (keyLt' _ ((refs tl).getD i Value.none) ((refs tl).getD j Value.none)) C _ _
        rw [getD_ref hi', getD_ref hj']
        refine key_lt (hg _ (List.getElem_mem hi')) (hg _ (List.getElem_mem hj')) (hR _ _ (hK.get i hi' hi)) (hR _ _ (hK.get j hj' hj)) (fun e => ?_) ?_
        · exact hij ((List.getElem_inj hnd).mp e)
        · have e1 : K.getD i kd = K[i] := by simp [hi]
          have e2 : K.getD j kd = K[j] := by simp [hj]
          simp only [e1, e2] at hC
          exact hC
      · obtain ⟨hp, hs⟩ := sort_pure h2 h6 hnd
        have hlt : ∀ i ∈ (kRun (fun i j => lx (K.getD i kd) (K.getD j kd)) (kas_sort K.length)).toList, i < tl.length := fun i hi => by
          have := List.mem_range.mp (hp.mem_iff.mp hi); omega
        have hout : ((kRun (fun i j => lx (K.getD i kd) (K.getD j kd)) (kas_sort K.length)).toList.map fun i => (refs tl).getD i Value.none) =
            refs ((kRun (fun i j => lx (K.getD i kd) (K.getD j kd)) (kas_sort K.length)).toList.map fun i => tl.getD i (0, default)) := by
          simp only [refs, List.map_map]
          refine List.map_congr_left fun i hi => ?_
          have hi' := hlt i hi
          simp [hi']
        refine KasFin.intro F' N' (UpdF.head fun q hq => Nat.ne_of_lt (lt q hq)) fun h'' c F'' N'' => ?_
        rw [hout] at N''
        refine h D c _ _ h'' F'' N'' lt (hK.pick (da := (0, default)) (db := kd) _ hlt) ?_ hs fun p hp' => ?_
        · have hK' : K = (List.range K.length).map fun i => K.getD i kd := by
            apply List.ext_getElem
            · simp
            · intro i hi hi'
              simp [hi]
          exact (hp.map _).trans (List.Perm.of_eq hK'.symm)
        · obtain ⟨i, hi, rfl⟩ := List.mem_map.mp hp'
          have hi' := hlt i hi
          have e : tl.getD i (0, default) = tl[i] := by simp [hi']
          rw [e]
          exact List.getElem_mem hi'
  · refine sorted_short F N hl (by rw [hvl]; omega) fun D e1 h' F' N' lt => h D e1 tl K h' F' N' lt hK (List.Perm.refl _) ?_ fun _ hp => hp
    match K, h2 with
    | [], _ => exact .nil
    | [x], _ => exact List.pairwise_singleton _ _
    | _ :: _ :: _, h2 => exact absurd (by simp) h2
end
end Mine
namespace Mine
open LCg
section
variable {prog : Program} {w : World} {A : Around} {s : Shared} {h₀ : Heap} {L : Addr} {m : Str → Option Value} {env : Env}
theorem CompEnd.mono {s₁ s₂ : Shared} {I C D : Addr} {oI oC oD : Obj} {S : List (Addr × Obj) → Prop} {rest rest' : Value → List (Addr × Obj) → Prop} {y : Value} (h : CompEnd h₀ L m s₁ I oI C oC D oD S rest y s₂) (k : ∀ y nw, rest y nw → rest' y nw) :
    CompEnd h₀ L m s₁ I oI C oC D oD S rest' y s₂ := by
  obtain ⟨h', tk, nw, e, F, N, off, hS, r⟩ := h
  exact ⟨h', tk, nw, e, F, N, off, hS, k _ _ r⟩
/-- a comprehension by what holds of its first turns -/
theorem restU_inv {elt : Expr} {x : Str} {scope : Scope} {cl : List (Str × Addr)} {S : List (Addr × Obj) → Prop} {P : Nat → Value → Prop} {Fin : List Value → List (Addr × Obj) → Prop} {n : Nat} (J : Nat → List Value → List (Addr × Obj) → Prop)
    (turn : ∀ i ys news v I oI C oC D m₂ h tk (E' : Value → Shared → Prop), i < n → J i ys news → P i v → NsObj oC m₂ → m₂ x = some v → Fr h₀ L h m → News h₀ L h ((I, oI) :: (C, oC) :: (D, lst ys) :: news) → Off3 I C D news → ((@Ne Nat I C) ∧ (@Ne Nat I D) ∧ (@Ne Nat C D)) →
      wpAny (model prog w) A (eval elt (compEnvC scope cl C env)) (CompEnd h₀ L m { s with heap := h, toks := tk } I oI C oC D (lst ys) S (fun y news' => J (i + 1) (ys ++ [y]) news')) E' { s with heap := h, toks := tk })
    (fin : ∀ ys news, J n ys news → Fin ys news) : ∀ k i ys news, i + k = n → J i ys news → CompRest prog w A h₀ L m env elt x scope cl s S P Fin k i ys news
  | 0, i, ys, news, hk, hJ => by
    have : i = n := by omega
    subst this
    exact CompRest.zero (fin ys news hJ)
  | k + 1, i, ys, news, hk, hJ => by
    refine CompRest.succ fun v I oI C oC D m₂ h tk E' hP hC hx F N off ne => ?_
    exact wpAny_mono (turn i ys news v I oI C oC D m₂ h tk E' (by omega) hJ hP hC hx F N off ne) (fun y s' h' => CompEnd.mono h' fun y nw hJ' => restU_inv J turn fin k (i + 1) _ nw (by omega) hJ') fun _ _ x => x
theorem restT_inv {ct elt : Expr} {x : Str} {scope : Scope} {cl : List (Str × Addr)} {S : List (Addr × Obj) → Prop} {P : Nat → Value → Prop} {Fin : List Value → List (Addr × Obj) → Prop} {n : Nat} (J : Nat → List Value → List (Addr × Obj) → Prop)
    (turn : ∀ i ys news v I oI C oC D m₂ h tk (E' : Value → Shared → Prop), i < n → J i ys news → P i v → NsObj oC m₂ → m₂ x = some v → Fr h₀ L h m → News h₀ L h ((I, oI) :: (C, oC) :: (D, lst ys) :: news) → Off3 I C D news → ((@Ne Nat I C) ∧ (@Ne Nat I D) ∧ (@Ne Nat C D)) →
      wpAny (model prog w) A (isTrue ct (compEnvC scope cl C env) (eval ct (compEnvC scope cl C env))) (fun ok s' => if ok = true then
        wpAny (model prog w) A (eval elt (compEnvC scope cl C env)) (CompEnd h₀ L m { s with heap := h, toks := tk } I oI C oC D (lst ys) S (fun y news' => J (i + 1) (ys ++ [y]) news')) E' s'
        else CompEnd h₀ L m { s with heap := h, toks := tk } I oI C oC D (lst ys) S (fun _ news' => J (i + 1) ys news') Value.none s') E' { s with heap := h, toks := tk })
    (fin : ∀ ys news, J n ys news → Fin ys news) : ∀ k i ys news, i + k = n → J i ys news → LCt.CompRestT prog w A h₀ L m env ct elt x scope cl s S P Fin k i ys news
  | 0, i, ys, news, hk, hJ => by
    have : i = n := by omega
    subst this
    exact LCt.CompRestT.zero (fin ys news hJ)
  | k + 1, i, ys, news, hk, hJ => by
    refine LCt.CompRestT.succ fun v I oI C oC D m₂ h tk E' hP hC hx F N off ne => ?_
    refine wpAny_mono (turn i ys news v I oI C oC D m₂ h tk E' (by omega) hJ hP hC hx F N off ne) (fun ok s' h' => ?_) fun _ _ x => x
    cases ok with
    | true =>
      simp only [if_true] at h' ⊢
      exact wpAny_mono h' (fun y s'' h'' => CompEnd.mono h'' fun y nw hJ' => restT_inv J turn fin k (i + 1) _ nw (by omega) hJ') fun _ _ x => x
    | false =>
      simp only [Bool.false_eq_true, if_false] at h' ⊢
      exact CompEnd.mono h' fun y nw hJ' => restT_inv J turn fin k (i + 1) _ nw (by omega) hJ'
theorem restP_inv {elt : Expr} {x x₂ : Str} {scope : Scope} {cl : List (Str × Addr)} {S : List (Addr × Obj) → Prop} {P : Nat → Value → Prop} {Fin : List Value → List (Addr × Obj) → Prop} {n : Nat} (J : Nat → List Value → List (Addr × Obj) → Prop)
    (turn : ∀ i ys news v, i < n → J i ys news → P i v → ∃ (t : Addr) (ot : Obj) (v₁ v₂ : Value) (nt : Nat), v = .ref t ∧ (t, ot) ∈ news ∧ ot.cls = .type "tuple" ∧ ot.data = .seq #[v₁, v₂] nt ∧
      ∀ I oI C oC D m₂ h tk (E' : Value → Shared → Prop), NsObj oC m₂ → m₂ x = some v₁ → m₂ x₂ = some v₂ → Fr h₀ L h m → News h₀ L h ((I, oI) :: (C, oC) :: (D, lst ys) :: news) → Off3 I C D news → ((@Ne Nat I C) ∧ (@Ne Nat I D) ∧ (@Ne Nat C D)) →
        wpAny (model prog w) A (eval elt (compEnvC scope cl C env)) (CompEnd h₀ L m { s with heap := h, toks := tk } I oI C oC D (lst ys) S (fun y news' => J (i + 1) (ys ++ [y]) news')) E' { s with heap := h, toks := tk })
    (fin : ∀ ys news, J n ys news → Fin ys news) : ∀ k i ys news, i + k = n → J i ys news → LCp.CompRestP prog w A h₀ L m env elt x x₂ scope cl s S P Fin k i ys news
  | 0, i, ys, news, hk, hJ => by
    have : i = n := by omega
    subst this
    exact LCp.CompRestP.zero (fin ys news hJ)
  | k + 1, i, ys, news, hk, hJ => by
    refine LCp.CompRestP.succ fun v hP => ?_
    obtain ⟨t, ot, v₁, v₂, nt, h1, h2, h3, h4, h5⟩ := turn i ys news v (by omega) hJ hP
    refine ⟨t, ot, v₁, v₂, nt, h1, h2, h3, h4, fun I oI C oC D m₂ h tk E' hC hx hx₂ F N off ne => ?_⟩
    exact wpAny_mono (h5 I oI C oC D m₂ h tk E' hC hx hx₂ F N off ne) (fun y s' h' => CompEnd.mono h' fun y nw hJ' => restP_inv J turn fin k (i + 1) _ nw (by omega) hJ') fun _ _ x => x
/-- a turn that makes one object more of a row of them -/
theorem compEnd_snoc {s₁ : Shared} {B I C D : Addr} {ob oI oC oD : Obj} {S : List (Addr × Obj) → Prop} {rest : Value → List (Addr × Obj) → Prop} {y : Value} {h₁ h' : Heap} {tk : Nat} (base tl : List (Addr × Obj))
    (F : Fr h₀ L h' m) (N : News h₀ L h' ((B, ob) :: (I, oI) :: (C, oC) :: (D, oD) :: (base ++ tl))) (N₁ : ∀ p ∈ (I, oI) :: (C, oC) :: (D, oD) :: (base ++ tl), h₁.get? p.1 = some p.2) (hB : h₁.objs.size ≤ B) (off : Off3 I C D (base ++ tl))
    (hS : S (base ++ (tl ++ [(B, ob)]))) (r : rest y (base ++ (tl ++ [(B, ob)]))) : CompEnd h₀ L m s₁ I oI C oC D oD S rest y { s₁ with heap := h', toks := tk } := by
  have lt : ∀ p ∈ (I, oI) :: (C, oC) :: (D, oD) :: (base ++ tl), p.1 ≠ B := fun p hp => Nat.ne_of_lt (Nat.lt_of_lt_of_le (Heap.lt_size (N₁ p hp)) hB)
  refine CompEnd.intro F N _ (fun p hp => ?_) (Off3.of fun p hp => ?_) hS r
  · rcases List.mem_cons.mp hp with rfl | hp
    · exact .tail _ (.head _)
    rcases List.mem_cons.mp hp with rfl | hp
    · exact .tail _ (.tail _ (.head _))
    rcases List.mem_cons.mp hp with rfl | hp
    · exact .tail _ (.tail _ (.tail _ (.head _)))
    rcases List.mem_append.mp hp with hp | hp
    · exact .tail _ (.tail _ (.tail _ (.tail _ (List.mem_append_left _ hp))))
    rcases List.mem_append.mp hp with hp | hp
    · exact .tail _ (.tail _ (.tail _ (.tail _ (List.mem_append_right _ hp))))
    · rw [List.mem_singleton.mp hp]; exact .head _
  · have old : ∀ q ∈ base ++ tl, q.1 ≠ I ∧ q.1 ≠ C ∧ q.1 ≠ D := off.mem
    rcases List.mem_append.mp hp with hp | hp
    · exact old p (List.mem_append_left _ hp)
    rcases List.mem_append.mp hp with hp | hp
    · exact old p (List.mem_append_right _ hp)
    · rw [List.mem_singleton.mp hp]
      exact ⟨Ne.symm (lt _ (.head _)), Ne.symm (lt _ (.tail _ (.head _))), Ne.symm (lt _ (.tail _ (.tail _ (.head _))))⟩
end
end Mine
namespace Mine
open LCg
section
variable {prog : Program} {w : World} {A : Around} {E : Value → Shared → Prop} {s : Shared} {env : Env} {h₀ : Heap} {L : Addr} {m : Str → Option Value}
theorem tup_st {ax I : Addr} {its : Array Value} (ht : h₀.IsTuple ax its) : ∀ i (h h' : Heap) (o : Obj) (nw : List (Addr × Obj)), (h.IsTupleIter I ax i ∧ h.IsTuple ax its) → h.get? I = some o → h'.get? I = some o → (∀ b o, h₀.get? b = some o → h'.get? b = some o) → News h₀ L h' nw → True → (h'.IsTupleIter I ax i ∧ h'.IsTuple ax its) :=
  fun i h h' o nw st e e' k N S => ⟨by obtain ⟨o', q, r⟩ := st.1; rw [e] at q; cases q; exact ⟨o, e', r⟩, by obtain ⟨o, ho, r⟩ := ht; exact ⟨o, k _ _ ho, r⟩⟩
def SrcUT (prog : Program) (w : World) (A : Around) (h₀ : Heap) (L : Addr) (m : Str → Option Value) (env : Env) (elt : Expr) (x : Str) (scope : Scope) (cl : List (Str × Addr)) (Fin : Shared → List Value → List (Addr × Obj) → Prop) (xv : Value) (s₁ : Shared) : Prop :=
  ∃ d its news, xv = .ref d ∧ A.handled = none ∧ h₀.IsTuple d its ∧ Fr h₀ L s₁.heap m ∧ News h₀ L s₁.heap news ∧ its.size ≤ sizeLine ∧
    ∀ s₂ : Shared, (∃ h, s₂ = { s₁ with heap := h }) → CompRest prog w A h₀ L m env elt x scope cl s₂ (fun _ => True) (fun i v => its[i]? = some v) (Fin s₂) its.size 0 [] news
theorem ListComp_UT {elt iter : Expr} {x : Str} {px : Pos} {scope : Scope} {cl : List (Str × Addr)} {pos : Pos} {Q : Value → Shared → Prop} (F₀ : Fr h₀ L s.heap m)
    (hclos : closureFor scope env = pure cl) (hcell : ∀ y ∈ scope.names, y.2 ≠ .cell) (hkind : scope.kind = .function)
    (hnames : ∀ y ∈ scope.names, y.2 = .local → scope.names.lookup y.1 = some .local) (hx : scope.names.lookup x = some .local)
    (h : wpAny (model prog w) A (eval iter env) (SrcUT prog w A h₀ L m env elt x scope cl (fun s₂ => FinE h₀ L m s₂ Q)) E s)
    (hs : ∀ x, foldedSetIterable iter env x = pure x := by intro _; rfl) :
    wpAny (model prog w) A (eval (.ListComp elt [⟨.Name x px, iter, [], 0⟩] scope pos) env) Q E s := by
  rw [eval_ListComp]
  refine wpAny_comprehension_free (use := none) rfl hs hclos hkind hnames (wpAny_mono h (fun xv s₁ h₁ => ?_) fun _ _ e => e)
  obtain ⟨d, its, news, rfl, hh, ht, F, N, hsz, R⟩ := h₁
  have hts : s₁.heap.IsTuple d its := by
    obtain ⟨o, ho, r⟩ := ht
    exact ⟨o, F.keep _ _ ho, r⟩
  obtain ⟨od, hod, _⟩ := id hts
  have hlt : d < s₁.heap.objs.size := Heap.lt_size hod
  refine wpAny_pyIter_tuple hts ?_
  have up : ∀ b o, s₁.heap.get? b = some o → (s₁.heap.push { cls := .type "tuple_iterator", data := .fields #[.ref d, .int 0 0] }).get? b = some o := fun b o e => Heap.get?_push_of_some _ e
  refine block_U (Walks.tuple hh s₁.heap.objs.size d (Nat.ne_of_lt hlt) its) hsz (fun i h st => by obtain ⟨o, e, _⟩ := st.1; exact ⟨o, e⟩) (tup_st ht) hcell hkind hx ⟨⟨_, Heap.get?_push_size _ rfl, rfl, rfl⟩, by obtain ⟨o, ho, r⟩ := hts; exact ⟨o, Heap.get?_push_of_some _ ho, r⟩⟩ (fun b hb => ?_)
      (F.keeps up) (N.grown up) (Nat.ne_of_lt F.ns.lt) (next_is_new F) (fun p hp => Nat.ne_of_lt (Heap.lt_size (N p hp).1)) trivial (R _ ⟨_, rfl⟩) ?_
  · show b < (s₁.heap.push _).objs.size
    rw [Heap.size_push]
    rcases List.mem_cons.mp hb with rfl | hb
    · exact Nat.lt_succ_self _
    · rw [List.mem_singleton.mp hb]; exact Nat.lt_succ_of_lt hlt
  · intro D C h tk m' ys news' F' N' o1 hn hC₀ hD₀ hCL hDL hCD offC fin
    refine ⟨m', hn, fun h'' hs'' => fin D h'' tk (F'.change hs'' hCL hC₀) (fun p hp => ?_) o1⟩
    refine ⟨hs''.extBut _ _ ?_ (N' p hp).1, (N' p hp).2⟩
    rcases List.mem_cons.mp hp with rfl | hp
    · exact Ne.symm hCD
    · exact offC p hp
end
end Mine
namespace Mine
open LCg
section
variable {prog : Program} {w : World} {A : Around} {E : Value → Shared → Prop} {s : Shared} {h₀ : Heap} {L : Addr} {m : Str → Option Value} {env : Env}
/-- an object that is a dict of str keys -/
def DObj (prog : Program) (w : World) (o : Obj) (kvs : List (Str × Value)) (ep : Nat) : Prop :=
  ∃ es, o.ExactDict ∧ o.data = .dict es ep ∧ KeysOf (strKind prog w) es ∧ Pairs (strKind prog w) es.toList kvs ∧ (kvs.map (·.1)).Nodup
def SrcD (prog : Program) (w : World) (h₀ : Heap) (d : Addr) (kvs : List (Str × Value)) (ep : Nat) (news : List (Addr × Obj)) : Prop :=
  h₀.DictAt (strKind prog w) d kvs ep ∨ ∃ o, (d, o) ∈ news ∧ DObj prog w o kvs ep
theorem SrcD.at {d : Addr} {kvs : List (Str × Value)} {ep : Nat} {news : List (Addr × Obj)} {h : Heap} (x : SrcD prog w h₀ d kvs ep news) (k : ∀ b o, h₀.get? b = some o → h.get? b = some o) (N : News h₀ L h news) : h.DictAt (strKind prog w) d kvs ep := by
  rcases x with x | ⟨o, hm, es, r⟩
  · exact x.keep k
  · exact ⟨o, es, (N _ hm).1, r⟩
theorem dict_st {d I : Addr} {kvs : List (Str × Value)} {ep n : Nat} : ∀ i (h h' : Heap) (o : Obj) (nw : List (Addr × Obj)), (h.IsKeyIter I d i n ep ∧ h.DictAt (strKind prog w) d kvs ep) → h.get? I = some o → h'.get? I = some o → (∀ b o, h₀.get? b = some o → h'.get? b = some o) → News h₀ L h' nw → SrcD prog w h₀ d kvs ep nw → (h'.IsKeyIter I d i n ep ∧ h'.DictAt (strKind prog w) d kvs ep) :=
  fun i h h' o nw st e e' k N S => ⟨by obtain ⟨o', q, r⟩ := st.1; rw [e] at q; cases q; exact ⟨o, e', r⟩, S.at k N⟩
abbrev KeyAt (prog : Program) (w : World) (kvs : List (Str × Value)) (i : Nat) (v : Value) : Prop := ∃ k x, kvs[i]? = some (k, x) ∧ (strKind prog w).is k v = true
def SrcUD (prog : Program) (w : World) (A : Around) (h₀ : Heap) (L : Addr) (m : Str → Option Value) (env : Env) (elt : Expr) (x : Str) (scope : Scope) (cl : List (Str × Addr)) (Fin : Shared → List Value → List (Addr × Obj) → Prop) (xv : Value) (s₁ : Shared) : Prop :=
  ∃ d kvs ep news, xv = .ref d ∧ A.handled = none ∧ (d == sysModules) = false ∧ Fr h₀ L s₁.heap m ∧ News h₀ L s₁.heap news ∧ SrcD prog w h₀ d kvs ep news ∧ kvs.length ≤ sizeLine ∧
    ∀ s₂ : Shared, (∃ h, s₂ = { s₁ with heap := h }) → CompRest prog w A h₀ L m env elt x scope cl s₂ (SrcD prog w h₀ d kvs ep) (KeyAt prog w kvs) (Fin s₂) kvs.length 0 [] news
def SrcTD (prog : Program) (w : World) (A : Around) (h₀ : Heap) (L : Addr) (m : Str → Option Value) (env : Env) (ct elt : Expr) (x : Str) (scope : Scope) (cl : List (Str × Addr)) (Fin : Shared → List Value → List (Addr × Obj) → Prop) (xv : Value) (s₁ : Shared) : Prop :=
  ∃ d kvs ep news, xv = .ref d ∧ A.handled = none ∧ (d == sysModules) = false ∧ Fr h₀ L s₁.heap m ∧ News h₀ L s₁.heap news ∧ SrcD prog w h₀ d kvs ep news ∧ kvs.length ≤ sizeLine ∧
    ∀ s₂ : Shared, (∃ h, s₂ = { s₁ with heap := h }) → LCt.CompRestT prog w A h₀ L m env ct elt x scope cl s₂ (SrcD prog w h₀ d kvs ep) (KeyAt prog w kvs) (Fin s₂) kvs.length 0 [] news
theorem ListComp_UD {elt iter : Expr} {x : Str} {px : Pos} {scope : Scope} {cl : List (Str × Addr)} {pos : Pos} {Q : Value → Shared → Prop} (F₀ : Fr h₀ L s.heap m)
    (hclos : closureFor scope env = pure cl) (hcell : ∀ y ∈ scope.names, y.2 ≠ .cell) (hkind : scope.kind = .function)
    (hnames : ∀ y ∈ scope.names, y.2 = .local → scope.names.lookup y.1 = some .local) (hx : scope.names.lookup x = some .local)
    (h : wpAny (model prog w) A (eval iter env) (SrcUD prog w A h₀ L m env elt x scope cl (fun s₂ => FinE h₀ L m s₂ Q)) E s)
    (hs : ∀ x, foldedSetIterable iter env x = pure x := by intro _; rfl) :
    wpAny (model prog w) A (eval (.ListComp elt [⟨.Name x px, iter, [], 0⟩] scope pos) env) Q E s := by
  rw [eval_ListComp]
  refine wpAny_comprehension_free (use := none) rfl hs hclos hkind hnames (wpAny_mono h (fun xv s₁ h₁ => ?_) fun _ _ e => e)
  obtain ⟨d, kvs, ep, news, rfl, hh, lo, F, N, S, hsz, R⟩ := h₁
  have hl := S.at F.keep N
  have hlt : d < s₁.heap.objs.size := hl.lt_size
  refine wpAny_pyIter_dict lo hl ?_
  have up : ∀ b o, s₁.heap.get? b = some o → (s₁.heap.push { cls := .type "dict_keyiterator", data := .fields #[.ref d, .int 0 0, .int kvs.length 0, .int ep 0] }).get? b = some o := fun b o e => Heap.get?_push_of_some _ e
  refine block_U (Walks.dictKeys hh s₁.heap.objs.size d (Nat.ne_of_lt hlt) kvs ep) hsz (fun i h st => by obtain ⟨o, e, _⟩ := st.1; exact ⟨o, e⟩) dict_st hcell hkind hx ⟨⟨_, Heap.get?_push_size _ rfl, rfl, rfl⟩, hl.push _⟩ (fun b hb => ?_)
      (F.keeps up) (N.grown up) (Nat.ne_of_lt F.ns.lt) (next_is_new F) (fun p hp => Nat.ne_of_lt (Heap.lt_size (N p hp).1)) S (R _ ⟨_, rfl⟩) ?_
  · show b < (s₁.heap.push _).objs.size
    rw [Heap.size_push]
    rcases List.mem_cons.mp hb with rfl | hb
    · exact Nat.lt_succ_self _
    · rw [List.mem_singleton.mp hb]; exact Nat.lt_succ_of_lt hlt
  · intro D C h tk m' ys news' F' N' o1 hn hC₀ hD₀ hCL hDL hCD offC fin
    refine ⟨m', hn, fun h'' hs'' => fin D h'' tk (F'.change hs'' hCL hC₀) (fun p hp => ?_) o1⟩
    refine ⟨hs''.extBut _ _ ?_ (N' p hp).1, (N' p hp).2⟩
    rcases List.mem_cons.mp hp with rfl | hp
    · exact Ne.symm hCD
    · exact offC p hp
theorem ListComp_TD {ct elt iter : Expr} {x : Str} {px : Pos} {scope : Scope} {cl : List (Str × Addr)} {pos : Pos} {Q : Value → Shared → Prop} (F₀ : Fr h₀ L s.heap m)
    (hclos : closureFor scope env = pure cl) (hcell : ∀ y ∈ scope.names, y.2 ≠ .cell) (hkind : scope.kind = .function)
    (hnames : ∀ y ∈ scope.names, y.2 = .local → scope.names.lookup y.1 = some .local) (hx : scope.names.lookup x = some .local)
    (h : wpAny (model prog w) A (eval iter env) (SrcTD prog w A h₀ L m env ct elt x scope cl (fun s₂ => FinE h₀ L m s₂ Q)) E s)
    (hs : ∀ x, foldedSetIterable iter env x = pure x := by intro _; rfl) :
    wpAny (model prog w) A (eval (.ListComp elt [⟨.Name x px, iter, [ct], 0⟩] scope pos) env) Q E s := by
  rw [eval_ListComp]
  refine wpAny_comprehension_free (use := none) rfl hs hclos hkind hnames (wpAny_mono h (fun xv s₁ h₁ => ?_) fun _ _ e => e)
  obtain ⟨d, kvs, ep, news, rfl, hh, lo, F, N, S, hsz, R⟩ := h₁
  have hl := S.at F.keep N
  have hlt : d < s₁.heap.objs.size := hl.lt_size
  refine wpAny_pyIter_dict lo hl ?_
  have up : ∀ b o, s₁.heap.get? b = some o → (s₁.heap.push { cls := .type "dict_keyiterator", data := .fields #[.ref d, .int 0 0, .int kvs.length 0, .int ep 0] }).get? b = some o := fun b o e => Heap.get?_push_of_some _ e
  refine LCt.block_T (Walks.dictKeys hh s₁.heap.objs.size d (Nat.ne_of_lt hlt) kvs ep) hsz (fun i h st => by obtain ⟨o, e, _⟩ := st.1; exact ⟨o, e⟩) dict_st hcell hkind hx ⟨⟨_, Heap.get?_push_size _ rfl, rfl, rfl⟩, hl.push _⟩ (fun b hb => ?_)
      (F.keeps up) (N.grown up) (Nat.ne_of_lt F.ns.lt) (next_is_new F) (fun p hp => Nat.ne_of_lt (Heap.lt_size (N p hp).1)) S (R _ ⟨_, rfl⟩) ?_
  · show b < (s₁.heap.push _).objs.size
    rw [Heap.size_push]
    rcases List.mem_cons.mp hb with rfl | hb
    · exact Nat.lt_succ_self _
    · rw [List.mem_singleton.mp hb]; exact Nat.lt_succ_of_lt hlt
  · intro D C h tk m' ys news' F' N' o1 hn hC₀ hD₀ hCL hDL hCD offC fin
    refine ⟨m', hn, fun h'' hs'' => fin D h'' tk (F'.change hs'' hCL hC₀) (fun p hp => ?_) o1⟩
    refine ⟨hs''.extBut _ _ ?_ (N' p hp).1, (N' p hp).2⟩
    rcases List.mem_cons.mp hp with rfl | hp
    · exact Ne.symm hCD
    · exact offC p hp
end
end Mine
namespace Mine
theorem list_keys_none : typeLookup (.type "list") "keys" = pure none := am_miss_of_fast (by decide +kernel)
theorem entry_update_loop : entryFor table "dict.update.loop" = some Builtin.«dict.update.loop» := entryFor_of_tree (by kernel_rfl)
theorem plain_update_loop : plainId "dict.update.loop" = true := by decide +kernel
section
variable {prog : Program} {w : World} {A : Around} {E : Value → Shared → Prop} {s : Shared}
/-- a list has no attribute keys -/
theorem getAttrQ_keys {a : Addr} {xs : Array Value} {k : Nat} {Q : Option Value → Shared → Prop} (hx : s.heap.get? a = some { cls := .type "list", data := .seq xs k }) (hA : A.handled = none)
    (h : ∀ h' tk, (∀ b o, s.heap.get? b = some o → h'.get? b = some o) → Q none { s with heap := h', toks := tk }) : wpAny (model prog w) A (getAttr? (.ref a) "keys") Q E s := by
  obtain ⟨hp, g, d, tk, os⟩ := s
  have hT : ∀ tk', (⟨hp, g, d, tk', os⟩ : Shared).TypeIs (.ref a) "list" := fun _ => ⟨_, hx, rfl⟩
  have f1 := sub_AttributeError
  have f3 := F.slot_list_getattribute.lookup
  have f4 := F.slot_list_getattribute.bind (.ref a)
  have f5 := am_list_getattr_none
  unfold getAttr? getAttrBy? getAttrBy
  repeat (any_goals (first | assumption | exact hT _ | ((with_reducible show wpAny _ _ (call (Value.builtin "list.__getattribute__") _ _) _ _ _); refine call_meets F.slot_list_getattribute (hT _) am_entry_list_getattribute (F.args_list_getattribute_2 _ _) (meets_getattribute_miss_list a xs k #[] (Str.ofString "keys") _ list_keys_none (by decide) ) ⟨hx, hA, fun h' tk' e hx' => ?_⟩) | wp_step))
  obtain ⟨t', u', he⟩ := hx'.there
  show wpAny _ _ (getattributeRaised _ _ _ _ _ _ _) _ _ _
  unfold getattributeRaised
  repeat (any_goals (first | assumption | wp_step))
  exact h _ _ hx'.keeps
/-- a tuple of a str and an int -/
def EntR (p : Addr × Obj) (r : Str × Int) : Prop := ∃ t t2, p.2 = { cls := .type "tuple", data := .seq #[.str r.1 t, .int r.2 t2] }
theorem stored_new {kvs : List (Str × Value)} {k : Str} {v : Value} (h : ∀ p ∈ kvs, p.1 ≠ k) : stored kvs k v = kvs ++ [(k, v)] := by
  unfold stored
  rw [if_neg]
  intro q
  obtain ⟨p, hp, e⟩ := List.any_eq_true.mp q
  exact h p hp (by simpa using e)
theorem flat_snoc {kvs : List (Str × Value)} {c : List (Str × Int)} {k : Str} {n : Int} {t : Tok} (h : PyProof.V.FlatPairs PyData.str kvs (kdpD c)) : PyProof.V.FlatPairs PyData.str (kvs ++ [(k, .int n t)]) (kdpD (c ++ [(k, n)])) := by
  unfold kdpD at h ⊢
  rw [List.map_append]
  revert h
  generalize c.map (fun p => (PyData.str p.1, PyData.int p.2)) = D
  intro h
  induction h with
  | nil => exact .cons (PyProof.V.Flat.int n t) .nil
  | cons f _ ih => exact .cons f ih
theorem flat_keys {kvs : List (Str × Value)} {c : List (Str × Int)} (h : PyProof.V.FlatPairs PyData.str kvs (kdpD c)) : kvs.map (·.1) = c.map (·.1) := by
  unfold kdpD at h
  induction c generalizing kvs with
  | nil => cases h; rfl
  | cons p c ih =>
    cases h with
    | cons f h => 
      rw [List.map_cons, List.map_cons, ih h]
theorem update_loop {d I l : Addr} {tl : List (Addr × Obj)} {ps : List (Str × Int)} (hA : A.handled = none) (hps : Alls EntR tl ps) (hnd : (ps.map (·.1)).Nodup) (hlen : ps.length ≤ 1000) (hdI : d ≠ I) (hdl : l ≠ d) (hIl : l ≠ I)
    (htd : ∀ p ∈ tl, p.1 ≠ d) (htI : ∀ p ∈ tl, p.1 ≠ I) {R : Result → Shared → Prop} : ∀ (k i : Nat) (s : Shared) (kvs : List (Str × Value)), i + k = ps.length → s.heap.IsListIter I l i → s.heap.IsList l (refs tl).toArray → (∀ p ∈ tl, s.heap.get? p.1 = some p.2) →
      s.heap.DictOf (strKind prog w) d kvs → PyProof.V.FlatPairs PyData.str kvs (kdpD (ps.take i)) →
      (∀ h' tk kvs', (∀ b o, b ≠ d → b ≠ I → s.heap.get? b = some o → h'.get? b = some o) → h'.DictOf (strKind prog w) d kvs' → PyProof.V.FlatPairs PyData.str kvs' (kdpD ps) → R (.ok (.ret .none)) { s with heap := h', toks := tk }) →
      codeAny (model prog w) A (.builtin "dict.update.loop" ⟨[.ref d, .ref I, rawInt (i : Nat), .none], []⟩) R s
  | 0, i, s, kvs, hk, hI, hl, htl, hD, hf, h => by
    have hi : i = ps.length := by omega
    subst hi
    refine codeAny_builtin entry_update_loop ?_
    rw [Around.under_plainId plain_update_loop]
    unfold Builtin.«dict.update.loop»
    show wpAny _ _ (pyNext (.ref I) >>= _) _ _ _
    refine wpAny_bind (wpAny_pyNext_list_end hA hI hl (by simp [refs, hps.length]) fun h' hx => ?_)
    dsimp only
    show wpAny _ _ (Builtin.Dict.addKeywords d [] >>= _) _ _ _
    refine wpAny_bind (wpAny_pure (wpAny_pure ?_))
    rw [List.take_length] at hf
    refine h h' _ kvs (fun b o _ hb e => hx b o hb e) ?_ hf
    obtain ⟨o, es, ep, ho, r⟩ := hD
    exact ⟨o, es, ep, hx d o hdI ho, r⟩
  | k + 1, i, s, kvs, hk, hI, hl, htl, hD, hf, h => by
    have hi : i < ps.length := by omega
    have hit : i < tl.length := by rw [hps.length]; exact hi
    obtain ⟨t, t2, hob⟩ := hps.get i hit hi
    refine codeAny_builtin entry_update_loop ?_
    rw [Around.under_plainId plain_update_loop]
    unfold Builtin.«dict.update.loop»
    show wpAny _ _ (pyNext (.ref I) >>= _) _ _ _
    refine wpAny_bind (wpAny_pyNext_list_item hI hl (x := .ref tl[i].1) (by simp [refs, hit]) fun h1 hI1 hs1 => ?_)
    dsimp only
    have hmem := List.getElem_mem hit
    have hg : h1.get? tl[i].1 = some { cls := .type "tuple", data := .seq #[.str ps[i].1 t, .int ps[i].2 t2] } := by
      rw [← hob]
      exact hs1.extBut _ _ (htI _ hmem) (htl _ hmem)
    have hnk : ∀ q ∈ kvs, q.1 ≠ ps[i].1 := fun q hq e => by
      have h1 := flat_keys hf
      have h2 : q.1 ∈ (ps.take i).map (·.1) := by rw [← h1]; exact List.mem_map_of_mem hq
      rw [e] at h2
      obtain ⟨r, hr, e2⟩ := List.mem_map.mp h2
      obtain ⟨j, hj, e3⟩ := List.getElem_of_mem hr
      rw [List.length_take] at hj
      rw [List.getElem_take] at e3
      have hj' : j < ps.length := by omega
      have := (List.getElem_inj (i := j) (j := i) (h₀ := by simpa using hj') (h₁ := by simpa using hi) hnd).mp (by simp only [List.getElem_map]; rw [e3]; exact e2)
      omega
    have hD1 : h1.DictOf (strKind prog w) d kvs := by
      obtain ⟨o, es, ep, ho, r⟩ := hD
      exact ⟨o, es, ep, hs1.extBut d o hdI ho, r⟩
    have hkl : kvs.length ≤ sizeLine := by
      have := hf.length
      rw [kdpD_length, List.length_take] at this
      rw [sizeLine_eq]; omega
    refine wpAny_bind (wpAny_holding (wpAny_bind (wpAny_tryCatch ?_)))
    unfold Builtin.Dict.pairItems
    refine wpAny_bind (wpAny_typeOf (T := "tuple") ⟨_, hg, rfl⟩ ?_)
    rw [if_pos (by decide)]
    refine wpAny_bind (wpAny_seqItems hg rfl (wpAny_pure ?_))
    show wpAny _ _ (holding [Value.str ps[i].1 t, Value.int ps[i].2 t2] (dictSet d (Value.str ps[i].1 t) (Value.int ps[i].2 t2))) _ _ _
    refine wpAny_holding (wpAny_dictSet_pairs (knd := strKind prog w) (strKind_is _ _ _ _) hD1 (fun h2 hD2 hs2 => ?_) hkl)
    rw [stored_new hnk] at hD2
    show wpAny _ _ (again _) _ _ _
    refine wpAny_pure ⟨plainId_quiet plain_update_loop _, ?_⟩
    have e1 : (i : Int) + 1 = ((i + 1 : Nat) : Int) := by omega
    rw [e1]
    have et : ps.take (i + 1) = ps.take i ++ [ps[i]] := by rw [List.take_add_one]; simp [hi]
    refine update_loop hA hps hnd hlen hdI hdl hIl htd htI k (i + 1) _ _ (by omega) ?_ ?_ (fun p hp => ?_) hD2 (by rw [et]; exact flat_snoc hf) fun h' tk kvs' hk' hD' hf' => ?_
    · obtain ⟨o, ho, r⟩ := hI1
      exact ⟨o, (hs2.2 I (Ne.symm hdI)).trans ho, r⟩
    · obtain ⟨o, ho, r⟩ := hl
      exact ⟨o, (hs2.2 l hdl).trans (hs1.extBut l o hIl ho), r⟩
    · exact (hs2.2 _ (htd p hp)).trans (hs1.extBut _ _ (htI p hp) (htl p hp))
    · exact h h' tk kvs' (fun b o hb hb2 e => hk' b o hb hb2 ((hs2.2 b hb).trans (hs1.extBut b o hb2 e))) hD' hf'
/-- dict(a list of pairs of a str and an int) -/
theorem dict_pairs {l : Addr} {n : Nat} {tl : List (Addr × Obj)} {ps : List (Str × Int)} {h₀ : Heap} {L : Addr} {m : Str → Option Value} {news : List (Addr × Obj)} {Q : Value → Shared → Prop} (hA : A.handled = none) (F : Fr h₀ L s.heap m) (N : News h₀ L s.heap news) (lo : sysModules < h₀.objs.size)
    (hl : s.heap.get? l = some (PySem.W.listOf (refs tl).toArray n)) (htl : ∀ p ∈ tl, s.heap.get? p.1 = some p.2) (hps : Alls EntR tl ps) (hnd : (ps.map (·.1)).Nodup) (hlen : ps.length ≤ 1000)
    (h : ∀ h' tk o kvs, Fr h₀ L h' m → News h₀ L h' ((s.heap.objs.size, o) :: news) → (s.heap.objs.size == sysModules) = false → o.IsDictOf (strKind prog w) kvs → PyProof.V.FlatPairs PyData.str kvs (kdpD ps) → (∀ p ∈ news, p.1 < s.heap.objs.size) → Q (.ref s.heap.objs.size) { s with heap := h', toks := tk }) :
    wpAny (model prog w) A (call (.type "dict") [.ref l]) Q E s := by
  have hlt : l < s.heap.objs.size := Heap.lt_size hl
  refine callType_codes (Q₁ := fun obj s₁ => obj = .ref s.heap.objs.size ∧ s₁ = { s with heap := s.heap.push { cls := .type "dict", data := .dict #[] } }) PySem.F.kt_called_dict (PySem.F.kt_typeCall_dict_1 _) PySem.F.entry_dict_init (kt_code_dict_new _ ⟨rfl, rfl⟩) ?_
  rintro obj s₁ ⟨rfl, rfl⟩
  have hnew : (s.heap.push { cls := .type "dict", data := .dict #[] }).DictOf (strKind prog w) s.heap.objs.size [] := Heap.DictOf.new s.heap
  have hl' : (s.heap.push { cls := .type "dict", data := .dict #[] }).get? l = some (PySem.W.listOf (refs tl).toArray n) := Heap.get?_push_of_some _ hl
  refine ⟨hnew.typeIs, PySem.F.args_dict_init_2 _ _, ?_⟩
  unfold Builtin.«dict.__init__»
  refine wpAny_bind ?_
  unfold Builtin.Dict.selfAndRest
  refine wpAny_bind (wpAny_notOrdered_dict hnew.typeIs ?_)
  show wpAny _ _ (pure (s.heap.objs.size, [Value.ref l])) _ _ _
  refine wpAny_pure ?_
  show wpAny _ _ (Builtin.Dict.updateFrom "dict.__init__" s.heap.objs.size (.ref l) [] .none) _ _ _
  unfold Builtin.Dict.updateFrom
  refine wpAny_bind (wpAny_typeOf (T := "list") ⟨_, hl', rfl⟩ ?_)
  rw [if_pos (by decide)]
  refine wpAny_bind (getAttrQ_keys hl' hA fun h1 tk1 hk1 => ?_)
  show wpAny _ _ (rule _ >>= _) _ _ _
  refine wpAny_bind (wpAny_rule ?_)
  have hl1 : h1.get? l = some (PySem.W.listOf (refs tl).toArray n) := hk1 _ _ hl'
  refine wpAny_bind (wpAny_pyIter_list ⟨_, hl1, rfl, _, rfl⟩ ?_)
  refine wpAny_pure ?_
  refine ⟨plainId_quiet plain_update_loop _, ?_⟩
  have old : ∀ b o, s.heap.get? b = some o → h1.get? b = some o := fun b o e => hk1 b o (Heap.get?_push_of_some _ e)
  have hd1 : h1.get? s.heap.objs.size = some { cls := .type "dict", data := .dict #[] } := hk1 _ _ (Heap.get?_push_size _ rfl)
  have hdlt : s.heap.objs.size < h1.objs.size := Heap.lt_size hd1
  have push1 : ∀ b o, h1.get? b = some o → (h1.push { cls := .type "list_iterator", data := .fields #[.ref l, .int 0 0] }).get? b = some o := fun b o e => Heap.get?_push_of_some _ e
  have hltI : ∀ b o, s.heap.get? b = some o → b ≠ h1.objs.size := fun b o e => Nat.ne_of_lt (Nat.lt_trans (Heap.lt_size e) hdlt)
  have F1 : Fr h₀ L h1 m := F.keeps old
  refine update_loop (I := h1.objs.size) (l := l) (tl := tl) (ps := ps) (by exact hA) hps hnd hlen (Nat.ne_of_lt hdlt) (Nat.ne_of_lt hlt) (hltI _ _ hl) (fun p hp => Nat.ne_of_lt (Heap.lt_size (htl p hp))) (fun p hp => hltI _ _ (htl p hp)) ps.length 0 _ [] (Nat.zero_add _) ⟨_, Heap.get?_push_size _ rfl, rfl, rfl⟩ ⟨_, push1 _ _ hl1, rfl, _, rfl⟩ (fun p hp => push1 _ _ (old _ _ (htl p hp)))
    ?_ .nil fun h' tk kvs' hk' hD' hf' => ?_
  · obtain ⟨o, es, ep, ho, r⟩ := hnew
    exact ⟨o, es, ep, push1 _ _ (hk1 _ _ ho), r⟩
  · obtain ⟨o', ho', hd'⟩ := Heap.dictOf_iff.mp hD'
    have keep : ∀ b o, s.heap.get? b = some o → h'.get? b = some o := fun b o e => hk' b o (Nat.ne_of_lt (Heap.lt_size e)) (hltI b o e) (push1 _ _ (old _ _ e))
    have fr0 : h₀.get? s.heap.objs.size = none := Heap.get?_none_of_le (Nat.le_trans F.above (Nat.le_of_lt F.ns.lt))
    refine ⟨rfl, h h' tk o' kvs' (F.keeps keep) (fun p hp => ?_) (F.notModules lo) hd' hf' fun p hp => Heap.lt_size (N p hp).1⟩
    rcases List.mem_cons.mp hp with rfl | hp
    · exact ⟨ho', Nat.ne_of_gt F.ns.lt, fr0⟩
    · exact ⟨keep _ _ (N p hp).1, (N p hp).2⟩
end
end Mine
namespace Mine
open LCg (Off1)
theorem fillE2 : Mine.hd.heap_39 = Mine.hd.heap_39 ∧ PySem.Challenge.rw_no0052_01 = PySem.Challenge.rw_no0052_01 := by
  w_top off
  k_fill
  exact ⟨rfl, rfl⟩
/-- a value that is an int or None -/
def OptVal (v : Value) (o : Option Int) : Prop := match o with
  | none => v = .none
  | some n => ∃ t, v = .int n t
theorem optVal_none {o : Option Int} (h : o = none) : OptVal .none o := by subst h; rfl
theorem optVal_some {o : Option Int} {n : Int} {t : Tok} (h : o = some n) : OptVal (.int n t) o := by subst h; exact ⟨t, rfl⟩
def eStep (a : Option Int) (x : Option Int) : Option Int := match x with
  | none => a
  | some n => match a with
    | none => some n
    | some k => if n < k then some n else some k
def eFold (os : List (Option Int)) : Option Int := os.foldl eStep none
theorem eFold_snoc (os : List (Option Int)) (i : Nat) (hi : i < os.length) : eFold (os.take (i + 1)) = eStep (eFold (os.take i)) os[i] := by
  unfold eFold
  rw [List.take_add_one, List.getElem?_eq_getElem hi, Option.toList_some, List.foldl_append]
  rfl
inductive OptsAre : List Value → List (Option Int) → Prop
  | nil : OptsAre [] []
  | cons {v : Value} {o : Option Int} {vs : List Value} {os : List (Option Int)} : OptVal v o → OptsAre vs os → OptsAre (v :: vs) (o :: os)
theorem OptsAre.length {vs : List Value} {os : List (Option Int)} (h : OptsAre vs os) : vs.length = os.length := by
  induction h with
  | nil => rfl
  | cons _ _ ih => simp [ih]
theorem OptsAre.get {vs : List Value} {os : List (Option Int)} (h : OptsAre vs os) : ∀ i (hi : i < vs.length) (hj : i < os.length), OptVal vs[i] os[i] := by
  induction h with
  | nil => intro i hi; cases hi
  | cons r _ ih =>
    intro i hi hj
    cases i with
    | zero => exact r
    | succ i => exact ih i (by simpa using hi) (by simpa using hj)
theorem OptsAre.snoc {vs : List Value} {os : List (Option Int)} {v : Value} {o : Option Int} (h : OptsAre vs os) (r : OptVal v o) : OptsAre (vs ++ [v]) (os ++ [o]) := by
  induction h with
  | nil => exact .cons r .nil
  | cons q _ ih => exact .cons q ih
local macro_rules | `(tactic| walk_at "m_tofor") => `(tactic| repeat' ((fail_if_success (with_reducible show wpAny _ _ (exec (Stmt.For _ _ _ _ _) _) _ _ _)); (first | (k_unfold; (try dsimp only)) | (k_end; wrow_close) | walk1 | (dsimp only; walk1) | fail "no step")))
local macro_rules | `(tactic| walk_at "m_rest") => `(tactic| (intro z h1 h2 h3; (try simp only [List.forall_mem_cons] at h2); simp_all [kstB]; done))
set_option maxHeartbeats 4000000 in
theorem earliest_walk {w : World} {dp un : Nat} {fr : Option (List Env)} {gd : Option (List Code)} {s : Shared} {h₀ : Heap} {L : Addr} {m mg mb : Str → Option Value} {loose : List Str} {mean : ExcName → Option Value}
    {news : List (Addr × Obj)} {l : Addr} {vs : List Value} {os : List (Option Int)} {Q : Value → Shared → Prop} {E : Value → Shared → Prop}
    (F : Fr h₀ L s.heap m) (X : (Mine.hd.heap_39 w.params).In h₀) (T : Top Mine.hd.view_39 loose mean mg mb h₀) (hdp : dp + 2 < recursionLimit) (hun : un + 100 < cLine)
    (hl : s.heap.IsList l vs.toArray) (ho : OptsAre vs os) (N : News h₀ L s.heap news)
    (h : ∀ h' tk' v, Fr h₀ L h' m → News h₀ L h' news → OptVal v (eFold os) → Q v { s with heap := h', toks := tk' }) :
    wpAny (model PySem.Challenge.rw_no0052_01.row.prog w) (atop dp un fr gd) (call (.ref 22) [.ref l]) Q E s := by
  have N0 : News h₀ L s.heap [] := News.nil
  (refine wpAny_call ?_; k_dflt (refine' enterP (binds := [(Str.ofString "some", Value.ref l)]) ?k1 ?k2 ?k3 ?k4 ?k6 ?k7 ?k8 ?k9 ?kB ?_ ?c2 ?c3 ?c4 ?c5; (case k1 => k_asm); (case k2 => k_asm); (case k3 => exact N0); (case k4 => k_asm); (case k6 => k_is); (case k7 => k_is); (case k8 => ktr_room); (case k9 => exact BindsTo.of_eq rfl); (case c5 => decide); (case kB => exact locs rfl); (case c2 => exact rfl); (case c3 => exact rfl); (case c4 => exact rfl); k_whole; intro g' L' h' kp' st' F' N' X' T'; (try dsimp only)))
  clear N0
  have hl' : g'.IsList l vs.toArray := by
    obtain ⟨o, e, r⟩ := hl
    exact ⟨o, kp' _ _ (fun q => nomatch q) e, r⟩
  walk_at "m_tofor"
  (rename Fr _ _ _ _ => F1)
  (with_unfolding_all refine For_invVF F1 rfl rfl ?_)
  walk1
  (rename News _ _ _ _ => N1)
  obtain ⟨ol, hol, hol2⟩ := id hl'
  have hlL : l ≠ L' := Nat.ne_of_lt (Nat.lt_of_lt_of_le (Heap.lt_size hol) F1.above)
  (with_unfolding_all refine loop_list [] (fun i m₁ nx => (∃ fv, m₁ (Str.ofString "found") = some fv ∧ OptVal fv (eFold (os.take i)) ∧ nx = []) ∧ ∀ z, z ≠ Str.ofString "one" → (∀ p ∈ [(Str.ofString "found", Value.none)], z ≠ p.1) → ([] : List Str).contains z = false → m₁ z = (if z = Str.ofString "found" then some Value.none else List.lookup z [(Str.ofString "some", Value.ref l)].reverse)) rfl ⟨ol, F1.keep _ _ hol, hol2⟩ (.inl (by rw [hol]; exact fun e => nomatch e)) F1 N1 hlL ⟨⟨_, rfl, rfl, rfl⟩, fun _ _ _ _ => rfl⟩ ?_ ?_)
  · intro I i v m₁ nx h₂ tk₂ oI hv hJ off offs F₂ N₂
    obtain ⟨⟨fv, hfv, hfound, rfl⟩, hrest⟩ := hJ
    have hiv : i < vs.length := by
      have := (Array.getElem?_eq_some_iff.mp hv).1
      simpa using this
    have hio : i < os.length := by rw [← ho.length]; exact hiv
    have hvo : OptVal v os[i] := by
      have e : vs[i]? = some v := by simpa using hv
      have e2 : v = vs[i] := by simp [hiv] at e; exact e.symm
      rw [e2]; exact ho.get i hiv hio
    have hsn := eFold_snoc os i hio
    have F₃ := kst_fr (ps := [(Str.ofString "found", fv)]) (stored := []) (List.forall_mem_cons.mpr ⟨hfv, List.forall_mem_nil _⟩) (fun z h1 h2 h3 => hrest z h1 (by simpa using h2) h3) F₂
    clear F₂ F1 N1 hfv hrest
    cases hoi : os[i] with
    | none =>
      rw [hoi] at hvo hsn
      cases hvo
      k_steps
      exact TurnEnd.next (by assumption) (by assumption) ⟨⟨fv, rfl, by rw [hsn]; exact hfound, rfl⟩, by walk_at "m_rest"⟩ (fun _ hp => hp) trivial
    | some n =>
      rw [hoi] at hvo hsn
      obtain ⟨t, rfl⟩ := hvo
      cases hnd : eFold (os.take i) with
      | none =>
        rw [hnd] at hfound hsn
        cases hfound
        k_steps
        exact TurnEnd.next (by assumption) (by assumption) ⟨⟨_, rfl, by rw [hsn]; exact ⟨_, rfl⟩, rfl⟩, by walk_at "m_rest"⟩ (fun _ hp => hp) trivial
      | some k =>
        rw [hnd] at hfound hsn
        obtain ⟨t2, rfl⟩ := hfound
        k_steps
        · have e : eStep (some k) (some n) = some n := by simp [eStep, *]
          exact TurnEnd.next (by assumption) (by assumption) ⟨⟨_, rfl, by rw [hsn, e]; exact ⟨_, rfl⟩, rfl⟩, by walk_at "m_rest"⟩ (fun _ hp => hp) trivial
        · have e : eStep (some k) (some n) = some k := by simp [eStep, *]
          exact TurnEnd.next (by assumption) (by assumption) ⟨⟨_, rfl, by rw [hsn, e]; exact ⟨_, rfl⟩, rfl⟩, by walk_at "m_rest"⟩ (fun _ hp => hp) trivial
  · intro m₁ nx h₂ tk₂ hJ F₂ N₂
    obtain ⟨⟨fv, hfv, hfound, rfl⟩, hrest⟩ := hJ
    have F₃ := kst_frOut (ps := [(Str.ofString "found", fv)]) (stored := []) (x := Str.ofString "one") (List.forall_mem_cons.mpr ⟨hfv, List.forall_mem_nil _⟩) (fun z h1 h2 h3 => hrest z h1 (by simpa using h2) h3) F₂
    clear F₂ hfv hrest F1 N1
    k_steps
    (try dsimp only)
    have k2 := keeps_all kp' F₃
    rw [List.take_of_length_le (by rw [← ho.length]; simp)] at hfound
    exact h _ _ _ (Keeps.fr F (News.nil) k2) (Keeps.news N k2) hfound
end Mine
namespace Mine
open LCg (Off1)
theorem fillN1 : Mine.hd.heap_39 = Mine.hd.heap_39 ∧ PySem.Challenge.rw_no0052_01 = PySem.Challenge.rw_no0052_01 := by
  w_top off
  k_fill
  exact ⟨rfl, rfl⟩
/-- the earliest of the first i kinds -/
def nd (c : List (Str × Int)) : Nat → Option (Int × Nat)
  | 0 => none
  | i + 1 => if kdpHas c (kn i) = true then (match nd c i with
      | none => some (kdpLook c (kn i) 0, i)
      | some (t, j) => if kdpLook c (kn i) 0 < t then some (kdpLook c (kn i) 0, i) else some (t, j)) else nd c i
def FoundAt (v : Value) (nx : List (Addr × Obj)) (r : Option (Int × Nat)) : Prop := match r with
  | none => v = .none ∧ nx = []
  | some (t, j) => ∃ a tk tk2, v = .ref a ∧ nx = [(a, { cls := .type "tuple", data := .seq #[.int t tk, .str (kn j) tk2] })]
local macro_rules | `(tactic| walk_at "call builtin:dict.get") => `(tactic| (k_here; (with_reducible show wpAny _ _ (call (Value.builtin _) [Value.ref _, Value.str _ _]) _ _ _); k_dflt (refine kdp_get1 (TabAt.ofFr (by assumption) (by assumption)) (fun hk' t' => ?_) (fun hk' => ?_))))
local macro_rules | `(tactic| walk_at "m_tofor") => `(tactic| repeat' ((fail_if_success (with_reducible show wpAny _ _ (exec (Stmt.For _ _ _ _ _) _) _ _ _)); (first | (k_unfold; (try dsimp only)) | (k_end; wrow_close) | walk1 | (dsimp only; walk1) | fail "no step")))
theorem found_some {a : Addr} {t : Int} {j : Nat} {tk tk2 : Tok} {r : Option (Int × Nat)} (h : r = some (t, j)) : FoundAt (.ref a) [(a, { cls := .type "tuple", data := .seq #[.int t tk, .str (kn j) tk2] })] r := by
  subst h; exact ⟨a, tk, tk2, rfl, rfl⟩
theorem found_none {r : Option (Int × Nat)} (h : r = none) : FoundAt .none [] r := by
  subst h; exact ⟨rfl, rfl⟩
local macro_rules | `(tactic| walk_at "m_rest") => `(tactic| (intro z h1 h2 h3; simp only [List.forall_mem_cons] at h2; simp_all [kstB]; done))
set_option maxHeartbeats 4000000 in
theorem next_due_walk {w : World} {dp un : Nat} {fr : Option (List Env)} {gd : Option (List Code)} {s : Shared} {h₀ : Heap} {L : Addr} {m mg mb : Str → Option Value} {loose : List Str} {mean : ExcName → Option Value}
    {d : Addr} {c : List (Str × Int)} {Q : Value → Shared → Prop} {E : Value → Shared → Prop}
    (F : Fr h₀ L s.heap m) (X : (Mine.hd.heap_39 w.params).In h₀) (T : Top Mine.hd.view_39 loose mean mg mb h₀) (hdp : dp + 20 < recursionLimit) (hun : un + 500 < cLine)
    (D : StrTab PySem.Challenge.rw_no0052_01.row.prog w s.heap d (kdpD c))
    (h : ∀ h' tk' v nx, Keeps [] s.heap h' → FoundAt v nx (nd c 6) → (∀ p ∈ nx, h'.get? p.1 = some p.2 ∧ s.heap.get? p.1 = none) → Q v { s with heap := h', toks := tk' }) :
    wpAny (model PySem.Challenge.rw_no0052_01.row.prog w) (atop dp un fr gd) (call (.ref 36) [.ref d]) Q E s := by
  have N : News h₀ L s.heap [] := News.nil
  (refine wpAny_call ?_; k_dflt (refine' enterP (binds := [(Str.ofString "alarms", Value.ref d)]) ?k1 ?k2 ?k3 ?k4 ?k6 ?k7 ?k8 ?k9 ?kB ?_ ?c2 ?c3 ?c4 ?c5; (case k1 => k_asm); (case k2 => k_asm); (case k3 => k_asm); (case k4 => k_asm); (case k6 => k_is); (case k7 => k_is); (case k8 => ktr_room); (case k9 => exact BindsTo.of_eq rfl); (case c5 => decide); (case kB => exact locs rfl); (case c2 => exact rfl); (case c3 => exact rfl); (case c4 => exact rfl); k_whole; intro g' L' h' kp' st' F' N' X' T'; (try dsimp only)))
  have D' : StrTab PySem.Challenge.rw_no0052_01.row.prog w g' d (kdpD c) := D.keep fun b o e => kp' b o (fun q => nomatch q) e
  walk_at "m_tofor"
  (rename Fr _ _ _ _ => F1)
  (with_unfolding_all refine For_invVF F1 rfl rfl ?_)
  walk1
  (rename News _ _ _ _ => N1)
  (with_unfolding_all refine loop_tuple (fun i m₁ nx => (∃ fv, m₁ (Str.ofString "found") = some fv ∧ FoundAt fv nx (nd c i)) ∧ ∀ z, z ≠ Str.ofString "kind" → (∀ p ∈ [(Str.ofString "found", Value.none)], z ≠ p.1) → [Str.ofString "told"].contains z = false → m₁ z = (if z = Str.ofString "found" then some Value.none else List.lookup z [(Str.ofString "alarms", Value.ref d)].reverse)) rfl (kinds_tuple X') F1 N1 ⟨⟨_, rfl, rfl, rfl⟩, fun _ _ _ _ => rfl⟩ ?_ ?_)
  · intro I i v m₁ nx h₂ tk₂ oI hv hJ off F₂ N₂
    obtain ⟨⟨fv, hfv, hfound⟩, hrest⟩ := hJ
    obtain ⟨hi, t, rfl⟩ := kvs_at hv
    have F₃ := kst_fr (ps := [(Str.ofString "found", fv)]) (List.forall_mem_cons.mpr ⟨hfv, List.forall_mem_nil _⟩) (fun z h1 h2 h3 => hrest z h1 (by simpa using h2) h3) F₂
    clear F₂ F1 N1 hfv hrest
    cases hnd : nd c i with
    | none =>
      rw [hnd] at hfound
      obtain ⟨rfl, rfl⟩ := hfound
      k_steps
      · have e : nd c (i + 1) = some (kdpLook c (kn i) 0, i) := by simp [nd, *]
        exact TurnEnd.next (by assumption) (by assumption) ⟨⟨_, rfl, found_some e⟩, by walk_at "m_rest"⟩ (by k_allIn) ⟨by omega, trivial⟩
      · have e : nd c (i + 1) = none := by simp [nd, *]
        exact TurnEnd.next (by assumption) (by assumption) ⟨⟨_, rfl, found_none e⟩, by walk_at "m_rest"⟩ (by k_allIn) trivial
    | some r =>
      obtain ⟨t', j⟩ := r
      rw [hnd] at hfound
      obtain ⟨a, tka, tkb, rfl, rfl⟩ := hfound
      have hoff := off.1
      k_steps
      · have e : nd c (i + 1) = some (kdpLook c (kn i) 0, i) := by simp [nd, *]
        exact TurnEnd.next (by assumption) (by assumption) ⟨⟨_, rfl, found_some e⟩, by walk_at "m_rest"⟩ (by k_allIn) ⟨by omega, trivial⟩
      · have e : nd c (i + 1) = some (t', j) := by simp [nd, *]
        exact TurnEnd.next (by assumption) (by assumption) ⟨⟨_, rfl, found_some e⟩, by walk_at "m_rest"⟩ (by k_allIn) ⟨by omega, trivial⟩
      · have e : nd c (i + 1) = some (t', j) := by simp [nd, *]
        exact TurnEnd.next (by assumption) (by assumption) ⟨⟨_, rfl, found_some e⟩, by walk_at "m_rest"⟩ (by k_allIn) ⟨by omega, trivial⟩
  · intro m₁ nx h₂ tk₂ hJ F₂ N₂
    obtain ⟨⟨fv, hfv, hfound⟩, hrest⟩ := hJ
    have F₃ := kst_frOut (ps := [(Str.ofString "found", fv)]) (stored := [Str.ofString "told"]) (x := Str.ofString "kind") (List.forall_mem_cons.mpr ⟨hfv, List.forall_mem_nil _⟩) (fun z h1 h2 h3 => hrest z h1 (by simpa using h2) h3) F₂
    clear F₂ hfv hrest F1 N1
    k_steps
    (try dsimp only)
    refine h _ _ _ nx ?_ hfound ?_
    · exact fun b o hb e => Fr.keep (by assumption) b o (kp' b o hb e)
    · intro p hp
      have z := N₂ p hp
      refine ⟨z.1, ?_⟩
      cases q : s.heap.get? p.1 with
      | none => rfl
      | some o =>
        have := kp' _ _ (fun q => nomatch q) q
        rw [z.2.2] at this; cases this
end Mine
namespace Mine
open LCg (Off1)
theorem fillA1 : Mine.hd.heap_39 = Mine.hd.heap_39 ∧ PySem.Challenge.rw_no0052_01 = PySem.Challenge.rw_no0052_01 := by
  w_top off
  k_fill
  exact ⟨rfl, rfl⟩
local macro_rules | `(tactic| walk_at "getMethod ref") => `(tactic| (k_here; (with_reducible show wpAny _ _ (getMethod (Value.ref 15) _ _) _ _ _); k_dflt (refine kinds_method (by assumption) (by assumption) ?_)))
local macro_rules | `(tactic| walk_at "call builtin:tuple.index") => `(tactic| (k_here; k_dflt (refine kind_index (by assumption) (by assumption) (by assumption) ?_)))
set_option maxHeartbeats 4000000 in
theorem kind_place_walk {w : World} {dp un : Nat} {fr : Option (List Env)} {gd : Option (List Code)} {s : Shared} {h₀ : Heap} {L : Addr} {m mg mb : Str → Option Value} {loose : List Str} {mean : ExcName → Option Value}
    {news : List (Addr × Obj)} {i : Nat} {t : Tok} {Q : Value → Shared → Prop} {E : Value → Shared → Prop}
    (F : Fr h₀ L s.heap m) (X : (Mine.hd.heap_39 w.params).In h₀) (T : Top Mine.hd.view_39 loose mean mg mb h₀) (hdp : dp + 2 < recursionLimit) (hun : un + 100 < cLine) (hi : i < 6)
    (N : News h₀ L s.heap news) (h : ∀ h' tk' t', Fr h₀ L h' m → News h₀ L h' news → Q (.int (i : Nat) t') { s with heap := h', toks := tk' }) :
    wpAny (model PySem.Challenge.rw_no0052_01.row.prog w) (atop dp un fr gd) (call (.ref 29) [.str (kn i) t]) Q E s := by
  have N0 : News h₀ L s.heap [] := News.nil
  (refine wpAny_call ?_; k_dflt (refine' enterP (binds := [(Str.ofString "kind", Value.str (kn i) t)]) ?k1 ?k2 ?k3 ?k4 ?k6 ?k7 ?k8 ?k9 ?kB ?_ ?c2 ?c3 ?c4 ?c5; (case k1 => k_asm); (case k2 => k_asm); (case k3 => exact N0); (case k4 => k_asm); (case k6 => k_is); (case k7 => k_is); (case k8 => ktr_room); (case k9 => exact BindsTo.of_eq rfl); (case c5 => decide); (case kB => exact locs rfl); (case c2 => exact rfl); (case c3 => exact rfl); (case c4 => exact rfl); k_whole; intro g' L' h' kp' st' F' N' X' T'; (try dsimp only)))
  clear N0
  k_steps
  (try dsimp only)
  have k2 := keeps_all kp' (by assumption)
  exact h _ _ _ (Keeps.fr F (News.nil) k2) (Keeps.news N k2)
theorem pairs_next {tl : List (Addr × Obj)} {D : Addr} {o : Obj} {n : Nat} : PySem.W.listOf ((refs tl).toArray.push (.ref D)) n = PySem.W.listOf (refs (tl ++ [(D, o)])).toArray n := by simp [refs]
/-- the pairs of those of the first i kinds that are due -/
def adl (c : List (Str × Int)) (now : Int) : Nat → List (Int × Nat)
  | 0 => []
  | i + 1 => if kdpHas c (kn i) = true then (if kdpLook c (kn i) 0 ≤ now then adl c now i ++ [(kdpLook c (kn i) 0, i)] else adl c now i) else adl c now i
def PairR (p : Addr × Obj) (r : Int × Nat) : Prop := ∃ t t2, p.2 = { cls := .type "tuple", data := .seq #[.int r.1 t, .int (r.2 : Nat) t2] }
theorem adl_turn {h₀ h : Heap} {L D I pl : Addr} {oI : Obj} {tl : List (Addr × Obj)} {K : List (Int × Nat)} {t1 : Int} {i n : Nat} {tka tkb : Tok}
    (N : News h₀ L h ((D, { cls := .type "tuple", data := .seq #[.int t1 tka, .int (i : Nat) tkb] }) :: (I, oI) :: (pl, PySem.W.listOf ((refs tl).toArray.push (.ref D)) (n + 1)) :: tl)) (hK : Alls PairR tl K)
    (hoff : ∀ p ∈ tl, p.1 ≠ pl) (hpI : @Ne Nat pl I) (htI : ∀ p ∈ tl, p.1 ≠ I) (hI : @LT.lt Nat _ I D) (hpl : @LT.lt Nat _ pl D) :
    ∃ tl', Alls PairR tl' (K ++ [(t1, i)]) ∧ (∀ p ∈ tl', p.1 ≠ pl) ∧ News h₀ L h ((I, oI) :: (pl, PySem.W.listOf (refs tl').toArray (n + 1)) :: tl') ∧ Off1 I ((pl, PySem.W.listOf (refs tl').toArray (n + 1)) :: tl') := by
  refine ⟨tl ++ [(D, { cls := .type "tuple", data := .seq #[.int t1 tka, .int (i : Nat) tkb] })], hK.append (.cons ⟨tka, tkb, rfl⟩ .nil), fun p hp => ?_, fun p hp => ?_, ⟨hpI, off1_of fun p hp => ?_⟩⟩
  · rcases List.mem_append.mp hp with hp | hp
    · exact hoff p hp
    · rw [List.mem_singleton.mp hp]; exact Nat.ne_of_gt hpl
  · rw [pairs_next] at N
    rcases List.mem_cons.mp hp with rfl | hp
    · exact N _ (.tail _ (.head _))
    · rcases List.mem_cons.mp hp with rfl | hp
      · exact N _ (.tail _ (.tail _ (.head _)))
      · rcases List.mem_append.mp hp with hp | hp
        · exact N _ (.tail _ (.tail _ (.tail _ hp)))
        · rw [List.mem_singleton.mp hp]; exact N _ (.head _)
  · rcases List.mem_append.mp hp with hp | hp
    · exact htI p hp
    · rw [List.mem_singleton.mp hp]; exact Nat.ne_of_gt hI
theorem adl_mem {c : List (Str × Int)} {now : Int} {t : Int} {j : Nat} : ∀ {i : Nat}, (t, j) ∈ adl c now i ↔ j < i ∧ kdpHas c (kn j) = true ∧ kdpLook c (kn j) 0 = t ∧ t ≤ now
  | 0 => by simp [adl]
  | i + 1 => by
    have ih := adl_mem (c := c) (now := now) (t := t) (j := j) (i := i)
    unfold adl
    split
    · split
      · rw [List.mem_append, ih, List.mem_singleton, Prod.mk.injEq]
        constructor
        · rintro (⟨h1, h2⟩ | ⟨h1, h2⟩)
          · exact ⟨by omega, h2⟩
          · subst h1 h2; exact ⟨by omega, by assumption, rfl, by assumption⟩
        · rintro ⟨h1, h2, h3, h4⟩
          by_cases e : j = i
          · subst e; exact .inr ⟨h3.symm, rfl⟩
          · exact .inl ⟨by omega, h2, h3, h4⟩
      · rw [ih]
        constructor
        · rintro ⟨h1, h2⟩; exact ⟨by omega, h2⟩
        · rintro ⟨h1, h2, h3, h4⟩
          by_cases e : j = i
          · subst e; subst h3; exact absurd h4 (by assumption)
          · exact ⟨by omega, h2, h3, h4⟩
    · rw [ih]
      constructor
      · rintro ⟨h1, h2⟩; exact ⟨by omega, h2⟩
      · rintro ⟨h1, h2, h3, h4⟩
        by_cases e : j = i
        · subst e; exact absurd h2 (by assumption)
        · exact ⟨by omega, h2, h3, h4⟩
theorem adl_nodup (c : List (Str × Int)) (now : Int) : ∀ i, (adl c now i).Nodup
  | 0 => List.nodup_nil
  | i + 1 => by
    have ih := adl_nodup c now i
    unfold adl
    split
    · split
      · refine List.nodup_append.mpr ⟨ih, by simp, fun x hx y hy e => ?_⟩
        rw [List.mem_singleton.mp hy] at e
        rw [e] at hx
        exact Nat.lt_irrefl _ (adl_mem.mp hx).1
      · exact ih
    · exact ih
theorem pairR_key {p : Addr × Obj} {r : Int × Nat} (h : PairR p r) : KeyObj p.2 r := by
  obtain ⟨t, t2, e⟩ := h
  exact ⟨t, t2, [], 0, e⟩
local macro_rules | `(tactic| walk_at "m_tocomp") => `(tactic| repeat' ((fail_if_success (with_reducible show wpAny _ _ (eval (PySem.Expr.ListComp _ _ _ _) _) _ _ _)); (first | (k_unfold; (try dsimp only)) | (k_end; wrow_close) | walk1 | (dsimp only; walk1) | fail "no step")))
local macro_rules | `(tactic| walk_at "call builtin:dict.get") => `(tactic| (k_here; (with_reducible show wpAny _ _ (call (Value.builtin _) [Value.ref _, Value.str _ _]) _ _ _); k_dflt (refine kdp_get1 (TabAt.ofFr (by assumption) (by assumption)) (fun hk' t' => ?_) (fun hk' => ?_))))
local macro_rules | `(tactic| walk_at "m_tofor") => `(tactic| repeat' ((fail_if_success (with_reducible show wpAny _ _ (exec (Stmt.For _ _ _ _ _) _) _ _ _)); (first | (k_unfold; (try dsimp only)) | (k_end; wrow_close) | walk1 | (dsimp only; walk1) | fail "no step")))
local macro_rules | `(tactic| walk_at "call ref") => `(tactic| (k_here; (with_reducible show wpAny _ _ (call (Value.ref 29) _) _ _ _); k_dflt (refine' kind_place_walk ?F ?X ?T ?d ?u ?i ?N ?_; (case F => k_asm); (case X => k_asm); (case T => k_asm); (case d => ktr_room); (case u => ktr_units); (case i => assumption); (case N => k_asm)); intro h' tk' t' F' N'; (try k_sweep)))
local macro_rules | `(tactic| walk_at "subscriptTail") => `(tactic| (k_here; (with_reducible show wpAny _ _ (subscriptTail _ _ (Value.ref 15) (Value.int _ _)) _ _ _); k_dflt (refine kinds_item (by k_asm) (by k_asm) (by assumption) ?_); intro t9'))
local macro_rules | `(tactic| k_all) => `(tactic| assumption)
local macro_rules | `(tactic| walk_at "call builtin:list.append") => `(tactic| (k_here; (with_reducible show wpAny _ _ (call (Value.builtin _) [Value.ref _, _]) _ _ _); k_dflt (refine' append_K ?k1 ?k2 ?k3 ?_ ?z; (case k1 => k_asm); (case k2 => k_asm); (case k3 => k_upd); (case z => (simp only [List.size_toArray, List.length_map]; rw [sizeLine_eq]; omega)); k_whole); intro h' F' N'; (try k_sweep)))
local macro_rules | `(tactic| walk_at "m_rest") => `(tactic| (intro z h1 h2 h3; (try simp only [List.forall_mem_cons] at h2); simp_all [kstB]; done))
theorem adl_len (c : List (Str × Int)) (now : Int) : ∀ i, (adl c now i).length ≤ i
  | 0 => Nat.le_refl _
  | i + 1 => by
    have := adl_len c now i
    unfold adl
    split
    · split
      · rw [List.length_append, List.length_singleton]; omega
      · omega
    · omega
set_option maxHeartbeats 4000000 in
theorem all_due_walk {w : World} {dp un : Nat} {fr : Option (List Env)} {gd : Option (List Code)} {s : Shared} {h₀ : Heap} {L : Addr} {m mg mb : Str → Option Value} {loose : List Str} {mean : ExcName → Option Value}
    {news : List (Addr × Obj)} {d : Addr} {c : List (Str × Int)} {now : Int} {tn : Tok} {Q : Value → Shared → Prop} {E : Value → Shared → Prop}
    (F : Fr h₀ L s.heap m) (X : (Mine.hd.heap_39 w.params).In h₀) (T : Top Mine.hd.view_39 loose mean mg mb h₀) (hdp : dp + 6 < recursionLimit) (hun : un + 200 < cLine)
    (D : StrTab PySem.Challenge.rw_no0052_01.row.prog w s.heap d (kdpD c)) (N : News h₀ L s.heap news)
    (h : ∀ (h' : Heap) tk' D' (K : List (Int × Nat)) ys n, Keeps [] s.heap h' → s.heap.get? D' = none → h'.get? D' = some (PySem.W.listOf ys.toArray n) → K.Perm (adl c now 6) → K.Pairwise (fun a b => lx a b = true) → StrsAre ys (K.map fun r => kn r.2) → Q (.ref D') { s with heap := h', toks := tk' }) :
    wpAny (model PySem.Challenge.rw_no0052_01.row.prog w) (atop dp un fr gd) (call (.ref 41) [.ref d, .int now tn]) Q E s := by
  have N0 : News h₀ L s.heap [] := News.nil
  (refine wpAny_call ?_; k_dflt (refine' enterP (binds := [(Str.ofString "alarms", Value.ref d), (Str.ofString "now", Value.int now tn)]) ?k1 ?k2 ?k3 ?k4 ?k6 ?k7 ?k8 ?k9 ?kB ?_ ?c2 ?c3 ?c4 ?c5; (case k1 => k_asm); (case k2 => k_asm); (case k3 => exact N0); (case k4 => k_asm); (case k6 => k_is); (case k7 => k_is); (case k8 => ktr_room); (case k9 => exact BindsTo.of_eq rfl); (case c5 => decide); (case kB => exact locs rfl); (case c2 => exact rfl); (case c3 => exact rfl); (case c4 => exact rfl); k_whole; intro g' L' h' kp' st' F' N' X' T'; (try dsimp only)))
  clear N0
  have D' : StrTab PySem.Challenge.rw_no0052_01.row.prog w g' d (kdpD c) := D.keep fun b o e => kp' b o (fun q => nomatch q) e
  walk_at "m_tofor"
  (rename Fr _ _ _ _ => F1)
  (with_unfolding_all refine For_invVF F1 rfl rfl ?_)
  walk1
  (rename News _ _ _ _ => N1)
  rename_i pl a2 a3 a4
  (with_unfolding_all refine loop_tuple (fun i m₁ nx => (∃ tl n, nx = (pl, PySem.W.listOf (refs tl).toArray n) :: tl ∧ Alls PairR tl (adl c now i) ∧ ∀ p ∈ tl, p.1 ≠ pl) ∧ ∀ z, z ≠ Str.ofString "kind" → (∀ p ∈ ([] : List (Str × Value)), z ≠ p.1) → [Str.ofString "told"].contains z = false → m₁ z = (if z = Str.ofString "pairs" then some (Value.ref pl) else List.lookup z [(Str.ofString "alarms", Value.ref d), (Str.ofString "now", Value.int now tn)].reverse)) rfl (kinds_tuple X') F1 N1 ⟨⟨[], 0, rfl, .nil, fun _ hp => nomatch hp⟩, fun _ _ _ _ => rfl⟩ ?_ ?_)
  · intro I i v m₁ nx h₂ tk₂ oI hv hJ off F₂ N₂
    obtain ⟨⟨tl, n, rfl, htl, hoff⟩, hrest⟩ := hJ
    obtain ⟨hi, t, rfl⟩ := kvs_at hv
    have F₃ := kst_fr (ps := []) (List.forall_mem_nil _) (fun z h1 h2 h3 => hrest z h1 h2 h3) F₂
    have hpI : @Ne Nat pl I := off.1
    have htI := off1_mem off.2
    have htlen : tl.length ≤ 6 := by rw [htl.length]; have := adl_len c now i; omega
    clear F₂ F1 N1 hrest
    k_steps
    · have e : adl c now (i + 1) = adl c now i ++ [(kdpLook c (kn i) 0, i)] := by simp [adl, *]
      (rename News _ _ _ _ => N9)
      (rename _ ∧ _ ∧ AllLt _ _ => l9)
      obtain ⟨tl', h1, h2, h3, h4⟩ := adl_turn N9 htl hoff hpI htI l9.1 l9.2.1
      exact TurnEnd.next (by assumption) h3 ⟨⟨tl', n + 1, rfl, e ▸ h1, h2⟩, by walk_at "m_rest"⟩ (fun _ hp => hp) h4
    · have e : adl c now (i + 1) = adl c now i := by simp [adl, *]
      exact TurnEnd.next (by assumption) (by assumption) ⟨⟨tl, n, rfl, e ▸ htl, hoff⟩, by walk_at "m_rest"⟩ (fun _ hp => hp) ⟨hpI, off1_of htI⟩
    · have e : adl c now (i + 1) = adl c now i := by simp [adl, *]
      exact TurnEnd.next (by assumption) (by assumption) ⟨⟨tl, n, rfl, e ▸ htl, hoff⟩, by walk_at "m_rest"⟩ (fun _ hp => hp) ⟨hpI, off1_of htI⟩
  · intro m₁ nx h₂ tk₂ hJ F₂ N₂
    obtain ⟨⟨tl, n, rfl, htl, hoff⟩, hrest⟩ := hJ
    have F₃ := kst_frOut (ps := []) (stored := [Str.ofString "told"]) (x := Str.ofString "kind") (List.forall_mem_nil _) (fun z h1 h2 h3 => hrest z h1 h2 h3) F₂
    have htlen : tl.length ≤ 6 := by rw [htl.length]; exact adl_len c now 6
    clear F₂ F1 N1 hrest
    walk_at "m_tocomp"
    k_dflt (refine LCp.ListComp_P (F₀ := by k_asm) (by with_unfolding_all rfl) (by decide) (by rfl) (by decide) (by rfl) (by rfl) (by decide) ?_)
    k_steps
    have N₂' : News g' L' h₂ ((pl, PySem.W.listOf (refs tl).toArray n) :: tl) := N₂
    refine sorted_keys (R := PairR) F₃ N₂' ⟨_, (N₂ _ (.head _)).1, rfl, _, rfl⟩ (fun p hp => .tail _ hp) (fun p r => pairR_key) htl (adl_nodup c now 6) (adl_len c now 6) fun D8 e8 tl' K' h8 F8 N8 l8 hA hP hS hsub => ?_
    have hlen8 : (refs tl').toArray.size = K'.length := by simp [refs, hA.length]
    have hK8 : K'.length ≤ 6 := by rw [hP.length_eq]; exact adl_len c now 6
    refine LCp.SrcLP.ledger rfl F8 N8 (.head _) (by rw [hlen8, sizeLine_eq]; omega) fun g9 => ?_
    refine restP_inv (fun i ys nw => nw = (D8, seqObj "list" (refs tl').toArray e8) :: (pl, PySem.W.listOf (refs tl).toArray n) :: tl ∧ StrsAre ys ((K'.take i).map fun r => kn r.2)) ?_ ?_ _ 0 [] _ (Nat.zero_add _) ⟨rfl, .nil⟩
    · rintro i ys nw v hi ⟨rfl, hys⟩ hv
      have hi' : i < tl'.length := by rw [hA.length]; omega
      have hiK : i < K'.length := by omega
      have hR := hA.get i hi' hiK
      obtain ⟨t1, t2, ho⟩ := hR
      have hv' : v = .ref tl'[i].1 := by
        have : (refs tl')[i]? = some v := by simpa using hv
        simp [refs, hi'] at this
        exact this.symm
      have hmem : (K'[i].1, K'[i].2) ∈ adl c now 6 := hP.mem_iff.mp (List.getElem_mem hiK)
      have hp6 := (adl_mem.mp hmem).1
      refine ⟨tl'[i].1, tl'[i].2, _, _, _, hv', .tail _ (.tail _ (hsub _ (List.getElem_mem hi'))), by rw [ho], by rw [ho], ?_⟩
      intro I oI C oC D m₂ h tk E' hC hx hx₂ F9 N9 off ne
      k_steps
      refine LCg.CompEnd.intro (by assumption) N9 _ (fun p hp => hp) off (Or.inr ⟨_, .head _, rfl, _, rfl⟩) ⟨rfl, ?_⟩
      rw [show K'.take (i + 1) = K'.take i ++ [K'[i]] by rw [List.take_add_one]; simp [hiK], List.map_append]
      exact StrsAre.append' hys (.cons _ _ .nil)
    · rintro ys nw ⟨rfl, hys⟩
      intro D h9 tk F9 N9 off
      have k2 := keeps_all kp' F9
      refine h h9 tk D K' ys _ k2 ?_ (N9 _ (.head _)).1 hP hS ?_
      · exact fresh_of kp' (fun q => nomatch q) (N9 _ (.head _)).2.2
      · rw [List.take_of_length_le (by rw [hlen8]; exact Nat.le_refl _)] at hys
        exact hys
end Mine
namespace Mine
open LCg (Off1)
theorem fillB1 : Mine.hd.heap_39 = Mine.hd.heap_39 ∧ PySem.Challenge.rw_no0052_01 = PySem.Challenge.rw_no0052_01 := by
  w_top off
  k_fill
  exact ⟨rfl, rfl⟩
local macro_rules | `(tactic| walk_at "m_tocomp") => `(tactic| repeat' ((fail_if_success (with_reducible show wpAny _ _ (eval (PySem.Expr.ListComp _ _ _ _) _) _ _ _)); (first | (k_unfold; (try dsimp only)) | (k_end; wrow_close) | walk1 | (dsimp only; walk1) | fail "no step")))
local macro_rules | `(tactic| walk_at "m_toif") => `(tactic| repeat' ((fail_if_success (with_reducible show wpAny _ _ (exec (Stmt.If _ _ _ _) _) _ _ _)); (first | (k_unfold; (try dsimp only)) | (k_end; wrow_close) | walk1 | (dsimp only; walk1) | fail "no step")))
/-- the entries of a dict less a key, with another time for it or none -/
def waC (c : List (Str × Int)) (k : Str) : Option Int → List (Str × Int)
  | none => kdzDel c k
  | some t => kdpPut (kdzDel c k) k t
theorem look_at {c : List (Str × Int)} (hn : (c.map (·.1)).Nodup) {p : Str × Int} (hp : p ∈ c) : kdpHas c p.1 = true ∧ kdpLook c p.1 0 = p.2 := by
  refine ⟨List.any_eq_true.mpr ⟨p, hp, by simp⟩, ?_⟩
  unfold kdpLook
  induction c with
  | nil => cases hp
  | cons q c ih =>
    rw [List.map_cons, List.nodup_cons] at hn
    rw [List.find?_cons]
    rcases List.mem_cons.mp hp with rfl | hp
    · simp
    · have hne : q.1 ≠ p.1 := fun e => hn.1 (e ▸ List.mem_map_of_mem hp)
      rw [decide_eq_false hne]
      exact ih hn.2 hp
theorem entry_at {kvs : List (Str × Value)} {c : List (Str × Int)} (hf : PyProof.V.FlatPairs PyData.str kvs (kdpD c)) {i : Nat} {k : Str} {x : Value} (h : kvs[i]? = some (k, x)) : ∃ n, c[i]? = some (k, n) := by
  obtain ⟨p, hp, _⟩ := kdz_valAt hf h
  have h1 := congrArg (·[i]?) (flat_keys hf)
  simp only [List.getElem?_map, h, hp, Option.map_some, Option.some.injEq] at h1
  exact ⟨p.2, by rw [hp]; cases p; simp_all⟩
local macro_rules | `(tactic| walk_at "subscriptTail") => `(tactic| (k_here; (with_reducible show wpAny _ _ (subscriptTail _ _ (Value.ref _) (Value.str _ _)) _ _ _); k_dflt (refine kdp_item (TabAt.ofFr (by assumption) (by assumption)) (by assumption) ?_); intro t9'))
set_option maxHeartbeats 4000000 in
theorem with_alarm_walk {w : World} {dp un : Nat} {fr : Option (List Env)} {gd : Option (List Code)} {s : Shared} {h₀ : Heap} {L : Addr} {m mg mb : Str → Option Value} {loose : List Str} {mean : ExcName → Option Value}
    {news : List (Addr × Obj)} {d : Addr} {c : List (Str × Int)} {k : Str} {tk : Tok} {tv : Value} {o : Option Int} {Q : Value → Shared → Prop} {E : Value → Shared → Prop}
    (F : Fr h₀ L s.heap m) (X : (Mine.hd.heap_39 w.params).In h₀) (T : Top Mine.hd.view_39 loose mean mg mb h₀) (hdp : dp + 4 < recursionLimit) (hun : un + 200 < cLine)
    (D : StrTab PySem.Challenge.rw_no0052_01.row.prog w s.heap d (kdpD c)) (hc : c.length ≤ 1000) (hn : (c.map (·.1)).Nodup) (N : News h₀ L s.heap news) (htv : OptVal tv o)
    (h : ∀ h' tk' D' ob kvs, Fr h₀ L h' m → News h₀ L h' ((D', ob) :: news) → s.heap.get? D' = none → (D' == sysModules) = false → ob.IsDictOf (strKind PySem.Challenge.rw_no0052_01.row.prog w) kvs → PyProof.V.FlatPairs PyData.str kvs (kdpD (waC c k o)) → Q (.ref D') { s with heap := h', toks := tk' }) :
    wpAny (model PySem.Challenge.rw_no0052_01.row.prog w) (atop dp un fr gd) (call (.ref 46) [.ref d, .str k tk, tv]) Q E s := by
  have N0 : News h₀ L s.heap [] := News.nil
  (refine wpAny_call ?_; k_dflt (refine' enterC (binds := [(Str.ofString "alarms", Value.ref d), (Str.ofString "kind", Value.str k tk), (Str.ofString "told", tv)]) ?k1 ?k2 ?k3 ?k4 ?k6 ?k7 ?k8 ?k9 ?kB ?kD ?_ ?c2 ?c3 ?c4; (case k1 => k_asm); (case k2 => k_asm); (case k3 => exact N0); (case k4 => k_asm); (case k6 => k_is); (case k7 => k_is); (case k8 => ktr_room); (case k9 => exact BindsTo.of_eq rfl); (case kB => exact rfl); (case kD => decide +kernel); (case c2 => exact rfl); (case c3 => exact rfl); (case c4 => exact rfl); k_whole; intro g' L' h' tk' cells' kp' st' F' N' Y' X' T' l1; k_cells Y'; (try simp only [List.cons_append, List.nil_append] at N'); (try dsimp only)))
  clear N0
  have D' : StrTab PySem.Challenge.rw_no0052_01.row.prog w g' d (kdpD c) := D.keep fun b o e => kp' b o (fun q => nomatch q) e
  walk_at "m_tocomp"
  rename_i ob1 ob2 dd1 dd2
  obtain ⟨lo, kvs0, hD0, hf0⟩ := id D'
  obtain ⟨ep0, hDA0⟩ := hD0.dictAt
  have hlen0 : kvs0.length = c.length := by rw [← hf0.length, kdpD_length]
  have hkeys0 := flat_keys hf0
  k_dflt (refine ListComp_TD (F₀ := by k_asm) (by with_unfolding_all rfl) (by decide) (by rfl) (by decide) (by rfl) ?_)
  k_steps
  refine ⟨d, kvs0, ep0, _, rfl, rfl, lo, by k_asm, by k_asm, .inl hDA0, by rw [hlen0, sizeLine_eq]; omega, fun s₂ hs₂ => ?_⟩
  obtain ⟨gg, rfl⟩ := hs₂
  refine restT_inv (fun i ys nw => ∃ tl, nw = (L' + 1 + 1, ob1) :: (L' + 1, ob2) :: tl ∧ ys = refs tl ∧ Alls EntR tl ((c.take i).filter fun p => !decide (p.1 = k))) ?_ ?_ _ 0 [] _ (Nat.zero_add _) ⟨[], rfl, rfl, .nil⟩
  · rintro i ys nw v I oI C oC D m₂ h9 tk9 E' hi ⟨tl, rfl, rfl, htl⟩ ⟨k1, x1, hk1, hv1⟩ hC hx F9 N9 off ne
    obtain ⟨t1, rfl⟩ := Value.isStrOf_shape hv1
    obtain ⟨n1, hci⟩ := entry_at hf0 hk1
    obtain ⟨hhas, hlook⟩ := look_at hn (List.mem_of_getElem? hci)
    have hic : i < c.length := by rw [← hlen0]; exact hi
    have et : c.take (i + 1) = c.take i ++ [(k1, n1)] := by rw [List.take_add_one, hci]; rfl
    have hN9 : ∀ p ∈ (I, oI) :: (C, oC) :: (D, LCg.lst (refs tl)) :: ([(L' + 1 + 1, ob1), (L' + 1, ob2)] ++ tl), h9.get? p.1 = some p.2 := fun p hp => (N9 p hp).1
    k_steps
    · have hne : k1 ≠ k := by simpa using ‹(k1 != k) = true›
      refine compEnd_snoc [(L' + 1 + 1, ob1), (L' + 1, ob2)] tl (by assumption) (by assumption) hN9 (Nat.le_refl _) off (.inl hDA0) ⟨tl ++ [_], rfl, by simp [refs], ?_⟩
      rw [et, List.filter_append, List.filter_cons_of_pos (by simpa using hne), List.filter_nil]
      exact htl.append (.cons ⟨_, _, by rw [hlook]⟩ .nil)
    · have hne : k1 = k := by simpa using ‹(k1 != k) = false›
      refine LCg.CompEnd.intro (by assumption) N9 _ (fun p hp => hp) off (.inl hDA0) ⟨tl, rfl, rfl, ?_⟩
      rw [et, List.filter_append, List.filter_cons_of_neg (by simpa using hne), List.filter_nil, List.append_nil]
      exact htl
  · rintro ys nw ⟨tl, rfl, rfl, htl⟩ D h9 tk9 F9 N9 off
    walk_at "m_toif"
    have e1 : (c.take kvs0.length).filter (fun p => !decide (p.1 = k)) = kdzDel c k := by rw [List.take_of_length_le (by rw [hlen0]; exact Nat.le_refl _)]; rfl
    rw [e1] at htl
    have hdl : (kdzDel c k).length ≤ c.length := kdzDel_len c k
    refine dict_pairs rfl F9 N9 (modules_low T'.nolimit) (N9 _ (.head _)).1 (fun p hp => (N9 p (.tail _ (.tail _ (.tail _ hp)))).1) htl ?_ (by omega) fun h8 tk8 o8 kvs8 F8 N8 lo8 hd8 hf8 l8 => ?_
    · exact (hn.sublist (List.Sublist.map _ List.filter_sublist))
    have lst : ∀ {h9 : Heap} {B9 : Addr} {o9 : Obj} {r9 : List (Addr × Obj)}, News g' L' h9 ((B9, o9) :: r9) → (h9.get? B9 = some o9) ∧ s.heap.get? B9 = none := fun {h9 B9 o9 r9} N =>
      ⟨(N (B9, o9) (.head _)).1, fresh_of kp' (fun q => nomatch q) (N (B9, o9) (.head _)).2.2⟩
    cases o with
    | none =>
      cases htv
      k_steps
      (try dsimp only)
      (rename Fr _ _ _ _ => F7)
      (rename News _ _ _ _ => N7)
      have k2 := keeps_all kp' F7
      obtain ⟨g1, g2⟩ := lst N7
      have N6 := Keeps.more (nx := [(_, _)]) F N k2 (List.forall_mem_cons.mpr ⟨⟨g1, g2⟩, List.forall_mem_nil _⟩)
      exact h _ _ _ _ _ (Keeps.fr F (News.nil) k2) N6 g2 lo8 hd8 hf8
    | some t9 =>
      obtain ⟨t10, rfl⟩ := htv
      k_steps
      (rename Fr _ _ _ _ => F6)
      (rename News _ _ _ _ => N6)
      refine kdp_setItem F6 N6 (UpdF.head fun q hq => Nat.ne_of_lt (l8 q hq)) hd8 hf8 (by omega) fun h7 o7 kvs7 F7 N7 hd7 hf7 => ?_
      k_steps
      (try dsimp only)
      have k2 := keeps_all kp' F7
      obtain ⟨g1, g2⟩ := lst N7
      have N6 := Keeps.more (nx := [(_, _)]) F N k2 (List.forall_mem_cons.mpr ⟨⟨g1, g2⟩, List.forall_mem_nil _⟩)
      exact h _ _ _ _ _ (Keeps.fr F (News.nil) k2) N6 g2 lo8 hd7 hf7
end Mine
namespace Mine
open LCg (Off1)
theorem fillC1 : Mine.hd.heap_39 = Mine.hd.heap_39 ∧ PySem.Challenge.rw_no0052_01 = PySem.Challenge.rw_no0052_01 := by
  w_top off
  k_fill
  exact ⟨rfl, rfl⟩
/-- the instance's own dict: its one entry -/
abbrev tmObj (w : World) (t : Tok) (D : Addr) : Obj := dictOf [{ hash := PyData.keyHash w.params (Str.ofString "times"), key := .str (Str.ofString "times") t, val := .ref D }] 1
local macro_rules | `(tactic| walk_at "call ref") => `(tactic| (k_here; (with_reducible show wpAny _ _ (call (Value.ref 46) _) _ _ _); k_dflt (refine' with_alarm_walk ?F ?X ?T ?d ?u ?D ?c ?n ?N ?v ?_; (case F => k_asm); (case X => k_asm); (case T => k_asm); (case d => ktr_room); (case u => ktr_units); (case D => exact TabAt.ofFr (by assumption) (by assumption)); (case c => assumption); (case n => assumption); (case N => k_asm); (case v => assumption)); intro h' tk' D' ob' kvs' F' N' g' lo' hd' hf'; (have o1' := off1_fresh (by assumption) g'); (simp only [Off1, and_true] at o1'); (try k_sweep)))
set_option maxHeartbeats 4000000 in
theorem put_walk {w : World} {dp un : Nat} {fr : Option (List Env)} {gd : Option (List Code)} {s : Shared} {h₀ : Heap} {L : Addr} {m mg mb : Str → Option Value} {loose : List Str} {mean : ExcName → Option Value}
    {x dd d : Addr} {t9 : Tok} {c : List (Str × Int)} {k : Str} {tk : Tok} {tv : Value} {o : Option Int} {Q : Value → Shared → Prop} {E : Value → Shared → Prop}
    (F : Fr h₀ L s.heap m) (X : (Mine.hd.heap_39 w.params).In h₀) (T : Top Mine.hd.view_39 loose mean mg mb h₀) (hdp : dp + 8 < recursionLimit) (hun : un + 300 < cLine)
    (N : News h₀ L s.heap [(x, instObj 98 dd), (dd, tmObj w t9 d)]) (hxd : @Ne Nat x dd) (hdx : d ≠ x) (hdd : d ≠ dd)
    (D : StrTab PySem.Challenge.rw_no0052_01.row.prog w s.heap d (kdpD c)) (hc : c.length ≤ 1000) (hn : (c.map (·.1)).Nodup) (htv : OptVal tv o)
    (h : ∀ h' tk' D' ob kvs, Keeps [(x, instObj 98 dd), (dd, tmObj w t9 d)] s.heap h' → h'.get? x = some (instObj 98 dd) → h'.get? dd = some (tmObj w t9 D') → h'.get? D' = some ob → s.heap.get? D' = none → (D' == sysModules) = false → ob.IsDictOf (strKind PySem.Challenge.rw_no0052_01.row.prog w) kvs → PyProof.V.FlatPairs PyData.str kvs (kdpD (waC c k o)) → Q .none { s with heap := h', toks := tk' }) :
    wpAny (model PySem.Challenge.rw_no0052_01.row.prog w) (atop dp un fr gd) (call (.ref 74) [.ref x, .str k tk, tv]) Q E s := by
  (refine wpAny_call ?_; k_dflt (refine' enterP (binds := [(Str.ofString "self", Value.ref x), (Str.ofString "kind", Value.str k tk), (Str.ofString "told", tv)]) ?k1 ?k2 ?k3 ?k4 ?k6 ?k7 ?k8 ?k9 ?kB ?_ ?c2 ?c3 ?c4 ?c5; (case k1 => k_asm); (case k2 => k_asm); (case k3 => k_asm); (case k4 => k_asm); (case k6 => k_is); (case k7 => k_is); (case k8 => ktr_room); (case k9 => exact BindsTo.of_eq rfl); (case c5 => decide); (case kB => exact locs rfl); (case c2 => exact rfl); (case c3 => exact rfl); (case c4 => exact rfl); k_whole; intro g' L' h' kp' st' F' N' X' T'; (try dsimp only)))
  have D' : StrTab PySem.Challenge.rw_no0052_01.row.prog w g' d (kdpD c) := by
    obtain ⟨lo, kvs, ⟨ob, es, ep, ho, r⟩, hf⟩ := D
    exact ⟨lo, kvs, ⟨ob, es, ep, kp' _ _ (by simp [hdx, hdd]) ho, r⟩, hf⟩
  k_steps
  (try dsimp only)
  (rename Fr _ _ _ _ => F7)
  (rename News _ _ _ _ => N7)
  (rename @Ne Nat x _ ∧ @Ne Nat dd _ => o7)
  exact h _ _ _ _ _ (fun b o hb e => F7.keep b o (kp' b o hb e)) (N7 _ (.tail _ (.head _))).1 (N7 _ (.tail _ (.tail _ (.head _)))).1 (N7 _ (.head _)).1
    (fresh_of kp' (by simp only [List.map_cons, List.map_nil, List.mem_cons, List.not_mem_nil, or_false, not_or]; exact ⟨Ne.symm o7.1, Ne.symm o7.2⟩) (N7 _ (.head _)).2.2) (by assumption) (by assumption) (by assumption)
theorem instObj_ne {x d : Addr} {h : Heap} {dd : Addr} {prog : Program} {w : World} {D : List (PyData × PyData)} (hx : h.get? x = some (instObj 98 dd)) (T : StrTab prog w h d D) : d ≠ x := by
  rintro rfl
  obtain ⟨_, kvs, ⟨o, es, ep, ho, hc, _⟩, _⟩ := T
  rw [hx] at ho
  cases ho
  have := hc.1
  cases this
theorem put_call {w : World} {dp un : Nat} {fr : Option (List Env)} {gd : Option (List Code)} {s : Shared} {h₀ : Heap} {L : Addr} {m mg mb : Str → Option Value} {loose : List Str} {mean : ExcName → Option Value}
    {x dd d : Addr} {t9 : Tok} {c : List (Str × Int)} {k : Str} {tk : Tok} {tv : Value} {o : Option Int} {news : List (Addr × Obj)} {u : Obj → List (Addr × Obj)} {Q : Value → Shared → Prop} {E : Value → Shared → Prop}
    (F : Fr h₀ L s.heap m) (X : (Mine.hd.heap_39 w.params).In h₀) (T : Top Mine.hd.view_39 loose mean mg mb h₀) (hdp : dp + 8 < recursionLimit) (hun : un + 300 < cLine)
    (N : News h₀ L s.heap news) (hx : (x, instObj 98 dd) ∈ news) (U : UpdF dd (tmObj w t9 d) news u) (hdd : @Ne Nat d dd)
    (D : StrTab PySem.Challenge.rw_no0052_01.row.prog w s.heap d (kdpD c)) (hc : c.length ≤ 1000) (hn : (c.map (·.1)).Nodup) (htv : OptVal tv o)
    (h : ∀ h' tk' D' ob kvs, Fr h₀ L h' m → News h₀ L h' ((D', ob) :: u (tmObj w t9 D')) → Off1 D' news → (D' == sysModules) = false → ob.IsDictOf (strKind PySem.Challenge.rw_no0052_01.row.prog w) kvs → PyProof.V.FlatPairs PyData.str kvs (kdpD (waC c k o)) → Q .none { s with heap := h', toks := tk' }) :
    wpAny (model PySem.Challenge.rw_no0052_01.row.prog w) (atop dp un fr gd) (call (.ref 74) [.ref x, .str k tk, tv]) Q E s := by
  obtain ⟨pre, post, hnews, hu, a1, a2⟩ := U.split
  have hdm : (dd, tmObj w t9 d) ∈ news := by rw [hnews]; exact List.mem_append_right _ (.head _)
  have hxd : x ≠ dd := by
    rintro rfl
    have h1 := (N _ hx).1
    have h2 := (N _ hdm).1
    rw [h1] at h2
    cases h2
  have N2 : News h₀ L s.heap [(x, instObj 98 dd), (dd, tmObj w t9 d)] := fun p hp => by
    rcases List.mem_cons.mp hp with rfl | hp
    · exact N _ hx
    · rw [List.mem_singleton.mp hp]; exact N _ hdm
  refine put_walk F X T hdp hun N2 hxd (instObj_ne (N _ hx).1 D) hdd D hc hn htv fun h' tk' D' ob kvs k1 g1 g2 g3 g4 lo hd hf => ?_
  have F' : Fr h₀ L h' m := Keeps.fr F N2 k1
  refine h h' tk' D' ob kvs F' (fun p hp => ?_) (off1_fresh N g4) lo hd hf
  rcases List.mem_cons.mp hp with rfl | hp
  · exact ⟨g3, newEntry F g4⟩
  · have hq : p = (dd, tmObj w t9 D') ∨ (p ∈ news ∧ p.1 ≠ dd) := by
      rw [hu] at hp
      rcases List.mem_append.mp hp with hp | hp
      · exact .inr ⟨by rw [hnews]; exact List.mem_append_left _ hp, a1 p hp⟩
      · rcases List.mem_cons.mp hp with rfl | hp
        · exact .inl rfl
        · exact .inr ⟨by rw [hnews]; exact List.mem_append_right _ (.tail _ hp), a2 p hp⟩
    rcases hq with rfl | ⟨hp, hne⟩
    · exact ⟨g2, (N _ hdm).2⟩
    · refine ⟨?_, (N p hp).2⟩
      by_cases e : p.1 = x
      · have h1 := (N p hp).1
        have h2 := (N _ hx).1
        rw [e] at h1
        rw [e, g1, ← h2, h1]
      · exact k1 _ _ (by simp [e, hne]) (N p hp).1
def dels (c : List (Str × Int)) (ks : List Str) : List (Str × Int) := ks.foldl kdzDel c
theorem dels_snoc (c : List (Str × Int)) (ks : List Str) (k : Str) : dels c (ks ++ [k]) = kdzDel (dels c ks) k := by simp [dels]
theorem dels_len : ∀ (ks : List Str) (c : List (Str × Int)), (dels c ks).length ≤ c.length
  | [], _ => Nat.le_refl _
  | k :: ks, c => Nat.le_trans (dels_len ks (kdzDel c k)) (kdzDel_len c k)
theorem dels_nodup : ∀ (ks : List Str) (c : List (Str × Int)), (c.map (·.1)).Nodup → ((dels c ks).map (·.1)).Nodup
  | [], _, h => h
  | k :: ks, c, h => dels_nodup ks (kdzDel c k) (h.sublist (List.Sublist.map _ List.filter_sublist))
local macro_rules | `(tactic| walk_at "call ref") => `(tactic| (k_here; (with_reducible show wpAny _ _ (call (Value.ref 41) _) _ _ _); k_dflt (refine' all_due_walk ?F ?X ?T ?d ?u ?D ?N ?_; (case F => k_asm); (case X => k_asm); (case T => k_asm); (case d => ktr_room); (case u => ktr_units); (case D => first | k_tabat | exact TabAt.ofFr (by assumption) (by assumption)); (case N => k_asm)); intro h' tk' D' K' ys' n' k' g' l' hP' hS' hys'; (have o1' := off1_fresh (by assumption) g'); (simp only [Off1, and_true] at o1'); (have F' := Keeps.fr (by assumption) News.nil k'); (have N' := Keeps.more (nx := [(_, _)]) (by assumption) (by assumption) k' (List.forall_mem_cons.mpr ⟨⟨l', g'⟩, List.forall_mem_nil _⟩)); (simp only [List.cons_append, List.nil_append] at N'); (try k_sweep)))
local macro_rules | `(tactic| walk_at "call ref") => `(tactic| (k_here; (with_reducible show wpAny _ _ (call (Value.ref 74) _) _ _ _); k_dflt (refine' put_call ?F ?X ?T ?d ?u ?N ?x ?U ?dd ?D ?c ?n ?v ?_; (case F => k_asm); (case X => k_asm); (case T => k_asm); (case d => ktr_room); (case u => ktr_units); (case N => k_asm); (case x => k_mem); (case U => k_updF); (case dd => assumption); (case D => k_tabat); (case c => assumption); (case n => assumption); (case v => first | assumption | exact optVal_none rfl)); intro h' tk' D' ob' kvs' F' N' o1' lo' hd' hf'; (try dsimp only at N'); (simp only [Off1, and_true] at o1'); (try k_sweep)))
local macro_rules | `(tactic| walk_at "m_tofor") => `(tactic| repeat' ((fail_if_success (with_reducible show wpAny _ _ (exec (Stmt.For _ _ _ _ _) _) _ _ _)); (first | (k_unfold; (try dsimp only)) | (k_end; wrow_close) | walk1 | (dsimp only; walk1) | fail "no step")))
local macro_rules | `(tactic| walk_at "m_rest") => `(tactic| (intro z h1 h2 h3; (try simp only [List.forall_mem_cons] at h2); simp_all [kstB]; done))
set_option maxHeartbeats 4000000 in
theorem take_due_walk {w : World} {dp un : Nat} {fr : Option (List Env)} {gd : Option (List Code)} {s : Shared} {h₀ : Heap} {L : Addr} {m mg mb : Str → Option Value} {loose : List Str} {mean : ExcName → Option Value}
    {x dd d : Addr} {od : Obj} {kvs0 : List (Str × Value)} {t9 : Tok} {c : List (Str × Int)} {now : Int} {tn : Tok} {Q : Value → Shared → Prop} {E : Value → Shared → Prop}
    (F : Fr h₀ L s.heap m) (X : (Mine.hd.heap_39 w.params).In h₀) (T : Top Mine.hd.view_39 loose mean mg mb h₀) (hdp : dp + 12 < recursionLimit) (hun : un + 400 < cLine)
    (N : News h₀ L s.heap [(x, instObj 98 dd), (dd, tmObj w t9 d), (d, od)]) (hdd : @Ne Nat d dd) (hxd : @Ne Nat x dd) (hxd2 : @Ne Nat x d)
    (lo : (d == sysModules) = false) (hod : od.IsDictOf (strKind PySem.Challenge.rw_no0052_01.row.prog w) kvs0) (hf0 : PyProof.V.FlatPairs PyData.str kvs0 (kdpD c)) (hc : c.length ≤ 1000) (hn : (c.map (·.1)).Nodup)
    (h : ∀ (h' : Heap) tk' D' ob kvs l ys n (K : List (Int × Nat)), Keeps [(x, instObj 98 dd), (dd, tmObj w t9 d), (d, od)] s.heap h' → h'.get? x = some (instObj 98 dd) → h'.get? dd = some (tmObj w t9 D') → h'.get? D' = some ob → (D' = d ∨ s.heap.get? D' = none) → D' ≠ x → D' ≠ dd → (D' == sysModules) = false →
      ob.IsDictOf (strKind PySem.Challenge.rw_no0052_01.row.prog w) kvs → PyProof.V.FlatPairs PyData.str kvs (kdpD (dels c (K.map fun r => kn r.2))) → h'.get? l = some (PySem.W.listOf ys.toArray n) → s.heap.get? l = none → l ≠ D' → K.Perm (adl c now 6) → K.Pairwise (fun a b => lx a b = true) → StrsAre ys (K.map fun r => kn r.2) →
      Q (.ref l) { s with heap := h', toks := tk' }) :
    wpAny (model PySem.Challenge.rw_no0052_01.row.prog w) (atop dp un fr gd) (call (.ref 95) [.ref x, .int now tn]) Q E s := by
  (refine wpAny_call ?_; k_dflt (refine' enterP (binds := [(Str.ofString "self", Value.ref x), (Str.ofString "now", Value.int now tn)]) ?k1 ?k2 ?k3 ?k4 ?k6 ?k7 ?k8 ?k9 ?kB ?_ ?c2 ?c3 ?c4 ?c5; (case k1 => k_asm); (case k2 => k_asm); (case k3 => k_asm); (case k4 => k_asm); (case k6 => k_is); (case k7 => k_is); (case k8 => ktr_room); (case k9 => exact BindsTo.of_eq rfl); (case c5 => decide); (case kB => exact locs rfl); (case c2 => exact rfl); (case c3 => exact rfl); (case c4 => exact rfl); k_whole; intro g' L' h' kp' st' F' N' X' T'; (try dsimp only)))
  walk_at "m_tofor"
  (rename Fr _ _ _ _ => F1)
  (with_unfolding_all refine For_invVF F1 rfl rfl ?_)
  walk1
  (rename News _ _ _ _ => N1)
  rename_i tk0 h1 tk1 l K ys n k1 g1 l1 hP hS hys o1 h2
  have hKl : (K.map fun r => kn r.2).length = ys.length := hys.length.symm
  (with_unfolding_all refine loop_list [(l, PySem.W.listOf ys.toArray n)] (fun i m₁ nx => (∃ Di obi kvsi, nx = [(x, instObj 98 dd), (dd, tmObj w t9 Di), (Di, obi)] ∧ obi.IsDictOf (strKind PySem.Challenge.rw_no0052_01.row.prog w) kvsi ∧ PyProof.V.FlatPairs PyData.str kvsi (kdpD (dels c ((K.map fun r => kn r.2).take i))) ∧ @Ne Nat Di dd ∧ @Ne Nat Di x ∧ (Di == sysModules) = false ∧ @Ne Nat l Di ∧ (Di = d ∨ s.heap.get? Di = none)) ∧ ∀ z, z ≠ Str.ofString "kind" → (∀ p ∈ ([] : List (Str × Value)), z ≠ p.1) → ([] : List Str).contains z = false → m₁ z = (if z = Str.ofString "found" then some (Value.ref l) else List.lookup z [(Str.ofString "self", Value.ref x), (Str.ofString "now", Value.int now tn)].reverse)) rfl ⟨_, (N1 _ (.head _)).1, rfl, _, rfl⟩ (.inr (.head _)) F1 N1 (N1 _ (.head _)).2.1 ⟨⟨d, od, kvs0, rfl, hod, hf0, hdd, Ne.symm hxd2, lo, Ne.symm o1.2.2, .inl rfl⟩, fun _ _ _ _ => rfl⟩ ?_ ?_)
  · intro I i v m₁ nx h₂ tk₂ oI hv hJ off hsI F₂ N₂
    obtain ⟨⟨Di, obi, kvsi, rfl, hdi, hfi, q1, q2, q3, q4, q5⟩, hrest⟩ := hJ
    obtain ⟨y, t, rfl, hy⟩ := StrsAre.item hys i v (by simpa using hv)
    have F₃ := kst_fr (ps := []) (List.forall_mem_nil _) (fun z h1 h2 h3 => hrest z h1 h2 h3) F₂
    have q6 : @Ne Nat l I := hsI _ (.head _)
    obtain ⟨q7, q8, q9, -⟩ := off
    have hci : (dels c ((K.map fun r => kn r.2).take i)).length ≤ 1000 := Nat.le_trans (dels_len _ _) hc
    have hni : ((dels c ((K.map fun r => kn r.2).take i)).map (·.1)).Nodup := dels_nodup _ _ hn
    have o11 : @Ne Nat x l := o1.1
    have o12 : @Ne Nat dd l := o1.2.1
    clear F₂ F1 N1 hrest
    dsimp only at q7 q8 q9
    k_steps
    (rename News _ _ _ _ => N7)
    (rename @Ne Nat I _ ∧ _ => o7)
    (rename (_ == sysModules) = false => lo7)
    (rename Obj.IsDictOf _ _ _ => hd7)
    (rename PyProof.V.FlatPairs _ _ _ => hf7)
    obtain ⟨w1, w2, w3, w4, w5, -⟩ := o7
    have et : (K.map fun r => kn r.2).take (i + 1) = (K.map fun r => kn r.2).take i ++ [y] := by rw [List.take_add_one, hy]; rfl
    refine TurnEnd.next (by assumption) N7 ⟨⟨_, _, _, rfl, hd7, ?_, Ne.symm w4, Ne.symm w3, lo7, w2, ?_⟩, by walk_at "m_rest"⟩ ?_ ⟨q7, q8, Ne.symm w1, trivial⟩
    · rw [et, dels_snoc]; exact hf7
    · refine Classical.byCases Or.inl fun e => .inr (fresh_of kp' ?_ (N7 _ (.head _)).2.2)
      simp only [List.map_cons, List.map_nil, List.mem_cons, List.not_mem_nil, or_false, not_or]
      exact ⟨Ne.symm w3, Ne.symm w4, e⟩
    · intro p hp
      simp only [List.cons_append, List.nil_append, List.mem_cons, List.not_mem_nil, or_false] at hp ⊢
      rcases hp with h | h | h | h | h <;> simp [h]
  · intro m₁ nx h₂ tk₂ hJ F₂ N₂
    obtain ⟨⟨Di, obi, kvsi, rfl, hdi, hfi, q1, q2, q3, q4, q5⟩, hrest⟩ := hJ
    have F₃ := kst_frOut (ps := []) (stored := []) (x := Str.ofString "kind") (List.forall_mem_nil _) (fun z h1 h2 h3 => hrest z h1 h2 h3) F₂
    clear F₂ F1 N1 hrest
    k_steps
    (try dsimp only)
    (rename Fr _ _ _ _ => F7)
    rw [List.take_of_length_le (by rw [hKl]; exact Nat.le_refl _)] at hfi
    exact h _ _ _ _ _ _ _ _ K (fun b o hb e => F7.keep b o (kp' b o hb e)) (N₂ _ (.tail _ (.head _))).1 (N₂ _ (.tail _ (.tail _ (.head _)))).1 (N₂ _ (.tail _ (.tail _ (.tail _ (.head _))))).1 q5 q2 q1 q3 hdi hfi (N₂ _ (.head _)).1
      (fresh_of kp' (by simp only [List.map_cons, List.map_nil, List.mem_cons, List.not_mem_nil, or_false, not_or]; exact ⟨Ne.symm o1.1, Ne.symm o1.2.1, Ne.symm o1.2.2⟩) (N₂ _ (.head _)).2.2) q4 hP hS hys
end Mine
namespace Mine
open LCg (Off1)
theorem fillG1 : Mine.hd.heap_39 = Mine.hd.heap_39 ∧ PySem.Challenge.rw_no0052_01 = PySem.Challenge.rw_no0052_01 := by
  w_top off
  k_fill
  exact ⟨rfl, rfl⟩
def getO (c : List (Str × Int)) (k : Str) : Option Int := if kdpHas c k = true then some (kdpLook c k 0) else none
theorem getO_there {c : List (Str × Int)} {k : Str} (h : kdpHas c k = true) : getO c k = some (kdpLook c k 0) := if_pos h
theorem getO_not {c : List (Str × Int)} {k : Str} (h : kdpHas c k = false) : getO c k = none := by simp [getO, h]
section
variable {w : World} {dp un : Nat} {fr : Option (List Env)} {gd : Option (List Code)} {s : Shared} {h₀ : Heap} {L : Addr} {m mg mb : Str → Option Value} {loose : List Str} {mean : ExcName → Option Value}
    {x dd d : Addr} {t9 : Tok} {c : List (Str × Int)} {k : Str} {tk : Tok} {news : List (Addr × Obj)} {Q : Value → Shared → Prop} {E : Value → Shared → Prop}
theorem next_due_none 
    (F : Fr h₀ L s.heap m) (X : (Mine.hd.heap_39 w.params).In h₀) (T : Top Mine.hd.view_39 loose mean mg mb h₀) (hdp : dp + 20 < recursionLimit) (hun : un + 500 < cLine)
    (N : News h₀ L s.heap news) (D : StrTab PySem.Challenge.rw_no0052_01.row.prog w s.heap d (kdpD c)) (hnd : nd c 6 = none)
    (h : ∀ h' tk', Fr h₀ L h' m → News h₀ L h' news → Q .none { s with heap := h', toks := tk' }) :
    wpAny (model PySem.Challenge.rw_no0052_01.row.prog w) (atop dp un fr gd) (call (.ref 36) [.ref d]) Q E s := by
  refine next_due_walk F X T hdp hun D fun h' tk' v nx k f _ => ?_
  rw [hnd] at f
  obtain ⟨rfl, rfl⟩ := f
  exact h h' tk' (Keeps.fr F News.nil k) (Keeps.news N k)
theorem next_due_some {t : Int} {j : Nat}
    (F : Fr h₀ L s.heap m) (X : (Mine.hd.heap_39 w.params).In h₀) (T : Top Mine.hd.view_39 loose mean mg mb h₀) (hdp : dp + 20 < recursionLimit) (hun : un + 500 < cLine)
    (N : News h₀ L s.heap news) (D : StrTab PySem.Challenge.rw_no0052_01.row.prog w s.heap d (kdpD c)) (hnd : nd c 6 = some (t, j))
    (h : ∀ h' tk' a tka tkb, Fr h₀ L h' m → News h₀ L h' ((a, { cls := .type "tuple", data := .seq #[.int t tka, .str (kn j) tkb] }) :: news) → Off1 a news → Q (.ref a) { s with heap := h', toks := tk' }) :
    wpAny (model PySem.Challenge.rw_no0052_01.row.prog w) (atop dp un fr gd) (call (.ref 36) [.ref d]) Q E s := by
  refine next_due_walk F X T hdp hun D fun h' tk' v nx k f g => ?_
  rw [hnd] at f
  obtain ⟨a, tka, tkb, rfl, rfl⟩ := f
  exact h h' tk' a tka tkb (Keeps.fr F News.nil k) (Keeps.more F N k g) (off1_fresh N (g _ (.head _)).2)
local macro_rules | `(tactic| walk_at "call ref") => `(tactic| (k_here; (with_reducible show wpAny _ _ (call (Value.ref 36) _) _ _ _); k_dflt (refine' next_due_none ?F ?X ?T ?d ?u ?N ?D ?n ?_; (case F => k_asm); (case X => k_asm); (case T => k_asm); (case d => ktr_room); (case u => ktr_units); (case N => k_asm); (case D => first | k_tabat | exact TabAt.ofFr (by assumption) (by assumption)); (case n => assumption)); intro h' tk' F' N'; (try k_sweep)))
local macro_rules | `(tactic| walk_at "call ref") => `(tactic| (k_here; (with_reducible show wpAny _ _ (call (Value.ref 36) _) _ _ _); k_dflt (refine' next_due_some ?F ?X ?T ?d ?u ?N ?D ?n ?_; (case F => k_asm); (case X => k_asm); (case T => k_asm); (case d => ktr_room); (case u => ktr_units); (case N => k_asm); (case D => first | k_tabat | exact TabAt.ofFr (by assumption) (by assumption)); (case n => assumption)); intro h' tk' a' ta' tb' F' N' o1'; (simp only [Off1, and_true] at o1'); (try k_sweep)))
local macro_rules | `(tactic| walk_at "call builtin:dict.get") => `(tactic| (k_here; (with_reducible show wpAny _ _ (call (Value.builtin _) [Value.ref _, Value.str _ _]) _ _ _); k_dflt (refine kdp_get1 (by first | k_tabat | exact TabAt.ofFr (by assumption) (by assumption)) (fun hk' t' => ?_) (fun hk' => ?_))))
theorem keeps_back {g' h' : Heap} {L' : Addr} {m' : Str → Option Value} {h : Heap} {sub : List (Addr × Obj)} (N : News h₀ L h sub) (kp : Keeps sub h g') (F' : Fr g' L' h' m') (N' : News g' L' h' sub) : Keeps [] h h' := fun b o _ e => by
  by_cases q : b ∈ sub.map (·.1)
  · obtain ⟨p, hp, rfl⟩ := List.mem_map.mp q
    have := (N p hp).1
    rw [e] at this
    rw [this]
    exact (N' p hp).1
  · exact F'.keep _ _ (kp _ _ q e)
set_option maxHeartbeats 4000000 in
theorem first_walk (F : Fr h₀ L s.heap m) (X : (Mine.hd.heap_39 w.params).In h₀) (T : Top Mine.hd.view_39 loose mean mg mb h₀) (hdp : dp + 30 < recursionLimit) (hun : un + 600 < cLine)
    (N : News h₀ L s.heap news) (hx : (x, instObj 98 dd) ∈ news) (hd : (dd, tmObj w t9 d) ∈ news) (hdd : @Ne Nat d dd)
    (D : StrTab PySem.Challenge.rw_no0052_01.row.prog w s.heap d (kdpD c))
    (h : ∀ h' tk' v, Fr h₀ L h' m → News h₀ L h' news → OptVal v ((nd c 6).map (·.1)) → Q v { s with heap := h', toks := tk' }) :
    wpAny (model PySem.Challenge.rw_no0052_01.row.prog w) (atop dp un fr gd) (call (.ref 88) [.ref x]) Q E s := by
  have N2 : News h₀ L s.heap [(x, instObj 98 dd), (dd, tmObj w t9 d)] := fun p hp => by
    rcases List.mem_cons.mp hp with rfl | hp
    · exact N _ hx
    · rw [List.mem_singleton.mp hp]; exact N _ hd
  (refine wpAny_call ?_; k_dflt (refine' enterP (binds := [(Str.ofString "self", Value.ref x)]) ?k1 ?k2 ?k3 ?k4 ?k6 ?k7 ?k8 ?k9 ?kB ?_ ?c2 ?c3 ?c4 ?c5; (case k1 => k_asm); (case k2 => k_asm); (case k3 => exact N2); (case k4 => k_asm); (case k6 => k_is); (case k7 => k_is); (case k8 => ktr_room); (case k9 => exact BindsTo.of_eq rfl); (case c5 => decide); (case kB => exact locs rfl); (case c2 => exact rfl); (case c3 => exact rfl); (case c4 => exact rfl); k_whole; intro g' L' h' kp' st' F' N' X' T'; (try dsimp only)))
  have hdx : d ≠ x := instObj_ne (N _ hx).1 D
  have D' : StrTab PySem.Challenge.rw_no0052_01.row.prog w g' d (kdpD c) := by
    obtain ⟨lo, kvs, ⟨ob, es, ep, ho, r⟩, hf⟩ := D
    exact ⟨lo, kvs, ⟨ob, es, ep, kp' _ _ (by simp [hdx, hdd]) ho, r⟩, hf⟩
  cases hnd : nd c 6 with
  | none =>
    k_steps
    (try dsimp only)
    (rename Fr g' _ _ _ => F7)
    (rename News g' _ _ _ => N7)
    have k := keeps_back N2 kp' F7 N7
    exact h _ _ _ (Keeps.fr F News.nil k) (Keeps.news N k) (by rw [hnd]; exact optVal_none rfl)
  | some r =>
    obtain ⟨t, j⟩ := r
    k_steps
    (try dsimp only)
    (rename Fr g' _ _ _ => F7)
    (rename News g' _ _ _ => N7)
    have k := keeps_back N2 kp' F7 (fun p hp => N7 p (.tail _ hp))
    exact h _ _ _ (Keeps.fr F News.nil k) (Keeps.news N k) (by rw [hnd]; exact optVal_some rfl)
set_option maxHeartbeats 4000000 in
theorem time_of_walk (F : Fr h₀ L s.heap m) (X : (Mine.hd.heap_39 w.params).In h₀) (T : Top Mine.hd.view_39 loose mean mg mb h₀) (hdp : dp + 30 < recursionLimit) (hun : un + 600 < cLine)
    (N : News h₀ L s.heap news) (hx : (x, instObj 98 dd) ∈ news) (hd : (dd, tmObj w t9 d) ∈ news) (hdd : @Ne Nat d dd)
    (D : StrTab PySem.Challenge.rw_no0052_01.row.prog w s.heap d (kdpD c))
    (h : ∀ h' tk' v, Fr h₀ L h' m → News h₀ L h' news → OptVal v (getO c k) → Q v { s with heap := h', toks := tk' }) :
    wpAny (model PySem.Challenge.rw_no0052_01.row.prog w) (atop dp un fr gd) (call (.ref 81) [.ref x, .str k tk]) Q E s := by
  have N2 : News h₀ L s.heap [(x, instObj 98 dd), (dd, tmObj w t9 d)] := fun p hp => by
    rcases List.mem_cons.mp hp with rfl | hp
    · exact N _ hx
    · rw [List.mem_singleton.mp hp]; exact N _ hd
  (refine wpAny_call ?_; k_dflt (refine' enterP (binds := [(Str.ofString "self", Value.ref x), (Str.ofString "kind", Value.str k tk)]) ?k1 ?k2 ?k3 ?k4 ?k6 ?k7 ?k8 ?k9 ?kB ?_ ?c2 ?c3 ?c4 ?c5; (case k1 => k_asm); (case k2 => k_asm); (case k3 => exact N2); (case k4 => k_asm); (case k6 => k_is); (case k7 => k_is); (case k8 => ktr_room); (case k9 => exact BindsTo.of_eq rfl); (case c5 => decide); (case kB => exact locs rfl); (case c2 => exact rfl); (case c3 => exact rfl); (case c4 => exact rfl); k_whole; intro g' L' h' kp' st' F' N' X' T'; (try dsimp only)))
  have hdx : d ≠ x := instObj_ne (N _ hx).1 D
  have D' : StrTab PySem.Challenge.rw_no0052_01.row.prog w g' d (kdpD c) := by
    obtain ⟨lo, kvs, ⟨ob, es, ep, ho, r⟩, hf⟩ := D
    exact ⟨lo, kvs, ⟨ob, es, ep, kp' _ _ (by simp [hdx, hdd]) ho, r⟩, hf⟩
  k_steps
  all_goals (try dsimp only)
  all_goals (rename Fr g' _ _ _ => F7)
  all_goals (rename News g' _ _ _ => N7)
  all_goals have k := keeps_back N2 kp' F7 N7
  · exact h _ _ _ (Keeps.fr F News.nil k) (Keeps.news N k) (optVal_some (getO_there (by assumption)))
  · exact h _ _ _ (Keeps.fr F News.nil k) (Keeps.news N k) (optVal_none (getO_not (by assumption)))
end
end Mine
namespace Mine
local macro_rules | `(tactic| walk_at "m_pad") => `(tactic| skip)
open LCg (Off1)
theorem fillR1 : Mine.hd.heap_39 = Mine.hd.heap_39 ∧ PySem.Challenge.rw_no0052_01 = PySem.Challenge.rw_no0052_01 := by
  w_top off
  k_fill
  exact ⟨rfl, rfl⟩
def kidx (k : Str) : Nat := kinds.idxOf k
theorem kidx_lt {k : Str} (h : k ∈ kinds) : kidx k < 6 := List.idxOf_lt_length_of_mem h
theorem kn_kidx {k : Str} (h : k ∈ kinds) : kn (kidx k) = k := by
  unfold kn kidx
  rw [List.getD_eq_getElem?_getD, List.getElem?_eq_getElem (List.idxOf_lt_length_of_mem h), List.getElem_idxOf]
  rfl
theorem kn_mem {i : Nat} (h : i < 6) : kn i ∈ kinds := by
  unfold kn
  rw [List.getD_eq_getElem?_getD, List.getElem?_eq_getElem (show i < kinds.length from h)]
  exact List.getElem_mem _
theorem kidx_kn {i : Nat} (h : i < 6) : kidx (kn i) = i := kn_inj (kidx_lt (kn_mem h)) h (kn_kidx (kn_mem h))
def rowsOf (c : List (Str × Int)) : List (Int × Nat) := c.map fun p => (p.2, kidx p.1)
theorem rowsOf_mem {c : List (Str × Int)} (hn : (c.map (·.1)).Nodup) (hk : ∀ p ∈ c, p.1 ∈ kinds) {t : Int} {j : Nat} : (t, j) ∈ rowsOf c ↔ j < 6 ∧ kdpHas c (kn j) = true ∧ kdpLook c (kn j) 0 = t := by
  unfold rowsOf
  rw [List.mem_map]
  constructor
  · rintro ⟨p, hp, e⟩
    have h1 := look_at hn hp
    cases e
    rw [kn_kidx (hk p hp)]
    exact ⟨kidx_lt (hk p hp), h1⟩
  · rintro ⟨h1, h2, h3⟩
    obtain ⟨p, hp, e⟩ := List.any_eq_true.mp h2
    have e' : p.1 = kn j := by simpa using e
    have h4 := look_at hn hp
    refine ⟨p, hp, ?_⟩
    rw [e'] at h4 ⊢
    rw [kidx_kn h1, ← h3, h4.2]
theorem rowsOf_nodup {c : List (Str × Int)} (hn : (c.map (·.1)).Nodup) (hk : ∀ p ∈ c, p.1 ∈ kinds) : (rowsOf c).Nodup := by
  have h1 : ((rowsOf c).map (fun r => kn r.2)).Nodup := by
    have e : (rowsOf c).map (fun r => kn r.2) = c.map (·.1) := by
      unfold rowsOf
      rw [List.map_map]
      exact List.map_congr_left fun p hp => kn_kidx (hk p hp)
    rw [e]; exact hn
  exact List.Pairwise.of_map (fun r => kn r.2) (fun a b h e => h (by rw [e])) h1
theorem sub_len {α : Type} [DecidableEq α] : ∀ {l m : List α}, l.Nodup → (∀ a ∈ l, a ∈ m) → l.length ≤ m.length
  | [], _, _, _ => Nat.zero_le _
  | a :: l, m, hn, hs => by
    rw [List.nodup_cons] at hn
    have h1 := sub_len (l := l) (m := m.erase a) hn.2 fun b hb => by
      rw [List.mem_erase_of_ne]
      · exact hs b (.tail _ hb)
      · rintro rfl; exact hn.1 hb
    have h2 := hs a (.head _)
    rw [List.length_erase_of_mem h2] at h1
    have h3 : 0 < m.length := List.length_pos_of_mem h2
    rw [List.length_cons]; omega
theorem keys_len {c : List (Str × Int)} (hn : (c.map (·.1)).Nodup) (hk : ∀ p ∈ c, p.1 ∈ kinds) : c.length ≤ 6 := by
  have h := sub_len hn (m := kinds) fun k h => by
    obtain ⟨p, hp, rfl⟩ := List.mem_map.mp h; exact hk p hp
  rw [List.length_map] at h
  exact h
theorem kinds_list_index {prog : Program} {w : World} {A : Around} {E : Value → Shared → Prop} {s : Shared} {h₀ : Heap} {L l : Addr} {news : List (Addr × Obj)} {items : List Value} {n : Nat} {k : Str} {t : Tok} {Q : Value → Shared → Prop} (N : News h₀ L s.heap news) (hm : (l, PySem.W.listOf items.toArray n) ∈ news) (hs : StrsAre items kinds) (hk : k ∈ kinds)
    (h : Q (.int (kidx k : Nat) s.toks) { s with toks := s.toks + 1 }) : wpAny (model prog w) A (call (.builtin "list.index") [.ref l, .str k t]) Q E s := by
  have hl : items.length = 6 := hs.length
  have hj := kidx_lt hk
  have key : ∀ m (hm : m < items.length), ∃ u, items[m] = .str (kn m) u := fun m hm => by
    obtain ⟨u, hu⟩ := hs.at (j := m) (y := kn m) (by
      unfold kn
      rw [List.getD_eq_getElem?_getD, List.getElem?_eq_getElem (show m < kinds.length from by rw [hl] at hm; exact hm)]; rfl)
    rw [List.getElem?_eq_getElem hm] at hu
    exact ⟨u, Option.some.inj hu⟩
  refine call_meets PySem.F.slot_list_index ⟨_, (N _ hm).1, rfl⟩ PySem.F.entry_list_index (PySem.F.args_list_index_2 _ _)
    (MeetsSeq.list_index l items.toArray n (.str k t) (isStrOf k) (fun y hy => eq_isStrOf k t hs y (by simpa using hy)) (kidx k) (by simp; omega) (by omega) ?_ ?_) ⟨(N _ hm).1, h⟩
  · obtain ⟨u, hu⟩ := key (kidx k) (by omega)
    simp only [List.getElem_toArray, hu, kn_kidx hk]
    simp [isStrOf]
  · intro i hi hlt
    have hi' : i < items.length := by simpa using hi
    obtain ⟨u, hu⟩ := key i hi'
    simp only [List.getElem_toArray, hu]
    have : kn i ≠ k := fun e => by
      have := kidx_kn (i := i) (by omega)
      rw [e] at this; omega
    simp [isStrOf, this]
theorem drop2 {h₀ h : Heap} {L : Addr} {a b : Addr × Obj} {l : List (Addr × Obj)} (N : News h₀ L h (a :: b :: l)) : News h₀ L h (a :: l) := fun p hp => by
  rcases List.mem_cons.mp hp with rfl | hp
  · exact N _ (.head _)
  · exact N _ (.tail _ (.tail _ hp))
def RowR (p : Addr × Obj) (r : Int × Nat) : Prop := ∃ t1 t2 t3, p.2 = { cls := .type "tuple", data := .seq #[.int r.1 t1, .int (r.2 : Nat) t2, .str (kn r.2) t3] }
theorem rowR_key {p : Addr × Obj} {r : Int × Nat} (h : RowR p r) : KeyObj p.2 r := by
  obtain ⟨t1, t2, t3, e⟩ := h
  exact ⟨t1, t2, [.str (kn r.2) t3], 0, e⟩
local macro_rules | `(tactic| walk_at "subscriptTail") => `(tactic| (k_here; (with_reducible show wpAny _ _ (subscriptTail _ _ (Value.ref _) (Value.str _ _)) _ _ _); k_dflt (refine kdp_item (TabAt.ofFr (by assumption) (by assumption)) (by assumption) ?_); intro t9'))
local macro_rules | `(tactic| walk_at "call builtin:list.index") => `(tactic| (k_here; (with_reducible show wpAny _ _ (call (Value.builtin _) [Value.ref _, Value.str _ _]) _ _ _); k_dflt (refine' kinds_list_index ?N ?m ?s ?k ?_; (case N => k_asm); (case m => k_mem); (case s => exact .cons _ _ (.cons _ _ (.cons _ _ (.cons _ _ (.cons _ _ (.cons _ _ .nil)))))); (case k => assumption))))
local macro_rules | `(tactic| walk_at "m_tocomp") => `(tactic| repeat' ((fail_if_success (with_reducible show wpAny _ _ (eval (PySem.Expr.ListComp _ _ _ _) _) _ _ _)); (first | (k_unfold; (try dsimp only)) | (k_end; wrow_close) | walk1 | (dsimp only; walk1) | fail "no step")))
set_option maxHeartbeats 4000000 in
theorem rows_walk {w : World} {dp un : Nat} {fr : Option (List Env)} {gd : Option (List Code)} {s : Shared} {h₀ : Heap} {L : Addr} {m mg mb : Str → Option Value} {loose : List Str} {mean : ExcName → Option Value}
    {d : Addr} {c : List (Str × Int)} {Q : Value → Shared → Prop} {E : Value → Shared → Prop}
    (F : Fr h₀ L s.heap m) (X : (Mine.hd.heap_39 w.params).In h₀) (T : Top Mine.hd.view_39 loose mean mg mb h₀) (hdp : dp + 4 < recursionLimit) (hun : un + 200 < cLine)
    (D : StrTab PySem.Challenge.rw_no0052_01.row.prog w s.heap d (kdpD c)) (hn : (c.map (·.1)).Nodup) (hk : ∀ p ∈ c, p.1 ∈ kinds)
    (h : ∀ (h' : Heap) tk' D' n tl (K : List (Int × Nat)), Keeps [] s.heap h' → (∀ p ∈ (D', PySem.W.listOf (refs tl).toArray n) :: tl, h'.get? p.1 = some p.2 ∧ s.heap.get? p.1 = none) → (∀ p ∈ tl, @Ne Nat p.1 D') → Alls RowR tl K → K.Perm (rowsOf c) → K.Pairwise (fun a b => lx a b = true) → Q (.ref D') { s with heap := h', toks := tk' }) :
    wpAny (model PySem.Challenge.rw_no0052_01.row.prog w) (atop dp un fr gd) (call (.ref 114) [.ref d]) Q E s := by
  have N0 : News h₀ L s.heap [] := News.nil
  (refine wpAny_call ?_; k_dflt (refine' enterC (binds := [(Str.ofString "own", Value.ref d)]) ?k1 ?k2 ?k3 ?k4 ?k6 ?k7 ?k8 ?k9 ?kB ?kD ?_ ?c2 ?c3 ?c4; (case k1 => k_asm); (case k2 => k_asm); (case k3 => exact N0); (case k4 => k_asm); (case k6 => k_is); (case k7 => k_is); (case k8 => ktr_room); (case k9 => exact BindsTo.of_eq rfl); (case kB => exact rfl); (case kD => decide +kernel); (case c2 => exact rfl); (case c3 => exact rfl); (case c4 => exact rfl); k_whole; intro g' L' h' tk' cells' kp' st' F' N' Y' X' T' l1; k_cells Y'; (try simp only [List.cons_append, List.nil_append] at N'); (try dsimp only)))
  clear N0
  have D' : StrTab PySem.Challenge.rw_no0052_01.row.prog w g' d (kdpD c) := D.keep fun b o e => kp' b o (fun q => nomatch q) e
  walk_at "m_tocomp"
  rename_i ob1 dd1
  obtain ⟨lo, kvs0, hD0, hf0⟩ := id D'
  obtain ⟨ep0, hDA0⟩ := hD0.dictAt
  have hlen0 : kvs0.length = c.length := by rw [← hf0.length, kdpD_length]
  have hc6 := keys_len hn hk
  k_dflt (refine ListComp_UD (F₀ := by k_asm) (by with_unfolding_all rfl) (by decide) (by rfl) (by decide) (by rfl) ?_)
  k_steps
  refine ⟨d, kvs0, ep0, _, rfl, rfl, lo, by k_asm, by k_asm, .inl hDA0, by rw [hlen0, sizeLine_eq]; omega, fun s₂ hs₂ => ?_⟩
  obtain ⟨gg, rfl⟩ := hs₂
  refine restU_inv (fun i ys nw => ∃ tl, nw = (L' + 1, ob1) :: tl ∧ ys = refs tl ∧ Alls RowR tl (rowsOf (c.take i))) ?_ ?_ _ 0 [] _ (Nat.zero_add _) ⟨[], rfl, rfl, .nil⟩
  · rintro i ys nw v I oI C oC D m₂ h9 tk9 E' hi ⟨tl, rfl, rfl, htl⟩ ⟨k1, x1, hk1, hv1⟩ hC hx F9 N9 off ne
    obtain ⟨t1, rfl⟩ := Value.isStrOf_shape hv1
    obtain ⟨n1, hci⟩ := entry_at hf0 hk1
    obtain ⟨hhas, hlook⟩ := look_at hn (List.mem_of_getElem? hci)
    have hkk : k1 ∈ kinds := hk _ (List.mem_of_getElem? hci)
    have et : c.take (i + 1) = c.take i ++ [(k1, n1)] := by rw [List.take_add_one, hci]; rfl
    have hN9 : ∀ p ∈ (I, oI) :: (C, oC) :: (D, LCg.lst (refs tl)) :: ([(L' + 1, ob1)] ++ tl), h9.get? p.1 = some p.2 := fun p hp => (N9 p hp).1
    k_steps
    (rename News g' L' _ _ => N10)
    (rename News g' L' _ ((_, PySem.W.listOf _ _) :: _) => N11)
    refine compEnd_snoc [(L' + 1, ob1)] tl (by assumption) (drop2 N10) (fun p hp => (N11 p (.tail _ hp)).1) (Nat.le_refl _) off (.inl hDA0) ⟨tl ++ [_], rfl, by simp [refs], ?_⟩
    rw [et]
    unfold rowsOf
    rw [List.map_append]
    exact htl.append (.cons ⟨_, _, _, by dsimp only; rw [hlook, kn_kidx hkk]⟩ .nil)
  · rintro ys nw ⟨tl, rfl, rfl, htl⟩ D h9 tk9 F9 N9 off
    rw [List.take_of_length_le (by rw [hlen0]; exact Nat.le_refl _)] at htl
    k_steps
    refine sorted_keys (R := RowR) F9 N9 ⟨_, (N9 _ (.head _)).1, rfl, _, rfl⟩ (fun p hp => .tail _ (.tail _ hp)) (fun p r => rowR_key) htl (rowsOf_nodup hn hk) (by unfold rowsOf; rw [List.length_map]; exact hc6) fun D8 e8 tl' K' h8 F8 N8 l8 hA hP hS hsub => ?_
    k_steps
    (try dsimp only)
    have k2 := keeps_all kp' F8
    refine h h8 _ D8 e8 tl' K' k2 (fun p hp => ?_) (fun p hp => Nat.ne_of_lt (l8 p (.tail _ (.tail _ (hsub p hp))))) hA hP hS
    have hp' : p ∈ (D8, seqObj "list" (refs tl').toArray e8) :: (D, LCg.lst (refs tl)) :: (L' + 1, ob1) :: tl := by
      rcases List.mem_cons.mp hp with rfl | hp
      · exact .head _
      · exact .tail _ (.tail _ (.tail _ (hsub p hp)))
    exact ⟨(N8 p hp').1, fresh_of kp' (fun q => nomatch q) (N8 p hp').2.2⟩
end Mine
namespace Mine
theorem getO_find (c : List (Str × Int)) (k : Str) : getO c k = (c.find? fun p => decide (p.1 = k)).map (·.2) := by
  unfold getO kdpLook kdpHas
  cases h : c.find? fun p => decide (p.1 = k) with
  | none =>
    have : (c.any fun p => decide (p.1 = k)) = false := by
      rw [List.find?_eq_none] at h
      rw [List.any_eq_false]
      exact h
    rw [this]; rfl
  | some p =>
    have : (c.any fun p => decide (p.1 = k)) = true := by
      rw [List.any_eq_true]
      exact ⟨p, List.mem_of_find?_eq_some h, by simpa using List.find?_some h⟩
    rw [this]; rfl
theorem getO_filter (c : List (Str × Int)) (f : Str → Bool) (j : Str) : getO (c.filter fun p => f p.1) j = if f j = true then getO c j else none := by
  rw [getO_find, getO_find, List.find?_filter]
  by_cases hf : f j = true
  · rw [if_pos hf]
    congr 2
    funext p
    by_cases e : p.1 = j
    · simp [e, hf]
    · simp [e]
  · rw [if_neg hf]
    rw [List.find?_eq_none.mpr]
    · rfl
    · intro p _ h
      simp at h
      rw [h.2] at h
      exact hf h.1
theorem getO_del (c : List (Str × Int)) (k j : Str) : getO (kdzDel c k) j = if j = k then none else getO c j := by
  have := getO_filter c (fun x => !decide (x = k)) j
  unfold kdzDel
  rw [this]
  by_cases e : j = k <;> simp [e]
theorem getO_dels (j : Str) : ∀ (ks : List Str) (c : List (Str × Int)), getO (dels c ks) j = if j ∈ ks then none else getO c j
  | [], c => by simp [dels]
  | k :: ks, c => by
    show getO (dels (kdzDel c k) ks) j = _
    rw [getO_dels j ks, getO_del]
    by_cases e : j = k <;> by_cases e2 : j ∈ ks <;> simp [e, e2]
theorem getO_put (c : List (Str × Int)) (k : Str) (v : Int) (j : Str) : getO (kdpPut c k v) j = if j = k then some v else getO c j := by
  rw [getO_find, getO_find]
  unfold kdpPut
  by_cases hc : (c.any fun p => decide (p.1 = k)) = true
  · rw [if_pos hc, List.find?_map]
    have e : ((fun p : Str × Int => decide (p.1 = j)) ∘ fun p => if decide (p.1 = k) = true then (p.1, v) else p) = fun p => decide (p.1 = j) := by
      funext p
      show decide ((if decide (p.1 = k) = true then (p.1, v) else p).1 = j) = decide (p.1 = j)
      by_cases hp : p.1 = k
      · rw [if_pos (decide_eq_true hp)]
      · rw [if_neg (by simp [hp])]
    rw [e]
    cases h : c.find? fun p => decide (p.1 = j) with
    | none =>
      have hj : j ≠ k := by
        rintro rfl
        rw [List.find?_eq_none] at h
        obtain ⟨p, hp, q⟩ := List.any_eq_true.mp hc
        exact h p hp q
      simp [hj]
    | some p =>
      have hp : p.1 = j := by simpa using List.find?_some h
      by_cases hj : j = k
      · simp [hp, hj]
      · simp [hp, hj]
  · rw [if_neg hc, List.find?_append]
    by_cases hj : j = k
    · subst hj
      have : (c.find? fun p => decide (p.1 = j)) = none := by
        rw [List.find?_eq_none]
        intro p hp q
        exact hc (List.any_eq_true.mpr ⟨p, hp, q⟩)
      rw [this]; simp
    · have : ¬ k = j := fun e => hj e.symm
      cases h : c.find? fun p => decide (p.1 = j) <;> simp [this, hj]
theorem has_getO (c : List (Str × Int)) (k : Str) : kdpHas c k = (getO c k).isSome := by
  unfold getO; cases h : kdpHas c k <;> simp
theorem look_getO {c : List (Str × Int)} {k : Str} (h : kdpHas c k = true) : kdpLook c k 0 = (getO c k).getD 0 := by
  rw [getO_there h]; rfl
theorem nd_congr {c c' : List (Str × Int)} : ∀ i, (∀ j, j < i → getO c (kn j) = getO c' (kn j)) → nd c i = nd c' i
  | 0, _ => rfl
  | i + 1, h => by
    have ih := nd_congr i fun j hj => h j (by omega)
    have e := h i (by omega)
    have e1 : kdpHas c (kn i) = kdpHas c' (kn i) := by rw [has_getO, has_getO, e]
    unfold nd
    rw [e1, ih]
    by_cases q : kdpHas c' (kn i) = true
    · rw [if_pos q, if_pos q, look_getO (e1.trans q), look_getO q, e]
    · rw [if_neg q, if_neg q]
theorem adl_congr {c c' : List (Str × Int)} {now : Int} : ∀ i, (∀ j, j < i → getO c (kn j) = getO c' (kn j)) → adl c now i = adl c' now i
  | 0, _ => rfl
  | i + 1, h => by
    have ih := adl_congr (now := now) i fun j hj => h j (by omega)
    have e := h i (by omega)
    have e1 : kdpHas c (kn i) = kdpHas c' (kn i) := by rw [has_getO, has_getO, e]
    unfold adl
    rw [e1, ih]
    by_cases q : kdpHas c' (kn i) = true
    · rw [if_pos q, if_pos q, look_getO (e1.trans q), look_getO q, e]
    · rw [if_neg q, if_neg q]
theorem nd_none {c : List (Str × Int)} : ∀ {i}, nd c i = none → ∀ j, j < i → kdpHas c (kn j) = false
  | 0, _, j, hj => absurd hj (Nat.not_lt_zero _)
  | i + 1, h, j, hj => by
    unfold nd at h
    by_cases q : kdpHas c (kn i) = true
    · rw [if_pos q] at h
      cases h2 : nd c i with
      | none => rw [h2] at h; cases h
      | some r =>
        obtain ⟨t, j'⟩ := r
        rw [h2] at h
        dsimp only at h
        split at h <;> cases h
    · rw [if_neg q] at h
      by_cases e : j = i
      · subst e; simpa using q
      · exact nd_none h j (by omega)
theorem nd_some {c : List (Str × Int)} : ∀ {i t j}, nd c i = some (t, j) → j < i ∧ kdpHas c (kn j) = true ∧ kdpLook c (kn j) 0 = t ∧ ∀ j', j' < i → kdpHas c (kn j') = true → t < kdpLook c (kn j') 0 ∨ (t = kdpLook c (kn j') 0 ∧ j ≤ j')
  | 0, _, _, h => by cases h
  | i + 1, t, j, h => by
    unfold nd at h
    by_cases q : kdpHas c (kn i) = true
    · rw [if_pos q] at h
      cases h2 : nd c i with
      | none =>
        rw [h2] at h
        cases h
        refine ⟨by omega, q, rfl, fun j' hj' hh => ?_⟩
        by_cases e : j' = i
        · subst e; exact .inr ⟨rfl, Nat.le_refl _⟩
        · have := nd_none h2 j' (by omega)
          rw [this] at hh; cases hh
      | some r =>
        obtain ⟨t', j''⟩ := r
        rw [h2] at h
        dsimp only at h
        obtain ⟨h3, h4, h5, h6⟩ := nd_some h2
        split at h
        · rename_i hlt
          cases h
          refine ⟨by omega, q, rfl, fun j' hj' hh => ?_⟩
          by_cases e : j' = i
          · subst e; exact .inr ⟨rfl, Nat.le_refl _⟩
          · rcases h6 j' (by omega) hh with z | z
            · exact .inl (by omega)
            · exact .inl (by omega)
        · rename_i hlt
          cases h
          refine ⟨by omega, h4, h5, fun j' hj' hh => ?_⟩
          by_cases e : j' = i
          · subst e
            by_cases e2 : t = kdpLook c (kn j') 0
            · exact .inr ⟨e2, by omega⟩
            · exact .inl (by omega)
          · exact h6 j' (by omega) hh
    · rw [if_neg q] at h
      obtain ⟨h3, h4, h5, h6⟩ := nd_some h
      refine ⟨by omega, h4, h5, fun j' hj' hh => ?_⟩
      by_cases e : j' = i
      · subst e; exact absurd hh q
      · exact h6 j' (by omega) hh
theorem lx_anti {a b : Int × Nat} (h : lx a b = true) (k : lx b a = true) : a = b := by
  rw [lx_iff] at h k
  exfalso; omega
theorem sorted_eq {K K' : List (Int × Nat)} (p : K.Perm K') (h : K.Pairwise fun a b => lx a b = true) (h' : K'.Pairwise fun a b => lx a b = true) : K = K' :=
  p.eq_of_pairwise (fun _ _ _ _ a b => lx_anti a b) h h'
theorem rows_head {c : List (Str × Int)} {K : List (Int × Nat)} (hn : (c.map (·.1)).Nodup) (hk : ∀ p ∈ c, p.1 ∈ kinds) (p : K.Perm (rowsOf c)) (h : K.Pairwise fun a b => lx a b = true) : nd c 6 = K.head? := by
  cases K with
  | nil =>
    have hm : ∀ t j, (t, j) ∉ rowsOf c := fun t j q => by
      have := p.mem_iff.mpr q; cases this
    show nd c 6 = none
    cases e : nd c 6 with
    | none => rfl
    | some r =>
      obtain ⟨t, j⟩ := r
      obtain ⟨h1, h2, h3, _⟩ := nd_some e
      exact absurd ((rowsOf_mem hn hk).mpr ⟨h1, h2, h3⟩) (hm t j)
  | cons r K =>
    obtain ⟨t0, j0⟩ := r
    have h0 := (rowsOf_mem hn hk).mp (p.mem_iff.mp (List.Mem.head _))
    show nd c 6 = some (t0, j0)
    cases e : nd c 6 with
    | none =>
      have := nd_none e j0 h0.1
      rw [h0.2.1] at this; cases this
    | some r =>
      obtain ⟨t, j⟩ := r
      obtain ⟨h1, h2, h3, h4⟩ := nd_some e
      have hm := p.mem_iff.mpr ((rowsOf_mem hn hk).mpr ⟨h1, h2, h3⟩)
      rcases List.mem_cons.mp hm with e | hm
      · rw [e]
      · have h5 := (List.pairwise_cons.mp h).1 _ hm
        rw [lx_iff] at h5
        have h6 := h4 j0 h0.1 h0.2.1
        rw [h0.2.2] at h6
        dsimp only at h5
        omega
theorem due_eq {c : List (Str × Int)} {K K' : List (Int × Nat)} {mo : Int} (hn : (c.map (·.1)).Nodup) (hk : ∀ p ∈ c, p.1 ∈ kinds) (p : K.Perm (rowsOf c)) (h : K.Pairwise fun a b => lx a b = true) (p' : K'.Perm (adl c mo 6)) (h' : K'.Pairwise fun a b => lx a b = true) : K' = K.filter fun r => decide (r.1 ≤ mo) := by
  refine sorted_eq ?_ h' (h.filter _)
  refine (List.perm_ext_iff_of_nodup (p'.nodup_iff.mpr (adl_nodup c mo 6)) ((p.nodup_iff.mpr (rowsOf_nodup hn hk)).filter _)).mpr ?_
  rintro ⟨t, j⟩
  rw [p'.mem_iff, adl_mem, List.mem_filter, p.mem_iff, rowsOf_mem hn hk]
  simp
  constructor
  · rintro ⟨a, b, c, d⟩; exact ⟨⟨a, b, c⟩, d⟩
  · rintro ⟨⟨a, b, c⟩, d⟩; exact ⟨a, b, c, d⟩
theorem put_keys {c : List (Str × Int)} {k : Str} {v : Int} : (kdpPut c k v).map (·.1) = if kdpHas c k = true then c.map (·.1) else c.map (·.1) ++ [k] := by
  unfold kdpPut kdpHas
  by_cases hc : (c.any fun p => decide (p.1 = k)) = true
  · rw [if_pos hc, if_pos hc, List.map_map]
    refine List.map_congr_left fun p _ => ?_
    show (if decide (p.1 = k) = true then (p.1, v) else p).1 = p.1
    split <;> rfl
  · rw [if_neg hc, if_neg hc]; simp
/-- the keys: no one twice, all of them kinds -/
def Good (c : List (Str × Int)) : Prop := (c.map (·.1)).Nodup ∧ ∀ p ∈ c, p.1 ∈ kinds
theorem good_iff {c : List (Str × Int)} : Good c ↔ (c.map (·.1)).Nodup ∧ ∀ k ∈ c.map (·.1), k ∈ kinds := by
  unfold Good
  simp only [List.forall_mem_map]
theorem Good.put {c : List (Str × Int)} {k : Str} {v : Int} (h : Good c) (hk : k ∈ kinds) : Good (kdpPut c k v) := by
  rw [good_iff] at h ⊢
  rw [put_keys]
  by_cases q : kdpHas c k = true
  · rw [if_pos q]; exact h
  · rw [if_neg q]
    refine ⟨List.nodup_append.mpr ⟨h.1, by simp, fun a ha b hb e => ?_⟩, fun a ha => ?_⟩
    · rw [List.mem_singleton] at hb
      subst hb; subst e
      obtain ⟨p, hp, e⟩ := List.mem_map.mp ha
      exact q (List.any_eq_true.mpr ⟨p, hp, by simpa using e⟩)
    · rcases List.mem_append.mp ha with ha | ha
      · exact h.2 a ha
      · rw [List.mem_singleton.mp ha]; exact hk
theorem Good.filter {c : List (Str × Int)} (h : Good c) (f : Str × Int → Bool) : Good (c.filter f) :=
  ⟨h.1.sublist (List.Sublist.map _ List.filter_sublist), fun p hp => h.2 p (List.mem_filter.mp hp).1⟩
theorem Good.del {c : List (Str × Int)} (h : Good c) (k : Str) : Good (kdzDel c k) := h.filter _
theorem Good.dels : ∀ (ks : List Str) {c : List (Str × Int)}, Good c → Good (dels c ks)
  | [], _, h => h
  | k :: ks, _, h => Good.dels ks (h.del k)
theorem Good.wa {c : List (Str × Int)} (h : Good c) {k : Str} (hk : k ∈ kinds) : ∀ o, Good (waC c k o)
  | none => h.del k
  | some _ => (h.del k).put hk
theorem Good.nil : Good [] := ⟨List.nodup_nil, fun _ h => nomatch h⟩
theorem Good.len {c : List (Str × Int)} (h : Good c) : c.length ≤ 6 := keys_len h.1 h.2
/-- two tables that say the same -/
def Alike (c c' : List (Str × Int)) : Prop := ∀ k, getO c k = getO c' k
theorem Alike.nd {c c' : List (Str × Int)} (h : Alike c c') : nd c 6 = nd c' 6 := nd_congr 6 fun j _ => h (kn j)
theorem Alike.adl {c c' : List (Str × Int)} (h : Alike c c') (now : Int) : adl c now 6 = adl c' now 6 := adl_congr 6 fun j _ => h (kn j)
theorem Alike.put {c c' : List (Str × Int)} (h : Alike c c') (k : Str) (t : Int) : Alike (kdpPut c k t) (waC c' k (some t)) := fun j => by
  show _ = getO (kdpPut (kdzDel c' k) k t) j
  rw [getO_put, getO_put, getO_del, h j]
  by_cases e : j = k <;> simp [e]
theorem Alike.del {c c' : List (Str × Int)} (h : Alike c c') (k : Str) : Alike (kdzDel c k) (waC c' k none) := fun j => by
  show _ = getO (kdzDel c' k) j
  rw [getO_del, getO_del, h j]
theorem Alike.dels {c c' : List (Str × Int)} (h : Alike c c') (ks : List Str) : Alike (c.filter fun p => !decide (p.1 ∈ ks)) (dels c' ks) := fun j => by
  rw [getO_filter c (fun x => !decide (x ∈ ks)), getO_dels, h j]
  by_cases e : j ∈ ks <;> simp [e]
theorem del_absent {c : List (Str × Int)} {k : Str} (h : kdpHas c k = false) : kdzDel c k = c := by
  unfold kdzDel
  rw [List.filter_eq_self]
  intro p hp
  have := List.any_eq_false.mp h p hp
  simpa using this
end Mine
namespace Mine
def bodyOf : Stmt → List Stmt
  | .FunctionDef _ _ b _ _ _ _ _ _ _ => b
  | .For _ _ b _ _ => b
  | _ => []
def scopeOf : Stmt → Scope
  | .FunctionDef _ _ _ _ _ _ sc _ _ _ => sc
  | _ => default
def nth {α : Type} : List α → Nat → α → α
  | [], _, d => d
  | a :: _, 0, _ => a
  | _ :: l, n + 1, d => nth l n d
def lawStmt : Stmt := nth PySem.Challenge.pw_no0052_01.main.body 12 (.Pass ⟨0, 0, 0, 0⟩)
def lawBody : List Stmt := bodyOf lawStmt
def lawScope : Scope := scopeOf lawStmt
def turnBody : List Stmt := bodyOf (nth lawBody 3 (.Pass ⟨0, 0, 0, 0⟩))
def turnTail : List Stmt := turnBody.drop 2
def elseOf : Stmt → List Stmt
  | .If _ _ o _ => o
  | _ => []
def dueBody : List Stmt := elseOf (nth (elseOf (nth turnBody 1 (.Pass ⟨0, 0, 0, 0⟩))) 0 (.Pass ⟨0, 0, 0, 0⟩))
def lawEnv (L fa : Addr) (cv : Value) : Env := envOfC (Str.ofString "law") lawScope L fa cv
end Mine
namespace Mine
open LCg (Off1)
theorem fillL1 : Mine.hd.heap_39 = Mine.hd.heap_39 ∧ PySem.Challenge.rw_no0052_01 = PySem.Challenge.rw_no0052_01 := by
  w_top off
  k_fill
  exact ⟨rfl, rfl⟩
/-- two addresses are not one -/
def Dif (a b : Addr) : Prop := a ≠ b
theorem Dif.ne {a b : Addr} (h : Dif a b) : a ≠ b := h
theorem Dif.en {a b : Addr} (h : Dif b a) : a ≠ b := fun e => h e.symm
theorem Dif.symm {a b : Addr} (h : Dif b a) : Dif a b := fun e => h e.symm
def OffD (D : Addr) : List (Addr × Obj) → Prop
  | [] => True
  | p :: l => Dif p.1 D ∧ OffD D l
theorem offD_of {D : Addr} : ∀ {l : List (Addr × Obj)}, (∀ p ∈ l, p.1 ≠ D) → OffD D l
  | [], _ => trivial
  | _ :: _, h => ⟨h _ (.head _), offD_of fun q hq => h q (.tail _ hq)⟩
theorem offD_off1 {D : Addr} {l : List (Addr × Obj)} (h : Off1 D l) : OffD D l := offD_of (off1_mem h)
theorem upd_news {h₀ h h' : Heap} {L l : Addr} {op op' : Obj} {news : List (Addr × Obj)} {u : Obj → List (Addr × Obj)} (U : UpdF l op news u) (N : News h₀ L h news) (k : Keeps [(l, op)] h h') (g : h'.get? l = some op') : News h₀ L h' (u op') := by
  obtain ⟨pre, post, hnews, hu, a1, a2⟩ := U.split
  have hm : (l, op) ∈ news := by rw [hnews]; exact List.mem_append_right _ (.head _)
  intro p hp
  have hq : p = (l, op') ∨ (p ∈ news ∧ p.1 ≠ l) := by
    rw [hu] at hp
    rcases List.mem_append.mp hp with hp | hp
    · exact .inr ⟨by rw [hnews]; exact List.mem_append_left _ hp, a1 p hp⟩
    · rcases List.mem_cons.mp hp with rfl | hp
      · exact .inl rfl
      · exact .inr ⟨by rw [hnews]; exact List.mem_append_right _ (.tail _ hp), a2 p hp⟩
  rcases hq with rfl | ⟨hp, hne⟩
  · exact ⟨g, (N _ hm).2⟩
  · exact ⟨k _ _ (by simpa using hne) (N p hp).1, (N p hp).2⟩
section
variable {w : World} {dp un : Nat} {fr : Option (List Env)} {gd : Option (List Code)} {s : Shared} {h₀ : Heap} {L : Addr} {m mg mb : Str → Option Value} {loose : List Str} {mean : ExcName → Option Value}
    {news : List (Addr × Obj)} {u : Obj → List (Addr × Obj)} {Q : Value → Shared → Prop} {E : Value → Shared → Prop}
theorem draw_call {l S : Addr} {op : Obj} {many : Int} {tk : Tok} {ys : List Value} {ns : List Int}
    (F : Fr h₀ L s.heap m) (X : (Mine.hd.heap_39 w.params).In h₀) (T : Top Mine.hd.view_39 loose mean mg mb h₀) (hdp : dp + 20 < recursionLimit) (hun : un + 500 < cLine)
    (N : News h₀ L s.heap news) (U : UpdF l op news u) (hop : PoolObj S op) (hS : (S, LCg.lst ys) ∈ news) (hSl : Dif S l) (hI : IntsAre ys ns) (hlen : ns.length ≤ 24) (hm : 0 < many)
    (h : ∀ (r : Nat) t h' tk' op', (r : Int) < many → PoolObj S op' → Fr h₀ L h' m → News h₀ L h' (u op') → Q (.int (r : Int) t) { s with heap := h', toks := tk' }) :
    wpAny (model PySem.Challenge.rw_no0052_01.row.prog w) (atop dp un fr gd) (call (.ref 109) [.ref l, .int many tk]) Q E s := by
  have hm1 : (l, op) ∈ news := by
    obtain ⟨pre, post, hnews, _, _, _⟩ := U.split
    rw [hnews]; exact List.mem_append_right _ (.head _)
  have N1 : News h₀ L s.heap [(l, op)] := fun p hp => by rw [List.mem_singleton.mp hp]; exact N _ hm1
  refine draw_walk F X T hdp hun N1 hop ⟨_, (N _ hS).1, rfl, _, rfl⟩ hSl hI hlen hm fun r t h' tk' op' r0 r1 p k g => ?_
  obtain ⟨r', rfl⟩ := Int.eq_ofNat_of_zero_le r0
  exact h r' t h' tk' op' r1 p (Keeps.fr F N1 k) (upd_news U N k g)
theorem rows_call {d : Addr} {c : List (Str × Int)}
    (F : Fr h₀ L s.heap m) (X : (Mine.hd.heap_39 w.params).In h₀) (T : Top Mine.hd.view_39 loose mean mg mb h₀) (hdp : dp + 4 < recursionLimit) (hun : un + 200 < cLine)
    (N : News h₀ L s.heap news) (D : StrTab PySem.Challenge.rw_no0052_01.row.prog w s.heap d (kdpD c)) (G : Good c)
    (h : ∀ (h' : Heap) tk' D' n tl (K : List (Int × Nat)), Fr h₀ L h' m → News h₀ L h' ((D', PySem.W.listOf (refs tl).toArray n) :: (tl ++ news)) → OffD D' news → Alls RowR tl K → K.Perm (rowsOf c) → K.Pairwise (fun a b => lx a b = true) → Q (.ref D') { s with heap := h', toks := tk' }) :
    wpAny (model PySem.Challenge.rw_no0052_01.row.prog w) (atop dp un fr gd) (call (.ref 114) [.ref d]) Q E s := by
  refine rows_walk F X T hdp hun D G.1 G.2 fun h' tk' D' n tl K k g o hA hP hS => ?_
  exact h h' tk' D' n tl K (Keeps.fr F News.nil k) (by
    have := Keeps.more F N k g
    simpa using this) (offD_off1 (off1_fresh N (g _ (.head _)).2)) hA hP hS
theorem pop_call {prog : Program} {A : Around} {d : Addr} {o : Obj} {kvs : List (Str × Value)} {c : List (Str × Int)} {k : Str} {tk : Tok} (F : Fr h₀ L s.heap m) (N : News h₀ L s.heap news) (U : UpdF d o news u)
    (lo : (d == sysModules) = false) (hd : o.IsDictOf (PySem.strKind prog w) kvs) (hf : PyProof.V.FlatPairs PyData.str kvs (kdpD c)) (hc : c.length ≤ 16777216)
    (h : ∀ h' o' kvs' v tk', Fr h₀ L h' m → News h₀ L h' (u o') → o'.IsDictOf (PySem.strKind prog w) kvs' → PyProof.V.FlatPairs PyData.str kvs' (kdpD (kdzDel c k)) → Q v { s with heap := h', toks := tk' }) :
    wpAny (model prog w) A (call (.builtin "dict.pop") [.ref d, .str k tk, .none]) Q E s := by
  cases hk : kdpHas c k with
  | true => exact kdz_pop (.inr ⟨_, rfl⟩) (PySem.F.args_dict_pop_3 _ _ _) F N U hd hf hk hc fun h' o' kvs' t F' N' a b => h h' o' kvs' _ _ F' N' a b
  | false =>
    obtain ⟨pre, post, hnews, hu, a1, a2⟩ := U.split
    have hm : (d, o) ∈ news := by rw [hnews]; exact List.mem_append_right _ (.head _)
    have hv : valueAt kvs k = none := by
      have e := hf.isSome PyProof.V.same_str k
      rw [kdpD_isSome, hk] at e
      cases q : valueAt kvs k with
      | none => rfl
      | some v => rw [q] at e; cases e
    have hD : s.heap.DictOf (PySem.strKind prog w) d kvs := Heap.dictOf_iff.mpr ⟨o, (N _ hm).1, hd⟩
    refine call_meetsIn PySem.F.slot_dict_pop hD.typeIs PySem.F.entry_dict_pop (PySem.F.args_dict_pop_3 _ _ _) (meets_dict_pop_default (PySem.strKind prog w) d (strKind_is _ _ _ _) lo (by rfl) .none) ⟨kvs, hD, hv, ?_⟩
    refine h s.heap o kvs .none _ F ?_ hd ?_
    · rw [hu, ← hnews]; exact N
    · rw [del_absent hk]; exact hf
end
end Mine
namespace Mine
section
variable {prog : Program} {w : World} {A : Around} {E : Value → Shared → Prop} {s : Shared} {h₀ : Heap} {L : Addr} {m : Str → Option Value} {news : List (Addr × Obj)}
theorem sliceApplied_one {sl : Addr} {u : Tok} {Q : Int × Int × Nat → Shared → Prop} (hs : s.heap.IsSliceOf sl .none (.int 1 u) .none) (h : Q (0, 1, 1) s) :
    wpAny (model prog w) A (Builtin.Slice.sliceApplied (.ref sl) (pure (3 : Int))) Q E s := by
  obtain ⟨os, hos, hcs, hds⟩ := id hs
  unfold Builtin.Slice.sliceApplied Builtin.Slice.sliceFields
  refine wpAny_bind (wpAny_bind (wpAny_field hos hds (x := .none) rfl (wpAny_bind (wpAny_field hos hds (x := .int 1 u) rfl (wpAny_bind (wpAny_field hos hds (x := .none) rfl (wpAny_pure ?_)))))))
  refine wpAny_bind (slicePart_none ?_)
  show wpAny _ _ (if ((1 : Int) == 0) = true then _ else _) _ _ s
  rw [if_neg (by decide)]
  exact wpAny_bind (slicePart_none (wpAny_bind (slicePart_int (wpAny_bind (wpAny_pure (wpAny_pure h))))))
theorem getItem_tuple_one {t sl : Addr} {a b c : Value} {u : Tok} {Q : Value → Shared → Prop} (ht : IsTup s.heap t #[a, b, c]) (hs : s.heap.IsSliceOf sl .none (.int 1 u) .none)
    (h : Q (.ref s.heap.objs.size) { s with heap := s.heap.push { cls := .type "tuple", data := .seq #[a] } }) : wpAny (model prog w) A (getItem (.ref t) (.ref sl)) Q E s := by
  have hdrop : sizeOk (.seq #[a]) := by
    show (#[a] : Array Value).size ≤ sizeLine
    rw [sizeLine_eq]; exact Nat.le_of_ble_eq_true rfl
  obtain ⟨os, hos, hcs, hds⟩ := id hs
  have hTs : s.TypeIs (.ref sl) "slice" := ⟨os, hos, hcs⟩
  unfold getItem
  try with_reducible refine wpAny_holding ?_
  first | refine wpAny_bind (wpAny_pure ?_) | skip
  refine wpAny_bind (wpAny_sequenceKey ht.typeIs (by decide) ?_)
  refine wpAny_bind (wpAny_callSpecial?_slot (name := Str.ofString "__getitem__") ht.typeIs slot_tuple_getitem
    (wpAny_call_entry slot_tuple_getitem ht.typeIs entry_tuple_getitem ?_ (args_tuple_getitem _ _)))
  show wpAny _ _ (Builtin.Tuple.tupleItemsOf (.ref t) >>= _) _ _ s
  refine wpAny_bind (tupleItemsOf_ ht ?_)
  refine wpAny_bind (wpAny_typeOf hTs ?_)
  rw [if_pos (by decide)]
  refine wpAny_bind (sliceApplied_one hs ?_)
  first
    | exact wpAny_bind (m := Builtin.Tuple.tupleExact _) (wpAny_newObj_type (wpAny_pure ⟨_, rfl, wpAny_pure h⟩) hdrop)
    | exact wpAny_bind (m := Builtin.Tuple.tupleExact _) (wpAny_newObj_type (wpAny_bind (wpAny_pure (wpAny_pure ⟨_, rfl, wpAny_pure h⟩))) hdrop)
    | exact wpAny_bind (wpAny_bind (m := Builtin.Tuple.tupleExact _) (wpAny_newObj_type (wpAny_pure (wpAny_pure ⟨_, rfl, wpAny_pure h⟩)) hdrop))
    | exact wpAny_bind (wpAny_bind (m := Builtin.Tuple.tupleExact _) (wpAny_newObj_type (wpAny_pure ⟨_, rfl, wpAny_pure h⟩) hdrop))
theorem slice_tuple_one {value slice : Expr} {t : Addr} {a b c : Value} {u : Tok} {Q : Value → Shared → Prop}
    (F : Fr h₀ L s.heap m) (N : News h₀ L s.heap news) (ht : (t, { cls := .type "tuple", data := .seq #[a, b, c] }) ∈ news)
    (h : ∀ h', Fr h₀ L h' m → News h₀ L h' ((s.heap.objs.size + 1, { cls := .type "tuple", data := .seq #[a] }) :: news) → Q (.ref (s.heap.objs.size + 1)) { s with heap := h' })
    (hs : subscripted slice false (.ref t) (.ref s.heap.objs.size) = operate [.ref s.heap.objs.size, .ref t] (getItem (.ref t) (.ref s.heap.objs.size)) := by with_unfolding_all rfl)
    (hg : ∀ r, letTemporaryGo value (.ref t) r = pure () := by intro _; with_unfolding_all rfl) :
    wpAny (model prog w) A (subscriptTail value slice (.ref t) (.ref s.heap.objs.size)) Q E { s with heap := s.heap.push { cls := .type "slice", data := .fields #[.none, .int 1 u, .none] } } := by
  have ht' : IsTup (s.heap.push { cls := .type "slice", data := .fields #[.none, .int 1 u, .none] }) t #[a, b, c] := IsTup.keeps (h := s.heap) ⟨_, (N _ ht).1, rfl, _, rfl⟩ fun _ _ e => Heap.get?_push_of_some _ e
  refine subscriptTail_ops (s := { s with heap := s.heap.push { cls := .type "slice", data := .fields #[.none, .int 1 u, .none] } }) ht'.typeIs slot_tuple_getitem.lookup
    (getItem_tuple_one ht' (Heap.IsSliceOf.new ..) ?_) hs hg
  have N1 := News.push (F.push { cls := .type "slice", data := .fields #[.none, .int 1 u, .none] }) (N.grown fun _ _ e => Heap.get?_push_of_some _ e) { cls := .type "tuple", data := .seq #[a] }
  rw [Heap.size_push] at N1
  show Q (.ref (s.heap.push _).objs.size) _
  rw [Heap.size_push]
  exact h _ ((F.push _).push _) N1
theorem slice_tuple_two {value slice : Expr} {t : Addr} {a b c : Value} {u : Tok} {Q : Value → Shared → Prop}
    (F : Fr h₀ L s.heap m) (N : News h₀ L s.heap news) (ht : (t, { cls := .type "tuple", data := .seq #[a, b, c] }) ∈ news)
    (h : ∀ h', Fr h₀ L h' m → News h₀ L h' ((s.heap.objs.size + 1, { cls := .type "tuple", data := .seq #[c] }) :: news) → Q (.ref (s.heap.objs.size + 1)) { s with heap := h' })
    (hs : subscripted slice false (.ref t) (.ref s.heap.objs.size) = operate [.ref s.heap.objs.size, .ref t] (getItem (.ref t) (.ref s.heap.objs.size)) := by with_unfolding_all rfl)
    (hg : ∀ r, letTemporaryGo value (.ref t) r = pure () := by intro _; with_unfolding_all rfl) :
    wpAny (model prog w) A (subscriptTail value slice (.ref t) (.ref s.heap.objs.size)) Q E { s with heap := s.heap.push { cls := .type "slice", data := .fields #[.int 2 u, .none, .none] } } :=
  slice_tuple_from (items := #[a, b, c]) (a := 2) F N ⟨_, (N _ ht).1, rfl, _, rfl⟩ (by decide) (by simp) h hs hg (by show 3 ≤ _; rw [sizeLine_eq]; exact Nat.le_of_ble_eq_true rfl)
end
end Mine
namespace Mine
open LCg (Off1)
theorem fillCmp : Mine.hd.heap_39 = Mine.hd.heap_39 ∧ PySem.Challenge.rw_no0052_01 = PySem.Challenge.rw_no0052_01 := by
  w_top off
  k_fill
  exact ⟨rfl, rfl⟩
theorem strs_dat {news : List (Addr × Obj)} : ∀ {vs : List Value} {xs : List Str}, StrsAre vs xs → DatAll news vs (xs.map Dat.str)
  | _, _, .nil => .nil
  | _, _, .cons x t r => .cons (.str _ _) (strs_dat r)
def optD : Option Int → Dat
  | none => .none
  | some n => .int n
theorem opts_dat {news : List (Addr × Obj)} : ∀ {vs : List Value} {os : List (Option Int)}, OptsAre vs os → DatAll news vs (os.map optD) := by
  intro vs os h
  induction h with
  | nil => exact .nil
  | @cons v o vs os r _ ih =>
    refine .cons ?_ ih
    cases o with
    | none => cases r; exact .none
    | some n => obtain ⟨t, rfl⟩ := r; exact .int _ _
def rowD (r : Int × Nat) : Dat := .tuple [.int r.1, .int (r.2 : Int), .str (kn r.2)]
theorem rows_dat {news : List (Addr × Obj)} {tl : List (Addr × Obj)} {K : List (Int × Nat)} (h : Alls RowR tl K) : (∀ p ∈ tl, p ∈ news) → DatAll news (refs tl) (K.map rowD) := by
  induction h with
  | nil => intro _; exact .nil
  | @cons p r tl K hr _ ih =>
    intro hs
    obtain ⟨t1, t2, t3, e⟩ := hr
    refine .cons ?_ (ih fun q hq => hs q (.tail _ hq))
    refine DatIn.tuple (vs := [.int r.1 t1, .int (r.2 : Nat) t2, .str (kn r.2) t3]) (n := 0) ?_ (.cons (.int _ _) (.cons (.int _ _) (.cons (.str _ _) .nil)))
    have := hs p (.head _)
    obtain ⟨a, oa⟩ := p
    dsimp only at e
    rw [e] at this
    exact this
theorem kind_ok : ∀ x ∈ kinds, PyData.strOk x = true := by decide +kernel
theorem strs_ok {xs : List Str} (h : ∀ x ∈ xs, x ∈ kinds) : ∀ d ∈ xs.map Dat.str, kqdOk 8 d = true := by
  intro d hd
  obtain ⟨x, hx, rfl⟩ := List.mem_map.mp hd
  exact kind_ok x (h x hx)
theorem opts_ok {os : List (Option Int)} : ∀ d ∈ os.map optD, kqdOk 8 d = true := by
  intro d hd
  obtain ⟨x, hx, rfl⟩ := List.mem_map.mp hd
  cases x <;> rfl
theorem rows_ok {K : List (Int × Nat)} (h : ∀ r ∈ K, r.2 < 6) : ∀ d ∈ K.map rowD, kqdOk 8 d = true := by
  intro d hd
  obtain ⟨x, hx, rfl⟩ := List.mem_map.mp hd
  show ([Dat.int x.1, .int (x.2 : Int), .str (kn x.2)].all (kqdOk 7)) = true
  simp only [List.all_cons, List.all_nil, Bool.and_true]
  show (true && (true && PyData.strOk (kn x.2))) = true
  rw [kind_ok _ (kn_mem (h x hx))]; rfl
section
variable {prog : Program} {w : World} {A : Around} {E : Value → Shared → Prop} {s : Shared} {h₀ : Heap} {L a b : Addr} {news : List (Addr × Obj)} {xs ys : List Value} {ka kb : Nat} {ds es : List Dat} {Q : Value → Shared → Prop}
theorem dat_ne_same (N : News h₀ L s.heap news) (ma : (a, PySem.W.listOf xs.toArray ka) ∈ news) (Da : DatAll news xs ds) (mb : (b, PySem.W.listOf ys.toArray kb) ∈ news) (Db : DatAll news ys ds) (ha : ∀ d ∈ ds, kqdOk 8 d = true) (hu : A.units + 64 < cLine) (h : Q (.bool false) s) :
    wpAny (model prog w) A (compareOp .NotEq (.ref a) (.ref b)) Q E s :=
  kqd_ne N ma rfl rfl Da (fun _ h => h) mb rfl rfl Db (fun _ h => h) ha ha hu (by simpa using h)
theorem dat_ne_nil (N : News h₀ L s.heap news) (ma : (a, PySem.W.listOf xs.toArray ka) ∈ news) (Da : DatAll news xs ds) (mb : (b, PySem.W.listOf #[] kb) ∈ news) (ha : ∀ d ∈ ds, kqdOk 8 d = true) (hne : ds ≠ []) (hu : A.units + 64 < cLine) (h : Q (.bool true) s) :
    wpAny (model prog w) A (compareOp .NotEq (.ref a) (.ref b)) Q E s :=
  kqd_ne (ys := []) N ma rfl rfl Da (fun _ h => h) mb rfl rfl .nil (fun _ h => h) ha (fun _ h => nomatch h) hu (by simpa [hne] using h)
theorem datin_ne {v v' : Value} {d : Dat} (N : News h₀ L s.heap news) (Da : DatIn news v d) (Db : DatIn news v' d) (ok : kqdOk 9 d = true) (hu : A.units + 64 < cLine) (h : Q (.bool false) s) :
    wpAny (model prog w) A (compareOp .NotEq v v') Q E s := by
  obtain ⟨as, ra⟩ := kqd_in N 9 Da ok
  obtain ⟨bs, rb⟩ := kqd_in N 9 Db ok
  have la := kqd_lay 9 d ok
  have sh : SeqAt.shaped (kqdP d) = true := by
    unfold SeqAt.shaped; rw [la.1, Bool.true_and]; exact decide_eq_true (Nat.le_trans la.2 (by decide))
  refine ne_dataH ra rb sh sh hu ?_
  rw [(kqd_eqv 9 d d 9 ok ok).mpr rfl]
  exact h
theorem tup_ne {t : Int} {k : Str} {ta tb ta2 tb2 : Tok} (N : News h₀ L s.heap news) (ma : (a, ({ cls := .type "tuple", data := .seq #[.int t ta, .str k tb] } : Obj)) ∈ news) (mb : (b, ({ cls := .type "tuple", data := .seq #[.int t ta2, .str k tb2] } : Obj)) ∈ news) (hk : k ∈ kinds) (hu : A.units + 64 < cLine) (h : Q (.bool false) s) :
    wpAny (model prog w) A (compareOp .NotEq (.ref a) (.ref b)) Q E s :=
  datin_ne (d := .tuple [.int t, .str k]) N (.tuple (vs := [.int t ta, .str k tb]) (n := 0) ma (.cons (.int _ _) (.cons (.str _ _) .nil))) (.tuple (vs := [.int t ta2, .str k tb2]) (n := 0) mb (.cons (.int _ _) (.cons (.str _ _) .nil)))
    (by show (true && (PyData.strOk k && true)) = true; rw [kind_ok k hk]; rfl) hu h
theorem strs_ne {ks : List Str} (N : News h₀ L s.heap news) (ma : (a, PySem.W.listOf xs.toArray ka) ∈ news) (Da : StrsAre xs ks) (mb : (b, PySem.W.listOf ys.toArray kb) ∈ news) (Db : StrsAre ys ks) (hk : ∀ x ∈ ks, x ∈ kinds) (hu : A.units + 64 < cLine) (h : Q (.bool false) s) :
    wpAny (model prog w) A (compareOp .NotEq (.ref a) (.ref b)) Q E s := dat_ne_same N ma (strs_dat Da) mb (strs_dat Db) (strs_ok hk) hu h
theorem opts_ne {os : List (Option Int)} (N : News h₀ L s.heap news) (ma : (a, PySem.W.listOf xs.toArray ka) ∈ news) (Da : OptsAre xs os) (mb : (b, PySem.W.listOf ys.toArray kb) ∈ news) (Db : OptsAre ys os) (hu : A.units + 64 < cLine) (h : Q (.bool false) s) :
    wpAny (model prog w) A (compareOp .NotEq (.ref a) (.ref b)) Q E s := dat_ne_same N ma (opts_dat Da) mb (opts_dat Db) opts_ok hu h
theorem rows_ne {tl : List (Addr × Obj)} {K : List (Int × Nat)} (N : News h₀ L s.heap news) (ma : (a, PySem.W.listOf (refs tl).toArray ka) ∈ news) (hA : Alls RowR tl K) (hs : ∀ p ∈ tl, p ∈ news) (mb : (b, PySem.W.listOf #[] kb) ∈ news) (hk : ∀ r ∈ K, r.2 < 6) (hne : K ≠ []) (hu : A.units + 64 < cLine) (h : Q (.bool true) s) :
    wpAny (model prog w) A (compareOp .NotEq (.ref a) (.ref b)) Q E s := dat_ne_nil N ma (rows_dat hA hs) mb (rows_ok hk) (by simpa using hne) hu h
end
section
variable {w : World} {dp un : Nat} {fr : Option (List Env)} {gd : Option (List Code)} {s : Shared} {h₀ : Heap} {L : Addr} {m mg mb : Str → Option Value} {loose : List Str} {mean : ExcName → Option Value}
    {news : List (Addr × Obj)} {Q : Value → Shared → Prop} {E : Value → Shared → Prop}
theorem first_none {x dd d : Addr} {t9 : Tok} {c : List (Str × Int)} (F : Fr h₀ L s.heap m) (X : (Mine.hd.heap_39 w.params).In h₀) (T : Top Mine.hd.view_39 loose mean mg mb h₀) (hdp : dp + 30 < recursionLimit) (hun : un + 600 < cLine)
    (N : News h₀ L s.heap news) (hx : (x, instObj 98 dd) ∈ news) (hd : (dd, tmObj w t9 d) ∈ news) (hdd : @Ne Nat d dd)
    (D : StrTab PySem.Challenge.rw_no0052_01.row.prog w s.heap d (kdpD c)) (hnd : nd c 6 = none)
    (h : ∀ h' tk', Fr h₀ L h' m → News h₀ L h' news → Q .none { s with heap := h', toks := tk' }) :
    wpAny (model PySem.Challenge.rw_no0052_01.row.prog w) (atop dp un fr gd) (call (.ref 88) [.ref x]) Q E s :=
  first_walk F X T hdp hun N hx hd hdd D fun h' tk' v F' N' o => by
    rw [hnd] at o
    have o' : v = .none := o
    subst o'
    exact h h' tk' F' N'
theorem first_some {x dd d : Addr} {t9 : Tok} {c : List (Str × Int)} {t : Int} {j : Nat} (F : Fr h₀ L s.heap m) (X : (Mine.hd.heap_39 w.params).In h₀) (T : Top Mine.hd.view_39 loose mean mg mb h₀) (hdp : dp + 30 < recursionLimit) (hun : un + 600 < cLine)
    (N : News h₀ L s.heap news) (hx : (x, instObj 98 dd) ∈ news) (hd : (dd, tmObj w t9 d) ∈ news) (hdd : @Ne Nat d dd)
    (D : StrTab PySem.Challenge.rw_no0052_01.row.prog w s.heap d (kdpD c)) (hnd : nd c 6 = some (t, j))
    (h : ∀ h' tk' t', Fr h₀ L h' m → News h₀ L h' news → Q (.int t t') { s with heap := h', toks := tk' }) :
    wpAny (model PySem.Challenge.rw_no0052_01.row.prog w) (atop dp un fr gd) (call (.ref 88) [.ref x]) Q E s :=
  first_walk F X T hdp hun N hx hd hdd D fun h' tk' v F' N' o => by
    rw [hnd] at o
    obtain ⟨t', rfl⟩ := o
    exact h h' tk' t' F' N'
/-- the rows, of which the first stands at the head of the ledger -/
theorem rows_first {d : Addr} {c : List (Str × Int)}
    (F : Fr h₀ L s.heap m) (X : (Mine.hd.heap_39 w.params).In h₀) (T : Top Mine.hd.view_39 loose mean mg mb h₀) (hdp : dp + 4 < recursionLimit) (hun : un + 200 < cLine)
    (N : News h₀ L s.heap news) (D : StrTab PySem.Challenge.rw_no0052_01.row.prog w s.heap d (kdpD c)) (G : Good c)
    (h0 : nd c 6 = none → ∀ (h' : Heap) tk' D' n, Fr h₀ L h' m → News h₀ L h' ((D', PySem.W.listOf #[] n) :: news) → OffD D' news → Q (.ref D') { s with heap := h', toks := tk' })
    (h1 : ∀ t j, nd c 6 = some (t, j) → ∀ (h' : Heap) tk' D' n a tl K t1 t2 t3, Fr h₀ L h' m → Alls RowR ((a, { cls := .type "tuple", data := .seq #[.int t t1, .int (j : Nat) t2, .str (kn j) t3] }) :: tl) ((t, j) :: K) → (∀ r ∈ (t, j) :: K, r.2 < 6) →
      News h₀ L h' ((D', PySem.W.listOf (Value.ref a :: refs tl).toArray n) :: (a, { cls := .type "tuple", data := .seq #[.int t t1, .int (j : Nat) t2, .str (kn j) t3] }) :: (news ++ tl)) → OffD D' news → Q (.ref D') { s with heap := h', toks := tk' }) :
    wpAny (model PySem.Challenge.rw_no0052_01.row.prog w) (atop dp un fr gd) (call (.ref 114) [.ref d]) Q E s := by
  refine rows_call F X T hdp hun N D G fun h' tk' D' n tl K F' N' o hA hP hS => ?_
  have hh := rows_head G.1 G.2 hP hS
  have h6 : ∀ r ∈ K, r.2 < 6 := fun r hr => ((rowsOf_mem G.1 G.2).mp (hP.mem_iff.mp hr)).1
  cases hA with
  | nil => exact h0 hh h' tk' D' n F' N' o
  | cons r ra =>
    obtain ⟨t1, t2, t3, e⟩ := r
    rename_i p r tl K
    obtain ⟨a, oa⟩ := p
    dsimp only at e
    subst e
    refine h1 r.1 r.2 hh h' tk' D' n a tl K t1 t2 t3 F' (.cons ⟨t1, t2, t3, rfl⟩ ra) h6 (fun q hq => N' q ?_) o
    simp only [List.cons_append, List.mem_cons, List.mem_append] at hq ⊢
    rcases hq with rfl | rfl | hq | hq
    · exact .inl rfl
    · exact .inr (.inl rfl)
    · exact .inr (.inr (.inr hq))
    · exact .inr (.inr (.inl hq))
end
end Mine
namespace Mine
open LCg (Off1)
local macro_rules | `(tactic| k_ne) => `(tactic| first | exact Dif.ne (by assumption) | exact Dif.en (by assumption) | (refine neN ?_; (try dsimp only); omega))
local macro_rules | `(tactic| units_room) => `(tactic| ktr_units)
local macro_rules | `(tactic| walk_at "call ref") => `(tactic| (k_here; (with_reducible show wpAny _ _ (call (Value.ref 109) _) _ _ _); k_dflt (refine' draw_call ?F ?X ?T ?d ?u ?N ?U ?o ?S ?l ?I ?n ?m ?_; (case F => k_asm); (case X => k_asm); (case T => k_asm); (case d => ktr_room); (case u => ktr_units); (case N => k_asm); (case U => k_updF); (case o => assumption); (case S => k_mem); (case l => assumption); (case I => assumption); (case n => assumption); (case m => decide)); intro r' t' h' tk' op' rl' po' F' N'; (try dsimp only at N'); (try k_sweep)))
local macro_rules | `(tactic| walk_at "call ref") => `(tactic| (k_here; (with_reducible show wpAny _ _ (call (Value.ref 36) _) _ _ _); k_dflt (refine' next_due_none ?F ?X ?T ?d ?u ?N ?D ?n ?_; (case F => k_asm); (case X => k_asm); (case T => k_asm); (case d => ktr_room); (case u => ktr_units); (case N => k_asm); (case D => first | k_tabat | exact TabAt.ofFr (by assumption) (by assumption)); (case n => assumption)); intro h' tk' F' N'; (try k_sweep)))
local macro_rules | `(tactic| walk_at "call ref") => `(tactic| (k_here; (with_reducible show wpAny _ _ (call (Value.ref 36) _) _ _ _); k_dflt (refine' next_due_some ?F ?X ?T ?d ?u ?N ?D ?n ?_; (case F => k_asm); (case X => k_asm); (case T => k_asm); (case d => ktr_room); (case u => ktr_units); (case N => k_asm); (case D => first | k_tabat | exact TabAt.ofFr (by assumption) (by assumption)); (case n => assumption)); intro h' tk' a' ta' tb' F' N' o1'; (have o2' := offD_off1 o1'); (clear o1'); (simp only [OffD, and_true] at o2'); (try k_sweep)))
local macro_rules | `(tactic| walk_at "call ref") => `(tactic| (k_here; (with_reducible show wpAny _ _ (call (Value.ref 88) _) _ _ _); k_dflt (refine' first_none ?F ?X ?T ?d ?u ?N ?x ?y ?z ?D ?n ?_; (case F => k_asm); (case X => k_asm); (case T => k_asm); (case d => ktr_room); (case u => ktr_units); (case N => k_asm); (case x => k_mem); (case y => k_mem); (case z => exact Dif.ne (by assumption)); (case D => first | k_tabat | exact TabAt.ofFr (by assumption) (by assumption)); (case n => assumption)); intro h' tk' F' N'; (try k_sweep)))
local macro_rules | `(tactic| walk_at "call ref") => `(tactic| (k_here; (with_reducible show wpAny _ _ (call (Value.ref 88) _) _ _ _); k_dflt (refine' first_some ?F ?X ?T ?d ?u ?N ?x ?y ?z ?D ?n ?_; (case F => k_asm); (case X => k_asm); (case T => k_asm); (case d => ktr_room); (case u => ktr_units); (case N => k_asm); (case x => k_mem); (case y => k_mem); (case z => exact Dif.ne (by assumption)); (case D => first | k_tabat | exact TabAt.ofFr (by assumption) (by assumption)); (case n => assumption)); intro h' tk' t' F' N'; (try k_sweep)))
local macro_rules | `(tactic| walk_at "m_intail") => `(tactic| first | exact List.forall_mem_nil _ | (refine List.forall_mem_cons.mpr ⟨by k_mem, ?_⟩; walk_at "m_intail") | (intro p hp; repeat' (first | exact hp | refine List.Mem.tail _ ?_)))
local macro_rules | `(tactic| walk_at "compareOp NotEq ref ref") => `(tactic| (k_here; (with_reducible show wpAny _ _ (compareOp CmpOp.NotEq (Value.ref _) (Value.ref _)) _ _ _); k_dflt (refine' rows_ne ?N ?a ?A ?s ?b ?k ?e ?u ?_; (case N => k_asm); (case A => assumption); (case a => k_mem); (case s => walk_at "m_intail"); (case b => k_mem); (case k => assumption); (case e => exact List.cons_ne_nil _ _); (case u => ktr_units))))
local macro_rules | `(tactic| walk_at "m_tocomp") => `(tactic| repeat' ((fail_if_success (with_reducible show wpAny _ _ (eval (PySem.Expr.ListComp _ _ _ _) _) _ _ _)); (first | (k_unfold; (try dsimp only)) | (k_end; wrow_close) | walk1 | (dsimp only; walk1) | fail "no step")))
local macro_rules | `(tactic| walk_at "m_torows") => `(tactic| repeat' ((fail_if_success (with_reducible show wpAny _ _ (call (Value.ref 114) _) _ _ _)); (first | (k_unfold; (try dsimp only)) | (k_end; wrow_close) | walk1 | (dsimp only; walk1) | fail "no step")))
local macro_rules | `(tactic| walk_at "m_tolast") => `(tactic| repeat' ((fail_if_success (with_reducible show wpAny _ _ (execs [Stmt.If _ _ _ _] _) _ _ _)); (first | (k_unfold; (try dsimp only)) | (k_end; wrow_close) | walk1 | (dsimp only; walk1) | fail "no step")))
local macro_rules | `(tactic| walk_at "subscriptTail") => `(tactic| (k_here; (with_reducible show wpAny _ _ (subscriptTail _ _ (Value.ref _) (Value.ref _)) _ _ _); k_dflt (first | (refine' slice_tuple_one ?F ?N ?t ?_; (case F => k_asm); (case N => k_asm); (case t => k_mem)) | (refine' slice_tuple_two ?F ?N ?t ?_; (case F => k_asm); (case N => k_asm); (case t => k_mem))); intro h' F' N'; (try k_sweep)))
local macro_rules | `(tactic| walk_at "compareOp NotEq ref ref") => `(tactic| (k_here; (with_reducible show wpAny _ _ (compareOp CmpOp.NotEq (Value.ref _) (Value.ref _)) _ _ _); k_dflt (refine' tup_ne ?N ?a ?b ?k ?u ?_; (case N => k_asm); (case a => k_mem); (case b => k_mem); (case k => assumption); (case u => ktr_units))))
local macro_rules | `(tactic| walk_at "call ref") => `(tactic| (k_here; (with_reducible show wpAny _ _ (call (Value.ref 81) _) _ _ _); k_dflt (refine' time_of_walk ?F ?X ?T ?d ?u ?N ?x ?y ?z ?D ?_; (case F => k_asm); (case X => k_asm); (case T => k_asm); (case d => ktr_room); (case u => ktr_units); (case N => k_asm); (case x => k_mem); (case y => k_mem); (case z => exact Dif.ne (by assumption)); (case D => first | k_tabat | exact TabAt.ofFr (by assumption) (by assumption))); intro h' tk' v' F' N' ov'; (try k_sweep)))
local macro_rules | `(tactic| walk_at "call builtin:dict.get") => `(tactic| (k_here; (with_reducible show wpAny _ _ (call (Value.builtin _) [Value.ref _, Value.str _ _]) _ _ _); k_dflt (refine kdp_get1 (by first | k_tabat | exact TabAt.ofFr (by assumption) (by assumption)) (fun hk' t' => ?_) (fun hk' => ?_))))
local macro_rules | `(tactic| walk_at "compareOp NotEq ref ref") => `(tactic| (k_here; (with_reducible show wpAny _ _ (compareOp CmpOp.NotEq (Value.ref _) (Value.ref _)) _ _ _); k_dflt (refine' opts_ne ?N ?a ?A ?b ?B ?u ?_; (case N => k_asm); (case a => k_mem); (case A => assumption); (case b => k_mem); (case B => assumption); (case u => ktr_units))))
section
theorem fillL3 : Mine.hd.heap_39 = Mine.hd.heap_39 ∧ PySem.Challenge.rw_no0052_01 = PySem.Challenge.rw_no0052_01 := by
  w_top off
  k_fill
  exact ⟨rfl, rfl⟩
theorem kinds_take {f : Str → Option Int} {i : Nat} (hi : i < 6) : (kinds.map f).take (i + 1) = (kinds.map f).take i ++ [f (kn i)] := by
  have hl : i < (kinds.map f).length := by rw [List.length_map]; exact hi
  rw [List.take_add_one, List.getElem?_eq_getElem hl, Option.toList_some, List.getElem_map]
  congr 3
  unfold kn
  rw [List.getD_eq_getElem?_getD, List.getElem?_eq_getElem (show i < kinds.length from hi)]
  rfl
set_option maxHeartbeats 4000000 in
theorem last_walk {w : World} {dp un : Nat} {fr : Option (List Env)} {gd : Option (List Code)} {s : Shared} {h₀ : Heap} {L fa : Addr} {cv : Value} {m mg mb : Str → Option Value} {loose : List Str} {mean : ExcName → Option Value}
    {I l S dO x dd dT : Addr} {oI odue oal omom oown opool op oO oT : Obj} {ys : List Value} {t9 : Tok} {kO kT : List (Str × Value)} {c1 c2 : List (Str × Int)} {Q : Flow → Shared → Prop} {E : Value → Shared → Prop}
    (F : Fr h₀ L s.heap m) (X : (Mine.hd.heap_39 w.params).In h₀) (T : Top Mine.hd.view_39 loose mean mg mb h₀) (hdp : dp + 100 < recursionLimit) (hun : un + 1000 < cLine)
    (N : News h₀ L s.heap [(I, oI), (L + 1 + 1 + 1 + 1 + 1, odue), (L + 1 + 1 + 1 + 1, oal), (L + 1 + 1 + 1, omom), (L + 1 + 1, oown), (L + 1, opool), (l, op), (S, LCg.lst ys), (dO, oO), (x, instObj 98 dd), (dd, tmObj w t9 dT), (dT, oT)])
    (cO : oown.data = .cell (some (.ref dO))) (cA : oal.data = .cell (some (.ref x)))
    (lO : (dO == sysModules) = false) (hO : oO.IsDictOf (strKind PySem.Challenge.rw_no0052_01.row.prog w) kO) (fO : PyProof.V.FlatPairs PyData.str kO (kdpD c1))
    (lT : (dT == sysModules) = false) (hT : oT.IsDictOf (strKind PySem.Challenge.rw_no0052_01.row.prog w) kT) (fT : PyProof.V.FlatPairs PyData.str kT (kdpD c2))
    (hdd : Dif dT dd) (G1 : Good c1) (G2 : Good c2) (al : Alike c1 c2)
    (h : ∀ h' tk' m', Fr h₀ L h' m' → News h₀ L h' [(I, oI), (L + 1 + 1 + 1 + 1 + 1, odue), (L + 1 + 1 + 1 + 1, oal), (L + 1 + 1 + 1, omom), (L + 1 + 1, oown), (L + 1, opool), (l, op), (S, LCg.lst ys), (dO, oO), (x, instObj 98 dd), (dd, tmObj w t9 dT), (dT, oT)] → Q .next { s with heap := h', toks := tk' }) :
    wpAny (model PySem.Challenge.rw_no0052_01.row.prog w) ((atop dp un fr gd).deeper (lawEnv L fa cv)) (execs (turnTail.drop 2) (lawEnv L fa cv)) Q E s := by
  show wpAny _ ((atop dp un fr gd).deeper (envOfC (Str.ofString "law") ⟨_, _, _, _, _⟩ _ _ _)) (execs (_ :: _) (envOfC (Str.ofString "law") ⟨_, _, _, _, _⟩ _ _ _)) _ _ _
  walk_at "m_tocomp"
  have hsz : kvs.size ≤ sizeLine := by rw [sizeLine_eq]; exact Nat.le_of_ble_eq_true rfl
  k_dflt (refine ListComp_UT (F₀ := by k_asm) (by with_unfolding_all rfl) (by decide) (by rfl) (by decide) (by rfl) ?_)
  k_steps
  refine ⟨15, kvs, _, rfl, rfl, kinds_tuple X, by k_asm, by k_asm, hsz, fun s₂ hs₂ => ?_⟩
  obtain ⟨gg, rfl⟩ := hs₂
  refine restU_inv (fun i ys' nw => nw = [(I, oI), (L + 1 + 1 + 1 + 1 + 1, odue), (L + 1 + 1 + 1 + 1, oal), (L + 1 + 1 + 1, omom), (L + 1 + 1, oown), (L + 1, opool), (l, op), (S, LCg.lst ys), (dO, oO), (x, instObj 98 dd), (dd, tmObj w t9 dT), (dT, oT)] ∧ OptsAre ys' ((kinds.map (getO c2)).take i)) ?_ ?_ _ 0 [] _ (Nat.zero_add _) ⟨rfl, .nil⟩
  · rintro i ys' nw v I9 oI9 C oC D m₂ h9 tk9 E' hi ⟨rfl, htl⟩ hv hC hx F9 N9 off ne
    obtain ⟨hi6, t, rfl⟩ := kvs_at hv
    clear F N
    k_steps
    (rename News h₀ L _ ((I9, oI9) :: _) => N8)
    refine LCg.CompEnd.intro (by assumption) N8 _ (fun p hp => hp) off trivial ⟨rfl, ?_⟩
    rw [kinds_take hi6]
    exact OptsAre.snoc htl (by assumption)
  · rintro ys1 nw ⟨rfl, htl⟩ D1 h9 tk9 F9 N9 off
    have htl1 : OptsAre ys1 (kinds.map (getO c2)) := by rw [List.take_of_length_le (by rw [List.length_map]; exact Nat.le_refl _)] at htl; exact htl
    clear F N htl
    walk_at "m_tocomp"
    k_dflt (refine ListComp_UT (F₀ := by k_asm) (by with_unfolding_all rfl) (by decide) (by rfl) (by decide) (by rfl) ?_)
    k_steps
    refine ⟨15, kvs, _, rfl, rfl, kinds_tuple X, by k_asm, by k_asm, hsz, fun s₂ hs₂ => ?_⟩
    obtain ⟨gg2, rfl⟩ := hs₂
    refine restU_inv (fun i ys' nw => nw = (D1, LCg.lst ys1) :: [(I, oI), (L + 1 + 1 + 1 + 1 + 1, odue), (L + 1 + 1 + 1 + 1, oal), (L + 1 + 1 + 1, omom), (L + 1 + 1, oown), (L + 1, opool), (l, op), (S, LCg.lst ys), (dO, oO), (x, instObj 98 dd), (dd, tmObj w t9 dT), (dT, oT)] ∧ OptsAre ys' ((kinds.map (getO c1)).take i)) ?_ ?_ _ 0 [] _ (Nat.zero_add _) ⟨rfl, .nil⟩
    · rintro i ys' nw v I9 oI9 C oC D m₂ h9 tk9 E' hi ⟨rfl, htl⟩ hv hC hx F9 N9 off ne
      obtain ⟨hi6, t, rfl⟩ := kvs_at hv
      k_steps
      · refine LCg.CompEnd.intro (by assumption) N9 _ (fun p hp => hp) off trivial ⟨rfl, ?_⟩
        rw [kinds_take hi6]
        exact OptsAre.snoc htl (optVal_some (getO_there (by assumption)))
      · refine LCg.CompEnd.intro (by assumption) N9 _ (fun p hp => hp) off trivial ⟨rfl, ?_⟩
        rw [kinds_take hi6]
        exact OptsAre.snoc htl (optVal_none (getO_not (by assumption)))
    · rintro ys2 nw ⟨rfl, htl⟩ D2 h9 tk9 F9 N9 off
      have htl2 : OptsAre ys2 (kinds.map (getO c2)) := by
        rw [List.take_of_length_le (by rw [List.length_map]; exact Nat.le_refl _)] at htl
        rw [show kinds.map (getO c2) = kinds.map (getO c1) from List.map_congr_left fun k _ => (al k).symm]
        exact htl
      clear htl
      k_steps
      (try dsimp only)
      refine h _ _ _ F9 fun p hp => N9 p (.tail _ (.tail _ hp))
end
section
local macro_rules | `(tactic| walk_at "m_pad") => `(tactic| skip)
theorem fillL2 : Mine.hd.heap_39 = Mine.hd.heap_39 ∧ PySem.Challenge.rw_no0052_01 = PySem.Challenge.rw_no0052_01 := by
  w_top off
  k_fill
  exact ⟨rfl, rfl⟩
set_option maxHeartbeats 4000000 in
theorem tail_walk {w : World} {dp un : Nat} {fr : Option (List Env)} {gd : Option (List Code)} {s : Shared} {h₀ : Heap} {L fa : Addr} {cv : Value} {m mg mb : Str → Option Value} {loose : List Str} {mean : ExcName → Option Value}
    {I l S dO x dd dT : Addr} {oI odue oal omom oown opool op oO oT : Obj} {ys : List Value} {t9 : Tok} {kO kT : List (Str × Value)} {c1 c2 : List (Str × Int)} {Q : Flow → Shared → Prop} {E : Value → Shared → Prop}
    (F : Fr h₀ L s.heap m) (X : (Mine.hd.heap_39 w.params).In h₀) (T : Top Mine.hd.view_39 loose mean mg mb h₀) (hdp : dp + 100 < recursionLimit) (hun : un + 1000 < cLine)
    (N : News h₀ L s.heap [(I, oI), (L + 1 + 1 + 1 + 1 + 1, odue), (L + 1 + 1 + 1 + 1, oal), (L + 1 + 1 + 1, omom), (L + 1 + 1, oown), (L + 1, opool), (l, op), (S, LCg.lst ys), (dO, oO), (x, instObj 98 dd), (dd, tmObj w t9 dT), (dT, oT)])
    (cO : oown.data = .cell (some (.ref dO))) (cA : oal.data = .cell (some (.ref x)))
    (lO : (dO == sysModules) = false) (hO : oO.IsDictOf (strKind PySem.Challenge.rw_no0052_01.row.prog w) kO) (fO : PyProof.V.FlatPairs PyData.str kO (kdpD c1))
    (lT : (dT == sysModules) = false) (hT : oT.IsDictOf (strKind PySem.Challenge.rw_no0052_01.row.prog w) kT) (fT : PyProof.V.FlatPairs PyData.str kT (kdpD c2))
    (hdd : Dif dT dd) (G1 : Good c1) (G2 : Good c2) (al : Alike c1 c2)
    (h : ∀ h' tk' m', Fr h₀ L h' m' → News h₀ L h' [(I, oI), (L + 1 + 1 + 1 + 1 + 1, odue), (L + 1 + 1 + 1 + 1, oal), (L + 1 + 1 + 1, omom), (L + 1 + 1, oown), (L + 1, opool), (l, op), (S, LCg.lst ys), (dO, oO), (x, instObj 98 dd), (dd, tmObj w t9 dT), (dT, oT)] → Q .next { s with heap := h', toks := tk' }) :
    wpAny (model PySem.Challenge.rw_no0052_01.row.prog w) ((atop dp un fr gd).deeper (lawEnv L fa cv)) (execs turnTail (lawEnv L fa cv)) Q E s := by
  show wpAny _ ((atop dp un fr gd).deeper (envOfC (Str.ofString "law") ⟨_, _, _, _, _⟩ _ _ _)) (execs (_ :: _) (envOfC (Str.ofString "law") ⟨_, _, _, _, _⟩ _ _ _)) _ _ _
  walk_at "m_torows"
  refine rows_first (by k_asm) (by k_asm) (by k_asm) (by ktr_room) (by ktr_units) (by k_asm) (by k_tabat) G1 (fun hnd h1 tk1 Dr n F1 N1 o1 => ?_) (fun t j hnd h1 tk1 Dr n a tl K t1 t2 t3 F1 hA hK6 N1 o1 => ?_)
  · have hnd2 := hnd
    rw [al.nd] at hnd2
    (simp only [OffD, and_true] at o1)
    (try simp only [List.cons_append, List.nil_append] at N1)
    clear F N
    walk_at "m_tolast"
    (try dsimp only)
    (rename Fr h₀ L _ _ => F8)
    (rename News h₀ L _ _ => N8)
    refine last_walk F8 X T hdp hun (fun p hp => N8 p ?_) cO cA lO hO fO lT hT fT hdd G1 G2 al fun h' tk' m' F' N' => h h' tk' m' F' N'
    exact .tail _ (.tail _ (.tail _ hp))
  · have hnd2 := hnd
    rw [al.nd] at hnd2
    (simp only [OffD, and_true] at o1)
    (try simp only [List.cons_append, List.nil_append] at N1)
    have hkj := kn_mem (hK6 (t, j) (.head _))
    clear F N
    walk_at "m_tolast"
    · exact absurd rfl (by assumption)
    (try dsimp only)
    (rename Fr h₀ L _ _ => F8)
    (rename News h₀ L _ _ => N8)
    refine last_walk F8 X T hdp hun (fun p hp => N8 p ?_) cO cA lO hO fO lT hT fT hdd G1 G2 al fun h' tk' m' F' N' => h h' tk' m' F' N'
    have hp2 : p ∈ [(I, oI), (L + 1 + 1 + 1 + 1 + 1, odue), (L + 1 + 1 + 1 + 1, oal), (L + 1 + 1 + 1, omom), (L + 1 + 1, oown), (L + 1, opool), (l, op), (S, LCg.lst ys), (dO, oO), (x, instObj 98 dd), (dd, tmObj w t9 dT), (dT, oT)] ++ tl := List.mem_append_left _ hp
    repeat' (first | exact hp2 | refine List.Mem.tail _ ?_)
end
section
theorem fillL4 : Mine.hd.heap_39 = Mine.hd.heap_39 ∧ PySem.Challenge.rw_no0052_01 = PySem.Challenge.rw_no0052_01 := by
  w_top off
  k_fill
  exact ⟨rfl, rfl⟩
def AllD (a : Addr) : List Addr → Prop
  | [] => True
  | b :: l => Dif b a ∧ AllD a l
def Sep : List Addr → Prop
  | [] => True
  | a :: l => AllD a l ∧ Sep l
theorem newsSub {h₀ h : Heap} {L : Addr} {a b : List (Addr × Obj)} (N : News h₀ L h a) (s : ∀ p ∈ b, p ∈ a) : News h₀ L h b := fun p hp => N p (s p hp)
theorem offD_back {D : Addr} : ∀ {l : List (Addr × Obj)}, OffD D l → Off1 D l
  | [], _ => trivial
  | _ :: _, h => ⟨h.1, offD_back h.2⟩
/-- what stands between two turns -/
def Inv (w : World) (L l S x dd : Addr) (t9 : Tok) (ys : List Value) (nx : List (Addr × Obj)) : Prop :=
  ∃ (odue oal omom oown opool op oO oT : Obj) (dO dT : Addr) (kO kT : List (Str × Value)) (c1 c2 : List (Str × Int)) (vd : Option Value) (mo : Int) (tm : Tok),
    nx = [(L + 1 + 1 + 1 + 1 + 1, odue), (L + 1 + 1 + 1 + 1, oal), (L + 1 + 1 + 1, omom), (L + 1 + 1, oown), (L + 1, opool), (l, op), (S, LCg.lst ys), (dO, oO), (x, instObj 98 dd), (dd, tmObj w t9 dT), (dT, oT)] ∧ odue.data = .cell vd ∧ oal.data = .cell (some (.ref x)) ∧ omom.data = .cell (some (.int mo tm)) ∧ oown.data = .cell (some (.ref dO)) ∧ opool.data = .cell (some (.ref l)) ∧ PoolObj S op ∧
    (dO == sysModules) = false ∧ oO.IsDictOf (strKind PySem.Challenge.rw_no0052_01.row.prog w) kO ∧ PyProof.V.FlatPairs PyData.str kO (kdpD c1) ∧
    (dT == sysModules) = false ∧ oT.IsDictOf (strKind PySem.Challenge.rw_no0052_01.row.prog w) kT ∧ PyProof.V.FlatPairs PyData.str kT (kdpD c2) ∧
    Good c1 ∧ Good c2 ∧ Alike c1 c2 ∧ Sep [L + 1 + 1 + 1 + 1 + 1, L + 1 + 1 + 1 + 1, L + 1 + 1 + 1, L + 1 + 1, L + 1, l, S, dO, x, dd, dT]
theorem tail_end {w : World} {dp un : Nat} {fr : Option (List Env)} {gd : Option (List Code)} {s s₁ : Shared} {h₀ : Heap} {L fa : Addr} {cv : Value} {m mg mb : Str → Option Value} {loose : List Str} {mean : ExcName → Option Value}
    {I l S dO x dd dT : Addr} {oI odue oal omom oown opool op oO oT : Obj} {ys : List Value} {t9 tm : Tok} {kO kT : List (Str × Value)} {c1 c2 : List (Str × Int)} {vd : Option Value} {mo : Int} {Q : Flow → Shared → Prop} {E : Value → Shared → Prop}
    (F : Fr h₀ L s.heap m) (X : (Mine.hd.heap_39 w.params).In h₀) (T : Top Mine.hd.view_39 loose mean mg mb h₀) (hdp : dp + 100 < recursionLimit) (hun : un + 1000 < cLine)
    (N : News h₀ L s.heap ((I, oI) :: [(L + 1 + 1 + 1 + 1 + 1, odue), (L + 1 + 1 + 1 + 1, oal), (L + 1 + 1 + 1, omom), (L + 1 + 1, oown), (L + 1, opool), (l, op), (S, LCg.lst ys), (dO, oO), (x, instObj 98 dd), (dd, tmObj w t9 dT), (dT, oT)])) (hs : ∃ hh tt, s = { s₁ with heap := hh, toks := tt })
    (cD : odue.data = .cell vd) (cM : omom.data = .cell (some (.int mo tm))) (cP : opool.data = .cell (some (.ref l))) (po : PoolObj S op)
    (cO : oown.data = .cell (some (.ref dO))) (cA : oal.data = .cell (some (.ref x)))
    (lO : (dO == sysModules) = false) (hO : oO.IsDictOf (strKind PySem.Challenge.rw_no0052_01.row.prog w) kO) (fO : PyProof.V.FlatPairs PyData.str kO (kdpD c1))
    (lT : (dT == sysModules) = false) (hT : oT.IsDictOf (strKind PySem.Challenge.rw_no0052_01.row.prog w) kT) (fT : PyProof.V.FlatPairs PyData.str kT (kdpD c2))
    (hdd : Dif dT dd) (G1 : Good c1) (G2 : Good c2) (al : Alike c1 c2) (sp : Sep [L + 1 + 1 + 1 + 1 + 1, L + 1 + 1 + 1 + 1, L + 1 + 1 + 1, L + 1 + 1, L + 1, l, S, dO, x, dd, dT]) (oI1 : OffD I [(L + 1 + 1 + 1 + 1 + 1, odue), (L + 1 + 1 + 1 + 1, oal), (L + 1 + 1 + 1, omom), (L + 1 + 1, oown), (L + 1, opool), (l, op), (S, LCg.lst ys), (dO, oO), (x, instObj 98 dd), (dd, tmObj w t9 dT), (dT, oT)]) :
    wpAny (model PySem.Challenge.rw_no0052_01.row.prog w) ((atop dp un fr gd).deeper (lawEnv L fa cv)) (execs turnTail (lawEnv L fa cv)) (TurnEnd h₀ L I oI [] (fun _ nx => Inv w L l S x dd t9 ys nx) s₁ Q) E s := by
  obtain ⟨hh, tt, rfl⟩ := hs
  refine tail_walk F X T hdp hun N cO cA lO hO fO lT hT fT hdd G1 G2 al fun h' tk' m' F' N' => ?_
  exact ⟨h', tk', m', [(L + 1 + 1 + 1 + 1 + 1, odue), (L + 1 + 1 + 1 + 1, oal), (L + 1 + 1 + 1, omom), (L + 1 + 1, oown), (L + 1, opool), (l, op), (S, LCg.lst ys), (dO, oO), (x, instObj 98 dd), (dd, tmObj w t9 dT), (dT, oT)], rfl, F', N', offD_back oI1, odue, oal, omom, oown, opool, op, oO, oT, dO, dT, kO, kT, c1, c2, vd, mo, tm, rfl, cD, cA, cM, cO, cP, po, lO, hO, fO, lT, hT, fT, G1, G2, al, sp⟩
end
section
theorem fillC2 : Mine.hd.heap_39 = Mine.hd.heap_39 ∧ PySem.Challenge.rw_no0052_01 = PySem.Challenge.rw_no0052_01 := by
  w_top off
  k_fill
  exact ⟨rfl, rfl⟩
section
variable {w : World} {dp un : Nat} {fr : Option (List Env)} {gd : Option (List Code)} {s : Shared} {h₀ : Heap} {L : Addr} {m mg mb : Str → Option Value} {loose : List Str} {mean : ExcName → Option Value}
    {news : List (Addr × Obj)} {u : Obj → List (Addr × Obj)} {Q : Value → Shared → Prop} {E : Value → Shared → Prop}
theorem all_due_call {d : Addr} {c : List (Str × Int)} {now : Int} {tn : Tok} {Kd : List (Int × Nat)}
    (F : Fr h₀ L s.heap m) (X : (Mine.hd.heap_39 w.params).In h₀) (T : Top Mine.hd.view_39 loose mean mg mb h₀) (hdp : dp + 6 < recursionLimit) (hun : un + 200 < cLine)
    (N : News h₀ L s.heap news) (D : StrTab PySem.Challenge.rw_no0052_01.row.prog w s.heap d (kdpD c)) (hK : ∀ K', K'.Perm (adl c now 6) → K'.Pairwise (fun a b => lx a b = true) → K' = Kd)
    (h : ∀ (h' : Heap) tk' D' ys n, Fr h₀ L h' m → News h₀ L h' ((D', PySem.W.listOf ys.toArray n) :: news) → OffD D' news → StrsAre ys (Kd.map fun r => kn r.2) → Q (.ref D') { s with heap := h', toks := tk' }) :
    wpAny (model PySem.Challenge.rw_no0052_01.row.prog w) (atop dp un fr gd) (call (.ref 41) [.ref d, .int now tn]) Q E s := by
  refine all_due_walk F X T hdp hun D N fun h' tk' D' K ys n k g e hP hS hys => ?_
  have hk := hK K hP hS
  subst hk
  exact h h' tk' D' ys n (Keeps.fr F News.nil k) (Keeps.more (nx := [(_, _)]) F N k (List.forall_mem_cons.mpr ⟨⟨e, g⟩, List.forall_mem_nil _⟩)) (offD_off1 (off1_fresh N g)) hys
theorem allD_of {D : Addr} : ∀ {l : List Addr}, (∀ a ∈ l, a ≠ D) → AllD D l
  | [], _ => trivial
  | _ :: _, h => ⟨h _ (.head _), allD_of fun q hq => h q (.tail _ hq)⟩
theorem take_call {x dd d : Addr} {od : Obj} {kvs0 : List (Str × Value)} {t9 : Tok} {c : List (Str × Int)} {now : Int} {tn : Tok} {Kd : List (Int × Nat)} {as : List Addr}
    (F : Fr h₀ L s.heap m) (X : (Mine.hd.heap_39 w.params).In h₀) (T : Top Mine.hd.view_39 loose mean mg mb h₀) (hdp : dp + 12 < recursionLimit) (hun : un + 400 < cLine)
    (N : News h₀ L s.heap news) (hx : (x, instObj 98 dd) ∈ news) (U : UpdF dd (tmObj w t9 d) news u) (hd : (d, od) ∈ news) (hdd : @Ne Nat d dd)
    (lo : (d == sysModules) = false) (hod : od.IsDictOf (strKind PySem.Challenge.rw_no0052_01.row.prog w) kvs0) (hf0 : PyProof.V.FlatPairs PyData.str kvs0 (kdpD c)) (hc : c.length ≤ 1000) (hn : (c.map (·.1)).Nodup)
    (hK : ∀ K', K'.Perm (adl c now 6) → K'.Pairwise (fun a b => lx a b = true) → K' = Kd)
    (has : AllD d as) (hsub : ∀ a ∈ as, a ∈ news.map (·.1))
    (h : ∀ (h' : Heap) tk' D' ob kvs l ys n, Fr h₀ L h' m → (∀ p ∈ u (tmObj w t9 D'), p.1 ≠ d → h'.get? p.1 = some p.2 ∧ p.1 ≠ L ∧ h₀.get? p.1 = none) → News h₀ L h' [(l, PySem.W.listOf ys.toArray n), (D', ob)] → AllD D' as → OffD l news → Dif D' l → (D' == sysModules) = false →
      ob.IsDictOf (strKind PySem.Challenge.rw_no0052_01.row.prog w) kvs → PyProof.V.FlatPairs PyData.str kvs (kdpD (dels c (Kd.map fun r => kn r.2))) → StrsAre ys (Kd.map fun r => kn r.2) → Q (.ref l) { s with heap := h', toks := tk' }) :
    wpAny (model PySem.Challenge.rw_no0052_01.row.prog w) (atop dp un fr gd) (call (.ref 95) [.ref x, .int now tn]) Q E s := by
  obtain ⟨pre, post, hnews, hu, a1, a2⟩ := U.split
  have hdm : (dd, tmObj w t9 d) ∈ news := by rw [hnews]; exact List.mem_append_right _ (.head _)
  have same : ∀ {p q : Addr × Obj}, p ∈ news → q ∈ news → p.1 = q.1 → p.2 = q.2 := fun {p q} hp hq e => by
    have h1 := (N p hp).1
    have h2 := (N q hq).1
    rw [e, h2] at h1
    exact (Option.some.inj h1).symm
  have hxd : x ≠ dd := fun e => by
    have := same hx hdm e
    cases this
  have hxd2 : x ≠ d := fun e => by
    have := same hx hd e
    dsimp only at this
    rw [← this] at hod
    obtain ⟨es, ep, hex, _⟩ := hod
    cases hex.1
  have N2 : News h₀ L s.heap [(x, instObj 98 dd), (dd, tmObj w t9 d), (d, od)] := fun p hp => by
    rcases List.mem_cons.mp hp with rfl | hp
    · exact N _ hx
    rcases List.mem_cons.mp hp with rfl | hp
    · exact N _ hdm
    · rw [List.mem_singleton.mp hp]; exact N _ hd
  refine take_due_walk F X T hdp hun N2 hdd hxd hxd2 lo hod hf0 hc hn fun h' tk' D' ob kvs l ys n K k g1 g2 g3 q5 q2 q1 q3 hD hF gl fl q4 hP hS hys => ?_
  have hk := hK K hP hS
  subst hk
  have F' : Fr h₀ L h' m := Keeps.fr F N2 k
  refine h h' tk' D' ob kvs l ys n F' (fun p hp hpd => ?_) ?_ ?_ (offD_off1 (off1_fresh N fl)) (fun e => q4 e.symm) q3 hD hF hys
  · have hq : p = (dd, tmObj w t9 D') ∨ (p ∈ news ∧ p.1 ≠ dd) := by
      rw [hu] at hp
      rcases List.mem_append.mp hp with hp | hp
      · exact .inr ⟨by rw [hnews]; exact List.mem_append_left _ hp, a1 p hp⟩
      · rcases List.mem_cons.mp hp with rfl | hp
        · exact .inl rfl
        · exact .inr ⟨by rw [hnews]; exact List.mem_append_right _ (.tail _ hp), a2 p hp⟩
    rcases hq with rfl | ⟨hp, hne⟩
    · exact ⟨g2, (N _ hdm).2⟩
    · refine ⟨?_, (N p hp).2⟩
      by_cases e : p.1 = x
      · have h1 := same hp hx e
        rw [e, h1]; exact g1
      · exact k _ _ (by simp [e, hne, hpd]) (N p hp).1
  · intro p hp
    rcases List.mem_cons.mp hp with rfl | hp
    · exact ⟨gl, newEntry F fl⟩
    · rw [List.mem_singleton.mp hp]
      rcases q5 with e | e
      · rw [e] at g3 ⊢; exact ⟨g3, (N _ hd).2⟩
      · exact ⟨g3, newEntry F e⟩
  · rcases q5 with e | e
    · rw [e]; exact has
    · refine allD_of fun a ha e2 => ?_
      obtain ⟨p, hp, rfl⟩ := List.mem_map.mp (hsub a ha)
      have := (N p hp).1
      rw [e2, e] at this; cases this
theorem notin_strs {prog : Program} {A : Around} {l : Addr} {xs : List Value} {ks : List Str} {n : Nat} {k : Str} {t : Tok} (N : News h₀ L s.heap news) (hm : (l, PySem.W.listOf xs.toArray n) ∈ news) (hs : StrsAre xs ks) (h : Q (.bool (!decide (k ∈ ks))) s) :
    wpAny (model prog w) A (compareOp .NotIn (.str k t) (.ref l)) Q E s := by
  refine SeqInW.notIn_listW (isStrOf k) (fun y hy => eq_isStrOf k t hs y (by simpa using hy)) (PySem.IsL.isList (n := n) (N _ hm).1) ?_
  have e : xs.any (isStrOf k) = decide (k ∈ ks) := by
    clear hm N h
    induction hs with
    | nil => rfl
    | cons x u r ih =>
      rw [List.any_cons, ih]
      simp [isStrOf]
      by_cases q : x = k
      · simp [q]
      · have : ¬ k = x := fun e => q e.symm
        simp [q, this]
  rw [← Array.any_toList]
  show Q (.bool (!(xs.any (isStrOf k)))) s
  rw [e]; exact h
end
end
local macro_rules | `(tactic| walk_at "m_split") => `(tactic| repeat ((rename Dif _ _ ∧ _ => hsp); (cases hsp)))
local macro_rules | `(tactic| walk_at "subscriptTail") => `(tactic| (k_here; (with_reducible show wpAny _ _ (subscriptTail _ _ (Value.ref 15) (Value.int _ _)) _ _ _); k_dflt (refine kinds_item (by k_asm) (by k_asm) (by omega) ?_); intro t9'))
local macro_rules | `(tactic| walk_at "call ref") => `(tactic| (k_here; (with_reducible show wpAny _ _ (call (Value.ref 74) _) _ _ _); k_dflt (refine' put_call ?F ?X ?T ?d ?u ?N ?x ?U ?dd ?D ?c ?n ?v ?_; (case F => k_asm); (case X => k_asm); (case T => k_asm); (case d => ktr_room); (case u => ktr_units); (case N => k_asm); (case x => k_mem); (case U => k_updF); (case dd => exact Dif.ne (by assumption)); (case D => k_tabat); (case c => exact Nat.le_trans (Good.len (by assumption)) (by decide)); (case n => exact (And.left (by assumption : Good _))); (case v => first | exact optVal_none rfl | exact optVal_some rfl)); intro h' tk' D' ob' kvs' F' N' o1' lo' hd' hf'; (try dsimp only at N'); (have o2' := offD_off1 o1'); (clear o1'); (simp only [OffD, and_true] at o2'); walk_at "m_split"; (try k_sweep)))
local macro_rules | `(tactic| walk_at "call builtin:dict.pop") => `(tactic| (k_here; (with_reducible show wpAny _ _ (call (Value.builtin _) [Value.ref _, Value.str _ _, Value.none]) _ _ _); k_dflt (refine' pop_call ?F ?N ?U ?l ?d ?f ?c ?_; (case F => k_asm); (case N => k_asm); (case U => k_updF); (case l => assumption); (case d => assumption); (case f => assumption); (case c => exact Nat.le_trans (Good.len (by assumption)) (by decide))); intro h' o' kvs' v' tk' F' N' hd' hf'; (try dsimp only at N'); (try k_sweep)))
local macro_rules | `(tactic| walk_at "m_turn") => `(tactic| repeat' ((fail_if_success (with_reducible show wpAny _ _ (execs [Stmt.Assign _ _ _, Stmt.If _ _ _ _, Stmt.If _ _ _ _] _) _ _ _)); (fail_if_success (with_reducible show wpAny _ _ (eval (PySem.Expr.ListComp _ _ _ _) _) _ _ _)); (first | (k_unfold; (try dsimp only)) | (k_end; wrow_close) | walk1 | (dsimp only; walk1) | fail "no step")))
local macro_rules | `(tactic| walk_at "setItem ref str") => `(tactic| (k_here; (with_reducible show wpAny _ _ (setItem (Value.ref _) (Value.str _ _) (Value.int _ _)) _ _ _); k_dflt (refine' kdp_setItem ?F ?N ?U ?d ?f ?z ?_; (case F => k_asm); (case N => k_asm); (case U => k_updF); (case d => assumption); (case f => assumption); (case z => exact Nat.le_trans (Good.len (by assumption)) (by decide))); intro h' o' kvs' F' N' hd' hf'; (try dsimp only at N'); (try k_sweep)))
local macro_rules | `(tactic| walk_at "m_memin") => `(tactic| first | exact List.Mem.head _ | (refine List.Mem.tail _ ?_; walk_at "m_memin"))
local macro_rules | `(tactic| walk_at "m_allin") => `(tactic| first | exact List.forall_mem_nil _ | (refine List.forall_mem_cons.mpr (And.intro ?_ ?_); (walk_at "m_memin"); (walk_at "m_allin")))
local macro_rules | `(tactic| walk_at "m_sep") => `(tactic| ((simp only [Sep, AllD, OffD, and_true]); (repeat' (refine And.intro ?_ ?_)); (all_goals first | assumption | exact Dif.symm (by assumption) | (show _ ≠ _; omega))))
local macro_rules | `(tactic| walk_at "compareOp NotIn str ref") => `(tactic| (k_here; k_dflt (refine' notin_strs ?N ?m ?s ?_; (case N => k_asm); (case m => k_mem); (case s => assumption))))
local macro_rules | `(tactic| walk_at "compareOp NotIn") => `(tactic| (k_here; (with_reducible show wpAny _ _ (compareOp CmpOp.NotIn (Value.str _ _) (Value.ref _)) _ _ _); k_dflt (refine' notin_strs ?N ?m ?s ?_; (case N => k_asm); (case m => k_mem); (case s => assumption))))
local macro_rules | `(tactic| walk_at "subscriptTail") => `(tactic| (k_here; (with_reducible show wpAny _ _ (subscriptTail _ _ (Value.ref _) (Value.str _ _)) _ _ _); k_dflt (refine kdp_item (by first | k_tabat | exact TabAt.ofFr (by assumption) (by assumption)) (by assumption) ?_); intro t9'))
section
theorem fillL6 : Mine.hd.heap_39 = Mine.hd.heap_39 ∧ PySem.Challenge.rw_no0052_01 = PySem.Challenge.rw_no0052_01 := by
  w_top off
  k_fill
  exact ⟨rfl, rfl⟩
theorem compEnd_snocL {prog : Program} {w : World} {h₀ : Heap} {L : Addr} {m : Str → Option Value} {s₁ : Shared} {B I C D : Addr} {ob oI oC oD : Obj} {S : List (Addr × Obj) → Prop} {rest : Value → List (Addr × Obj) → Prop} {y : Value} {h' : Heap} {tk : Nat} (base tl : List (Addr × Obj))
    (F : Fr h₀ L h' m) (N : News h₀ L h' ((B, ob) :: (I, oI) :: (C, oC) :: (D, oD) :: (base ++ tl))) (lt : AllLt B ((I, oI) :: (C, oC) :: (D, oD) :: (base ++ tl))) (off : LCg.Off3 I C D (base ++ tl))
    (hS : S (base ++ (tl ++ [(B, ob)]))) (r : rest y (base ++ (tl ++ [(B, ob)]))) : LCg.CompEnd h₀ L m s₁ I oI C oC D oD S rest y { s₁ with heap := h', toks := tk } := by
  have lt : ∀ p ∈ (I, oI) :: (C, oC) :: (D, oD) :: (base ++ tl), p.1 ≠ B := fun p hp => Nat.ne_of_lt (kst_ltOf lt p hp)
  refine LCg.CompEnd.intro F N _ (fun p hp => ?_) (LCg.Off3.of fun p hp => ?_) hS r
  · rcases List.mem_cons.mp hp with rfl | hp
    · exact .tail _ (.head _)
    rcases List.mem_cons.mp hp with rfl | hp
    · exact .tail _ (.tail _ (.head _))
    rcases List.mem_cons.mp hp with rfl | hp
    · exact .tail _ (.tail _ (.tail _ (.head _)))
    rcases List.mem_append.mp hp with hp | hp
    · exact .tail _ (.tail _ (.tail _ (.tail _ (List.mem_append_left _ hp))))
    rcases List.mem_append.mp hp with hp | hp
    · exact .tail _ (.tail _ (.tail _ (.tail _ (List.mem_append_right _ hp))))
    · rw [List.mem_singleton.mp hp]; exact .head _
  · have old : ∀ q ∈ base ++ tl, q.1 ≠ I ∧ q.1 ≠ C ∧ q.1 ≠ D := off.mem
    rcases List.mem_append.mp hp with hp | hp
    · exact old p (List.mem_append_left _ hp)
    rcases List.mem_append.mp hp with hp | hp
    · exact old p (List.mem_append_right _ hp)
    · rw [List.mem_singleton.mp hp]
      exact ⟨Ne.symm (lt _ (.head _)), Ne.symm (lt _ (.tail _ (.head _))), Ne.symm (lt _ (.tail _ (.tail _ (.head _))))⟩
set_option maxHeartbeats 8000000 in
theorem due_c {w : World} {dp un : Nat} {fr : Option (List Env)} {gd : Option (List Code)} {s : Shared} {h₀ : Heap} {L fa : Addr} {cv : Value} {m mg mb : Str → Option Value} {loose : List Str} {mean : ExcName → Option Value}
    {I l S dO x dd dT Dd : Addr} {oI odue oal omom oown opool op oO oT : Obj} {ys yd : List Value} {nd9 : Nat} {t9 : Tok} {kO : List (Str × Value)} {c1 : List (Str × Int)} {ks : List Str} {Q : Flow → Shared → Prop} {E : Value → Shared → Prop}
    (F : Fr h₀ L s.heap m) (X : (Mine.hd.heap_39 w.params).In h₀) (T : Top Mine.hd.view_39 loose mean mg mb h₀) (hdp : dp + 100 < recursionLimit) (hun : un + 1000 < cLine)
    (N : News h₀ L s.heap [(I, oI), (L + 1 + 1 + 1 + 1 + 1, odue), (L + 1 + 1 + 1 + 1, oal), (L + 1 + 1 + 1, omom), (L + 1 + 1, oown), (L + 1, opool), (l, op), (S, LCg.lst ys), (dO, oO), (x, instObj 98 dd), (dd, tmObj w t9 dT), (dT, oT), (Dd, PySem.W.listOf yd.toArray nd9)])
    (cD : odue.data = .cell (some (.ref Dd))) (cO : oown.data = .cell (some (.ref dO))) (hDd : StrsAre yd ks)
    (lO : (dO == sysModules) = false) (hO : oO.IsDictOf (strKind PySem.Challenge.rw_no0052_01.row.prog w) kO) (fO : PyProof.V.FlatPairs PyData.str kO (kdpD c1))
    (G1 : Good c1) (sp : Sep [L + 1 + 1 + 1 + 1 + 1, L + 1 + 1 + 1 + 1, L + 1 + 1 + 1, L + 1 + 1, L + 1, l, S, dO, x, dd, dT]) (oI1 : OffD I [(L + 1 + 1 + 1 + 1 + 1, odue), (L + 1 + 1 + 1 + 1, oal), (L + 1 + 1 + 1, omom), (L + 1 + 1, oown), (L + 1, opool), (l, op), (S, LCg.lst ys), (dO, oO), (x, instObj 98 dd), (dd, tmObj w t9 dT), (dT, oT)]) (oDd : OffD Dd ((I, oI) :: [(L + 1 + 1 + 1 + 1 + 1, odue), (L + 1 + 1 + 1 + 1, oal), (L + 1 + 1 + 1, omom), (L + 1 + 1, oown), (L + 1, opool), (l, op), (S, LCg.lst ys), (dO, oO), (x, instObj 98 dd), (dd, tmObj w t9 dT), (dT, oT)]))
    (h : ∀ h' tk' m' oown' dO' oO' kO', oown'.data = .cell (some (.ref dO')) → Fr h₀ L h' m' → News h₀ L h' [(I, oI), (L + 1 + 1 + 1 + 1 + 1, odue), (L + 1 + 1 + 1 + 1, oal), (L + 1 + 1 + 1, omom), (L + 1 + 1, oown'), (L + 1, opool), (l, op), (S, LCg.lst ys), (dO', oO'), (x, instObj 98 dd), (dd, tmObj w t9 dT), (dT, oT)] → (dO' == sysModules) = false → oO'.IsDictOf (strKind PySem.Challenge.rw_no0052_01.row.prog w) kO' → PyProof.V.FlatPairs PyData.str kO' (kdpD (c1.filter fun p => !decide (p.1 ∈ ks))) → AllD dO' [I, L + 1 + 1 + 1 + 1 + 1, L + 1 + 1 + 1 + 1, L + 1 + 1 + 1, L + 1 + 1, L + 1, l, S, x, dd, dT] → Q .next { s with heap := h', toks := tk' }) :
    wpAny (model PySem.Challenge.rw_no0052_01.row.prog w) ((atop dp un fr gd).deeper (lawEnv L fa cv)) (execs (dueBody.drop 3) (lawEnv L fa cv)) Q E s := by
  show wpAny _ ((atop dp un fr gd).deeper (envOfC (Str.ofString "law") ⟨_, _, _, _, _⟩ _ _ _)) (execs (_ :: _) (envOfC (Str.ofString "law") ⟨_, _, _, _, _⟩ _ _ _)) _ _ _
  obtain ⟨es0, ep0, r0⟩ := id hO
  have hDO : DObj PySem.Challenge.rw_no0052_01.row.prog w oO kO ep0 := ⟨es0, r0⟩
  have hlen0 : kO.length = c1.length := by rw [← fO.length, kdpD_length]
  have hc6 := G1.len
  walk_at "m_tocomp"
  k_dflt (refine ListComp_TD (F₀ := by k_asm) (by with_unfolding_all rfl) (by decide) (by rfl) (by decide) (by rfl) ?_)
  k_steps
  refine ⟨dO, kO, ep0, _, rfl, rfl, lO, by k_asm, by k_asm, .inr ⟨oO, by k_mem, hDO⟩, by rw [hlen0, sizeLine_eq]; omega, fun s₂ hs₂ => ?_⟩
  obtain ⟨gg, rfl⟩ := hs₂
  refine restT_inv (fun i ys' nw => ∃ tl, nw = (I, oI) :: (L + 1 + 1 + 1 + 1 + 1, odue) :: (L + 1 + 1 + 1 + 1, oal) :: (L + 1 + 1 + 1, omom) :: (L + 1 + 1, oown) :: (L + 1, opool) :: (l, op) :: (S, LCg.lst ys) :: (dO, oO) :: (x, instObj 98 dd) :: (dd, tmObj w t9 dT) :: (dT, oT) :: (Dd, PySem.W.listOf yd.toArray nd9) :: tl ∧ ys' = refs tl ∧ Alls EntR tl ((c1.take i).filter fun p => !decide (p.1 ∈ ks))) ?_ ?_ _ 0 [] _ (Nat.zero_add _) ⟨[], rfl, rfl, .nil⟩
  · rintro i ys' nw v I9 oI9 C oC D m₂ h9 tk9 E' hi ⟨tl, rfl, rfl, htl⟩ ⟨k1, x1, hk1, hv1⟩ hC hx F9 N9 off ne
    obtain ⟨t1, rfl⟩ := Value.isStrOf_shape hv1
    obtain ⟨n1, hci⟩ := entry_at fO hk1
    obtain ⟨hhas, hlook⟩ := look_at G1.1 (List.mem_of_getElem? hci)
    have hic : i < c1.length := by rw [← hlen0]; exact hi
    have et : c1.take (i + 1) = c1.take i ++ [(k1, n1)] := by rw [List.take_add_one, hci]; rfl
    have hN9 : ∀ p ∈ (I9, oI9) :: (C, oC) :: (D, LCg.lst (refs tl)) :: ([(I, oI), (L + 1 + 1 + 1 + 1 + 1, odue), (L + 1 + 1 + 1 + 1, oal), (L + 1 + 1 + 1, omom), (L + 1 + 1, oown), (L + 1, opool), (l, op), (S, LCg.lst ys), (dO, oO), (x, instObj 98 dd), (dd, tmObj w t9 dT), (dT, oT), (Dd, PySem.W.listOf yd.toArray nd9)] ++ tl), h9.get? p.1 = some p.2 := fun p hp => (N9 p hp).1
    clear F N
    k_steps
    · refine LCg.CompEnd.intro F9 N9 _ (fun p hp => hp) off (.inr ⟨oO, by k_mem, hDO⟩) ⟨tl, rfl, rfl, ?_⟩
      rw [et, List.filter_append, List.filter_cons_of_neg (by simpa using (by assumption : k1 ∈ ks)), List.filter_nil, List.append_nil]
      exact htl
    · have hne : ¬ k1 ∈ ks := by assumption
      (rename _ ∧ _ ∧ _ => l9)
      (rename News h₀ L _ _ => N10)
      refine compEnd_snocL (prog := PySem.Challenge.rw_no0052_01.row.prog) (w := w) [(I, oI), (L + 1 + 1 + 1 + 1 + 1, odue), (L + 1 + 1 + 1 + 1, oal), (L + 1 + 1 + 1, omom), (L + 1 + 1, oown), (L + 1, opool), (l, op), (S, LCg.lst ys), (dO, oO), (x, instObj 98 dd), (dd, tmObj w t9 dT), (dT, oT), (Dd, PySem.W.listOf yd.toArray nd9)] tl (by assumption) N10 l9 off (.inr ⟨oO, by k_mem, hDO⟩) ⟨tl ++ [_], rfl, by simp [refs], ?_⟩
      rw [et, List.filter_append, List.filter_cons_of_pos (by simpa using hne), List.filter_nil]
      exact htl.append (.cons ⟨_, _, by rw [hlook]⟩ .nil)
  · rintro ys' nw ⟨tl, rfl, rfl, htl⟩ D h9 tk9 F9 N9 off
    have e1 : c1.take kO.length = c1 := List.take_of_length_le (by rw [hlen0]; exact Nat.le_refl _)
    rw [e1] at htl
    clear F N
    k_steps
    have hfl : (c1.filter fun p => !decide (p.1 ∈ ks)).length ≤ c1.length := List.length_filter_le _ _
    refine dict_pairs rfl F9 N9 (modules_low T.nolimit) (N9 _ (.head _)).1 (fun p hp => (N9 p (.tail _ (List.mem_append_right [(I, oI), (L + 1 + 1 + 1 + 1 + 1, odue), (L + 1 + 1 + 1 + 1, oal), (L + 1 + 1 + 1, omom), (L + 1 + 1, oown), (L + 1, opool), (l, op), (S, LCg.lst ys), (dO, oO), (x, instObj 98 dd), (dd, tmObj w t9 dT), (dT, oT), (Dd, PySem.W.listOf yd.toArray nd9)] hp))).1) htl (G1.filter _).1 (by omega) fun h8 tk8 o8 kvs8 F8 N8 lo8 hd8 hf8 l8 => ?_
    have l9 : OffD h9.objs.size [(I, oI), (L + 1 + 1 + 1 + 1 + 1, odue), (L + 1 + 1 + 1 + 1, oal), (L + 1 + 1 + 1, omom), (L + 1 + 1, oown), (L + 1, opool), (l, op), (S, LCg.lst ys), (dO, oO), (x, instObj 98 dd), (dd, tmObj w t9 dT), (dT, oT), (Dd, PySem.W.listOf yd.toArray nd9)] := offD_of fun p hp => Nat.ne_of_lt (l8 p (.tail _ (List.mem_append_left tl hp)))
    have N8' := newsSub N8 (b := (h9.objs.size, o8) :: [(I, oI), (L + 1 + 1 + 1 + 1 + 1, odue), (L + 1 + 1 + 1 + 1, oal), (L + 1 + 1 + 1, omom), (L + 1 + 1, oown), (L + 1, opool), (l, op), (S, LCg.lst ys), (dO, oO), (x, instObj 98 dd), (dd, tmObj w t9 dT), (dT, oT), (Dd, PySem.W.listOf yd.toArray nd9)]) (by walk_at "m_allin")
    clear l8 N8 N9 F9 off
    simp only [OffD, and_true] at l9
    simp only [Sep, AllD, OffD, and_true] at sp oI1 oDd
    obtain ⟨sa, sb, sc, sd, se, sf, sg, sh, si, sj⟩ := sp
    walk_at "m_split"
    (try dsimp only)
    k_steps
    (try dsimp only)
    (rename Fr h₀ L _ _ => F7)
    (rename News h₀ L _ _ => N7)
    exact h _ _ _ _ _ _ _ (by assumption) F7 (newsSub N7 (by walk_at "m_allin")) lo8 hd8 hf8 (by walk_at "m_sep")
end
section
theorem fillL7 : Mine.hd.heap_39 = Mine.hd.heap_39 ∧ PySem.Challenge.rw_no0052_01 = PySem.Challenge.rw_no0052_01 := by
  w_top off
  k_fill
  exact ⟨rfl, rfl⟩
local macro_rules | `(tactic| walk_at "call ref") => `(tactic| (k_here; (with_reducible show wpAny _ _ (call (Value.ref 41) _) _ _ _); k_dflt (refine' all_due_call ?F ?X ?T ?d ?u ?N ?D ?K ?_; (case F => k_asm); (case X => k_asm); (case T => k_asm); (case d => ktr_room); (case u => ktr_units); (case N => k_asm); (case D => first | k_tabat | exact TabAt.ofFr (by assumption) (by assumption)); (case K => assumption)); intro h' tk' D' ys' n' F' N' o2' hs'; (simp only [OffD, and_true] at o2'); (try k_sweep)))
local macro_rules | `(tactic| walk_at "compareOp NotEq ref ref") => `(tactic| (k_here; (with_reducible show wpAny _ _ (compareOp CmpOp.NotEq (Value.ref _) (Value.ref _)) _ _ _); k_dflt (refine' strs_ne ?N ?a ?A ?b ?B ?k ?u ?_; (case N => k_asm); (case a => k_mem); (case A => assumption); (case b => k_mem); (case B => assumption); (case k => assumption); (case u => ktr_units))))
local macro_rules | `(tactic| walk_at "m_to95") => `(tactic| repeat' ((fail_if_success (with_reducible show wpAny _ _ (call (Value.ref 95) _) _ _ _)); (first | (k_unfold; (try dsimp only)) | (k_end; wrow_close) | walk1 | (dsimp only; walk1) | fail "no step")))
local macro_rules | `(tactic| walk_at "m_todue") => `(tactic| repeat' ((fail_if_success (with_reducible show wpAny _ _ (execs [Stmt.Assign _ _ _] _) _ _ _)); (first | (k_unfold; (try dsimp only)) | (k_end; wrow_close) | walk1 | (dsimp only; walk1) | fail "no step")))
theorem newsTake {h₀ h : Heap} {L d : Addr} {a b c : List (Addr × Obj)} (U : ∀ p ∈ a, p.1 ≠ d → h.get? p.1 = some p.2 ∧ p.1 ≠ L ∧ h₀.get? p.1 = none) (N : News h₀ L h b) (s : ∀ p ∈ c, p ∈ b ∨ (p ∈ a ∧ @Ne Nat p.1 d)) : News h₀ L h c := fun p hp => by
  rcases s p hp with q | ⟨q, e⟩
  · exact N p q
  · exact U p q e
local macro_rules | `(tactic| walk_at "m_taken") => `(tactic| first | exact List.forall_mem_nil _ | (refine List.forall_mem_cons.mpr (And.intro ?_ ?_); (first | exact Or.inl (by walk_at "m_memin") | exact Or.inr ⟨by walk_at "m_memin", by k_ne⟩); (walk_at "m_taken")))
set_option maxHeartbeats 8000000 in
theorem due_b {w : World} {dp un : Nat} {fr : Option (List Env)} {gd : Option (List Code)} {s : Shared} {h₀ : Heap} {L fa : Addr} {cv : Value} {m mg mb : Str → Option Value} {loose : List Str} {mean : ExcName → Option Value}
    {I l S dO x dd dT Dd : Addr} {oI odue oal omom oown opool op oO oT : Obj} {ys yd : List Value} {nd9 : Nat} {t9 tm : Tok} {kO kT : List (Str × Value)} {c1 c2 : List (Str × Int)} {mo : Int} {Kd : List (Int × Nat)} {Q : Flow → Shared → Prop} {E : Value → Shared → Prop}
    (F : Fr h₀ L s.heap m) (X : (Mine.hd.heap_39 w.params).In h₀) (T : Top Mine.hd.view_39 loose mean mg mb h₀) (hdp : dp + 100 < recursionLimit) (hun : un + 1000 < cLine)
    (N : News h₀ L s.heap [(I, oI), (L + 1 + 1 + 1 + 1 + 1, odue), (L + 1 + 1 + 1 + 1, oal), (L + 1 + 1 + 1, omom), (L + 1 + 1, oown), (L + 1, opool), (l, op), (S, LCg.lst ys), (dO, oO), (x, instObj 98 dd), (dd, tmObj w t9 dT), (dT, oT), (Dd, PySem.W.listOf yd.toArray nd9)])
    (cD : odue.data = .cell (some (.ref Dd))) (cO : oown.data = .cell (some (.ref dO))) (cA : oal.data = .cell (some (.ref x))) (cM : omom.data = .cell (some (.int mo tm))) (hDd : StrsAre yd (Kd.map fun r => kn r.2))
    (hK : ∀ K', K'.Perm (adl c1 mo 6) → K'.Pairwise (fun a b => lx a b = true) → K' = Kd) (hK2 : ∀ K', K'.Perm (adl c2 mo 6) → K'.Pairwise (fun a b => lx a b = true) → K' = Kd) (hk : ∀ x ∈ Kd.map (fun r => kn r.2), x ∈ kinds)
    (lO : (dO == sysModules) = false) (hO : oO.IsDictOf (strKind PySem.Challenge.rw_no0052_01.row.prog w) kO) (fO : PyProof.V.FlatPairs PyData.str kO (kdpD c1))
    (lT : (dT == sysModules) = false) (hT : oT.IsDictOf (strKind PySem.Challenge.rw_no0052_01.row.prog w) kT) (fT : PyProof.V.FlatPairs PyData.str kT (kdpD c2))
    (G1 : Good c1) (G2 : Good c2) (sp : Sep [L + 1 + 1 + 1 + 1 + 1, L + 1 + 1 + 1 + 1, L + 1 + 1 + 1, L + 1 + 1, L + 1, l, S, dO, x, dd, dT]) (oI1 : OffD I [(L + 1 + 1 + 1 + 1 + 1, odue), (L + 1 + 1 + 1 + 1, oal), (L + 1 + 1 + 1, omom), (L + 1 + 1, oown), (L + 1, opool), (l, op), (S, LCg.lst ys), (dO, oO), (x, instObj 98 dd), (dd, tmObj w t9 dT), (dT, oT)]) (oDd : OffD Dd ((I, oI) :: [(L + 1 + 1 + 1 + 1 + 1, odue), (L + 1 + 1 + 1 + 1, oal), (L + 1 + 1 + 1, omom), (L + 1 + 1, oown), (L + 1, opool), (l, op), (S, LCg.lst ys), (dO, oO), (x, instObj 98 dd), (dd, tmObj w t9 dT), (dT, oT)]))
    (h : ∀ h' tk' m' oown' dO' oO' kO' dT' oT' kT', oown'.data = .cell (some (.ref dO')) → Fr h₀ L h' m' → News h₀ L h' [(I, oI), (L + 1 + 1 + 1 + 1 + 1, odue), (L + 1 + 1 + 1 + 1, oal), (L + 1 + 1 + 1, omom), (L + 1 + 1, oown'), (L + 1, opool), (l, op), (S, LCg.lst ys), (dO', oO'), (x, instObj 98 dd), (dd, tmObj w t9 dT'), (dT', oT')] →
      (dO' == sysModules) = false → oO'.IsDictOf (strKind PySem.Challenge.rw_no0052_01.row.prog w) kO' → PyProof.V.FlatPairs PyData.str kO' (kdpD (c1.filter fun p => !decide (p.1 ∈ Kd.map fun r => kn r.2))) →
      (dT' == sysModules) = false → oT'.IsDictOf (strKind PySem.Challenge.rw_no0052_01.row.prog w) kT' → PyProof.V.FlatPairs PyData.str kT' (kdpD (dels c2 (Kd.map fun r => kn r.2))) →
      Dif dT' dd → Sep [L + 1 + 1 + 1 + 1 + 1, L + 1 + 1 + 1 + 1, L + 1 + 1 + 1, L + 1 + 1, L + 1, l, S, dO', x, dd, dT'] → OffD I [(L + 1 + 1 + 1 + 1 + 1, odue), (L + 1 + 1 + 1 + 1, oal), (L + 1 + 1 + 1, omom), (L + 1 + 1, oown'), (L + 1, opool), (l, op), (S, LCg.lst ys), (dO', oO'), (x, instObj 98 dd), (dd, tmObj w t9 dT'), (dT', oT')] → Q .next { s with heap := h', toks := tk' }) :
    wpAny (model PySem.Challenge.rw_no0052_01.row.prog w) ((atop dp un fr gd).deeper (lawEnv L fa cv)) (execs (dueBody.drop 2) (lawEnv L fa cv)) Q E s := by
  show wpAny _ ((atop dp un fr gd).deeper (envOfC (Str.ofString "law") ⟨_, _, _, _, _⟩ _ _ _)) (execs (_ :: _) (envOfC (Str.ofString "law") ⟨_, _, _, _, _⟩ _ _ _)) _ _ _
  have sp2 := sp
  have oI2 := oI1
  have oD2 := oDd
  simp only [Sep, AllD, and_true] at sp2
  simp only [OffD, and_true] at oI2 oD2
  obtain ⟨sa, sb, sc, sd, se, sf, sg, sh, si, sj⟩ := sp2
  walk_at "m_split"
  walk_at "m_to95"
  walk_at "m_split"
  (rename News h₀ L _ _ => N3)
  refine take_call (as := [L + 1 + 1 + 1 + 1 + 1, L + 1 + 1 + 1 + 1, L + 1 + 1 + 1, L + 1 + 1, L + 1, l, S, dO, x, dd, I, Dd]) (by k_asm) X T (by ktr_room) (by ktr_units) N3 (by k_mem) (by k_updF) (by k_mem) (Dif.ne (by assumption)) lT hT fT (Nat.le_trans G2.len (by decide)) G2.1 hK2 (by walk_at "m_sep") (by simp only [List.map_cons, List.map_nil]; walk_at "m_allin") fun h9 tk9 D9 ob9 kvs9 l9 ys9 n9 F9 U9 N9 a9 o9 q9 lo9 hd9 hf9 hs9 => ?_
  (try dsimp only at U9)
  have N10 : News h₀ L h9 [(l9, PySem.W.listOf ys9.toArray n9), (I, oI), (L + 1 + 1 + 1 + 1 + 1, odue), (L + 1 + 1 + 1 + 1, oal), (L + 1 + 1 + 1, omom), (L + 1 + 1, oown), (L + 1, opool), (l, op), (S, LCg.lst ys), (dO, oO), (x, instObj 98 dd), (dd, tmObj w t9 D9), (D9, ob9), (Dd, PySem.W.listOf yd.toArray nd9)] := newsTake U9 N9 (by walk_at "m_taken")
  clear U9 N9
  simp only [AllD, OffD, and_true] at a9 o9
  walk_at "m_split"
  clear N3
  walk_at "m_todue"
  (try dsimp only)
  refine due_c (I := I) (oI := oI) (odue := odue) (oal := oal) (omom := omom) (oown := oown) (opool := opool) (l := l) (op := op) (S := S) (ys := ys) (dO := dO) (oO := oO) (x := x) (dd := dd) (t9 := t9) (dT := D9) (oT := ob9) (Dd := Dd) F9 X T hdp hun (newsSub N10 (by walk_at "m_allin")) cD cO hDd lO hO fO G1 (by walk_at "m_sep") (by walk_at "m_sep") (by walk_at "m_sep") fun h' tk' m' oown' dO' oO' kO' e1 F' N' e2 e3 e4 e5 => ?_
  simp only [AllD, and_true] at e5
  walk_at "m_split"
  exact h h' tk' m' oown' dO' oO' kO' D9 ob9 kvs9 e1 F' N' e2 e3 e4 lo9 hd9 hf9 (Dif.symm (by assumption)) (by walk_at "m_sep") (by walk_at "m_sep")
end
section
theorem fillL8 : Mine.hd.heap_39 = Mine.hd.heap_39 ∧ PySem.Challenge.rw_no0052_01 = PySem.Challenge.rw_no0052_01 := by
  w_top off
  k_fill
  exact ⟨rfl, rfl⟩
local macro_rules | `(tactic| walk_at "m_tob") => `(tactic| repeat' ((fail_if_success (with_reducible show wpAny _ _ (execs [Stmt.If _ _ _ _, Stmt.Assign _ _ _] _) _ _ _)); (first | (k_unfold; (try dsimp only)) | (k_end; wrow_close) | walk1 | (dsimp only; walk1) | fail "no step")))
set_option maxHeartbeats 8000000 in
theorem due_walk {w : World} {dp un : Nat} {fr : Option (List Env)} {gd : Option (List Code)} {s : Shared} {h₀ : Heap} {L fa : Addr} {cv : Value} {m mg mb : Str → Option Value} {loose : List Str} {mean : ExcName → Option Value}
    {I l S dO x dd dT : Addr} {oI odue oal omom oown opool op oO oT : Obj} {ys : List Value} {ns : List Int} {t9 tm : Tok} {kO kT : List (Str × Value)} {c1 c2 : List (Str × Int)} {vd : Option Value} {mo : Int} {Q : Flow → Shared → Prop} {E : Value → Shared → Prop}
    (F : Fr h₀ L s.heap m) (X : (Mine.hd.heap_39 w.params).In h₀) (T : Top Mine.hd.view_39 loose mean mg mb h₀) (hdp : dp + 100 < recursionLimit) (hun : un + 1000 < cLine)
    (N : News h₀ L s.heap [(I, oI), (L + 1 + 1 + 1 + 1 + 1, odue), (L + 1 + 1 + 1 + 1, oal), (L + 1 + 1 + 1, omom), (L + 1 + 1, oown), (L + 1, opool), (l, op), (S, LCg.lst ys), (dO, oO), (x, instObj 98 dd), (dd, tmObj w t9 dT), (dT, oT)]) (hI : IntsAre ys ns) (hlen : ns.length ≤ 24)
    (cD : odue.data = .cell vd) (cM : omom.data = .cell (some (.int mo tm))) (cP : opool.data = .cell (some (.ref l))) (po : PoolObj S op)
    (cO : oown.data = .cell (some (.ref dO))) (cA : oal.data = .cell (some (.ref x)))
    (lO : (dO == sysModules) = false) (hO : oO.IsDictOf (strKind PySem.Challenge.rw_no0052_01.row.prog w) kO) (fO : PyProof.V.FlatPairs PyData.str kO (kdpD c1))
    (lT : (dT == sysModules) = false) (hT : oT.IsDictOf (strKind PySem.Challenge.rw_no0052_01.row.prog w) kT) (fT : PyProof.V.FlatPairs PyData.str kT (kdpD c2))
    (G1 : Good c1) (G2 : Good c2) (al : Alike c1 c2) (sp : Sep [L + 1 + 1 + 1 + 1 + 1, L + 1 + 1 + 1 + 1, L + 1 + 1 + 1, L + 1 + 1, L + 1, l, S, dO, x, dd, dT]) (oI1 : OffD I [(L + 1 + 1 + 1 + 1 + 1, odue), (L + 1 + 1 + 1 + 1, oal), (L + 1 + 1 + 1, omom), (L + 1 + 1, oown), (L + 1, opool), (l, op), (S, LCg.lst ys), (dO, oO), (x, instObj 98 dd), (dd, tmObj w t9 dT), (dT, oT)])
    (h : ∀ h' tk' m' odue' omom' oown' op' dO' oO' kO' dT' oT' kT' vd' mo' tm' c1' c2', odue'.data = .cell vd' → omom'.data = .cell (some (.int mo' tm')) → oown'.data = .cell (some (.ref dO')) → PoolObj S op' → Fr h₀ L h' m' → News h₀ L h' [(I, oI), (L + 1 + 1 + 1 + 1 + 1, odue'), (L + 1 + 1 + 1 + 1, oal), (L + 1 + 1 + 1, omom'), (L + 1 + 1, oown'), (L + 1, opool), (l, op'), (S, LCg.lst ys), (dO', oO'), (x, instObj 98 dd), (dd, tmObj w t9 dT'), (dT', oT')] →
      (dO' == sysModules) = false → oO'.IsDictOf (strKind PySem.Challenge.rw_no0052_01.row.prog w) kO' → PyProof.V.FlatPairs PyData.str kO' (kdpD c1') →
      (dT' == sysModules) = false → oT'.IsDictOf (strKind PySem.Challenge.rw_no0052_01.row.prog w) kT' → PyProof.V.FlatPairs PyData.str kT' (kdpD c2') → Good c1' → Good c2' → Alike c1' c2' →
      Dif dT' dd → Sep [L + 1 + 1 + 1 + 1 + 1, L + 1 + 1 + 1 + 1, L + 1 + 1 + 1, L + 1 + 1, L + 1, l, S, dO', x, dd, dT'] → OffD I [(L + 1 + 1 + 1 + 1 + 1, odue'), (L + 1 + 1 + 1 + 1, oal), (L + 1 + 1 + 1, omom'), (L + 1 + 1, oown'), (L + 1, opool), (l, op'), (S, LCg.lst ys), (dO', oO'), (x, instObj 98 dd), (dd, tmObj w t9 dT'), (dT', oT')] → Q .next { s with heap := h', toks := tk' }) :
    wpAny (model PySem.Challenge.rw_no0052_01.row.prog w) ((atop dp un fr gd).deeper (lawEnv L fa cv)) (execs dueBody (lawEnv L fa cv)) Q E s := by
  show wpAny _ ((atop dp un fr gd).deeper (envOfC (Str.ofString "law") ⟨_, _, _, _, _⟩ _ _ _)) (execs (_ :: _) (envOfC (Str.ofString "law") ⟨_, _, _, _, _⟩ _ _ _)) _ _ _
  have sp2 := sp
  have oI2 := oI1
  simp only [Sep, AllD, and_true] at sp2
  simp only [OffD, and_true] at oI2
  obtain ⟨sa, sb, sc, sd, se, sf, sg, sh, si, sj⟩ := sp2
  walk_at "m_split"
  walk_at "m_tocomp"
  rename_i r2 t2 h2 tk2 op2 rl2 po2 h3 o3 F3 N3 d3
  obtain ⟨mo2, tm2, d4⟩ : ∃ mo2 tm2, o3.data = .cell (some (.int mo2 tm2)) := ⟨_, _, d3⟩
  clear d3
  k_dflt (refine LCt.ListComp_T (F₀ := by k_asm) (by with_unfolding_all rfl) (by decide) (by rfl) (by decide) (by rfl) ?_)
  k_steps
  refine rows_call F3 X T (by ktr_room) (by ktr_units) N3 (by k_tabat) G1 fun h4 tk4 Dr n4 tl K F4 N4 o4 hA hP hS => ?_
  have hl6 : K.length ≤ 6 := by rw [hP.length_eq]; unfold rowsOf; rw [List.length_map]; exact G1.len
  have h6 : ∀ r ∈ K, r.2 < 6 := fun r hr => ((rowsOf_mem G1.1 G1.2).mp (hP.mem_iff.mp hr)).1
  have hsz : (refs tl).toArray.size = K.length := by simp [refs, hA.length]
  have N5 : News h₀ L h4 (((Dr, PySem.W.listOf (refs tl).toArray n4) :: (I, oI) :: [(L + 1 + 1 + 1 + 1 + 1, odue), (L + 1 + 1 + 1 + 1, oal), (L + 1 + 1 + 1, o3), (L + 1 + 1, oown), (L + 1, opool), (l, op2), (S, LCg.lst ys), (dO, oO), (x, instObj 98 dd), (dd, tmObj w t9 dT), (dT, oT)]) ++ tl) := newsSub N4 fun p hp => by
    rcases List.mem_append.mp hp with hp | hp
    · rcases List.mem_cons.mp hp with rfl | hp
      · exact .head _
      · exact .tail _ (List.mem_append_right _ hp)
    · exact .tail _ (List.mem_append_left _ hp)
  clear N4 N3
  refine LCt.CompSrcT.ledger rfl F4 N5 (.head _) (by rw [hsz, sizeLine_eq]; omega) fun g5 => ?_
  refine restT_inv (fun i ys' nw => nw = ((Dr, PySem.W.listOf (refs tl).toArray n4) :: (I, oI) :: [(L + 1 + 1 + 1 + 1 + 1, odue), (L + 1 + 1 + 1 + 1, oal), (L + 1 + 1 + 1, o3), (L + 1 + 1, oown), (L + 1, opool), (l, op2), (S, LCg.lst ys), (dO, oO), (x, instObj 98 dd), (dd, tmObj w t9 dT), (dT, oT)]) ++ tl ∧ StrsAre ys' (((K.take i).filter fun r => decide (r.1 ≤ mo2)).map fun r => kn r.2)) ?_ ?_ _ 0 [] _ (Nat.zero_add _) ⟨rfl, .nil⟩
  · rintro i ys' nw v I9 oI9 C oC D m₂ h9 tk9 E' hi ⟨rfl, htl⟩ hv hC hx F9 N9 off ne
    have hiK : i < K.length := by omega
    have hi' : i < tl.length := by rw [hA.length]; exact hiK
    obtain ⟨t1, t2, t3, ho⟩ := hA.get i hi' hiK
    have hv' : v = .ref tl[i].1 := by
      have : (refs tl)[i]? = some v := by simpa using hv
      simp [refs, hi'] at this
      exact this.symm
    subst hv'
    have et : K.take (i + 1) = K.take i ++ [K[i]] := by rw [List.take_add_one]; simp [hiK]
    have hN9 : ∀ p ∈ (I9, oI9) :: (C, oC) :: (D, LCg.lst ys') :: (((Dr, PySem.W.listOf (refs tl).toArray n4) :: (I, oI) :: [(L + 1 + 1 + 1 + 1 + 1, odue), (L + 1 + 1 + 1 + 1, oal), (L + 1 + 1 + 1, o3), (L + 1 + 1, oown), (L + 1, opool), (l, op2), (S, LCg.lst ys), (dO, oO), (x, instObj 98 dd), (dd, tmObj w t9 dT), (dT, oT)]) ++ tl), h9.get? p.1 = some p.2 ∧ p.1 ≠ L ∧ h₀.get? p.1 = none := fun p hp => N9 p hp
    have N10 : News h₀ L h9 [(tl[i].1, { cls := .type "tuple", data := .seq #[.int K[i].1 t1, .int (K[i].2 : Nat) t2, .str (kn K[i].2) t3] }), (I9, oI9), (C, oC), (D, LCg.lst ys'), (L + 1 + 1 + 1, o3)] := by
      intro p hp
      simp only [List.mem_cons, List.not_mem_nil, or_false] at hp
      rcases hp with rfl | rfl | rfl | rfl | rfl
      · rw [← ho]; exact hN9 _ (.tail _ (.tail _ (.tail _ (List.mem_append_right _ (List.getElem_mem hi')))))
      · exact hN9 _ (.head _)
      · exact hN9 _ (.tail _ (.head _))
      · exact hN9 _ (.tail _ (.tail _ (.head _)))
      · exact hN9 _ (.tail _ (.tail _ (.tail _ (by k_mem))))
    clear N9 N5
    k_steps
    · refine LCg.CompEnd.intro (by assumption) hN9 _ (fun p hp => hp) off (.inr ⟨_, .head _, rfl, _, rfl⟩) ⟨rfl, ?_⟩
      rw [et, List.filter_append, List.filter_cons_of_pos (by simpa using (by assumption : K[i].1 ≤ mo2)), List.filter_nil, List.map_append]
      exact StrsAre.append' htl (.cons _ _ .nil)
    · refine LCg.CompEnd.intro (by assumption) hN9 _ (fun p hp => hp) off (.inr ⟨_, .head _, rfl, _, rfl⟩) ⟨rfl, ?_⟩
      rw [et, List.filter_append, List.filter_cons_of_neg (by simpa using (by assumption : ¬ K[i].1 ≤ mo2)), List.filter_nil, List.append_nil]
      exact htl
  · rintro ys' nw ⟨rfl, htl⟩ D h9 tk9 F9 N9 off
    rw [List.take_of_length_le (by rw [hsz]; exact Nat.le_refl _)] at htl
    have N8 := newsSub N9 (b := (D, LCg.lst ys') :: (I, oI) :: [(L + 1 + 1 + 1 + 1 + 1, odue), (L + 1 + 1 + 1 + 1, oal), (L + 1 + 1 + 1, o3), (L + 1 + 1, oown), (L + 1, opool), (l, op2), (S, LCg.lst ys), (dO, oO), (x, instObj 98 dd), (dd, tmObj w t9 dT), (dT, oT)]) (by walk_at "m_allin")
    have o8 : OffD D ((I, oI) :: [(L + 1 + 1 + 1 + 1 + 1, odue), (L + 1 + 1 + 1 + 1, oal), (L + 1 + 1 + 1, o3), (L + 1 + 1, oown), (L + 1, opool), (l, op2), (S, LCg.lst ys), (dO, oO), (x, instObj 98 dd), (dd, tmObj w t9 dT), (dT, oT)]) := offD_of fun p hp => off1_mem off p (.tail _ (List.mem_append_left tl hp))
    clear N9 off N5
    have o9 := o8
    simp only [OffD, and_true] at o9
    walk_at "m_split"
    walk_at "m_tob"
    (rename Fr h₀ L _ _ => F6)
    (rename News h₀ L _ _ => N6)
    rename_i h5 od5 e5
    have hK : ∀ K', K'.Perm (adl c1 mo2 6) → K'.Pairwise (fun a b => lx a b = true) → K' = K.filter fun r => decide (r.1 ≤ mo2) := fun K' p' h' => due_eq G1.1 G1.2 hP hS p' h'
    have hK2 : ∀ K', K'.Perm (adl c2 mo2 6) → K'.Pairwise (fun a b => lx a b = true) → K' = K.filter fun r => decide (r.1 ≤ mo2) := fun K' p' h' => hK K' (by rw [al.adl]; exact p') h'
    have hk : ∀ x ∈ (K.filter fun r => decide (r.1 ≤ mo2)).map (fun r => kn r.2), x ∈ kinds := fun x hx => by
      obtain ⟨r, hr, rfl⟩ := List.mem_map.mp hx
      exact kn_mem (h6 r (List.mem_filter.mp hr).1)
    refine due_b (I := I) (oI := oI) (odue := od5) (oal := oal) (omom := o3) (oown := oown) (opool := opool) (l := l) (op := op2) (S := S) (ys := ys) (dO := dO) (oO := oO) (x := x) (dd := dd) (t9 := t9) (dT := dT) (oT := oT) (Dd := D) (yd := ys') F6 X T hdp hun (newsSub N6 (by walk_at "m_allin")) e5 cO cA d4 htl hK hK2 hk lO hO fO lT hT fT G1 G2 sp (by walk_at "m_sep") (by walk_at "m_sep") fun h' tk' m' oown' dO' oO' kO' dT' oT' kT' e1 F' N' e2 e3 e4 e6 e7 e8 e9 ea eb => ?_
    exact h h' tk' m' od5 o3 oown' op2 dO' oO' kO' dT' oT' kT' (some (.ref D)) mo2 tm2 _ _ e5 d4 e1 po2 F' N' e2 e3 e4 e6 e7 e8 (G1.filter _) (G2.dels _) (al.dels _) e9 ea eb
end
section
local macro_rules | `(tactic| walk_at "m_pad") => `(tactic| skip)
theorem fillL9 : Mine.hd.heap_39 = Mine.hd.heap_39 ∧ PySem.Challenge.rw_no0052_01 = PySem.Challenge.rw_no0052_01 := by
  w_top off
  k_fill
  exact ⟨rfl, rfl⟩
local macro_rules | `(tactic| walk_at "m_turn9") => `(tactic| repeat' ((fail_if_success (with_reducible show wpAny _ _ (execs [Stmt.Assign _ _ _, Stmt.If _ _ _ _, Stmt.If _ _ _ _] _) _ _ _)); (fail_if_success (with_reducible show wpAny _ _ (execs [Stmt.Assign _ _ _, Stmt.Assign _ _ _, Stmt.If _ _ _ _, Stmt.Assign _ _ _] _) _ _ _)); (first | (k_unfold; (try dsimp only)) | (k_end; wrow_close) | walk1 | (dsimp only; walk1) | fail "no step")))
set_option maxHeartbeats 8000000 in
theorem turn_walk {w : World} {dp un : Nat} {fr : Option (List Env)} {gd : Option (List Code)} {s : Shared} {h₀ : Heap} {L fa : Addr} {cv : Value} {m mg mb : Str → Option Value} {loose : List Str} {mean : ExcName → Option Value}
    {I l S dO x dd dT : Addr} {oI odue oal omom oown opool op oO oT : Obj} {ys : List Value} {ns : List Int} {t9 tm : Tok} {kO kT : List (Str × Value)} {c1 c2 : List (Str × Int)} {vd : Option Value} {mo : Int} {Q : Flow → Shared → Prop} {E : Value → Shared → Prop}
    (F : Fr h₀ L s.heap m) (X : (Mine.hd.heap_39 w.params).In h₀) (T : Top Mine.hd.view_39 loose mean mg mb h₀) (hdp : dp + 100 < recursionLimit) (hun : un + 1000 < cLine)
    (N : News h₀ L s.heap ((I, oI) :: [(L + 1 + 1 + 1 + 1 + 1, odue), (L + 1 + 1 + 1 + 1, oal), (L + 1 + 1 + 1, omom), (L + 1 + 1, oown), (L + 1, opool), (l, op), (S, LCg.lst ys), (dO, oO), (x, instObj 98 dd), (dd, tmObj w t9 dT), (dT, oT)])) (hI : IntsAre ys ns) (hlen : ns.length ≤ 24)
    (cD : odue.data = .cell vd) (cM : omom.data = .cell (some (.int mo tm))) (cP : opool.data = .cell (some (.ref l))) (po : PoolObj S op)
    (cO : oown.data = .cell (some (.ref dO))) (cA : oal.data = .cell (some (.ref x)))
    (lO : (dO == sysModules) = false) (hO : oO.IsDictOf (strKind PySem.Challenge.rw_no0052_01.row.prog w) kO) (fO : PyProof.V.FlatPairs PyData.str kO (kdpD c1))
    (lT : (dT == sysModules) = false) (hT : oT.IsDictOf (strKind PySem.Challenge.rw_no0052_01.row.prog w) kT) (fT : PyProof.V.FlatPairs PyData.str kT (kdpD c2))
    (G1 : Good c1) (G2 : Good c2) (al : Alike c1 c2) (sp : Sep [L + 1 + 1 + 1 + 1 + 1, L + 1 + 1 + 1 + 1, L + 1 + 1 + 1, L + 1 + 1, L + 1, l, S, dO, x, dd, dT]) (oI1 : OffD I [(L + 1 + 1 + 1 + 1 + 1, odue), (L + 1 + 1 + 1 + 1, oal), (L + 1 + 1 + 1, omom), (L + 1 + 1, oown), (L + 1, opool), (l, op), (S, LCg.lst ys), (dO, oO), (x, instObj 98 dd), (dd, tmObj w t9 dT), (dT, oT)]) :
    wpAny (model PySem.Challenge.rw_no0052_01.row.prog w) ((atop dp un fr gd).deeper (lawEnv L fa cv)) (execs turnBody (lawEnv L fa cv)) (TurnEnd h₀ L I oI [] (fun _ nx => Inv w L l S x dd t9 ys nx) s Q) E s := by
  show wpAny _ ((atop dp un fr gd).deeper (envOfC (Str.ofString "law") ⟨_, _, _, _, _⟩ _ _ _)) (execs (_ :: _) (envOfC (Str.ofString "law") ⟨_, _, _, _, _⟩ _ _ _)) _ _ _
  have sp2 := sp
  have oI2 := oI1
  simp only [Sep, AllD, and_true] at sp2
  simp only [OffD, and_true] at oI2
  obtain ⟨sa, sb, sc, sd, se, sf, sg, sh, si, sj⟩ := sp2
  walk_at "m_split"
  walk_at "m_turn9"
  · (try dsimp only)
    (rename Fr h₀ L _ _ => F8)
    (rename News h₀ L _ _ => N8)
    refine tail_end (l := l) (S := S) (dO := dO) (x := x) (dd := dd) (t9 := t9) (I := I) (oI := oI) F8 X T hdp hun (newsSub N8 (by walk_at "m_allin")) ⟨_, _, rfl⟩ cD cM cP (by assumption) cO cA (by assumption) (by assumption) (by assumption) (by assumption) (by assumption) (by assumption) (Dif.symm (by assumption)) (G1.put (kn_mem (by omega))) (G2.wa (kn_mem (by omega)) _) (al.put _ _) (by walk_at "m_sep") (by walk_at "m_sep")
  · (try dsimp only)
    (rename Fr h₀ L _ _ => F8)
    (rename News h₀ L _ _ => N8)
    refine tail_end (l := l) (S := S) (dO := dO) (x := x) (dd := dd) (t9 := t9) (I := I) (oI := oI) F8 X T hdp hun (newsSub N8 (by walk_at "m_allin")) ⟨_, _, rfl⟩ cD cM cP (by assumption) cO cA (by assumption) (by assumption) (by assumption) (by assumption) (by assumption) (by assumption) (Dif.symm (by assumption)) (G1.del _) (G2.wa (kn_mem (by omega)) _) (al.del _) (by walk_at "m_sep") (by walk_at "m_sep")
  · (try dsimp only)
    (rename Fr h₀ L _ _ => F8)
    (rename News h₀ L _ _ => N8)
    (rename PoolObj S _ => po9)
    refine due_walk (I := I) (oI := oI) (odue := odue) (oal := oal) (omom := omom) (oown := oown) (opool := opool) (l := l) (S := S) (ys := ys) (dO := dO) (oO := oO) (x := x) (dd := dd) (t9 := t9) (dT := dT) (oT := oT) F8 X T hdp hun (newsSub N8 (by walk_at "m_allin")) hI hlen cD cM cP po9 cO cA lO hO fO lT hT fT G1 G2 al sp (by walk_at "m_sep") fun h' tk' m' odue' omom' oown' op' dO' oO' kO' dT' oT' kT' vd' mo' tm' c1' c2' e1 e2 e3 e4 F' N' e5 e6 e7 e8 e9 ea eb ec ed ee ef eg => ?_
    clear F8 N8
    walk_at "m_turn9"
    refine tail_end (l := l) (S := S) (dO := dO') (x := x) (dd := dd) (t9 := t9) (I := I) (oI := oI) F' X T hdp hun N' ⟨_, _, rfl⟩ e1 e2 cP e4 e3 cA e5 e6 e7 e8 e9 ea ee eb ec ed ef eg
end
section
local macro_rules | `(tactic| walk_at "m_pad") => `(tactic| skip)
theorem fillLA : Mine.hd.heap_39 = Mine.hd.heap_39 ∧ PySem.Challenge.rw_no0052_01 = PySem.Challenge.rw_no0052_01 := by
  w_top off
  k_fill
  exact ⟨rfl, rfl⟩
local macro_rules | `(tactic| walk_at "m_tofor") => `(tactic| repeat' ((fail_if_success (with_reducible show wpAny _ _ (exec (Stmt.For _ _ _ _ _) _) _ _ _)); (first | (k_unfold; (try dsimp only)) | (k_end; wrow_close) | walk1 | (dsimp only; walk1) | fail "no step")))
local macro_rules | `(tactic| walk_at "m_toiter") => `(tactic| repeat' ((fail_if_success (with_reducible show wpAny _ _ (pyIter _) _ _ _)); (first | (k_unfold; (try dsimp only)) | (k_end; wrow_close) | walk1 | (dsimp only; walk1) | fail "no step")))
set_option maxHeartbeats 8000000 in
theorem law_loop {w : World} {dp un : Nat} {fr : Option (List Env)} {gd : Option (List Code)} {s : Shared} {h₀ : Heap} {L fa : Addr} {cv : Value} {m0 mg mb : Str → Option Value} {loose : List Str} {mean : ExcName → Option Value}
    {l S x dd : Addr} {ys : List Value} {ns : List Int} {t9 : Tok} {nx : List (Addr × Obj)} {Q : Flow → Shared → Prop}
    (F : Fr h₀ L s.heap (fun y => if y = Str.ofString "script" then some (.ref S) else m0 y)) (X : (Mine.hd.heap_39 w.params).In h₀) (T : Top Mine.hd.view_39 loose mean mg mb h₀) (hdp : dp + 100 < recursionLimit) (hun : un + 1000 < cLine)
    (N : News h₀ L s.heap nx) (inv : Inv w L l S x dd t9 ys nx) (hI : IntsAre ys ns) (hlen : ns.length ≤ 24)
    (h : ∀ h' tk' m' op opool, opool.data = .cell (some (.ref l)) → PoolObj S op → Dif l (L + 1) → Dif S (L + 1) → Dif l S → Fr h₀ L h' m' → News h₀ L h' [(L + 1, opool), (l, op), (S, LCg.lst ys)] → wpAny (model PySem.Challenge.rw_no0052_01.row.prog w) ((atop dp un fr gd).deeper (lawEnv L fa cv)) (execs (lawBody.drop 4) (lawEnv L fa cv)) Q (fun _ _ => False) { s with heap := h', toks := tk' }) :
    wpAny (model PySem.Challenge.rw_no0052_01.row.prog w) ((atop dp un fr gd).deeper (lawEnv L fa cv)) (execs (lawBody.drop 3) (lawEnv L fa cv)) Q (fun _ _ => False) s := by
  have inv0 := inv
  obtain ⟨odue, oal, omom, oown, opool, op, oO, oT, dO, dT, kO, kT, c1, c2, vd, mo, tm, rfl, e1, e2, e3, e4, e5, e6, e7, e8, e9, ea, eb, ec, ed, ee, ef, sp⟩ := inv
  have hlen2 : ys.length = ns.length := hI.length
  show wpAny _ ((atop dp un fr gd).deeper (envOfC (Str.ofString "law") ⟨_, _, _, _, _⟩ _ _ _)) (execs (_ :: _) (envOfC (Str.ofString "law") ⟨_, _, _, _, _⟩ _ _ _)) _ _ _
  walk_at "m_tofor"
  (with_unfolding_all refine For_invVF F rfl rfl ?_)
  walk_at "m_toiter"
  (rename IsRange _ _ _ _ _ _ _ _ => hr)
  (rename Fr h₀ L _ _ => F1)
  (rename News h₀ L _ _ => N1)
  have e0 : (6 : Int) + (ns.length : Int).fdiv 2 = ((6 + ns.length / 2 : Nat) : Int) := by
    rw [Int.fdiv_eq_ediv_of_nonneg _ (by decide)]; omega
  rw [e0] at hr
  (with_unfolding_all refine loop_range (n := 6 + ns.length / 2) (fun _ _ nx => Inv w L l S x dd t9 ys nx) rfl hr (small_one (by decide) (by decide) (by omega) (by omega)) (by rw [rangeSize_nat]; omega) F1 N1 inv0 ?_ ?_)
  · rintro I i t m₁ nx₁ h₂ tk₂ oI hi inv2 off F₂ N₂
    obtain ⟨odue, oal, omom, oown, opool, op, oO, oT, dO, dT, kO, kT, c1, c2, vd, mo, tm, rfl, e1, e2, e3, e4, e5, e6, e7, e8, e9, ea, eb, ec, ed, ee, ef, sp⟩ := inv2
    exact turn_walk F₂ X T hdp hun N₂ hI hlen e1 e3 e5 e6 e4 e2 e7 e8 e9 ea eb ec ed ee ef sp (offD_off1 off)
  · rintro m₁ nx₁ h₂ tk₂ inv2 F₂ N₂
    obtain ⟨odue, oal, omom, oown, opool, op, oO, oT, dO, dT, kO, kT, c1, c2, vd, mo, tm, rfl, e1, e2, e3, e4, e5, e6, e7, e8, e9, ea, eb, ec, ed, ee, ef, sp⟩ := inv2
    simp only [Sep, AllD, and_true] at sp
    obtain ⟨sa, sb, sc, sd, se, sf, sg, sh, si, sj⟩ := sp
    refine h h₂ tk₂ m₁ op opool e5 e6 se.1 se.2.1 (Dif.symm sf.1) F₂ (newsSub N₂ (by walk_at "m_allin"))
end
section
theorem fillLB : Mine.hd.heap_39 = Mine.hd.heap_39 ∧ PySem.Challenge.rw_no0052_01 = PySem.Challenge.rw_no0052_01 := by
  w_top off
  k_fill
  exact ⟨rfl, rfl⟩
local macro_rules | `(tactic| walk_at "m_toassign") => `(tactic| repeat' ((fail_if_success (with_reducible show wpAny _ _ (exec (Stmt.Assign _ (PySem.Expr.ListComp _ _ _ _) _) _) _ _ _)); (first | (k_unfold; (try dsimp only)) | (k_end; wrow_close) | walk1 | (dsimp only; walk1) | fail "no step")))
local macro_rules | `(tactic| walk_at "m_tosrc") => `(tactic| repeat' ((fail_if_success (with_reducible show LCg.CompSrc _ _ _ _ _ _ _ _ _ _ _ _ _ _)); (first | (k_unfold; (try dsimp only)) | (k_end; wrow_close) | walk1 | (dsimp only; walk1) | fail "no step")))
set_option maxHeartbeats 8000000 in
theorem some_walk {w : World} {dp un : Nat} {fr : Option (List Env)} {gd : Option (List Code)} {s : Shared} {h₀ : Heap} {L fa : Addr} {cv : Value} {m mg mb : Str → Option Value} {loose : List Str} {mean : ExcName → Option Value}
    {l S : Addr} {opool op : Obj} {ys : List Value} {ns : List Int} {Q : Flow → Shared → Prop}
    (F : Fr h₀ L s.heap m) (X : (Mine.hd.heap_39 w.params).In h₀) (T : Top Mine.hd.view_39 loose mean mg mb h₀) (hdp : dp + 100 < recursionLimit) (hun : un + 1000 < cLine)
    (N : News h₀ L s.heap [(L + 1, opool), (l, op), (S, LCg.lst ys)]) (hI : IntsAre ys ns) (hlen : ns.length ≤ 24)
    (cP : opool.data = .cell (some (.ref l))) (po : PoolObj S op) (d1 : Dif l (L + 1)) (d2 : Dif S (L + 1)) (d3 : Dif l S)
    (h : ∀ h' tk' op' D vs os, Fr h₀ L h' (fun z => if z = Str.ofString "some" then some (.ref D) else m z) → News h₀ L h' [(D, LCg.lst vs), (L + 1, opool), (l, op'), (S, LCg.lst ys)] → PoolObj S op' → OptsAre vs os → os.length = 4 → OffD D [(L + 1, opool), (l, op'), (S, LCg.lst ys)] →
      wpAny (model PySem.Challenge.rw_no0052_01.row.prog w) ((atop dp un fr gd).deeper (lawEnv L fa cv)) (execs (lawBody.drop 5) (lawEnv L fa cv)) Q (fun _ _ => False) { s with heap := h', toks := tk' }) :
    wpAny (model PySem.Challenge.rw_no0052_01.row.prog w) ((atop dp un fr gd).deeper (lawEnv L fa cv)) (execs (lawBody.drop 4) (lawEnv L fa cv)) Q (fun _ _ => False) s := by
  show wpAny _ ((atop dp un fr gd).deeper (envOfC (Str.ofString "law") ⟨_, _, _, _, _⟩ _ _ _)) (execs (_ :: _) (envOfC (Str.ofString "law") ⟨_, _, _, _, _⟩ _ _ _)) _ _ _
  have d4 := Dif.symm d3
  walk_at "m_toassign"
  k_dflt (refine LCg.Assign_ListComp_U (F₀ := by k_asm) (by rfl) (by with_unfolding_all rfl) (by with_unfolding_all rfl) (by decide) (by rfl) (by decide) (by rfl) (by rfl) (by rfl) ?_)
  walk_at "m_tosrc"
  (rename IsRange _ _ _ _ _ _ _ _ => hr)
  (rename Fr h₀ L _ _ => F1)
  (rename News h₀ L _ _ => N1)
  refine LCg.CompSrc.range (n := 4) rfl F1 N1 hr (by decide) (by decide) (by rw [sizeLine_eq]; decide) fun g => ?_
  refine restU_inv (fun i ys' nw => ∃ op' os, nw = [(L + 1, opool), (l, op'), (S, LCg.lst ys)] ∧ PoolObj S op' ∧ OptsAre ys' os ∧ os.length = i) ?_ ?_ _ 0 [] _ (Nat.zero_add _) ⟨op, [], rfl, po, .nil, rfl⟩
  · rintro i ys' nw v I9 oI9 C oC D m₂ h9 tk9 E' hi ⟨op', os, rfl, po', hos, hl⟩ ⟨t, rfl⟩ hC hx F9 N9 off ne
    have off2 := off.mem
    obtain ⟨a1, a2, a3⟩ := off2 (l, op') (.tail _ (.head _))
    have b1 : Dif l I9 := a1
    have b2 : Dif l C := a2
    have b3 : Dif l D := a3
    clear off2 a1 a2 a3 F1 N1
    k_steps
    all_goals (rename PoolObj S _ => po9)
    all_goals (rename Fr h₀ L _ _ => F8)
    all_goals (rename News h₀ L _ _ => N8)
    · exact LCg.CompEnd.intro F8 N8 _ (fun p hp => hp) off trivial ⟨_, os ++ [none], rfl, po9, hos.snoc (optVal_none rfl), by simp [hl]⟩
    · exact LCg.CompEnd.intro F8 N8 _ (fun p hp => hp) off trivial ⟨_, os ++ [some _], rfl, po9, hos.snoc (optVal_some rfl), by simp [hl]⟩
  · rintro ys' nw ⟨op', os, rfl, po', hos, hl⟩ D h9 tk9 F9 N9 off
    clear F1 N1
    (try dsimp only)
    exact h h9 tk9 op' D ys' os F9 N9 po' hos hl (offD_off1 off)
end
section
local macro_rules | `(tactic| walk_at "m_pad") => `(tactic| skip)
theorem fillLC : Mine.hd.heap_39 = Mine.hd.heap_39 ∧ PySem.Challenge.rw_no0052_01 = PySem.Challenge.rw_no0052_01 := by
  w_top off
  k_fill
  exact ⟨rfl, rfl⟩
theorem eFold_spec : ∀ (os : List (Option Int)) (acc : Option Int), match os.foldl eStep acc with
    | none => acc = none ∧ os.filterMap id = []
    | some m => (acc = some m ∨ m ∈ os.filterMap id) ∧ (∀ b ∈ os.filterMap id, m ≤ b) ∧ (∀ k, acc = some k → m ≤ k)
  | [], acc => by
    cases acc with
    | none => exact ⟨rfl, rfl⟩
    | some m =>
      refine ⟨.inl rfl, ?_, ?_⟩
      · intro b h; cases h
      · intro k e; cases e; exact Int.le_refl _
  | o :: os, acc => by
    have ih := eFold_spec os (eStep acc o)
    rw [List.foldl_cons]
    cases hf : os.foldl eStep (eStep acc o) with
    | none =>
      rw [hf] at ih
      obtain ⟨e, e2⟩ := ih
      cases o with
      | none => exact ⟨e, by simpa using e2⟩
      | some n =>
        exfalso
        cases acc with
        | none => cases e
        | some k => simp only [eStep] at e; split at e <;> cases e
    | some m =>
      rw [hf] at ih
      obtain ⟨h1, h2, h3⟩ := ih
      cases o with
      | none => exact ⟨by simpa [eStep] using h1, by simpa using h2, by simpa [eStep] using h3⟩
      | some n =>
        have e : (some n :: os).filterMap id = n :: os.filterMap id := rfl
        rw [e]
        cases acc with
        | none =>
          have hn : m ≤ n := h3 n rfl
          refine ⟨.inr ?_, ?_, fun k q => nomatch q⟩
          · rcases h1 with q | q
            · injection q with q; subst q; exact .head _
            · exact .tail _ q
          · intro b hb
            rcases List.mem_cons.mp hb with rfl | hb
            · exact hn
            · exact h2 b hb
        | some k =>
          by_cases hlt : n < k
          · have es : eStep (some k) (some n) = some n := by simp [eStep, hlt]
            rw [es] at h1 h3
            have hn : m ≤ n := h3 n rfl
            refine ⟨.inr ?_, ?_, fun k' q => by injection q with q; omega⟩
            · rcases h1 with q | q
              · injection q with q; subst q; exact .head _
              · exact .tail _ q
            · intro b hb
              rcases List.mem_cons.mp hb with rfl | hb
              · exact hn
              · exact h2 b hb
          · have es : eStep (some k) (some n) = some k := by simp [eStep, hlt]
            rw [es] at h1 h3
            have hk : m ≤ k := h3 k rfl
            refine ⟨?_, ?_, fun k' q => by injection q with q; omega⟩
            · rcases h1 with q | q
              · exact .inl q
              · exact .inr (.tail _ q)
            · intro b hb
              rcases List.mem_cons.mp hb with rfl | hb
              · omega
              · exact h2 b hb
theorem eFold_nil {os : List (Option Int)} (h : os.filterMap id = []) : eFold os = none := by
  have := eFold_spec os none
  unfold eFold
  cases hf : os.foldl eStep none with
  | none => rfl
  | some m =>
    rw [hf] at this
    rcases this.1 with q | q
    · cases q
    · rw [h] at q; cases q
theorem eFold_least {os : List (Option Int)} {a : Int} {r : List Int} (hp : (a :: r).Perm (os.filterMap id)) (hs : (a :: r).Pairwise (· ≤ ·)) : eFold os = some a := by
  have := eFold_spec os none
  unfold eFold
  have ha : a ∈ os.filterMap id := hp.mem_iff.mp (.head _)
  cases hf : os.foldl eStep none with
  | none =>
    rw [hf] at this
    rw [this.2] at ha; cases ha
  | some m =>
    rw [hf] at this
    obtain ⟨h1, h2, _⟩ := this
    have hm : m ∈ os.filterMap id := by
      rcases h1 with q | q
      · cases q
      · exact q
    have l1 : m ≤ a := h2 a ha
    have l2 : a ≤ m := by
      rcases List.mem_cons.mp (hp.mem_iff.mpr hm) with e | q
      · exact Int.le_of_eq e.symm
      · exact (List.pairwise_cons.mp hs).1 m q
    exact congrArg some (Int.le_antisymm l1 l2)
section
variable {w : World} {dp un : Nat} {fr : Option (List Env)} {gd : Option (List Code)} {s : Shared} {h₀ : Heap} {L : Addr} {m mg mb : Str → Option Value} {loose : List Str} {mean : ExcName → Option Value}
    {news : List (Addr × Obj)} {l : Addr} {vs : List Value} {os : List (Option Int)} {Q : Value → Shared → Prop} {E : Value → Shared → Prop}
theorem earliest_none (F : Fr h₀ L s.heap m) (X : (Mine.hd.heap_39 w.params).In h₀) (T : Top Mine.hd.view_39 loose mean mg mb h₀) (hdp : dp + 2 < recursionLimit) (hun : un + 100 < cLine) (N : News h₀ L s.heap news)
    (hl : (l, LCg.lst vs) ∈ news) (ho : OptsAre vs os) (he : eFold os = none) (h : ∀ h' tk', Fr h₀ L h' m → News h₀ L h' news → Q .none { s with heap := h', toks := tk' }) :
    wpAny (model PySem.Challenge.rw_no0052_01.row.prog w) (atop dp un fr gd) (call (.ref 22) [.ref l]) Q E s :=
  earliest_walk F X T hdp hun ⟨_, (N _ hl).1, rfl, _, rfl⟩ ho N fun h' tk' v F' N' o => by
    rw [he] at o
    have o' : v = .none := o
    subst o'
    exact h h' tk' F' N'
theorem earliest_some {n : Int} (F : Fr h₀ L s.heap m) (X : (Mine.hd.heap_39 w.params).In h₀) (T : Top Mine.hd.view_39 loose mean mg mb h₀) (hdp : dp + 2 < recursionLimit) (hun : un + 100 < cLine) (N : News h₀ L s.heap news)
    (hl : (l, LCg.lst vs) ∈ news) (ho : OptsAre vs os) (he : eFold os = some n) (h : ∀ h' tk' t, Fr h₀ L h' m → News h₀ L h' news → Q (.int n t) { s with heap := h', toks := tk' }) :
    wpAny (model PySem.Challenge.rw_no0052_01.row.prog w) (atop dp un fr gd) (call (.ref 22) [.ref l]) Q E s :=
  earliest_walk F X T hdp hun ⟨_, (N _ hl).1, rfl, _, rfl⟩ ho N fun h' tk' v F' N' o => by
    rw [he] at o
    obtain ⟨t, rfl⟩ := o
    exact h h' tk' t F' N'
end
local macro_rules | `(tactic| walk_at "m_toassign") => `(tactic| repeat' ((fail_if_success (with_reducible show wpAny _ _ (exec (Stmt.Assign _ (PySem.Expr.ListComp _ _ _ _) _) _) _ _ _)); (first | (k_unfold; (try dsimp only)) | (k_end; wrow_close) | walk1 | (dsimp only; walk1) | fail "no step")))
local macro_rules | `(tactic| walk_at "m_tosrcT") => `(tactic| repeat' ((fail_if_success (with_reducible show LCt.CompSrcT _ _ _ _ _ _ _ _ _ _ _ _ _ _ _)); (first | (k_unfold; (try dsimp only)) | (k_end; wrow_close) | walk1 | (dsimp only; walk1) | fail "no step")))
set_option maxHeartbeats 8000000 in
theorem left_walk {w : World} {dp un : Nat} {fr : Option (List Env)} {gd : Option (List Code)} {s : Shared} {h₀ : Heap} {L fa : Addr} {cv : Value} {m mg mb : Str → Option Value} {loose : List Str} {mean : ExcName → Option Value}
    {l S D : Addr} {opool op : Obj} {ys vs : List Value} {os : List (Option Int)} {Q : Flow → Shared → Prop}
    (F : Fr h₀ L s.heap (fun z => if z = Str.ofString "some" then some (.ref D) else m z)) (X : (Mine.hd.heap_39 w.params).In h₀) (T : Top Mine.hd.view_39 loose mean mg mb h₀) (hdp : dp + 100 < recursionLimit) (hun : un + 1000 < cLine)
    (N : News h₀ L s.heap [(D, LCg.lst vs), (L + 1, opool), (l, op), (S, LCg.lst ys)]) (hos : OptsAre vs os) (ho4 : os.length = 4)
    (h : ∀ h' tk' D2 xs, Fr h₀ L h' (fun z => if z = Str.ofString "left" then some (.ref D2) else if z = Str.ofString "some" then some (.ref D) else m z) → News h₀ L h' [(D2, LCg.lst xs), (D, LCg.lst vs), (L + 1, opool), (l, op), (S, LCg.lst ys)] → IntsAre xs (os.filterMap id) → OffD D2 [(D, LCg.lst vs), (L + 1, opool), (l, op), (S, LCg.lst ys)] →
      wpAny (model PySem.Challenge.rw_no0052_01.row.prog w) ((atop dp un fr gd).deeper (lawEnv L fa cv)) (execs (lawBody.drop 6) (lawEnv L fa cv)) Q (fun _ _ => False) { s with heap := h', toks := tk' }) :
    wpAny (model PySem.Challenge.rw_no0052_01.row.prog w) ((atop dp un fr gd).deeper (lawEnv L fa cv)) (execs (lawBody.drop 5) (lawEnv L fa cv)) Q (fun _ _ => False) s := by
  show wpAny _ ((atop dp un fr gd).deeper (envOfC (Str.ofString "law") ⟨_, _, _, _, _⟩ _ _ _)) (execs (_ :: _) (envOfC (Str.ofString "law") ⟨_, _, _, _, _⟩ _ _ _)) _ _ _
  have hvl : vs.length = 4 := hos.length.trans ho4
  walk_at "m_toassign"
  k_dflt (refine LCt.Assign_ListComp_T (F₀ := by k_asm) (by rfl) (by with_unfolding_all rfl) (by with_unfolding_all rfl) (by decide) (by rfl) (by decide) (by rfl) (by rfl) (by rfl) ?_)
  walk_at "m_tosrcT"
  refine LCt.CompSrcT.ledger rfl F N (.head _) (by rw [List.size_toArray, hvl, sizeLine_eq]; decide) fun g5 => ?_
  refine restT_inv (fun i ys' nw => nw = [(D, LCg.lst vs), (L + 1, opool), (l, op), (S, LCg.lst ys)] ∧ IntsAre ys' ((os.take i).filterMap id)) ?_ ?_ _ 0 [] _ (Nat.zero_add _) ⟨rfl, .nil⟩
  · rintro i ys' nw v I9 oI9 C oC D9 m₂ h9 tk9 E' hi ⟨rfl, htl⟩ hv hC hx F9 N9 off ne
    have hiv : i < vs.length := by simpa using hi
    have hio : i < os.length := by rw [← hos.length]; exact hiv
    have hvo : OptVal v os[i] := by
      have e : vs[i]? = some v := by simpa using hv
      have e2 : v = vs[i] := by simp [hiv] at e; exact e.symm
      rw [e2]; exact hos.get i hiv hio
    have et : (os.take (i + 1)).filterMap id = (os.take i).filterMap id ++ (os[i]).toList := by
      rw [List.take_add_one, List.getElem?_eq_getElem hio, Option.toList_some, List.filterMap_append]
      cases os[i] <;> rfl
    clear F N
    cases hoi : os[i] with
    | none =>
      rw [hoi] at hvo et
      cases hvo
      k_steps
      exact LCg.CompEnd.intro (by assumption) N9 _ (fun p hp => hp) off (.inr ⟨_, .head _, rfl, _, rfl⟩) ⟨rfl, by rw [et]; simpa using htl⟩
    | some n =>
      rw [hoi] at hvo et
      obtain ⟨t, rfl⟩ := hvo
      k_steps
      exact LCg.CompEnd.intro (by assumption) N9 _ (fun p hp => hp) off (.inr ⟨_, .head _, rfl, _, rfl⟩) ⟨rfl, by rw [et]; exact htl.append (.cons _ _ .nil)⟩
  · rintro ys' nw ⟨rfl, htl⟩ D9 h9 tk9 F9 N9 off
    (try dsimp only)
    rw [List.take_of_length_le (by rw [← hos.length]; simp)] at htl
    exact h h9 tk9 D9 ys' F9 N9 htl (offD_off1 off)
end
section
theorem fillLD : Mine.hd.heap_39 = Mine.hd.heap_39 ∧ PySem.Challenge.rw_no0052_01 = PySem.Challenge.rw_no0052_01 := by
  w_top off
  k_fill
  exact ⟨rfl, rfl⟩
theorem ints_dat {news : List (Addr × Obj)} : ∀ {vs : List Value} {xs : List Int}, IntsAre vs xs → DatAll news vs (xs.map Dat.int)
  | _, _, .nil => .nil
  | _, _, .cons x t r => .cons (.int _ _) (ints_dat r)
theorem ints_ne_nil {prog : Program} {w : World} {A : Around} {E : Value → Shared → Prop} {s : Shared} {h₀ : Heap} {L a b : Addr} {news : List (Addr × Obj)} {xs : List Value} {n : Int} {r : List Int} {kb : Nat} {Q : Value → Shared → Prop}
    (N : News h₀ L s.heap news) (ma : (a, LCg.lst xs) ∈ news) (hI : IntsAre xs (n :: r)) (mb : (b, PySem.W.listOf #[] kb) ∈ news) (hu : A.units + 64 < cLine) (h : Q (.bool true) s) :
    wpAny (model prog w) A (compareOp .NotEq (.ref a) (.ref b)) Q E s :=
  dat_ne_nil N ma (ints_dat hI) mb (fun d hd => by obtain ⟨x, _, rfl⟩ := List.mem_map.mp hd; rfl) (by simp) hu h
theorem sorted_least {prog : Program} {w : World} {A : Around} {E : Value → Shared → Prop} {s : Shared} {h₀ : Heap} {L l : Addr} {m : Str → Option Value} {news : List (Addr × Obj)} {xs : List Value} {os : List (Option Int)} {a n : Int} {r : List Int} {Q : Value → Shared → Prop}
    (F : Fr h₀ L s.heap m) (N : News h₀ L s.heap news) (hl : (l, LCg.lst xs) ∈ news) (hI : IntsAre xs (n :: r)) (hf : os.filterMap id = n :: r) (h4 : xs.length ≤ 4) (he : eFold os = some a)
    (h : ∀ h' D vs t e, Fr h₀ L h' m → News h₀ L h' ((D, PySem.W.listOf (Value.int a t :: vs).toArray e) :: news) → Q (.ref D) { s with heap := h' }) :
    wpAny (model prog w) A (call (.builtin "sorted") [.ref l]) Q E s := by
  refine sorted_N F N ⟨_, (N _ hl).1, rfl, _, rfl⟩ hI (by omega) fun h' vs' ns' e F' N' hI' hp hs => ?_
  cases ns' with
  | nil => exact absurd hp.length_eq (by simp)
  | cons b r' =>
    have hb : eFold os = some b := eFold_least (hf ▸ hp) hs
    rw [he] at hb
    injection hb with hb
    subst hb
    obtain ⟨t, vs, rfl, _⟩ := hI'.cons_inv
    exact h h' _ vs t e F' N'
theorem list_first {prog : Program} {w : World} {A : Around} {E : Value → Shared → Prop} {s : Shared} {h₀ : Heap} {L D : Addr} {news : List (Addr × Obj)} {vs : List Value} {e : Nat} {v : Value} {u : Tok} {value slice : PySem.Expr} {Q : Value → Shared → Prop}
    (N : News h₀ L s.heap news) (hm : (D, PySem.W.listOf (v :: vs).toArray e) ∈ news) (h : Q v s)
    (hs : subscripted slice false (.ref D) (.int 0 u) = operate [.ref D, .int 0 u] (getItem (.ref D) (.int 0 u)) := by with_unfolding_all rfl) :
    wpAny (model prog w) A (subscriptTail value slice (.ref D) (.int 0 u)) Q E s := by
  have hl : s.heap.IsList D (v :: vs).toArray := ⟨_, (N _ hm).1, rfl, _, rfl⟩
  exact tail_any hl.typeIs slot_list_getitem.lookup (wpAny_getItem_list hl (by decide) (by decide) (by simp) h) hs
local macro_rules | `(tactic| walk_at "call builtin:sorted") => `(tactic| (k_here; (with_reducible show wpAny _ _ (call (Value.builtin _) [Value.ref _]) _ _ _); k_dflt (refine' sorted_least ?F ?N ?l ?I ?f ?n ?e ?_; (case F => k_asm); (case N => k_asm); (case l => k_mem); (case I => assumption); (case f => assumption); (case n => assumption); (case e => assumption)); intro h' D' vs' t' e' F' N'; (try k_sweep)))
local macro_rules | `(tactic| walk_at "subscriptTail") => `(tactic| (k_here; (with_reducible show wpAny _ _ (subscriptTail _ _ (Value.ref _) (Value.int 0 _)) _ _ _); k_dflt (refine' list_first ?N ?m ?_; (case N => k_asm); (case m => k_mem))))
local macro_rules | `(tactic| walk_at "compareOp NotEq ref ref") => `(tactic| (k_here; (with_reducible show wpAny _ _ (compareOp CmpOp.NotEq (Value.ref _) (Value.ref _)) _ _ _); k_dflt (refine' ints_ne_nil ?N ?a ?A ?b ?u ?_; (case N => k_asm); (case a => k_mem); (case A => assumption); (case b => k_mem); (case u => ktr_units))))
local macro_rules | `(tactic| walk_at "call ref") => `(tactic| (k_here; (with_reducible show wpAny _ _ (call (Value.ref 22) _) _ _ _); k_dflt (refine' earliest_none ?F ?X ?T ?d ?u ?N ?l ?o ?e ?_; (case F => k_asm); (case X => k_asm); (case T => k_asm); (case d => ktr_room); (case u => ktr_units); (case N => k_asm); (case l => k_mem); (case o => assumption); (case e => assumption)); intro h' tk' F' N'; (try k_sweep)))
local macro_rules | `(tactic| walk_at "call ref") => `(tactic| (k_here; (with_reducible show wpAny _ _ (call (Value.ref 22) _) _ _ _); k_dflt (refine' earliest_some ?F ?X ?T ?d ?u ?N ?l ?o ?e ?_; (case F => k_asm); (case X => k_asm); (case T => k_asm); (case d => ktr_room); (case u => ktr_units); (case N => k_asm); (case l => k_mem); (case o => assumption); (case e => assumption)); intro h' tk' t' F' N'; (try k_sweep)))
local macro_rules | `(tactic| walk_at "m_toair") => `(tactic| repeat' ((fail_if_success (with_reducible show wpAny _ _ (execs [Stmt.Assign _ _ _, Stmt.If _ _ _ _, Stmt.Return _ _] _) _ _ _)); (first | (k_unfold; (try dsimp only)) | (k_end; wrow_close) | walk1 | (dsimp only; walk1) | fail "no step")))
set_option maxHeartbeats 8000000 in
theorem early_walk {w : World} {dp un : Nat} {fr : Option (List Env)} {gd : Option (List Code)} {s : Shared} {h₀ : Heap} {L fa : Addr} {cv : Value} {m mg mb : Str → Option Value} {loose : List Str} {mean : ExcName → Option Value}
    {l S D D2 : Addr} {opool op : Obj} {ys vs xs : List Value} {os : List (Option Int)} {Q : Flow → Shared → Prop}
    (F : Fr h₀ L s.heap (fun z => if z = Str.ofString "left" then some (.ref D2) else if z = Str.ofString "some" then some (.ref D) else m z)) (X : (Mine.hd.heap_39 w.params).In h₀) (T : Top Mine.hd.view_39 loose mean mg mb h₀) (hdp : dp + 100 < recursionLimit) (hun : un + 1000 < cLine)
    (N : News h₀ L s.heap [(D2, LCg.lst xs), (D, LCg.lst vs), (L + 1, opool), (l, op), (S, LCg.lst ys)]) (hos : OptsAre vs os) (ho4 : os.length = 4) (hxs : IntsAre xs (os.filterMap id)) (oD2 : OffD D2 [(D, LCg.lst vs), (L + 1, opool), (l, op), (S, LCg.lst ys)])
    (h : ∀ h' tk' m', Fr h₀ L h' m' → News h₀ L h' [(L + 1, opool), (l, op), (S, LCg.lst ys)] →
      wpAny (model PySem.Challenge.rw_no0052_01.row.prog w) ((atop dp un fr gd).deeper (lawEnv L fa cv)) (execs (lawBody.drop 7) (lawEnv L fa cv)) Q (fun _ _ => False) { s with heap := h', toks := tk' }) :
    wpAny (model PySem.Challenge.rw_no0052_01.row.prog w) ((atop dp un fr gd).deeper (lawEnv L fa cv)) (execs (lawBody.drop 6) (lawEnv L fa cv)) Q (fun _ _ => False) s := by
  show wpAny _ ((atop dp un fr gd).deeper (envOfC (Str.ofString "law") ⟨_, _, _, _, _⟩ _ _ _)) (execs (_ :: _) (envOfC (Str.ofString "law") ⟨_, _, _, _, _⟩ _ _ _)) _ _ _
  have hxl : xs.length ≤ 4 := by rw [hxs.length, ← ho4]; exact List.length_filterMap_le _ _
  simp only [OffD, and_true] at oD2
  walk_at "m_split"
  cases hf : os.filterMap id with
  | nil =>
    have he := eFold_nil hf
    rw [hf] at hxs
    cases hxs
    walk_at "m_toair"
    (try dsimp only)
    (rename Fr h₀ L _ _ => F8)
    (rename News h₀ L _ _ => N8)
    exact h _ _ _ F8 (newsSub N8 (by walk_at "m_allin"))
  | cons n r =>
    obtain ⟨a, he⟩ : ∃ a, eFold os = some a := by
      have := eFold_spec os none
      unfold eFold
      cases hq : os.foldl eStep none with
      | none => rw [hq] at this; rw [this.2] at hf; cases hf
      | some m => exact ⟨m, rfl⟩
    rw [hf] at hxs
    walk_at "m_toair"
    · exact absurd rfl (by assumption)
    (try dsimp only)
    (rename Fr h₀ L _ _ => F8)
    (rename News h₀ L _ _ => N8)
    exact h _ _ _ F8 (newsSub N8 (by walk_at "m_allin"))
end
section
theorem fillLE : Mine.hd.heap_39 = Mine.hd.heap_39 ∧ PySem.Challenge.rw_no0052_01 = PySem.Challenge.rw_no0052_01 := by
  w_top off
  k_fill
  exact ⟨rfl, rfl⟩
set_option maxHeartbeats 4000000 in
theorem ack_none {w : World} {dp un : Nat} {fr : Option (List Env)} {gd : Option (List Code)} {s : Shared} {h₀ : Heap} {L : Addr} {m mg mb : Str → Option Value} {loose : List Str} {mean : ExcName → Option Value}
    {news : List (Addr × Obj)} {b : Int} {tb : Tok} {Q : Value → Shared → Prop} {E : Value → Shared → Prop}
    (F : Fr h₀ L s.heap m) (X : (Mine.hd.heap_39 w.params).In h₀) (T : Top Mine.hd.view_39 loose mean mg mb h₀) (hdp : dp + 2 < recursionLimit) (hun : un + 100 < cLine) (N : News h₀ L s.heap news)
    (h : ∀ h' tk', Fr h₀ L h' m → News h₀ L h' news → Q .none { s with heap := h', toks := tk' }) :
    wpAny (model PySem.Challenge.rw_no0052_01.row.prog w) (atop dp un fr gd) (call (.ref 53) [Value.none, Value.int b tb, Value.bool true]) Q E s := by
  have N0 : News h₀ L s.heap [] := News.nil
  (refine wpAny_call ?_; k_dflt (refine' enterP (binds := [(Str.ofString "first_unacked", Value.none), (Str.ofString "most_delay", Value.int b tb), (Str.ofString "wants_now", Value.bool true)]) ?k1 ?k2 ?k3 ?k4 ?k6 ?k7 ?k8 ?k9 ?kB ?_ ?c2 ?c3 ?c4 ?c5; (case k1 => k_asm); (case k2 => k_asm); (case k3 => exact N0); (case k4 => k_asm); (case k6 => k_is); (case k7 => k_is); (case k8 => ktr_room); (case k9 => exact BindsTo.of_eq rfl); (case c5 => decide); (case kB => exact locs rfl); (case c2 => exact rfl); (case c3 => exact rfl); (case c4 => exact rfl); k_whole; intro g' L' h' kp' st' F' N' X' T'; (try dsimp only)))
  clear N0
  k_steps
  (try dsimp only)
  have k2 := keeps_all kp' (by assumption)
  exact h _ _ (Keeps.fr F (News.nil) k2) (Keeps.news N k2)
set_option maxHeartbeats 4000000 in
theorem ack_late {w : World} {dp un : Nat} {fr : Option (List Env)} {gd : Option (List Code)} {s : Shared} {h₀ : Heap} {L : Addr} {m mg mb : Str → Option Value} {loose : List Str} {mean : ExcName → Option Value}
    {news : List (Addr × Obj)} {a b : Int} {ta tb : Tok} {Q : Value → Shared → Prop} {E : Value → Shared → Prop}
    (F : Fr h₀ L s.heap m) (X : (Mine.hd.heap_39 w.params).In h₀) (T : Top Mine.hd.view_39 loose mean mg mb h₀) (hdp : dp + 2 < recursionLimit) (hun : un + 100 < cLine) (N : News h₀ L s.heap news)
    (h : ∀ h' tk' t', Fr h₀ L h' m → News h₀ L h' news → Q (.int (a + b) t') { s with heap := h', toks := tk' }) :
    wpAny (model PySem.Challenge.rw_no0052_01.row.prog w) (atop dp un fr gd) (call (.ref 53) [Value.int a ta, Value.int b tb, Value.bool false]) Q E s := by
  have N0 : News h₀ L s.heap [] := News.nil
  (refine wpAny_call ?_; k_dflt (refine' enterP (binds := [(Str.ofString "first_unacked", Value.int a ta), (Str.ofString "most_delay", Value.int b tb), (Str.ofString "wants_now", Value.bool false)]) ?k1 ?k2 ?k3 ?k4 ?k6 ?k7 ?k8 ?k9 ?kB ?_ ?c2 ?c3 ?c4 ?c5; (case k1 => k_asm); (case k2 => k_asm); (case k3 => exact N0); (case k4 => k_asm); (case k6 => k_is); (case k7 => k_is); (case k8 => ktr_room); (case k9 => exact BindsTo.of_eq rfl); (case c5 => decide); (case kB => exact locs rfl); (case c2 => exact rfl); (case c3 => exact rfl); (case c4 => exact rfl); k_whole; intro g' L' h' kp' st' F' N' X' T'; (try dsimp only)))
  clear N0
  k_steps
  (try dsimp only)
  have k2 := keeps_all kp' (by assumption)
  exact h _ _ _ (Keeps.fr F (News.nil) k2) (Keeps.news N k2)
set_option maxHeartbeats 4000000 in
theorem ack_soon {w : World} {dp un : Nat} {fr : Option (List Env)} {gd : Option (List Code)} {s : Shared} {h₀ : Heap} {L : Addr} {m mg mb : Str → Option Value} {loose : List Str} {mean : ExcName → Option Value}
    {news : List (Addr × Obj)} {a b : Int} {ta tb : Tok} {Q : Value → Shared → Prop} {E : Value → Shared → Prop}
    (F : Fr h₀ L s.heap m) (X : (Mine.hd.heap_39 w.params).In h₀) (T : Top Mine.hd.view_39 loose mean mg mb h₀) (hdp : dp + 2 < recursionLimit) (hun : un + 100 < cLine) (N : News h₀ L s.heap news)
    (h : ∀ h' tk', Fr h₀ L h' m → News h₀ L h' news → Q (.int a ta) { s with heap := h', toks := tk' }) :
    wpAny (model PySem.Challenge.rw_no0052_01.row.prog w) (atop dp un fr gd) (call (.ref 53) [Value.int a ta, Value.int b tb, Value.bool true]) Q E s := by
  have N0 : News h₀ L s.heap [] := News.nil
  (refine wpAny_call ?_; k_dflt (refine' enterP (binds := [(Str.ofString "first_unacked", Value.int a ta), (Str.ofString "most_delay", Value.int b tb), (Str.ofString "wants_now", Value.bool true)]) ?k1 ?k2 ?k3 ?k4 ?k6 ?k7 ?k8 ?k9 ?kB ?_ ?c2 ?c3 ?c4 ?c5; (case k1 => k_asm); (case k2 => k_asm); (case k3 => exact N0); (case k4 => k_asm); (case k6 => k_is); (case k7 => k_is); (case k8 => ktr_room); (case k9 => exact BindsTo.of_eq rfl); (case c5 => decide); (case kB => exact locs rfl); (case c2 => exact rfl); (case c3 => exact rfl); (case c4 => exact rfl); k_whole; intro g' L' h' kp' st' F' N' X' T'; (try dsimp only)))
  clear N0
  k_steps
  (try dsimp only)
  have k2 := keeps_all kp' (by assumption)
  exact h _ _ (Keeps.fr F (News.nil) k2) (Keeps.news N k2)
local macro_rules | `(tactic| walk_at "call ref") => `(tactic| (k_here; (with_reducible show wpAny _ _ (call (Value.ref 53) [Value.none, Value.int _ _, Value.bool true]) _ _ _); k_dflt (refine' ack_none ?F ?X ?T ?d ?u ?N ?_; (case F => k_asm); (case X => k_asm); (case T => k_asm); (case d => ktr_room); (case u => ktr_units); (case N => k_asm)); intro h' tk' F' N'; (try k_sweep)))
local macro_rules | `(tactic| walk_at "call ref") => `(tactic| (k_here; (with_reducible show wpAny _ _ (call (Value.ref 53) [Value.int _ _, Value.int _ _, Value.bool false]) _ _ _); k_dflt (refine' ack_late ?F ?X ?T ?d ?u ?N ?_; (case F => k_asm); (case X => k_asm); (case T => k_asm); (case d => ktr_room); (case u => ktr_units); (case N => k_asm)); intro h' tk' t' F' N'; (try k_sweep)))
local macro_rules | `(tactic| walk_at "call ref") => `(tactic| (k_here; (with_reducible show wpAny _ _ (call (Value.ref 53) [Value.int _ _, Value.int _ _, Value.bool true]) _ _ _); k_dflt (refine' ack_soon ?F ?X ?T ?d ?u ?N ?_; (case F => k_asm); (case X => k_asm); (case T => k_asm); (case d => ktr_room); (case u => ktr_units); (case N => k_asm)); intro h' tk' F' N'; (try k_sweep)))
theorem lastK (K' : List (Int × Nat)) (p : K'.Perm (adl [(Str.ofString "idle", 5), (Str.ofString "ack", 5), (Str.ofString "loss", 4)] 5 6)) (h : K'.Pairwise fun a b => lx a b = true) : K' = [(4, 2), (5, 1), (5, 4)] := by
  have e : adl [(Str.ofString "idle", 5), (Str.ofString "ack", 5), (Str.ofString "loss", 4)] 5 6 = [(5, 1), (4, 2), (5, 4)] := by decide +kernel
  rw [e] at p
  exact sorted_eq (p.trans (List.Perm.swap _ _ _)) h (by decide)
set_option maxHeartbeats 8000000 in
theorem end_walk {w : World} {dp un : Nat} {fr : Option (List Env)} {gd : Option (List Code)} {s : Shared} {h₀ : Heap} {L fa : Addr} {cv : Value} {m mg mb : Str → Option Value} {loose : List Str} {mean : ExcName → Option Value}
    {l S : Addr} {opool op : Obj} {ys : List Value} {ns : List Int} {Q : Flow → Shared → Prop}
    (F : Fr h₀ L s.heap m) (X : (Mine.hd.heap_39 w.params).In h₀) (T : Top Mine.hd.view_39 loose mean mg mb h₀) (hdp : dp + 100 < recursionLimit) (hun : un + 1000 < cLine)
    (N : News h₀ L s.heap [(L + 1, opool), (l, op), (S, LCg.lst ys)]) (hI : IntsAre ys ns) (hlen : ns.length ≤ 24)
    (cP : opool.data = .cell (some (.ref l))) (po : PoolObj S op) (d1 : Dif l (L + 1)) (d2 : Dif S (L + 1)) (d3 : Dif l S)
    (h : ∀ h' tk' m', Fr h₀ L h' m' → Q (.ret (.bool true)) { s with heap := h', toks := tk' }) :
    wpAny (model PySem.Challenge.rw_no0052_01.row.prog w) ((atop dp un fr gd).deeper (lawEnv L fa cv)) (execs (lawBody.drop 7) (lawEnv L fa cv)) Q (fun _ _ => False) s := by
  show wpAny _ ((atop dp un fr gd).deeper (envOfC (Str.ofString "law") ⟨_, _, _, _, _⟩ _ _ _)) (execs (_ :: _) (envOfC (Str.ofString "law") ⟨_, _, _, _, _⟩ _ _ _)) _ _ _
  have d4 := Dif.symm d3
  k_steps
  · exact absurd rfl (by assumption)
  · exact absurd rfl (by assumption)
  · (rename Fr h₀ L _ _ => F8)
    (rename News h₀ L _ _ => N8)
    (rename Obj.IsDictOf _ _ _ => hd8)
    (rename PyProof.V.FlatPairs _ _ _ => hf8)
    (rename (_ == sysModules) = false => lo8)
    refine all_due_call (c := [(Str.ofString "idle", 5), (Str.ofString "ack", 5), (Str.ofString "loss", 4)]) (Kd := [(4, 2), (5, 1), (5, 4)]) F8 X T (by ktr_room) (by ktr_units) N8 ⟨lo8, _, Heap.dictOf_iff.mpr ⟨_, (N8 _ (.head _)).1, hd8⟩, hf8⟩ lastK fun h9 tk9 D9 ys9 n9 F9 N9 o9 hs9 => ?_
    clear N8 F8
    k_steps
    (rename News h₀ L _ _ => N7)
    have hk : ∀ x ∈ ([(4, 2), (5, 1), (5, 4)] : List (Int × Nat)).map (fun r => kn r.2), x ∈ kinds := by decide
    have hB : ∀ {t1 t2 t3 : Tok}, StrsAre [.str (Str.ofString "loss") t1, .str (Str.ofString "idle") t2, .str (Str.ofString "ack") t3] (([(4, 2), (5, 1), (5, 4)] : List (Int × Nat)).map (fun r => kn r.2)) := fun {t1 t2 t3} => .cons _ _ (.cons _ _ (.cons _ _ .nil))
    refine kqd_eq N7 (.tail _ (.head _)) rfl rfl (strs_dat hs9) (fun _ h => h) (.head _) rfl rfl (strs_dat hB) (fun _ h => h) (strs_ok hk) (strs_ok hk) (by ktr_units) ?_
    simp only [decide_true]
    exact h _ _ _ (by assumption)
end
section
theorem fillLF : Mine.hd.heap_39 = Mine.hd.heap_39 ∧ PySem.Challenge.rw_no0052_01 = PySem.Challenge.rw_no0052_01 := by
  w_top off
  k_fill
  exact ⟨rfl, rfl⟩
theorem law_rest {w : World} {dp un : Nat} {fr : Option (List Env)} {gd : Option (List Code)} {s : Shared} {h₀ : Heap} {L fa : Addr} {cv : Value} {m0 mg mb : Str → Option Value} {loose : List Str} {mean : ExcName → Option Value}
    {l S x dd : Addr} {ys : List Value} {ns : List Int} {t9 : Tok} {nx : List (Addr × Obj)} {Q : Flow → Shared → Prop}
    (F : Fr h₀ L s.heap (fun y => if y = Str.ofString "script" then some (.ref S) else m0 y)) (X : (Mine.hd.heap_39 w.params).In h₀) (T : Top Mine.hd.view_39 loose mean mg mb h₀) (hdp : dp + 100 < recursionLimit) (hun : un + 1000 < cLine)
    (N : News h₀ L s.heap nx) (inv : Inv w L l S x dd t9 ys nx) (hI : IntsAre ys ns) (hlen : ns.length ≤ 24)
    (h : ∀ h' tk' m', Fr h₀ L h' m' → Q (.ret (.bool true)) { s with heap := h', toks := tk' }) :
    wpAny (model PySem.Challenge.rw_no0052_01.row.prog w) ((atop dp un fr gd).deeper (lawEnv L fa cv)) (execs (lawBody.drop 3) (lawEnv L fa cv)) Q (fun _ _ => False) s :=
  law_loop F X T hdp hun N inv hI hlen fun h1 tk1 m1 op opool cP po d1 d2 d3 F1 N1 =>
  some_walk F1 X T hdp hun N1 hI hlen cP po d1 d2 d3 fun h2 tk2 op' D vs os F2 N2 po2 hos ho4 oD =>
  left_walk F2 X T hdp hun N2 hos ho4 fun h3 tk3 D2 xs F3 N3 hxs oD2 =>
  early_walk F3 X T hdp hun N3 hos ho4 hxs oD2 fun h4 tk4 m4 F4 N4 =>
  end_walk F4 X T hdp hun N4 hI hlen cP po2 d1 d2 d3 fun h5 tk5 m5 F5 => h h5 tk5 m5 F5
end
section
theorem fillM1 : Mine.hd.heap_39 = Mine.hd.heap_39 ∧ PySem.Challenge.rw_no0052_01 = PySem.Challenge.rw_no0052_01 := by
  w_top off
  k_fill
  exact ⟨rfl, rfl⟩
theorem law_start {w : World} {dp un : Nat} {fr : Option (List Env)} {gd : Option (List Code)} {s : Shared} {h₀ : Heap} {L fa : Addr} {cv : Value} {m0 mg mb : Str → Option Value} {loose : List Str} {mean : ExcName → Option Value}
    {l S x dd dO dT D2 tp : Addr} {odue oal omom oown opool oO oT otp oD2 : Obj} {ys : List Value} {ns : List Int} {t9 tm tp0 tp2 : Tok} {p0 : Int} {vd : Option Value} {Q : Flow → Shared → Prop}
    (F : Fr h₀ L s.heap (fun y => if y = Str.ofString "script" then some (.ref S) else m0 y)) (X : (Mine.hd.heap_39 w.params).In h₀) (T : Top Mine.hd.view_39 loose mean mg mb h₀) (hdp : dp + 100 < recursionLimit) (hun : un + 1000 < cLine)
    (N : News h₀ L s.heap [(dT, oT), (x, instObj 98 dd), (dd, tmObj w t9 dT), (tp, otp), (dO, oO), (l, PySem.W.listOf #[.int p0 tp0, .ref S, .int 0 tp2] 0), (S, LCg.lst ys), (D2, oD2), (L + 1 + 1 + 1 + 1 + 1, odue), (L + 1 + 1 + 1 + 1, oal), (L + 1 + 1 + 1, omom), (L + 1 + 1, oown), (L + 1, opool)])
    (hI : IntsAre ys ns) (hlen : ns.length ≤ 24)
    (cD : odue.data = .cell vd) (cA : oal.data = .cell (some (.ref x))) (cM : omom.data = .cell (some (.int 0 tm))) (cO : oown.data = .cell (some (.ref dO))) (cP : opool.data = .cell (some (.ref l)))
    (lO : (dO == sysModules) = false) (hO : oO.IsDictOf (strKind PySem.Challenge.rw_no0052_01.row.prog w) []) (lT : (dT == sysModules) = false) (hT : oT.IsDictOf (strKind PySem.Challenge.rw_no0052_01.row.prog w) [])
    (sp : Sep [L + 1 + 1 + 1 + 1 + 1, L + 1 + 1 + 1 + 1, L + 1 + 1 + 1, L + 1 + 1, L + 1, l, S, dO, x, dd, dT])
    (h : ∀ h' tk' m', Fr h₀ L h' m' → Q (.ret (.bool true)) { s with heap := h', toks := tk' }) :
    wpAny (model PySem.Challenge.rw_no0052_01.row.prog w) ((atop dp un fr gd).deeper (lawEnv L fa cv)) (execs (lawBody.drop 3) (lawEnv L fa cv)) Q (fun _ _ => False) s :=
  law_rest (nx := [(L + 1 + 1 + 1 + 1 + 1, odue), (L + 1 + 1 + 1 + 1, oal), (L + 1 + 1 + 1, omom), (L + 1 + 1, oown), (L + 1, opool), (l, PySem.W.listOf #[.int p0 tp0, .ref S, .int 0 tp2] 0), (S, LCg.lst ys), (dO, oO), (x, instObj 98 dd), (dd, tmObj w t9 dT), (dT, oT)]) F X T hdp hun (newsSub N (by walk_at "m_allin"))
    ⟨odue, oal, omom, oown, opool, _, oO, oT, dO, dT, [], [], [], [], vd, 0, tm, rfl, cD, cA, cM, cO, cP, ⟨_, _, _, _, _, Int.le_refl _, rfl⟩, lO, hO, .nil, lT, hT, .nil, Good.nil, Good.nil, fun _ => rfl, sp⟩ hI hlen h
local macro_rules | `(tactic| walk_at "m_tolaw") => `(tactic| repeat' ((fail_if_success (with_reducible show wpAny _ _ (execs (Stmt.For _ _ _ _ _ :: _) _) _ _ _)); (first | (k_unfold; (try dsimp only)) | (k_end; wrow_close) | walk1 | (dsimp only; walk1) | (leave1; try dsimp only) | fail "no step")))
set_option maxHeartbeats 8000000 in
theorem goal1 : PySem.Challenge.rw_no0052_01.Holds := Mine.hd (by
  k_go0
  all_goals try k_fold
  walk_at "m_tolaw"
  (rename Fr _ _ _ _ => F8)
  (rename News _ _ _ _ => N8)
  (rename Mine.hd.heap_39 _ |>.In _ => X8)
  refine wpAny_mono (law_start (dp := 1 + claimMargin) (un := 4) (fr := some []) (gd := some []) F8 X8 (by assumption) (by decide) (by decide) N8 (by assumption) (by simp; omega) (by assumption) (by assumption) (by assumption) (by assumption) (by assumption) (by assumption) (by assumption) (by assumption) (by assumption) ?_ ?_) (fun _ _ q => q) (fun _ _ q => q.elim)
  · clear F8 N8
    simp only [Sep, AllD, and_true]
    repeat' refine And.intro ?_ ?_
    all_goals first | assumption | (show @Ne Nat _ _; omega)
  · intro h8 tk8 m8 F9
    k_steps)
end
end Mine
theorem PySem.Challenge.cw_no0052_01_holds : PySem.Challenge.rw_no0052_01.Holds :=
  Mine.goal1
