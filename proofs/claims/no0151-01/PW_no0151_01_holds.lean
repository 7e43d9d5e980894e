import PyProof.Rows.All
import Wide.All
import OpenK.AllK
import Wide.FinOn
import Lean
import PySem.Challenge.RW_no0151_01
open PySem PySem.W PyProof.Rows PySem.Calls
set_option Elab.async false
set_option maxRecDepth 100000
set_option rowWalk.seconds 0
namespace Mine
section
set_option maxHeartbeats 8000000 in
open_top hd for PySem.Challenge.rw_no0151_01
end
local macro_rules | `(tactic| walk_at $s:str) => `(tactic| k_extra $s)
section
theorem words_w1 : True := by
  w_top off
  k_with_none
  trivial
abbrev Pg : Program := PySem.Challenge.rw_no0151_01.row.prog
noncomputable abbrev Kf (w : World) : Frag := hd.heap_39 w.params
abbrev TopM (mean : ExcName → Option Value) (mg mb : Str → Option Value) (h : Heap) : Prop := Top hd.view_39 (looseW hd.view_39 [Str.ofString "LinkFault"]) mean mg mb h

/-- everything but the addresses of W stands as it stood -/
noncomputable def Keeps (W : List Addr) (h h' : Heap) : Prop := ∀ b o, b ∉ W → h.get? b = some o → h'.get? b = some o
theorem Keeps.refl {W : List Addr} {h : Heap} : Keeps W h h := fun _ _ _ e => e
theorem Keeps.trans {W : List Addr} {h h' h'' : Heap} (a : Keeps W h h') (b : Keeps W h' h'') : Keeps W h h'' := fun x o n e => b x o n (a x o n e)
theorem Keeps.wide {W W' : List Addr} {h h' : Heap} (a : Keeps W h h') (s : ∀ x ∈ W, x ∈ W') : Keeps W' h h' := fun x o n e => a x o (fun q => n (s x q)) e

/-- the end of a call that may change W alone -/
noncomputable def LeaveW (g : Heap) (Q : Value → Shared → Prop) (v : Value) (s' : Shared) : Prop :=
  ∃ L' m', Fr g L' s'.heap m' ∧ Q v s'
theorem LeaveW.intro {g : Heap} {Q : Value → Shared → Prop} {v : Value} {s' : Shared} {L' : Addr} {m' : Str → Option Value} (F : Fr g L' s'.heap m') (h : Q v s') : LeaveW g Q v s' := ⟨L', m', F, h⟩

theorem call_W {w : World} {K : Frag} {p : Program} {loose : List Str} {mean : ExcName → Option Value} {mg mb : Str → Option Value} {dp un : Nat} {gd : Option (List Code)} {cn : Str} {cs : Scope} {ca : Addr} {ccd : Value} {cl : List (Str × Addr)}
    {outer : List Env} {A₀ : Around} {base h₀ : Heap} {L : Addr} {m : Str → Option Value} {s : Shared} {Q : Value → Shared → Prop} {E : Value → Shared → Prop}
    {name qual : Str} {params : Arguments} {body : List Stmt} {scope : Scope} {dV kV doc pm cdv ct oc : Value} {an od : Option Addr} {osl : Array (Option Value)} {f : Addr} {args : List Value} {binds : List (Str × Value)}
    (W : List (Addr × Obj)) (N : News h₀ L s.heap W)
    (B : Below A₀ base outer h₀) (F : Fr h₀ L s.heap m) (X : K.In h₀) (T : Top p loose mean mg mb h₀) (hk : cs.kind = .function)
    (ho : K.lookup f = some ⟨oc, od, .func (fnOf name qual params body scope dV kV doc pm an cdv ct), osl⟩) (hcd : codeIn K cdv qual = true) (hroom : dp < recursionLimit)
    (hbind : BindsTo s (fnOf name qual params body scope dV kV doc pm an cdv ct) ⟨args, []⟩ binds) (hloc : ∀ y ∈ binds, scope.names.lookup y.1 = some .local)
    (h : ∀ g L' h₁, (∀ b o, g.get? b = some o → s.heap.get? b = some o) → (∀ b o, b ∉ W.map (·.1) → s.heap.get? b = some o → g.get? b = some o) → L' = s.heap.objs.size → Fr g L' h₁ (fun y => binds.reverse.lookup y) → News g L' h₁ W →
      Below (ktrTop dp un gd cn cs L ca ccd cl outer) base (envX cn cs L ca ccd cl :: outer) g → K.In g → Top p loose mean mg mb g →
      wpAny (model Pg w) ((ktrTop dp un gd cn cs L ca ccd cl outer).deeper (envOf qual scope L' f cdv)) (execs body (envOf qual scope L' f cdv))
        (fun fl s' => LeaveW g Q (match fl with | .ret v => v | _ => .none) s')
        (fun e s' => wpAny (model Pg w) ((ktrTop dp un gd cn cs L ca ccd cl outer).deeper (envOf qual scope L' f cdv)) (leaving (envOf qual scope L' f cdv) e) (fun _ s'' => E e s'') (fun e' s'' => E e' s'') s')
        { s with heap := h₁, toks := s.toks + binds.length })
    (hco : scope.isCoroutine = false) (hgen : scope.isGenerator = false) (hkf : scope.kind = .function) (hcell : ∀ x ∈ scope.names, x.2 ≠ .cell) :
    wpAny (model Pg w) (ktrTop dp un gd cn cs L ca ccd cl outer) (call (.ref f) args) Q E s := by
  refine wpAny_call ?_
  obtain ⟨FG, BG, st, -⟩ := groundX (R := fun _ _ => True) (A := ktrTop dp un gd cn cs L ca ccd cl outer) (env := envX cn cs L ca ccd cl) B F N rfl rfl hk
  refine codeAny_call_def (fd := fnOf name qual params body scope dV kV doc pm an cdv ct) (body := body) (binds := binds) hroom ((X.keeps F.keep) _ _ ho) rfl (T.nolimit.keeps F.keep) (codeRec_of (X.keeps F.keep) hcd) rfl hbind hcell hloc (fun h₁ hns hk₁ => ?_) hco hgen hkf
  refine wpAny_mono (h _ s.heap.objs.size h₁ (fun b o e => of_hideAll _ e) (fun b o n e => hideAll_get _ e n) rfl ⟨hns, fun b o e => hk₁ b o (of_hideAll _ e), Nat.le_of_eq (hideAll_size _ _)⟩
    (fun p hp => ⟨hk₁ _ _ (N p hp).1, Nat.ne_of_lt (Heap.lt_size (N p hp).1), hideAll_none _ (List.mem_map_of_mem hp)⟩) BG (X.keeps st) (T.keeps st)) (fun fl s' hl => ?_) fun _ _ y => y
  obtain ⟨L', m', F', q⟩ := hl
  exact q

theorem Keeps.fr {W : List Addr} {h₀ h h' : Heap} {L : Addr} {m : Str → Option Value} (F : Fr h₀ L h m) (K : Keeps W h h') (hL : L ∉ W) (h0 : ∀ a ∈ W, h₀.get? a = none) : Fr h₀ L h' m :=
  ⟨F.ns.at' fun o e => K _ o hL e, fun b o e => K b o (fun q => by rw [h0 b q] at e; cases e) (F.keep b o e), F.above⟩

theorem updF_mem {d : Addr} {o : Obj} {l : List (Addr × Obj)} {g : Obj → List (Addr × Obj)} (U : UpdF d o l g) : (d, o) ∈ l := by
  obtain ⟨pre, post, rfl, -, -, -⟩ := U.split
  exact List.mem_append_right _ (.head _)

theorem upd_after {h₀ h h' : Heap} {L r : Addr} {m : Str → Option Value} {o o' : Obj} {news : List (Addr × Obj)} {g : Obj → List (Addr × Obj)} (F : Fr h₀ L h m) (N : News h₀ L h news) (U : UpdF r o news g)
    (K : Keeps [r] h h') (hr : h'.get? r = some o') : Fr h₀ L h' m ∧ News h₀ L h' (g o') := by
  have hm := N _ (updF_mem U)
  refine ⟨K.fr F (fun q => hm.2.1 (List.mem_singleton.mp q).symm) (fun a ha => by rw [List.mem_singleton.mp ha]; exact hm.2.2), ?_⟩
  obtain ⟨pre, post, rfl, hg, h1, h2⟩ := U.split
  rw [hg]
  intro p hp
  rcases List.mem_append.mp hp with q | q
  · have P := N p (List.mem_append_left _ q)
    exact ⟨K _ _ (fun z => h1 p q (List.mem_singleton.mp z)) P.1, P.2⟩
  · rcases List.mem_cons.mp q with rfl | q
    · exact ⟨hr, hm.2⟩
    · have P := N p (List.mem_append_right _ (.tail _ q))
      exact ⟨K _ _ (fun z => h2 p q (List.mem_singleton.mp z)) P.1, P.2⟩

theorem news_only {h₀ h : Heap} {L r : Addr} {o : Obj} {news : List (Addr × Obj)} (N : News h₀ L h news) (hm : (r, o) ∈ news) : News h₀ L h [(r, o)] := fun p hp => by
  rw [List.mem_singleton.mp hp]; exact N _ hm

section
variable {prog : Program} {w : World} {A : Around} {E : Value → Shared → Prop} {s : Shared} {env : Env} {h₀ : Heap} {x : Str} {body : List Stmt} {Q : Flow → Shared → Prop}

/-- a loop over any iterator, by an invariant over the turn's number, the frame's map and a ledger that may grow -/
theorem loopG {I : Addr} {fp : List Addr} {n : Nat} {P : Nat → Value → Prop} {St : Nat → Heap → Prop} {m₀ : Str → Option Value} {news : List (Addr × Obj)} (J : Nat → (Str → Option Value) → List (Addr × Obj) → Prop)
    (W : Walks prog w A I fp [I] n P St) (hI : ∀ i h, St i h → ∃ o, h.get? I = some o) (hLf : env.locals ∉ fp) (hwr : h₀.get? I = none) (hnw : ∀ p ∈ news, p.1 ≠ I)
    (hro : ∀ b ∈ fp, b ≠ I → h₀.get? b ≠ none ∨ ∃ o, ∀ i m nx, J i m nx → (b, o) ∈ nx)
    (hst : St 0 s.heap) (F : Fr h₀ env.locals s.heap m₀) (N : News h₀ env.locals s.heap news) (hj : J 0 m₀ news)
    (turn : ∀ i v m₁ nx h tk own, i < n → P i v → OwnOff own (nx.map (·.1)) → J i m₁ nx → Fr h₀ env.locals h (fun y => if y = x then some v else m₁ y) → News h₀ env.locals h (nx ++ own) →
      wpAny (model prog w) A (execs body env) (InvPostG h₀ env.locals (J (i + 1)) own { s with heap := h, toks := tk } Q) E { s with heap := h, toks := tk })
    (done : ∀ m₁ nx h tk, J n m₁ nx → Fr h₀ env.locals h m₁ → News h₀ env.locals h nx → Q .next { s with heap := h, toks := tk }) :
    LoopAtV prog w A h₀ env x body Q E (.ref I) s := by
  refine ⟨I, fp, [I], n, P, St, m₀, news, J, rfl, W, hLf, ?_, ?_, hst, F, N, hj, ?_, ?_⟩
  · intro b hb
    rw [List.mem_singleton.mp hb]; exact hwr
  · intro p hp hq
    exact hnw p hp (List.mem_singleton.mp hq)
  · rintro i v m₁ nx s₁ own ⟨hh', tk', rfl⟩ hin hP hJ hoff hown hget hfp hst₁ F₁ N₁
    obtain ⟨oI, hoI⟩ := hI _ _ hst₁
    have hIfp : I ∈ fp := W.sub _ (.head _)
    have hIown : (I, oI) ∈ own := hfp _ hIfp hwr _ hoI
    -- the iterator alone is the loop's own
    have hsep : OwnOff (own.filter fun p => decide (p.1 = I)) (nx.map (·.1)) := by
      intro p hp b hb e
      obtain ⟨q, hq, rfl⟩ := List.mem_map.mp hb
      have h1 : p.1 = I := by simpa using (List.mem_filter.mp hp).2
      exact hoff q hq (List.mem_singleton.mpr (e ▸ h1))
    have N₂ : News h₀ env.locals hh' (nx ++ own.filter fun p => decide (p.1 = I)) := fun p hp => N₁ p ((List.mem_append.mp hp).elim (fun h => List.mem_append.mpr (.inr h)) fun h => List.mem_append.mpr (.inl ((List.mem_filter.mp h).1)))
    refine wpAny_mono (turn i v m₁ nx hh' tk' _ hin hP hsep hJ F₁ N₂) (fun f s₂ p => ?_) fun _ _ e => e
    have fin : InvEndG h₀ env.locals (J (i + 1)) (own.filter fun p => decide (p.1 = I)) { s with heap := hh', toks := tk' } s₂ → LoopStepU h₀ env.locals [I] own (J (i + 1)) { s with heap := hh', toks := tk' } .next s₂ := by
      rintro ⟨h', tk, m', news', nx', e, F', N', hn, ho, ha, hm⟩
      refine ⟨rfl, h', tk, m', nx', e, F', fun p hp => ?_, fun p hp hq => ?_, hm⟩
      · rcases List.mem_append.mp hp with h | h
        · by_cases hpI : p.1 = I
          · exact N' p (ho p (List.mem_filter.mpr ⟨h, by simpa using hpI⟩))
          · rcases hro p.1 (hown p h) hpI with h1 | ⟨o, h1⟩
            · exact absurd (N₁ p (List.mem_append_left _ h)).2.2 h1
            · have h2 := (N₁ _ (List.mem_append_right _ (h1 _ _ _ hJ))).1
              have h3 := hget p h
              have h4 : p = (p.1, o) := Prod.ext rfl (Option.some.inj (h3.symm.trans h2))
              rw [h4]
              exact N' _ (hn _ (h1 _ _ _ hm))
        · exact N' p (hn p h)
      · exact ha (I, oI) (List.mem_filter.mpr ⟨hIown, by simp⟩) p.1 (List.mem_map.mpr ⟨p, hp, rfl⟩) (List.mem_singleton.mp hq).symm
    cases f with
    | ret v => exact .ret p
    | brk => exact .brk p
    | next => exact .next (fin p)
    | cont => exact .cont (fin p)
  · rintro h' tk m' news' F' N' _ hJ
    exact done m' news' h' tk hJ F' N'

/-- a loop over a list that stands, in the base or in the ledger -/
theorem listG {l : Addr} {vs : List Value} {m₀ : Str → Option Value} {news : List (Addr × Obj)} (J : Nat → (Str → Option Value) → List (Addr × Obj) → Prop)
    (hh : A.handled = none) (hl : s.heap.IsList l vs.toArray) (hro : h₀.get? l ≠ none ∨ ∃ o, ∀ i m nx, J i m nx → (l, o) ∈ nx) (hL : l ≠ env.locals)
    (F : Fr h₀ env.locals s.heap m₀) (N : News h₀ env.locals s.heap news) (hj : J 0 m₀ news)
    (turn : ∀ i v m₁ nx h tk own, vs[i]? = some v → OwnOff own (nx.map (·.1)) → J i m₁ nx → Fr h₀ env.locals h (fun y => if y = x then some v else m₁ y) → News h₀ env.locals h (nx ++ own) →
      wpAny (model prog w) A (execs body env) (InvPostG h₀ env.locals (J (i + 1)) own { s with heap := h, toks := tk } Q) E { s with heap := h, toks := tk })
    (done : ∀ m₁ nx h tk, J vs.length m₁ nx → Fr h₀ env.locals h m₁ → News h₀ env.locals h nx → Q .next { s with heap := h, toks := tk }) :
    wpAny (model prog w) A (pyIter (.ref l)) (fun it s₂ => LoopAtV prog w A h₀ env x body Q E it s₂) E s := by
  obtain ⟨ol, hol, _⟩ := id hl
  have hlt : l < s.heap.objs.size := Heap.lt_size hol
  have hne : l ≠ s.heap.objs.size := Nat.ne_of_lt hlt
  refine wpAny_pyIter_list hl ?_
  have W := Walks.list (prog := prog) (w := w) hh s.heap.objs.size l hne vs.toArray
  have e : vs.toArray.size = vs.length := by simp
  rw [e] at W
  refine loopG (s := { s with heap := s.heap.push _ }) J W ?_ ?_ (next_is_new F) ?_ ?_ ⟨⟨_, Heap.get?_push_size _ rfl, rfl, rfl⟩, hl.at fun o e => Heap.get?_push_of_some _ e⟩ (F.push _) (fun p hp => ⟨Heap.get?_push_of_some _ (N p hp).1, (N p hp).2⟩) hj ?_ ?_
  · rintro i h ⟨⟨o, ho, _⟩, _⟩
    exact ⟨o, ho⟩
  · intro hm
    rcases List.mem_cons.mp hm with e | hm
    · exact absurd F.ns.lt (e ▸ Nat.lt_irrefl _)
    · exact hL (List.mem_singleton.mp hm).symm
  · intro p hp q
    exact absurd (Heap.lt_size (N p hp).1) (q ▸ Nat.lt_irrefl _)
  · intro b hb hbI
    rcases List.mem_cons.mp hb with e | hm
    · exact absurd e hbI
    · rw [List.mem_singleton.mp hm]; exact hro
  · intro i v m₁ nx h tk own hin hP hoff hJ F₁ N₁
    exact turn i v m₁ nx h tk own (by simpa using hP) hoff hJ F₁ N₁
  · exact done

/-- a loop over a range by ones -/
theorem rangeG {r : Addr} {a₀ b₀ : Int} {t₀ u₀ v₀ : Tok} {n : Nat} {m₀ : Str → Option Value} {news : List (Addr × Obj)} (J : Nat → (Str → Option Value) → List (Addr × Obj) → Prop)
    (hh : A.handled = none) (hr : IsRange s.heap r a₀ b₀ 1 t₀ u₀ v₀) (hsmall : Builtin.Range.small a₀ b₀ 1 = true) (hn : Builtin.Range.rangeSize a₀ b₀ 1 = (n : Int))
    (F : Fr h₀ env.locals s.heap m₀) (N : News h₀ env.locals s.heap news) (hj : J 0 m₀ news)
    (turn : ∀ i t m₁ nx h tk own, i < n → OwnOff own (nx.map (·.1)) → J i m₁ nx → Fr h₀ env.locals h (fun y => if y = x then some (.int (a₀ + (i : Nat)) t) else m₁ y) → News h₀ env.locals h (nx ++ own) →
      wpAny (model prog w) A (execs body env) (InvPostG h₀ env.locals (J (i + 1)) own { s with heap := h, toks := tk } Q) E { s with heap := h, toks := tk })
    (done : ∀ m₁ nx h tk, J n m₁ nx → Fr h₀ env.locals h m₁ → News h₀ env.locals h nx → Q .next { s with heap := h, toks := tk }) :
    wpAny (model prog w) A (pyIter (.ref r)) (fun it s₂ => LoopAtV prog w A h₀ env x body Q E it s₂) E s := by
  refine wpAny_pyIter_range hr hsmall ?_
  have W : Walks prog w A s.heap.objs.size [s.heap.objs.size] [s.heap.objs.size] n (fun i v => i < n ∧ ∃ t, v = .int (a₀ + i * 1) t)
      (fun i h => IsRangeIter h s.heap.objs.size (a₀ + (i : Nat) * 1) ((n : Int) - (i : Nat)) 1) := (Walks.range hh _ a₀ 1 n).bound
  refine loopG (s := { s with heap := s.heap.push _ }) J W ?_ ?_ (next_is_new F) ?_ ?_ (by show IsRangeIter _ _ _ _ _; rw [hn]; simpa using Heap.get?_push_size _ rfl) (F.push _) (fun p hp => ⟨Heap.get?_push_of_some _ (N p hp).1, (N p hp).2⟩) hj ?_ ?_
  · intro i h ho
    exact ⟨_, ho⟩
  · intro hm
    exact absurd F.ns.lt ((List.mem_singleton.mp hm) ▸ Nat.lt_irrefl _)
  · intro p hp q
    exact absurd (Heap.lt_size (N p hp).1) (q ▸ Nat.lt_irrefl _)
  · intro b hb hbI
    exact absurd (List.mem_singleton.mp hb) hbI
  · rintro i v m₁ nx h tk own hin ⟨_, t, rfl⟩ hoff hJ F₁ N₁
    rw [Int.mul_one] at F₁
    exact turn i t m₁ nx h tk own hin hoff hJ F₁ N₁
  · exact done
end

/-- the walk stops here -/
noncomputable def Stop (P : Prop) : Prop := P
theorem Stop.out {P : Prop} (h : Stop P) : P := h
theorem Stop.mk {P : Prop} (h : P) : Stop P := h

theorem fr_eta {h₀ h : Heap} {L : Addr} {m : Str → Option Value} {x : Str} {v : Value} (e : m x = some v) (F : Fr h₀ L h m) : Fr h₀ L h (fun y => if y = x then some v else m y) := by
  have q : (fun y => if y = x then some v else m y) = m := by
    funext y
    by_cases hy : y = x
    · rw [if_pos hy, hy, e]
    · rw [if_neg hy]
  rw [q]; exact F

theorem ints_at {vs : List Value} {ns : List Int} (hi : IntsAre vs ns) {i : Nat} {v : Value} (e : vs[i]? = some v) : ∃ k t, v = .int k t ∧ ns[i]? = some k := by
  have hlt : i < ns.length := by
    rw [← hi.length]
    rcases Nat.lt_or_ge i vs.length with h | h
    · exact h
    · rw [List.getElem?_eq_none h] at e; cases e
  obtain ⟨t, hx⟩ := hi.get i ns[i] (by simp [hlt])
  rw [hx] at e
  exact ⟨_, t, (Option.some.inj e).symm, by simp [hlt]⟩

section
variable {h₀ h' : Heap} {L : Addr} {J : (Str → Option Value) → List (Addr × Obj) → Prop} {m' : Str → Option Value} {own r : List (Addr × Obj)} {s₁ : Shared} {tk : Nat}
theorem endG {nx led : List (Addr × Obj)} (F : Fr h₀ L h' m') (N : News h₀ L h' led) (e : nx ++ own = led) (hj : J m' nx) (ha : OwnOff own (nx.map (·.1))) : InvEndG h₀ L J own s₁ { s₁ with heap := h', toks := tk } :=
  InvEndG.intro F N hj ha (fun p hp => e ▸ List.mem_append_left _ hp) (fun p hp => e ▸ List.mem_append_right _ hp)
theorem end0 (F : Fr h₀ L h' m') (N : News h₀ L h' ((r ++ own))) (hj : J m' (r)) (ha : OwnOff own (r.map (·.1))) : InvEndG h₀ L J own s₁ { s₁ with heap := h', toks := tk } := endG F N rfl hj ha
theorem end1' {p1 : Addr × Obj} (F : Fr h₀ L h' m') (N : News h₀ L h' (p1 :: own)) (hj : J m' [p1]) (ha : OwnOff own [p1.1]) : InvEndG h₀ L J own s₁ { s₁ with heap := h', toks := tk } := endG F N rfl hj ha
theorem end1 {p1 : Addr × Obj} (F : Fr h₀ L h' m') (N : News h₀ L h' (p1 :: (r ++ own))) (hj : J m' (p1 :: r)) (ha : OwnOff own (p1.1 :: r.map (·.1))) : InvEndG h₀ L J own s₁ { s₁ with heap := h', toks := tk } := endG F N rfl hj ha
theorem end2' {p1 p2 : Addr × Obj} (F : Fr h₀ L h' m') (N : News h₀ L h' (p1 :: p2 :: own)) (hj : J m' [p1, p2]) (ha : OwnOff own [p1.1, p2.1]) : InvEndG h₀ L J own s₁ { s₁ with heap := h', toks := tk } := endG F N rfl hj ha
theorem end2 {p1 p2 : Addr × Obj} (F : Fr h₀ L h' m') (N : News h₀ L h' (p1 :: p2 :: (r ++ own))) (hj : J m' (p1 :: p2 :: r)) (ha : OwnOff own (p1.1 :: p2.1 :: r.map (·.1))) : InvEndG h₀ L J own s₁ { s₁ with heap := h', toks := tk } := endG F N rfl hj ha
theorem end3' {p1 p2 p3 : Addr × Obj} (F : Fr h₀ L h' m') (N : News h₀ L h' (p1 :: p2 :: p3 :: own)) (hj : J m' [p1, p2, p3]) (ha : OwnOff own [p1.1, p2.1, p3.1]) : InvEndG h₀ L J own s₁ { s₁ with heap := h', toks := tk } := endG F N rfl hj ha
theorem end3 {p1 p2 p3 : Addr × Obj} (F : Fr h₀ L h' m') (N : News h₀ L h' (p1 :: p2 :: p3 :: (r ++ own))) (hj : J m' (p1 :: p2 :: p3 :: r)) (ha : OwnOff own (p1.1 :: p2.1 :: p3.1 :: r.map (·.1))) : InvEndG h₀ L J own s₁ { s₁ with heap := h', toks := tk } := endG F N rfl hj ha
theorem end4' {p1 p2 p3 p4 : Addr × Obj} (F : Fr h₀ L h' m') (N : News h₀ L h' (p1 :: p2 :: p3 :: p4 :: own)) (hj : J m' [p1, p2, p3, p4]) (ha : OwnOff own [p1.1, p2.1, p3.1, p4.1]) : InvEndG h₀ L J own s₁ { s₁ with heap := h', toks := tk } := endG F N rfl hj ha
theorem end4 {p1 p2 p3 p4 : Addr × Obj} (F : Fr h₀ L h' m') (N : News h₀ L h' (p1 :: p2 :: p3 :: p4 :: (r ++ own))) (hj : J m' (p1 :: p2 :: p3 :: p4 :: r)) (ha : OwnOff own (p1.1 :: p2.1 :: p3.1 :: p4.1 :: r.map (·.1))) : InvEndG h₀ L J own s₁ { s₁ with heap := h', toks := tk } := endG F N rfl hj ha
theorem end5' {p1 p2 p3 p4 p5 : Addr × Obj} (F : Fr h₀ L h' m') (N : News h₀ L h' (p1 :: p2 :: p3 :: p4 :: p5 :: own)) (hj : J m' [p1, p2, p3, p4, p5]) (ha : OwnOff own [p1.1, p2.1, p3.1, p4.1, p5.1]) : InvEndG h₀ L J own s₁ { s₁ with heap := h', toks := tk } := endG F N rfl hj ha
theorem end5 {p1 p2 p3 p4 p5 : Addr × Obj} (F : Fr h₀ L h' m') (N : News h₀ L h' (p1 :: p2 :: p3 :: p4 :: p5 :: (r ++ own))) (hj : J m' (p1 :: p2 :: p3 :: p4 :: p5 :: r)) (ha : OwnOff own (p1.1 :: p2.1 :: p3.1 :: p4.1 :: p5.1 :: r.map (·.1))) : InvEndG h₀ L J own s₁ { s₁ with heap := h', toks := tk } := endG F N rfl hj ha
end

theorem new_of {W : List Addr} {g h : Heap} {a : Addr} (hg2 : ∀ b o, b ∉ W → h.get? b = some o → g.get? b = some o) (ha : a ∉ W) (q : g.get? a = none) : h.get? a = none := by
  cases e : h.get? a with
  | none => rfl
  | some o => rw [hg2 a o ha e] at q; cases q

theorem keeps_but {d : Addr} {h h' : Heap} (hs : Heap.SameBut d h h') : Keeps [d] h h' := fun b _ hb e => (hs.2 b (fun q => hb (by rw [q]; exact .head _))).trans e
end
local macro_rules | `(tactic| k_room) => `(tactic| ((try simp only [depth_under_make, depth_under_kw, depth_in1, depth_deeper, depth_caller, recursionLimit] at *); (try dsimp only [ktrTop, Around.deeper] at *); omega))
local macro_rules | `(tactic| k_units) => `(tactic| ((try simp only [units_in1, units_deeper, Around.mark_units, units_caller, cLine] at *); (try dsimp only [ktrTop, Around.deeper] at *); omega))
local macro_rules | `(tactic| k_all) => `(tactic| (refine List.forall_mem_append.mpr ⟨?_, ?_⟩ <;> k_all))
local macro_rules | `(tactic| k_all) => `(tactic| with_reducible assumption)
local macro_rules | `(tactic| walk_at "m for") => `(tactic| (k_here; (rename Fr _ _ _ _ => lF'); (with_unfolding_all refine' For_invVF lF' ?k1 ?k2 ?_; (case k1 => exact rfl); (case k2 => exact rfl); k_whole)))
theorem words_w2 : True := by
  w_top off
  k_with_none
  (k_with "eval Dict nil nil" => (k_here; k_dflt (refine' newDict_K ?k1 ?k2 (TopRead.nolimit (by k_asm)) ?_; (case k1 => k_asm); (case k2 => k_asm); k_whole); intro dd h' od F' N' dl dlo dhs dfs dhi dfi; (try k_lt dl); (try k_sweep)))
  trivial
section
theorem words_w3 : True := by
  w_top off
  k_with_none
  (k_with "eval Dict nil nil" => (k_here; k_dflt (refine' newDict_K ?k1 ?k2 (TopRead.nolimit (by k_asm)) ?_; (case k1 => k_asm); (case k2 => k_asm); k_whole); intro dd h' od F' N' dl dlo dhs dfs dhi dfi; (try k_lt dl); (try k_sweep)))
  trivial
section
variable {w : World} {mean : ExcName → Option Value} {mg mb : Str → Option Value} {dp un : Nat} {gd : Option (List Code)} {cn : Str} {cs : Scope} {ca : Addr} {ccd : Value} {cl : List (Str × Addr)}
    {outer : List Env} {A₀ : Around} {base h₀ : Heap} {L : Addr} {m : Str → Option Value} {s : Shared} {Q : Value → Shared → Prop} {E : Value → Shared → Prop}
    {r : Addr} {vs : List Value} {ns : List Int} {n : Nat} {news : List (Addr × Obj)} {g : Obj → List (Addr × Obj)}

set_option maxHeartbeats 4000000 in
theorem next_call (B : Below A₀ base outer h₀) (F : Fr h₀ L s.heap m) (X : (Kf w).In h₀) (T : TopM mean mg mb h₀) (hk : cs.kind = .function) (hdp : dp < 900) (hun : un < 1000)
    (N : News h₀ L s.heap [(r, listOf vs.toArray n)]) (hi : IntsAre vs ns) (hlen : vs.length ≤ 200)
    (ret : ∀ h' tk vs' ns' i t n', Keeps [r] s.heap h' → h'.get? r = some (listOf vs'.toArray n') → IntsAre vs' ns' → vs'.length ≤ vs.length → Q (.int i t) { s with heap := h', toks := tk }) :
    wpAny (model Pg w) (ktrTop dp un gd cn cs L ca ccd cl outer) (call (.ref 89) [.ref r]) Q E s := by
  revert X T; dsimp only [Kf, Pg, TopM]; k_fill; intro X T
  refine' call_W [(r, listOf vs.toArray n)] N B F X T hk ?ho ?hcd ?hr ?hb ?hl ?_ ?c2 ?c3 ?c4 ?c5
  (case ho => k_is); (case hcd => k_is); (case hr => k_room)
  (case hb => first | exact BindsTo.of_eq rfl | exact binds_K (by k_in) rfl (by k_is) rfl rfl rfl)
  (case c5 => decide); (case hl => exact locs rfl); (case c2 => exact rfl); (case c3 => exact rfl); (case c4 => exact rfl)
  k_whole
  intro g0 L0 h1 hg1 hg2 hL0 F0 N0 B0 X0 T0
  (try dsimp only)
  (try k_fold)
  clear F N B X T
  k_steps
  · (rename Fr _ _ _ _ => F1); (rename News _ _ _ _ => N1); (rename decide _ = true => hd1)
    refine LeaveW.intro F1 (ret _ _ vs ns 0 _ n (fun b o hb e => F1.keep b o (hg2 b o (by simpa using hb) e)) (N1.get (.tail _ (.head _))) hi (Nat.le_refl _))
  · (rename decide _ = false => hd1)
    have hne : 0 < vs.length := by
      have h1 := of_decide_eq_false hd1
      have h2 := hi.length
      cases ns with
      | nil => exact absurd rfl h1
      | cons a b => rw [h2]; simp
    k_steps
    (rename Fr _ _ _ _ => F1); (rename News _ _ _ _ => N1); (rename IntsAre (List.dropLast _) _ => hI1)
    refine LeaveW.intro F1 (ret _ _ _ _ _ _ _ (fun b o hb e => F1.keep b o (hg2 b o (by simpa using hb) e)) (N1.get (.tail _ (.head _))) hI1 (by simp))

theorem next_N (B : Below A₀ base outer h₀) (F : Fr h₀ L s.heap m) (X : (Kf w).In h₀) (T : TopM mean mg mb h₀) (hk : cs.kind = .function) (hdp : dp < 900) (hun : un < 1000)
    (N : News h₀ L s.heap news) (U : UpdF r (listOf vs.toArray n) news g) (hi : IntsAre vs ns) (hlen : vs.length ≤ 200)
    (ret : ∀ h' tk vs' ns' i t n', Fr h₀ L h' m → News h₀ L h' (g (listOf vs'.toArray n')) → IntsAre vs' ns' → vs'.length ≤ 200 → Q (.int i t) { s with heap := h', toks := tk }) :
    wpAny (model Pg w) (ktrTop dp un gd cn cs L ca ccd cl outer) (call (.ref 89) [.ref r]) Q E s := by
  refine next_call B F X T hk hdp hun (news_only N (updF_mem U)) hi hlen fun h' tk vs' ns' i t n' K hr hi' hl' => ?_
  obtain ⟨F', N'⟩ := upd_after F N U K hr
  exact ret h' tk vs' ns' i t n' F' N' hi' (Nat.le_trans hl' hlen)
end
end
theorem words_w4 : True := by
  w_top off
  k_with_none
  (k_with "eval Dict nil nil" => (k_here; k_dflt (refine' newDict_K ?k1 ?k2 (TopRead.nolimit (by k_asm)) ?_; (case k1 => k_asm); (case k2 => k_asm); k_whole); intro dd h' od F' N' dl dlo dhs dfs dhi dfi; (try k_lt dl); (try k_sweep)))
  (k_with "call ref" => (k_here; (with_reducible show wpAny _ _ (call (Value.ref 89) _) _ _ _); k_dflt (refine' next_N ?B ?F ?X ?T ?hk ?hd ?hu ?N ?U ?hi ?hl ?_; (case B => k_asm); (case F => k_asm); (case X => k_asm); (case T => k_asm); (case hk => first | rfl | assumption); (case N => k_asm); (case U => k_updF); (case hi => with_reducible assumption); (case hl => omega); (case hd => k_room); (case hu => k_units); k_whole); intro h' tk' vs' ns' i' t' n' F' N' hI' hL'; (try dsimp only at N'); (try k_sweep)))
  trivial
section
theorem words_w5 : True := by
  w_top off
  k_with_none
  (k_with "eval Dict nil nil" => (k_here; k_dflt (refine' newDict_K ?k1 ?k2 (TopRead.nolimit (by k_asm)) ?_; (case k1 => k_asm); (case k2 => k_asm); k_whole); intro dd h' od F' N' dl dlo dhs dfs dhi dfi; (try k_lt dl); (try k_sweep)))
  (k_with "call ref" => (k_here; (with_reducible show wpAny _ _ (call (Value.ref 89) _) _ _ _); k_dflt (refine' next_N ?B ?F ?X ?T ?hk ?hd ?hu ?N ?U ?hi ?hl ?_; (case B => k_asm); (case F => k_asm); (case X => k_asm); (case T => k_asm); (case hk => first | rfl | assumption); (case N => k_asm); (case U => k_updF); (case hi => with_reducible assumption); (case hl => omega); (case hd => k_room); (case hu => k_units); k_whole); intro h' tk' vs' ns' i' t' n' F' N' hI' hL'; (try dsimp only at N'); (try k_sweep)))
  trivial
/-! a dict read by its entries, whatever its keys are -/
section
variable {prog : Program} {w : World} {A : Around} {E : Value → Shared → Prop} {s : Shared}

noncomputable def DictEs (h : Heap) (d : Addr) (es : Array DictEntry) (ep : Nat) : Prop := ∃ o, h.get? d = some o ∧ o.ExactDict ∧ o.data = .dict es ep
theorem DictEs.typeIs {d : Addr} {es : Array DictEntry} {ep : Nat} (x : DictEs s.heap d es ep) : s.TypeIs (.ref d) "dict" := let ⟨o, ho, hc, _⟩ := x; ⟨o, ho, hc.1⟩
theorem DictEs.at {h h' : Heap} {d : Addr} {es : Array DictEntry} {ep : Nat} (x : DictEs h d es ep) (e : ∀ o, h.get? d = some o → h'.get? d = some o) : DictEs h' d es ep := let ⟨o, ho, r⟩ := x; ⟨o, e o ho, r⟩

theorem pyIter_es {d : Addr} {es : Array DictEntry} {ep : Nat} {Q : Value → Shared → Prop} (lo : (d == sysModules) = false) (hm : DictEs s.heap d es ep)
    (hQ : Q (.ref s.heap.objs.size) { s with heap := s.heap.push { cls := .type "dict_keyiterator", data := .fields #[.ref d, .int 0 0, .int es.size 0, .int ep 0] } }) :
    wpAny (model prog w) A (pyIter (.ref d)) Q E s := by
  have hT := hm.typeIs
  obtain ⟨o, ho, hc, hdat⟩ := hm
  refine wpAny_pyIter_slot hT PySem.F.slot_dict_iter (wpAny_call_entry PySem.F.slot_dict_iter hT PySem.F.entry_dict_iter ?_ (PySem.F.args_dict_iter_1 _))
  unfold Builtin.«dict.__iter__»
  refine wpAny_bind ?_
  unfold Builtin.Dict.dictSlotNone
  refine wpAny_bind (wpAny_notOrdered_dict hT (wpAny_pure ?_))
  show wpAny _ _ (Builtin.Dict.showsAll d >>= _) _ _ s
  unfold Builtin.Dict.showsAll
  rw [if_neg (by rw [lo]; exact Bool.false_ne_true)]
  refine wpAny_bind (wpAny_pure (wpAny_bind (wpAny_dictEntries ho hdat (wpAny_bind (wpAny_dictEpoch ho hdat ?_)))))
  refine wpAny_bind (wpAny_newObj_type (wpAny_pure ⟨_, rfl, "dict_keyiterator", _, ⟨_, Heap.get?_push_size _ rfl, rfl⟩, PySem.F.slot_dict_keyiterator_next.lookup, ?_⟩))
  simpa [rawInt] using hQ

theorem pyNext_es {it d : Addr} {i ep : Nat} {es : Array DictEntry} {Q : Option Value → Shared → Prop} (hh : A.handled = none) (hit : s.heap.IsKeyIter it d i es.size ep) (hm : DictEs s.heap d es ep)
    (some' : ∀ e h', es[i]? = some e → h'.IsKeyIter it d (i + 1) es.size ep → Heap.SameBut it s.heap h' → Q (some e.key) { s with heap := h' })
    (none' : es[i]? = none → ∀ h', Heap.ExtBut it s.heap h' → Q none { s with heap := h' }) :
    wpAny (model prog w) A (pyNext (.ref it)) Q E s := by
  obtain ⟨o, ho, hc, hd⟩ := id hit
  obtain ⟨od, hod, hcd, hdd⟩ := id hm
  have hown : Builtin.Dict_items.ownsTuple "dict_keyiterator" = false := by decide
  unfold pyNext
  refine wpAny_bind (wpAny_attempt (wpAny_callSpecial?_slot (name := Str.ofString "__next__") hit.typeIs PySem.F.slot_dict_keyiterator_next
    (wpAny_call_entry PySem.F.slot_dict_keyiterator_next hit.typeIs PySem.F.entry_dict_keyiterator_next ?_ (PySem.F.args_dict_keyiterator_next_1 _))))
  refine wpAny_bind (wpAny_pure (wpAny_bind (wpAny_bind ?_)))
  first | refine wpAny_bind (wpAny_typeNameOfWhole_keyiter hit.typeIs (wpAny_pure ?_)) | refine wpAny_bind (wpAny_typeNameOf_keyiter hit.typeIs (wpAny_pure ?_))
  refine wpAny_bind (wpAny_fieldsOf ho hd ?_)
  simp only [hown, Bool.false_eq_true, if_false]
  show wpAny _ _ (if (Value.ref d == Value.none) = true then _ else _) _ _ s
  rw [if_neg (show ¬ ((Value.ref d == Value.none) = true) from Bool.false_ne_true)]
  refine wpAny_bind (wpAny_pure (wpAny_bind (wpAny_dictEntries hod hdd ?_)))
  rw [if_neg (by simp)]
  refine wpAny_bind (wpAny_pure (wpAny_bind (wpAny_dictEpoch hod hdd ?_)))
  rw [if_neg (by simp)]
  refine wpAny_pure ?_
  cases hx : es[i]? with
  | some e =>
    simp only [show ¬ ((i : Int) < 0) from by omega, if_false, Int.toNat_natCast, hx]
    refine wpAny_bind ?_
    first | refine wpAny_bind (wpAny_typeNameOfWhole_keyiter hit.typeIs (wpAny_pure ?_)) | refine wpAny_bind (wpAny_typeNameOf_keyiter hit.typeIs (wpAny_pure ?_))
    refine wpAny_bind (wpAny_isOneOf_keyiter hit.typeIs ?_)
    show wpAny _ _ (setField (.ref it) 1 (rawInt ((i : Int) + 1)) >>= _) _ _ s
    refine wpAny_bind (wpAny_setField ho hd (by simp) ?_)
    have hit' : (s.heap.update it (Obj.mapFields (·.setIfInBounds 1 (rawInt ((i : Int) + 1))))).IsKeyIter it d (i + 1) es.size ep :=
      ⟨_, Heap.get?_update_self _ ho (Obj.isFreed_of_fields (Obj.data_mapFields hd _)), (Obj.cls_mapFields ..).trans hc, by rw [Obj.data_mapFields hd]; simp [rawInt]⟩
    refine wpAny_bind (wpAny_holding ?_)
    refine wpAny_bind (wpAny_isOneOf_keyiter (s := { s with heap := s.heap.update it (Obj.mapFields (·.setIfInBounds 1 (rawInt ((i : Int) + 1)))) }) hit'.typeIs ?_)
    show wpAny _ _ (pure e.key) _ _ _
    exact wpAny_pure (wpAny_pure ⟨_, rfl, wpAny_pure (some' e _ hx hit' (Heap.SameBut.update ..))⟩)
  | none =>
    simp only [show ¬ ((i : Int) < 0) from by omega, if_false, Int.toNat_natCast, hx]
    refine wpAny_bind ?_
    first | refine wpAny_bind (wpAny_typeNameOfWhole_keyiter hit.typeIs (wpAny_pure ?_)) | refine wpAny_bind (wpAny_typeNameOf_keyiter hit.typeIs (wpAny_pure ?_))
    show wpAny _ _ (setField (.ref it) 0 .none >>= _) _ _ s
    refine wpAny_bind (wpAny_setField ho hd (by simp) ?_)
    show wpAny _ _ (newExc (.type "StopIteration") [] >>= _) _ _ _
    refine wpAny_bind ?_
    simp only [newExc, newTuple]
    refine wpAny_bind (wpAny_newObj_type ?_ (by size_fits))
    refine wpAny_bind (m := firstArgMember _ _) (wpAny_of_eq (a := Value.none) (by first | rfl | (simp only [firstArgMember]; rfl)) ?_)
    refine wpAny_newObj_type ?_ (by size_fits)
    simp only [raiseNew]
    refine wpAny_bind (wpAny_handled ?_)
    rw [show A.in1.handled = none from hh]
    refine wpAny_bind (wpAny_pure (wpAny_throw ?_))
    refine wpAny_bind (wpAny_isInstance (T := "StopIteration") (b := true) ⟨_, Heap.get?_push_size _ rfl, rfl⟩ isSubtype_stop ?_)
    exact wpAny_pure (none' hx _ (((Heap.SameBut.update ..).extBut.push _).push _))

theorem walks_es (hh : A.handled = none) (I d : Addr) (hne : d ≠ I) (es : Array DictEntry) (ep : Nat) :
    Walks prog w A I [I, d] [I] es.size (fun i v => ∃ e, es[i]? = some e ∧ v = e.key) (fun i h => h.IsKeyIter I d i es.size ep ∧ DictEs h d es ep) where
  sub := fun b hb => by simp at hb; simp [hb]
  frame := fun _ _ _ st hk => ⟨st.1.at fun o e => hk I (by simp) o e, st.2.at fun o e => hk d (by simp) o e⟩
  item := fun i s Q E hi st hQ => pyNext_es hh st.1 st.2
    (fun e h' hx hit' hs' => hQ e.key h' s.toks ⟨e, hx, rfl⟩ ⟨hit', st.2.at fun o q => hs'.extBut d o hne q⟩ fun b o hb q => hs'.extBut b o (fun z => hb (by simp [z])) q)
    (fun hx => absurd hx (by simp [hi]))
  done := fun s Q E st hQ => pyNext_es hh st.1 st.2 (fun e h' hx => absurd hx (by simp))
    (fun _ h' he' => hQ h' s.toks fun b o hb q => he' b o (fun z => hb (by simp [z])) q)
  self := fun _ _ _ _ st hQ => wpAny_pyIter_keyiter st.1 hQ
end

section
variable {prog : Program} {w : World} {A : Around} {E : Value → Shared → Prop} {s : Shared} {env : Env} {h₀ : Heap} {x : Str} {body : List Stmt} {Q : Flow → Shared → Prop}
/-- a loop over a dict of the base -/
theorem dictG {d : Addr} {es : Array DictEntry} {ep : Nat} {m₀ : Str → Option Value} {news : List (Addr × Obj)} (J : Nat → (Str → Option Value) → List (Addr × Obj) → Prop)
    (hh : A.handled = none) (lo : (d == sysModules) = false) (hd : DictEs h₀ d es ep)
    (F : Fr h₀ env.locals s.heap m₀) (N : News h₀ env.locals s.heap news) (hj : J 0 m₀ news)
    (turn : ∀ i e m₁ nx h tk own, es[i]? = some e → OwnOff own (nx.map (·.1)) → J i m₁ nx → Fr h₀ env.locals h (fun y => if y = x then some e.key else m₁ y) → News h₀ env.locals h (nx ++ own) →
      wpAny (model prog w) A (execs body env) (InvPostG h₀ env.locals (J (i + 1)) own { s with heap := h, toks := tk } Q) E { s with heap := h, toks := tk })
    (done : ∀ m₁ nx h tk, J es.size m₁ nx → Fr h₀ env.locals h m₁ → News h₀ env.locals h nx → Q .next { s with heap := h, toks := tk }) :
    wpAny (model prog w) A (pyIter (.ref d)) (fun it s₂ => LoopAtV prog w A h₀ env x body Q E it s₂) E s := by
  have hds : DictEs s.heap d es ep := hd.at fun o e => F.keep d o e
  obtain ⟨od, hod, _⟩ := id hd
  have hlt : d < h₀.objs.size := Heap.lt_size hod
  have hne : d ≠ s.heap.objs.size := Nat.ne_of_lt (Nat.lt_trans (Nat.lt_of_lt_of_le hlt F.above) F.ns.lt)
  refine pyIter_es lo hds ?_
  have W := walks_es (prog := prog) (w := w) hh s.heap.objs.size d hne es ep
  refine loopG (s := { s with heap := s.heap.push _ }) J W ?_ ?_ (next_is_new F) ?_ ?_ ⟨⟨_, Heap.get?_push_size _ rfl, rfl, rfl⟩, hds.at fun o e => Heap.get?_push_of_some _ e⟩ (F.push _) (fun p hp => ⟨Heap.get?_push_of_some _ (N p hp).1, (N p hp).2⟩) hj ?_ ?_
  · rintro i h ⟨⟨o, ho, _⟩, _⟩
    exact ⟨o, ho⟩
  · intro hm
    rcases List.mem_cons.mp hm with e | hm
    · exact absurd F.ns.lt (e ▸ Nat.lt_irrefl _)
    · exact absurd (Nat.lt_of_lt_of_le hlt F.above) ((List.mem_singleton.mp hm) ▸ Nat.lt_irrefl _)
  · intro p hp q
    exact absurd (Heap.lt_size (N p hp).1) (q ▸ Nat.lt_irrefl _)
  · intro b hb hbI
    rcases List.mem_cons.mp hb with e | hm
    · exact absurd e hbI
    · rw [List.mem_singleton.mp hm]; exact .inl (by rw [hod]; exact Option.some_ne_none _)
  · rintro i v m₁ nx h tk own hin ⟨e, he, rfl⟩ hoff hJ F₁ N₁
    exact turn i e m₁ nx h tk own he hoff hJ F₁ N₁
  · exact done
end

/-- key reads val, now and in every later state that keeps this heap -/
noncomputable def KeyReads (w : World) (h : Heap) (d : Addr) (key val : Value) : Prop :=
  ∀ (A : Around) (E : Value → Shared → Prop) (s : Shared) (Q : Value → Shared → Prop), (∀ b o, h.get? b = some o → s.heap.get? b = some o) → A.units + 1 < cLine → (∀ tk, Q val { s with toks := tk }) → wpAny (model Pg w) A (getItem (.ref d) key) Q E s
/-- a dict of ints that reads them by its keys -/
noncomputable def DictRd (w : World) (h : Heap) (d : Addr) (xs : List Int) : Prop :=
  (d == sysModules) = false ∧ xs.length ≤ 100 ∧ ∃ es ep, DictEs h d es ep ∧ IntsAre (es.toList.map (·.val)) xs ∧ ∀ e ∈ es.toList, KeyReads w h d e.key e.val ∧ ((∃ k t, e.key = .int k t) ∨ ∃ a, e.key = .ref a)
theorem KeyReads.keeps {w : World} {h h' : Heap} {d : Addr} {key val : Value} (x : KeyReads w h d key val) (k : ∀ b o, h.get? b = some o → h'.get? b = some o) : KeyReads w h' d key val :=
  fun A E s Q k' hu q => x A E s Q (fun b o e => k' b o (k b o e)) hu q
theorem DictRd.keeps {w : World} {h h' : Heap} {d : Addr} {xs : List Int} (x : DictRd w h d xs) (k : ∀ b o, h.get? b = some o → h'.get? b = some o) : DictRd w h' d xs :=
  let ⟨lo, hl, es, ep, a, b, c⟩ := x; ⟨lo, hl, es, ep, a.at fun o e => k d o e, b, fun e he => ⟨(c e he).1.keeps k, (c e he).2⟩⟩

theorem pairs_vals {prog : Program} {w : World} {K : Type} [DecidableEq K] {knd : PySem.KeyKind prog w K} {es : List DictEntry} {kvs : List (K × Value)} (h : Pairs knd es kvs) : es.map (·.val) = kvs.map (·.2) := by
  induction h with
  | nil => rfl
  | cons h1 h2 _ ih => simp only [List.map_cons, ih, h2]

/-- from the library's dicts -/
theorem DictRd.of_ints {w : World} {h : Heap} {d : Addr} {o : Obj} {kvs : List (Int × Value)} {xs : List Int} (lo : (d == sysModules) = false) (ho : h.get? d = some o) (hd : o.IsDictOf (PySem.intKind Pg w) kvs) (hi : IntsAre (kvs.map (·.2)) xs) (hl : xs.length ≤ 100) : DictRd w h d xs := by
  obtain ⟨es, ep, hx, hdat, hk, hp, hn⟩ := id hd
  have hv : es.toList.map (·.val) = kvs.map (·.2) := by
    exact pairs_vals hp
  refine ⟨lo, hl, es, ep, ⟨o, ho, hx, hdat⟩, hv ▸ hi, fun e he => ?_⟩
  obtain ⟨j, hj⟩ := List.getElem?_of_mem he
  have hj' : j < kvs.length := by
    rw [← hp.length]
    rcases Nat.lt_or_ge j es.toList.length with q | q
    · exact q
    · rw [List.getElem?_eq_none q] at hj; cases hj
  have hkv : kvs[j]? = some (kvs[j].1, kvs[j].2) := by simp [hj']
  have hg := hp.get? hj hkv
  have hl : valueAt kvs kvs[j].1 = some kvs[j].2 := valueAt_of_get hn hkv
  refine ⟨fun A E s Q k hu q => ?_, ?_⟩
  · have hD : s.heap.DictOf (PySem.intKind Pg w) d kvs := Heap.dictOf_iff.mpr ⟨o, k d o ho, hd⟩
    exact wpAny_getItem_of hg.1 hD.mapOf hl (hg.2 ▸ q _)
  · obtain ⟨t, e2⟩ := Value.isInt_shape hg.1
    exact .inl ⟨_, t, e2⟩

theorem DictRd.of_tuples {w : World} {h : Heap} {d : Addr} {ys : List (List Int × Addr × Value)} {xs : List Int} (lo : (d == sysModules) = false) (hd : h.DictOfH (tupleKind (PySem.intKind Pg w)) d ys) (hi : IntsAre (ys.map (·.2.2)) xs) (hl : xs.length ≤ 100) : DictRd w h d xs := by
  obtain ⟨o, es, ep, ho, hx, hdat, he, hks, hn⟩ := id hd
  have hv : es.toList.map (·.val) = ys.map (·.2.2) := by
    rw [he, List.map_map]; rfl
  refine ⟨lo, hl, es, ep, ⟨o, ho, hx, hdat⟩, hv ▸ hi, fun e hm => ?_⟩
  rw [he] at hm
  obtain ⟨y, hy, rfl⟩ := List.mem_map.mp hm
  refine ⟨fun A E s Q k hu q => ?_, .inr ⟨_, rfl⟩⟩
  have hks' : ∀ z ∈ ys, (tupleKind (PySem.intKind Pg w)).is s.heap z.1 z.2.1 := fun z hz => let ⟨oz, items, n, ho, r⟩ := hks z hz; ⟨oz, items, n, k _ _ ho, r⟩
  have hD : s.heap.DictOfH (tupleKind (PySem.intKind Pg w)) d ys := ⟨o, es, ep, k d o ho, hx, hdat, he, hks', hn⟩
  obtain ⟨j, hj⟩ := List.getElem?_of_mem hy
  exact wpAny_getItem_heap (tupleKind_room_in1 hu) (hks' y hy) hD (atKey_of_get hn hj) (q _)
end
section
theorem words_w6 : True := by
  w_top off
  k_with_none
  (k_with "eval Dict nil nil" => (k_here; k_dflt (refine' newDict_K ?k1 ?k2 (TopRead.nolimit (by k_asm)) ?_; (case k1 => k_asm); (case k2 => k_asm); k_whole); intro dd h' od F' N' dl dlo dhs dfs dhi dfi; (try k_lt dl); (try k_sweep)))
  (k_with "call ref" => (k_here; (with_reducible show wpAny _ _ (call (Value.ref 89) _) _ _ _); k_dflt (refine' next_N ?B ?F ?X ?T ?hk ?hd ?hu ?N ?U ?hi ?hl ?_; (case B => k_asm); (case F => k_asm); (case X => k_asm); (case T => k_asm); (case hk => first | rfl | assumption); (case N => k_asm); (case U => k_updF); (case hi => with_reducible assumption); (case hl => omega); (case hd => k_room); (case hu => k_units); k_whole); intro h' tk' vs' ns' i' t' n' F' N' hI' hL'; (try dsimp only at N'); (try k_sweep)))
  trivial
/-! the two kinds of dict that the law makes: by ints, by tuples of ints -/
noncomputable def AllInts (vs : List Value) : Prop := ∀ v ∈ vs, ∃ k t, v = .int k t
theorem AllInts.ints : ∀ {vs : List Value}, AllInts vs → ∃ ns, IntsAre vs ns
  | [], _ => ⟨[], .nil⟩
  | v :: vs, h => by
    obtain ⟨k, t, rfl⟩ := h v (.head _)
    obtain ⟨ns, hn⟩ := AllInts.ints (vs := vs) fun u hu => h u (.tail _ hu)
    exact ⟨k :: ns, .cons k t hn⟩

/-- these objects stand -/
noncomputable def Stand (led : List (Addr × Obj)) (h : Heap) : Prop := ∀ p ∈ led, h.get? p.1 = some p.2
theorem Stand.keeps {led : List (Addr × Obj)} {h h' : Heap} (x : Stand led h) (k : ∀ b o, h.get? b = some o → h'.get? b = some o) : Stand led h' := fun p hp => k _ _ (x p hp)

structure DKind (w : World) (kled : List (Addr × Obj)) (vs : List Value) where
  Good : Obj → Nat → Prop
  empty : ∀ o, o.IsDictOf (PySem.intKind Pg w) [] → Good o 0
  set : ∀ {A : Around} {E : Value → Shared → Prop} {s : Shared} {Q : Unit → Shared → Prop} {d : Addr} {o : Obj} {v : Value} {x : Int} {t : Tok} {n : Nat}, v ∈ vs → Stand kled s.heap →
    s.heap.get? d = some o → Good o n → n ≤ 100 → A.units + 1 < cLine →
    (∀ h' o' tk, h'.get? d = some o' → Good o' (n + 1) → Heap.SameBut d s.heap h' → Q () { s with heap := h', toks := tk }) → wpAny (model Pg w) A (setItem (.ref d) v (.int x t)) Q E s
  rd : ∀ {d : Addr} {o : Obj} {n : Nat}, (d == sysModules) = false → Good o n → n ≤ 100 → ∃ xs, ∀ h : Heap, Stand kled h → h.get? d = some o → DictRd w h d xs

theorem stored_ints {K : Type} [DecidableEq K] {kvs : List (K × Value)} {k : K} {x : Int} {t : Tok} (h : AllInts (kvs.map (·.2))) : AllInts ((stored kvs k (.int x t)).map (·.2)) := by
  intro v hv
  unfold stored at hv
  split at hv
  · rw [List.map_map] at hv
    obtain ⟨p, hp, rfl⟩ := List.mem_map.mp hv
    show ∃ k' t', (if p.1 = k then (p.1, Value.int x t) else p).2 = _
    split
    · exact ⟨x, t, rfl⟩
    · exact h _ (List.mem_map.mpr ⟨p, hp, rfl⟩)
  · rw [List.map_append] at hv
    rcases List.mem_append.mp hv with q | q
    · exact h _ q
    · exact ⟨x, t, by simpa using q⟩
theorem stored_len {K : Type} [DecidableEq K] {kvs : List (K × Value)} {k : K} {v : Value} : (stored kvs k v).length ≤ kvs.length + 1 := by
  unfold stored; split <;> simp
theorem storedH_ints {K : Type} [DecidableEq K] {ys : List (K × Addr × Value)} {k : K} {a : Addr} {x : Int} {t : Tok} (h : AllInts (ys.map (·.2.2))) : AllInts ((storedH ys k a (.int x t)).map (·.2.2)) := by
  intro v hv
  unfold storedH at hv
  split at hv
  · rw [List.map_map] at hv
    obtain ⟨p, hp, rfl⟩ := List.mem_map.mp hv
    show ∃ k' t', (putAt k (Value.int x t) p).2.2 = _
    unfold putAt
    split
    · exact ⟨x, t, rfl⟩
    · exact h _ (List.mem_map.mpr ⟨p, hp, rfl⟩)
  · rw [List.map_append] at hv
    rcases List.mem_append.mp hv with q | q
    · exact h _ q
    · exact ⟨x, t, by simpa using q⟩
theorem storedH_len {K : Type} [DecidableEq K] {ys : List (K × Addr × Value)} {k : K} {a : Addr} {v : Value} : (storedH ys k a v).length ≤ ys.length + 1 := by
  unfold storedH; split <;> simp

noncomputable def intD (w : World) (vs : List Value) (hv : AllInts vs) : DKind w [] vs where
  Good := fun o n => ∃ kvs, o.IsDictOf (PySem.intKind Pg w) kvs ∧ AllInts (kvs.map (·.2)) ∧ kvs.length ≤ n
  empty := fun o h => ⟨[], h, (fun _ hx => nomatch hx), Nat.le_refl _⟩
  set := by
    rintro A E s Q d o v x t n hm - ho ⟨kvs, hd, hi, hl⟩ hn hu q
    obtain ⟨k, tk, rfl⟩ := hv v hm
    refine wpAny_setItem_pairs (intKind_is _ _ k tk) (Heap.dictOf_iff.mpr ⟨o, ho, hd⟩) (fun h' hmm hs => ?_) (by rw [PySem.sizeLine_eq]; omega)
    obtain ⟨o', ho', hd'⟩ := Heap.dictOf_iff.mp hmm
    have := stored_len (kvs := kvs) (k := k) (v := Value.int x t)
    exact q h' o' _ ho' ⟨_, hd', stored_ints hi, by omega⟩ hs
  rd := by
    rintro d o n lo ⟨kvs, hd, hi, hln⟩ hn
    obtain ⟨xs, hx⟩ := hi.ints
    exact ⟨xs, fun h _ ho => DictRd.of_ints lo ho hd hx (by have := hx.length; rw [List.length_map] at this; omega)⟩

/-- a menu of tuples of ints -/
noncomputable def TupKeys (w : World) (kled : List (Addr × Obj)) (vs : List Value) : Prop := ∀ v ∈ vs, ∃ a ks o, v = .ref a ∧ (a, o) ∈ kled ∧ TupKeyObj (PySem.intKind Pg w) ks o

noncomputable def TupGood (w : World) (kled : List (Addr × Obj)) (o : Obj) (n : Nat) : Prop :=
  ∃ (es : Array DictEntry) (ep : Nat) (ys : List (List Int × Addr × Value)), o.ExactDict ∧ o.data = .dict es ep ∧ es.toList = ys.map (entryOfKey (tupleKind (PySem.intKind Pg w))) ∧
    (∀ y ∈ ys, ∃ ok, (y.2.1, ok) ∈ kled ∧ TupKeyObj (PySem.intKind Pg w) y.1 ok) ∧ (ys.map (·.1)).Nodup ∧ AllInts (ys.map (·.2.2)) ∧ ys.length ≤ n

noncomputable def tupD (w : World) (kled : List (Addr × Obj)) (vs : List Value) (hv : TupKeys w kled vs) : DKind w kled vs where
  Good := TupGood w kled
  empty := fun o h => by
    obtain ⟨es, ep, hc, hdat, _, hp, _⟩ := h
    have he : es.toList = [] := List.length_eq_zero_iff.mp hp.length
    exact ⟨es, ep, [], hc, hdat, he, (fun _ hx => nomatch hx), List.nodup_nil, (fun _ hx => nomatch hx), Nat.le_refl _⟩
  set := by
    rintro A E s Q d o v x t n hm hk ho ⟨es, ep, ys, hx, hdat, he, hks, hnd, hi, hl⟩ hn hu q
    obtain ⟨a, ks, ok, rfl, hka, hkey⟩ := hv v hm
    have hD : s.heap.DictOfH (tupleKind (PySem.intKind Pg w)) d ys := ⟨o, es, ep, ho, hx, hdat, he, fun y hy => let ⟨_, hmk, tk⟩ := hks y hy; tk.key (hk _ hmk), hnd⟩
    refine wpAny_setItem_heap (tupleKind_room_in1 hu) (hkey.key (hk _ hka)) hD (fun h' hD' hs => ?_) (by rw [PySem.sizeLine_eq]; omega)
    obtain ⟨o', es', ep', ho', hx', hdat', he', -, hnd'⟩ := hD'
    have := storedH_len (ys := ys) (k := ks) (a := a) (v := Value.int x t)
    refine q h' o' _ ho' ⟨es', ep', _, hx', hdat', he', fun y hy => ?_, hnd', storedH_ints hi, by omega⟩ hs
    rcases mem_storedH hy with ⟨z, hz, e1, e2⟩ | ⟨e1, e2⟩
    · rw [e1, e2]; exact hks z hz
    · rw [e1, e2]; exact ⟨ok, hka, hkey⟩
  rd := by
    rintro d o n lo ⟨es, ep, ys, hx, hdat, he, hks, hnd, hi, hl⟩ hn
    obtain ⟨xs, hxs⟩ := hi.ints
    exact ⟨xs, fun h hk ho => DictRd.of_tuples lo ⟨o, es, ep, ho, hx, hdat, he, fun y hy => let ⟨_, hmk, tk⟩ := hks y hy; tk.key (hk _ hmk), hnd⟩ hxs (by have := hxs.length; rw [List.length_map] at this; omega)⟩

/-- a list of the base, read at a place that lies in it -/
noncomputable def Menu (h : Heap) (l : Addr) (ks : List Value) : Prop := h.IsList l ks.toArray
theorem item_menu {prog : Program} {w : World} {A : Around} {E : Value → Shared → Prop} {s : Shared} {h₀ : Heap} {L l : Addr} {m : Str → Option Value} {ks : List Value} {i : Int} {u : Tok} {value slice : PySem.Expr} {Q : Value → Shared → Prop}
    (F : Fr h₀ L s.heap m) (hM : Menu h₀ l ks) (hl : ks.length = 3) (h : ∀ v, v ∈ ks → Q v s)
    (hs : subscripted slice false (.ref l) (.int (i.fmod 3) u) = operate [.ref l, .int (i.fmod 3) u] (getItem (.ref l) (.int (i.fmod 3) u)) := by with_unfolding_all rfl) :
    wpAny (model prog w) A (subscriptTail value slice (.ref l) (.int (i.fmod 3) u)) Q E s := by
  have hf := (fdiv_fmod_facts i 3).2.2.1 (by decide)
  have hls : s.heap.IsList l ks.toArray := Heap.IsList.at hM fun o e => F.keep l o e
  have hlt : (i.fmod 3).toNat < ks.length := by omega
  exact tail_any hls.typeIs slot_list_getitem.lookup (wpAny_getItem_list hls (by omega) (by omega) (by simp [hlt]) (h _ (List.getElem_mem hlt))) hs

theorem range_ones {b : Int} (h0 : 0 ≤ b) (h1 : b < 1000000) : Builtin.Range.small 0 b 1 = true ∧ Builtin.Range.rangeSize 0 b 1 = ((b.toNat : Nat) : Int) := by
  have hs : Builtin.Range.rangeSize 0 b 1 = ((b.toNat : Nat) : Int) := by
    unfold Builtin.Range.rangeSize
    rw [if_pos (by decide)]
    split <;> omega
  exact ⟨small_one (by omega) (by omega) (by omega) (by omega), hs⟩
end
section
theorem words_w7 : True := by
  w_top off
  k_with_none
  (k_with "eval Dict nil nil" => (k_here; k_dflt (refine' newDict_K ?k1 ?k2 (TopRead.nolimit (by k_asm)) ?_; (case k1 => k_asm); (case k2 => k_asm); k_whole); intro dd h' od F' N' dl dlo dhs dfs dhi dfi; (try k_lt dl); (try k_sweep)))
  (k_with "call ref" => (k_here; (with_reducible show wpAny _ _ (call (Value.ref 89) _) _ _ _); k_dflt (refine' next_N ?B ?F ?X ?T ?hk ?hd ?hu ?N ?U ?hi ?hl ?_; (case B => k_asm); (case F => k_asm); (case X => k_asm); (case T => k_asm); (case hk => first | rfl | assumption); (case N => k_asm); (case U => k_updF); (case hi => with_reducible assumption); (case hl => omega); (case hd => k_room); (case hu => k_units); k_whole); intro h' tk' vs' ns' i' t' n' F' N' hI' hL'; (try dsimp only at N'); (try k_sweep)))
  trivial
/-- as call_W, for a def some of whose names a comprehension takes along -/
theorem call_WC {w : World} {K : Frag} {p : Program} {loose : List Str} {mean : ExcName → Option Value} {mg mb : Str → Option Value} {dp un : Nat} {gd : Option (List Code)} {cn : Str} {cs : Scope} {ca : Addr} {ccd : Value} {cl : List (Str × Addr)}
    {outer : List Env} {A₀ : Around} {base h₀ : Heap} {L : Addr} {m : Str → Option Value} {s : Shared} {Q : Value → Shared → Prop} {E : Value → Shared → Prop}
    {name qual : Str} {params : Arguments} {body : List Stmt} {scope : Scope} {dV kV doc pm cdv ct oc : Value} {an od : Option Addr} {osl : Array (Option Value)} {f : Addr} {args : List Value} {binds : List (Str × Value)}
    (W : List (Addr × Obj)) (N : News h₀ L s.heap W)
    (B : Below A₀ base outer h₀) (F : Fr h₀ L s.heap m) (X : K.In h₀) (T : Top p loose mean mg mb h₀) (hk : cs.kind = .function)
    (ho : K.lookup f = some ⟨oc, od, .func (fnOf name qual params body scope dV kV doc pm an cdv ct), osl⟩) (hcd : codeIn K cdv qual = true) (hroom : dp < recursionLimit)
    (hbind : BindsTo s (fnOf name qual params body scope dV kV doc pm an cdv ct) ⟨args, []⟩ binds) (hkind : (binds.all fun y => scope.names.lookup y.1 == some .local || scope.names.lookup y.1 == some .cell) = true)
    (hnd : ((cellsFrom 0 scope.names []).map (·.1)).Nodup)
    (h : ∀ g L' h₁ tk cells, (∀ b o, g.get? b = some o → s.heap.get? b = some o) → (∀ b o, b ∉ W.map (·.1) → s.heap.get? b = some o → g.get? b = some o) → L' = s.heap.objs.size →
      Fr g L' h₁ (bindL (envOfC qual scope L' f cdv).kindOf binds fun _ => none) → News g L' h₁ (cells ++ W) → CellsAre (bindC (envOfC qual scope L' f cdv).kindOf binds fun _ => none) (cellsFrom (L' + 1) scope.names []) cells →
      (∀ p ∈ W, p.1 < L') → Below (ktrTop dp un gd cn cs L ca ccd cl outer) base (envX cn cs L ca ccd cl :: outer) g → K.In g → Top p loose mean mg mb g →
      wpAny (model Pg w) ((ktrTop dp un gd cn cs L ca ccd cl outer).deeper (envOfC qual scope L' f cdv)) (execs body (envOfC qual scope L' f cdv))
        (fun fl s' => LeaveW g Q (match fl with | .ret v => v | _ => .none) s')
        (fun e s' => wpAny (model Pg w) ((ktrTop dp un gd cn cs L ca ccd cl outer).deeper (envOfC qual scope L' f cdv)) (leaving (envOfC qual scope L' f cdv) e) (fun _ s'' => E e s'') (fun e' s'' => E e' s'') s')
        { s with heap := h₁, toks := tk })
    (hco : scope.isCoroutine = false) (hgen : scope.isGenerator = false) (hkf : scope.kind = .function) :
    wpAny (model Pg w) (ktrTop dp un gd cn cs L ca ccd cl outer) (call (.ref f) args) Q E s := by
  refine wpAny_call ?_
  obtain ⟨FG, BG, st, -⟩ := groundX (R := fun _ _ => True) (A := ktrTop dp un gd cn cs L ca ccd cl outer) (env := envX cn cs L ca ccd cl) B F N rfl rfl hk
  refine codeAny_call_function hroom ((X.keeps F.keep) _ _ ho) rfl hco hgen rfl (codeRec_of (X.keeps F.keep) hcd) (hbind _ _ _ _ ?_)
  refine wpAny_newFunctionEnv_cells hkf (kindsX hkind _) fun env' he s' x => ?_
  subst he
  refine ⟨(T.nolimit.keeps F.keep).keeps x.toInCall.keep, codeAny_func ?_⟩
  obtain ⟨h₁, tk, rfl, _⟩ := x.done
  have hk₁ := x.toInCall.keep
  obtain ⟨cells, NC, Y⟩ := Cl.news (h₀ := s.heap) (Nat.le_refl _) fun n c hm => ⟨x.cell n c (lookup_of_mem_nodup (cellsFrom_names scope.names 0 (s.heap.objs.size + 1) [] [] rfl ▸ hnd) hm), x.above n c hm⟩
  refine wpAny_mono (h _ s.heap.objs.size h₁ tk cells (fun b o e => of_hideAll _ e) (fun b o n e => hideAll_get _ e n) rfl ⟨x.toInCall.ns, fun b o e => hk₁ b o (of_hideAll _ e), Nat.le_of_eq (hideAll_size _ _)⟩ (fun p hp => ?_) Y
    (fun p hp => Heap.lt_size (N p hp).1) BG (X.keeps st) (T.keeps st)) (fun fl s' hl => ?_) fun _ _ y => y
  · rcases List.mem_append.mp hp with hp | hp
    · refine ⟨(NC p hp).1, (NC p hp).2.1, ?_⟩
      cases q : (hideAll s.heap (W.map (·.1))).get? p.1 with
      | none => rfl
      | some o => have := of_hideAll _ q; rw [(NC p hp).2.2] at this; cases this
    · exact ⟨hk₁ _ _ (N p hp).1, Nat.ne_of_lt (Heap.lt_size (N p hp).1), hideAll_none _ (List.mem_map_of_mem hp)⟩
  · obtain ⟨L', m', F', q⟩ := hl
    exact q

/-! an instruction of the law's, and how the heap bears it -/
inductive Ins where
  | bare (nm : Str)
  | num (nm : Str) (k : Int)
  | reg
  | call (k : Int)
  | try_ (a : Int)
  | jump (nm : Str) (a : Int)
  | four (a b c d : Int)
  | sw (nm : Str) (xs : List Int) (a : Int)

noncomputable def bareNames : List Str := [Str.ofString "proceed", Str.ofString "fail", Str.ofString "halt", Str.ofString "catch_fail", Str.ofString "dyn_retry", Str.ofString "deallocate", Str.ofString "neck_cut", Str.ofString "catch_push"]
noncomputable def numNames : List Str := [Str.ofString "execute", Str.ofString "meta_call", Str.ofString "allocate"]
noncomputable def jumpNames : List Str := [Str.ofString "retry", Str.ofString "trust"]
noncomputable def swNames : List Str := [Str.ofString "switch_on_constant", Str.ofString "switch_on_structure"]

/-- the addresses that it names -/
noncomputable def Ins.tgts : Ins → List Int
  | .try_ a => [a]
  | .jump _ a => [a]
  | .four a b c d => [a, b, c, d]
  | .sw _ xs a => xs ++ [a]
  | _ => []
noncomputable def Ins.name : Ins → Str
  | .bare nm => nm
  | .num nm _ => nm
  | .reg => Str.ofString "get_list"
  | .call _ => Str.ofString "call"
  | .try_ _ => Str.ofString "try"
  | .jump nm _ => nm
  | .four .. => Str.ofString "switch_on_term"
  | .sw nm _ _ => nm
noncomputable def fallNames : List Str := [Str.ofString "try", Str.ofString "retry", Str.ofString "call", Str.ofString "get_list", Str.ofString "allocate", Str.ofString "deallocate", Str.ofString "neck_cut", Str.ofString "catch_push"]
noncomputable def Ins.falls (I : Ins) : Bool := fallNames.any fun x => x == I.name

noncomputable def TupAt (h : Heap) (v : Value) (items : List Value) : Prop := ∃ a, v = .ref a ∧ IsTup h a items.toArray
noncomputable def InsAt (w : World) (h : Heap) (v : Value) : Ins → Prop
  | .bare nm => nm ∈ bareNames ∧ ∃ t, TupAt h v [.str nm t]
  | .num nm k => nm ∈ numNames ∧ ∃ t u, TupAt h v [.str nm t, .int k u]
  | .reg => ∃ t x, TupAt h v [.str (Str.ofString "get_list") t, .ref x]
  | .call k => ∃ t u j z, TupAt h v [.str (Str.ofString "call") t, .int j u, .int k z]
  | .try_ a => ∃ t u j z, TupAt h v [.str (Str.ofString "try") t, .int a u, .int j z]
  | .jump nm a => nm ∈ jumpNames ∧ ∃ t u, TupAt h v [.str nm t, .int a u]
  | .four a b c d => ∃ t ta tb tc td, TupAt h v [.str (Str.ofString "switch_on_term") t, .int a ta, .int b tb, .int c tc, .int d td]
  | .sw nm xs a => nm ∈ swNames ∧ ∃ t d u, TupAt h v [.str nm t, .ref d, .int a u] ∧ DictRd w h d xs
theorem TupAt.keeps {h h' : Heap} {v : Value} {items : List Value} (x : TupAt h v items) (k : ∀ b o, h.get? b = some o → h'.get? b = some o) : TupAt h' v items := let ⟨a, e, o, ho, r⟩ := x; ⟨a, e, o, k _ _ ho, r⟩
theorem InsAt.keeps {w : World} {h h' : Heap} {v : Value} {I : Ins} (x : InsAt w h v I) (k : ∀ b o, h.get? b = some o → h'.get? b = some o) : InsAt w h' v I := by
  cases I with
  | bare nm => obtain ⟨a, t, b⟩ := x; exact ⟨a, t, b.keeps k⟩
  | num nm j => obtain ⟨a, t, u, b⟩ := x; exact ⟨a, t, u, b.keeps k⟩
  | reg => obtain ⟨t, y, b⟩ := x; exact ⟨t, y, b.keeps k⟩
  | call j => obtain ⟨t, u, j, z, b⟩ := x; exact ⟨t, u, j, z, b.keeps k⟩
  | try_ a => obtain ⟨t, u, j, z, b⟩ := x; exact ⟨t, u, j, z, b.keeps k⟩
  | jump nm a => obtain ⟨a, t, u, b⟩ := x; exact ⟨a, t, u, b.keeps k⟩
  | four a b c d => obtain ⟨t, ta, tb, tc, td, b⟩ := x; exact ⟨t, ta, tb, tc, td, b.keeps k⟩
  | sw nm xs a => obtain ⟨e, t, d, u, b, c⟩ := x; exact ⟨e, t, d, u, b.keeps k, c.keeps k⟩

theorem led_end {g0 h h' : Heap} {L0 : Addr} {W : List Addr} {led led0 : List (Addr × Obj)} (hg2 : ∀ b o, b ∉ W → h.get? b = some o → g0.get? b = some o) (N1 : News g0 L0 h' led0) (hs : ∀ p ∈ led, p ∈ led0) (hr : ∀ p ∈ led, p.1 ∉ W) :
    (∀ p ∈ led, h.get? p.1 = none) ∧ Stand led h' := ⟨fun p hp => new_of hg2 (hr p hp) (N1 p (hs p hp)).2.2, fun p hp => (N1 p (hs p hp)).1⟩
end
section
theorem words_w8 : True := by
  w_top off
  k_with_none
  (k_with "eval Dict nil nil" => (k_here; k_dflt (refine' newDict_K ?k1 ?k2 (TopRead.nolimit (by k_asm)) ?_; (case k1 => k_asm); (case k2 => k_asm); k_whole); intro dd h' od F' N' dl dlo dhs dfs dhi dfi; (try k_lt dl); (try k_sweep)))
  (k_with "call ref" => (k_here; (with_reducible show wpAny _ _ (call (Value.ref 89) _) _ _ _); k_dflt (refine' next_N ?B ?F ?X ?T ?hk ?hd ?hu ?N ?U ?hi ?hl ?_; (case B => k_asm); (case F => k_asm); (case X => k_asm); (case T => k_asm); (case hk => first | rfl | assumption); (case N => k_asm); (case U => k_updF); (case hi => with_reducible assumption); (case hl => omega); (case hd => k_room); (case hu => k_units); k_whole); intro h' tk' vs' ns' i' t' n' F' N' hI' hL'; (try dsimp only at N'); (try k_sweep)))
  trivial
/-! list comprehensions by an invariant; over a dict of the base -/
section
variable {prog : Program} {w : World} {A : Around} {E : Value → Shared → Prop} {s : Shared} {h₀ : Heap} {L : Addr} {m : Str → Option Value} {env : Env}

theorem comp_ind {elt : PySem.Expr} {x : Str} {scope : Scope} {cl : List (Str × Addr)} {S : List (Addr × Obj) → Prop} {P : Nat → Value → Prop} {Fin : List Value → List (Addr × Obj) → Prop} {n : Nat} {news : List (Addr × Obj)} (V : Nat → List Value → List (Addr × Obj) → Prop)
    (h0 : V 0 [] news) (fin : ∀ ys news, V n ys news → Fin ys news)
    (turn : ∀ i ys news v I oI C oC D m₂ h tk (E' : Value → Shared → Prop), i < n → V i ys news → P i v → LCg.NsObj oC m₂ → m₂ x = some v → Fr h₀ L h m → News h₀ L h ((I, oI) :: (C, oC) :: (D, LCg.lst ys) :: news) → LCg.Off3 I C D news → ((@Ne Nat I C) ∧ (@Ne Nat I D) ∧ (@Ne Nat C D)) →
      wpAny (model prog w) A (eval elt (compEnvC scope cl C env)) (LCg.CompEnd h₀ L m { s with heap := h, toks := tk } I oI C oC D (LCg.lst ys) S (fun y news' => V (i + 1) (ys ++ [y]) news')) E' { s with heap := h, toks := tk }) :
    LCg.CompRest prog w A h₀ L m env elt x scope cl s S P Fin n 0 [] news := by
  have go : ∀ k i ys news, i + k = n → V i ys news → LCg.CompRest prog w A h₀ L m env elt x scope cl s S P Fin k i ys news := by
    intro k
    induction k with
    | zero =>
      intro i ys news e hV
      exact LCg.CompRest.zero (fin ys news ((show i = n by omega) ▸ hV))
    | succ k ih =>
      intro i ys news e hV
      refine LCg.CompRest.succ fun v I oI C oC D m₂ h tk E' hP hC hx F N off ne => ?_
      refine wpAny_mono (turn i ys news v I oI C oC D m₂ h tk E' (by omega) hV hP hC hx F N off ne) (fun y s₂ q => ?_) fun _ _ z => z
      obtain ⟨h', tk', news', e1, F', N', off', hS, hV'⟩ := q
      exact ⟨h', tk', news', e1, F', N', off', hS, ih (i + 1) _ _ (by omega) hV'⟩
  exact go n 0 [] news (by omega) h0

noncomputable def SrcD (prog : Program) (w : World) (A : Around) (h₀ : Heap) (L : Addr) (m : Str → Option Value) (env : Env) (elt : PySem.Expr) (x : Str) (scope : Scope) (cl : List (Str × Addr)) (Fin : Shared → List Value → List (Addr × Obj) → Prop) (xv : Value) (s₁ : Shared) : Prop :=
  ∃ d es ep news, xv = .ref d ∧ A.handled = none ∧ Fr h₀ L s₁.heap m ∧ News h₀ L s₁.heap news ∧ DictEs h₀ d es ep ∧ (d == sysModules) = false ∧ es.size ≤ sizeLine ∧
    ∀ s₂ : Shared, (∃ h, s₂ = { s₁ with heap := h }) → LCg.CompRest prog w A h₀ L m env elt x scope cl s₂ (fun _ => True) (fun i v => ∃ e, es[i]? = some e ∧ v = e.key) (Fin s₂) es.size 0 [] news

theorem listComp_es {elt iter : PySem.Expr} {x : Str} {px : Pos} {scope : Scope} {cl : List (Str × Addr)} {pos : Pos} {Q : Value → Shared → Prop} (_F₀ : Fr h₀ L s.heap m)
    (hclos : closureFor scope env = pure cl) (hcell : ∀ y ∈ scope.names, y.2 ≠ .cell) (hkind : scope.kind = .function)
    (hnames : ∀ y ∈ scope.names, y.2 = .local → scope.names.lookup y.1 = some .local) (hx : scope.names.lookup x = some .local)
    (h : wpAny (model prog w) A (eval iter env) (SrcD prog w A h₀ L m env elt x scope cl (fun s₂ => LCg.FinE h₀ L m s₂ Q)) E s)
    (hs : ∀ x, foldedSetIterable iter env x = pure x := by intro _; rfl) :
    wpAny (model prog w) A (eval (.ListComp elt [⟨.Name x px, iter, [], 0⟩] scope pos) env) Q E s := by
  rw [eval_ListComp]
  refine wpAny_comprehension_free (use := none) rfl hs hclos hkind hnames (wpAny_mono h (fun xv s₁ h₁ => ?_) fun _ _ e => e)
  obtain ⟨d, es, ep, news, rfl, hh, F, N, hd, lo, hsz, R⟩ := h₁
  have hds : DictEs s₁.heap d es ep := hd.at fun o e => F.keep d o e
  obtain ⟨od, hod, _⟩ := id hds
  have hlt : d < s₁.heap.objs.size := Heap.lt_size hod
  refine pyIter_es lo hds ?_
  refine LCg.block_U (S := fun _ => True) (walks_es hh s₁.heap.objs.size d (Nat.ne_of_lt hlt) es ep) hsz (fun i h st => by obtain ⟨o, e, _⟩ := st.1; exact ⟨o, e⟩)
    (fun i h h' o nw st e e' k _ _ => ⟨by obtain ⟨o', q, r⟩ := st.1; rw [e] at q; cases q; exact ⟨o, e', r⟩, hd.at fun o e => k d o e⟩) hcell hkind hx
    ⟨⟨_, Heap.get?_push_size _ rfl, rfl, rfl⟩, hds.at fun o e => Heap.get?_push_of_some _ e⟩ (fun b hb => ?_)
    (F.keeps fun _ _ e => Heap.get?_push_of_some _ e) (N.grown fun _ _ e => Heap.get?_push_of_some _ e) (Nat.ne_of_lt F.ns.lt) (next_is_new F) (fun p hp => Nat.ne_of_lt (Heap.lt_size (N p hp).1)) trivial (R _ ⟨_, rfl⟩) ?_
  · show b < (s₁.heap.push _).objs.size
    rw [Heap.size_push]
    rcases List.mem_cons.mp hb with rfl | hb
    · exact Nat.lt_succ_self _
    · rw [List.mem_singleton.mp hb]; exact Nat.lt_succ_of_lt hlt
  · intro D C h tk m' ys news' F' N' o1 hn hC₀ hD₀ hCL hDL hCD offC fin
    refine ⟨m', hn, fun h'' hs'' => fin D h'' tk (F'.change hs'' hCL hC₀) (fun p hp => ?_) o1⟩
    refine ⟨hs''.extBut _ _ ?_ (N' p hp).1, (N' p hp).2⟩
    rcases List.mem_cons.mp hp with rfl | hp
    · exact Ne.symm hCD
    · exact offC p hp
end
end
section
theorem words_w9 : True := by
  w_top off
  k_with_none
  (k_with "eval Dict nil nil" => (k_here; k_dflt (refine' newDict_K ?k1 ?k2 (TopRead.nolimit (by k_asm)) ?_; (case k1 => k_asm); (case k2 => k_asm); k_whole); intro dd h' od F' N' dl dlo dhs dfs dhi dfi; (try k_lt dl); (try k_sweep)))
  (k_with "call ref" => (k_here; (with_reducible show wpAny _ _ (call (Value.ref 89) _) _ _ _); k_dflt (refine' next_N ?B ?F ?X ?T ?hk ?hd ?hu ?N ?U ?hi ?hl ?_; (case B => k_asm); (case F => k_asm); (case X => k_asm); (case T => k_asm); (case hk => first | rfl | assumption); (case N => k_asm); (case U => k_updF); (case hi => with_reducible assumption); (case hl => omega); (case hd => k_room); (case hu => k_units); k_whole); intro h' tk' vs' ns' i' t' n' F' N' hI' hL'; (try dsimp only at N'); (try k_sweep)))
  trivial
section
variable {w : World} {mean : ExcName → Option Value} {mg mb : Str → Option Value} {dp un : Nat} {gd : Option (List Code)} {cn : Str} {cs : Scope} {ca : Addr} {ccd : Value} {cl : List (Str × Addr)}
    {outer : List Env} {A₀ : Around} {base h₀ : Heap} {L : Addr} {m : Str → Option Value} {s : Shared} {Q : Value → Shared → Prop} {E : Value → Shared → Prop}
    {r : Addr} {vs : List Value} {ns : List Int} {n : Nat} {news : List (Addr × Obj)} {g : Obj → List (Addr × Obj)}

set_option maxHeartbeats 4000000 in
theorem address_call (B : Below A₀ base outer h₀) (F : Fr h₀ L s.heap m) (X : (Kf w).In h₀) (T : TopM mean mg mb h₀) (hk : cs.kind = .function) (hdp : dp < 890) (hun : un < 980)
    (N : News h₀ L s.heap [(r, listOf vs.toArray n)]) (hi : IntsAre vs ns) (hlen : vs.length ≤ 200) {b : Int} {tb : Tok} (hb0 : 0 ≤ b) (hb1 : b ≤ 100)
    (ret : ∀ h' tk vs' ns' i t n', Keeps [r] s.heap h' → h'.get? r = some (listOf vs'.toArray n') → IntsAre vs' ns' → vs'.length ≤ 200 → 0 ≤ i → i ≤ b + 20 → Q (.int i t) { s with heap := h', toks := tk }) :
    wpAny (model Pg w) (ktrTop dp un gd cn cs L ca ccd cl outer) (call (.ref 96) [.ref r, .int b tb]) Q E s := by
  revert X T; dsimp only [Kf, Pg, TopM]; k_fill; intro X T
  refine' call_W [(r, listOf vs.toArray n)] N B F X T hk ?ho ?hcd ?hr ?hb ?hl ?_ ?c2 ?c3 ?c4 ?c5
  (case ho => k_is); (case hcd => k_is); (case hr => k_room)
  (case hb => first | exact BindsTo.of_eq rfl | exact binds_K (by k_in) rfl (by k_is) rfl rfl rfl)
  (case c5 => decide); (case hl => exact locs rfl); (case c2 => exact rfl); (case c3 => exact rfl); (case c4 => exact rfl)
  k_whole
  intro g0 L0 h1 hg1 hg2 hL0 F0 N0 B0 X0 T0
  (try dsimp only)
  (try k_fold)
  clear F N B X T
  k_steps
  (rename Fr _ _ _ _ => F1); (rename News _ _ _ _ => N1)
  refine LeaveW.intro F1 (ret _ _ _ _ _ _ _ (fun b o hb e => F1.keep b o (hg2 b o (by simpa using hb) e)) (N1.get (.head _)) hI' (by omega) ?_ ?_)
  · split <;> omega
  · have h1 := (fdiv_fmod_facts i' 20).2.2.1 (by decide)
    split <;> omega

theorem address_N (B : Below A₀ base outer h₀) (F : Fr h₀ L s.heap m) (X : (Kf w).In h₀) (T : TopM mean mg mb h₀) (hk : cs.kind = .function) (hdp : dp < 890) (hun : un < 980)
    (N : News h₀ L s.heap news) (U : UpdF r (listOf vs.toArray n) news g) (hi : IntsAre vs ns) (hlen : vs.length ≤ 200) {b : Int} {tb : Tok} (hb0 : 0 ≤ b) (hb1 : b ≤ 100)
    (ret : ∀ h' tk vs' ns' i t n', Fr h₀ L h' m → News h₀ L h' (g (listOf vs'.toArray n')) → IntsAre vs' ns' → vs'.length ≤ 200 → 0 ≤ i → i ≤ b + 20 → Q (.int i t) { s with heap := h', toks := tk }) :
    wpAny (model Pg w) (ktrTop dp un gd cn cs L ca ccd cl outer) (call (.ref 96) [.ref r, .int b tb]) Q E s := by
  refine address_call B F X T hk hdp hun (news_only N (updF_mem U)) hi hlen hb0 hb1 fun h' tk vs' ns' i t n' K hr hi' hl' h0 h1 => ?_
  obtain ⟨F', N'⟩ := upd_after F N U K hr
  exact ret h' tk vs' ns' i t n' F' N' hi' hl' h0 h1
end
end
theorem words_w10 : True := by
  w_top off
  k_with_none
  (k_with "eval Dict nil nil" => (k_here; k_dflt (refine' newDict_K ?k1 ?k2 (TopRead.nolimit (by k_asm)) ?_; (case k1 => k_asm); (case k2 => k_asm); k_whole); intro dd h' od F' N' dl dlo dhs dfs dhi dfi; (try k_lt dl); (try k_sweep)))
  (k_with "call ref" => (k_here; (with_reducible show wpAny _ _ (call (Value.ref 89) _) _ _ _); k_dflt (refine' next_N ?B ?F ?X ?T ?hk ?hd ?hu ?N ?U ?hi ?hl ?_; (case B => k_asm); (case F => k_asm); (case X => k_asm); (case T => k_asm); (case hk => first | rfl | assumption); (case N => k_asm); (case U => k_updF); (case hi => with_reducible assumption); (case hl => omega); (case hd => k_room); (case hu => k_units); k_whole); intro h' tk' vs' ns' i' t' n' F' N' hI' hL'; (try dsimp only at N'); (try k_sweep)))
  (k_with "call ref" => (k_here; (with_reducible show wpAny _ _ (call (Value.ref 96) _) _ _ _); k_dflt (refine' address_N ?B ?F ?X ?T ?hk ?hd ?hu ?N ?U ?hi ?hl ?b0 ?b1 ?_; (case B => k_asm); (case F => k_asm); (case X => k_asm); (case T => k_asm); (case hk => first | rfl | assumption); (case N => k_asm); (case U => k_updF); (case hi => with_reducible assumption); (case hl => omega); (case b0 => omega); (case b1 => omega); (case hd => k_room); (case hu => k_units); k_whole); intro h' tk' vs' ns' i' t' n' F' N' hI' hL' hb0' hb1'; (try dsimp only at N'); (try k_sweep)))
  trivial
section
theorem words_w13 : True := by
  w_top off
  k_with_none
  (k_with "eval Dict nil nil" => (k_here; k_dflt (refine' newDict_K ?k1 ?k2 (TopRead.nolimit (by k_asm)) ?_; (case k1 => k_asm); (case k2 => k_asm); k_whole); intro dd h' od F' N' dl dlo dhs dfs dhi dfi; (try k_lt dl); (try k_sweep)))
  (k_with "call ref" => (k_here; (with_reducible show wpAny _ _ (call (Value.ref 89) _) _ _ _); k_dflt (refine' next_N ?B ?F ?X ?T ?hk ?hd ?hu ?N ?U ?hi ?hl ?_; (case B => k_asm); (case F => k_asm); (case X => k_asm); (case T => k_asm); (case hk => first | rfl | assumption); (case N => k_asm); (case U => k_updF); (case hi => with_reducible assumption); (case hl => omega); (case hd => k_room); (case hu => k_units); k_whole); intro h' tk' vs' ns' i' t' n' F' N' hI' hL'; (try dsimp only at N'); (try k_sweep)))
  (k_with "call ref" => (k_here; (with_reducible show wpAny _ _ (call (Value.ref 96) _) _ _ _); k_dflt (refine' address_N ?B ?F ?X ?T ?hk ?hd ?hu ?N ?U ?hi ?hl ?b0 ?b1 ?_; (case B => k_asm); (case F => k_asm); (case X => k_asm); (case T => k_asm); (case hk => first | rfl | assumption); (case N => k_asm); (case U => k_updF); (case hi => with_reducible assumption); (case hl => omega); (case b0 => omega); (case b1 => omega); (case hd => k_room); (case hu => k_units); k_whole); intro h' tk' vs' ns' i' t' n' F' N' hI' hL' hb0' hb1'; (try dsimp only at N'); (try k_sweep)))
  trivial
section
theorem words_w11 : True := by
  w_top off
  k_with_none
  (k_with "eval Dict nil nil" => (k_here; k_dflt (refine' newDict_K ?k1 ?k2 (TopRead.nolimit (by k_asm)) ?_; (case k1 => k_asm); (case k2 => k_asm); k_whole); intro dd h' od F' N' dl dlo dhs dfs dhi dfi; (try k_lt dl); (try k_sweep)))
  (k_with "call ref" => (k_here; (with_reducible show wpAny _ _ (call (Value.ref 89) _) _ _ _); k_dflt (refine' next_N ?B ?F ?X ?T ?hk ?hd ?hu ?N ?U ?hi ?hl ?_; (case B => k_asm); (case F => k_asm); (case X => k_asm); (case T => k_asm); (case hk => first | rfl | assumption); (case N => k_asm); (case U => k_updF); (case hi => with_reducible assumption); (case hl => omega); (case hd => k_room); (case hu => k_units); k_whole); intro h' tk' vs' ns' i' t' n' F' N' hI' hL'; (try dsimp only at N'); (try k_sweep)))
  (k_with "call ref" => (k_here; (with_reducible show wpAny _ _ (call (Value.ref 96) _) _ _ _); k_dflt (refine' address_N ?B ?F ?X ?T ?hk ?hd ?hu ?N ?U ?hi ?hl ?b0 ?b1 ?_; (case B => k_asm); (case F => k_asm); (case X => k_asm); (case T => k_asm); (case hk => first | rfl | assumption); (case N => k_asm); (case U => k_updF); (case hi => with_reducible assumption); (case hl => omega); (case b0 => omega); (case b1 => omega); (case hd => k_room); (case hu => k_units); k_whole); intro h' tk' vs' ns' i' t' n' F' N' hI' hL' hb0' hb1'; (try dsimp only at N'); (try k_sweep)))
  (k_with "exec For Name Name cons nil" => walk_at "m for")
  (k_with "exec For Name Subscript cons nil" => walk_at "m for")
  (k_with "exec For Name Call cons nil" => walk_at "m for")
  (k_with "exec For Name BinOp cons nil" => walk_at "m for")
  (k_with "pyIter ref" => refine Stop.out ?_)
  trivial
variable {w : World} {mean : ExcName → Option Value} {mg mb : Str → Option Value} {dp un : Nat} {gd : Option (List Code)} {cn : Str} {cs : Scope} {ca : Addr} {ccd : Value} {cl : List (Str × Addr)}
    {outer : List Env} {A₀ : Around} {base h₀ : Heap} {L : Addr} {m : Str → Option Value} {s : Shared} {Q : Value → Shared → Prop} {E : Value → Shared → Prop}
    {r : Addr} {vs : List Value} {ns : List Int} {n : Nat} {news : List (Addr × Obj)} {g : Obj → List (Addr × Obj)}

set_option maxHeartbeats 4000000 in
theorem row_call (B : Below A₀ base outer h₀) (F : Fr h₀ L s.heap m) (X : (Kf w).In h₀) (T : TopM mean mg mb h₀) (hk : cs.kind = .function) (hdp : dp < 890) (hun : un < 980)
    (hl : s.heap.IsList r vs.toArray) (hi : IntsAre vs ns) (hlen : vs.length ≤ 100)
    (ret : ∀ h' tk l vs' ns' n', Keeps [] s.heap h' → s.heap.get? l = none → h'.get? l = some (listOf vs'.toArray n') → IntsAre vs' ns' → vs'.length ≤ 120 → Q (.ref l) { s with heap := h', toks := tk }) :
    wpAny (model Pg w) (ktrTop dp un gd cn cs L ca ccd cl outer) (call (.ref 82) [.ref r]) Q E s := by
  revert X T; dsimp only [Kf, Pg, TopM]; k_fill; intro X T
  have hl0 := hl
  obtain ⟨ol, hol, hlr⟩ := id hl
  refine' call_W [] News.nil B F X T hk ?ho ?hcd ?hr ?hb ?hl ?_ ?c2 ?c3 ?c4 ?c5
  (case ho => k_is); (case hcd => k_is); (case hr => k_room)
  (case hb => first | exact BindsTo.of_eq rfl | exact binds_K (by k_in) rfl (by k_is) rfl rfl rfl)
  (case c5 => decide); (case hl => exact locs rfl); (case c2 => exact rfl); (case c3 => exact rfl); (case c4 => exact rfl)
  k_whole
  intro g0 L0 h1 hg1 hg2 hL0 F0 N0 B0 X0 T0
  (try dsimp only)
  (try k_fold)
  have hl1 : Heap.IsList _ r vs.toArray := ⟨ol, hg2 r ol (by simp) hol, hlr⟩
  clear F B X T
  k_steps
  (rename Fr _ _ _ _ => F1); (rename News _ _ _ _ => N1); (rename IntsAre _ (List.take _ _) => hI1)
  have hC1 := hI1.length
  rename_i lr _ _ _ D ws _ _ _ _
  refine Stop.mk (listG (vs := ws) (fun i m nx => m (Str.ofString "row") = some (.ref lr) ∧ ∃ us a n', nx = [(D, listOf ws.toArray 0), (lr, listOf us.toArray n')] ∧ IntsAre us a ∧ us.length ≤ 31 * i) rfl ?_ ?_ ?_ F1 N1 ?_ ?_ ?_)
  · exact ⟨_, N1.get (.head _), rfl, _, rfl⟩
  · refine .inr ⟨listOf ws.toArray 0, ?_⟩
    rintro i m nx ⟨_, us, a, n', rfl, _⟩
    exact .head _
  · exact (N1 _ (.head _)).2.1
  · exact ⟨rfl, [], [], _, rfl, .nil, Nat.zero_le _⟩
  · rintro i v m₁ nx h tk own hv hoff ⟨hm, us, a, n', rfl, hI2, hU⟩ F2 N2
    clear F1 N1
    obtain ⟨k, t, rfl, -⟩ := ints_at hI1 hv
    have hiw : i < 40 := by
      have h1 : i < ws.length := by
        rcases Nat.lt_or_ge i ws.length with h | h
        · exact h
        · rw [List.getElem?_eq_none h] at hv; cases hv
      rw [hC1, List.length_take] at h1
      omega
    have F3 := fr_eta (x := Str.ofString "row") (v := .ref lr) (by rw [if_neg (by decide)]; exact hm) F2
    simp only [List.cons_append, List.nil_append] at N2
    clear F2
    simp only [List.map_cons, List.map_nil] at hoff
    k_steps
    all_goals (
      (rename Fr _ _ _ _ => F1); (rename News _ _ _ _ => N1); (rename IsRange _ _ _ _ _ _ _ _ => R1)
      simp only [List.push_toArray] at N1
      refine Stop.mk (rangeG (n := 30) (fun j m nx => m (Str.ofString "row") = some (.ref lr) ∧ (∃ q tq, m (Str.ofString "number") = some (.int q tq)) ∧ ∃ us a n', nx = (D, listOf ws.toArray 0) :: (lr, listOf us.toArray n') :: own ∧ IntsAre us a ∧ us.length ≤ 31 * i + 1 + j) rfl R1 rfl rfl F1 N1 ?_ ?_ ?_)
      · refine ⟨rfl, ⟨_, _, rfl⟩, _, _, _, rfl, IntsAre.append hI2 (.cons _ _ .nil), ?_⟩
        simp only [List.length_append, List.length_cons, List.length_nil]; omega
      · rintro j tj m₂ nx h2 tk2 own2 hj hoff2 ⟨hm1, ⟨q, tq, hm2⟩, us2, a2, n2, rfl, hI3, hU3⟩ F2 N2
        clear F1 N1 R1
        simp only [List.map_cons] at hoff2
        simp only [List.cons_append] at N2
        have F3_0 := fr_eta (x := Str.ofString "row") (v := .ref lr) (by rw [if_neg (by decide)]; exact hm1) F2
        have F3 := fr_eta (x := Str.ofString "number") (v := .int q tq) (by rw [if_neg (by decide), if_neg (by decide)]; exact hm2) F3_0
        clear F3_0
        clear F2
        k_steps
        · (rename Fr _ _ _ _ => F5); (rename News _ _ _ _ => N5)
          simp only [List.push_toArray] at N5
          refine end2 F5 N5 ⟨rfl, ⟨_, _, rfl⟩, _, _, _, rfl, IntsAre.append hI3 (.cons _ _ .nil), ?_⟩ hoff2
          simp only [List.length_append, List.length_cons, List.length_nil]; omega
        · (rename Fr _ _ _ _ => F5); (rename News _ _ _ _ => N5)
          refine end2 F5 N5 ⟨rfl, ⟨_, _, rfl⟩, _, _, _, rfl, hI3, ?_⟩ hoff2
          omega
      · rintro m₂ nx h2 tk2 ⟨hm1, -, us2, a2, n2, rfl, hI3, hU3⟩ F2 N2
        clear F1 N1 R1
        k_steps
        refine end2' F2 N2 ⟨hm1, _, _, _, rfl, hI3, ?_⟩ hoff
        omega)
  · rintro m₁ nx h tk ⟨hm, us, a, n', rfl, hI2, hU⟩ F2 N2
    clear F1 N1
    have F3 := fr_eta (x := Str.ofString "row") (v := .ref lr) hm F2
    have hU2 : us.length ≤ 31 * 40 := by
      rw [hC1, List.length_take] at hU
      omega
    clear F2
    k_steps
    (rename Fr _ _ _ _ => F5); (rename News _ _ _ _ => N5); (rename IntsAre _ (List.take 120 _) => hI5)
    have hL5 := hI5.length
    have hL6 : (List.take 120 a).length ≤ 120 := by rw [List.length_take]; omega
    refine kl_reverse F5 N5 rfl (by k_upd) (by rw [PySem.sizeLine_eq]; simp; omega) (fun h6 F6 N6 => ?_)
    k_steps
    refine LeaveW.intro F6 (ret _ _ _ _ _ _ (fun b o hb e => F6.keep b o (hg2 b o (by simp) e)) (new_of hg2 (by simp) (N6 _ (.head _)).2.2) (N6.get (.head _)) hI5.reverse (by simp; omega))

theorem row_N (B : Below A₀ base outer h₀) (F : Fr h₀ L s.heap m) (X : (Kf w).In h₀) (T : TopM mean mg mb h₀) (hk : cs.kind = .function) (hdp : dp < 890) (hun : un < 980)
    (N : News h₀ L s.heap news) (hl : h₀.IsList r vs.toArray) (hi : IntsAre vs ns) (hlen : ns.length ≤ 63)
    (ret : ∀ h' tk l vs' ns' n', Fr h₀ L h' m → News h₀ L h' ((l, listOf vs'.toArray n') :: news) → (∀ p ∈ news, p.1 ≠ l) → IntsAre vs' ns' → vs'.length ≤ 120 → Q (.ref l) { s with heap := h', toks := tk }) :
    wpAny (model Pg w) (ktrTop dp un gd cn cs L ca ccd cl outer) (call (.ref 82) [.ref r]) Q E s := by
  refine row_call B F X T hk hdp hun (hl.at fun o e => F.keep r o e) hi (by rw [hi.length]; omega) fun h' tk l vs' ns' n' K hn hr hi' hl' => ?_
  have hll : l ≠ L := fun q => by
    obtain ⟨o, _, _, ho, _⟩ := F.ns
    rw [q, ho] at hn; cases hn
  refine ret h' tk l vs' ns' n' (K.fr F (by simp) (by simp)) (fun p hp => ?_) (fun p hp q => ?_) hi' hl'
  · rcases List.mem_cons.mp hp with rfl | hp
    · refine ⟨hr, hll, ?_⟩
      cases e : h₀.get? l with
      | none => rfl
      | some o => rw [F.keep l o e] at hn; cases hn
    · exact ⟨K _ _ (by simp) (N p hp).1, (N p hp).2⟩
  · have := (N p hp).1
    rw [q, hn] at this; cases this
end
end
theorem words_w12 : True := by
  w_top off
  k_with_none
  (k_with "eval Dict nil nil" => (k_here; k_dflt (refine' newDict_K ?k1 ?k2 (TopRead.nolimit (by k_asm)) ?_; (case k1 => k_asm); (case k2 => k_asm); k_whole); intro dd h' od F' N' dl dlo dhs dfs dhi dfi; (try k_lt dl); (try k_sweep)))
  (k_with "call ref" => (k_here; (with_reducible show wpAny _ _ (call (Value.ref 89) _) _ _ _); k_dflt (refine' next_N ?B ?F ?X ?T ?hk ?hd ?hu ?N ?U ?hi ?hl ?_; (case B => k_asm); (case F => k_asm); (case X => k_asm); (case T => k_asm); (case hk => first | rfl | assumption); (case N => k_asm); (case U => k_updF); (case hi => with_reducible assumption); (case hl => omega); (case hd => k_room); (case hu => k_units); k_whole); intro h' tk' vs' ns' i' t' n' F' N' hI' hL'; (try dsimp only at N'); (try k_sweep)))
  (k_with "call ref" => (k_here; (with_reducible show wpAny _ _ (call (Value.ref 96) _) _ _ _); k_dflt (refine' address_N ?B ?F ?X ?T ?hk ?hd ?hu ?N ?U ?hi ?hl ?b0 ?b1 ?_; (case B => k_asm); (case F => k_asm); (case X => k_asm); (case T => k_asm); (case hk => first | rfl | assumption); (case N => k_asm); (case U => k_updF); (case hi => with_reducible assumption); (case hl => omega); (case b0 => omega); (case b1 => omega); (case hd => k_room); (case hu => k_units); k_whole); intro h' tk' vs' ns' i' t' n' F' N' hI' hL' hb0' hb1'; (try dsimp only at N'); (try k_sweep)))
  trivial
theorem words_w14 : True := by
  w_top off
  k_with_none
  (k_with "eval Dict nil nil" => (k_here; k_dflt (refine' newDict_K ?k1 ?k2 (TopRead.nolimit (by k_asm)) ?_; (case k1 => k_asm); (case k2 => k_asm); k_whole); intro dd h' od F' N' dl dlo dhs dfs dhi dfi; (try k_lt dl); (try k_sweep)))
  (k_with "call ref" => (k_here; (with_reducible show wpAny _ _ (call (Value.ref 89) _) _ _ _); k_dflt (refine' next_N ?B ?F ?X ?T ?hk ?hd ?hu ?N ?U ?hi ?hl ?_; (case B => k_asm); (case F => k_asm); (case X => k_asm); (case T => k_asm); (case hk => first | rfl | assumption); (case N => k_asm); (case U => k_updF); (case hi => with_reducible assumption); (case hl => omega); (case hd => k_room); (case hu => k_units); k_whole); intro h' tk' vs' ns' i' t' n' F' N' hI' hL'; (try dsimp only at N'); (try k_sweep)))
  (k_with "call ref" => (k_here; (with_reducible show wpAny _ _ (call (Value.ref 96) _) _ _ _); k_dflt (refine' address_N ?B ?F ?X ?T ?hk ?hd ?hu ?N ?U ?hi ?hl ?b0 ?b1 ?_; (case B => k_asm); (case F => k_asm); (case X => k_asm); (case T => k_asm); (case hk => first | rfl | assumption); (case N => k_asm); (case U => k_updF); (case hi => with_reducible assumption); (case hl => omega); (case b0 => omega); (case b1 => omega); (case hd => k_room); (case hu => k_units); k_whole); intro h' tk' vs' ns' i' t' n' F' N' hI' hL' hb0' hb1'; (try dsimp only at N'); (try k_sweep)))
  (k_with "call ref" => (k_here; (with_reducible show wpAny _ _ (call (Value.ref 82) _) _ _ _); k_dflt (refine' row_N ?B ?F ?X ?T ?hk ?hd ?hu ?N ?l ?hi ?hl ?_; (case B => k_asm); (case F => k_asm); (case X => k_asm); (case T => k_asm); (case hk => first | rfl | assumption); (case N => k_asm); (case l => with_reducible assumption); (case hi => with_reducible assumption); (case hl => omega); (case hd => k_room); (case hu => k_units); k_whole); intro h' tk' row vs' ns' n' F' N' rne hI' hL'; (try dsimp only at N'); (try k_sweep)))
  trivial
section
theorem words_w17 : True := by
  w_top off
  k_with_none
  (k_with "eval Dict nil nil" => (k_here; k_dflt (refine' newDict_K ?k1 ?k2 (TopRead.nolimit (by k_asm)) ?_; (case k1 => k_asm); (case k2 => k_asm); k_whole); intro dd h' od F' N' dl dlo dhs dfs dhi dfi; (try k_lt dl); (try k_sweep)))
  (k_with "call ref" => (k_here; (with_reducible show wpAny _ _ (call (Value.ref 89) _) _ _ _); k_dflt (refine' next_N ?B ?F ?X ?T ?hk ?hd ?hu ?N ?U ?hi ?hl ?_; (case B => k_asm); (case F => k_asm); (case X => k_asm); (case T => k_asm); (case hk => first | rfl | assumption); (case N => k_asm); (case U => k_updF); (case hi => with_reducible assumption); (case hl => omega); (case hd => k_room); (case hu => k_units); k_whole); intro h' tk' vs' ns' i' t' n' F' N' hI' hL'; (try dsimp only at N'); (try k_sweep)))
  (k_with "call ref" => (k_here; (with_reducible show wpAny _ _ (call (Value.ref 96) _) _ _ _); k_dflt (refine' address_N ?B ?F ?X ?T ?hk ?hd ?hu ?N ?U ?hi ?hl ?b0 ?b1 ?_; (case B => k_asm); (case F => k_asm); (case X => k_asm); (case T => k_asm); (case hk => first | rfl | assumption); (case N => k_asm); (case U => k_updF); (case hi => with_reducible assumption); (case hl => omega); (case b0 => omega); (case b1 => omega); (case hd => k_room); (case hu => k_units); k_whole); intro h' tk' vs' ns' i' t' n' F' N' hI' hL' hb0' hb1'; (try dsimp only at N'); (try k_sweep)))
  (k_with "call ref" => (k_here; (with_reducible show wpAny _ _ (call (Value.ref 82) _) _ _ _); k_dflt (refine' row_N ?B ?F ?X ?T ?hk ?hd ?hu ?N ?l ?hi ?hl ?_; (case B => k_asm); (case F => k_asm); (case X => k_asm); (case T => k_asm); (case hk => first | rfl | assumption); (case N => k_asm); (case l => with_reducible assumption); (case hi => with_reducible assumption); (case hl => omega); (case hd => k_room); (case hu => k_units); k_whole); intro h' tk' row vs' ns' n' F' N' rne hI' hL'; (try dsimp only at N'); (try k_sweep)))
  trivial
section
theorem words_w15 : True := by
  w_top off
  k_with_none
  (k_with "eval Dict nil nil" => (k_here; k_dflt (refine' newDict_K ?k1 ?k2 (TopRead.nolimit (by k_asm)) ?_; (case k1 => k_asm); (case k2 => k_asm); k_whole); intro dd h' od F' N' dl dlo dhs dfs dhi dfi; (try k_lt dl); (try k_sweep)))
  (k_with "call ref" => (k_here; (with_reducible show wpAny _ _ (call (Value.ref 89) _) _ _ _); k_dflt (refine' next_N ?B ?F ?X ?T ?hk ?hd ?hu ?N ?U ?hi ?hl ?_; (case B => k_asm); (case F => k_asm); (case X => k_asm); (case T => k_asm); (case hk => first | rfl | assumption); (case N => k_asm); (case U => k_updF); (case hi => with_reducible assumption); (case hl => omega); (case hd => k_room); (case hu => k_units); k_whole); intro h' tk' vs' ns' i' t' n' F' N' hI' hL'; (try dsimp only at N'); (try k_sweep)))
  (k_with "call ref" => (k_here; (with_reducible show wpAny _ _ (call (Value.ref 96) _) _ _ _); k_dflt (refine' address_N ?B ?F ?X ?T ?hk ?hd ?hu ?N ?U ?hi ?hl ?b0 ?b1 ?_; (case B => k_asm); (case F => k_asm); (case X => k_asm); (case T => k_asm); (case hk => first | rfl | assumption); (case N => k_asm); (case U => k_updF); (case hi => with_reducible assumption); (case hl => omega); (case b0 => omega); (case b1 => omega); (case hd => k_room); (case hu => k_units); k_whole); intro h' tk' vs' ns' i' t' n' F' N' hI' hL' hb0' hb1'; (try dsimp only at N'); (try k_sweep)))
  (k_with "call ref" => (k_here; (with_reducible show wpAny _ _ (call (Value.ref 82) _) _ _ _); k_dflt (refine' row_N ?B ?F ?X ?T ?hk ?hd ?hu ?N ?l ?hi ?hl ?_; (case B => k_asm); (case F => k_asm); (case X => k_asm); (case T => k_asm); (case hk => first | rfl | assumption); (case N => k_asm); (case l => with_reducible assumption); (case hi => with_reducible assumption); (case hl => omega); (case hd => k_room); (case hu => k_units); k_whole); intro h' tk' row vs' ns' n' F' N' rne hI' hL'; (try dsimp only at N'); (try k_sweep)))
  (k_with "exec For Name Name cons nil" => walk_at "m for")
  (k_with "exec For Name Subscript cons nil" => walk_at "m for")
  (k_with "exec For Name Call cons nil" => walk_at "m for")
  (k_with "exec For Name BinOp cons nil" => walk_at "m for")
  (k_with "pyIter ref" => refine Stop.out ?_)
  (k_with "subscriptTail" => (k_here; (with_reducible rename Menu _ _ _ => hMn); k_dflt (refine' item_menu ?F hMn ?a ?_; (case F => k_asm); (case a => assumption); k_whole); intro v' hv'))
  (k_with "setItem ref int" => refine Stop.out ?_)
  trivial
variable {w : World} {mean : ExcName → Option Value} {mg mb : Str → Option Value} {dp un : Nat} {gd : Option (List Code)} {cn : Str} {cs : Scope} {ca : Addr} {ccd : Value} {cl : List (Str × Addr)}
    {outer : List Env} {A₀ : Around} {base h₀ : Heap} {L : Addr} {m : Str → Option Value} {s : Shared} {Q : Value → Shared → Prop} {E : Value → Shared → Prop}
    {r : Addr} {vs : List Value} {ns : List Int} {n : Nat} {news : List (Addr × Obj)} {g : Obj → List (Addr × Obj)}

set_option maxHeartbeats 4000000 in
theorem pairs_call (B : Below A₀ base outer h₀) (F : Fr h₀ L s.heap m) (X : (Kf w).In h₀) (T : TopM mean mg mb h₀) (hk : cs.kind = .function) (hdp : dp < 880) (hun : un < 970)
    (N : News h₀ L s.heap [(r, listOf vs.toArray n)]) (hi : IntsAre vs ns) (hlen : vs.length ≤ 200) {b : Int} {tb : Tok} (hb0 : 0 ≤ b) (hb1 : b ≤ 100)
    {kl : Addr} {ks : List Value} (hkl : s.heap.IsList kl ks.toArray) (hkr : kl ≠ r) (hks : ks.length = 3) {kled : List (Addr × Obj)} (D : DKind w kled ks) (hkled : Stand kled s.heap) (hkoff : ∀ p ∈ kled, p.1 ≠ r)
    (ret : ∀ h' tk d od xs vs' ns' n', Keeps [r] s.heap h' → h'.get? r = some (listOf vs'.toArray n') → IntsAre vs' ns' → vs'.length ≤ 200 → s.heap.get? d = none → h'.get? d = some od → (∀ h, Stand kled h → h.get? d = some od → DictRd w h d xs) → Q (.ref d) { s with heap := h', toks := tk }) :
    wpAny (model Pg w) (ktrTop dp un gd cn cs L ca ccd cl outer) (call (.ref 103) [.ref r, .int b tb, .ref kl]) Q E s := by
  revert X T; dsimp only [Kf, Pg, TopM]; k_fill; intro X T
  obtain ⟨ol, hol, hlr⟩ := id hkl
  refine' call_W [(r, listOf vs.toArray n)] N B F X T hk ?ho ?hcd ?hr ?hb ?hl ?_ ?c2 ?c3 ?c4 ?c5
  (case ho => k_is); (case hcd => k_is); (case hr => k_room)
  (case hb => first | exact BindsTo.of_eq rfl | exact binds_K (by k_in) rfl (by k_is) rfl rfl rfl)
  (case c5 => decide); (case hl => exact locs rfl); (case c2 => exact rfl); (case c3 => exact rfl); (case c4 => exact rfl)
  k_whole
  intro g0 L0 h1 hg1 hg2 hL0 F0 N0 B0 X0 T0
  (try dsimp only)
  (try k_fold)
  have hM : Menu _ kl ks := ⟨ol, hg2 kl ol (by simpa using hkr) hol, hlr⟩
  have hst : Stand kled g0 := fun p hp => hg2 _ _ (fun q => hkoff p hp (List.mem_singleton.mp q)) (hkled p hp)
  clear F N B X T hkl hol
  k_steps
  (rename Fr _ _ _ _ => F1); (rename News _ _ _ _ => N1); (rename IsRange _ _ _ _ _ _ _ _ => R1)
  have hfm := (fdiv_fmod_facts i' 3).2.2.1 (by decide)
  have hrg := range_ones hfm.1 (by omega)
  refine Stop.mk (rangeG (n := (i'.fmod 3).toNat) (fun i m nx => m (Str.ofString "found") = some (.ref dd) ∧ m (Str.ofString "row") = some (.ref r) ∧ m (Str.ofString "base") = some (.int b tb) ∧ m (Str.ofString "keys") = some (.ref kl) ∧
    ∃ od us a n', nx = [(dd, od), (r, listOf us.toArray n')] ∧ D.Good od i ∧ IntsAre us a ∧ us.length ≤ 200) rfl R1 hrg.1 hrg.2 F1 N1 ?_ ?_ ?_)
  · exact ⟨rfl, rfl, rfl, rfl, _, _, _, _, rfl, D.empty _ dhi, hI', hL'⟩
  · rintro i ti m₁ nx h tk own hilt hoff ⟨hm1, hm2, hm3, hm4, od, us, a, n', rfl, hG, hI2, hL2⟩ F2 N2
    clear F1 N1 R1 dfi dhs dfs dhi hI' hL'
    simp only [List.map_cons, List.map_nil] at hoff
    simp only [List.cons_append, List.nil_append] at N2
    have F3_0 := fr_eta (x := Str.ofString "found") (v := .ref dd) (by rw [if_neg (by decide)]; exact hm1) F2
    have F3_1 := fr_eta (x := Str.ofString "row") (v := .ref r) (by rw [if_neg (by decide), if_neg (by decide)]; exact hm2) F3_0
    clear F3_0
    have F3_2 := fr_eta (x := Str.ofString "base") (v := .int b tb) (by rw [if_neg (by decide), if_neg (by decide), if_neg (by decide)]; exact hm3) F3_1
    clear F3_1
    have F3 := fr_eta (x := Str.ofString "keys") (v := .ref kl) (by rw [if_neg (by decide), if_neg (by decide), if_neg (by decide), if_neg (by decide)]; exact hm4) F3_2
    clear F3_2
    clear F2
    k_steps
    refine Stop.mk (D.set hv' (hst.keeps F'.keep) (N'.get (.head _)) hG (by omega) (by k_units) (fun h6 o6 tk6 ho6 hG6 hs6 => ?_))
    obtain ⟨F6, N6⟩ := upd_after F' N' (UpdF.head (by k_all)) (keeps_but hs6) ho6
    k_steps
    exact end2' F6 N6 ⟨rfl, rfl, rfl, rfl, _, _, _, _, rfl, hG6, hI', hL'⟩ hoff
  · rintro m₁ nx h tk ⟨hm1, -, -, -, od, us, a, n', rfl, hG, hI2, hL2⟩ F2 N2
    clear F1 N1 R1 dfi dhs dfs dhi hI' hL'
    have F3 := fr_eta hm1 F2
    clear F2
    k_steps
    dsimp only
    k_steps
    obtain ⟨xs, hxs⟩ := D.rd dlo hG (by omega)
    exact LeaveW.intro F3 (ret _ _ _ _ _ _ _ _ (fun b o hb e => F3.keep b o (hg2 b o (by simpa using hb) e)) (N2.get (.tail _ (.head _))) hI2 hL2 (new_of hg2 (fun q => absurd (List.mem_singleton.mp q) (Nat.ne_of_gt dl)) (N2 _ (.head _)).2.2) (N2.get (.head _)) hxs)

theorem pairs_N (B : Below A₀ base outer h₀) (F : Fr h₀ L s.heap m) (X : (Kf w).In h₀) (T : TopM mean mg mb h₀) (hk : cs.kind = .function) (hdp : dp < 880) (hun : un < 970)
    (N : News h₀ L s.heap news) (U : UpdF r (listOf vs.toArray n) news g) (hi : IntsAre vs ns) (hlen : vs.length ≤ 200) {b : Int} {tb : Tok} (hb0 : 0 ≤ b) (hb1 : b ≤ 100)
    {kl : Addr} {ks : List Value} {nk : Nat} (hkl : (kl, listOf ks.toArray nk) ∈ news) (hkr : kl ≠ r) (hks : ks.length = 3) {kled : List (Addr × Obj)} (D : DKind w kled ks) (hkled : ∀ p ∈ kled, p ∈ news) (hkoff : ∀ p ∈ kled, p.1 ≠ r)
    (ret : ∀ h' tk d od xs vs' ns' n', Fr h₀ L h' m → News h₀ L h' ((d, od) :: g (listOf vs'.toArray n')) → IntsAre vs' ns' → vs'.length ≤ 200 → (∀ p ∈ news, p.1 ≠ d) → (∀ h, Stand kled h → h.get? d = some od → DictRd w h d xs) → Q (.ref d) { s with heap := h', toks := tk }) :
    wpAny (model Pg w) (ktrTop dp un gd cn cs L ca ccd cl outer) (call (.ref 103) [.ref r, .int b tb, .ref kl]) Q E s := by
  refine pairs_call B F X T hk hdp hun (news_only N (updF_mem U)) hi hlen hb0 hb1 ⟨_, N.get hkl, rfl, _, rfl⟩ hkr hks D (fun p hp => (N p (hkled p hp)).1) hkoff fun h' tk d od xs vs' ns' n' K hr hi' hl' hdn hd hD => ?_
  obtain ⟨F', N'⟩ := upd_after F N U K hr
  refine ret h' tk d od xs vs' ns' n' F' (fun p hp => ?_) hi' hl' (fun p hp q => ?_) hD
  · rcases List.mem_cons.mp hp with rfl | hp
    · refine ⟨hd, fun q => ?_, ?_⟩
      · obtain ⟨oL, _, _, hL, _⟩ := F.ns
        rw [show d = L from q, hL] at hdn; cases hdn
      · cases e : h₀.get? d with
        | none => rfl
        | some o => rw [F.keep d o e] at hdn; cases hdn
    · exact N' p hp
  · have := (N p hp).1
    rw [q, hdn] at this; cases this

abbrev pairT (a b : Int) (t u : Tok) : Obj := { cls := .type "tuple", data := .seq [Value.int a t, Value.int b u].toArray }
theorem pairT_key {a b : Int} {t u : Tok} : TupKeyObj (PySem.intKind Pg w) [a, b] (pairT a b t u) := TupKeyObj.made (.cons (intKind_is _ _ _ _) (.cons (intKind_is _ _ _ _) .nil))

/-- with a menu of three pairs of ints -/
theorem pairsT_N (B : Below A₀ base outer h₀) (F : Fr h₀ L s.heap m) (X : (Kf w).In h₀) (T : TopM mean mg mb h₀) (hk : cs.kind = .function) (hdp : dp < 880) (hun : un < 970)
    (N : News h₀ L s.heap news) (U : UpdF r (listOf vs.toArray n) news g) (hi : IntsAre vs ns) (hlen : vs.length ≤ 200) {b : Int} {tb : Tok} (hb0 : 0 ≤ b) (hb1 : b ≤ 100)
    {kl D1 D2 D3 : Addr} {nk : Nat} {a1 b1 a2 b2 a3 b3 : Int} {t1 u1 t2 u2 t3 u3 : Tok} (hkl : (kl, listOf [Value.ref D1, .ref D2, .ref D3].toArray nk) ∈ news)
    (h1 : (D1, pairT a1 b1 t1 u1) ∈ news) (h2 : (D2, pairT a2 b2 t2 u2) ∈ news) (h3 : (D3, pairT a3 b3 t3 u3) ∈ news) (hkr : kl ≠ r) (h1r : D1 ≠ r) (h2r : D2 ≠ r) (h3r : D3 ≠ r)
    (ret : ∀ h' tk d od xs vs' ns' n', Fr h₀ L h' m → News h₀ L h' ((d, od) :: g (listOf vs'.toArray n')) → IntsAre vs' ns' → vs'.length ≤ 200 → (∀ p ∈ news, p.1 ≠ d) →
      (∀ h, Stand [(D1, pairT a1 b1 t1 u1), (D2, pairT a2 b2 t2 u2), (D3, pairT a3 b3 t3 u3)] h → h.get? d = some od → DictRd w h d xs) → Q (.ref d) { s with heap := h', toks := tk }) :
    wpAny (model Pg w) (ktrTop dp un gd cn cs L ca ccd cl outer) (call (.ref 103) [.ref r, .int b tb, .ref kl]) Q E s := by
  refine pairs_N B F X T hk hdp hun N U hi hlen hb0 hb1 hkl hkr rfl (tupD w [(D1, pairT a1 b1 t1 u1), (D2, pairT a2 b2 t2 u2), (D3, pairT a3 b3 t3 u3)] _ ?_) ?_ ?_ ret
  · intro v hv
    simp only [List.mem_cons, List.not_mem_nil, or_false] at hv
    rcases hv with rfl | rfl | rfl
    · exact ⟨_, _, _, rfl, .head _, pairT_key⟩
    · exact ⟨_, _, _, rfl, .tail _ (.head _), pairT_key⟩
    · exact ⟨_, _, _, rfl, .tail _ (.tail _ (.head _)), pairT_key⟩
  · intro p hp
    simp only [List.mem_cons, List.not_mem_nil, or_false] at hp
    rcases hp with rfl | rfl | rfl <;> assumption
  · intro p hp
    simp only [List.mem_cons, List.not_mem_nil, or_false] at hp
    rcases hp with rfl | rfl | rfl <;> assumption

/-- with a menu of three ints -/
theorem pairsI_N (B : Below A₀ base outer h₀) (F : Fr h₀ L s.heap m) (X : (Kf w).In h₀) (T : TopM mean mg mb h₀) (hk : cs.kind = .function) (hdp : dp < 880) (hun : un < 970)
    (N : News h₀ L s.heap news) (U : UpdF r (listOf vs.toArray n) news g) (hi : IntsAre vs ns) (hlen : vs.length ≤ 200) {b : Int} {tb : Tok} (hb0 : 0 ≤ b) (hb1 : b ≤ 100)
    {kl : Addr} {nk : Nat} {a1 a2 a3 : Int} {t1 t2 t3 : Tok} (hkl : (kl, listOf [Value.int a1 t1, .int a2 t2, .int a3 t3].toArray nk) ∈ news) (hkr : kl ≠ r)
    (ret : ∀ h' tk d od xs vs' ns' n', Fr h₀ L h' m → News h₀ L h' ((d, od) :: g (listOf vs'.toArray n')) → IntsAre vs' ns' → vs'.length ≤ 200 → (∀ p ∈ news, p.1 ≠ d) →
      (∀ h : Heap, h.get? d = some od → DictRd w h d xs) → Q (.ref d) { s with heap := h', toks := tk }) :
    wpAny (model Pg w) (ktrTop dp un gd cn cs L ca ccd cl outer) (call (.ref 103) [.ref r, .int b tb, .ref kl]) Q E s := by
  refine pairs_N B F X T hk hdp hun N U hi hlen hb0 hb1 hkl hkr rfl (intD w _ ?_) (fun p hp => nomatch hp) (fun p hp => nomatch hp) fun h' tk d od xs vs' ns' n' F' N' hi' hl' hn hD => ret h' tk d od xs vs' ns' n' F' N' hi' hl' hn fun h e => hD h (fun p hp => nomatch hp) e
  intro v hv
  simp only [List.mem_cons, List.not_mem_nil, or_false] at hv
  rcases hv with rfl | rfl | rfl <;> exact ⟨_, _, rfl⟩
end
end
theorem words_w16 : True := by
  w_top off
  k_with_none
  (k_with "eval Dict nil nil" => (k_here; k_dflt (refine' newDict_K ?k1 ?k2 (TopRead.nolimit (by k_asm)) ?_; (case k1 => k_asm); (case k2 => k_asm); k_whole); intro dd h' od F' N' dl dlo dhs dfs dhi dfi; (try k_lt dl); (try k_sweep)))
  (k_with "call ref" => (k_here; (with_reducible show wpAny _ _ (call (Value.ref 89) _) _ _ _); k_dflt (refine' next_N ?B ?F ?X ?T ?hk ?hd ?hu ?N ?U ?hi ?hl ?_; (case B => k_asm); (case F => k_asm); (case X => k_asm); (case T => k_asm); (case hk => first | rfl | assumption); (case N => k_asm); (case U => k_updF); (case hi => with_reducible assumption); (case hl => omega); (case hd => k_room); (case hu => k_units); k_whole); intro h' tk' vs' ns' i' t' n' F' N' hI' hL'; (try dsimp only at N'); (try k_sweep)))
  (k_with "call ref" => (k_here; (with_reducible show wpAny _ _ (call (Value.ref 96) _) _ _ _); k_dflt (refine' address_N ?B ?F ?X ?T ?hk ?hd ?hu ?N ?U ?hi ?hl ?b0 ?b1 ?_; (case B => k_asm); (case F => k_asm); (case X => k_asm); (case T => k_asm); (case hk => first | rfl | assumption); (case N => k_asm); (case U => k_updF); (case hi => with_reducible assumption); (case hl => omega); (case b0 => omega); (case b1 => omega); (case hd => k_room); (case hu => k_units); k_whole); intro h' tk' vs' ns' i' t' n' F' N' hI' hL' hb0' hb1'; (try dsimp only at N'); (try k_sweep)))
  (k_with "call ref" => (k_here; (with_reducible show wpAny _ _ (call (Value.ref 82) _) _ _ _); k_dflt (refine' row_N ?B ?F ?X ?T ?hk ?hd ?hu ?N ?l ?hi ?hl ?_; (case B => k_asm); (case F => k_asm); (case X => k_asm); (case T => k_asm); (case hk => first | rfl | assumption); (case N => k_asm); (case l => with_reducible assumption); (case hi => with_reducible assumption); (case hl => omega); (case hd => k_room); (case hu => k_units); k_whole); intro h' tk' row vs' ns' n' F' N' rne hI' hL'; (try dsimp only at N'); (try k_sweep)))
  trivial
theorem words_w18 : True := by
  w_top off
  k_with_none
  (k_with "eval Dict nil nil" => (k_here; k_dflt (refine' newDict_K ?k1 ?k2 (TopRead.nolimit (by k_asm)) ?_; (case k1 => k_asm); (case k2 => k_asm); k_whole); intro dd h' od F' N' dl dlo dhs dfs dhi dfi; (try k_lt dl); (try k_sweep)))
  (k_with "call ref" => (k_here; (with_reducible show wpAny _ _ (call (Value.ref 89) _) _ _ _); k_dflt (refine' next_N ?B ?F ?X ?T ?hk ?hd ?hu ?N ?U ?hi ?hl ?_; (case B => k_asm); (case F => k_asm); (case X => k_asm); (case T => k_asm); (case hk => first | rfl | assumption); (case N => k_asm); (case U => k_updF); (case hi => with_reducible assumption); (case hl => omega); (case hd => k_room); (case hu => k_units); k_whole); intro h' tk' vs' ns' i' t' n' F' N' hI' hL'; (try dsimp only at N'); (try k_sweep)))
  (k_with "call ref" => (k_here; (with_reducible show wpAny _ _ (call (Value.ref 96) _) _ _ _); k_dflt (refine' address_N ?B ?F ?X ?T ?hk ?hd ?hu ?N ?U ?hi ?hl ?b0 ?b1 ?_; (case B => k_asm); (case F => k_asm); (case X => k_asm); (case T => k_asm); (case hk => first | rfl | assumption); (case N => k_asm); (case U => k_updF); (case hi => with_reducible assumption); (case hl => omega); (case b0 => omega); (case b1 => omega); (case hd => k_room); (case hu => k_units); k_whole); intro h' tk' vs' ns' i' t' n' F' N' hI' hL' hb0' hb1'; (try dsimp only at N'); (try k_sweep)))
  (k_with "call ref" => (k_here; (with_reducible show wpAny _ _ (call (Value.ref 82) _) _ _ _); k_dflt (refine' row_N ?B ?F ?X ?T ?hk ?hd ?hu ?N ?l ?hi ?hl ?_; (case B => k_asm); (case F => k_asm); (case X => k_asm); (case T => k_asm); (case hk => first | rfl | assumption); (case N => k_asm); (case l => with_reducible assumption); (case hi => with_reducible assumption); (case hl => omega); (case hd => k_room); (case hu => k_units); k_whole); intro h' tk' row vs' ns' n' F' N' rne hI' hL'; (try dsimp only at N'); (try k_sweep)))
  (k_with "call ref" => (k_here; (with_reducible show wpAny _ _ (call (Value.ref 103) _) _ _ _); refine Stop.out ?_))
  trivial
section
theorem words_w21 : True := by
  w_top off
  k_with_none
  (k_with "eval Dict nil nil" => (k_here; k_dflt (refine' newDict_K ?k1 ?k2 (TopRead.nolimit (by k_asm)) ?_; (case k1 => k_asm); (case k2 => k_asm); k_whole); intro dd h' od F' N' dl dlo dhs dfs dhi dfi; (try k_lt dl); (try k_sweep)))
  (k_with "call ref" => (k_here; (with_reducible show wpAny _ _ (call (Value.ref 89) _) _ _ _); k_dflt (refine' next_N ?B ?F ?X ?T ?hk ?hd ?hu ?N ?U ?hi ?hl ?_; (case B => k_asm); (case F => k_asm); (case X => k_asm); (case T => k_asm); (case hk => first | rfl | assumption); (case N => k_asm); (case U => k_updF); (case hi => with_reducible assumption); (case hl => omega); (case hd => k_room); (case hu => k_units); k_whole); intro h' tk' vs' ns' i' t' n' F' N' hI' hL'; (try dsimp only at N'); (try k_sweep)))
  (k_with "call ref" => (k_here; (with_reducible show wpAny _ _ (call (Value.ref 96) _) _ _ _); k_dflt (refine' address_N ?B ?F ?X ?T ?hk ?hd ?hu ?N ?U ?hi ?hl ?b0 ?b1 ?_; (case B => k_asm); (case F => k_asm); (case X => k_asm); (case T => k_asm); (case hk => first | rfl | assumption); (case N => k_asm); (case U => k_updF); (case hi => with_reducible assumption); (case hl => omega); (case b0 => omega); (case b1 => omega); (case hd => k_room); (case hu => k_units); k_whole); intro h' tk' vs' ns' i' t' n' F' N' hI' hL' hb0' hb1'; (try dsimp only at N'); (try k_sweep)))
  (k_with "call ref" => (k_here; (with_reducible show wpAny _ _ (call (Value.ref 82) _) _ _ _); k_dflt (refine' row_N ?B ?F ?X ?T ?hk ?hd ?hu ?N ?l ?hi ?hl ?_; (case B => k_asm); (case F => k_asm); (case X => k_asm); (case T => k_asm); (case hk => first | rfl | assumption); (case N => k_asm); (case l => with_reducible assumption); (case hi => with_reducible assumption); (case hl => omega); (case hd => k_room); (case hu => k_units); k_whole); intro h' tk' row vs' ns' n' F' N' rne hI' hL'; (try dsimp only at N'); (try k_sweep)))
  (k_with "call ref" => (k_here; (with_reducible show wpAny _ _ (call (Value.ref 103) _) _ _ _); refine Stop.out ?_))
  trivial
section
theorem words_w19 : True := by
  w_top off
  k_with_none
  (k_with "eval Dict nil nil" => (k_here; k_dflt (refine' newDict_K ?k1 ?k2 (TopRead.nolimit (by k_asm)) ?_; (case k1 => k_asm); (case k2 => k_asm); k_whole); intro dd h' od F' N' dl dlo dhs dfs dhi dfi; (try k_lt dl); (try k_sweep)))
  (k_with "call ref" => (k_here; (with_reducible show wpAny _ _ (call (Value.ref 89) _) _ _ _); k_dflt (refine' next_N ?B ?F ?X ?T ?hk ?hd ?hu ?N ?U ?hi ?hl ?_; (case B => k_asm); (case F => k_asm); (case X => k_asm); (case T => k_asm); (case hk => first | rfl | assumption); (case N => k_asm); (case U => k_updF); (case hi => with_reducible assumption); (case hl => omega); (case hd => k_room); (case hu => k_units); k_whole); intro h' tk' vs' ns' i' t' n' F' N' hI' hL'; (try dsimp only at N'); (try k_sweep)))
  (k_with "call ref" => (k_here; (with_reducible show wpAny _ _ (call (Value.ref 96) _) _ _ _); k_dflt (refine' address_N ?B ?F ?X ?T ?hk ?hd ?hu ?N ?U ?hi ?hl ?b0 ?b1 ?_; (case B => k_asm); (case F => k_asm); (case X => k_asm); (case T => k_asm); (case hk => first | rfl | assumption); (case N => k_asm); (case U => k_updF); (case hi => with_reducible assumption); (case hl => omega); (case b0 => omega); (case b1 => omega); (case hd => k_room); (case hu => k_units); k_whole); intro h' tk' vs' ns' i' t' n' F' N' hI' hL' hb0' hb1'; (try dsimp only at N'); (try k_sweep)))
  (k_with "call ref" => (k_here; (with_reducible show wpAny _ _ (call (Value.ref 82) _) _ _ _); k_dflt (refine' row_N ?B ?F ?X ?T ?hk ?hd ?hu ?N ?l ?hi ?hl ?_; (case B => k_asm); (case F => k_asm); (case X => k_asm); (case T => k_asm); (case hk => first | rfl | assumption); (case N => k_asm); (case l => with_reducible assumption); (case hi => with_reducible assumption); (case hl => omega); (case hd => k_room); (case hu => k_units); k_whole); intro h' tk' row vs' ns' n' F' N' rne hI' hL'; (try dsimp only at N'); (try k_sweep)))
  (k_with "call ref" => (k_here; (with_reducible show wpAny _ _ (call (Value.ref 103) _) _ _ _); refine Stop.out ?_))
  (k_with "eval ListComp" => (k_here; k_dflt (refine LCg.ListComp_U (F₀ := by k_asm) (by with_unfolding_all rfl) (by decide) (by rfl) (by decide) (by rfl) ?_); k_dflt lcg_toSrc))
  (k_with "CompSrc" => refine Stop.out ?_)
  trivial
variable {w : World} {mean : ExcName → Option Value} {mg mb : Str → Option Value} {dp un : Nat} {gd : Option (List Code)} {cn : Str} {cs : Scope} {ca : Addr} {ccd : Value} {cl : List (Str × Addr)}
    {outer : List Env} {A₀ : Around} {base h₀ : Heap} {L : Addr} {m : Str → Option Value} {s : Shared} {Q : Value → Shared → Prop} {E : Value → Shared → Prop}
    {r : Addr} {vs : List Value} {ns : List Int} {n : Nat} {news : List (Addr × Obj)} {g : Obj → List (Addr × Obj)}

theorem made_fin {g0 h' : Heap} {L0 D : Addr} {oD : Obj} {m' : Str → Option Value} {led0 : List (Addr × Obj)} {vs' : List Value} {ns' : List Int} {n' tk : Nat} (I : Ins)
    (F1 : Fr g0 L0 h' m') (N1 : News g0 L0 h' led0) (hD : (D, oD) ∈ led0) (hDr : D ≠ r) (hg2 : ∀ b o, b ∉ [r] → s.heap.get? b = some o → g0.get? b = some o) (hr : (r, listOf vs'.toArray n') ∈ led0) (hI' : IntsAre vs' ns') (hL' : vs'.length ≤ 200)
    (hins : ∀ h : Heap, h.get? D = some oD → InsAt w h (.ref D) I)
    (ret : ∀ h' tk v I led vs' ns' n', Keeps [r] s.heap h' → h'.get? r = some (listOf vs'.toArray n') → IntsAre vs' ns' → vs'.length ≤ 200 → (∀ p ∈ led, s.heap.get? p.1 = none) → Stand led h' → (∀ h, Stand led h → InsAt w h v I) → Q v { s with heap := h', toks := tk }) :
    LeaveW g0 Q (.ref D) { s with heap := h', toks := tk } := by
  obtain ⟨a, b⟩ := led_end (led := [(D, oD)]) hg2 N1 (fun p hp => by rw [List.mem_singleton.mp hp]; exact hD) (fun p hp => by rw [List.mem_singleton.mp hp]; exact fun q => hDr (List.mem_singleton.mp q))
  exact LeaveW.intro F1 (ret h' tk _ I _ _ _ _ (fun b o hb e => F1.keep b o (hg2 b o hb e)) (N1.get hr) hI' hL' a b fun h st => hins h (st _ (.head _)))

theorem made_finK {g0 h' : Heap} {L0 D d : Addr} {od : Obj} {m' : Str → Option Value} {led0 kled : List (Addr × Obj)} {vs' : List Value} {ns' xs : List Int} {n' tk : Nat} {nm : Str} {a : Int} {t u : Tok}
    (F1 : Fr g0 L0 h' m') (N1 : News g0 L0 h' led0) (hD : (D, { cls := .type "tuple", data := .seq [Value.str nm t, .ref d, .int a u].toArray }) ∈ led0) (hDr : D ≠ r) (hd : (d, od) ∈ led0) (hdr : d ≠ r) (hks : ∀ p ∈ kled, p ∈ led0) (hkr : ∀ p ∈ kled, p.1 ≠ r)
    (hnm : nm ∈ swNames) (hrd : ∀ h, Stand kled h → h.get? d = some od → DictRd w h d xs) (hg2 : ∀ b o, b ∉ [r] → s.heap.get? b = some o → g0.get? b = some o) (hr : (r, listOf vs'.toArray n') ∈ led0) (hI' : IntsAre vs' ns') (hL' : vs'.length ≤ 200)
    (ret : ∀ h' tk v I led vs' ns' n', Keeps [r] s.heap h' → h'.get? r = some (listOf vs'.toArray n') → IntsAre vs' ns' → vs'.length ≤ 200 → (∀ p ∈ led, s.heap.get? p.1 = none) → Stand led h' → (∀ h, Stand led h → InsAt w h v I) → Q v { s with heap := h', toks := tk }) :
    LeaveW g0 Q (.ref D) { s with heap := h', toks := tk } := by
  obtain ⟨x, y⟩ := led_end (led := (D, { cls := .type "tuple", data := .seq [Value.str nm t, .ref d, .int a u].toArray }) :: (d, od) :: kled) hg2 N1 (fun p hp => by
      rcases List.mem_cons.mp hp with rfl | hp
      · exact hD
      · rcases List.mem_cons.mp hp with rfl | hp
        · exact hd
        · exact hks p hp) (fun p hp q => by
      have q := List.mem_singleton.mp q
      rcases List.mem_cons.mp hp with rfl | hp
      · exact hDr q
      · rcases List.mem_cons.mp hp with rfl | hp
        · exact hdr q
        · exact hkr p hp q)
  exact LeaveW.intro F1 (ret h' tk _ (.sw nm xs a) _ _ _ _ (fun b o hb e => F1.keep b o (hg2 b o hb e)) (N1.get hr) hI' hL' x y fun h st =>
    ⟨hnm, _, _, _, ⟨_, rfl, _, st _ (.head _), rfl, _, rfl⟩, hrd h (fun p hp => st p (.tail _ (.tail _ hp))) (st _ (.tail _ (.head _)))⟩)

theorem ints_four {ys : List Value} {gs : List Int} (h : IntsAre ys gs) (e : gs.length = 4) : ∃ a ta b tb c tc d td, ys = [.int a ta, .int b tb, .int c tc, .int d td] := by
  cases h with
  | nil => cases e
  | cons a ta h => cases h with
    | nil => cases e
    | cons b tb h => cases h with
      | nil => cases e
      | cons c tc h => cases h with
        | nil => cases e
        | cons d td h => cases h with
          | nil => exact ⟨_, _, _, _, _, _, _, _, rfl⟩
          | cons _ _ _ => cases e
set_option maxHeartbeats 8000000 in
theorem made_call (B : Below A₀ base outer h₀) (F : Fr h₀ L s.heap m) (X : (Kf w).In h₀) (T : TopM mean mg mb h₀) (hk : cs.kind = .function) (hdp : dp < 870) (hun : un < 960)
    (N : News h₀ L s.heap [(r, listOf vs.toArray n)]) (hi : IntsAre vs ns) (hlen : vs.length ≤ 200) {b : Int} {tb : Tok} (hb0 : 0 ≤ b) (hb1 : b ≤ 100)
    (ret : ∀ h' tk v I led vs' ns' n', Keeps [r] s.heap h' → h'.get? r = some (listOf vs'.toArray n') → IntsAre vs' ns' → vs'.length ≤ 200 → (∀ p ∈ led, s.heap.get? p.1 = none) → Stand led h' → (∀ h, Stand led h → InsAt w h v I) → Q v { s with heap := h', toks := tk }) :
    wpAny (model Pg w) (ktrTop dp un gd cn cs L ca ccd cl outer) (call (.ref 108) [.ref r, .int b tb]) Q E s := by
  revert X T; dsimp only [Kf, Pg, TopM]; k_fill; intro X T
  refine' call_WC [(r, listOf vs.toArray n)] N B F X T hk ?ho ?hcd ?hr ?hb ?hl ?hn ?_ ?c2 ?c3 ?c4
  (case ho => k_is); (case hcd => k_is); (case hr => k_room)
  (case hb => first | exact BindsTo.of_eq rfl | exact binds_K (by k_in) rfl (by k_is) rfl rfl rfl)
  (case hl => exact rfl); (case hn => decide +kernel); (case c2 => exact rfl); (case c3 => exact rfl); (case c4 => exact rfl)
  k_whole
  intro g0 L0 h1 tk1 cells0 hg1 hg2 hL0 F0 N0 Y0 hW0 B0 X0 T0
  obtain ⟨oc1, oc2, hE, dc1, dc2⟩ := CellsAre.two Y0
  subst hE
  clear Y0
  simp only [List.cons_append, List.nil_append] at N0
  (try dsimp only)
  (try k_fold)
  have hg3 : ∀ b o, b ∉ [r] → s.heap.get? b = some o → g0.get? b = some o := hg2
  have hrL : @LT.lt Nat _ r L0 := hW0 _ (.head _)
  clear F N B X T hW0
  k_steps
  · (rename Fr _ _ _ _ => F1); (rename News _ _ _ _ => N1)
    exact made_fin (s := s) (.call _) F1 N1 (by k_mem) (by k_ne) hg3 (by k_mem) hI' hL' (by intro h e; exact ⟨_, _, _, _, _, rfl, _, e, rfl, _, rfl⟩) ret
  · (rename Fr _ _ _ _ => F1); (rename News _ _ _ _ => N1)
    exact made_fin (s := s) (.try_ _) F1 N1 (by k_mem) (by k_ne) hg3 (by k_mem) hI' hL' (by intro h e; exact ⟨_, _, _, _, _, rfl, _, e, rfl, _, rfl⟩) ret
  · (rename Fr _ _ _ _ => F1); (rename News _ _ _ _ => N1)
    exact made_fin (s := s) (.jump _ _) F1 N1 (by k_mem) (by k_ne) hg3 (by k_mem) hI' hL' (by intro h e; exact ⟨by simp [jumpNames], _, _, _, rfl, _, e, rfl, _, rfl⟩) ret
  · (rename Fr _ _ _ _ => F1); (rename News _ _ _ _ => N1)
    exact made_fin (s := s) (.jump _ _) F1 N1 (by k_mem) (by k_ne) hg3 (by k_mem) hI' hL' (by intro h e; exact ⟨by simp [jumpNames], _, _, _, rfl, _, e, rfl, _, rfl⟩) ret
  · rename_i D1 hh1 FA NA l1 hh2 tk2 t1 u1 v1 R1 F4 N4 hkA
    clear FA NA
    have h1r : @Ne Nat D1 r := by k_ne
    have hrg : Builtin.Range.small 0 4 1 = true ∧ Builtin.Range.rangeSize 0 4 1 = ((4 : Nat) : Int) := ⟨rfl, rfl⟩
    refine Stop.mk (LCg.CompSrc.range rfl F4 N4 R1 hrg.1 hrg.2 (by decide) fun g9 => comp_ind (fun i ys nw => ∃ vs n ns gs, nw = [(D1, { cls := .type "tuple", data := .seq #[.str (Str.ofString "switch_on_term") tk] }), (L0 + 1 + 1, oc1), (L0 + 1, oc2), (r, listOf vs.toArray n)] ∧
      IntsAre vs ns ∧ vs.length ≤ 200 ∧ IntsAre ys gs ∧ gs.length = i) ?_ ?_ ?_)
    · exact ⟨_, _, _, [], rfl, hI', hL', .nil, rfl⟩
    · rintro ys nw ⟨vs8, n8, ns8, gs, rfl, hI8, hL8, hg, hgl⟩
      clear F4 N4 hI' hL'
      obtain ⟨xa, ta, xb, tb', xc, tc, xd, td, rfl⟩ := ints_four hg hgl
      unfold LCg.FinE
      intro dA h tk9 F9 N9 o1
      have hDr : @Ne Nat dA r := Ne.symm o1.2.2.2.1
      k_steps
      (rename Fr _ _ _ _ => F1); (rename News _ _ _ _ => N1)
      exact made_fin (s := s) (.four _ _ _ _) F1 N1 (by k_mem) (by k_ne) hg3 (by k_mem) hI8 hL8 (by intro h e; exact ⟨_, _, _, _, _, _, rfl, _, e, rfl, _, rfl⟩) ret
    · rintro i ys nw v iA oI cA oC dA m₂ h tk9 E' hi ⟨vs8, n8, ns8, gs, rfl, hI8, hL8, hg, hgl⟩ ⟨tv, rfl⟩ hC hx F9 N9 off ne
      clear F4 N4 hI' hL'
      have hrow := off.mem _ (.tail _ (.tail _ (.tail _ (.head _))))
      dsimp only at hrow
      have hIr : @Ne Nat iA r := Ne.symm hrow.1
      have hCr : @Ne Nat cA r := Ne.symm hrow.2.1
      have hDr : @Ne Nat dA r := Ne.symm hrow.2.2
      have hBr : @Ne Nat (L0 + 1 + 1) r := Nat.ne_of_gt (Nat.lt_succ_of_lt (Nat.lt_succ_of_lt hrL))
      have hRr : @Ne Nat (L0 + 1) r := Nat.ne_of_gt (Nat.lt_succ_of_lt hrL)
      k_steps
      (rename Fr _ _ _ _ => F1); (rename News _ _ _ _ => N1)
      refine LCg.CompEnd.intro F1 N1 _ (fun p hp => hp) ⟨off.1, off.2.1, off.2.2.1, hrow, trivial⟩ trivial ⟨_, _, _, gs ++ [_], rfl, hI', hL', IntsAre.append hg (.cons _ _ .nil), ?_⟩
      rw [List.length_append, hgl]; rfl
  · rename_i D1 hh1 l1 D2 hh2 l2 D3 hh3 l3 kl hh4 F4 N4 l4
    have hkr : @Ne Nat kl r := by k_ne
    have h1r : @Ne Nat D1 r := by k_ne
    have h2r : @Ne Nat D2 r := by k_ne
    have h3r : @Ne Nat D3 r := by k_ne
    refine Stop.mk (pairsT_N B0 F4 X0 T0 rfl (by k_room) (by k_units) N4 (by k_updF) hI' hL' hb0 hb1 (kl := kl) (D1 := D1) (D2 := D2) (D3 := D3) (by k_mem) (by k_mem) (by k_mem) (by k_mem) hkr h1r h2r h3r ?_)
    intro h6 tk6 d od xs vs6 ns6 n6 F6 N6 hI6 hL6 hnd hrd
    clear F4 N4 hI' hL'
    have hdr : @Ne Nat r d := hnd _ (updF_mem (by k_updF))
    (try dsimp only at N6)
    k_steps
    (rename Fr _ _ _ _ => F1); (rename News _ _ _ _ => N1)
    exact made_finK (s := s) F1 N1 (by k_mem) (by k_ne) (by k_mem) (Ne.symm hdr)
      (by intro p hp; simp only [List.mem_cons, List.not_mem_nil, or_false] at hp; rcases hp with rfl | rfl | rfl <;> k_mem)
      (by intro p hp; simp only [List.mem_cons, List.not_mem_nil, or_false] at hp; rcases hp with rfl | rfl | rfl <;> assumption)
      (by simp [swNames]) hrd hg3 (by k_mem) hI' hL' ret
  · rename_i kl hh4 F4 N4 l4
    have hkr : @Ne Nat kl r := by k_ne
    refine Stop.mk (pairsI_N B0 F4 X0 T0 rfl (by k_room) (by k_units) N4 (by k_updF) hI' hL' hb0 hb1 (kl := kl) (by k_mem) hkr ?_)
    intro h6 tk6 d od xs vs6 ns6 n6 F6 N6 hI6 hL6 hnd hrd
    clear F4 N4 hI' hL'
    have hdr : @Ne Nat r d := hnd _ (updF_mem (by k_updF))
    (try dsimp only at N6)
    k_steps
    (rename Fr _ _ _ _ => F1); (rename News _ _ _ _ => N1)
    exact made_finK (s := s) (kled := []) F1 N1 (by k_mem) (by k_ne) (by k_mem) (Ne.symm hdr) (fun p hp => nomatch hp) (fun p hp => nomatch hp) (by simp [swNames]) (fun h _ e => hrd h e) hg3 (by k_mem) hI' hL' ret
  · (rename Fr _ _ _ _ => F1); (rename News _ _ _ _ => N1)
    exact made_fin (s := s) (.num _ _) F1 N1 (by k_mem) (by k_ne) hg3 (by k_mem) hI' hL' (by intro h e; exact ⟨by simp [numNames], _, _, _, rfl, _, e, rfl, _, rfl⟩) ret
  · (rename Fr _ _ _ _ => F1); (rename News _ _ _ _ => N1)
    exact made_fin (s := s) (.bare _) F1 N1 (by k_mem) (by k_ne) hg3 (by k_mem) hI' hL' (by intro h e; exact ⟨by simp [bareNames], _, _, rfl, _, e, rfl, _, rfl⟩) ret
  · (rename Fr _ _ _ _ => F1); (rename News _ _ _ _ => N1)
    exact made_fin (s := s) (.bare _) F1 N1 (by k_mem) (by k_ne) hg3 (by k_mem) hI' hL' (by intro h e; exact ⟨by simp [bareNames], _, _, rfl, _, e, rfl, _, rfl⟩) ret
  · (rename Fr _ _ _ _ => F1); (rename News _ _ _ _ => N1)
    exact made_fin (s := s) (.num _ _) F1 N1 (by k_mem) (by k_ne) hg3 (by k_mem) hI' hL' (by intro h e; exact ⟨by simp [numNames], _, _, _, rfl, _, e, rfl, _, rfl⟩) ret
  · (rename Fr _ _ _ _ => F1); (rename News _ _ _ _ => N1)
    exact made_fin (s := s) (.bare _) F1 N1 (by k_mem) (by k_ne) hg3 (by k_mem) hI' hL' (by intro h e; exact ⟨by simp [bareNames], _, _, rfl, _, e, rfl, _, rfl⟩) ret
  · (rename Fr _ _ _ _ => F1); (rename News _ _ _ _ => N1)
    exact made_fin (s := s) (.bare _) F1 N1 (by k_mem) (by k_ne) hg3 (by k_mem) hI' hL' (by intro h e; exact ⟨by simp [bareNames], _, _, rfl, _, e, rfl, _, rfl⟩) ret
  · (rename Fr _ _ _ _ => F1); (rename News _ _ _ _ => N1)
    exact made_fin (s := s) (.reg) F1 N1 (by k_mem) (by k_ne) hg3 (by k_mem) hI' hL' (by intro h e; exact ⟨_, _, _, rfl, _, e, rfl, _, rfl⟩) ret
  · (rename Fr _ _ _ _ => F1); (rename News _ _ _ _ => N1)
    exact made_fin (s := s) (.num _ _) F1 N1 (by k_mem) (by k_ne) hg3 (by k_mem) hI' hL' (by intro h e; exact ⟨by simp [numNames], _, _, _, rfl, _, e, rfl, _, rfl⟩) ret
  · (rename Fr _ _ _ _ => F1); (rename News _ _ _ _ => N1)
    exact made_fin (s := s) (.bare _) F1 N1 (by k_mem) (by k_ne) hg3 (by k_mem) hI' hL' (by intro h e; exact ⟨by simp [bareNames], _, _, rfl, _, e, rfl, _, rfl⟩) ret
  · (rename Fr _ _ _ _ => F1); (rename News _ _ _ _ => N1)
    exact made_fin (s := s) (.bare _) F1 N1 (by k_mem) (by k_ne) hg3 (by k_mem) hI' hL' (by intro h e; exact ⟨by simp [bareNames], _, _, rfl, _, e, rfl, _, rfl⟩) ret
  · (rename Fr _ _ _ _ => F1); (rename News _ _ _ _ => N1)
    exact made_fin (s := s) (.bare _) F1 N1 (by k_mem) (by k_ne) hg3 (by k_mem) hI' hL' (by intro h e; exact ⟨by simp [bareNames], _, _, rfl, _, e, rfl, _, rfl⟩) ret
  · (rename Fr _ _ _ _ => F1); (rename News _ _ _ _ => N1)
    exact made_fin (s := s) (.bare _) F1 N1 (by k_mem) (by k_ne) hg3 (by k_mem) hI' hL' (by intro h e; exact ⟨by simp [bareNames], _, _, rfl, _, e, rfl, _, rfl⟩) ret
end
end
theorem words_w20 : True := by
  w_top off
  k_with_none
  (k_with "eval Dict nil nil" => (k_here; k_dflt (refine' newDict_K ?k1 ?k2 (TopRead.nolimit (by k_asm)) ?_; (case k1 => k_asm); (case k2 => k_asm); k_whole); intro dd h' od F' N' dl dlo dhs dfs dhi dfi; (try k_lt dl); (try k_sweep)))
  (k_with "call ref" => (k_here; (with_reducible show wpAny _ _ (call (Value.ref 89) _) _ _ _); k_dflt (refine' next_N ?B ?F ?X ?T ?hk ?hd ?hu ?N ?U ?hi ?hl ?_; (case B => k_asm); (case F => k_asm); (case X => k_asm); (case T => k_asm); (case hk => first | rfl | assumption); (case N => k_asm); (case U => k_updF); (case hi => with_reducible assumption); (case hl => omega); (case hd => k_room); (case hu => k_units); k_whole); intro h' tk' vs' ns' i' t' n' F' N' hI' hL'; (try dsimp only at N'); (try k_sweep)))
  (k_with "call ref" => (k_here; (with_reducible show wpAny _ _ (call (Value.ref 96) _) _ _ _); k_dflt (refine' address_N ?B ?F ?X ?T ?hk ?hd ?hu ?N ?U ?hi ?hl ?b0 ?b1 ?_; (case B => k_asm); (case F => k_asm); (case X => k_asm); (case T => k_asm); (case hk => first | rfl | assumption); (case N => k_asm); (case U => k_updF); (case hi => with_reducible assumption); (case hl => omega); (case b0 => omega); (case b1 => omega); (case hd => k_room); (case hu => k_units); k_whole); intro h' tk' vs' ns' i' t' n' F' N' hI' hL' hb0' hb1'; (try dsimp only at N'); (try k_sweep)))
  (k_with "call ref" => (k_here; (with_reducible show wpAny _ _ (call (Value.ref 82) _) _ _ _); k_dflt (refine' row_N ?B ?F ?X ?T ?hk ?hd ?hu ?N ?l ?hi ?hl ?_; (case B => k_asm); (case F => k_asm); (case X => k_asm); (case T => k_asm); (case hk => first | rfl | assumption); (case N => k_asm); (case l => with_reducible assumption); (case hi => with_reducible assumption); (case hl => omega); (case hd => k_room); (case hu => k_units); k_whole); intro h' tk' row vs' ns' n' F' N' rne hI' hL'; (try dsimp only at N'); (try k_sweep)))
  (k_with "call ref" => (k_here; (with_reducible show wpAny _ _ (call (Value.ref 103) _) _ _ _); refine Stop.out ?_))
  trivial
section
theorem words_w24 : True := by
  w_top off
  k_with_none
  (k_with "eval Dict nil nil" => (k_here; k_dflt (refine' newDict_K ?k1 ?k2 (TopRead.nolimit (by k_asm)) ?_; (case k1 => k_asm); (case k2 => k_asm); k_whole); intro dd h' od F' N' dl dlo dhs dfs dhi dfi; (try k_lt dl); (try k_sweep)))
  (k_with "call ref" => (k_here; (with_reducible show wpAny _ _ (call (Value.ref 89) _) _ _ _); k_dflt (refine' next_N ?B ?F ?X ?T ?hk ?hd ?hu ?N ?U ?hi ?hl ?_; (case B => k_asm); (case F => k_asm); (case X => k_asm); (case T => k_asm); (case hk => first | rfl | assumption); (case N => k_asm); (case U => k_updF); (case hi => with_reducible assumption); (case hl => omega); (case hd => k_room); (case hu => k_units); k_whole); intro h' tk' vs' ns' i' t' n' F' N' hI' hL'; (try dsimp only at N'); (try k_sweep)))
  (k_with "call ref" => (k_here; (with_reducible show wpAny _ _ (call (Value.ref 96) _) _ _ _); k_dflt (refine' address_N ?B ?F ?X ?T ?hk ?hd ?hu ?N ?U ?hi ?hl ?b0 ?b1 ?_; (case B => k_asm); (case F => k_asm); (case X => k_asm); (case T => k_asm); (case hk => first | rfl | assumption); (case N => k_asm); (case U => k_updF); (case hi => with_reducible assumption); (case hl => omega); (case b0 => omega); (case b1 => omega); (case hd => k_room); (case hu => k_units); k_whole); intro h' tk' vs' ns' i' t' n' F' N' hI' hL' hb0' hb1'; (try dsimp only at N'); (try k_sweep)))
  (k_with "call ref" => (k_here; (with_reducible show wpAny _ _ (call (Value.ref 82) _) _ _ _); k_dflt (refine' row_N ?B ?F ?X ?T ?hk ?hd ?hu ?N ?l ?hi ?hl ?_; (case B => k_asm); (case F => k_asm); (case X => k_asm); (case T => k_asm); (case hk => first | rfl | assumption); (case N => k_asm); (case l => with_reducible assumption); (case hi => with_reducible assumption); (case hl => omega); (case hd => k_room); (case hu => k_units); k_whole); intro h' tk' row vs' ns' n' F' N' rne hI' hL'; (try dsimp only at N'); (try k_sweep)))
  (k_with "call ref" => (k_here; (with_reducible show wpAny _ _ (call (Value.ref 103) _) _ _ _); refine Stop.out ?_))
  trivial
section
variable {w : World} {mean : ExcName → Option Value} {mg mb : Str → Option Value} {dp un : Nat} {gd : Option (List Code)} {cn : Str} {cs : Scope} {ca : Addr} {ccd : Value} {cl : List (Str × Addr)}
    {outer : List Env} {A₀ : Around} {base h₀ : Heap} {L : Addr} {m : Str → Option Value} {s : Shared} {Q : Value → Shared → Prop} {E : Value → Shared → Prop}
    {r : Addr} {vs : List Value} {ns : List Int} {n : Nat} {news : List (Addr × Obj)} {g : Obj → List (Addr × Obj)}

theorem tup_item {prog : Program} {A : Around} {a : Addr} {items : List Value} {k : Int} {u : Tok} {x : Value} {value slice : PySem.Expr} (F : Fr h₀ L s.heap m) (hT : IsTup h₀ a items.toArray) (h0 : 0 ≤ k) (h1 : k < 2 ^ 63) (hx : items[k.toNat]? = some x) (h : Q x s)
    (hs : subscripted slice false (.ref a) (.int k u) = operate [.ref a, .int k u] (getItem (.ref a) (.int k u)) := by with_unfolding_all rfl) :
    wpAny (model prog w) A (subscriptTail value slice (.ref a) (.int k u)) Q E s := by
  have hlt : k.toNat < items.length := by
    rcases Nat.lt_or_ge k.toNat items.length with h | h
    · exact h
    · rw [List.getElem?_eq_none h] at hx; cases hx
  have hj : seqIndex? k items.length = some k.toNat := by
    have e : ¬ k < 0 := by omega
    have e2 : k < (items.length : Int) := by omega
    simp [seqIndex?, e, h0, e2]
  exact item_tupleT (IsTup.keeps hT F.keep) (by omega) h1 hj hx h hs
end

/-- an instruction is a tuple that opens with its name -/
theorem InsAt.open {w : World} {h : Heap} {v : Value} {I : Ins} (x : InsAt w h v I) : ∃ a t rest, v = .ref a ∧ IsTup h a (.str I.name t :: rest : List Value).toArray := by
  cases I with
  | bare nm => obtain ⟨-, t, a, e, b⟩ := x; exact ⟨a, t, _, e, b⟩
  | num nm j => obtain ⟨-, t, u, a, e, b⟩ := x; exact ⟨a, t, _, e, b⟩
  | reg => obtain ⟨t, y, a, e, b⟩ := x; exact ⟨a, t, _, e, b⟩
  | call j => obtain ⟨t, u, j, z, a, e, b⟩ := x; exact ⟨a, t, _, e, b⟩
  | try_ a => obtain ⟨t, u, j, z, a, e, b⟩ := x; exact ⟨a, t, _, e, b⟩
  | jump nm a => obtain ⟨-, t, u, a, e, b⟩ := x; exact ⟨a, t, _, e, b⟩
  | four a b c d => obtain ⟨t, ta, tb, tc, td, a, e, b⟩ := x; exact ⟨a, t, _, e, b⟩
  | sw nm xs a => obtain ⟨-, t, d, u, ⟨a, e, b⟩, -⟩ := x; exact ⟨a, t, _, e, b⟩
noncomputable def allNames : List Str := bareNames ++ numNames ++ jumpNames ++ swNames ++ [Str.ofString "get_list", Str.ofString "call", Str.ofString "try", Str.ofString "switch_on_term"]
theorem InsAt.named {w : World} {h : Heap} {v : Value} {I : Ins} (x : InsAt w h v I) : I.name ∈ allNames := by
  unfold allNames
  cases I with
  | bare nm => simp only [List.mem_append]; exact .inl (.inl (.inl (.inl x.1)))
  | num nm j => simp only [List.mem_append]; exact .inl (.inl (.inl (.inr x.1)))
  | jump nm a => simp only [List.mem_append]; exact .inl (.inl (.inr x.1))
  | sw nm xs a => simp only [List.mem_append]; exact .inl (.inr x.1)
  | reg => simp [Ins.name]
  | call j => simp [Ins.name]
  | try_ a => simp [Ins.name]
  | four a b c d => simp [Ins.name]

noncomputable def stopNames : List Str := [Str.ofString "execute", Str.ofString "proceed", Str.ofString "fail", Str.ofString "halt", Str.ofString "trust", Str.ofString "meta_call", Str.ofString "catch_fail", Str.ofString "dyn_retry"]
theorem goes_all : (allNames.all fun nm => if (stopNames.any fun x => x == nm) = true then (fallNames.any fun x => x == nm) == false else (!Txt.startswith nm (Str.ofString "switch_on_")) == (fallNames.any fun x => x == nm)) = true := by decide +kernel
theorem goes_names {I : Ins} (h : I.name ∈ allNames) : ((stopNames.any fun x => x == I.name) = true → I.falls = false) ∧ ((stopNames.any fun x => x == I.name) = false → (!Txt.startswith I.name (Str.ofString "switch_on_")) = I.falls) := by
  have q := List.all_eq_true.mp goes_all I.name h
  refine ⟨fun e => ?_, fun e => ?_⟩
  · rw [if_pos e] at q; exact eq_of_beq q
  · rw [if_neg (by rw [e]; exact Bool.false_ne_true)] at q; exact eq_of_beq q

section
theorem words_w22 : True := by
  w_top off
  k_with_none
  (k_with "eval Dict nil nil" => (k_here; k_dflt (refine' newDict_K ?k1 ?k2 (TopRead.nolimit (by k_asm)) ?_; (case k1 => k_asm); (case k2 => k_asm); k_whole); intro dd h' od F' N' dl dlo dhs dfs dhi dfi; (try k_lt dl); (try k_sweep)))
  (k_with "call ref" => (k_here; (with_reducible show wpAny _ _ (call (Value.ref 89) _) _ _ _); k_dflt (refine' next_N ?B ?F ?X ?T ?hk ?hd ?hu ?N ?U ?hi ?hl ?_; (case B => k_asm); (case F => k_asm); (case X => k_asm); (case T => k_asm); (case hk => first | rfl | assumption); (case N => k_asm); (case U => k_updF); (case hi => with_reducible assumption); (case hl => omega); (case hd => k_room); (case hu => k_units); k_whole); intro h' tk' vs' ns' i' t' n' F' N' hI' hL'; (try dsimp only at N'); (try k_sweep)))
  (k_with "call ref" => (k_here; (with_reducible show wpAny _ _ (call (Value.ref 96) _) _ _ _); k_dflt (refine' address_N ?B ?F ?X ?T ?hk ?hd ?hu ?N ?U ?hi ?hl ?b0 ?b1 ?_; (case B => k_asm); (case F => k_asm); (case X => k_asm); (case T => k_asm); (case hk => first | rfl | assumption); (case N => k_asm); (case U => k_updF); (case hi => with_reducible assumption); (case hl => omega); (case b0 => omega); (case b1 => omega); (case hd => k_room); (case hu => k_units); k_whole); intro h' tk' vs' ns' i' t' n' F' N' hI' hL' hb0' hb1'; (try dsimp only at N'); (try k_sweep)))
  (k_with "call ref" => (k_here; (with_reducible show wpAny _ _ (call (Value.ref 82) _) _ _ _); k_dflt (refine' row_N ?B ?F ?X ?T ?hk ?hd ?hu ?N ?l ?hi ?hl ?_; (case B => k_asm); (case F => k_asm); (case X => k_asm); (case T => k_asm); (case hk => first | rfl | assumption); (case N => k_asm); (case l => with_reducible assumption); (case hi => with_reducible assumption); (case hl => omega); (case hd => k_room); (case hu => k_units); k_whole); intro h' tk' row vs' ns' n' F' N' rne hI' hL'; (try dsimp only at N'); (try k_sweep)))
  (k_with "call ref" => (k_here; (with_reducible show wpAny _ _ (call (Value.ref 103) _) _ _ _); refine Stop.out ?_))
  (k_with "subscriptTail Name Constant ref int" => (k_here; (with_reducible rename IsTup _ _ _ => hTup); k_dflt (refine' tup_item ?F hTup ?a ?b ?c ?_; (case F => k_asm); (case a => decide); (case b => decide); (case c => rfl); k_whole)))
  trivial
variable {w : World} {mean : ExcName → Option Value} {mg mb : Str → Option Value} {dp un : Nat} {gd : Option (List Code)} {cn : Str} {cs : Scope} {ca : Addr} {ccd : Value} {cl : List (Str × Addr)}
    {outer : List Env} {A₀ : Around} {base h₀ : Heap} {L : Addr} {m : Str → Option Value} {s : Shared} {Q : Value → Shared → Prop} {E : Value → Shared → Prop}
    {r : Addr} {vs : List Value} {ns : List Int} {n : Nat} {news : List (Addr × Obj)} {g : Obj → List (Addr × Obj)}

set_option maxHeartbeats 4000000 in
theorem falls_call (B : Below A₀ base outer h₀) (F : Fr h₀ L s.heap m) (X : (Kf w).In h₀) (T : TopM mean mg mb h₀) (hk : cs.kind = .function) (hdp : dp < 890) (hun : un < 980) {v : Value} {I : Ins} (hI : InsAt w s.heap v I)
    (ret : ∀ h' tk, Keeps [] s.heap h' → Q (.bool I.falls) { s with heap := h', toks := tk }) :
    wpAny (model Pg w) (ktrTop dp un gd cn cs L ca ccd cl outer) (call (.ref 115) [v]) Q E s := by
  revert X T; dsimp only [Kf, Pg, TopM]; k_fill; intro X T
  obtain ⟨a, t, rest, rfl, hT⟩ := hI.open
  refine' call_W [] News.nil B F X T hk ?ho ?hcd ?hr ?hb ?hl ?_ ?c2 ?c3 ?c4 ?c5
  (case ho => k_is); (case hcd => k_is); (case hr => k_room)
  (case hb => first | exact BindsTo.of_eq rfl | exact binds_K (by k_in) rfl (by k_is) rfl rfl rfl)
  (case c5 => decide); (case hl => exact locs rfl); (case c2 => exact rfl); (case c3 => exact rfl); (case c4 => exact rfl)
  k_whole
  intro g0 L0 h1 hg1 hg2 hL0 F0 N0 B0 X0 T0
  (try dsimp only)
  (try k_fold)
  replace hT : IsTup g0 a _ := IsTup.keeps hT fun b o e => hg2 b o (by simp) e
  clear F B X T
  k_steps
  (rename Fr _ _ _ _ => F1); (rename News _ _ _ _ => N1)
  exact LeaveW.intro F1 (ret _ _ fun b o hb e => F1.keep b o (hg2 b o hb e))

set_option maxHeartbeats 4000000 in
theorem goes_call (B : Below A₀ base outer h₀) (F : Fr h₀ L s.heap m) (X : (Kf w).In h₀) (T : TopM mean mg mb h₀) (hk : cs.kind = .function) (hdp : dp < 890) (hun : un < 980) {v : Value} {I : Ins} (hI : InsAt w s.heap v I)
    (ret : ∀ h' tk, Keeps [] s.heap h' → Q (.bool I.falls) { s with heap := h', toks := tk }) :
    wpAny (model Pg w) (ktrTop dp un gd cn cs L ca ccd cl outer) (call (.ref 68) [v]) Q E s := by
  revert X T; dsimp only [Kf, Pg, TopM]; k_fill; intro X T
  obtain ⟨a, t, rest, rfl, hT⟩ := hI.open
  refine' call_W [] News.nil B F X T hk ?ho ?hcd ?hr ?hb ?hl ?_ ?c2 ?c3 ?c4 ?c5
  (case ho => k_is); (case hcd => k_is); (case hr => k_room)
  (case hb => first | exact BindsTo.of_eq rfl | exact binds_K (by k_in) rfl (by k_is) rfl rfl rfl)
  (case c5 => decide); (case hl => exact locs rfl); (case c2 => exact rfl); (case c3 => exact rfl); (case c4 => exact rfl)
  k_whole
  intro g0 L0 h1 hg1 hg2 hL0 F0 N0 B0 X0 T0
  (try dsimp only)
  (try k_fold)
  replace hT : IsTup g0 a _ := IsTup.keeps hT fun b o e => hg2 b o (by simp) e
  clear F B X T
  have hn := goes_names (hI.named)
  k_steps
  · dsimp only
    (rename List.any _ _ = true => hy)
    rw [← hn.1 hy]
    (rename Fr _ _ _ _ => F1); (rename News _ _ _ _ => N1)
    exact LeaveW.intro F1 (ret _ _ fun b o hb e => F1.keep b o (hg2 b o hb e))
  · (rename List.any _ _ = false => hy)
    rw [hn.2 hy]
    (rename Fr _ _ _ _ => F1); (rename News _ _ _ _ => N1)
    exact LeaveW.intro F1 (ret _ _ fun b o hb e => F1.keep b o (hg2 b o hb e))
end
end
theorem words_w23 : True := by
  w_top off
  k_with_none
  (k_with "eval Dict nil nil" => (k_here; k_dflt (refine' newDict_K ?k1 ?k2 (TopRead.nolimit (by k_asm)) ?_; (case k1 => k_asm); (case k2 => k_asm); k_whole); intro dd h' od F' N' dl dlo dhs dfs dhi dfi; (try k_lt dl); (try k_sweep)))
  (k_with "call ref" => (k_here; (with_reducible show wpAny _ _ (call (Value.ref 89) _) _ _ _); k_dflt (refine' next_N ?B ?F ?X ?T ?hk ?hd ?hu ?N ?U ?hi ?hl ?_; (case B => k_asm); (case F => k_asm); (case X => k_asm); (case T => k_asm); (case hk => first | rfl | assumption); (case N => k_asm); (case U => k_updF); (case hi => with_reducible assumption); (case hl => omega); (case hd => k_room); (case hu => k_units); k_whole); intro h' tk' vs' ns' i' t' n' F' N' hI' hL'; (try dsimp only at N'); (try k_sweep)))
  (k_with "call ref" => (k_here; (with_reducible show wpAny _ _ (call (Value.ref 96) _) _ _ _); k_dflt (refine' address_N ?B ?F ?X ?T ?hk ?hd ?hu ?N ?U ?hi ?hl ?b0 ?b1 ?_; (case B => k_asm); (case F => k_asm); (case X => k_asm); (case T => k_asm); (case hk => first | rfl | assumption); (case N => k_asm); (case U => k_updF); (case hi => with_reducible assumption); (case hl => omega); (case b0 => omega); (case b1 => omega); (case hd => k_room); (case hu => k_units); k_whole); intro h' tk' vs' ns' i' t' n' F' N' hI' hL' hb0' hb1'; (try dsimp only at N'); (try k_sweep)))
  (k_with "call ref" => (k_here; (with_reducible show wpAny _ _ (call (Value.ref 82) _) _ _ _); k_dflt (refine' row_N ?B ?F ?X ?T ?hk ?hd ?hu ?N ?l ?hi ?hl ?_; (case B => k_asm); (case F => k_asm); (case X => k_asm); (case T => k_asm); (case hk => first | rfl | assumption); (case N => k_asm); (case l => with_reducible assumption); (case hi => with_reducible assumption); (case hl => omega); (case hd => k_room); (case hu => k_units); k_whole); intro h' tk' row vs' ns' n' F' N' rne hI' hL'; (try dsimp only at N'); (try k_sweep)))
  (k_with "call ref" => (k_here; (with_reducible show wpAny _ _ (call (Value.ref 103) _) _ _ _); refine Stop.out ?_))
  trivial
section
theorem words_w27 : True := by
  w_top off
  k_with_none
  (k_with "eval Dict nil nil" => (k_here; k_dflt (refine' newDict_K ?k1 ?k2 (TopRead.nolimit (by k_asm)) ?_; (case k1 => k_asm); (case k2 => k_asm); k_whole); intro dd h' od F' N' dl dlo dhs dfs dhi dfi; (try k_lt dl); (try k_sweep)))
  (k_with "call ref" => (k_here; (with_reducible show wpAny _ _ (call (Value.ref 89) _) _ _ _); k_dflt (refine' next_N ?B ?F ?X ?T ?hk ?hd ?hu ?N ?U ?hi ?hl ?_; (case B => k_asm); (case F => k_asm); (case X => k_asm); (case T => k_asm); (case hk => first | rfl | assumption); (case N => k_asm); (case U => k_updF); (case hi => with_reducible assumption); (case hl => omega); (case hd => k_room); (case hu => k_units); k_whole); intro h' tk' vs' ns' i' t' n' F' N' hI' hL'; (try dsimp only at N'); (try k_sweep)))
  (k_with "call ref" => (k_here; (with_reducible show wpAny _ _ (call (Value.ref 96) _) _ _ _); k_dflt (refine' address_N ?B ?F ?X ?T ?hk ?hd ?hu ?N ?U ?hi ?hl ?b0 ?b1 ?_; (case B => k_asm); (case F => k_asm); (case X => k_asm); (case T => k_asm); (case hk => first | rfl | assumption); (case N => k_asm); (case U => k_updF); (case hi => with_reducible assumption); (case hl => omega); (case b0 => omega); (case b1 => omega); (case hd => k_room); (case hu => k_units); k_whole); intro h' tk' vs' ns' i' t' n' F' N' hI' hL' hb0' hb1'; (try dsimp only at N'); (try k_sweep)))
  (k_with "call ref" => (k_here; (with_reducible show wpAny _ _ (call (Value.ref 82) _) _ _ _); k_dflt (refine' row_N ?B ?F ?X ?T ?hk ?hd ?hu ?N ?l ?hi ?hl ?_; (case B => k_asm); (case F => k_asm); (case X => k_asm); (case T => k_asm); (case hk => first | rfl | assumption); (case N => k_asm); (case l => with_reducible assumption); (case hi => with_reducible assumption); (case hl => omega); (case hd => k_room); (case hu => k_units); k_whole); intro h' tk' row vs' ns' n' F' N' rne hI' hL'; (try dsimp only at N'); (try k_sweep)))
  (k_with "call ref" => (k_here; (with_reducible show wpAny _ _ (call (Value.ref 103) _) _ _ _); refine Stop.out ?_))
  trivial
/-! targets: the operands, each with the sign of its kind and what it names -/
structure Op where
  sign : Str
  val : Value
  out : List Int
noncomputable def Op.Ok (w : World) (h : Heap) (o : Op) : Prop :=
  if o.sign = Str.ofString "L" then ∃ x t, o.val = .int x t ∧ o.out = [x]
  else if o.sign = Str.ofString "T" ∨ o.sign = Str.ofString "U" then ∃ d, o.val = .ref d ∧ DictRd w h d o.out
  else o.out = []
noncomputable def outs (ops : List Op) : List Int := (ops.map (·.out)).flatten
theorem outs_take {ops : List Op} {i : Nat} {o : Op} (h : ops[i]? = some o) : outs (ops.take (i + 1)) = outs (ops.take i) ++ o.out := by
  unfold outs
  rw [List.take_add_one, h]
  simp

theorem item_rd {w : World} {A : Around} {E : Value → Shared → Prop} {s : Shared} {h₀ : Heap} {L d : Addr} {m : Str → Option Value} {es : Array DictEntry} {ep : Nat} {key val : Value} {value slice : PySem.Expr} {Q : Value → Shared → Prop}
    (F : Fr h₀ L s.heap m) (hd : DictEs h₀ d es ep) (hr : KeyReads w h₀ d key val) (hu : A.units + 1 < cLine) (h : ∀ tk, Q val { s with toks := tk })
    (hs : subscripted slice false (.ref d) key = operate [.ref d, key] (getItem (.ref d) key) := by with_unfolding_all rfl) (ht : ∀ r, letTemporaryGo value (.ref d) r = pure () := by intro _; with_unfolding_all rfl) :
    wpAny (model Pg w) A (subscriptTail value slice (.ref d) key) Q E s :=
  subscriptTail_builtin (DictEs.typeIs (hd.at fun o e => F.keep d o e)) slot_dict_getitem.lookup (hr A E s Q F.keep hu h) hs ht

section
theorem words_w25 : True := by
  w_top off
  k_with_none
  (k_with "eval Dict nil nil" => (k_here; k_dflt (refine' newDict_K ?k1 ?k2 (TopRead.nolimit (by k_asm)) ?_; (case k1 => k_asm); (case k2 => k_asm); k_whole); intro dd h' od F' N' dl dlo dhs dfs dhi dfi; (try k_lt dl); (try k_sweep)))
  (k_with "call ref" => (k_here; (with_reducible show wpAny _ _ (call (Value.ref 89) _) _ _ _); k_dflt (refine' next_N ?B ?F ?X ?T ?hk ?hd ?hu ?N ?U ?hi ?hl ?_; (case B => k_asm); (case F => k_asm); (case X => k_asm); (case T => k_asm); (case hk => first | rfl | assumption); (case N => k_asm); (case U => k_updF); (case hi => with_reducible assumption); (case hl => omega); (case hd => k_room); (case hu => k_units); k_whole); intro h' tk' vs' ns' i' t' n' F' N' hI' hL'; (try dsimp only at N'); (try k_sweep)))
  (k_with "call ref" => (k_here; (with_reducible show wpAny _ _ (call (Value.ref 96) _) _ _ _); k_dflt (refine' address_N ?B ?F ?X ?T ?hk ?hd ?hu ?N ?U ?hi ?hl ?b0 ?b1 ?_; (case B => k_asm); (case F => k_asm); (case X => k_asm); (case T => k_asm); (case hk => first | rfl | assumption); (case N => k_asm); (case U => k_updF); (case hi => with_reducible assumption); (case hl => omega); (case b0 => omega); (case b1 => omega); (case hd => k_room); (case hu => k_units); k_whole); intro h' tk' vs' ns' i' t' n' F' N' hI' hL' hb0' hb1'; (try dsimp only at N'); (try k_sweep)))
  (k_with "call ref" => (k_here; (with_reducible show wpAny _ _ (call (Value.ref 82) _) _ _ _); k_dflt (refine' row_N ?B ?F ?X ?T ?hk ?hd ?hu ?N ?l ?hi ?hl ?_; (case B => k_asm); (case F => k_asm); (case X => k_asm); (case T => k_asm); (case hk => first | rfl | assumption); (case N => k_asm); (case l => with_reducible assumption); (case hi => with_reducible assumption); (case hl => omega); (case hd => k_room); (case hu => k_units); k_whole); intro h' tk' row vs' ns' n' F' N' rne hI' hL'; (try dsimp only at N'); (try k_sweep)))
  (k_with "call ref" => (k_here; (with_reducible show wpAny _ _ (call (Value.ref 103) _) _ _ _); refine Stop.out ?_))
  (k_with "exec For Name Name cons nil" => walk_at "m for")
  (k_with "exec For Name Subscript cons nil" => walk_at "m for")
  (k_with "exec For Name Call cons nil" => walk_at "m for")
  (k_with "exec For Name BinOp cons nil" => walk_at "m for")
  (k_with "pyIter ref" => refine Stop.out ?_)
  (k_with "newList" => (k_here; k_dflt (refine' newList_K ?k1 ?k2 ?_; (case k1 => k_asm); (case k2 => k_asm); k_whole); intro nl h' F' N' nll; (try k_lt nll); (try k_sweep)))
  (k_with "subscriptTail Name Name ref" => refine Stop.out ?_)
  (k_with "subscriptTail Name BinOp ref int" => (k_here; (with_reducible rename IsTup _ _ _ => hTup); k_dflt (refine' tup_item ?F hTup ?a ?b ?c ?_; (case F => k_asm); (case a => omega); (case b => omega); (case c => assumption); k_whole)))
  (k_with "subscriptTail Name Name str int" => (refine KXi.item (by assumption) (by omega) (by omega) (by omega) ?_; intro kxiE))
  trivial
variable {w : World} {mean : ExcName → Option Value} {mg mb : Str → Option Value} {dp un : Nat} {gd : Option (List Code)} {cn : Str} {cs : Scope} {ca : Addr} {ccd : Value} {cl : List (Str × Addr)}
    {outer : List Env} {A₀ : Around} {base h₀ : Heap} {L : Addr} {m : Str → Option Value} {s : Shared} {Q : Value → Shared → Prop} {E : Value → Shared → Prop}
    {r : Addr} {vs : List Value} {ns : List Int} {n : Nat} {news : List (Addr × Obj)} {g : Obj → List (Addr × Obj)}

set_option maxHeartbeats 4000000 in
theorem targets_ops (B : Below A₀ base outer h₀) (F : Fr h₀ L s.heap m) (X : (Kf w).In h₀) (T : TopM mean mg mb h₀) (hk : cs.kind = .function) (hdp : dp < 890) (hun : un < 980) {a : Addr} {nm kinds : Str} {u tkk : Tok} {ops : List Op} (hT : IsTup s.heap a (.str nm u :: ops.map (·.val) : List Value).toArray) (hkl : kinds.length = ops.length) (hol : ops.length ≤ 10)
    (hks : ∀ (i : Nat) o, ops[i]? = some o → Txt.item kinds (i : Int) = o.sign) (hok : ∀ o ∈ ops, o.Ok w s.heap)
    (ret : ∀ h' tk l vs n, Keeps [] s.heap h' → s.heap.get? l = none → h'.get? l = some (listOf vs.toArray n) → IntsAre vs (outs ops) → Q (.ref l) { s with heap := h', toks := tk }) :
    wpAny (model Pg w) (ktrTop dp un gd cn cs L ca ccd cl outer) (call (.ref 61) [.ref a, .str kinds tkk]) Q E s := by
  revert X T; dsimp only [Kf, Pg, TopM]; k_fill; intro X T
  refine' call_W [] News.nil B F X T hk ?ho ?hcd ?hr ?hb ?hl ?_ ?c2 ?c3 ?c4 ?c5
  (case ho => k_is); (case hcd => k_is); (case hr => k_room)
  (case hb => first | exact BindsTo.of_eq rfl | exact binds_K (by k_in) rfl (by k_is) rfl rfl rfl)
  (case c5 => decide); (case hl => exact locs rfl); (case c2 => exact rfl); (case c3 => exact rfl); (case c4 => exact rfl)
  k_whole
  intro g0 L0 h1 hg1 hg2 hL0 F0 N0 B0 X0 T0
  (try dsimp only)
  (try k_fold)
  replace hT : IsTup g0 a _ := IsTup.keeps hT fun b o e => hg2 b o (by simp) e
  clear F B X T
  k_steps
  (rename Fr _ _ _ _ => F1); (rename News _ _ _ _ => N1); (rename IsRange _ _ _ _ _ _ _ _ => R1)
  have hrg := range_ones (b := (kinds.length : Int)) (by omega) (by omega)
  rw [Int.toNat_natCast] at hrg
  refine Stop.mk (rangeG (n := kinds.length) (fun i m nx => m (Str.ofString "found") = some (.ref nl) ∧ m (Str.ofString "ins") = some (.ref a) ∧ m (Str.ofString "kinds") = some (.str kinds tkk) ∧
    ∃ us n', nx = [(nl, listOf us.toArray n')] ∧ IntsAre us (outs (ops.take i)) ∧ us.length ≤ 100 * i) rfl R1 hrg.1 hrg.2 F1 N1 ?_ ?_ ?_)
  · exact ⟨rfl, rfl, rfl, [], _, rfl, .nil, Nat.zero_le _⟩
  · rintro i ti m₁ nx h tk own hilt hoff ⟨hm1, hm2, hm3, us, n', rfl, hI2, hL2⟩ F2 N2
    clear F1 N1 R1
    simp only [List.map_cons, List.map_nil] at hoff
    simp only [List.cons_append, List.nil_append] at N2
    have F3_0 := fr_eta (x := Str.ofString "found") (v := .ref nl) (by rw [if_neg (by decide)]; exact hm1) F2
    have F3_1 := fr_eta (x := Str.ofString "ins") (v := .ref a) (by rw [if_neg (by decide), if_neg (by decide)]; exact hm2) F3_0
    clear F3_0
    have F3 := fr_eta (x := Str.ofString "kinds") (v := .str kinds tkk) (by rw [if_neg (by decide), if_neg (by decide), if_neg (by decide)]; exact hm3) F3_1
    clear F3_1
    clear F2
    obtain ⟨⟨sg, vl, ou⟩, ho⟩ : ∃ o, ops[i]? = some o := ⟨ops[i]'(by omega), by simp⟩
    have hval : (Value.str nm u :: ops.map (·.val) : List Value)[(0 + (i : Int) + 1).toNat]? = some vl := by
      rw [show (0 + (i : Int) + 1).toNat = i + 1 by omega, List.getElem?_cons_succ, List.getElem?_map, ho]; rfl
    have hsg : Txt.item kinds (0 + (i : Int)) = sg := by rw [Int.zero_add]; exact hks i _ ho
    have hOk := hok _ (List.mem_of_getElem? ho)
    have hou := outs_take ho
    have hi10 : i < 10 := by omega
    k_steps
    · (rename (_ == Str.ofString "L") = true => hs)
      rw [hsg] at hs
      have hs' : sg = Str.ofString "L" := eq_of_beq hs
      unfold Op.Ok at hOk
      rw [if_pos hs'] at hOk
      obtain ⟨x, tx, rfl, rfl⟩ := hOk
      (rename Fr _ _ _ _ => F1); (rename News _ _ _ _ => N1)
      simp only [List.push_toArray] at N1
      refine end1' F1 N1 ⟨rfl, rfl, rfl, _, _, rfl, hou ▸ IntsAre.append hI2 (.cons _ _ .nil), ?_⟩ hoff
      simp only [List.length_append, List.length_cons, List.length_nil]; omega
    rotate_right 1
    · (rename (_ == Str.ofString "U") = false => hs3)
      (rename (_ == Str.ofString "T") = false => hs2)
      (rename (_ == Str.ofString "L") = false => hs1)
      rw [hsg] at hs1 hs2 hs3
      unfold Op.Ok at hOk
      rw [if_neg (by simpa using hs1), if_neg (by simpa using And.intro hs2 hs3)] at hOk
      have hOk' : ou = [] := hOk
      rw [hOk', List.append_nil] at hou
      (rename Fr _ _ _ _ => F1); (rename News _ _ _ _ => N1)
      refine end1' F1 N1 ⟨rfl, rfl, rfl, _, _, rfl, hou ▸ hI2, ?_⟩ hoff
      omega
    all_goals (
      have hd1 : ∃ d, vl = .ref d ∧ DictRd w s.heap d ou := by
        (rename (_ == Str.ofString "L") = false => hs1)
        rw [hsg] at hs1
        unfold Op.Ok at hOk
        rw [if_neg (by simpa using hs1)] at hOk
        first
        | ((rename (_ == Str.ofString "T") = true => hs2); rw [hsg] at hs2; rw [if_pos (.inl (eq_of_beq hs2))] at hOk; exact hOk)
        | ((rename (_ == Str.ofString "U") = true => hs2); rw [hsg] at hs2; rw [if_pos (.inr (eq_of_beq hs2))] at hOk; exact hOk)
      obtain ⟨d, rfl, hd⟩ := hd1
      obtain ⟨dlo, dlen, es, ep, hE, hints, hrd⟩ := DictRd.keeps hd (fun b o e => hg2 b o (by simp) e : ∀ b o, s.heap.get? b = some o → g0.get? b = some o)
      (rename Fr _ _ _ _ => F1); (rename News _ _ _ _ => N1)
      refine dictG (es := es) (ep := ep) (fun j m nx => m (Str.ofString "found") = some (.ref nl) ∧ m (Str.ofString "ins") = some (.ref a) ∧ m (Str.ofString "kinds") = some (.str kinds tkk) ∧ m (Str.ofString "value") = some (.ref d) ∧
        ∃ us' n', nx = (nl, listOf us'.toArray n') :: own ∧ IntsAre us' (outs (ops.take i) ++ ou.take j) ∧ us'.length ≤ 100 * i + j) rfl dlo hE F1 N1 ?_ ?_ ?_
      · exact ⟨rfl, rfl, rfl, rfl, _, _, rfl, by simpa using hI2, by omega⟩
      · rintro j e m₂ nx h2 tk2 own2 hej hoff2 ⟨hm1, hm2, hm3, hm4, us2, n2, rfl, hI3, hL3⟩ F2 N2
        clear F1 N1
        simp only [List.map_cons] at hoff2
        simp only [List.cons_append] at N2
        have F3_0 := fr_eta (x := Str.ofString "found") (v := .ref nl) (by rw [if_neg (by decide)]; exact hm1) F2
        have F3_1 := fr_eta (x := Str.ofString "ins") (v := .ref a) (by rw [if_neg (by decide), if_neg (by decide)]; exact hm2) F3_0
        clear F3_0
        have F3_2 := fr_eta (x := Str.ofString "kinds") (v := .str kinds tkk) (by rw [if_neg (by decide), if_neg (by decide), if_neg (by decide)]; exact hm3) F3_1
        clear F3_1
        have F3 := fr_eta (x := Str.ofString "value") (v := .ref d) (by rw [if_neg (by decide), if_neg (by decide), if_neg (by decide), if_neg (by decide)]; exact hm4) F3_2
        clear F3_2
        clear F2
        have hel : e ∈ es.toList := by rw [Array.mem_toList_iff]; exact Array.mem_of_getElem? hej
        have hju : j < ou.length := by
          have h1 : j < es.size := by
            rcases Nat.lt_or_ge j es.size with q | q
            · exact q
            · rw [Array.getElem?_eq_none q] at hej; cases hej
          have := hints.length
          simp only [List.length_map, Array.length_toList] at this
          omega
        obtain ⟨k, tk3, hval3, hk3⟩ := ints_at hints (i := j) (v := e.val) (by rw [List.getElem?_map, Array.getElem?_toList, hej]; rfl)
        have htake : ou.take (j + 1) = ou.take j ++ [k] := by rw [List.take_add_one, hk3]; rfl
        k_steps
        refine Stop.mk (item_rd F3 hE (hrd e hel).1 (by k_units) (fun tk4 => ?_))
        rw [hval3]
        k_steps
        (rename Fr _ _ _ _ => F5); (rename News _ _ _ _ => N5)
        simp only [List.push_toArray] at N5
        refine end1 F5 N5 ⟨rfl, rfl, rfl, rfl, _, _, rfl, ?_, ?_⟩ hoff2
        · rw [htake, ← List.append_assoc]; exact IntsAre.append hI3 (.cons _ _ .nil)
        · simp only [List.length_append, List.length_cons, List.length_nil]; omega
      · rintro m₂ nx h2 tk2 ⟨hm1, hm2, hm3, hm4, us2, n2, rfl, hI3, hL3⟩ F2 N2
        clear F1 N1
        have hes : es.size = ou.length := by
          have := hints.length
          simpa only [List.length_map, Array.length_toList] using this
        rw [hes, List.take_length, ← hou] at hI3
        k_steps
        exact end1' F2 N2 ⟨hm1, hm2, hm3, _, _, rfl, hI3, by omega⟩ hoff)
  · rintro m₁ nx h tk ⟨hm1, hm2, hm3, us, n', rfl, hI2, hL2⟩ F2 N2
    clear F1 N1 R1
    have F3 := fr_eta hm1 F2
    clear F2
    k_steps
    dsimp only
    k_steps
    rw [hkl, List.take_length] at hI2
    exact LeaveW.intro F3 (ret _ _ _ _ _ (fun b o hb e => F3.keep b o (hg2 b o hb e)) (new_of hg2 (by simp) (N2 _ (.head _)).2.2) (N2.get (.head _)) hI2)
end
end
theorem words_w26 : True := by
  w_top off
  k_with_none
  (k_with "eval Dict nil nil" => (k_here; k_dflt (refine' newDict_K ?k1 ?k2 (TopRead.nolimit (by k_asm)) ?_; (case k1 => k_asm); (case k2 => k_asm); k_whole); intro dd h' od F' N' dl dlo dhs dfs dhi dfi; (try k_lt dl); (try k_sweep)))
  (k_with "call ref" => (k_here; (with_reducible show wpAny _ _ (call (Value.ref 89) _) _ _ _); k_dflt (refine' next_N ?B ?F ?X ?T ?hk ?hd ?hu ?N ?U ?hi ?hl ?_; (case B => k_asm); (case F => k_asm); (case X => k_asm); (case T => k_asm); (case hk => first | rfl | assumption); (case N => k_asm); (case U => k_updF); (case hi => with_reducible assumption); (case hl => omega); (case hd => k_room); (case hu => k_units); k_whole); intro h' tk' vs' ns' i' t' n' F' N' hI' hL'; (try dsimp only at N'); (try k_sweep)))
  (k_with "call ref" => (k_here; (with_reducible show wpAny _ _ (call (Value.ref 96) _) _ _ _); k_dflt (refine' address_N ?B ?F ?X ?T ?hk ?hd ?hu ?N ?U ?hi ?hl ?b0 ?b1 ?_; (case B => k_asm); (case F => k_asm); (case X => k_asm); (case T => k_asm); (case hk => first | rfl | assumption); (case N => k_asm); (case U => k_updF); (case hi => with_reducible assumption); (case hl => omega); (case b0 => omega); (case b1 => omega); (case hd => k_room); (case hu => k_units); k_whole); intro h' tk' vs' ns' i' t' n' F' N' hI' hL' hb0' hb1'; (try dsimp only at N'); (try k_sweep)))
  (k_with "call ref" => (k_here; (with_reducible show wpAny _ _ (call (Value.ref 82) _) _ _ _); k_dflt (refine' row_N ?B ?F ?X ?T ?hk ?hd ?hu ?N ?l ?hi ?hl ?_; (case B => k_asm); (case F => k_asm); (case X => k_asm); (case T => k_asm); (case hk => first | rfl | assumption); (case N => k_asm); (case l => with_reducible assumption); (case hi => with_reducible assumption); (case hl => omega); (case hd => k_room); (case hu => k_units); k_whole); intro h' tk' row vs' ns' n' F' N' rne hI' hL'; (try dsimp only at N'); (try k_sweep)))
  (k_with "call ref" => (k_here; (with_reducible show wpAny _ _ (call (Value.ref 103) _) _ _ _); refine Stop.out ?_))
  trivial
section
theorem words_w28 : True := by
  w_top off
  k_with_none
  (k_with "eval Dict nil nil" => (k_here; k_dflt (refine' newDict_K ?k1 ?k2 (TopRead.nolimit (by k_asm)) ?_; (case k1 => k_asm); (case k2 => k_asm); k_whole); intro dd h' od F' N' dl dlo dhs dfs dhi dfi; (try k_lt dl); (try k_sweep)))
  (k_with "call ref" => (k_here; (with_reducible show wpAny _ _ (call (Value.ref 89) _) _ _ _); k_dflt (refine' next_N ?B ?F ?X ?T ?hk ?hd ?hu ?N ?U ?hi ?hl ?_; (case B => k_asm); (case F => k_asm); (case X => k_asm); (case T => k_asm); (case hk => first | rfl | assumption); (case N => k_asm); (case U => k_updF); (case hi => with_reducible assumption); (case hl => omega); (case hd => k_room); (case hu => k_units); k_whole); intro h' tk' vs' ns' i' t' n' F' N' hI' hL'; (try dsimp only at N'); (try k_sweep)))
  (k_with "call ref" => (k_here; (with_reducible show wpAny _ _ (call (Value.ref 96) _) _ _ _); k_dflt (refine' address_N ?B ?F ?X ?T ?hk ?hd ?hu ?N ?U ?hi ?hl ?b0 ?b1 ?_; (case B => k_asm); (case F => k_asm); (case X => k_asm); (case T => k_asm); (case hk => first | rfl | assumption); (case N => k_asm); (case U => k_updF); (case hi => with_reducible assumption); (case hl => omega); (case b0 => omega); (case b1 => omega); (case hd => k_room); (case hu => k_units); k_whole); intro h' tk' vs' ns' i' t' n' F' N' hI' hL' hb0' hb1'; (try dsimp only at N'); (try k_sweep)))
  (k_with "call ref" => (k_here; (with_reducible show wpAny _ _ (call (Value.ref 82) _) _ _ _); k_dflt (refine' row_N ?B ?F ?X ?T ?hk ?hd ?hu ?N ?l ?hi ?hl ?_; (case B => k_asm); (case F => k_asm); (case X => k_asm); (case T => k_asm); (case hk => first | rfl | assumption); (case N => k_asm); (case l => with_reducible assumption); (case hi => with_reducible assumption); (case hl => omega); (case hd => k_room); (case hu => k_units); k_whole); intro h' tk' row vs' ns' n' F' N' rne hI' hL'; (try dsimp only at N'); (try k_sweep)))
  (k_with "call ref" => (k_here; (with_reducible show wpAny _ _ (call (Value.ref 103) _) _ _ _); refine Stop.out ?_))
  trivial
noncomputable def kindsOf (nm : Str) : Str :=
  if nm = Str.ofString "switch_on_term" then Str.ofString "LLLL"
  else if nm = Str.ofString "switch_on_constant" then Str.ofString "TL"
  else if nm = Str.ofString "switch_on_structure" then Str.ofString "UL"
  else if nm = Str.ofString "try" then Str.ofString "LN"
  else if nm = Str.ofString "retry" ∨ nm = Str.ofString "trust" then Str.ofString "L"
  else if nm = Str.ofString "call" then Str.ofString "FN"
  else if nm = Str.ofString "execute" then Str.ofString "F"
  else if nm = Str.ofString "meta_call" ∨ nm = Str.ofString "allocate" then Str.ofString "N"
  else if nm = Str.ofString "get_list" then Str.ofString "X"
  else Str.ofString ""

theorem signs_ok {K : Str} {signs : List Str} (h : (K.length == signs.length && (List.range signs.length).all fun i => Txt.item K (i : Int) == signs.getD i K) = true) {ops : List Op} (e : ops.map (·.sign) = signs) :
    K.length = ops.length ∧ ∀ (i : Nat) o, ops[i]? = some o → Txt.item K (i : Int) = o.sign := by
  subst e
  rw [Bool.and_eq_true] at h
  refine ⟨by simpa using h.1, fun i o ho => ?_⟩
  have hlt : i < ops.length := by
    rcases Nat.lt_or_ge i ops.length with q | q
    · exact q
    · rw [List.getElem?_eq_none q] at ho; cases ho
  have := List.all_eq_true.mp h.2 i (by simpa using hlt)
  have q := eq_of_beq this
  rw [q, List.getD_eq_getElem?_getD, List.getElem?_map, ho]; rfl

section
variable {w : World} {h : Heap}
theorem op_L {x : Int} {t : Tok} : Op.Ok w h ⟨Str.ofString "L", .int x t, [x]⟩ := by
  unfold Op.Ok; rw [if_pos rfl]; exact ⟨x, t, rfl, rfl⟩
theorem op_no {c : Str} {v : Value} (h1 : c ≠ Str.ofString "L") (h2 : c ≠ Str.ofString "T") (h3 : c ≠ Str.ofString "U") : Op.Ok w h ⟨c, v, []⟩ := by
  unfold Op.Ok; rw [if_neg h1, if_neg (fun q => q.elim h2 h3)]
theorem op_T {d : Addr} {xs : List Int} (hd : DictRd w h d xs) : Op.Ok w h ⟨Str.ofString "T", .ref d, xs⟩ := by
  unfold Op.Ok; rw [if_neg (show ¬ Str.ofString "T" = Str.ofString "L" by decide), if_pos (.inl rfl)]; exact ⟨d, rfl, hd⟩
theorem op_U {d : Addr} {xs : List Int} (hd : DictRd w h d xs) : Op.Ok w h ⟨Str.ofString "U", .ref d, xs⟩ := by
  unfold Op.Ok; rw [if_neg (show ¬ Str.ofString "U" = Str.ofString "L" by decide), if_pos (.inr rfl)]; exact ⟨d, rfl, hd⟩

noncomputable def OpsAt (w : World) (h : Heap) (v : Value) (I : Ins) (a : Addr) (u : Tok) (ops : List Op) : Prop :=
  v = .ref a ∧ IsTup h a (.str I.name u :: ops.map (·.val) : List Value).toArray ∧ ((kindsOf I.name).length = ops.length ∧ ∀ (i : Nat) o, ops[i]? = some o → Txt.item (kindsOf I.name) (i : Int) = o.sign) ∧ ops.length ≤ 10 ∧ (∀ o ∈ ops, o.Ok w h) ∧ outs ops = I.tgts

theorem InsAt.ops {v : Value} {I : Ins} (x : InsAt w h v I) : ∃ a u ops, OpsAt w h v I a u ops := by
  cases I with
  | bare nm =>
    obtain ⟨hn, t, a, e, b⟩ := x
    refine ⟨a, t, [], e, b, ?_, by simp, (fun _ ho => nomatch ho), rfl⟩
    simp only [bareNames, List.mem_cons, List.not_mem_nil, or_false] at hn
    rcases hn with rfl | rfl | rfl | rfl | rfl | rfl | rfl | rfl
    · exact signs_ok (K := kindsOf (Str.ofString "proceed")) (signs := []) (by decide +kernel) rfl
    · exact signs_ok (K := kindsOf (Str.ofString "fail")) (signs := []) (by decide +kernel) rfl
    · exact signs_ok (K := kindsOf (Str.ofString "halt")) (signs := []) (by decide +kernel) rfl
    · exact signs_ok (K := kindsOf (Str.ofString "catch_fail")) (signs := []) (by decide +kernel) rfl
    · exact signs_ok (K := kindsOf (Str.ofString "dyn_retry")) (signs := []) (by decide +kernel) rfl
    · exact signs_ok (K := kindsOf (Str.ofString "deallocate")) (signs := []) (by decide +kernel) rfl
    · exact signs_ok (K := kindsOf (Str.ofString "neck_cut")) (signs := []) (by decide +kernel) rfl
    · exact signs_ok (K := kindsOf (Str.ofString "catch_push")) (signs := []) (by decide +kernel) rfl
  | num nm j =>
    obtain ⟨hn, t, u, a, e, b⟩ := x
    simp only [numNames, List.mem_cons, List.not_mem_nil, or_false] at hn
    rcases hn with rfl | rfl | rfl
    · exact ⟨a, t, [⟨Str.ofString "F", .int j u, []⟩], e, b, signs_ok (K := kindsOf (Str.ofString "execute")) (signs := [Str.ofString "F"]) (by decide +kernel) rfl, by simp, List.forall_mem_cons.mpr ⟨op_no (by decide) (by decide) (by decide), fun _ ho => nomatch ho⟩, rfl⟩
    · exact ⟨a, t, [⟨Str.ofString "N", .int j u, []⟩], e, b, signs_ok (K := kindsOf (Str.ofString "meta_call")) (signs := [Str.ofString "N"]) (by decide +kernel) rfl, by simp, List.forall_mem_cons.mpr ⟨op_no (by decide) (by decide) (by decide), fun _ ho => nomatch ho⟩, rfl⟩
    · exact ⟨a, t, [⟨Str.ofString "N", .int j u, []⟩], e, b, signs_ok (K := kindsOf (Str.ofString "allocate")) (signs := [Str.ofString "N"]) (by decide +kernel) rfl, by simp, List.forall_mem_cons.mpr ⟨op_no (by decide) (by decide) (by decide), fun _ ho => nomatch ho⟩, rfl⟩
  | reg =>
    obtain ⟨t, y, a, e, b⟩ := x
    exact ⟨a, t, [⟨Str.ofString "X", .ref y, []⟩], e, b, signs_ok (K := kindsOf (Str.ofString "get_list")) (signs := [Str.ofString "X"]) (by decide +kernel) rfl, by simp, List.forall_mem_cons.mpr ⟨op_no (by decide) (by decide) (by decide), fun _ ho => nomatch ho⟩, rfl⟩
  | call j =>
    obtain ⟨t, u, j, z, a, e, b⟩ := x
    exact ⟨a, t, [⟨Str.ofString "F", _, []⟩, ⟨Str.ofString "N", _, []⟩], e, b, signs_ok (K := kindsOf (Str.ofString "call")) (signs := [Str.ofString "F", Str.ofString "N"]) (by decide +kernel) rfl, by simp,
      List.forall_mem_cons.mpr ⟨op_no (by decide) (by decide) (by decide), List.forall_mem_cons.mpr ⟨op_no (by decide) (by decide) (by decide), fun _ ho => nomatch ho⟩⟩, rfl⟩
  | try_ x =>
    obtain ⟨t, u, j, z, a, e, b⟩ := x
    exact ⟨a, t, [⟨Str.ofString "L", _, [_]⟩, ⟨Str.ofString "N", _, []⟩], e, b, signs_ok (K := kindsOf (Str.ofString "try")) (signs := [Str.ofString "L", Str.ofString "N"]) (by decide +kernel) rfl, by simp,
      List.forall_mem_cons.mpr ⟨op_L, List.forall_mem_cons.mpr ⟨op_no (by decide) (by decide) (by decide), fun _ ho => nomatch ho⟩⟩, rfl⟩
  | jump nm x =>
    obtain ⟨hn, t, u, a, e, b⟩ := x
    simp only [jumpNames, List.mem_cons, List.not_mem_nil, or_false] at hn
    rcases hn with rfl | rfl
    · exact ⟨a, t, [⟨Str.ofString "L", _, [_]⟩], e, b, signs_ok (K := kindsOf (Str.ofString "retry")) (signs := [Str.ofString "L"]) (by decide +kernel) rfl, by simp, List.forall_mem_cons.mpr ⟨op_L, fun _ ho => nomatch ho⟩, rfl⟩
    · exact ⟨a, t, [⟨Str.ofString "L", _, [_]⟩], e, b, signs_ok (K := kindsOf (Str.ofString "trust")) (signs := [Str.ofString "L"]) (by decide +kernel) rfl, by simp, List.forall_mem_cons.mpr ⟨op_L, fun _ ho => nomatch ho⟩, rfl⟩
  | four x y z q =>
    obtain ⟨t, ta, tb, tc, td, a, e, b⟩ := x
    exact ⟨a, t, [⟨Str.ofString "L", _, [_]⟩, ⟨Str.ofString "L", _, [_]⟩, ⟨Str.ofString "L", _, [_]⟩, ⟨Str.ofString "L", _, [_]⟩], e, b, signs_ok (K := kindsOf (Str.ofString "switch_on_term")) (signs := [Str.ofString "L", Str.ofString "L", Str.ofString "L", Str.ofString "L"]) (by decide +kernel) rfl, by simp,
      List.forall_mem_cons.mpr ⟨op_L, List.forall_mem_cons.mpr ⟨op_L, List.forall_mem_cons.mpr ⟨op_L, List.forall_mem_cons.mpr ⟨op_L, fun _ ho => nomatch ho⟩⟩⟩⟩, rfl⟩
  | sw nm xs y =>
    obtain ⟨hn, t, d, u, ⟨a, e, b⟩, hd⟩ := x
    simp only [swNames, List.mem_cons, List.not_mem_nil, or_false] at hn
    rcases hn with rfl | rfl
    · exact ⟨a, t, [⟨Str.ofString "T", _, xs⟩, ⟨Str.ofString "L", _, [_]⟩], e, b, signs_ok (K := kindsOf (Str.ofString "switch_on_constant")) (signs := [Str.ofString "T", Str.ofString "L"]) (by decide +kernel) rfl, by simp,
        List.forall_mem_cons.mpr ⟨op_T hd, List.forall_mem_cons.mpr ⟨op_L, fun _ ho => nomatch ho⟩⟩, by simp [outs, Ins.tgts]⟩
    · exact ⟨a, t, [⟨Str.ofString "U", _, xs⟩, ⟨Str.ofString "L", _, [_]⟩], e, b, signs_ok (K := kindsOf (Str.ofString "switch_on_structure")) (signs := [Str.ofString "U", Str.ofString "L"]) (by decide +kernel) rfl, by simp,
        List.forall_mem_cons.mpr ⟨op_U hd, List.forall_mem_cons.mpr ⟨op_L, fun _ ho => nomatch ho⟩⟩, by simp [outs, Ins.tgts]⟩
end

section
variable {w : World} {mean : ExcName → Option Value} {mg mb : Str → Option Value} {dp un : Nat} {gd : Option (List Code)} {cn : Str} {cs : Scope} {ca : Addr} {ccd : Value} {cl : List (Str × Addr)}
    {outer : List Env} {A₀ : Around} {base h₀ : Heap} {L : Addr} {m : Str → Option Value} {s : Shared} {Q : Value → Shared → Prop} {E : Value → Shared → Prop}
    {r : Addr} {vs : List Value} {ns : List Int} {n : Nat} {news : List (Addr × Obj)} {g : Obj → List (Addr × Obj)}
theorem targets_call (B : Below A₀ base outer h₀) (F : Fr h₀ L s.heap m) (X : (Kf w).In h₀) (T : TopM mean mg mb h₀) (hk : cs.kind = .function) (hdp : dp < 890) (hun : un < 980) {v : Value} {I : Ins} (hI : InsAt w s.heap v I) {tkk : Tok}
    (ret : ∀ h' tk l vs n, Keeps [] s.heap h' → s.heap.get? l = none → h'.get? l = some (listOf vs.toArray n) → IntsAre vs I.tgts → Q (.ref l) { s with heap := h', toks := tk }) :
    wpAny (model Pg w) (ktrTop dp un gd cn cs L ca ccd cl outer) (call (.ref 61) [v, .str (kindsOf I.name) tkk]) Q E s := by
  obtain ⟨a, u, ops, rfl, hT, hks, h10, hok, ho⟩ := hI.ops
  exact targets_ops B F X T hk hdp hun hT hks.1 h10 hks.2 hok (ho ▸ ret)
end
end
section
theorem words_w31 : True := by
  w_top off
  k_with_none
  (k_with "eval Dict nil nil" => (k_here; k_dflt (refine' newDict_K ?k1 ?k2 (TopRead.nolimit (by k_asm)) ?_; (case k1 => k_asm); (case k2 => k_asm); k_whole); intro dd h' od F' N' dl dlo dhs dfs dhi dfi; (try k_lt dl); (try k_sweep)))
  (k_with "call ref" => (k_here; (with_reducible show wpAny _ _ (call (Value.ref 89) _) _ _ _); k_dflt (refine' next_N ?B ?F ?X ?T ?hk ?hd ?hu ?N ?U ?hi ?hl ?_; (case B => k_asm); (case F => k_asm); (case X => k_asm); (case T => k_asm); (case hk => first | rfl | assumption); (case N => k_asm); (case U => k_updF); (case hi => with_reducible assumption); (case hl => omega); (case hd => k_room); (case hu => k_units); k_whole); intro h' tk' vs' ns' i' t' n' F' N' hI' hL'; (try dsimp only at N'); (try k_sweep)))
  (k_with "call ref" => (k_here; (with_reducible show wpAny _ _ (call (Value.ref 96) _) _ _ _); k_dflt (refine' address_N ?B ?F ?X ?T ?hk ?hd ?hu ?N ?U ?hi ?hl ?b0 ?b1 ?_; (case B => k_asm); (case F => k_asm); (case X => k_asm); (case T => k_asm); (case hk => first | rfl | assumption); (case N => k_asm); (case U => k_updF); (case hi => with_reducible assumption); (case hl => omega); (case b0 => omega); (case b1 => omega); (case hd => k_room); (case hu => k_units); k_whole); intro h' tk' vs' ns' i' t' n' F' N' hI' hL' hb0' hb1'; (try dsimp only at N'); (try k_sweep)))
  (k_with "call ref" => (k_here; (with_reducible show wpAny _ _ (call (Value.ref 82) _) _ _ _); k_dflt (refine' row_N ?B ?F ?X ?T ?hk ?hd ?hu ?N ?l ?hi ?hl ?_; (case B => k_asm); (case F => k_asm); (case X => k_asm); (case T => k_asm); (case hk => first | rfl | assumption); (case N => k_asm); (case l => with_reducible assumption); (case hi => with_reducible assumption); (case hl => omega); (case hd => k_room); (case hu => k_units); k_whole); intro h' tk' row vs' ns' n' F' N' rne hI' hL'; (try dsimp only at N'); (try k_sweep)))
  (k_with "call ref" => (k_here; (with_reducible show wpAny _ _ (call (Value.ref 103) _) _ _ _); refine Stop.out ?_))
  trivial
theorem ite_yes {b : Bool} (h : b = true) {x y : Prop} (hx : x) : if b = true then x else y := by rw [if_pos h]; exact hx
theorem ite_no {b : Bool} (h : b = false) {x y : Prop} (hy : y) : if b = true then x else y := by rw [if_neg (by rw [h]; exact Bool.false_ne_true)]; exact hy
section
theorem words_w29 : True := by
  w_top off
  k_with_none
  (k_with "eval Dict nil nil" => (k_here; k_dflt (refine' newDict_K ?k1 ?k2 (TopRead.nolimit (by k_asm)) ?_; (case k1 => k_asm); (case k2 => k_asm); k_whole); intro dd h' od F' N' dl dlo dhs dfs dhi dfi; (try k_lt dl); (try k_sweep)))
  (k_with "call ref" => (k_here; (with_reducible show wpAny _ _ (call (Value.ref 89) _) _ _ _); k_dflt (refine' next_N ?B ?F ?X ?T ?hk ?hd ?hu ?N ?U ?hi ?hl ?_; (case B => k_asm); (case F => k_asm); (case X => k_asm); (case T => k_asm); (case hk => first | rfl | assumption); (case N => k_asm); (case U => k_updF); (case hi => with_reducible assumption); (case hl => omega); (case hd => k_room); (case hu => k_units); k_whole); intro h' tk' vs' ns' i' t' n' F' N' hI' hL'; (try dsimp only at N'); (try k_sweep)))
  (k_with "call ref" => (k_here; (with_reducible show wpAny _ _ (call (Value.ref 96) _) _ _ _); k_dflt (refine' address_N ?B ?F ?X ?T ?hk ?hd ?hu ?N ?U ?hi ?hl ?b0 ?b1 ?_; (case B => k_asm); (case F => k_asm); (case X => k_asm); (case T => k_asm); (case hk => first | rfl | assumption); (case N => k_asm); (case U => k_updF); (case hi => with_reducible assumption); (case hl => omega); (case b0 => omega); (case b1 => omega); (case hd => k_room); (case hu => k_units); k_whole); intro h' tk' vs' ns' i' t' n' F' N' hI' hL' hb0' hb1'; (try dsimp only at N'); (try k_sweep)))
  (k_with "call ref" => (k_here; (with_reducible show wpAny _ _ (call (Value.ref 82) _) _ _ _); k_dflt (refine' row_N ?B ?F ?X ?T ?hk ?hd ?hu ?N ?l ?hi ?hl ?_; (case B => k_asm); (case F => k_asm); (case X => k_asm); (case T => k_asm); (case hk => first | rfl | assumption); (case N => k_asm); (case l => with_reducible assumption); (case hi => with_reducible assumption); (case hl => omega); (case hd => k_room); (case hu => k_units); k_whole); intro h' tk' row vs' ns' n' F' N' rne hI' hL'; (try dsimp only at N'); (try k_sweep)))
  (k_with "call ref" => (k_here; (with_reducible show wpAny _ _ (call (Value.ref 103) _) _ _ _); refine Stop.out ?_))
  (k_with "newList" => (k_here; k_dflt (refine' newList_K ?k1 ?k2 ?_; (case k1 => k_asm); (case k2 => k_asm); k_whole); intro nl h' F' N' nll; (try k_lt nll); (try k_sweep)))
  (k_with "subscriptTail Name Constant ref int" => (k_here; (with_reducible rename IsTup _ _ _ => hTup); k_dflt (refine' tup_item ?F hTup ?a ?b ?c ?_; (case F => k_asm); (case a => decide); (case b => decide); (case c => rfl); k_whole)))
  (k_with "subscriptTail Subscript Name ref" => refine Stop.out ?_)
  (k_with "subscriptTail Name Slice ref ref" => (k_here; (with_reducible rename IsTup _ _ _ => hTup); (with_reducible rename Fr _ _ _ _ => F'); (with_reducible rename News _ _ _ _ => N'); (with_unfolding_all refine slice_tuple_from (a := 1) F' N' (IsTup.keeps hTup F'.keep) (by decide) (Nat.le_of_ble_eq_true rfl) ?_ (hsz := Nat.le_of_ble_eq_true rfl)); intro h' F' N'; (try k_sweep)))
  (k_with "eval ListComp" => (k_here; k_dflt (refine listComp_es (by k_asm) (by with_unfolding_all rfl) (by decide) (by rfl) (by decide) (by rfl) ?_)))
  (k_with "ite" => (k_here; (with_reducible show ite (_ = true) _ _); first | refine ite_yes (by with_reducible assumption) ?_ | refine ite_no (by with_reducible assumption) ?_))
  trivial
variable {w : World} {mean : ExcName → Option Value} {mg mb : Str → Option Value} {dp un : Nat} {gd : Option (List Code)} {cn : Str} {cs : Scope} {ca : Addr} {ccd : Value} {cl : List (Str × Addr)}
    {outer : List Env} {A₀ : Around} {base h₀ : Heap} {L : Addr} {m : Str → Option Value} {s : Shared} {Q : Value → Shared → Prop} {E : Value → Shared → Prop}
    {r : Addr} {vs : List Value} {ns : List Int} {n : Nat} {news : List (Addr × Obj)} {g : Obj → List (Addr × Obj)}

set_option maxHeartbeats 4000000 in
theorem named_one (B : Below A₀ base outer h₀) (F : Fr h₀ L s.heap m) (X : (Kf w).In h₀) (T : TopM mean mg mb h₀) (hk : cs.kind = .function) (hdp : dp < 890) (hun : un < 980) {a : Addr} {nm : Str} {u tx : Tok} {x : Int} {rest : List Value} (hT : IsTup s.heap a (.str nm u :: .int x tx :: rest : List Value).toArray) (h1 : ([Str.ofString "try", Str.ofString "retry", Str.ofString "trust"].any fun y => y == nm) = true)
    (ret : ∀ h' tk l vs n, Keeps [] s.heap h' → s.heap.get? l = none → h'.get? l = some (listOf vs.toArray n) → IntsAre vs [x] → Q (.ref l) { s with heap := h', toks := tk }) :
    wpAny (model Pg w) (ktrTop dp un gd cn cs L ca ccd cl outer) (call (.ref 120) [.ref a]) Q E s := by
  revert X T; dsimp only [Kf, Pg, TopM]; k_fill; intro X T
  refine' call_WC [] News.nil B F X T hk ?ho ?hcd ?hr ?hb ?hl ?hn ?_ ?c2 ?c3 ?c4
  (case ho => k_is); (case hcd => k_is); (case hr => k_room)
  (case hb => first | exact BindsTo.of_eq rfl | exact binds_K (by k_in) rfl (by k_is) rfl rfl rfl)
  (case hl => exact rfl); (case hn => decide +kernel); (case c2 => exact rfl); (case c3 => exact rfl); (case c4 => exact rfl)
  k_whole
  intro g0 L0 h1 tk1 cells0 hg1 hg2 hL0 F0 N0 Y0 hW0 B0 X0 T0
  obtain ⟨oc1, hE, dc1⟩ := CellsAre.one Y0
  subst hE
  clear Y0
  simp only [List.cons_append, List.nil_append] at N0
  (try dsimp only)
  (try k_fold)
  replace hT : IsTup g0 a _ := IsTup.keeps hT fun b o e => hg2 b o (by simp) e
  clear F B X T
  k_steps
  (rename Fr _ _ _ _ => F1); (rename News _ _ _ _ => N1)
  exact LeaveW.intro F1 (ret _ _ _ _ _ (fun b o hb e => F1.keep b o (hg2 b o hb e)) (new_of hg2 (by simp) (N1 _ (by k_mem)).2.2) (N1.get (by k_mem)) (.cons _ _ .nil))

set_option maxHeartbeats 4000000 in
theorem named_none (B : Below A₀ base outer h₀) (F : Fr h₀ L s.heap m) (X : (Kf w).In h₀) (T : TopM mean mg mb h₀) (hk : cs.kind = .function) (hdp : dp < 890) (hun : un < 980) {a : Addr} {nm : Str} {u : Tok} {rest : List Value} (hT : IsTup s.heap a (.str nm u :: rest : List Value).toArray) (h1 : ([Str.ofString "try", Str.ofString "retry", Str.ofString "trust"].any fun y => y == nm) = false)
    (h2 : (nm == Str.ofString "switch_on_term") = false) (h3 : ([Str.ofString "switch_on_constant", Str.ofString "switch_on_structure"].any fun y => y == nm) = false)
    (ret : ∀ h' tk l vs n, Keeps [] s.heap h' → s.heap.get? l = none → h'.get? l = some (listOf vs.toArray n) → IntsAre vs [] → Q (.ref l) { s with heap := h', toks := tk }) :
    wpAny (model Pg w) (ktrTop dp un gd cn cs L ca ccd cl outer) (call (.ref 120) [.ref a]) Q E s := by
  revert X T; dsimp only [Kf, Pg, TopM]; k_fill; intro X T
  refine' call_WC [] News.nil B F X T hk ?ho ?hcd ?hr ?hb ?hl ?hn ?_ ?c2 ?c3 ?c4
  (case ho => k_is); (case hcd => k_is); (case hr => k_room)
  (case hb => first | exact BindsTo.of_eq rfl | exact binds_K (by k_in) rfl (by k_is) rfl rfl rfl)
  (case hl => exact rfl); (case hn => decide +kernel); (case c2 => exact rfl); (case c3 => exact rfl); (case c4 => exact rfl)
  k_whole
  intro g0 L0 h1 tk1 cells0 hg1 hg2 hL0 F0 N0 Y0 hW0 B0 X0 T0
  obtain ⟨oc1, hE, dc1⟩ := CellsAre.one Y0
  subst hE
  clear Y0
  simp only [List.cons_append, List.nil_append] at N0
  (try dsimp only)
  (try k_fold)
  replace hT : IsTup g0 a _ := IsTup.keeps hT fun b o e => hg2 b o (by simp) e
  clear F B X T
  k_steps
  (rename Fr _ _ _ _ => F1); (rename News _ _ _ _ => N1)
  exact LeaveW.intro F1 (ret _ _ _ _ _ (fun b o hb e => F1.keep b o (hg2 b o hb e)) (new_of hg2 (by simp) (N1 _ (by k_mem)).2.2) (N1.get (by k_mem)) .nil)

set_option maxHeartbeats 4000000 in
theorem named_four (B : Below A₀ base outer h₀) (F : Fr h₀ L s.heap m) (X : (Kf w).In h₀) (T : TopM mean mg mb h₀) (hk : cs.kind = .function) (hdp : dp < 890) (hun : un < 980) {a : Addr} {nm : Str} {u ta tb tc td : Tok} {x y z q : Int} (hT : IsTup s.heap a ([.str nm u, .int x ta, .int y tb, .int z tc, .int q td] : List Value).toArray) (h1 : ([Str.ofString "try", Str.ofString "retry", Str.ofString "trust"].any fun y => y == nm) = false)
    (h2 : (nm == Str.ofString "switch_on_term") = true)
    (ret : ∀ h' tk l vs n, Keeps [] s.heap h' → s.heap.get? l = none → h'.get? l = some (listOf vs.toArray n) → IntsAre vs [x, y, z, q] → Q (.ref l) { s with heap := h', toks := tk }) :
    wpAny (model Pg w) (ktrTop dp un gd cn cs L ca ccd cl outer) (call (.ref 120) [.ref a]) Q E s := by
  revert X T; dsimp only [Kf, Pg, TopM]; k_fill; intro X T
  refine' call_WC [] News.nil B F X T hk ?ho ?hcd ?hr ?hb ?hl ?hn ?_ ?c2 ?c3 ?c4
  (case ho => k_is); (case hcd => k_is); (case hr => k_room)
  (case hb => first | exact BindsTo.of_eq rfl | exact binds_K (by k_in) rfl (by k_is) rfl rfl rfl)
  (case hl => exact rfl); (case hn => decide +kernel); (case c2 => exact rfl); (case c3 => exact rfl); (case c4 => exact rfl)
  k_whole
  intro g0 L0 h1 tk1 cells0 hg1 hg2 hL0 F0 N0 Y0 hW0 B0 X0 T0
  obtain ⟨oc1, hE, dc1⟩ := CellsAre.one Y0
  subst hE
  clear Y0
  simp only [List.cons_append, List.nil_append] at N0
  (try dsimp only)
  (try k_fold)
  replace hT : IsTup g0 a _ := IsTup.keeps hT fun b o e => hg2 b o (by simp) e
  clear F B X T
  k_steps
  (rename Fr _ _ _ _ => F1); (rename News _ _ _ _ => N1)
  exact LeaveW.intro F1 (ret _ _ _ _ _ (fun b o hb e => F1.keep b o (hg2 b o hb e)) (new_of hg2 (by simp) (N1 _ (by k_mem)).2.2) (N1.get (by k_mem)) (.cons _ _ (.cons _ _ (.cons _ _ (.cons _ _ .nil)))))

set_option maxHeartbeats 4000000 in
theorem named_sw (B : Below A₀ base outer h₀) (F : Fr h₀ L s.heap m) (X : (Kf w).In h₀) (T : TopM mean mg mb h₀) (hk : cs.kind = .function) (hdp : dp < 890) (hun : un < 980) {a d : Addr} {nm : Str} {u ta : Tok} {x : Int} {xs : List Int} (hT : IsTup s.heap a ([.str nm u, .ref d, .int x ta] : List Value).toArray) (hD : DictRd w s.heap d xs) (h1 : ([Str.ofString "try", Str.ofString "retry", Str.ofString "trust"].any fun y => y == nm) = false)
    (h2 : (nm == Str.ofString "switch_on_term") = false) (h3 : ([Str.ofString "switch_on_constant", Str.ofString "switch_on_structure"].any fun y => y == nm) = true)
    (ret : ∀ h' tk l vs n, Keeps [] s.heap h' → s.heap.get? l = none → h'.get? l = some (listOf vs.toArray n) → IntsAre vs (xs ++ [x]) → Q (.ref l) { s with heap := h', toks := tk }) :
    wpAny (model Pg w) (ktrTop dp un gd cn cs L ca ccd cl outer) (call (.ref 120) [.ref a]) Q E s := by
  revert X T; dsimp only [Kf, Pg, TopM]; k_fill; intro X T
  refine' call_WC [] News.nil B F X T hk ?ho ?hcd ?hr ?hb ?hl ?hn ?_ ?c2 ?c3 ?c4
  (case ho => k_is); (case hcd => k_is); (case hr => k_room)
  (case hb => first | exact BindsTo.of_eq rfl | exact binds_K (by k_in) rfl (by k_is) rfl rfl rfl)
  (case hl => exact rfl); (case hn => decide +kernel); (case c2 => exact rfl); (case c3 => exact rfl); (case c4 => exact rfl)
  k_whole
  intro g0 L0 h1 tk1 cells0 hg1 hg2 hL0 F0 N0 Y0 hW0 B0 X0 T0
  obtain ⟨oc1, hE, dc1⟩ := CellsAre.one Y0
  subst hE
  clear Y0
  simp only [List.cons_append, List.nil_append] at N0
  (try dsimp only)
  (try k_fold)
  replace hT : IsTup g0 a _ := IsTup.keeps hT fun b o e => hg2 b o (by simp) e
  clear F B X T
  k_steps
  obtain ⟨dlo, dlen, es, ep, hE, hints, hrd⟩ := DictRd.keeps hD (fun b o e => hg2 b o (by simp) e : ∀ b o, s.heap.get? b = some o → g0.get? b = some o)
  have hes : es.size = xs.length := by
    have := hints.length
    simpa only [List.length_map, Array.length_toList] using this
  (rename Fr _ _ _ _ => F1); (rename News _ _ _ _ => N1)
  have N2 : News g0 L0 _ [(L0 + 1, oc1)] := fun p hp => N1 p (by rw [List.mem_singleton.mp hp]; k_mem)
  clear N1
  refine ⟨d, es, ep, _, rfl, rfl, F1, N2, hE, dlo, by rw [PySem.sizeLine_eq]; omega, ?_⟩
  rintro s₂ ⟨hh2, rfl⟩
  refine comp_ind (fun i ys nw => nw = [(L0 + 1, oc1)] ∧ IntsAre ys (xs.take i)) ⟨rfl, .nil⟩ ?_ ?_
  · rintro ys nw ⟨rfl, hys⟩
    rw [hes, List.take_length] at hys
    clear F1 N2
    k_steps
    (rename Fr _ _ _ _ => F1); (rename News _ _ _ _ => N1); (rename IntsAre _ (_ ++ _) => hI9)
    exact LeaveW.intro F1 (ret _ _ _ _ _ (fun b o hb e => F1.keep b o (hg2 b o hb e)) (new_of hg2 (by simp) (N1 _ (by k_mem)).2.2) (N1.get (by k_mem)) hI9)
  · rintro i ys nw v I oI C oC D m₂ h tk E' hi ⟨rfl, hys⟩ ⟨e, he, rfl⟩ hC hx F N off ne
    clear F1 N2
    have hel : e ∈ es.toList := by rw [Array.mem_toList_iff]; exact Array.mem_of_getElem? he
    obtain ⟨k, tk3, hval3, hk3⟩ := ints_at hints (i := i) (v := e.val) (by rw [List.getElem?_map, Array.getElem?_toList, he]; rfl)
    have htake : xs.take (i + 1) = xs.take i ++ [k] := by rw [List.take_add_one, hk3]; rfl
    k_steps
    refine Stop.mk (item_rd F hE (hrd e hel).1 (by k_units) (fun tk4 => ?_))
    rw [hval3]
    exact LCg.CompEnd.intro F N _ (fun p hp => hp) off trivial ⟨rfl, by rw [htake]; exact IntsAre.append hys (.cons _ _ .nil)⟩

theorem named_call (B : Below A₀ base outer h₀) (F : Fr h₀ L s.heap m) (X : (Kf w).In h₀) (T : TopM mean mg mb h₀) (hk : cs.kind = .function) (hdp : dp < 890) (hun : un < 980) {v : Value} {I : Ins} (hI : InsAt w s.heap v I)
    (ret : ∀ h' tk l vs n, Keeps [] s.heap h' → s.heap.get? l = none → h'.get? l = some (listOf vs.toArray n) → IntsAre vs I.tgts → Q (.ref l) { s with heap := h', toks := tk }) :
    wpAny (model Pg w) (ktrTop dp un gd cn cs L ca ccd cl outer) (call (.ref 120) [v]) Q E s := by
  cases I with
  | bare nm =>
    obtain ⟨hn, t, a, rfl, b⟩ := hI
    simp only [bareNames, List.mem_cons, List.not_mem_nil, or_false] at hn
    rcases hn with rfl | rfl | rfl | rfl | rfl | rfl | rfl | rfl <;> exact named_none B F X T hk hdp hun b (by decide +kernel) (by decide +kernel) (by decide +kernel) ret
  | num nm j =>
    obtain ⟨hn, t, u, a, rfl, b⟩ := hI
    simp only [numNames, List.mem_cons, List.not_mem_nil, or_false] at hn
    rcases hn with rfl | rfl | rfl <;> exact named_none B F X T hk hdp hun b (by decide +kernel) (by decide +kernel) (by decide +kernel) ret
  | reg =>
    obtain ⟨t, y, a, rfl, b⟩ := hI
    exact named_none B F X T hk hdp hun b (by decide +kernel) (by decide +kernel) (by decide +kernel) ret
  | call j =>
    obtain ⟨t, u, j, z, a, rfl, b⟩ := hI
    exact named_none B F X T hk hdp hun b (by decide +kernel) (by decide +kernel) (by decide +kernel) ret
  | try_ x =>
    obtain ⟨t, u, j, z, a, rfl, b⟩ := hI
    exact named_one B F X T hk hdp hun b (by decide +kernel) ret
  | jump nm x =>
    obtain ⟨hn, t, u, a, rfl, b⟩ := hI
    simp only [jumpNames, List.mem_cons, List.not_mem_nil, or_false] at hn
    rcases hn with rfl | rfl <;> exact named_one B F X T hk hdp hun b (by decide +kernel) ret
  | four x y z q =>
    obtain ⟨t, ta, tb, tc, td, a, rfl, b⟩ := hI
    exact named_four B F X T hk hdp hun b (by decide +kernel) (by decide +kernel) ret
  | sw nm xs y =>
    obtain ⟨hn, t, d, u, ⟨a, rfl, b⟩, hd⟩ := hI
    simp only [swNames, List.mem_cons, List.not_mem_nil, or_false] at hn
    rcases hn with rfl | rfl <;> exact named_sw B F X T hk hdp hun b hd (by decide +kernel) (by decide +kernel) (by decide +kernel) ret
end
end
theorem words_w30 : True := by
  w_top off
  k_with_none
  (k_with "eval Dict nil nil" => (k_here; k_dflt (refine' newDict_K ?k1 ?k2 (TopRead.nolimit (by k_asm)) ?_; (case k1 => k_asm); (case k2 => k_asm); k_whole); intro dd h' od F' N' dl dlo dhs dfs dhi dfi; (try k_lt dl); (try k_sweep)))
  (k_with "call ref" => (k_here; (with_reducible show wpAny _ _ (call (Value.ref 89) _) _ _ _); k_dflt (refine' next_N ?B ?F ?X ?T ?hk ?hd ?hu ?N ?U ?hi ?hl ?_; (case B => k_asm); (case F => k_asm); (case X => k_asm); (case T => k_asm); (case hk => first | rfl | assumption); (case N => k_asm); (case U => k_updF); (case hi => with_reducible assumption); (case hl => omega); (case hd => k_room); (case hu => k_units); k_whole); intro h' tk' vs' ns' i' t' n' F' N' hI' hL'; (try dsimp only at N'); (try k_sweep)))
  (k_with "call ref" => (k_here; (with_reducible show wpAny _ _ (call (Value.ref 96) _) _ _ _); k_dflt (refine' address_N ?B ?F ?X ?T ?hk ?hd ?hu ?N ?U ?hi ?hl ?b0 ?b1 ?_; (case B => k_asm); (case F => k_asm); (case X => k_asm); (case T => k_asm); (case hk => first | rfl | assumption); (case N => k_asm); (case U => k_updF); (case hi => with_reducible assumption); (case hl => omega); (case b0 => omega); (case b1 => omega); (case hd => k_room); (case hu => k_units); k_whole); intro h' tk' vs' ns' i' t' n' F' N' hI' hL' hb0' hb1'; (try dsimp only at N'); (try k_sweep)))
  (k_with "call ref" => (k_here; (with_reducible show wpAny _ _ (call (Value.ref 82) _) _ _ _); k_dflt (refine' row_N ?B ?F ?X ?T ?hk ?hd ?hu ?N ?l ?hi ?hl ?_; (case B => k_asm); (case F => k_asm); (case X => k_asm); (case T => k_asm); (case hk => first | rfl | assumption); (case N => k_asm); (case l => with_reducible assumption); (case hi => with_reducible assumption); (case hl => omega); (case hd => k_room); (case hu => k_units); k_whole); intro h' tk' row vs' ns' n' F' N' rne hI' hL'; (try dsimp only at N'); (try k_sweep)))
  (k_with "call ref" => (k_here; (with_reducible show wpAny _ _ (call (Value.ref 103) _) _ _ _); refine Stop.out ?_))
  trivial
section
theorem words_w32 : True := by
  w_top off
  k_with_none
  (k_with "eval Dict nil nil" => (k_here; k_dflt (refine' newDict_K ?k1 ?k2 (TopRead.nolimit (by k_asm)) ?_; (case k1 => k_asm); (case k2 => k_asm); k_whole); intro dd h' od F' N' dl dlo dhs dfs dhi dfi; (try k_lt dl); (try k_sweep)))
  (k_with "call ref" => (k_here; (with_reducible show wpAny _ _ (call (Value.ref 89) _) _ _ _); k_dflt (refine' next_N ?B ?F ?X ?T ?hk ?hd ?hu ?N ?U ?hi ?hl ?_; (case B => k_asm); (case F => k_asm); (case X => k_asm); (case T => k_asm); (case hk => first | rfl | assumption); (case N => k_asm); (case U => k_updF); (case hi => with_reducible assumption); (case hl => omega); (case hd => k_room); (case hu => k_units); k_whole); intro h' tk' vs' ns' i' t' n' F' N' hI' hL'; (try dsimp only at N'); (try k_sweep)))
  (k_with "call ref" => (k_here; (with_reducible show wpAny _ _ (call (Value.ref 96) _) _ _ _); k_dflt (refine' address_N ?B ?F ?X ?T ?hk ?hd ?hu ?N ?U ?hi ?hl ?b0 ?b1 ?_; (case B => k_asm); (case F => k_asm); (case X => k_asm); (case T => k_asm); (case hk => first | rfl | assumption); (case N => k_asm); (case U => k_updF); (case hi => with_reducible assumption); (case hl => omega); (case b0 => omega); (case b1 => omega); (case hd => k_room); (case hu => k_units); k_whole); intro h' tk' vs' ns' i' t' n' F' N' hI' hL' hb0' hb1'; (try dsimp only at N'); (try k_sweep)))
  (k_with "call ref" => (k_here; (with_reducible show wpAny _ _ (call (Value.ref 82) _) _ _ _); k_dflt (refine' row_N ?B ?F ?X ?T ?hk ?hd ?hu ?N ?l ?hi ?hl ?_; (case B => k_asm); (case F => k_asm); (case X => k_asm); (case T => k_asm); (case hk => first | rfl | assumption); (case N => k_asm); (case l => with_reducible assumption); (case hi => with_reducible assumption); (case hl => omega); (case hd => k_room); (case hu => k_units); k_whole); intro h' tk' row vs' ns' n' F' N' rne hI' hL'; (try dsimp only at N'); (try k_sweep)))
  (k_with "call ref" => (k_here; (with_reducible show wpAny _ _ (call (Value.ref 103) _) _ _ _); refine Stop.out ?_))
  trivial
/-! a display of many text literals -/
section
variable {prog : Program} {w : World} {K : Type} [DecidableEq K] {knd : PySem.KeyKind prog w K} {A : Around} {E : Value → Shared → Prop} {s : Shared}

theorem put_new {d : Addr} {kvs : List (K × Value)} {k : K} {key v : Value} {Q : Unit → Shared → Prop} (hkey : knd.is k key = true) (hm : s.heap.DictOf knd d kvs) (hnot : k ∉ kvs.map (·.1))
    (hsz : kvs.length ≤ sizeLine) (hQ : ∀ h', h'.DictOf knd d (kvs ++ [(k, v)]) → Heap.SameBut d s.heap h' → Q () { s with heap := h' }) :
    wpAny (model prog w) A (dictPut d (knd.hash k) key v) Q E s := by
  obtain ⟨o, es, ep, ho, hc, hd, hk, hp, hn⟩ := hm
  have hes : es.size ≤ sizeLine := by
    have e1 := hp.length
    rw [Array.length_toList] at e1; omega
  have hidx : (es.findIdx? fun e => knd.is k e.key) = none := by
    rw [Array.findIdx?_eq_none_iff]
    intro e he
    obtain ⟨j, hj⟩ := List.getElem?_of_mem (Array.mem_toList_iff.mpr he)
    have hj' : j < kvs.length := by
      rw [← hp.length]
      rcases Nat.lt_or_ge j es.toList.length with q | q
      · exact q
      · rw [List.getElem?_eq_none q] at hj; cases hj
    have hg := hp.get? (k := kvs[j].1) (v := kvs[j].2) hj (by simp [hj'])
    cases q : knd.is k e.key with
    | false => rfl
    | true => exact absurd (List.mem_map.mpr ⟨kvs[j], List.getElem_mem hj', (knd.inj _ _ _ hg.1 q)⟩) hnot
  unfold dictPut
  refine wpAny_bind (wpAny_dictFind_of hkey ho hd hk ?_)
  rw [hidx]
  refine wpAny_updateDictKeys (hz := hes) ho hd (hQ _ ⟨_, _, ep + 1, Heap.get?_update_self _ ho (Obj.isFreed_of_dict (Obj.data_mapDictKeys hd _)), hc.mapDictKeys _, Obj.data_mapDictKeys hd _, hk.push hkey _, ?_, ?_⟩ (Heap.SameBut.update ..))
  · rw [Array.toList_push]
    exact hp.append hkey (knd.hash k) v
  · rw [List.map_append, List.nodup_append]
    refine ⟨hn, by simp, fun a ha b hb e => hnot ?_⟩
    rw [List.map_singleton, List.mem_singleton] at hb
    subst hb; exact e ▸ ha

theorem merge_new {d a : Addr} {kvs more : List (K × Value)} {Q : Unit → Shared → Prop} (hne : a ≠ d) (lo : (a == sysModules) = false) (hd : s.heap.DictOf knd d kvs) (ha : s.heap.DictOf knd a more) (h0 : kvs ≠ [])
    (hdis : ((kvs ++ more).map (·.1)).Nodup) (hsz : kvs.length + more.length ≤ sizeLine) (hQ : ∀ h', h'.DictOf knd d (kvs ++ more) → Heap.SameBut d s.heap h' → Q () { s with heap := h' }) :
    wpAny (model prog w) A (mergeMapping d (.ref a) false) Q E s := by
  have hTa : s.TypeIs (.ref a) "dict" := let ⟨o, _, _, ho, hc, _⟩ := ha; ⟨o, ho, hc.1⟩
  obtain ⟨oa, esa, epa, hoa, hca, hda, hka, hpa, hna⟩ := id ha
  obtain ⟨od, esd, epd, hod, hcd, hdd, hkd, hpd, hnd⟩ := id hd
  have hesd : esd.isEmpty = false := by
    cases q : esd.isEmpty with
    | false => rfl
    | true =>
      have e1 := hpd.length
      rw [Array.isEmpty_iff.mp q] at e1
      exact absurd (List.length_eq_zero_iff.mp e1.symm) h0
  have hlen : more.length = esa.size := by rw [← hpa.length, Array.length_toList]
  unfold mergeMapping
  refine wpAny_bind (wpAny_isInstance hTa isSubtype_dict_dict ?_)
  rw [if_pos rfl]
  refine wpAny_bind (wpAny_specialOf hTa PySem.F.slot_dict_iter.lookup ?_)
  refine wpAny_bind (wpAny_pure ?_)
  rw [show (some (Value.builtin "dict.__iter__") == some (Value.builtin "dict.__iter__")) = true from by simp]
  dsimp only
  rw [if_neg (by rw [lo]; exact Bool.false_ne_true)]
  refine wpAny_bind (wpAny_dictEntries hod hdd ?_)
  rw [if_neg (by rw [hesd]; exact Bool.false_ne_true)]
  refine wpAny_bind (wpAny_dictEntries hoa hda (wpAny_bind (wpAny_dictEpoch hoa hda ?_)))
  refine wpAny_bind ?_
  refine wpAny_forIn_list _ (fun rest _ s' => ∃ h' i, s' = { s with heap := h' } ∧ rest = (List.range esa.size).drop i ∧ i ≤ esa.size ∧ h'.DictOf knd d (kvs ++ more.take i) ∧ Heap.SameBut d s.heap h') _ ?_ ?_ _ _
    ⟨s.heap, 0, rfl, rfl, Nat.zero_le _, by simpa using hd, Heap.SameBut.refl _ _⟩
  · rintro x rest b s' ⟨h', i, rfl, hr, hi, hd', hs'⟩
    have hlt : i < esa.size := by
      rcases Nat.lt_or_ge i esa.size with q | q
      · exact q
      · rw [List.drop_eq_nil_of_le (by simpa using q)] at hr; cases hr
    rw [List.drop_eq_getElem_cons (by simpa using hlt), List.getElem_range] at hr
    injection hr with hx hrest
    subst hx
    have hoa' : h'.get? a = some oa := (hs'.2 a hne).trans hoa
    refine wpAny_bind (wpAny_dictEntries hoa' hda ?_)
    rw [Array.getElem?_eq_getElem hlt]
    have hlm : x < more.length := by omega
    obtain ⟨hkey, hval⟩ := hpa.get? (i := x) (e := esa[x]) (k := more[x].1) (v := more[x].2) (by simp [hlt]) (by simp [hlm])
    obtain ⟨k', hk', hhash⟩ := hka esa[x] (Array.getElem_mem hlt)
    obtain rfl : k' = more[x].1 := knd.inj _ _ _ hk' hkey
    have htk : more.take (x + 1) = more.take x ++ [more[x]] := by rw [List.take_add_one]; simp [hlm]
    have hfresh : more[x].1 ∉ (kvs ++ more.take x).map (·.1) := by
      intro q
      have e : kvs ++ more = (kvs ++ more.take x) ++ (more[x] :: more.drop (x + 1)) := by
        rw [List.append_assoc, ← List.drop_eq_getElem_cons hlm, List.take_append_drop]
      rw [e, List.map_append, List.nodup_append] at hdis
      exact hdis.2.2 _ q _ (by rw [List.map_cons]; exact .head _) rfl
    refine wpAny_bind (wpAny_holding ?_)
    rw [if_neg Bool.false_ne_true, hhash, hval]
    refine put_new hkey hd' hfresh (by rw [List.length_append, List.length_take]; omega) fun h'' hd'' hs'' => ?_
    refine wpAny_bind (wpAny_dictEpoch (((hs''.2 a hne).trans hoa')) hda ?_)
    rw [if_neg (by simp)]
    refine wpAny_pure ⟨h'', x + 1, rfl, hrest, hlt, ?_, hs'.trans hs''⟩
    rw [htk, ← List.append_assoc]; exact hd''
  · rintro b s' ⟨h', i, rfl, hr, hi, hd', hs'⟩
    have hin : i = esa.size := by
      rcases Nat.lt_or_ge i esa.size with q | q
      · rw [List.drop_eq_getElem_cons (by simpa using q)] at hr; cases hr
      · omega
    refine wpAny_pure (hQ h' ?_ hs')
    rw [hin, ← hlen, List.take_length] at hd'; exact hd'
end
end
section
theorem words_w33 : True := by
  w_top off
  k_with_none
  (k_with "eval Dict nil nil" => (k_here; k_dflt (refine' newDict_K ?k1 ?k2 (TopRead.nolimit (by k_asm)) ?_; (case k1 => k_asm); (case k2 => k_asm); k_whole); intro dd h' od F' N' dl dlo dhs dfs dhi dfi; (try k_lt dl); (try k_sweep)))
  (k_with "call ref" => (k_here; (with_reducible show wpAny _ _ (call (Value.ref 89) _) _ _ _); k_dflt (refine' next_N ?B ?F ?X ?T ?hk ?hd ?hu ?N ?U ?hi ?hl ?_; (case B => k_asm); (case F => k_asm); (case X => k_asm); (case T => k_asm); (case hk => first | rfl | assumption); (case N => k_asm); (case U => k_updF); (case hi => with_reducible assumption); (case hl => omega); (case hd => k_room); (case hu => k_units); k_whole); intro h' tk' vs' ns' i' t' n' F' N' hI' hL'; (try dsimp only at N'); (try k_sweep)))
  (k_with "call ref" => (k_here; (with_reducible show wpAny _ _ (call (Value.ref 96) _) _ _ _); k_dflt (refine' address_N ?B ?F ?X ?T ?hk ?hd ?hu ?N ?U ?hi ?hl ?b0 ?b1 ?_; (case B => k_asm); (case F => k_asm); (case X => k_asm); (case T => k_asm); (case hk => first | rfl | assumption); (case N => k_asm); (case U => k_updF); (case hi => with_reducible assumption); (case hl => omega); (case b0 => omega); (case b1 => omega); (case hd => k_room); (case hu => k_units); k_whole); intro h' tk' vs' ns' i' t' n' F' N' hI' hL' hb0' hb1'; (try dsimp only at N'); (try k_sweep)))
  (k_with "call ref" => (k_here; (with_reducible show wpAny _ _ (call (Value.ref 82) _) _ _ _); k_dflt (refine' row_N ?B ?F ?X ?T ?hk ?hd ?hu ?N ?l ?hi ?hl ?_; (case B => k_asm); (case F => k_asm); (case X => k_asm); (case T => k_asm); (case hk => first | rfl | assumption); (case N => k_asm); (case l => with_reducible assumption); (case hi => with_reducible assumption); (case hl => omega); (case hd => k_room); (case hu => k_units); k_whole); intro h' tk' row vs' ns' n' F' N' rne hI' hL'; (try dsimp only at N'); (try k_sweep)))
  (k_with "call ref" => (k_here; (with_reducible show wpAny _ _ (call (Value.ref 103) _) _ _ _); refine Stop.out ?_))
  trivial
inductive LitKv : List (Str × Value) → List (Str × Str) → Prop
  | nil : LitKv [] []
  | cons {k v : Str} {t : Tok} {kvs : List (Str × Value)} {ls : List (Str × Str)} : LitKv kvs ls → LitKv ((k, .str v t) :: kvs) ((k, v) :: ls)
theorem LitKv.keys {kvs : List (Str × Value)} {ls : List (Str × Str)} (h : LitKv kvs ls) : kvs.map (·.1) = ls.map (·.1) := by
  induction h with
  | nil => rfl
  | cons _ ih => simp only [List.map_cons, ih]
theorem LitKv.length {kvs : List (Str × Value)} {ls : List (Str × Str)} (h : LitKv kvs ls) : kvs.length = ls.length := by
  induction h with
  | nil => rfl
  | cons _ ih => simp only [List.length_cons, ih]
theorem LitKv.append {kvs kvs' : List (Str × Value)} {ls ls' : List (Str × Str)} (h : LitKv kvs ls) (h' : LitKv kvs' ls') : LitKv (kvs ++ kvs') (ls ++ ls') := by
  induction h with
  | nil => exact h'
  | cons _ ih => exact .cons ih
theorem LitKv.mem {kvs : List (Str × Value)} {ls : List (Str × Str)} (h : LitKv kvs ls) {l : Str × Str} (hl : l ∈ ls) : ∃ t, (l.1, Value.str l.2 t) ∈ kvs := by
  induction h with
  | nil => cases hl
  | cons _ ih =>
    rcases List.mem_cons.mp hl with rfl | q
    · exact ⟨_, .head _⟩
    · obtain ⟨t, ht⟩ := ih q
      exact ⟨t, .tail _ ht⟩

section
variable {prog : Program} {w : World} {A : Around} {E : Value → Shared → Prop} {s : Shared}
noncomputable def PairLit (prog : Program) (w : World) (A : Around) (p : Sem Value × Sem Value) (l : Str × Str) : Prop :=
  (∀ (E : Value → Shared → Prop) (s : Shared) (Q : Value → Shared → Prop), (∀ t tk, Q (.str l.1 t) { s with toks := tk }) → wpAny (model prog w) A p.1 Q E s) ∧
  (∀ (E : Value → Shared → Prop) (s : Shared) (Q : Value → Shared → Prop), (∀ t tk, Q (.str l.2 t) { s with toks := tk }) → wpAny (model prog w) A p.2 Q E s)
inductive PairLits (prog : Program) (w : World) (A : Around) : List (Sem Value × Sem Value) → List (Str × Str) → Prop
  | nil : PairLits prog w A [] []
  | cons {p : Sem Value × Sem Value} {l : Str × Str} {ps : List (Sem Value × Sem Value)} {ls : List (Str × Str)} : PairLit prog w A p l → PairLits prog w A ps ls → PairLits prog w A (p :: ps) (l :: ls)
theorem PairLits.length {ps : List (Sem Value × Sem Value)} {ls : List (Str × Str)} (h : PairLits prog w A ps ls) : ps.length = ls.length := by
  induction h with
  | nil => rfl
  | cons _ _ ih => simp only [List.length_cons, ih]
theorem PairLits.append {ps ps' : List (Sem Value × Sem Value)} {ls ls' : List (Str × Str)} (h : PairLits prog w A ps ls) (h' : PairLits prog w A ps' ls') : PairLits prog w A (ps ++ ps') (ls ++ ls') := by
  induction h with
  | nil => exact h'
  | cons a _ ih => exact .cons a ih

theorem str_is (k : Str) (t : Tok) : (PySem.strKind prog w).is k (.str k t) = true := by
  show Value.isStrOf k (.str k t) = true
  simp [Value.isStrOf]

theorem evalPairs_strs {ps : List (Sem Value × Sem Value)} {ls : List (Str × Str)} (h : PairLits prog w A ps ls) : ∀ (s : Shared) (Q : List (Value × Value) → Shared → Prop),
    (∀ vs kvs tk, Carries (PySem.strKind prog w) vs kvs → LitKv kvs ls → Q vs { s with toks := tk }) → wpAny (model prog w) A (evalPairs ps) Q E s := by
  induction h with
  | nil => exact fun s Q hQ => evalPairs_nil (hQ [] [] s.toks trivial .nil)
  | @cons p l ps ls hp _ ih =>
    intro s Q hQ
    refine evalPairs_cons (hp.1 _ _ _ fun t tk => hp.2 _ _ _ fun t' tk' => ih _ _ fun vs kvs tk'' hc hl => hQ _ ((l.1, .str l.2 t') :: kvs) tk'' ⟨str_is _ _, rfl, hc⟩ (.cons hl))

theorem stored_fresh {K : Type} [DecidableEq K] {kvs : List (K × Value)} {k : K} {v : Value} (h : k ∉ kvs.map (·.1)) : stored kvs k v = kvs ++ [(k, v)] := by
  unfold stored
  rw [if_neg]
  rw [List.any_eq_true]
  rintro ⟨x, hx, he⟩
  exact h (List.mem_map.mpr ⟨x, hx, of_decide_eq_true he⟩)

theorem sub_strs {ps : List (Sem Value × Sem Value)} {ls : List (Str × Str)} {Q : Addr → Shared → Prop} (hp : PairLits prog w A ps ls) (hn : (ls.map (·.1)).Nodup) (hlen : ls.length ≤ 17)
    (h : ∀ h' tk kvs, h'.DictOf (PySem.strKind prog w) s.heap.objs.size kvs → LitKv kvs ls → (∀ b o, s.heap.get? b = some o → h'.get? b = some o) → Q s.heap.objs.size { s with heap := h', toks := tk }) :
    wpAny (model prog w) A (subDict ps) Q E s := by
  have keep : ∀ {h' : Heap}, Heap.SameBut s.heap.objs.size (s.heap.push { cls := .type "dict", data := .dict #[] }) h' → ∀ b o, s.heap.get? b = some o → h'.get? b = some o :=
    fun hs b o e => (hs.2 b (Nat.ne_of_lt (Heap.lt_size e))).trans (Heap.get?_push_of_some _ e)
  rcases Nat.lt_or_ge 15 ps.length with hlong | hshort
  · unfold subDict
    refine wpAny_bind (wpAny_alloc ?_)
    refine wpAny_bind (wpAny_holding ?_)
    rw [if_neg (by omega)]
    refine wpAny_bind (wpAny_rule (wpAny_bind ?_))
    refine wpAny_forIn_list _ (fun rest _ s' => ∃ done restL h' tk kvs, s' = { s with heap := h', toks := tk } ∧ PairLits prog w A rest restL ∧ ls = done ++ restL ∧ h'.DictOf (PySem.strKind prog w) s.heap.objs.size kvs ∧ LitKv kvs done ∧
      Heap.SameBut s.heap.objs.size (s.heap.push { cls := .type "dict", data := .dict #[] }) h') _ ?_ ?_ _ _ ⟨[], ls, _, s.toks, [], rfl, hp, rfl, Heap.DictOf.new _, .nil, Heap.SameBut.refl _ _⟩
    · rintro x rest b s' ⟨done, restL, h', tk, kvs, rfl, hP, hls, hd, hl, hs⟩
      cases hP with
      | @cons p l ps ls' hp1 hp2 =>
        refine wpAny_bind (hp1.1 _ _ _ fun t tk => ?_)
        refine wpAny_bind (wpAny_holding (hp1.2 _ _ _ fun t' tk' => ?_))
        have hk := hl.keys
        have hle := hl.length
        have hll := congrArg List.length hls
        rw [List.length_append, List.length_cons] at hll
        refine wpAny_bind (wpAny_holding (wpAny_dictSet_pairs (hsz := by rw [PySem.sizeLine_eq]; omega) (str_is l.1 t) hd fun h'' hd'' hs'' => ?_))
        refine wpAny_pure ⟨done ++ [l], ls', h'', _, kvs ++ [(l.1, .str l.2 t')], rfl, hp2, by rw [hls]; simp, ?_, hl.append (.cons .nil), hs.trans hs''⟩
        rw [stored_fresh] at hd''
        · exact hd''
        · rw [hk]
          intro q
          rw [hls, List.map_append, List.nodup_append] at hn
          exact hn.2.2 _ q _ (by rw [List.map_cons]; exact .head _) rfl
    · rintro b s' ⟨done, restL, h', tk, kvs, rfl, hP, hls, hd, hl, hs⟩
      cases hP
      rw [List.append_nil] at hls
      subst hls
      exact wpAny_pure (wpAny_pure (h h' tk kvs hd hl (keep hs)))
  · refine wpAny_subDict (knd := PySem.strKind prog w) hshort (evalPairs_strs hp _ _ fun vs kvs tk hc hl => ⟨kvs, hc, Heap.DictOf.new _, fun h' hm hs => ?_⟩)
    rw [merged_nil_of_nodup kvs (by rw [hl.keys]; exact hn)] at hm
    exact h h' _ kvs hm hl (keep hs)

/-- the dict that the display has filled so far -/
noncomputable def MainIs (prog : Program) (w : World) (h₀ : Heap) (main : Option Addr) (done : List (Str × Str)) (h : Heap) : Prop :=
  (∀ b o, h₀.get? b = some o → h.get? b = some o) ∧ h₀.objs.size ≤ h.objs.size ∧ match main with
  | none => done = []
  | some d => done ≠ [] ∧ h₀.objs.size ≤ d ∧ ∃ kvs, h.DictOf (PySem.strKind prog w) d kvs ∧ LitKv kvs done

theorem disp_strs {ps : List (Sem Value × Sem Value)} {ls : List (Str × Str)} {Q : Value → Shared → Prop} (hlo : sysModules < s.heap.objs.size) (hp : PairLits prog w A ps ls) (hn : (ls.map (·.1)).Nodup) (h0 : ls ≠ []) (hmany : ls.length ≤ 1000)
    (h : ∀ h' tk d kvs, s.heap.objs.size ≤ d → h'.DictOf (PySem.strKind prog w) d kvs → LitKv kvs ls → (∀ b o, s.heap.get? b = some o → h'.get? b = some o) → Q (.ref d) { s with heap := h', toks := tk }) :
    wpAny (model prog w) A (dictDisplay (ps.map fun p => (some p.1, p.2))) Q E s := by
  unfold dictDisplay
  extract_lets flush main run
  have fl : ∀ (run : List (Sem Value × Sem Value)) (main : Option Addr) (h₁ : Heap) (tk : Nat) (done runL restL : List (Str × Str)) (Q' : Option Addr → Shared → Prop), PairLits prog w A run runL → runL.length ≤ 17 → ls = done ++ runL ++ restL →
      MainIs prog w s.heap main done h₁ → (∀ main' h' tk', MainIs prog w s.heap main' (done ++ runL) h' → Q' main' { s with heap := h', toks := tk' }) → wpAny (model prog w) A (flush run main) Q' E { s with heap := h₁, toks := tk } := by
    intro run main h₁ tk done runL restL Q' hr hlen hls hM hQ
    simp only [flush]
    have hnr : (runL.map (·.1)).Nodup := by
      rw [hls, List.map_append, List.map_append, List.nodup_append, List.nodup_append] at hn
      exact hn.1.2.1
    split
    · rename_i he
      have := List.isEmpty_iff.mp he
      subst this
      cases hr
      exact wpAny_pure (hQ _ _ _ (by rw [List.append_nil]; exact hM))
    · rename_i he
      have hne : runL ≠ [] := by
        rintro rfl
        cases hr
        exact he rfl
      obtain ⟨hk, hsz, hM⟩ := hM
      cases main with
      | none =>
        have hM : done = [] := hM
        subst hM
        refine wpAny_bind (sub_strs hr hnr hlen fun h' tk' kvs hd hl hk' => wpAny_pure (hQ _ _ _ ⟨fun b o e => hk' b o (hk b o e), ?_, hne, hsz, kvs, hd, hl⟩))
        · obtain ⟨o, _, _, ho, _⟩ := hd
          exact Nat.le_of_lt (Nat.lt_of_le_of_lt hsz (Heap.lt_size ho))
      | some d =>
        obtain ⟨hdn, hd0, kvs, hd, hl⟩ : done ≠ [] ∧ s.heap.objs.size ≤ d ∧ ∃ kvs, h₁.DictOf (PySem.strKind prog w) d kvs ∧ LitKv kvs done := hM
        refine wpAny_bind (wpAny_holding (sub_strs hr hnr hlen fun h' tk' kvs' hd' hl' hk' => ?_))
        obtain ⟨od, _, _, hod, _⟩ := id hd
        obtain ⟨oa, _, _, hoa, _⟩ := id hd'
        have hne' : h₁.objs.size ≠ d := fun e => absurd (Heap.lt_size hod) (by rw [e]; exact Nat.lt_irrefl _)
        have e1 := hl.length
        have e2 := hl'.length
        have e3 := congrArg List.length hls
        rw [List.length_append, List.length_append] at e3
        refine wpAny_bind (wpAny_onRaise (wpAny_holding (merge_new (knd := PySem.strKind prog w) hne' (beq_eq_false_iff_ne.mpr (Nat.ne_of_gt (Nat.lt_of_lt_of_le hlo hsz))) (hd.keep hk') hd' (fun q => hdn ?_) ?_ (by rw [PySem.sizeLine_eq]; omega) fun h'' hd'' hs'' => wpAny_pure (hQ _ _ _ ⟨fun b o e => ?_, ?_, fun q => hdn (List.append_eq_nil_iff.mp q).1, hd0, _, hd'', hl.append hl'⟩))))
        · rw [q] at hl; cases hl; rfl
        · rw [List.map_append, hl.keys, hl'.keys, ← List.map_append]
          rw [hls, List.map_append, List.nodup_append] at hn
          exact hn.1
        · refine (hs''.2 b fun q => ?_).trans (hk' b o (hk b o e))
          exact absurd (Heap.lt_size e) (by rw [q]; exact Nat.not_lt.mpr hd0)
        · obtain ⟨o, _, _, ho, _⟩ := hd''
          have := hs''.2 h₁.objs.size hne'
          rw [hoa] at this
          exact Nat.le_of_lt (Nat.lt_of_le_of_lt hsz (Heap.lt_size this))
  refine wpAny_bind ?_
  refine wpAny_forIn_list _ (fun rest st s' => ∃ rest' done runL restL h' tk, s' = { s with heap := h', toks := tk } ∧ rest = rest'.map (fun p => (some p.1, p.2)) ∧ ls = done ++ runL ++ restL ∧ PairLits prog w A rest' restL ∧ PairLits prog w A st.2 runL ∧ runL.length < 17 ∧ MainIs prog w s.heap st.1 done h') _ ?_ ?_ _ _
    ⟨ps, [], [], ls, s.heap, s.toks, rfl, rfl, rfl, hp, .nil, by decide, ⟨fun _ _ e => e, Nat.le_refl _, rfl⟩⟩
  · rintro x rest ⟨main, run⟩ s' ⟨rest', done, runL, restL, h', tk, rfl, hr, hls, hP, hR, hl17, hM⟩
    cases hP with
    | nil => cases hr
    | @cons p l ps' ls' hp1 hp2 =>
      rw [List.map_cons] at hr
      injection hr with hx hrest
      subst hx
      dsimp only
      have hRR : PairLits prog w A (run ++ [(p.1, p.2)]) (runL ++ [l]) := hR.append (.cons hp1 .nil)
      have hls' : ls = done ++ (runL ++ [l]) ++ ls' := by rw [hls]; simp
      split
      · refine wpAny_bind (fl _ _ _ _ done (runL ++ [l]) ls' _ hRR (by rw [List.length_append]; simp; omega) hls' hM fun main' h'' tk' hM' => wpAny_pure ?_)
        exact ⟨ps', _, [], ls', h'', tk', rfl, hrest, by rw [List.append_nil]; exact hls', hp2, .nil, by decide, hM'⟩
      · rename_i hne
        have hlr := hRR.length
        have h17 : (run ++ [(p.1, p.2)]).length ≠ 17 := fun q => hne (by rw [q]; rfl)
        rw [List.length_append (as := runL), List.length_singleton] at hlr
        refine wpAny_pure ⟨ps', done, runL ++ [l], ls', h', tk, rfl, hrest, hls', hp2, hRR, ?_, hM⟩
        rw [List.length_append, List.length_singleton]; omega
  · rintro ⟨main, run⟩ s' ⟨rest', done, runL, restL, h', tk, rfl, hr, hls, hP, hR, hl17, hM⟩
    cases hP with
    | cons => cases hr
    | nil =>
      refine wpAny_bind (fl _ _ _ _ done runL [] _ hR (by omega) hls hM fun main' h'' tk' hM' => ?_)
      rw [List.append_nil] at hls
      rw [← hls] at hM'
      obtain ⟨hk, hsz, hM'⟩ := hM'
      cases main' with
      | none => exact absurd hM' h0
      | some d =>
        obtain ⟨hdn, hd0, kvs, hd, hl⟩ := hM'
        exact wpAny_pure (h _ _ d kvs hd0 hd hl hk)
end

/-- the text literals of a display -/
noncomputable def strLits : List (Option PySem.Expr) → List PySem.Expr → Option (List (Str × Str))
  | some (.Constant (.str k) _ _) :: ks, .Constant (.str v) _ _ :: vs => (strLits ks vs).map ((k, v) :: ·)
  | [], [] => some []
  | _, _ => none

section
variable {prog : Program} {w : World} {A : Around} {E : Value → Shared → Prop} {s : Shared} {env : Env}
theorem lits_pairs {pos : Pos} : ∀ (keys : List (Option PySem.Expr)) (values : List PySem.Expr) (ls : List (Str × Str)), strLits keys values = some ls →
    PairLits prog w A (pairTrees keys values env pos) ls ∧ keys.all (·.isSome) = true ∧ keys.length = values.length := by
  intro keys values
  fun_induction strLits keys values with
  | case1 k kk kp ks v vk vp vs ih =>
    intro ls h
    cases q : strLits ks vs with
    | none => rw [q] at h; cases h
    | some r =>
      rw [q] at h
      simp only [Option.map_some, Option.some.injEq] at h
      subst h
      obtain ⟨h1, h2, h3⟩ := ih r q
      refine ⟨.cons ⟨fun E s Q hQ => wpAny_Constant_str (env := env) (k := kk) (pos := kp) (hQ _ _), fun E s Q hQ => wpAny_bind (wpAny_Constant_str (env := env) (k := vk) (pos := vp) (wpAny_bind (wpAny_standAt (wpAny_pure (hQ _ _)))))⟩ h1, by simpa using h2, by simpa using h3⟩
  | case2 =>
    intro ls h
    cases h
    exact ⟨.nil, rfl, rfl⟩
  | case3 => intro ls h; cases h

theorem dict_many {keys : List (Option PySem.Expr)} {values : List PySem.Expr} {pos : Pos} {Q : Value → Shared → Prop} {ls : List (Str × Str)} (hlo : sysModules < s.heap.objs.size) (hls : strLits keys values = some ls) (hn : (ls.map (·.1)).Nodup) (h0 : ls ≠ []) (hmany : ls.length ≤ 1000)
    (h : ∀ h' tk d kvs, s.heap.objs.size ≤ d → h'.DictOf (PySem.strKind prog w) d kvs → LitKv kvs ls → (∀ b o, s.heap.get? b = some o → h'.get? b = some o) → Q (.ref d) { s with heap := h', toks := tk }) :
    wpAny (model prog w) A (eval (.Dict keys values pos) env) Q E s := by
  obtain ⟨hp, hall, hl⟩ := lits_pairs (prog := prog) (w := w) (A := A) (env := env) (pos := pos) keys values ls hls
  rw [arm_eval_Dict, zip_pairTrees keys values env pos hall hl]
  exact wpAny_bind (wpAny_standAt (disp_strs hlo hp hn h0 hmany h))
end
end
section
theorem words_w36 : True := by
  w_top off
  k_with_none
  (k_with "eval Dict nil nil" => (k_here; k_dflt (refine' newDict_K ?k1 ?k2 (TopRead.nolimit (by k_asm)) ?_; (case k1 => k_asm); (case k2 => k_asm); k_whole); intro dd h' od F' N' dl dlo dhs dfs dhi dfi; (try k_lt dl); (try k_sweep)))
  (k_with "call ref" => (k_here; (with_reducible show wpAny _ _ (call (Value.ref 89) _) _ _ _); k_dflt (refine' next_N ?B ?F ?X ?T ?hk ?hd ?hu ?N ?U ?hi ?hl ?_; (case B => k_asm); (case F => k_asm); (case X => k_asm); (case T => k_asm); (case hk => first | rfl | assumption); (case N => k_asm); (case U => k_updF); (case hi => with_reducible assumption); (case hl => omega); (case hd => k_room); (case hu => k_units); k_whole); intro h' tk' vs' ns' i' t' n' F' N' hI' hL'; (try dsimp only at N'); (try k_sweep)))
  (k_with "call ref" => (k_here; (with_reducible show wpAny _ _ (call (Value.ref 96) _) _ _ _); k_dflt (refine' address_N ?B ?F ?X ?T ?hk ?hd ?hu ?N ?U ?hi ?hl ?b0 ?b1 ?_; (case B => k_asm); (case F => k_asm); (case X => k_asm); (case T => k_asm); (case hk => first | rfl | assumption); (case N => k_asm); (case U => k_updF); (case hi => with_reducible assumption); (case hl => omega); (case b0 => omega); (case b1 => omega); (case hd => k_room); (case hu => k_units); k_whole); intro h' tk' vs' ns' i' t' n' F' N' hI' hL' hb0' hb1'; (try dsimp only at N'); (try k_sweep)))
  (k_with "call ref" => (k_here; (with_reducible show wpAny _ _ (call (Value.ref 82) _) _ _ _); k_dflt (refine' row_N ?B ?F ?X ?T ?hk ?hd ?hu ?N ?l ?hi ?hl ?_; (case B => k_asm); (case F => k_asm); (case X => k_asm); (case T => k_asm); (case hk => first | rfl | assumption); (case N => k_asm); (case l => with_reducible assumption); (case hi => with_reducible assumption); (case hl => omega); (case hd => k_room); (case hu => k_units); k_whole); intro h' tk' row vs' ns' n' F' N' rne hI' hL'; (try dsimp only at N'); (try k_sweep)))
  (k_with "call ref" => (k_here; (with_reducible show wpAny _ _ (call (Value.ref 103) _) _ _ _); refine Stop.out ?_))
  trivial
/-! shapes: what the display holds, and how it is read -/
noncomputable def Shapes (w : World) (od : Obj) : Prop := ∃ kvs, od.IsDictOf (PySem.strKind Pg w) kvs ∧ ∀ nm ∈ allNames, ∃ t, valueAt kvs nm = some (.str (kindsOf nm) t)

noncomputable def shapeLits : List (Str × Str) := [(Str.ofString "get_variable", Str.ofString "RX"), (Str.ofString "get_value", Str.ofString "RX"), (Str.ofString "get_constant", Str.ofString "CX"), (Str.ofString "get_list", Str.ofString "X"), (Str.ofString "get_structure", Str.ofString "FX"), (Str.ofString "unify_variable", Str.ofString "R"), (Str.ofString "unify_value", Str.ofString "R"), (Str.ofString "unify_local_value", Str.ofString "R"), (Str.ofString "unify_constant", Str.ofString "C"), (Str.ofString "unify_void", Str.ofString "N"), (Str.ofString "put_variable", Str.ofString "RX"), (Str.ofString "put_void", Str.ofString "X"), (Str.ofString "put_value", Str.ofString "RX"), (Str.ofString "put_unsafe_value", Str.ofString "YX"), (Str.ofString "put_constant", Str.ofString "CX"), (Str.ofString "put_list", Str.ofString "X"), (Str.ofString "put_structure", Str.ofString "FX"), (Str.ofString "set_variable", Str.ofString "R"), (Str.ofString "set_value", Str.ofString "R"), (Str.ofString "set_local_value", Str.ofString "R"), (Str.ofString "set_constant", Str.ofString "C"), (Str.ofString "set_void", Str.ofString "N"), (Str.ofString "allocate", Str.ofString "N"), (Str.ofString "deallocate", Str.ofString ""), (Str.ofString "call", Str.ofString "FN"), (Str.ofString "execute", Str.ofString "F"), (Str.ofString "proceed", Str.ofString ""), (Str.ofString "builtin", Str.ofString "F"), (Str.ofString "neck_cut", Str.ofString ""), (Str.ofString "get_level", Str.ofString "R"), (Str.ofString "mark", Str.ofString "R"), (Str.ofString "cut_to", Str.ofString "R"), (Str.ofString "fail", Str.ofString ""), (Str.ofString "halt", Str.ofString ""), (Str.ofString "try", Str.ofString "LN"), (Str.ofString "retry", Str.ofString "L"), (Str.ofString "trust", Str.ofString "L"), (Str.ofString "switch_on_term", Str.ofString "LLLL"), (Str.ofString "switch_on_constant", Str.ofString "TL"), (Str.ofString "switch_on_structure", Str.ofString "UL"), (Str.ofString "meta_call", Str.ofString "N"), (Str.ofString "catch_push", Str.ofString ""), (Str.ofString "catch_exit", Str.ofString "Y"), (Str.ofString "catch_fail", Str.ofString ""), (Str.ofString "dyn_retry", Str.ofString "")]
theorem shapeLits_nodup : (shapeLits.map (·.1)).Nodup := by decide +kernel
theorem shapeLits_kinds : (allNames.all fun nm => shapeLits.any fun l => l.1 == nm && l.2 == kindsOf nm) = true := by decide +kernel
theorem valueAt_mem {K : Type} [DecidableEq K] : ∀ {kvs : List (K × Value)} {k : K} {v : Value}, (kvs.map (·.1)).Nodup → (k, v) ∈ kvs → valueAt kvs k = some v
  | [], _, _, _, h => nomatch h
  | (k', v') :: r, k, v, hn, h => by
    rw [List.map_cons, List.nodup_cons] at hn
    unfold valueAt
    rcases List.mem_cons.mp h with q | q
    · cases q; rw [List.find?_cons_of_pos (by simp)]; rfl
    · rw [List.find?_cons_of_neg]
      · exact valueAt_mem hn.2 q
      · simp only [decide_eq_true_eq]
        rintro rfl
        exact hn.1 (List.mem_map.mpr ⟨_, q, rfl⟩)

section
theorem words_w34 : True := by
  w_top off
  k_with_none
  (k_with "eval Dict nil nil" => (k_here; k_dflt (refine' newDict_K ?k1 ?k2 (TopRead.nolimit (by k_asm)) ?_; (case k1 => k_asm); (case k2 => k_asm); k_whole); intro dd h' od F' N' dl dlo dhs dfs dhi dfi; (try k_lt dl); (try k_sweep)))
  (k_with "call ref" => (k_here; (with_reducible show wpAny _ _ (call (Value.ref 89) _) _ _ _); k_dflt (refine' next_N ?B ?F ?X ?T ?hk ?hd ?hu ?N ?U ?hi ?hl ?_; (case B => k_asm); (case F => k_asm); (case X => k_asm); (case T => k_asm); (case hk => first | rfl | assumption); (case N => k_asm); (case U => k_updF); (case hi => with_reducible assumption); (case hl => omega); (case hd => k_room); (case hu => k_units); k_whole); intro h' tk' vs' ns' i' t' n' F' N' hI' hL'; (try dsimp only at N'); (try k_sweep)))
  (k_with "call ref" => (k_here; (with_reducible show wpAny _ _ (call (Value.ref 96) _) _ _ _); k_dflt (refine' address_N ?B ?F ?X ?T ?hk ?hd ?hu ?N ?U ?hi ?hl ?b0 ?b1 ?_; (case B => k_asm); (case F => k_asm); (case X => k_asm); (case T => k_asm); (case hk => first | rfl | assumption); (case N => k_asm); (case U => k_updF); (case hi => with_reducible assumption); (case hl => omega); (case b0 => omega); (case b1 => omega); (case hd => k_room); (case hu => k_units); k_whole); intro h' tk' vs' ns' i' t' n' F' N' hI' hL' hb0' hb1'; (try dsimp only at N'); (try k_sweep)))
  (k_with "call ref" => (k_here; (with_reducible show wpAny _ _ (call (Value.ref 82) _) _ _ _); k_dflt (refine' row_N ?B ?F ?X ?T ?hk ?hd ?hu ?N ?l ?hi ?hl ?_; (case B => k_asm); (case F => k_asm); (case X => k_asm); (case T => k_asm); (case hk => first | rfl | assumption); (case N => k_asm); (case l => with_reducible assumption); (case hi => with_reducible assumption); (case hl => omega); (case hd => k_room); (case hu => k_units); k_whole); intro h' tk' row vs' ns' n' F' N' rne hI' hL'; (try dsimp only at N'); (try k_sweep)))
  (k_with "call ref" => (k_here; (with_reducible show wpAny _ _ (call (Value.ref 103) _) _ _ _); refine Stop.out ?_))
  (k_with "eval Dict" => refine Stop.out ?_)
  trivial
variable {w : World} {mean : ExcName → Option Value} {mg mb : Str → Option Value} {dp un : Nat} {gd : Option (List Code)} {cn : Str} {cs : Scope} {ca : Addr} {ccd : Value} {cl : List (Str × Addr)}
    {outer : List Env} {A₀ : Around} {base h₀ : Heap} {L : Addr} {m : Str → Option Value} {s : Shared} {Q : Value → Shared → Prop} {E : Value → Shared → Prop}
    {r : Addr} {vs : List Value} {ns : List Int} {n : Nat} {news : List (Addr × Obj)} {g : Obj → List (Addr × Obj)}
set_option maxHeartbeats 400000 in
theorem shapes_call (B : Below A₀ base outer h₀) (F : Fr h₀ L s.heap m) (X : (Kf w).In h₀) (T : TopM mean mg mb h₀) (hk : cs.kind = .function) (hdp : dp < 890) (hun : un < 980)
    (ret : ∀ h' tk d od, Keeps [] s.heap h' → s.heap.get? d = none → h'.get? d = some od → Shapes w od → (d == sysModules) = false → Q (.ref d) { s with heap := h', toks := tk }) :
    wpAny (model Pg w) (ktrTop dp un gd cn cs L ca ccd cl outer) (call (.ref 54) []) Q E s := by
  revert X T; dsimp only [Kf, Pg, TopM]; k_fill; intro X T
  refine' call_W [] News.nil B F X T hk ?ho ?hcd ?hr ?hb ?hl ?_ ?c2 ?c3 ?c4 ?c5
  (case ho => k_is); (case hcd => k_is); (case hr => k_room)
  (case hb => first | exact BindsTo.of_eq rfl | exact binds_K (by k_in) rfl (by k_is) rfl rfl rfl)
  (case c5 => decide); (case hl => exact locs rfl); (case c2 => exact rfl); (case c3 => exact rfl); (case c4 => exact rfl)
  k_whole
  intro g0 L0 h1 hg1 hg2 hL0 F0 N0 B0 X0 T0
  (try dsimp only)
  (try k_fold)
  clear F B X T
  k_steps
  (rename Fr _ _ _ _ => F1); (rename News _ _ _ _ => N1)
  have hlo := Nat.lt_of_lt_of_le (modules_low T0.nolimit) (Nat.le_trans F1.above (Nat.le_of_lt F1.ns.lt))
  refine Stop.mk ?_
  with_reducible refine dict_many (ls := shapeLits) ?_ ?_ ?_ ?_ ?_ ?_
  · exact hlo
  · exact of_decide_eq_true (by decide +kernel)
  · exact shapeLits_nodup
  · exact of_decide_eq_true (by decide +kernel)
  · decide +kernel
  · intro h' tk d kvs hd0 hd hl hk
    have hnew : ∀ b o, s.heap.get? b = some o → b ≠ d := fun b o e q => absurd (Heap.lt_size (F1.keep b o (hg2 b o (by simp) e))) (by rw [q]; exact Nat.not_lt.mpr hd0)
    obtain ⟨od, ho, hdo⟩ := Heap.dictOf_iff.mp hd
    refine LeaveW.intro (⟨F1.ns.at' fun o e => hk _ o e, fun b o e => hk b o (F1.keep b o e), F1.above⟩ : Fr g0 L0 h' _) (ret h' tk d od (fun b o hb e => hk b o (F1.keep b o (hg2 b o hb e))) ?_ ho ⟨kvs, hdo, fun nm hm => ?_⟩ (beq_eq_false_iff_ne.mpr (Nat.ne_of_gt (Nat.lt_of_lt_of_le hlo hd0))))
    · cases q : s.heap.get? d with
      | none => rfl
      | some o => exact absurd rfl (hnew d o q)
    · obtain ⟨l, hl1, hl2⟩ := List.any_eq_true.mp (List.all_eq_true.mp shapeLits_kinds nm hm)
      rw [Bool.and_eq_true] at hl2
      obtain ⟨t, ht⟩ := hl.mem hl1
      rw [eq_of_beq hl2.1, eq_of_beq hl2.2] at ht
      exact ⟨t, valueAt_mem (by rw [hl.keys]; exact shapeLits_nodup) ht⟩
theorem Shapes.reads {od : Obj} (x : Shapes w od) {h : Heap} {d : Addr} (hd : h.get? d = some od) {nm : Str} (hn : nm ∈ allNames) : ∃ t', ∀ t, KeyReads w h d (.str nm t) (.str (kindsOf nm) t') := by
  obtain ⟨kvs, hdo, hv⟩ := x
  obtain ⟨t', ht⟩ := hv nm hn
  refine ⟨t', fun t A E s Q k hu q => ?_⟩
  have hD : s.heap.DictOf (PySem.strKind Pg w) d kvs := Heap.dictOf_iff.mpr ⟨od, k d od hd, hdo⟩
  exact wpAny_getItem_of (str_is nm t) hD.mapOf ht (q _)
end
end
theorem words_w35 : True := by
  w_top off
  k_with_none
  (k_with "eval Dict nil nil" => (k_here; k_dflt (refine' newDict_K ?k1 ?k2 (TopRead.nolimit (by k_asm)) ?_; (case k1 => k_asm); (case k2 => k_asm); k_whole); intro dd h' od F' N' dl dlo dhs dfs dhi dfi; (try k_lt dl); (try k_sweep)))
  (k_with "call ref" => (k_here; (with_reducible show wpAny _ _ (call (Value.ref 89) _) _ _ _); k_dflt (refine' next_N ?B ?F ?X ?T ?hk ?hd ?hu ?N ?U ?hi ?hl ?_; (case B => k_asm); (case F => k_asm); (case X => k_asm); (case T => k_asm); (case hk => first | rfl | assumption); (case N => k_asm); (case U => k_updF); (case hi => with_reducible assumption); (case hl => omega); (case hd => k_room); (case hu => k_units); k_whole); intro h' tk' vs' ns' i' t' n' F' N' hI' hL'; (try dsimp only at N'); (try k_sweep)))
  (k_with "call ref" => (k_here; (with_reducible show wpAny _ _ (call (Value.ref 96) _) _ _ _); k_dflt (refine' address_N ?B ?F ?X ?T ?hk ?hd ?hu ?N ?U ?hi ?hl ?b0 ?b1 ?_; (case B => k_asm); (case F => k_asm); (case X => k_asm); (case T => k_asm); (case hk => first | rfl | assumption); (case N => k_asm); (case U => k_updF); (case hi => with_reducible assumption); (case hl => omega); (case b0 => omega); (case b1 => omega); (case hd => k_room); (case hu => k_units); k_whole); intro h' tk' vs' ns' i' t' n' F' N' hI' hL' hb0' hb1'; (try dsimp only at N'); (try k_sweep)))
  (k_with "call ref" => (k_here; (with_reducible show wpAny _ _ (call (Value.ref 82) _) _ _ _); k_dflt (refine' row_N ?B ?F ?X ?T ?hk ?hd ?hu ?N ?l ?hi ?hl ?_; (case B => k_asm); (case F => k_asm); (case X => k_asm); (case T => k_asm); (case hk => first | rfl | assumption); (case N => k_asm); (case l => with_reducible assumption); (case hi => with_reducible assumption); (case hl => omega); (case hd => k_room); (case hu => k_units); k_whole); intro h' tk' row vs' ns' n' F' N' rne hI' hL'; (try dsimp only at N'); (try k_sweep)))
  (k_with "call ref" => (k_here; (with_reducible show wpAny _ _ (call (Value.ref 103) _) _ _ _); refine Stop.out ?_))
  trivial
section
theorem words_w37 : True := by
  w_top off
  k_with_none
  (k_with "eval Dict nil nil" => (k_here; k_dflt (refine' newDict_K ?k1 ?k2 (TopRead.nolimit (by k_asm)) ?_; (case k1 => k_asm); (case k2 => k_asm); k_whole); intro dd h' od F' N' dl dlo dhs dfs dhi dfi; (try k_lt dl); (try k_sweep)))
  (k_with "call ref" => (k_here; (with_reducible show wpAny _ _ (call (Value.ref 89) _) _ _ _); k_dflt (refine' next_N ?B ?F ?X ?T ?hk ?hd ?hu ?N ?U ?hi ?hl ?_; (case B => k_asm); (case F => k_asm); (case X => k_asm); (case T => k_asm); (case hk => first | rfl | assumption); (case N => k_asm); (case U => k_updF); (case hi => with_reducible assumption); (case hl => omega); (case hd => k_room); (case hu => k_units); k_whole); intro h' tk' vs' ns' i' t' n' F' N' hI' hL'; (try dsimp only at N'); (try k_sweep)))
  (k_with "call ref" => (k_here; (with_reducible show wpAny _ _ (call (Value.ref 96) _) _ _ _); k_dflt (refine' address_N ?B ?F ?X ?T ?hk ?hd ?hu ?N ?U ?hi ?hl ?b0 ?b1 ?_; (case B => k_asm); (case F => k_asm); (case X => k_asm); (case T => k_asm); (case hk => first | rfl | assumption); (case N => k_asm); (case U => k_updF); (case hi => with_reducible assumption); (case hl => omega); (case b0 => omega); (case b1 => omega); (case hd => k_room); (case hu => k_units); k_whole); intro h' tk' vs' ns' i' t' n' F' N' hI' hL' hb0' hb1'; (try dsimp only at N'); (try k_sweep)))
  (k_with "call ref" => (k_here; (with_reducible show wpAny _ _ (call (Value.ref 82) _) _ _ _); k_dflt (refine' row_N ?B ?F ?X ?T ?hk ?hd ?hu ?N ?l ?hi ?hl ?_; (case B => k_asm); (case F => k_asm); (case X => k_asm); (case T => k_asm); (case hk => first | rfl | assumption); (case N => k_asm); (case l => with_reducible assumption); (case hi => with_reducible assumption); (case hl => omega); (case hd => k_room); (case hu => k_units); k_whole); intro h' tk' row vs' ns' n' F' N' rne hI' hL'; (try dsimp only at N'); (try k_sweep)))
  (k_with "call ref" => (k_here; (with_reducible show wpAny _ _ (call (Value.ref 103) _) _ _ _); refine Stop.out ?_))
  trivial
/-! an own exception class over an own base, with an __init__ of its own -/
theorem wpAny_typeOf_ref {M : Model} {A : Around} {E : Value → Shared → Prop} {s : Shared} {a : Addr} {o : Obj} {Q : Value → Shared → Prop} (ho : s.heap.get? a = some o) (h : Q o.cls s) : wpAny M A (typeOf (.ref a)) Q E s := by
  simp only [typeOf]
  exact wpAny_bind (wpAny_load ho (wpAny_pure h))
section
variable {prog : Program} {w : World} {A : Around} {E : Value → Shared → Prop} {s : Shared}
variable {nm q : Str} {C N : Addr} {bs bm bmB : List Value} {hdct : Bool} {sn : List Str} {sub : List Value} {ab : Bool} {col : Option Bool} {dd : Option Addr} {k0 k1 k2 k3 k5 : Option Value} {B newId initId : String}

/-- the exception as it lies behind __new__ -/
abbrev rawExc (C t : Addr) : Obj := { cls := .ref C, data := .fields #[.ref t, .none, .none, .none, .bool false, .none] }

theorem make_own (F : ExcBaseFacts B newId initId bmB) {h : Heap} {g : Array GenState} {d : Drawn} {t : Nat} {os : OsState} (T : OwnTail h bmB bm) {mN : Str → Option Value} {rest : List Value} {fI : Addr} {oI : Obj} {Q : Value → Shared → Prop}
    (hC : h.get? C = some (excClassObj nm q C N bs bm hdct sn sub ab col dd k0 k1 k2 k3 k5 newId)) (hn : h.Ns N mN) (hi : mN "__init__" = some (.ref fI)) (hfI : h.get? fI = some oI) (hfc : oI.cls = .type "function")
    (hrest : rest.length ≤ sizeLine)
    (hq : ∀ h' e tp, (∀ b o, h.get? b = some o → h'.get? b = some o) → h.get? e = none → h'.get? e = some (rawExc C tp) →
      wpAny (model prog w) (A.under (.builtin "type.__call__" ⟨.ref C :: rest, []⟩)) (call (.ref fI) (.ref e :: rest)) (fun r s' => r = .none ∧ Q (.ref e) s') E ⟨h', g, d, t, os⟩) :
    wpAny (model prog w) A (call (.ref C) rest) Q E ⟨h, g, d, t, os⟩ := by
  have f1 := tc_lookup
  have f2 := tc_bind (.ref C)
  have hT : (⟨h, g, d, t, os⟩ : Shared).TypeIs (.ref C) "type" := ⟨_, hC, rfl⟩
  refine wpAny_call (codeAny_of_tree ?_)
  show wpAny _ _ (callAny (.ref C) _) _ _ _
  repeat (any_goals (first | assumption | with_reducible refine wpAny_loadPart_at hC ?_ | wp_step))
  refine ⟨rfl, codeAny_call_builtin_at (Code.quiet_builtin _ (by decide +kernel)) entry_typeCall (wpAny_check_type_call_sub hC ?_)⟩
  repeat (first | with_reducible refine wpAny_loadPart_at hC ?_ | with_reducible refine wpAny_madeBy_exc hC ?_ | wp_step)
  refine codeAny_call_builtin_code (Code.quiet_builtin _ F.quiet) (wpAny_check_new_subT F T hC (codeAny_exc_new_subT F T hC ?_ hrest))
  show wpAny _ _ _ _ _ _
  have up : ∀ b o, h.get? b = some o → ((h.push { cls := .type "tuple", data := .seq rest.toArray }).push { cls := .ref C, data := .fields #[.ref h.objs.size, .none, .none, .none, .bool false, .none] }).get? b = some o := fun b o e => Heap.get?_push_of_some _ (Heap.get?_push_of_some _ e)
  have hget : ((h.push { cls := .type "tuple", data := .seq rest.toArray }).push { cls := .ref C, data := .fields #[.ref h.objs.size, .none, .none, .none, .bool false, .none] }).get? (h.objs.size + 1) = some { cls := .ref C, data := .fields #[.ref h.objs.size, .none, .none, .none, .bool false, .none] } := by heap_get
  have hC₁ := up _ _ hC
  have hcC : (Value.ref C :: bm).contains (.ref C) = true := by simp
  unfold isInstance
  refine wpAny_bind (wpAny_bind (wpAny_typeOf_ref hget (wpAny_isSubtype_exc hC₁ ?_)))
  rw [hcC]
  repeat wp_step
  show wpAny _ _ (typeLookup (.ref C) _) _ _ _
  refine wpAny_typeLookup_tail hC₁ (hn.keeps up) (T.keeps up) F.mroIs F.init.lookup ?_
  rw [hi]
  refine wpAny_holding (wpAny_bind ?_)
  unfold bindSpecial
  refine wpAny_bind (wpAny_typeOf (T := "function") ⟨_, up _ _ hfI, hfc⟩ ?_)
  rw [if_pos (by decide)]
  refine wpAny_pure (wpAny_bind (wpAny_mono (hq _ (h.objs.size + 1) h.objs.size up (Heap.get?_none_of_le (Nat.le_succ _)) hget) (fun r s' hr => ?_) fun _ _ x => x))
  obtain ⟨rfl, hQ⟩ := hr
  wp_walk
  exact hQ
end
end
section
theorem words_w38 : True := by
  w_top off
  k_with_none
  (k_with "eval Dict nil nil" => (k_here; k_dflt (refine' newDict_K ?k1 ?k2 (TopRead.nolimit (by k_asm)) ?_; (case k1 => k_asm); (case k2 => k_asm); k_whole); intro dd h' od F' N' dl dlo dhs dfs dhi dfi; (try k_lt dl); (try k_sweep)))
  (k_with "call ref" => (k_here; (with_reducible show wpAny _ _ (call (Value.ref 89) _) _ _ _); k_dflt (refine' next_N ?B ?F ?X ?T ?hk ?hd ?hu ?N ?U ?hi ?hl ?_; (case B => k_asm); (case F => k_asm); (case X => k_asm); (case T => k_asm); (case hk => first | rfl | assumption); (case N => k_asm); (case U => k_updF); (case hi => with_reducible assumption); (case hl => omega); (case hd => k_room); (case hu => k_units); k_whole); intro h' tk' vs' ns' i' t' n' F' N' hI' hL'; (try dsimp only at N'); (try k_sweep)))
  (k_with "call ref" => (k_here; (with_reducible show wpAny _ _ (call (Value.ref 96) _) _ _ _); k_dflt (refine' address_N ?B ?F ?X ?T ?hk ?hd ?hu ?N ?U ?hi ?hl ?b0 ?b1 ?_; (case B => k_asm); (case F => k_asm); (case X => k_asm); (case T => k_asm); (case hk => first | rfl | assumption); (case N => k_asm); (case U => k_updF); (case hi => with_reducible assumption); (case hl => omega); (case b0 => omega); (case b1 => omega); (case hd => k_room); (case hu => k_units); k_whole); intro h' tk' vs' ns' i' t' n' F' N' hI' hL' hb0' hb1'; (try dsimp only at N'); (try k_sweep)))
  (k_with "call ref" => (k_here; (with_reducible show wpAny _ _ (call (Value.ref 82) _) _ _ _); k_dflt (refine' row_N ?B ?F ?X ?T ?hk ?hd ?hu ?N ?l ?hi ?hl ?_; (case B => k_asm); (case F => k_asm); (case X => k_asm); (case T => k_asm); (case hk => first | rfl | assumption); (case N => k_asm); (case l => with_reducible assumption); (case hi => with_reducible assumption); (case hl => omega); (case hd => k_room); (case hu => k_units); k_whole); intro h' tk' row vs' ns' n' F' N' rne hI' hL'; (try dsimp only at N'); (try k_sweep)))
  (k_with "call ref" => (k_here; (with_reducible show wpAny _ _ (call (Value.ref 103) _) _ _ _); refine Stop.out ?_))
  trivial
/-! an attribute stored on an own exception that has no dict yet -/
section
variable {prog : Program} {w : World} {A : Around} {E : Value → Shared → Prop} {s : Shared} {K : Frag} {x C C2 : Addr} {ox : Obj} {cd : ClassData} {name : Str} {v : Value}
open Builtin Builtin.ObjectAttr in
theorem set_exc {Q : Unit → Shared → Prop} (X : K.In s.heap) (I : InstAt s.heap x ox C none) (hs : findIn K (.ref C) "__setattr__" = some (some (.builtin "object.__setattr__")))
    (hc : clsIn K C = some cd) (hhd : cd.hasDict = true) (hm : cd.mro = [.ref C, .ref C2, .type "Exception", .type "BaseException", .type "object"]) (ha : findIn K (.ref C) name = some none)
    (h : ∀ h' tk ox', h'.get? x = some ox' → ox'.cls = ox.cls → ox'.data = ox.data → (∀ b o, b ≠ x → s.heap.get? b = some o → h'.get? b = some o) → Q () { s with heap := h', toks := tk }) :
    wpAny (model prog w) A (setAttr (.ref x) name v) Q E s := by
  refine set_plain X I hs ?_
  have SF := PySem.F.store_object
  have hmro : Looks (model prog w) s.heap (mroOf (.ref C)) cd.mro := (looks_clsIn X hc).andThen .now
  have sub : Looks (model prog w) s.heap (isInstance (.ref x) (.type "object")) true := I.type.andThen (looks_mroIn X (by unfold mroIn; rw [hc, Option.bind_some, hm]; rfl))
  refine codeAny_call_builtin SF.slot.plain SF.entry (@check_slot (model prog w) _ _ { s with toks := s.toks + 1 } "object.__setattr__" "object" "__setattr__" (.ref x) [.str name s.toks, v] [] _ SF.kind SF.split sub (SF.args (.ref x) (.str name s.toks) v) ?_)
  rw [osa_eq, refuse_eq]
  have lt : Looks (model prog w) s.heap (typeOf (.ref x)) (.ref C) := I.type
  have lf : Looks (model prog w) s.heap (typeLookup (.ref C) name) none := looks_findIn X ha
  refine wpAny_bind (wpAny_bind (lt _ _ _ _ (fun _ _ e => e) (wpAny_bind (hmro _ _ _ _ (fun _ _ e => e) ?_))))
  rw [hm, refuseLoop_ref, refuseLoop_ref, PySem.F.store_Exception.passes]
  refine wpAny_pure (wpAny_bind (lt _ _ _ _ (fun _ _ e => e) (wpAny_bind (lf _ _ _ _ (fun _ _ e => e) (wpAny_bind ?_)))))
  refine wpAny_pure ?_
  obtain ⟨hx, hcl, hno, hdict⟩ := I
  have hdn : ox.dict = none := by
    cases q : ox.dict with
    | none => rfl
    | some dx => rw [q] at hdict; exact hdict.elim
  dsimp only
  unfold storeInOwnDict ownStreamTells ownDictForStores
  refine wpAny_bind (wpAny_pure ?_)
  rw [if_neg (by simp)]
  refine wpAny_bind ?_
  unfold instanceDict
  refine wpAny_bind (wpAny_loadPart hx ?_)
  rw [hcl]
  dsimp only
  have lc : Looks (model prog w) s.heap (classData C) cd := looks_clsIn X hc
  refine wpAny_bind (lc _ _ _ _ (fun _ _ e => e) ?_)
  rw [hhd]
  rw [if_neg (by simp)]
  rw [hdn]
  dsimp only
  rw [if_neg (by simp [typeHasDict])]
  have hnc : ∀ c, ox.data ≠ .cls c := fun c q => by
    unfold notCls at hno
    rw [q] at hno
    cases hno
  split
  · rename_i c hcd
    exact absurd hcd (hnc c)
  have hx₁ : (s.heap.push { cls := .type "dict", data := .dict #[] }).get? x = some ox := Heap.get?_push_of_some _ hx
  have hxs : x ≠ s.heap.objs.size := Nat.ne_of_lt (Heap.lt_size hx)
  refine wpAny_bind (wpAny_alloc ?_)
  refine wpAny_bind (wpAny_update hx₁ ?_)
  refine wpAny_pure ?_
  have hgx : ((s.heap.push { cls := .type "dict", data := .dict #[] }).update x fun o => { o with dict := some s.heap.objs.size }).get? x = some { ox with dict := some s.heap.objs.size } := by
    refine Heap.get?_update_self _ hx₁ ?_
    have hfr := (Heap.get?_some_iff.mp hx).2
    obtain ⟨oc, od, odt, osl⟩ := ox
    cases odt <;> first | rfl | exact hfr
  have hgd : ((s.heap.push { cls := .type "dict", data := .dict #[] }).update x fun o => { o with dict := some s.heap.objs.size }).get? s.heap.objs.size = some { cls := .type "dict", data := .dict #[] } :=
    (Heap.get?_update_ne _ _ _ _ hxs.symm).trans (Heap.get?_push_at rfl rfl)
  have hnd : ((s.heap.push { cls := .type "dict", data := .dict #[] }).update x fun o => { o with dict := some s.heap.objs.size }).Ns s.heap.objs.size (fun _ => none) :=
    ⟨_, #[], _, hgd, rfl, fun e he => absurd he (by simp), fun _ => rfl⟩
  dsimp only
  unfold storeInDict newKeyGuard
  refine wpAny_bind (wpAny_pure (wpAny_bind (wpAny_nsSet1 (Heap.Ns1.of_empty hnd) fun h' hn' hs' => ?_)))
  obtain ⟨oD, esD, epD, hoD, hdD, hcD⟩ := hn'.count (Within.cons name v Within.nil)
  refine wpAny_bind (wpAny_lookBehind hoD (by rw [hdD]; exact pastItsLine_dict (Nat.le_trans hcD (by rw [List.length_cons, List.length_nil, sizeLine_eq]; omega))) ?_)
  refine wpAny_pure (h h' _ { ox with dict := some s.heap.objs.size } ((hs'.2 x hxs).trans hgx) rfl rfl fun b o hb e => ?_)
  exact (hs'.2 b (Nat.ne_of_lt (Heap.lt_size e))).trans ((Heap.get?_update_ne _ _ _ _ hb).trans (Heap.get?_push_of_some _ e))
end
end
section
theorem words_w41 : True := by
  w_top off
  k_with_none
  (k_with "eval Dict nil nil" => (k_here; k_dflt (refine' newDict_K ?k1 ?k2 (TopRead.nolimit (by k_asm)) ?_; (case k1 => k_asm); (case k2 => k_asm); k_whole); intro dd h' od F' N' dl dlo dhs dfs dhi dfi; (try k_lt dl); (try k_sweep)))
  (k_with "call ref" => (k_here; (with_reducible show wpAny _ _ (call (Value.ref 89) _) _ _ _); k_dflt (refine' next_N ?B ?F ?X ?T ?hk ?hd ?hu ?N ?U ?hi ?hl ?_; (case B => k_asm); (case F => k_asm); (case X => k_asm); (case T => k_asm); (case hk => first | rfl | assumption); (case N => k_asm); (case U => k_updF); (case hi => with_reducible assumption); (case hl => omega); (case hd => k_room); (case hu => k_units); k_whole); intro h' tk' vs' ns' i' t' n' F' N' hI' hL'; (try dsimp only at N'); (try k_sweep)))
  (k_with "call ref" => (k_here; (with_reducible show wpAny _ _ (call (Value.ref 96) _) _ _ _); k_dflt (refine' address_N ?B ?F ?X ?T ?hk ?hd ?hu ?N ?U ?hi ?hl ?b0 ?b1 ?_; (case B => k_asm); (case F => k_asm); (case X => k_asm); (case T => k_asm); (case hk => first | rfl | assumption); (case N => k_asm); (case U => k_updF); (case hi => with_reducible assumption); (case hl => omega); (case b0 => omega); (case b1 => omega); (case hd => k_room); (case hu => k_units); k_whole); intro h' tk' vs' ns' i' t' n' F' N' hI' hL' hb0' hb1'; (try dsimp only at N'); (try k_sweep)))
  (k_with "call ref" => (k_here; (with_reducible show wpAny _ _ (call (Value.ref 82) _) _ _ _); k_dflt (refine' row_N ?B ?F ?X ?T ?hk ?hd ?hu ?N ?l ?hi ?hl ?_; (case B => k_asm); (case F => k_asm); (case X => k_asm); (case T => k_asm); (case hk => first | rfl | assumption); (case N => k_asm); (case l => with_reducible assumption); (case hi => with_reducible assumption); (case hl => omega); (case hd => k_room); (case hu => k_units); k_whole); intro h' tk' row vs' ns' n' F' N' rne hI' hL'; (try dsimp only at N'); (try k_sweep)))
  (k_with "call ref" => (k_here; (with_reducible show wpAny _ _ (call (Value.ref 103) _) _ _ _); refine Stop.out ?_))
  trivial
theorem call_G {w : World} {K : Frag} {A : Around} {s : Shared} {Q : Value → Shared → Prop} {E : Value → Shared → Prop}
    {name qual : Str} {params : Arguments} {body : List Stmt} {scope : Scope} {dV kV doc pm cdv ct oc : Value} {an od : Option Addr} {osl : Array (Option Value)} {f : Addr} {args : List Value} {binds : List (Str × Value)}
    (X : K.In s.heap) (hlim : s.heap.NoLimit) (ho : K.lookup f = some ⟨oc, od, .func (fnOf name qual params body scope dV kV doc pm an cdv ct), osl⟩) (hcd : codeIn K cdv qual = true) (hroom : A.depth < recursionLimit)
    (hbind : BindsTo s (fnOf name qual params body scope dV kV doc pm an cdv ct) ⟨args, []⟩ binds) (hloc : ∀ y ∈ binds, scope.names.lookup y.1 = some .local)
    (h : ∀ L' h₁, Fr s.heap L' h₁ (fun y => binds.reverse.lookup y) → 
      wpAny (model Pg w) (A.deeper (envOf qual scope L' f cdv)) (execs body (envOf qual scope L' f cdv))
        (fun fl s' => Q (match fl with | .ret v => v | _ => .none) s')
        (fun e s' => wpAny (model Pg w) (A.deeper (envOf qual scope L' f cdv)) (leaving (envOf qual scope L' f cdv) e) (fun _ s'' => E e s'') (fun e' s'' => E e' s'') s')
        { s with heap := h₁, toks := s.toks + binds.length })
    (hco : scope.isCoroutine = false) (hgen : scope.isGenerator = false) (hkf : scope.kind = .function) (hcell : ∀ x ∈ scope.names, x.2 ≠ .cell) :
    wpAny (model Pg w) A (call (.ref f) args) Q E s :=
  wpAny_call (codeAny_call_def (fd := fnOf name qual params body scope dV kV doc pm an cdv ct) (body := body) (binds := binds) hroom (X _ _ ho) rfl hlim (codeRec_of X hcd) rfl hbind hcell hloc
    (fun h₁ hns hk => h _ h₁ ⟨hns, hk, Nat.le_refl _⟩) hco hgen hkf)

section
theorem words_w39 : True := by
  w_top off
  k_with_none
  (k_with "eval Dict nil nil" => (k_here; k_dflt (refine' newDict_K ?k1 ?k2 (TopRead.nolimit (by k_asm)) ?_; (case k1 => k_asm); (case k2 => k_asm); k_whole); intro dd h' od F' N' dl dlo dhs dfs dhi dfi; (try k_lt dl); (try k_sweep)))
  (k_with "call ref" => (k_here; (with_reducible show wpAny _ _ (call (Value.ref 89) _) _ _ _); k_dflt (refine' next_N ?B ?F ?X ?T ?hk ?hd ?hu ?N ?U ?hi ?hl ?_; (case B => k_asm); (case F => k_asm); (case X => k_asm); (case T => k_asm); (case hk => first | rfl | assumption); (case N => k_asm); (case U => k_updF); (case hi => with_reducible assumption); (case hl => omega); (case hd => k_room); (case hu => k_units); k_whole); intro h' tk' vs' ns' i' t' n' F' N' hI' hL'; (try dsimp only at N'); (try k_sweep)))
  (k_with "call ref" => (k_here; (with_reducible show wpAny _ _ (call (Value.ref 96) _) _ _ _); k_dflt (refine' address_N ?B ?F ?X ?T ?hk ?hd ?hu ?N ?U ?hi ?hl ?b0 ?b1 ?_; (case B => k_asm); (case F => k_asm); (case X => k_asm); (case T => k_asm); (case hk => first | rfl | assumption); (case N => k_asm); (case U => k_updF); (case hi => with_reducible assumption); (case hl => omega); (case b0 => omega); (case b1 => omega); (case hd => k_room); (case hu => k_units); k_whole); intro h' tk' vs' ns' i' t' n' F' N' hI' hL' hb0' hb1'; (try dsimp only at N'); (try k_sweep)))
  (k_with "call ref" => (k_here; (with_reducible show wpAny _ _ (call (Value.ref 82) _) _ _ _); k_dflt (refine' row_N ?B ?F ?X ?T ?hk ?hd ?hu ?N ?l ?hi ?hl ?_; (case B => k_asm); (case F => k_asm); (case X => k_asm); (case T => k_asm); (case hk => first | rfl | assumption); (case N => k_asm); (case l => with_reducible assumption); (case hi => with_reducible assumption); (case hl => omega); (case hd => k_room); (case hu => k_units); k_whole); intro h' tk' row vs' ns' n' F' N' rne hI' hL'; (try dsimp only at N'); (try k_sweep)))
  (k_with "call ref" => (k_here; (with_reducible show wpAny _ _ (call (Value.ref 103) _) _ _ _); refine Stop.out ?_))
  (k_with "setAttr ref" => refine Stop.out ?_)
  trivial
variable {w : World} {A : Around} {E : Value → Shared → Prop} {s : Shared} {Q : Value → Shared → Prop}
set_option maxHeartbeats 4000000 in
theorem init_call (hroom : A.depth < recursionLimit) (X : (Kf w).In s.heap) (hlim : s.heap.NoLimit) {e tp : Addr} {v : Value} (he : s.heap.get? e = some (rawExc 45 tp))
    (h : ∀ h' tk ox', h'.get? e = some ox' → ox'.cls = .ref 45 → ox'.data = .fields #[.ref tp, .none, .none, .none, .bool false, .none] → (∀ b o, b ≠ e → s.heap.get? b = some o → h'.get? b = some o) → Q .none { s with heap := h', toks := tk }) :
    wpAny (model Pg w) A (call (.ref 42) [.ref e, v]) Q E s := by
  revert X; dsimp only [Kf, Pg]; k_fill; intro X
  refine' call_G X hlim ?ho ?hcd hroom ?hb ?hl ?_ ?c2 ?c3 ?c4 ?c5
  (case ho => k_is); (case hcd => k_is)
  (case hb => first | exact BindsTo.of_eq rfl | exact binds_K (by k_in) rfl (by k_is) rfl rfl rfl)
  (case c5 => decide); (case hl => exact locs rfl); (case c2 => exact rfl); (case c3 => exact rfl); (case c4 => exact rfl)
  k_whole
  intro L0 h1 F0
  (try dsimp only)
  (try k_fold)
  have N0 : News s.heap L0 h1 [] := News.nil
  k_steps
  have hL : L0 ≠ e := fun q => absurd (Heap.lt_size he) (by rw [← q]; exact Nat.not_lt.mpr F0.above)
  have hkeep := F0.keep
  have I : InstAt h1 e (rawExc 45 tp) 45 none := ⟨hkeep _ _ he, rfl, rfl, trivial⟩
  refine Stop.mk ?_
  refine' set_exc (C2 := 24) (X.keeps hkeep) I ?hs ?hc ?hd ?hm ?ha ?_
  case hs => k_is
  case hc => k_is
  case hd => rfl
  case hm => rfl
  case ha => k_is
  intro h' tk ox' h1 h2 h3 h4
  exact wpAny_pure (h h' tk ox' h1 h2 h3 fun b o hb e => h4 b o hb (hkeep b o e))
end
end
theorem words_w40 : True := by
  w_top off
  k_with_none
  (k_with "eval Dict nil nil" => (k_here; k_dflt (refine' newDict_K ?k1 ?k2 (TopRead.nolimit (by k_asm)) ?_; (case k1 => k_asm); (case k2 => k_asm); k_whole); intro dd h' od F' N' dl dlo dhs dfs dhi dfi; (try k_lt dl); (try k_sweep)))
  (k_with "call ref" => (k_here; (with_reducible show wpAny _ _ (call (Value.ref 89) _) _ _ _); k_dflt (refine' next_N ?B ?F ?X ?T ?hk ?hd ?hu ?N ?U ?hi ?hl ?_; (case B => k_asm); (case F => k_asm); (case X => k_asm); (case T => k_asm); (case hk => first | rfl | assumption); (case N => k_asm); (case U => k_updF); (case hi => with_reducible assumption); (case hl => omega); (case hd => k_room); (case hu => k_units); k_whole); intro h' tk' vs' ns' i' t' n' F' N' hI' hL'; (try dsimp only at N'); (try k_sweep)))
  (k_with "call ref" => (k_here; (with_reducible show wpAny _ _ (call (Value.ref 96) _) _ _ _); k_dflt (refine' address_N ?B ?F ?X ?T ?hk ?hd ?hu ?N ?U ?hi ?hl ?b0 ?b1 ?_; (case B => k_asm); (case F => k_asm); (case X => k_asm); (case T => k_asm); (case hk => first | rfl | assumption); (case N => k_asm); (case U => k_updF); (case hi => with_reducible assumption); (case hl => omega); (case b0 => omega); (case b1 => omega); (case hd => k_room); (case hu => k_units); k_whole); intro h' tk' vs' ns' i' t' n' F' N' hI' hL' hb0' hb1'; (try dsimp only at N'); (try k_sweep)))
  (k_with "call ref" => (k_here; (with_reducible show wpAny _ _ (call (Value.ref 82) _) _ _ _); k_dflt (refine' row_N ?B ?F ?X ?T ?hk ?hd ?hu ?N ?l ?hi ?hl ?_; (case B => k_asm); (case F => k_asm); (case X => k_asm); (case T => k_asm); (case hk => first | rfl | assumption); (case N => k_asm); (case l => with_reducible assumption); (case hi => with_reducible assumption); (case hl => omega); (case hd => k_room); (case hu => k_units); k_whole); intro h' tk' row vs' ns' n' F' N' rne hI' hL'; (try dsimp only at N'); (try k_sweep)))
  (k_with "call ref" => (k_here; (with_reducible show wpAny _ _ (call (Value.ref 103) _) _ _ _); refine Stop.out ?_))
  trivial
section
theorem words_w42 : True := by
  w_top off
  k_with_none
  (k_with "eval Dict nil nil" => (k_here; k_dflt (refine' newDict_K ?k1 ?k2 (TopRead.nolimit (by k_asm)) ?_; (case k1 => k_asm); (case k2 => k_asm); k_whole); intro dd h' od F' N' dl dlo dhs dfs dhi dfi; (try k_lt dl); (try k_sweep)))
  (k_with "call ref" => (k_here; (with_reducible show wpAny _ _ (call (Value.ref 89) _) _ _ _); k_dflt (refine' next_N ?B ?F ?X ?T ?hk ?hd ?hu ?N ?U ?hi ?hl ?_; (case B => k_asm); (case F => k_asm); (case X => k_asm); (case T => k_asm); (case hk => first | rfl | assumption); (case N => k_asm); (case U => k_updF); (case hi => with_reducible assumption); (case hl => omega); (case hd => k_room); (case hu => k_units); k_whole); intro h' tk' vs' ns' i' t' n' F' N' hI' hL'; (try dsimp only at N'); (try k_sweep)))
  (k_with "call ref" => (k_here; (with_reducible show wpAny _ _ (call (Value.ref 96) _) _ _ _); k_dflt (refine' address_N ?B ?F ?X ?T ?hk ?hd ?hu ?N ?U ?hi ?hl ?b0 ?b1 ?_; (case B => k_asm); (case F => k_asm); (case X => k_asm); (case T => k_asm); (case hk => first | rfl | assumption); (case N => k_asm); (case U => k_updF); (case hi => with_reducible assumption); (case hl => omega); (case b0 => omega); (case b1 => omega); (case hd => k_room); (case hu => k_units); k_whole); intro h' tk' vs' ns' i' t' n' F' N' hI' hL' hb0' hb1'; (try dsimp only at N'); (try k_sweep)))
  (k_with "call ref" => (k_here; (with_reducible show wpAny _ _ (call (Value.ref 82) _) _ _ _); k_dflt (refine' row_N ?B ?F ?X ?T ?hk ?hd ?hu ?N ?l ?hi ?hl ?_; (case B => k_asm); (case F => k_asm); (case X => k_asm); (case T => k_asm); (case hk => first | rfl | assumption); (case N => k_asm); (case l => with_reducible assumption); (case hi => with_reducible assumption); (case hl => omega); (case hd => k_room); (case hu => k_units); k_whole); intro h' tk' row vs' ns' n' F' N' rne hI' hL'; (try dsimp only at N'); (try k_sweep)))
  (k_with "call ref" => (k_here; (with_reducible show wpAny _ _ (call (Value.ref 103) _) _ _ _); refine Stop.out ?_))
  trivial
abbrev bmE : List Value := [.type "Exception", .type "BaseException", .type "object"]
theorem ns_is {h : Heap} {N : Addr} {c : Value} {d : Option Addr} {es : Array DictEntry} {n : Nat} {sl : Array (Option Value)} (ho : h.get? N = some ⟨c, d, .dict es n, sl⟩) (e : (es.toList.all fun e => match e.key with | .str _ _ => true | _ => false) = true) : h.Ns N (nsFind es) := by
  have := Heap.Ns.of_isNs (h := h) (a := N) (by unfold Heap.isNs; rw [ho]; rw [Array.all_toList] at e; exact e)
  have q : h.nsMap N = nsFind es := by
    funext x
    unfold Heap.nsMap
    rw [ho]
  rw [q] at this
  exact this
/-- the class LinkFault as it lies -/
noncomputable def FaultIs (h : Heap) : Prop := ∃ nm q bs hdct sn sub ab col dd k0 k1 k2 k3 k5 mN oI, h.get? 45 = some (excClassObj nm q 45 44 bs (.ref 24 :: bmE) hdct sn sub ab col dd k0 k1 k2 k3 k5 "Exception.__new__") ∧ h.Ns 44 mN ∧ mN "__init__" = some (.ref 42) ∧
  h.get? 42 = some oI ∧ oI.cls = .type "function" ∧ OwnTail h bmE (.ref 24 :: bmE)
theorem fault_in {w : World} {h : Heap} (X : (Kf w).In h) : FaultIs h := by
  have hp : PySem.Challenge.rw_no0151_01.row.prog = PySem.Challenge.rw_no0151_01.row.prog := rfl
  revert hp X; dsimp only [Kf]; k_fill; intro X _
  have h45 := X 45 _ (by k_is)
  have h44 := X 44 _ (by k_is)
  have h42 := X 42 _ (by k_is)
  have h24 := X 24 _ (by k_is)
  have h23 := X 23 _ (by k_is)
  refine ⟨_, _, _, _, _, _, _, _, _, _, _, _, _, _, _, _, h45, ns_is h44 rfl, ?_, h42, rfl, ?_⟩
  · unfold nsFind findBy; rw [← Array.find?_toList]; with_unfolding_all rfl
  · exact .own h24 (ns_is h23 rfl) (by unfold nsFind findBy; rw [← Array.find?_toList]; with_unfolding_all rfl) .base

section
variable {M : Model} {A : Around} {E : Value → Shared → Prop} {env : Env}
variable {nm q : Str} {C N : Addr} {bs bm : List Value} {hdct : Bool} {sn : List Str} {sub : List Value} {ab : Bool} {col : Option Bool} {dd : Option Addr} {k0 k1 k2 k3 k5 : Option Value} {newId : String}
theorem raise_made {s : Shared} {x : Sem Value} {Q : Flow → Shared → Prop} (hbase : bm.contains (.type "BaseException") = true) (hh : A.handled = none)
    (h : wpAny M A x (fun v s₁ => ∃ e ob t, v = .ref e ∧ s₁.heap.get? C = some (excClassObj nm q C N bs bm hdct sn sub ab col dd k0 k1 k2 k3 k5 newId) ∧
      s₁.heap.get? e = some ob ∧ ob.cls = .ref C ∧ ob.data = .fields #[.ref t, .none, .none, .none, .bool false, .none] ∧ E (.ref e) s₁) E s) :
    wpAny M A (raiseStmt env (some x) none) Q E s := by
  have hcB : (Value.ref C :: bm).contains (.type "BaseException") = true := by rw [List.contains_cons, hbase, Bool.or_true]
  unfold raiseStmt
  refine wpAny_bind (wpAny_mono h (fun v s₁ h₁ => ?_) fun _ _ x => x)
  obtain ⟨e, ⟨oc, od, odt, osl⟩, t, rfl, hC, he, h1, h2, hE⟩ := h₁
  dsimp only at h1 h2
  subst h1 h2
  obtain ⟨hp, g, d, tk, os⟩ := s₁
  repeat (first | with_reducible refine wpAny_loadPart_at he ?_ | with_reducible refine wpAny_loadPart_at hC ?_ | (with_reducible refine wpAny_isSubtype_exc hC ?_; rw [hcB]) | (dsimp only; with_reducible refine wpAny_isSubtype_exc hC ?_; rw [hcB]) | wp_step)
  exact wpAny_raiseNew_none hh hE
end
end
section
theorem words_w43 : True := by
  w_top off
  k_with_none
  (k_with "eval Dict nil nil" => (k_here; k_dflt (refine' newDict_K ?k1 ?k2 (TopRead.nolimit (by k_asm)) ?_; (case k1 => k_asm); (case k2 => k_asm); k_whole); intro dd h' od F' N' dl dlo dhs dfs dhi dfi; (try k_lt dl); (try k_sweep)))
  (k_with "call ref" => (k_here; (with_reducible show wpAny _ _ (call (Value.ref 89) _) _ _ _); k_dflt (refine' next_N ?B ?F ?X ?T ?hk ?hd ?hu ?N ?U ?hi ?hl ?_; (case B => k_asm); (case F => k_asm); (case X => k_asm); (case T => k_asm); (case hk => first | rfl | assumption); (case N => k_asm); (case U => k_updF); (case hi => with_reducible assumption); (case hl => omega); (case hd => k_room); (case hu => k_units); k_whole); intro h' tk' vs' ns' i' t' n' F' N' hI' hL'; (try dsimp only at N'); (try k_sweep)))
  (k_with "call ref" => (k_here; (with_reducible show wpAny _ _ (call (Value.ref 96) _) _ _ _); k_dflt (refine' address_N ?B ?F ?X ?T ?hk ?hd ?hu ?N ?U ?hi ?hl ?b0 ?b1 ?_; (case B => k_asm); (case F => k_asm); (case X => k_asm); (case T => k_asm); (case hk => first | rfl | assumption); (case N => k_asm); (case U => k_updF); (case hi => with_reducible assumption); (case hl => omega); (case b0 => omega); (case b1 => omega); (case hd => k_room); (case hu => k_units); k_whole); intro h' tk' vs' ns' i' t' n' F' N' hI' hL' hb0' hb1'; (try dsimp only at N'); (try k_sweep)))
  (k_with "call ref" => (k_here; (with_reducible show wpAny _ _ (call (Value.ref 82) _) _ _ _); k_dflt (refine' row_N ?B ?F ?X ?T ?hk ?hd ?hu ?N ?l ?hi ?hl ?_; (case B => k_asm); (case F => k_asm); (case X => k_asm); (case T => k_asm); (case hk => first | rfl | assumption); (case N => k_asm); (case l => with_reducible assumption); (case hi => with_reducible assumption); (case hl => omega); (case hd => k_room); (case hu => k_units); k_whole); intro h' tk' row vs' ns' n' F' N' rne hI' hL'; (try dsimp only at N'); (try k_sweep)))
  (k_with "call ref" => (k_here; (with_reducible show wpAny _ _ (call (Value.ref 103) _) _ _ _); refine Stop.out ?_))
  trivial
theorem fault_name {w : World} : nsIn (Kf w) mainGlobals "LinkFault" = some (some (.ref 45)) := by
  have hp : PySem.Challenge.rw_no0151_01.row.prog = PySem.Challenge.rw_no0151_01.row.prog := rfl
  have hq : (hd.heap_39 w.params) = (hd.heap_39 w.params) := rfl
  revert hp hq; k_fill; intro _ _
  exact (by k_is : nsIn (hd.heap_39 w.params) mainGlobals (Str.ofString "LinkFault") = some (some (.ref 45)))
section
variable {w : World} {A : Around} {E : Value → Shared → Prop} {s : Shared} {h₀ : Heap} {L : Addr} {m : Str → Option Value} {mean : ExcName → Option Value} {mg mb : Str → Option Value} {name : Str} {scope : Scope} {a : Addr} {cd : Value} {Q : Flow → Shared → Prop}
theorem raise_fault (hroom : A.depth + 1 < recursionLimit) (hh : A.handled = none) (F : Fr h₀ L s.heap m) (X : (Kf w).In h₀) (T : TopM mean mg mb h₀) {txt : Str} {kk : Nat} {np kp cpos pos : Pos}
    (hE : ∀ h' tk e ob t, (∀ b o, s.heap.get? b = some o → h'.get? b = some o) → s.heap.get? e = none → h'.get? e = some ob → ob.cls = .ref 45 → ob.data = .fields #[.ref t, .none, .none, .none, .bool false, .none] → E (.ref e) { s with heap := h', toks := tk })
    (hk : scope.kind = .function) (hx : (envOf name scope L a cd).kindOf "LinkFault" = some .globalImplicit) :
    wpAny (model Pg w) A (exec (.Raise (some (.Call (.Name "LinkFault" np) [.Constant (.str txt) kk kp] [] cpos)) none pos) (envOf name scope L a cd)) Q E s := by
  obtain ⟨nm, q, bs, hdct, sn, sub, ab, col, dd, k0, k1, k2, k3, k5, mN, oI, hC, hN, hi, hfI, hfc, OT⟩ := fault_in (X.keeps F.keep)
  have FB := PySem.F.excBase_Exception
  have hname := fault_name (w := w)
  rw [arm_exec_Raise]
  refine wpAny_bind (wpAny_standAt (raise_made (C := 45) (nm := nm) (q := q) (N := 44) (bs := bs) (bm := .ref 24 :: bmE) (hdct := hdct) (sn := sn) (sub := sub) (ab := ab) (col := col) (dd := dd) (k0 := k0) (k1 := k1) (k2 := k2) (k3 := k3) (k5 := k5) (newId := "Exception.__new__") (OT.hasType FB.hasBase) hh ?_))
  refine wpAny_bind (wpAny_Call_ofName (ld_global_at F T.g (mg_of X T.g hname) ?_ hk hx (by decide)))
  unfold callWith
  refine wpAny_bind (wpAny_holding ?_)
  refine wpAny_mono (Q := fun a₁ s₂ => ∃ t tk, a₁ = ⟨[.str txt t], []⟩ ∧ s₂ = { s with toks := tk }) (evalArgs_plain ?_) ?_ fun _ _ y => y
  · show wpAny _ _ (spliced [(false, _)]) _ _ _
    unfold spliced
    dsimp only
    rw [if_neg Bool.false_ne_true]
    refine wpAny_bind (wpAny_Constant_str ?_)
    rw [if_neg Bool.false_ne_true]
    refine (wpAny_bind (wpAny_pure (wpAny_bind (wpAny_holding ?_))))
    unfold spliced
    exact wpAny_pure (wpAny_pure ⟨_, _, rfl, rfl⟩)
  · rintro _ _ ⟨t, tk, rfl, rfl⟩
    refine wpAny_bind (wpAny_standAt ?_)
    refine wpAny_bind (wpAny_keeperOf_exc hC ?_)
    refine wpAny_bind (make_own FB OT hC hN hi hfI hfc (by rw [PySem.sizeLine_eq]; simp) fun h' e tp kp hnew hget => ?_)
    have X' : (Kf w).In h' := (X.keeps F.keep).keeps kp
    refine init_call (show A.depth + 1 < recursionLimit from hroom) X' ((T.nolimit.keeps F.keep).keeps kp) hget fun h'' tk' ox' h1 h2 h3 h4 => ⟨rfl, ?_⟩
    refine wpAny_bind (wpAny_holding (wpAny_point (wpAny_pure ?_)))
    refine wpAny_bind (wpAny_standAt (wpAny_pure ?_))
    have kp2 : ∀ b o, s.heap.get? b = some o → h''.get? b = some o := fun b o ho => h4 b o (fun q => by rw [q, hnew] at ho; cases ho) (kp b o ho)
    exact ⟨e, ox', tp, rfl, kp2 _ _ hC, h1, h2, h3, hE h'' tk' e ox' tp kp2 hnew h1 h2 h3⟩
end
end
section
theorem words_w44 : True := by
  w_top off
  k_with_none
  (k_with "eval Dict nil nil" => (k_here; k_dflt (refine' newDict_K ?k1 ?k2 (TopRead.nolimit (by k_asm)) ?_; (case k1 => k_asm); (case k2 => k_asm); k_whole); intro dd h' od F' N' dl dlo dhs dfs dhi dfi; (try k_lt dl); (try k_sweep)))
  (k_with "call ref" => (k_here; (with_reducible show wpAny _ _ (call (Value.ref 89) _) _ _ _); k_dflt (refine' next_N ?B ?F ?X ?T ?hk ?hd ?hu ?N ?U ?hi ?hl ?_; (case B => k_asm); (case F => k_asm); (case X => k_asm); (case T => k_asm); (case hk => first | rfl | assumption); (case N => k_asm); (case U => k_updF); (case hi => with_reducible assumption); (case hl => omega); (case hd => k_room); (case hu => k_units); k_whole); intro h' tk' vs' ns' i' t' n' F' N' hI' hL'; (try dsimp only at N'); (try k_sweep)))
  (k_with "call ref" => (k_here; (with_reducible show wpAny _ _ (call (Value.ref 96) _) _ _ _); k_dflt (refine' address_N ?B ?F ?X ?T ?hk ?hd ?hu ?N ?U ?hi ?hl ?b0 ?b1 ?_; (case B => k_asm); (case F => k_asm); (case X => k_asm); (case T => k_asm); (case hk => first | rfl | assumption); (case N => k_asm); (case U => k_updF); (case hi => with_reducible assumption); (case hl => omega); (case b0 => omega); (case b1 => omega); (case hd => k_room); (case hu => k_units); k_whole); intro h' tk' vs' ns' i' t' n' F' N' hI' hL' hb0' hb1'; (try dsimp only at N'); (try k_sweep)))
  (k_with "call ref" => (k_here; (with_reducible show wpAny _ _ (call (Value.ref 82) _) _ _ _); k_dflt (refine' row_N ?B ?F ?X ?T ?hk ?hd ?hu ?N ?l ?hi ?hl ?_; (case B => k_asm); (case F => k_asm); (case X => k_asm); (case T => k_asm); (case hk => first | rfl | assumption); (case N => k_asm); (case l => with_reducible assumption); (case hi => with_reducible assumption); (case hl => omega); (case hd => k_room); (case hu => k_units); k_whole); intro h' tk' row vs' ns' n' F' N' rne hI' hL'; (try dsimp only at N'); (try k_sweep)))
  (k_with "call ref" => (k_here; (with_reducible show wpAny _ _ (call (Value.ref 103) _) _ _ _); refine Stop.out ?_))
  trivial
section
variable {M : Model} {A : Around} {E : Value → Shared → Prop} {s' : Shared} {base g h : Heap} {outer : List Env} {L a e t : Addr} {m : Str → Option Value} {name : Str} {scope : Scope} {cd cls : Value} {ob : Obj} {Q : Unit → Shared → Prop}
theorem leave_O (K : Below A base outer g) (F : Fr g L h m) (hkeep : ∀ b o, h.get? b = some o → s'.heap.get? b = some o) (hnew : h.get? e = none) (he : s'.heap.get? e = some ob) (hcls : ob.cls = cls)
    (hd : ob.data = .fields #[.ref t, .none, .none, .none, .bool false, .none])
    (hQ : ∀ h', RaisedN base outer e cls [] h' → g.UpToSlots h' → Q () { s' with heap := h' }) (hk : scope.kind = .function) :
    wpAny M (A.deeper (envOf name scope L a cd)) (leaving (envOf name scope L a cd) (.ref e)) Q E s' := by
  have K' := K.push (name := name) (a := a) (cd := cd) F hk
  have hin : ∀ env ∈ (envOf name scope L a cd :: outer), ∀ b, env.frame = some b → b ∈ (envOf name scope L a cd :: outer).filterMap (·.frame) := fun env he b hb => List.mem_filterMap.mpr ⟨env, he, hb⟩
  have st : base.StaysIn (hideAll h ((envOf name scope L a cd :: outer).filterMap (·.frame))) := fun b o q => hideAll_get _ (K'.stays b o q) fun hm => by
    rw [(K'.frames.mem hm).1] at q; cases q
  have hen : (hideAll h ((envOf name scope L a cd :: outer).filterMap (·.frame))).get? e = none := by
    cases q : (hideAll h ((envOf name scope L a cd :: outer).filterMap (·.frame))).get? e with
    | none => rfl
    | some o => have := of_hideAll _ q; rw [hnew] at this; cases this
  refine wpAny_leaving_firstW (a0 := .ref t) K'.stack ((funFrames_hide K'.frames hin).of_keeps fun b o hb _ => ⟨o, hkeep b o hb, rfl⟩) rfl he (fun b o hb => hkeep b o (of_hideAll _ hb)) hen hd rfl rfl fun h' hL => ?_
  obtain ⟨k1, ⟨_, _, k2⟩, k3, k4⟩ := hL
  exact hQ h' ⟨_, .ref t, st, fun _ hq => (by cases hq), k1, hen, k2, by rw [← hcls]; exact k3⟩ (((Heap.UpToSlots.of_keeps F.keep).trans (Heap.UpToSlots.of_keeps hkeep)).trans k4)
end

section
variable {w : World} {A₀ : Around} {E : Value → Shared → Prop} {s' : Shared} {h₀ h : Heap} {outer : List Env} {L ca e : Addr} {m : Str → Option Value} {cn : Str} {cs : Scope} {ccd : Value} {cl : List (Str × Addr)} {mean : ExcName → Option Value} {mg mb : Str → Option Value}
  {b₀ : Stmt} {suite : List Stmt} {pos np : Pos} {rest : List ExceptHandler} {Q : Flow → Shared → Prop}
theorem caught_X (K : Below A₀ h₀ outer h₀) (F : Fr h₀ L h m) (hsm : h.UpToSlots s'.heap) (R : RaisedN h₀ (envX cn cs L ca ccd cl :: outer) e (.ref 45) [] s'.heap)
    (X : (Kf w).In h₀) (T : TopM mean mg mb h₀)
    (k : ∀ h', Fr h₀ L h' m → wpAny (model Pg w) ((A₀.deeper (envX cn cs L ca ccd cl)).mark (some (.ref e))) (execs (b₀ :: suite) (envX cn cs L ca ccd cl)) Q (fun _ _ => False) { s' with heap := h' })
    (hk : cs.kind = .function) (hx : (envX cn cs L ca ccd cl).kindOf "LinkFault" = some .globalImplicit) :
    wpAny (model Pg w) (A₀.deeper (envX cn cs L ca ccd cl)) (noteFrame (.ref e) (envX cn cs L ca ccd cl))
      (fun _ s₂ => wpAny (model Pg w) (A₀.deeper (envX cn cs L ca ccd cl)) (setFlight (.ref e) none) (fun _ s₃ =>
        wpAny (model Pg w) (A₀.deeper (envX cn cs L ca ccd cl)) (handleBy (.ref e) (envX cn cs L ca ccd cl) (.ExceptHandler (some (.Name "LinkFault" np)) none (b₀ :: suite) pos :: rest)) Q E s₃) E s₂) E s' := by
  obtain ⟨B, a0, hB, hl, hfl⟩ := R
  refine wpAny_looks_onW (Around.frames_deeper K.stack) rfl hfl fun h₄ hheld₄ hsm₄ => ?_
  refine wpAny_landsW hheld₄ fun h₅ hheld hsm₅' => ?_
  have hsm₅ := hsm₄.trans hsm₅'
  have hheld' := flyingW_base hB hheld
  have F₅ := F.of_stays hheld'.1 (hsm.trans hsm₅)
  obtain ⟨ob, hob, hobc⟩ := hheld'.there
  refine wpAny_handleBy_cons (codeAny_handlers_test (Calls.Name_function_global hk hx (Calls.loadGlobal_global (T.g.keeps F₅.keep) (mg_of X T.g fault_name) ?_) (by decide))) (by intro q; cases q)
  obtain ⟨nm, qn, bs, hdct, sn, sub, ab, col, dd, k0, k1, k2, k3, k5, mN, oI, hC, hN, hi, hfI, hfc, TL⟩ := fault_in (X.keeps F₅.keep)
  refine wpAny_excMatches_sub_self hC hob hobc (TL.hasType PySem.F.excBase_Exception.hasBase) (codeAny_handlers_suite ?_)
  refine lands_againW hheld fun h₆ hfl₆ hsm₆ => ?_
  have F₆ := F.of_stays (flyingW_base hB hfl₆).1 ((hsm.trans hsm₅).trans hsm₆)
  exact wpAny_mono (k h₆ F₆) (fun _ _ x => x) fun _ _ f => f.elim
end
end
section
theorem words_w45 : True := by
  w_top off
  k_with_none
  (k_with "eval Dict nil nil" => (k_here; k_dflt (refine' newDict_K ?k1 ?k2 (TopRead.nolimit (by k_asm)) ?_; (case k1 => k_asm); (case k2 => k_asm); k_whole); intro dd h' od F' N' dl dlo dhs dfs dhi dfi; (try k_lt dl); (try k_sweep)))
  (k_with "call ref" => (k_here; (with_reducible show wpAny _ _ (call (Value.ref 89) _) _ _ _); k_dflt (refine' next_N ?B ?F ?X ?T ?hk ?hd ?hu ?N ?U ?hi ?hl ?_; (case B => k_asm); (case F => k_asm); (case X => k_asm); (case T => k_asm); (case hk => first | rfl | assumption); (case N => k_asm); (case U => k_updF); (case hi => with_reducible assumption); (case hl => omega); (case hd => k_room); (case hu => k_units); k_whole); intro h' tk' vs' ns' i' t' n' F' N' hI' hL'; (try dsimp only at N'); (try k_sweep)))
  (k_with "call ref" => (k_here; (with_reducible show wpAny _ _ (call (Value.ref 96) _) _ _ _); k_dflt (refine' address_N ?B ?F ?X ?T ?hk ?hd ?hu ?N ?U ?hi ?hl ?b0 ?b1 ?_; (case B => k_asm); (case F => k_asm); (case X => k_asm); (case T => k_asm); (case hk => first | rfl | assumption); (case N => k_asm); (case U => k_updF); (case hi => with_reducible assumption); (case hl => omega); (case b0 => omega); (case b1 => omega); (case hd => k_room); (case hu => k_units); k_whole); intro h' tk' vs' ns' i' t' n' F' N' hI' hL' hb0' hb1'; (try dsimp only at N'); (try k_sweep)))
  (k_with "call ref" => (k_here; (with_reducible show wpAny _ _ (call (Value.ref 82) _) _ _ _); k_dflt (refine' row_N ?B ?F ?X ?T ?hk ?hd ?hu ?N ?l ?hi ?hl ?_; (case B => k_asm); (case F => k_asm); (case X => k_asm); (case T => k_asm); (case hk => first | rfl | assumption); (case N => k_asm); (case l => with_reducible assumption); (case hi => with_reducible assumption); (case hl => omega); (case hd => k_room); (case hu => k_units); k_whole); intro h' tk' row vs' ns' n' F' N' rne hI' hL'; (try dsimp only at N'); (try k_sweep)))
  (k_with "call ref" => (k_here; (with_reducible show wpAny _ _ (call (Value.ref 103) _) _ _ _); refine Stop.out ?_))
  trivial
/-! a while loop by an invariant and a measure -/
section
variable {prog : Program} {w : World} {A : Around} {E : Value → Shared → Prop} {s : Shared} {env : Env} {h₀ : Heap} {test : PySem.Expr} {body : List Stmt} {Q : Flow → Shared → Prop}
/-- a turn's end: the invariant again, at a smaller measure -/
noncomputable def WhEnd (h₀ : Heap) (L : Addr) (J : Nat → (Str → Option Value) → List (Addr × Obj) → Prop) (k : Nat) (s₀ s' : Shared) : Prop :=
  ∃ h' tk' k' m' nx', s' = { s₀ with heap := h', toks := tk' } ∧ k' < k ∧ Fr h₀ L h' m' ∧ News h₀ L h' nx' ∧ J k' m' nx'
theorem WhEnd.intro {L : Addr} {J : Nat → (Str → Option Value) → List (Addr × Obj) → Prop} {k k' : Nat} {s₀ : Shared} {h' : Heap} {tk' : Nat} {m' : Str → Option Value} {nx' : List (Addr × Obj)} (F : Fr h₀ L h' m') (N : News h₀ L h' nx') (hk : k' < k) (hj : J k' m' nx') :
    WhEnd h₀ L J k s₀ { s₀ with heap := h', toks := tk' } := ⟨h', tk', k', m', nx', rfl, hk, F, N, hj⟩
noncomputable def WhPost (h₀ : Heap) (L : Addr) (J : Nat → (Str → Option Value) → List (Addr × Obj) → Prop) (k : Nat) (s₀ : Shared) (Q : Flow → Shared → Prop) : Flow → Shared → Prop
  | .next, s' => WhEnd h₀ L J k s₀ s'
  | .cont, s' => WhEnd h₀ L J k s₀ s'
  | .brk, s' => Q .next s'
  | .ret v, s' => Q (.ret v) s'

theorem whileG {pos : Pos} {m₀ : Str → Option Value} {news : List (Addr × Obj)} (J : Nat → (Str → Option Value) → List (Addr × Obj) → Prop) (hE : PassesOwn (model prog w) A env E)
    (F : Fr h₀ env.locals s.heap m₀) (N : News h₀ env.locals s.heap news) {k₀ : Nat} (hj : J k₀ m₀ news)
    (turn : ∀ k m₁ nx h tk, J k m₁ nx → Fr h₀ env.locals h m₁ → News h₀ env.locals h nx →
      wpAny (model prog w) A (isTrue test env (eval test env)) (fun b s₂ => WhlIf b (wpAny (model prog w) A (execs body env) (WhPost h₀ env.locals J k s Q) E s₂) (Q .next s₂)) E { s with heap := h, toks := tk }) :
    wpAny (model prog w) A (exec (.While test body [] pos) env) Q E s := by
  have go : ∀ k, ∀ m₁ nx h tk, J k m₁ nx → Fr h₀ env.locals h m₁ → News h₀ env.locals h nx → WhlRest prog w A E env test body [] Q 0 { s with heap := h, toks := tk } := by
    intro k
    induction k using Nat.strongRecOn with
    | _ k ih =>
      intro m₁ nx h tk hJ F₁ N₁
      refine whl_turn (k := 0) hE (wpAny_mono (turn k m₁ nx h tk hJ F₁ N₁) (fun b s₂ hb => ?_) fun _ _ e => e)
      cases b with
      | false =>
        refine WhlIf.no rfl ?_
        unfold WhlIf at hb
        rw [if_neg Bool.false_ne_true] at hb
        exact wpAny_pure hb
      | true =>
        refine WhlIf.yes rfl ?_
        unfold WhlIf at hb
        rw [if_pos rfl] at hb
        refine wpAny_mono hb (fun f s₃ hf => ?_) fun _ _ e => e
        have fin : WhEnd h₀ env.locals J k s s₃ → WhlRest prog w A E env test body [] Q 0 s₃ := by
          rintro ⟨h', tk', k', m', nx', rfl, hk, F', N', hj'⟩
          exact ih k' hk m' nx' h' tk' hj' F' N'
        cases f with
        | next => exact fin hf
        | cont => exact fin hf
        | brk => exact hf
        | ret v => exact hf
  exact whl_start 0 (go k₀ m₀ news s.heap s.toks hj F N)
end
end
section
theorem words_w46 : True := by
  w_top off
  k_with_none
  (k_with "eval Dict nil nil" => (k_here; k_dflt (refine' newDict_K ?k1 ?k2 (TopRead.nolimit (by k_asm)) ?_; (case k1 => k_asm); (case k2 => k_asm); k_whole); intro dd h' od F' N' dl dlo dhs dfs dhi dfi; (try k_lt dl); (try k_sweep)))
  (k_with "call ref" => (k_here; (with_reducible show wpAny _ _ (call (Value.ref 89) _) _ _ _); k_dflt (refine' next_N ?B ?F ?X ?T ?hk ?hd ?hu ?N ?U ?hi ?hl ?_; (case B => k_asm); (case F => k_asm); (case X => k_asm); (case T => k_asm); (case hk => first | rfl | assumption); (case N => k_asm); (case U => k_updF); (case hi => with_reducible assumption); (case hl => omega); (case hd => k_room); (case hu => k_units); k_whole); intro h' tk' vs' ns' i' t' n' F' N' hI' hL'; (try dsimp only at N'); (try k_sweep)))
  (k_with "call ref" => (k_here; (with_reducible show wpAny _ _ (call (Value.ref 96) _) _ _ _); k_dflt (refine' address_N ?B ?F ?X ?T ?hk ?hd ?hu ?N ?U ?hi ?hl ?b0 ?b1 ?_; (case B => k_asm); (case F => k_asm); (case X => k_asm); (case T => k_asm); (case hk => first | rfl | assumption); (case N => k_asm); (case U => k_updF); (case hi => with_reducible assumption); (case hl => omega); (case b0 => omega); (case b1 => omega); (case hd => k_room); (case hu => k_units); k_whole); intro h' tk' vs' ns' i' t' n' F' N' hI' hL' hb0' hb1'; (try dsimp only at N'); (try k_sweep)))
  (k_with "call ref" => (k_here; (with_reducible show wpAny _ _ (call (Value.ref 82) _) _ _ _); k_dflt (refine' row_N ?B ?F ?X ?T ?hk ?hd ?hu ?N ?l ?hi ?hl ?_; (case B => k_asm); (case F => k_asm); (case X => k_asm); (case T => k_asm); (case hk => first | rfl | assumption); (case N => k_asm); (case l => with_reducible assumption); (case hi => with_reducible assumption); (case hl => omega); (case hd => k_room); (case hu => k_units); k_whole); intro h' tk' row vs' ns' n' F' N' rne hI' hL'; (try dsimp only at N'); (try k_sweep)))
  (k_with "call ref" => (k_here; (with_reducible show wpAny _ _ (call (Value.ref 103) _) _ _ _); refine Stop.out ?_))
  trivial
/-! the contracts once more, over a ledger -/
theorem keep_news {h₀ h h' : Heap} {L : Addr} {m : Str → Option Value} {news : List (Addr × Obj)} (K : Keeps [] h h') (F : Fr h₀ L h m) (N : News h₀ L h news) : Fr h₀ L h' m ∧ News h₀ L h' news := by
  have k : ∀ b o, h.get? b = some o → h'.get? b = some o := fun b o e => K b o (by simp) e
  exact ⟨⟨F.ns.at' fun o e => k _ o e, fun b o e => k b o (F.keep b o e), F.above⟩, fun p hp => ⟨k _ _ (N p hp).1, (N p hp).2⟩⟩
theorem news_new {h₀ h h' : Heap} {L d : Addr} {o : Obj} {m : Str → Option Value} {news : List (Addr × Obj)} (K : Keeps [] h h') (F : Fr h₀ L h m) (N : News h₀ L h news) (hd : h.get? d = none) (ho : h'.get? d = some o) :
    Fr h₀ L h' m ∧ News h₀ L h' ((d, o) :: news) ∧ ∀ p ∈ news, p.1 ≠ d := by
  obtain ⟨F', N'⟩ := keep_news K F N
  refine ⟨F', fun p hp => ?_, fun p hp q => ?_⟩
  · rcases List.mem_cons.mp hp with rfl | hp
    · refine ⟨ho, fun q => ?_, ?_⟩
      · obtain ⟨oL, _, _, e, _⟩ := F.ns
        rw [← q, hd] at e; cases e
      · cases q : h₀.get? d with
        | none => rfl
        | some o' => have := F.keep _ _ q; rw [hd] at this; cases this
    · exact N' p hp
  · have := (N p hp).1
    rw [q, hd] at this; cases this

section
variable {w : World} {mean : ExcName → Option Value} {mg mb : Str → Option Value} {dp un : Nat} {gd : Option (List Code)} {cn : Str} {cs : Scope} {ca : Addr} {ccd : Value} {cl : List (Str × Addr)}
    {outer : List Env} {A₀ : Around} {base h₀ : Heap} {L : Addr} {m : Str → Option Value} {s : Shared} {Q : Value → Shared → Prop} {E : Value → Shared → Prop}
    {r : Addr} {vs : List Value} {ns : List Int} {n : Nat} {news : List (Addr × Obj)} {g : Obj → List (Addr × Obj)}
theorem shapes_N (B : Below A₀ base outer h₀) (F : Fr h₀ L s.heap m) (X : (Kf w).In h₀) (T : TopM mean mg mb h₀) (hk : cs.kind = .function) (hdp : dp < 890) (hun : un < 980) (N : News h₀ L s.heap news)
    (ret : ∀ h' tk d od, Fr h₀ L h' m → News h₀ L h' ((d, od) :: news) → (∀ p ∈ news, p.1 ≠ d) → Shapes w od → Q (.ref d) { s with heap := h', toks := tk }) :
    wpAny (model Pg w) (ktrTop dp un gd cn cs L ca ccd cl outer) (call (.ref 54) []) Q E s :=
  shapes_call B F X T hk hdp hun fun h' tk d od K hd ho hs _ => let ⟨F', N', ne⟩ := news_new K F N hd ho; ret h' tk d od F' N' ne hs
theorem targets_N (B : Below A₀ base outer h₀) (F : Fr h₀ L s.heap m) (X : (Kf w).In h₀) (T : TopM mean mg mb h₀) (hk : cs.kind = .function) (hdp : dp < 890) (hun : un < 980) (N : News h₀ L s.heap news) {v : Value} {I : Ins} {K : Str} (hI : InsAt w s.heap v I) (hK : K = kindsOf I.name) {tkk : Tok}
    (ret : ∀ h' tk l vs n, Fr h₀ L h' m → News h₀ L h' ((l, listOf vs.toArray n) :: news) → (∀ p ∈ news, p.1 ≠ l) → IntsAre vs I.tgts → Q (.ref l) { s with heap := h', toks := tk }) :
    wpAny (model Pg w) (ktrTop dp un gd cn cs L ca ccd cl outer) (call (.ref 61) [v, .str K tkk]) Q E s := by
  subst hK
  exact targets_call B F X T hk hdp hun hI fun h' tk l vs n K hd ho hs => let ⟨F', N', ne⟩ := news_new K F N hd ho; ret h' tk l vs n F' N' ne hs
theorem goes_N (B : Below A₀ base outer h₀) (F : Fr h₀ L s.heap m) (X : (Kf w).In h₀) (T : TopM mean mg mb h₀) (hk : cs.kind = .function) (hdp : dp < 890) (hun : un < 980) (N : News h₀ L s.heap news) {v : Value} {I : Ins} (hI : InsAt w s.heap v I)
    (ret : ∀ h' tk, Fr h₀ L h' m → News h₀ L h' news → Q (.bool I.falls) { s with heap := h', toks := tk }) :
    wpAny (model Pg w) (ktrTop dp un gd cn cs L ca ccd cl outer) (call (.ref 68) [v]) Q E s :=
  goes_call B F X T hk hdp hun hI fun h' tk K => let ⟨F', N'⟩ := keep_news K F N; ret h' tk F' N'
theorem falls_N (B : Below A₀ base outer h₀) (F : Fr h₀ L s.heap m) (X : (Kf w).In h₀) (T : TopM mean mg mb h₀) (hk : cs.kind = .function) (hdp : dp < 890) (hun : un < 980) (N : News h₀ L s.heap news) {v : Value} {I : Ins} (hI : InsAt w s.heap v I)
    (ret : ∀ h' tk, Fr h₀ L h' m → News h₀ L h' news → Q (.bool I.falls) { s with heap := h', toks := tk }) :
    wpAny (model Pg w) (ktrTop dp un gd cn cs L ca ccd cl outer) (call (.ref 115) [v]) Q E s :=
  falls_call B F X T hk hdp hun hI fun h' tk K => let ⟨F', N'⟩ := keep_news K F N; ret h' tk F' N'
theorem named_N (B : Below A₀ base outer h₀) (F : Fr h₀ L s.heap m) (X : (Kf w).In h₀) (T : TopM mean mg mb h₀) (hk : cs.kind = .function) (hdp : dp < 890) (hun : un < 980) (N : News h₀ L s.heap news) {v : Value} {I : Ins} (hI : InsAt w s.heap v I)
    (ret : ∀ h' tk l vs n, Fr h₀ L h' m → News h₀ L h' ((l, listOf vs.toArray n) :: news) → (∀ p ∈ news, p.1 ≠ l) → IntsAre vs I.tgts → Q (.ref l) { s with heap := h', toks := tk }) :
    wpAny (model Pg w) (ktrTop dp un gd cn cs L ca ccd cl outer) (call (.ref 120) [v]) Q E s :=
  named_call B F X T hk hdp hun hI fun h' tk l vs n K hd ho hs => let ⟨F', N', ne⟩ := news_new K F N hd ho; ret h' tk l vs n F' N' ne hs
end
end
section
theorem words_w47 : True := by
  w_top off
  k_with_none
  (k_with "eval Dict nil nil" => (k_here; k_dflt (refine' newDict_K ?k1 ?k2 (TopRead.nolimit (by k_asm)) ?_; (case k1 => k_asm); (case k2 => k_asm); k_whole); intro dd h' od F' N' dl dlo dhs dfs dhi dfi; (try k_lt dl); (try k_sweep)))
  (k_with "call ref" => (k_here; (with_reducible show wpAny _ _ (call (Value.ref 89) _) _ _ _); k_dflt (refine' next_N ?B ?F ?X ?T ?hk ?hd ?hu ?N ?U ?hi ?hl ?_; (case B => k_asm); (case F => k_asm); (case X => k_asm); (case T => k_asm); (case hk => first | rfl | assumption); (case N => k_asm); (case U => k_updF); (case hi => with_reducible assumption); (case hl => omega); (case hd => k_room); (case hu => k_units); k_whole); intro h' tk' vs' ns' i' t' n' F' N' hI' hL'; (try dsimp only at N'); (try k_sweep)))
  (k_with "call ref" => (k_here; (with_reducible show wpAny _ _ (call (Value.ref 96) _) _ _ _); k_dflt (refine' address_N ?B ?F ?X ?T ?hk ?hd ?hu ?N ?U ?hi ?hl ?b0 ?b1 ?_; (case B => k_asm); (case F => k_asm); (case X => k_asm); (case T => k_asm); (case hk => first | rfl | assumption); (case N => k_asm); (case U => k_updF); (case hi => with_reducible assumption); (case hl => omega); (case b0 => omega); (case b1 => omega); (case hd => k_room); (case hu => k_units); k_whole); intro h' tk' vs' ns' i' t' n' F' N' hI' hL' hb0' hb1'; (try dsimp only at N'); (try k_sweep)))
  (k_with "call ref" => (k_here; (with_reducible show wpAny _ _ (call (Value.ref 82) _) _ _ _); k_dflt (refine' row_N ?B ?F ?X ?T ?hk ?hd ?hu ?N ?l ?hi ?hl ?_; (case B => k_asm); (case F => k_asm); (case X => k_asm); (case T => k_asm); (case hk => first | rfl | assumption); (case N => k_asm); (case l => with_reducible assumption); (case hi => with_reducible assumption); (case hl => omega); (case hd => k_room); (case hu => k_units); k_whole); intro h' tk' row vs' ns' n' F' N' rne hI' hL'; (try dsimp only at N'); (try k_sweep)))
  (k_with "call ref" => (k_here; (with_reducible show wpAny _ _ (call (Value.ref 103) _) _ _ _); refine Stop.out ?_))
  trivial
/-! the closure: what an instruction names and where it goes on -/
noncomputable def succs (I : Ins) (a : Int) : List Int := I.tgts ++ (if I.falls = true then [a + 1] else [])
noncomputable def At (code : List Ins) (b a : Int) (I : Ins) : Prop := b ≤ a ∧ code[(a - b).toNat]? = some I
inductive Reach (code : List Ins) (b en : Int) : Int → Prop
  | entry : Reach code b en en
  | step {a t : Int} {I : Ins} : Reach code b en a → At code b a I → t ∈ succs I a → Reach code b en t
theorem At.lt {code : List Ins} {b a : Int} {I : Ins} (h : At code b a I) : a < b + code.length := by
  have h2 := h.2
  have : (a - b).toNat < code.length := by
    rcases Nat.lt_or_ge (a - b).toNat code.length with q | q
    · exact q
    · rw [List.getElem?_eq_none q] at h2; cases h2
  have := h.1
  omega
theorem at_of {code : List Ins} {b a : Int} (h : b ≤ a) (h' : a < b + code.length) : ∃ I, At code b a I :=
  ⟨code[(a - b).toNat]'(by omega), h, by simp⟩
theorem At.one {code : List Ins} {b a : Int} {I I' : Ins} (h : At code b a I) (h' : At code b a I') : I = I' := Option.some.inj (h.2.symm.trans h'.2)

/-- how many of the code are not seen yet -/
noncomputable def unseen (n : Nat) (b : Int) (seen : List Int) : Nat := ((List.range n).filter fun i : Nat => !seen.contains (b + (i : Int))).length
theorem filter_lt {α : Type} {p q : α → Bool} (hpq : ∀ y, q y = true → p y = true) : ∀ {l : List α} {x : α}, x ∈ l → p x = true → q x = false → (l.filter q).length + 1 ≤ (l.filter p).length
  | y :: l, x, hx, hp, hq => by
    have le : ∀ l : List α, (l.filter q).length ≤ (l.filter p).length := fun l => by
      induction l with
      | nil => exact Nat.le_refl _
      | cons z l ih =>
        rw [List.filter_cons, List.filter_cons]
        cases hz : q z with
        | true => rw [hpq z hz]; simp; exact ih
        | false =>
          cases p z with
          | true => simp; omega
          | false => simpa using ih
    rw [List.filter_cons, List.filter_cons]
    rcases List.mem_cons.mp hx with rfl | hx
    · rw [hp, hq]
      have := le l
      simp; omega
    · have ih := filter_lt hpq hx hp hq
      cases hz : q y with
      | true => rw [hpq y hz]; simp; omega
      | false =>
        cases p y with
        | true => simp; omega
        | false => simpa using ih
theorem unseen_lt {n : Nat} {b a : Int} {seen : List Int} (h0 : b ≤ a) (h1 : a < b + n) (hn : a ∉ seen) : unseen n b (seen ++ [a]) + 1 ≤ unseen n b seen := by
  unfold unseen
  refine filter_lt (fun y hy => ?_) (x := (a - b).toNat) (List.mem_range.mpr (by omega)) ?_ ?_
  · simp only [Bool.not_eq_true', List.contains_eq_mem, List.mem_append, List.mem_singleton, decide_eq_false_iff_not, not_or] at hy ⊢
    exact hy.1
  · rw [show b + ((a - b).toNat : Int) = a by omega]; simpa using hn
  · rw [show b + ((a - b).toNat : Int) = a by omega]; simp

/-- what holds at each turn of the search -/
structure Inv (code : List Ins) (b en : Int) (seen pend : List Int) : Prop where
  reach : ∀ a, a ∈ seen ∨ a ∈ pend → Reach code b en a
  inr : ∀ a ∈ seen, ∃ I, At code b a I
  nodup : seen.Nodup
  entry : en ∈ seen ∨ en ∈ pend ∨ ∀ I, ¬ At code b en I
  closed : ∀ a ∈ seen, ∀ I, At code b a I → ∀ t ∈ succs I a, t ∈ seen ∨ t ∈ pend ∨ ∀ I', ¬ At code b t I'
  goes : ∀ a ∈ seen, ∀ I, At code b a I → I.falls = true → a + 1 ≠ b + code.length
  many : seen.length + unseen code.length b seen ≤ code.length
  room : pend.length + 200 * unseen code.length b seen ≤ 1 + 200 * code.length

theorem Inv.start {code : List Ins} {b en : Int} : Inv code b en [] [en] where
  reach := fun a h => by
    rcases h with h | h
    · cases h
    · rw [List.mem_singleton.mp h]; exact .entry
  inr := fun _ h => nomatch h
  nodup := List.nodup_nil
  entry := .inr (.inl (.head _))
  closed := fun _ h => nomatch h
  goes := fun _ h => nomatch h
  many := by
    unfold unseen
    have := List.length_filter_le (fun i : Nat => !([] : List Int).contains (b + (i : Int))) (List.range code.length)
    rw [List.length_range] at this; simp only [List.length_nil]; omega
  room := by
    have := List.length_filter_le (fun i : Nat => !([] : List Int).contains (b + (i : Int))) (List.range code.length)
    rw [List.length_range] at this
    show 1 + 200 * _ ≤ _
    unfold unseen; omega

theorem Inv.drop {code : List Ins} {b en a : Int} {seen pend : List Int} (v : Inv code b en seen (pend ++ [a])) (h : a < b ∨ b + code.length ≤ a ∨ a ∈ seen) : Inv code b en seen pend := by
  have key : ∀ t : Int, t ∈ seen ∨ t ∈ pend ++ [a] ∨ (∀ I, ¬ At code b t I) → t ∈ seen ∨ t ∈ pend ∨ ∀ I, ¬ At code b t I := by
    intro t ht
    rcases ht with ht | ht | ht
    · exact .inl ht
    · rcases List.mem_append.mp ht with ht | ht
      · exact .inr (.inl ht)
      · rw [List.mem_singleton] at ht
        subst ht
        rcases h with h | h | h
        · exact .inr (.inr fun I q => by have := q.1; omega)
        · exact .inr (.inr fun I q => by have := q.lt; omega)
        · exact .inl h
    · exact .inr (.inr ht)
  exact ⟨fun t ht => v.reach t (ht.imp id fun q => List.mem_append_left _ q), v.inr, v.nodup, key _ v.entry, fun x hx I hA t ht => key t (v.closed x hx I hA t ht), v.goes, v.many, by have := v.room; rw [List.length_append] at this; simp at this; omega⟩

theorem Inv.visit {code : List Ins} {b en a : Int} {seen pend : List Int} {I : Ins} (v : Inv code b en seen (pend ++ [a])) (hA : At code b a I) (hns : a ∉ seen) (hlen : I.tgts.length ≤ 101) (hg : I.falls = true → a + 1 ≠ b + code.length) :
    Inv code b en (seen ++ [a]) (pend ++ succs I a) := by
  have hu := unseen_lt (n := code.length) hA.1 hA.lt hns
  have hR : Reach code b en a := v.reach a (.inr (List.mem_append_right _ (.head _)))
  have key : ∀ t : Int, t ∈ seen ∨ t ∈ pend ++ [a] ∨ (∀ I, ¬ At code b t I) → t ∈ seen ++ [a] ∨ t ∈ pend ++ succs I a ∨ ∀ I, ¬ At code b t I := by
    intro t ht
    rcases ht with ht | ht | ht
    · exact .inl (List.mem_append_left _ ht)
    · rcases List.mem_append.mp ht with ht | ht
      · exact .inr (.inl (List.mem_append_left _ ht))
      · exact .inl (List.mem_append_right _ ht)
    · exact .inr (.inr ht)
  refine ⟨fun t ht => ?_, fun t ht => ?_, ?_, key _ v.entry, fun x hx I' hA' t ht => ?_, fun x hx I' hA' hf => ?_, ?_, ?_⟩
  · rcases ht with ht | ht
    · rcases List.mem_append.mp ht with ht | ht
      · exact v.reach t (.inl ht)
      · rw [List.mem_singleton.mp ht]; exact hR
    · rcases List.mem_append.mp ht with ht | ht
      · exact v.reach t (.inr (List.mem_append_left _ ht))
      · exact .step hR hA ht
  · rcases List.mem_append.mp ht with ht | ht
    · exact v.inr t ht
    · rw [List.mem_singleton.mp ht]; exact ⟨I, hA⟩
  · rw [List.nodup_append]
    refine ⟨v.nodup, by simp, fun x hx y hy => ?_⟩
    rw [List.mem_singleton.mp hy]
    rintro rfl
    exact hns hx
  · rcases List.mem_append.mp hx with hx | hx
    · exact key t (v.closed x hx I' hA' t ht)
    · rw [List.mem_singleton] at hx
      subst hx
      obtain rfl := hA.one hA'
      exact .inr (.inl (List.mem_append_right _ ht))
  · rcases List.mem_append.mp hx with hx | hx
    · exact v.goes x hx I' hA' hf
    · rw [List.mem_singleton] at hx
      subst hx
      obtain rfl := hA.one hA'
      exact hg hf
  · have := v.many
    rw [List.length_append]; simp; omega
  · have := v.room
    rw [List.length_append] at this ⊢
    have hs : (succs I a).length ≤ 102 := by
      unfold succs
      rw [List.length_append]
      split <;> simp <;> omega
    simp at this; omega

/-- what the search answers: the closure, without a repeat -/
structure Closed (code : List Ins) (b en : Int) (seen : List Int) : Prop where
  reach : ∀ a ∈ seen, Reach code b en a
  inr : ∀ a ∈ seen, ∃ I, At code b a I
  nodup : seen.Nodup
  entry : en ∈ seen ∨ ∀ I, ¬ At code b en I
  closed : ∀ a ∈ seen, ∀ I, At code b a I → ∀ t ∈ succs I a, t ∈ seen ∨ ∀ I', ¬ At code b t I'
  goes : ∀ a ∈ seen, ∀ I, At code b a I → I.falls = true → a + 1 ≠ b + code.length
theorem Inv.done {code : List Ins} {b en : Int} {seen : List Int} (v : Inv code b en seen []) : Closed code b en seen :=
  ⟨fun a h => v.reach a (.inl h), v.inr, v.nodup, v.entry.imp id fun q => q.elim (fun z => nomatch z) id, fun a h I hA t ht => (v.closed a h I hA t ht).imp id fun q => q.elim (fun z => nomatch z) id, v.goes⟩

theorem InsAt.tgts_len {w : World} {h : Heap} {v : Value} {I : Ins} (x : InsAt w h v I) : I.tgts.length ≤ 101 := by
  cases I with
  | sw nm xs a =>
    obtain ⟨_, t, d, u, _, hd⟩ := x
    have := hd.2.1
    simp only [Ins.tgts, List.length_append, List.length_singleton]; omega
  | _ => simp [Ins.tgts]

/-! reading a list of the base; the names' table; the seen -/
section
variable {prog : Program} {w : World} {A : Around} {E : Value → Shared → Prop} {s : Shared} {h₀ : Heap} {L l d : Addr} {m : Str → Option Value} {vs : List Value} {news : List (Addr × Obj)} {Q : Value → Shared → Prop} {od : Obj}
theorem base_len (F : Fr h₀ L s.heap m) (hl : h₀.IsList l vs.toArray) {n : Nat} (hn : vs.length = n) (hz : n ≤ 1000) (h : ∀ t tk, Q (.int (n : Int) t) { s with toks := tk }) : wpAny (model prog w) A (call (.builtin "len") [.ref l]) Q E s := by
  subst hn
  refine len_list (Heap.IsList.at hl fun o e => F.keep l o e) ?_ ?_
  · have : vs.toArray.size = vs.length := by simp
    rw [this]; omega
  · have : vs.toArray.size = vs.length := by simp
    rw [this]; exact h _ _
theorem base_item {value slice : PySem.Expr} {k : Int} {u : Tok} {v : Value} (F : Fr h₀ L s.heap m) (hl : h₀.IsList l vs.toArray) (hz : vs.length ≤ 1000) (h0 : 0 ≤ k) (hv : vs[k.toNat]? = some v) (h : Q v s)
    (hs : subscripted slice false (.ref l) (.int k u) = operate [.ref l, .int k u] (getItem (.ref l) (.int k u)) := by with_unfolding_all rfl) (hg : ∀ r, letTemporaryGo value (.ref l) r = pure () := by intro _; with_unfolding_all rfl) :
    wpAny (model prog w) A (subscriptTail value slice (.ref l) (.int k u)) Q E s := by
  have hlt : k.toNat < vs.length := by
    rcases Nat.lt_or_ge k.toNat vs.length with q | q
    · exact q
    · rw [List.getElem?_eq_none q] at hv; cases hv
  exact item_list (Heap.IsList.at hl fun o e => F.keep l o e) h0 (by omega) (by simpa using hv) h hs hg
theorem shape_item {value slice : PySem.Expr} {nm : Str} {u : Tok} (N : News h₀ L s.heap news) (hp : (d, od) ∈ news) (S : Shapes w od) (hn : nm ∈ allNames) (h : ∀ t tk, Q (.str (kindsOf nm) t) { s with toks := tk })
    (hs : subscripted slice false (.ref d) (.str nm u) = operate [.ref d, .str nm u] (getItem (.ref d) (.str nm u)) := by with_unfolding_all rfl) (hg : ∀ r, letTemporaryGo value (.ref d) r = pure () := by intro _; with_unfolding_all rfl) :
    wpAny (model Pg w) A (subscriptTail value slice (.ref d) (.str nm u)) Q E s := by
  obtain ⟨kvs, hd, hv⟩ := S
  obtain ⟨t, ht⟩ := hv nm hn
  exact kda_item N hp hd (str_is nm u) ht (h _ _) hs hg
theorem seen_in {kvs : List (Int × Value)} {k : Int} {u : Tok} (N : News h₀ L s.heap news) (hp : (d, od) ∈ news) (hd : od.IsDictOf (PySem.intKind prog w) kvs) (lo : (d == sysModules) = false) (h : Q (.bool ((kvs.map (·.1)).contains k)) { s with toks := s.toks + 1 }) :
    wpAny (model prog w) A (compareOp .In (.int k u) (.ref d)) Q E s := by
  refine kda_in N hp hd lo (intKind_is _ _ k u) _ ?_ h
  unfold valueAt
  rw [Option.isSome_map, List.contains_eq_mem]
  cases q : kvs.find? fun kv => decide (kv.1 = k) with
  | none =>
    have := List.find?_eq_none.mp q
    symm
    simp only [Option.isSome_none, decide_eq_false_iff_not]
    rintro hm
    obtain ⟨x, hx, e⟩ := List.mem_map.mp hm
    exact this x hx (decide_eq_true e)
  | some x =>
    symm
    simp only [Option.isSome_some, decide_eq_true_eq]
    exact List.mem_map.mpr ⟨x, List.mem_of_find?_eq_some q, of_decide_eq_true (List.find?_some (p := fun kv : Int × Value => decide (kv.1 = k)) q)⟩
end
end
section
theorem words_w48 : True := by
  w_top off
  k_with_none
  (k_with "eval Dict nil nil" => (k_here; k_dflt (refine' newDict_K ?k1 ?k2 (TopRead.nolimit (by k_asm)) ?_; (case k1 => k_asm); (case k2 => k_asm); k_whole); intro dd h' od F' N' dl dlo dhs dfs dhi dfi; (try k_lt dl); (try k_sweep)))
  (k_with "call ref" => (k_here; (with_reducible show wpAny _ _ (call (Value.ref 89) _) _ _ _); k_dflt (refine' next_N ?B ?F ?X ?T ?hk ?hd ?hu ?N ?U ?hi ?hl ?_; (case B => k_asm); (case F => k_asm); (case X => k_asm); (case T => k_asm); (case hk => first | rfl | assumption); (case N => k_asm); (case U => k_updF); (case hi => with_reducible assumption); (case hl => omega); (case hd => k_room); (case hu => k_units); k_whole); intro h' tk' vs' ns' i' t' n' F' N' hI' hL'; (try dsimp only at N'); (try k_sweep)))
  (k_with "call ref" => (k_here; (with_reducible show wpAny _ _ (call (Value.ref 96) _) _ _ _); k_dflt (refine' address_N ?B ?F ?X ?T ?hk ?hd ?hu ?N ?U ?hi ?hl ?b0 ?b1 ?_; (case B => k_asm); (case F => k_asm); (case X => k_asm); (case T => k_asm); (case hk => first | rfl | assumption); (case N => k_asm); (case U => k_updF); (case hi => with_reducible assumption); (case hl => omega); (case b0 => omega); (case b1 => omega); (case hd => k_room); (case hu => k_units); k_whole); intro h' tk' vs' ns' i' t' n' F' N' hI' hL' hb0' hb1'; (try dsimp only at N'); (try k_sweep)))
  (k_with "call ref" => (k_here; (with_reducible show wpAny _ _ (call (Value.ref 82) _) _ _ _); k_dflt (refine' row_N ?B ?F ?X ?T ?hk ?hd ?hu ?N ?l ?hi ?hl ?_; (case B => k_asm); (case F => k_asm); (case X => k_asm); (case T => k_asm); (case hk => first | rfl | assumption); (case N => k_asm); (case l => with_reducible assumption); (case hi => with_reducible assumption); (case hl => omega); (case hd => k_room); (case hu => k_units); k_whole); intro h' tk' row vs' ns' n' F' N' rne hI' hL'; (try dsimp only at N'); (try k_sweep)))
  (k_with "call ref" => (k_here; (with_reducible show wpAny _ _ (call (Value.ref 103) _) _ _ _); refine Stop.out ?_))
  trivial
theorem ints_of_at : ∀ {vs : List Value} {ns : List Int}, vs.length = ns.length → (∀ (j : Nat) u, vs[j]? = some u → ∃ k t, ns[j]? = some k ∧ u = .int k t) → IntsAre vs ns
  | [], [], _, _ => .nil
  | [], _ :: _, h, _ => by cases h
  | _ :: _, [], h, _ => by cases h
  | v :: vs, n :: ns, h, g => by
    obtain ⟨k, t, e, rfl⟩ := g 0 v rfl
    rw [List.getElem?_cons_zero] at e
    cases e
    exact .cons _ t (ints_of_at (by simpa using h) fun j u hu => by
      have := g (j + 1) u (by rw [List.getElem?_cons_succ]; exact hu)
      rw [List.getElem?_cons_succ] at this
      exact this)

section
variable {prog : Program} {w : World} {A : Around} {E : Value → Shared → Prop} {s : Shared} {h₀ : Heap} {L d : Addr} {m : Str → Option Value} {news : List (Addr × Obj)} {Q : Value → Shared → Prop} {od : Obj}
/-- sorted of the seen -/
theorem sorted_seen {kvs : List (Int × Value)} (hh : A.handled = none) (F : Fr h₀ L s.heap m) (N : News h₀ L s.heap news) (hp : (d, od) ∈ news) (hd : od.IsDictOf (PySem.intKind prog w) kvs) (lo : (d == sysModules) = false) (hz : kvs.length < 64)
    (h : ∀ D c h' tk vs' ns', Fr h₀ L h' m → News h₀ L h' ((D, listOf vs'.toArray c) :: news) → IntsAre vs' ns' → ns'.Perm (kvs.map (·.1)) → ns'.Pairwise (· ≤ ·) → Q (.ref D) { s with heap := h', toks := tk }) :
    wpAny (model prog w) A (call (.builtin "sorted") [.ref d]) Q E s := by
  obtain ⟨ep, hat⟩ := (kda_dict N hp hd).dictAt
  refine kdu_sorted (kdl_dict (knd := PySem.intKind prog w) (kvs := kvs) (ep := ep) lo) hh F N hat (by rw [PySem.sizeLine_eq]; omega) fun B h₁ tk vs F₁ N₁ l1 hl hv => ?_
  have hI : IntsAre vs (kvs.map (·.1)) := ints_of_at (by rw [List.length_map]; exact hl) fun j u hu => by
    obtain ⟨k, x, hx, hk⟩ := hv j u hu
    obtain ⟨t, e⟩ := Value.isInt_shape hk
    exact ⟨k, t, by rw [List.getElem?_map, hx]; rfl, e⟩
  have hB := N₁ _ (.head _)
  refine wpAny_call_entry PyProof.Rows.slot_list_sort ⟨_, hB.1, rfl⟩ PyProof.Rows.entry_list_sort (list_sort_tree (n := 0) (vs := vs) hB.1 hI (by rw [hl]; exact hz) fun out ns' hI' hp' hP => ⟨.none, rfl, ?_⟩) (PyProof.Rows.args_list_sort _)
  obtain ⟨c, hc⟩ := sortedHeap_at (vs := vs) (out := out) hB.1
  have K : Keeps [B] h₁ (sortedHeap h₁ B vs out) := fun b o hb e => (sortedHeap_old (fun q => hb (by rw [q]; exact .head _)) (Heap.lt_size e)).trans e
  have hBL : L ≠ B := fun q => hB.2.1 q.symm
  refine h B c _ tk out.toList ns' (K.fr F₁ (fun q => hBL (List.mem_singleton.mp q)) fun a ha => by rw [List.mem_singleton.mp ha]; exact hB.2.2) (fun p hp2 => ?_) hI' hp' hP
  rcases List.mem_cons.mp hp2 with rfl | hp2
  · exact ⟨by rw [Array.toArray_toList]; exact hc, hB.2⟩
  · have P := N₁ p (.tail _ hp2)
    exact ⟨K _ _ (fun q => absurd (List.mem_singleton.mp q) (Nat.ne_of_lt (l1 p hp2))) P.1, P.2⟩
end
end
section
theorem words_w52 : True := by
  w_top off
  k_with_none
  (k_with "eval Dict nil nil" => (k_here; k_dflt (refine' newDict_K ?k1 ?k2 (TopRead.nolimit (by k_asm)) ?_; (case k1 => k_asm); (case k2 => k_asm); k_whole); intro dd h' od F' N' dl dlo dhs dfs dhi dfi; (try k_lt dl); (try k_sweep)))
  (k_with "call ref" => (k_here; (with_reducible show wpAny _ _ (call (Value.ref 89) _) _ _ _); k_dflt (refine' next_N ?B ?F ?X ?T ?hk ?hd ?hu ?N ?U ?hi ?hl ?_; (case B => k_asm); (case F => k_asm); (case X => k_asm); (case T => k_asm); (case hk => first | rfl | assumption); (case N => k_asm); (case U => k_updF); (case hi => with_reducible assumption); (case hl => omega); (case hd => k_room); (case hu => k_units); k_whole); intro h' tk' vs' ns' i' t' n' F' N' hI' hL'; (try dsimp only at N'); (try k_sweep)))
  (k_with "call ref" => (k_here; (with_reducible show wpAny _ _ (call (Value.ref 96) _) _ _ _); k_dflt (refine' address_N ?B ?F ?X ?T ?hk ?hd ?hu ?N ?U ?hi ?hl ?b0 ?b1 ?_; (case B => k_asm); (case F => k_asm); (case X => k_asm); (case T => k_asm); (case hk => first | rfl | assumption); (case N => k_asm); (case U => k_updF); (case hi => with_reducible assumption); (case hl => omega); (case b0 => omega); (case b1 => omega); (case hd => k_room); (case hu => k_units); k_whole); intro h' tk' vs' ns' i' t' n' F' N' hI' hL' hb0' hb1'; (try dsimp only at N'); (try k_sweep)))
  (k_with "call ref" => (k_here; (with_reducible show wpAny _ _ (call (Value.ref 82) _) _ _ _); k_dflt (refine' row_N ?B ?F ?X ?T ?hk ?hd ?hu ?N ?l ?hi ?hl ?_; (case B => k_asm); (case F => k_asm); (case X => k_asm); (case T => k_asm); (case hk => first | rfl | assumption); (case N => k_asm); (case l => with_reducible assumption); (case hi => with_reducible assumption); (case hl => omega); (case hd => k_room); (case hu => k_units); k_whole); intro h' tk' row vs' ns' n' F' N' rne hI' hL'; (try dsimp only at N'); (try k_sweep)))
  (k_with "call ref" => (k_here; (with_reducible show wpAny _ _ (call (Value.ref 103) _) _ _ _); refine Stop.out ?_))
  trivial
section
theorem words_w49 : True := by
  w_top off
  k_with_none
  (k_with "eval Dict nil nil" => (k_here; k_dflt (refine' newDict_K ?k1 ?k2 (TopRead.nolimit (by k_asm)) ?_; (case k1 => k_asm); (case k2 => k_asm); k_whole); intro dd h' od F' N' dl dlo dhs dfs dhi dfi; (try k_lt dl); (try k_sweep)))
  (k_with "call ref" => (k_here; (with_reducible show wpAny _ _ (call (Value.ref 89) _) _ _ _); k_dflt (refine' next_N ?B ?F ?X ?T ?hk ?hd ?hu ?N ?U ?hi ?hl ?_; (case B => k_asm); (case F => k_asm); (case X => k_asm); (case T => k_asm); (case hk => first | rfl | assumption); (case N => k_asm); (case U => k_updF); (case hi => with_reducible assumption); (case hl => omega); (case hd => k_room); (case hu => k_units); k_whole); intro h' tk' vs' ns' i' t' n' F' N' hI' hL'; (try dsimp only at N'); (try k_sweep)))
  (k_with "call ref" => (k_here; (with_reducible show wpAny _ _ (call (Value.ref 96) _) _ _ _); k_dflt (refine' address_N ?B ?F ?X ?T ?hk ?hd ?hu ?N ?U ?hi ?hl ?b0 ?b1 ?_; (case B => k_asm); (case F => k_asm); (case X => k_asm); (case T => k_asm); (case hk => first | rfl | assumption); (case N => k_asm); (case U => k_updF); (case hi => with_reducible assumption); (case hl => omega); (case b0 => omega); (case b1 => omega); (case hd => k_room); (case hu => k_units); k_whole); intro h' tk' vs' ns' i' t' n' F' N' hI' hL' hb0' hb1'; (try dsimp only at N'); (try k_sweep)))
  (k_with "call ref" => (k_here; (with_reducible show wpAny _ _ (call (Value.ref 82) _) _ _ _); k_dflt (refine' row_N ?B ?F ?X ?T ?hk ?hd ?hu ?N ?l ?hi ?hl ?_; (case B => k_asm); (case F => k_asm); (case X => k_asm); (case T => k_asm); (case hk => first | rfl | assumption); (case N => k_asm); (case l => with_reducible assumption); (case hi => with_reducible assumption); (case hl => omega); (case hd => k_room); (case hu => k_units); k_whole); intro h' tk' row vs' ns' n' F' N' rne hI' hL'; (try dsimp only at N'); (try k_sweep)))
  (k_with "call ref" => (k_here; (with_reducible show wpAny _ _ (call (Value.ref 103) _) _ _ _); refine Stop.out ?_))
  (k_with "exec For Name Name cons nil" => walk_at "m for")
  (k_with "exec For Name Subscript cons nil" => walk_at "m for")
  (k_with "exec For Name Call cons nil" => walk_at "m for")
  (k_with "exec For Name BinOp cons nil" => walk_at "m for")
  (k_with "pyIter ref" => refine Stop.out ?_)
  (k_with "newList" => (k_here; k_dflt (refine' newList_K ?k1 ?k2 ?_; (case k1 => k_asm); (case k2 => k_asm); k_whole); intro nl h' F' N' nll; (try k_lt nll); (try k_sweep)))
  trivial
theorem news_len {prog : Program} {w : World} {A : Around} {E : Value → Shared → Prop} {s : Shared} {h₀ : Heap} {L l : Addr} {vs : List Value} {n : Nat} {news : List (Addr × Obj)} {Q : Value → Shared → Prop} (N : News h₀ L s.heap news) (hp : (l, listOf vs.toArray n) ∈ news) (hz : vs.length ≤ 100000) (h : ∀ t tk, Q (.int (vs.length : Int) t) { s with toks := tk }) :
    wpAny (model prog w) A (call (.builtin "len") [.ref l]) Q E s := by
  have e : vs.toArray.size = vs.length := by simp
  refine len_list ⟨_, (N _ hp).1, rfl, n, rfl⟩ (by rw [e]; omega) ?_
  rw [e]; exact h _ _
theorem words_w50 : True := by
  w_top off
  k_with_none
  (k_with "eval Dict nil nil" => (k_here; k_dflt (refine' newDict_K ?k1 ?k2 (TopRead.nolimit (by k_asm)) ?_; (case k1 => k_asm); (case k2 => k_asm); k_whole); intro dd h' od F' N' dl dlo dhs dfs dhi dfi; (try k_lt dl); (try k_sweep)))
  (k_with "call ref" => (k_here; (with_reducible show wpAny _ _ (call (Value.ref 89) _) _ _ _); k_dflt (refine' next_N ?B ?F ?X ?T ?hk ?hd ?hu ?N ?U ?hi ?hl ?_; (case B => k_asm); (case F => k_asm); (case X => k_asm); (case T => k_asm); (case hk => first | rfl | assumption); (case N => k_asm); (case U => k_updF); (case hi => with_reducible assumption); (case hl => omega); (case hd => k_room); (case hu => k_units); k_whole); intro h' tk' vs' ns' i' t' n' F' N' hI' hL'; (try dsimp only at N'); (try k_sweep)))
  (k_with "call ref" => (k_here; (with_reducible show wpAny _ _ (call (Value.ref 96) _) _ _ _); k_dflt (refine' address_N ?B ?F ?X ?T ?hk ?hd ?hu ?N ?U ?hi ?hl ?b0 ?b1 ?_; (case B => k_asm); (case F => k_asm); (case X => k_asm); (case T => k_asm); (case hk => first | rfl | assumption); (case N => k_asm); (case U => k_updF); (case hi => with_reducible assumption); (case hl => omega); (case b0 => omega); (case b1 => omega); (case hd => k_room); (case hu => k_units); k_whole); intro h' tk' vs' ns' i' t' n' F' N' hI' hL' hb0' hb1'; (try dsimp only at N'); (try k_sweep)))
  (k_with "call ref" => (k_here; (with_reducible show wpAny _ _ (call (Value.ref 82) _) _ _ _); k_dflt (refine' row_N ?B ?F ?X ?T ?hk ?hd ?hu ?N ?l ?hi ?hl ?_; (case B => k_asm); (case F => k_asm); (case X => k_asm); (case T => k_asm); (case hk => first | rfl | assumption); (case N => k_asm); (case l => with_reducible assumption); (case hi => with_reducible assumption); (case hl => omega); (case hd => k_room); (case hu => k_units); k_whole); intro h' tk' row vs' ns' n' F' N' rne hI' hL'; (try dsimp only at N'); (try k_sweep)))
  (k_with "call ref" => (k_here; (with_reducible show wpAny _ _ (call (Value.ref 103) _) _ _ _); refine Stop.out ?_))
  (k_with "exec For Name Name cons nil" => walk_at "m for")
  (k_with "exec For Name Subscript cons nil" => walk_at "m for")
  (k_with "exec For Name Call cons nil" => walk_at "m for")
  (k_with "exec For Name BinOp cons nil" => walk_at "m for")
  (k_with "pyIter ref" => refine Stop.out ?_)
  (k_with "newList" => (k_here; k_dflt (refine' newList_K ?k1 ?k2 ?_; (case k1 => k_asm); (case k2 => k_asm); k_whole); intro nl h' F' N' nll; (try k_lt nll); (try k_sweep)))
  (k_with "exec While Compare" => refine Stop.out ?_)
  (k_with "exec Raise some none" => refine Stop.out ?_)
  (k_with "call builtin:sorted" => refine Stop.out ?_)
  (k_with "subscriptTail Name BinOp ref int" => refine Stop.out ?_)
  (k_with "subscriptTail Name Subscript ref str" => refine Stop.out ?_)
  (k_with "subscriptTail Name Constant ref int" => (k_here; (with_reducible rename IsTup _ _ _ => hTup); k_dflt (refine' tup_item ?F hTup ?a ?b ?c ?_; (case F => k_asm); (case a => decide); (case b => decide); (case c => rfl); k_whole)))
  (k_with "compareOp In int ref" => refine Stop.out ?_)
  (k_with "setItem ref int" => (k_here; k_dflt (refine' kda_set (knd := PySem.intKind _ _) ?F ?N ?U ?d (intKind_is _ _ _ _) ?z ?_; (case F => k_asm); (case N => k_asm); (case U => k_updF); (case d => with_reducible assumption); (case z => rw [PySem.sizeLine_eq]; omega); k_whole); intro h' o2 F' N' hd2; (try dsimp only at N'); (try k_sweep)))
  (k_with "call ref" => (k_here; (with_reducible show wpAny _ _ (call (Value.ref 61) _) _ _ _); k_dflt (refine' targets_N ?B ?F ?X ?T ?hk ?hd ?hu ?N ?hI ?hK ?_; (case B => k_asm); (case F => k_asm); (case X => k_asm); (case T => k_asm); (case hk => first | rfl | assumption); (case N => k_asm); (case hI => exact InsAt.keeps (by with_reducible assumption) (Fr.keep (by k_asm))); (case hK => rfl); (case hd => k_room); (case hu => k_units); k_whole); intro h' tk' tl tvs tn F' N' tne hTs; (try k_sweep)))
  (k_with "call ref" => (k_here; (with_reducible show wpAny _ _ (call (Value.ref 68) _) _ _ _); k_dflt (refine' goes_N ?B ?F ?X ?T ?hk ?hd ?hu ?N ?hI ?_; (case B => k_asm); (case F => k_asm); (case X => k_asm); (case T => k_asm); (case hk => first | rfl | assumption); (case N => k_asm); (case hI => exact InsAt.keeps (by with_reducible assumption) (Fr.keep (by k_asm))); (case hd => k_room); (case hu => k_units); k_whole); intro h' tk' F' N'; (try k_sweep)))
  (k_with "call builtin:len" => (k_here; (with_reducible show wpAny _ _ (call (Value.builtin "len") [Value.ref _]) _ _ _); k_dflt (first | (refine' base_len ?F ?l ?n ?z ?_; (case F => k_asm); (case l => with_reducible assumption); (case n => with_reducible assumption); (case z => omega); k_whole) | (refine' news_len ?N ?p ?z ?_; (case N => k_asm); (case p => k_mem); (case z => omega); k_whole)); intro t' tk'))
  (k_with "call ref" => (k_here; (with_reducible show wpAny _ _ (call (Value.ref 54) _) _ _ _); k_dflt (refine' shapes_N ?B ?F ?X ?T ?hk ?hd ?hu ?N ?_; (case B => k_asm); (case F => k_asm); (case X => k_asm); (case T => k_asm); (case hk => first | rfl | assumption); (case N => k_asm); (case hd => k_room); (case hu => k_units); k_whole); intro h' tk' sd oS F' N' hne' hShapes; (try k_sweep)))
  trivial
variable {w : World} {mean : ExcName → Option Value} {mg mb : Str → Option Value} {dp un : Nat} {gd : Option (List Code)} {cn : Str} {cs : Scope} {ca : Addr} {ccd : Value} {cl : List (Str × Addr)}
    {outer : List Env} {A₀ : Around} {base h₀ : Heap} {L : Addr} {m : Str → Option Value} {s : Shared} {Q : Value → Shared → Prop} {E : Value → Shared → Prop}
    {r : Addr} {vs : List Value} {ns : List Int} {n : Nat} {news : List (Addr × Obj)} {g : Obj → List (Addr × Obj)}
set_option maxHeartbeats 8000000 in
theorem reachable_call (B : Below A₀ base outer h₀) (F : Fr h₀ L s.heap m) (X : (Kf w).In h₀) (T : TopM mean mg mb h₀) (hk : cs.kind = .function) (hdp : dp < 880) (hun : un < 970) {ra : Addr} {rn : Nat} {code : List Ins} {b en : Int} {tb te : Tok} (hR : s.heap.get? ra = some (listOf vs.toArray rn)) (hlen : vs.length = code.length) (h16 : code.length ≤ 16) (hpos : 1 ≤ code.length)
    (hI : ∀ (i : Nat) v I, vs[i]? = some v → code[i]? = some I → InsAt w s.heap v I) (hb0 : 0 ≤ b) (hb1 : b ≤ 100)
    (ret : ∀ h' tk l vs' n ns' seen, Keeps [] s.heap h' → s.heap.get? l = none → h'.get? l = some (listOf vs'.toArray n) → IntsAre vs' ns' → ns'.Perm seen → ns'.Pairwise (· ≤ ·) → Closed code b en seen → Q (.ref l) { s with heap := h', toks := tk })
    (exc : ∀ x I, Reach code b en x → At code b x I → I.falls = true → x + 1 = b + (code.length : Int) → ∀ h' tk e, RaisedN base (envX cn cs L ca ccd cl :: outer) e (.ref 45) [] h' → s.heap.UpToSlots h' → E (.ref e) { s with heap := h', toks := tk }) :
    wpAny (model Pg w) (ktrTop dp un gd cn cs L ca ccd cl outer) (call (.ref 75) [.ref ra, .int b tb, .int en te]) Q E s := by
  revert X T; dsimp only [Kf, Pg, TopM]; k_fill; intro X T
  refine' call_W [] News.nil B F X T hk ?ho ?hcd ?hr ?hb ?hl ?_ ?c2 ?c3 ?c4 ?c5
  (case ho => k_is); (case hcd => k_is); (case hr => k_room)
  (case hb => first | exact BindsTo.of_eq rfl | exact binds_K (by k_in) rfl (by k_is) rfl rfl rfl)
  (case c5 => decide); (case hl => exact locs rfl); (case c2 => exact rfl); (case c3 => exact rfl); (case c4 => exact rfl)
  k_whole
  intro g0 L0 h1 hg1 hg2 hL0 F0 N0 B0 X0 T0
  (try dsimp only)
  (try k_fold)
  replace hR : g0.get? ra = _ := hg2 _ _ (by simp) hR
  have hRL : g0.IsList ra vs.toArray := ⟨_, hR, rfl, _, rfl⟩
  have hI0 : ∀ (i : Nat) v I, vs[i]? = some v → code[i]? = some I → InsAt w g0 v I := fun i v I a c => (hI i v I a c).keeps fun b o e => hg2 b o (by simp) e
  clear F B X T hI
  k_steps
  (rename Fr _ _ _ _ => F1); (rename News _ _ _ _ => N1)
  refine Stop.mk (whileG (k₀ := 201 * unseen code.length b [] + 1) (fun k m nx => m (Str.ofString "instrs") = some (.ref ra) ∧ m (Str.ofString "base") = some (.int b tb) ∧ m (Str.ofString "table") = some (.ref sd) ∧ m (Str.ofString "seen") = some (.ref dd) ∧ m (Str.ofString "pending") = some (.ref nl) ∧
    (∃ t, m (Str.ofString "end") = some (.int (b + (code.length : Int)) t)) ∧ ∃ us n' pend kvs od', nx = [(nl, listOf us.toArray n'), (dd, od'), (sd, oS)] ∧ IntsAre us pend ∧ od'.IsDictOf (PySem.intKind Pg w) kvs ∧ Inv code b en (kvs.map (·.1)) pend ∧ k = 201 * unseen code.length b (kvs.map (·.1)) + pend.length)
    PassesOwn.leaving F1 N1 ?_ ?_)
  · exact ⟨rfl, rfl, rfl, rfl, rfl, ⟨_, rfl⟩, _, _, _, _, _, rfl, .cons _ _ .nil, dhi, Inv.start, rfl⟩
  · rintro k m₁ nx h tk ⟨hm1, hm2, hm3, hm4, hm5, ⟨t6, hm6⟩, us, n', pend, kvs, od', rfl, hIp, hdict, hInv, rfl⟩ F2 N2
    clear F1 N1
    have F3_0 := fr_eta (x := Str.ofString "instrs") (v := .ref ra) (by exact hm1) F2
    have F3_1 := fr_eta (x := Str.ofString "base") (v := .int b tb) (by rw [if_neg (by decide)]; exact hm2) F3_0
    clear F3_0
    have F3_2 := fr_eta (x := Str.ofString "table") (v := .ref sd) (by rw [if_neg (by decide), if_neg (by decide)]; exact hm3) F3_1
    clear F3_1
    have F3_3 := fr_eta (x := Str.ofString "seen") (v := .ref dd) (by rw [if_neg (by decide), if_neg (by decide), if_neg (by decide)]; exact hm4) F3_2
    clear F3_2
    have F3_4 := fr_eta (x := Str.ofString "pending") (v := .ref nl) (by rw [if_neg (by decide), if_neg (by decide), if_neg (by decide), if_neg (by decide)]; exact hm5) F3_3
    clear F3_3
    have F3 := fr_eta (x := Str.ofString "end") (v := .int (b + (code.length : Int)) t6) (by rw [if_neg (by decide), if_neg (by decide), if_neg (by decide), if_neg (by decide), if_neg (by decide)]; exact hm6) F3_4
    clear F3_4
    clear F2
    have hroom := hInv.room
    have hul := hIp.length
    k_steps
    rcases List.eq_nil_or_concat pend with rfl | ⟨rest, x, hpe⟩
    · refine WhlIf.no (by decide) ?_
      dsimp only
      k_steps
      (rename Fr _ _ _ _ => F1); (rename News _ _ _ _ => N1)
      have hkl : kvs.length ≤ 16 := by
        have := hInv.many
        rw [List.length_map] at this; omega
      refine Stop.mk (sorted_seen rfl F1 N1 (by k_mem) hdict dlo (by omega) fun D c h' tk vs' ns' F' N' hI' hp hP => ?_)
      exact LeaveW.intro F' (ret _ _ D vs' c ns' _ (fun b o hb e => F'.keep b o (hg2 b o hb e)) (new_of hg2 (by simp) (N' _ (.head _)).2.2) (N' _ (.head _)).1 hI' hp hP hInv.done)
    · rw [List.concat_eq_append] at hpe
      have hpl : pend.length = rest.length + 1 := by rw [hpe]; simp
      have hgl : pend.getLastD 0 = x := by rw [hpe]; simp
      have hdl : pend.dropLast = rest := by rw [hpe]; simp
      refine WhlIf.yes (decide_eq_true (by omega)) ?_
      have hne : 0 < us.length := by omega
      have hkl : kvs.length ≤ 16 := by
        have := hInv.many
        rw [List.length_map] at this; omega
      have hdrop : x < b ∨ b + (code.length : Int) ≤ x ∨ x ∈ kvs.map (·.1) → Inv code b en (kvs.map (·.1)) rest := fun q => (hpe ▸ hInv : Inv code b en (kvs.map (·.1)) (rest ++ [x])).drop q
      k_steps
      rotate_left 2
      · (rename Fr _ _ _ _ => F1); (rename News _ _ _ _ => N1)
        (rename IntsAre (List.dropLast us) _ => hI9)
        (rename ¬ (pend.getLastD 0 < b) => hc1)
        (rename ¬ (_ ≤ pend.getLastD 0) => hc2)
        rw [hgl] at hc1 hc2
        rw [hdl] at hI9
        refine Stop.mk (seen_in N1 (by k_mem) hdict dlo ?_)
        rw [hgl]
        cases hmem : (kvs.map (·.1)).contains x with
        | true =>
          k_steps
          show WhEnd _ _ _ _ _ _
          exact WhEnd.intro F1 N1 (by omega) ⟨rfl, rfl, rfl, rfl, rfl, ⟨_, rfl⟩, _, _, _, _, _, rfl, hI9, hdict, hdrop (.inr (.inr (by simpa using hmem))), rfl⟩
        | false =>
          have hns : x ∉ kvs.map (·.1) := fun q => by simp [q] at hmem
          obtain ⟨I, hA⟩ := at_of (code := code) (b := b) (a := x) (by omega) (by omega)
          obtain ⟨v, hv⟩ : ∃ v, vs[(x - b).toNat]? = some v := ⟨vs[(x - b).toNat]'(by omega), by simp⟩
          have hIns := hI0 _ v I hv hA.2
          obtain ⟨a, ti, rst, rfl, hTup⟩ := hIns.open
          have hv' : vs[(pend.getLastD 0 - b).toNat]? = some (.ref a) := by rw [hgl]; exact hv
          k_steps
          (rename Fr _ _ _ _ => F1); (rename News _ _ _ _ => N1)
          refine Stop.mk (base_item F1 hRL (by omega) (by omega) hv' ?_)
          k_steps
          (rename Fr _ _ _ _ => F1); (rename News _ _ _ _ => N1)
          refine Stop.mk (shape_item N1 (by k_mem) hShapes hIns.named fun t9 tk9 => ?_)
          k_steps
          (rename Fr _ _ _ _ => F1); (rename News _ _ _ _ => N1)
          have hne1 : @Ne Nat nl tl := tne _ (.head _)
          have hne2 : @Ne Nat dd tl := tne _ (.tail _ (.head _))
          have hne3 : @Ne Nat sd tl := tne _ (.tail _ (.tail _ (.head _)))
          have hne4 : @Ne Nat tl nl := hne1.symm
          have hne5 : @Ne Nat tl dd := hne2.symm
          have hne6 : @Ne Nat tl sd := hne3.symm
          have htl := hIns.tgts_len
          have htl2 := hTs.length
          have hrl : rest.length ≤ 3201 := by omega
          rw [hgl] at F1 hd2
          rw [stored_fresh hns] at hd2
          refine Stop.mk (listG (vs := tvs) (fun i m nx => m (Str.ofString "instrs") = some (.ref ra) ∧ m (Str.ofString "base") = some (.int b tb) ∧ m (Str.ofString "table") = some (.ref sd) ∧ m (Str.ofString "seen") = some (.ref dd) ∧ m (Str.ofString "pending") = some (.ref nl) ∧
            m (Str.ofString "end") = some (.int (b + (code.length : Int)) t6) ∧ (∃ t, m (Str.ofString "address") = some (.int x t)) ∧ m (Str.ofString "ins") = some (.ref a) ∧
            ∃ us2 n2, nx = [(tl, listOf tvs.toArray tn), (nl, listOf us2.toArray n2), (dd, o2), (sd, oS)] ∧ IntsAre us2 (rest ++ I.tgts.take i)) rfl (N1.isList (.head _)) (.inr ⟨listOf tvs.toArray tn, ?_⟩) (N1 _ (.head _)).2.1 F1 N1 ?_ ?_ ?_)
          · rintro i m nx ⟨-, -, -, -, -, -, -, -, us2, n2, rfl, -⟩
            exact .head _
          · exact ⟨rfl, rfl, rfl, rfl, rfl, rfl, ⟨_, rfl⟩, rfl, _, _, rfl, by simpa using hI9⟩
          · rintro i v m₂ nx h2 tk2 own hvi hoff ⟨hq1, hq2, hq3, hq4, hq5, hq6, ⟨tx, hq7⟩, hq8, us2, n2, rfl, hI2⟩ F2 N2
            clear F1 N1
            simp only [List.map_cons, List.map_nil] at hoff
            simp only [List.cons_append, List.nil_append] at N2
            have F4_0 := fr_eta (x := Str.ofString "instrs") (v := .ref ra) (by rw [if_neg (by decide)]; exact hq1) F2
            have F4_1 := fr_eta (x := Str.ofString "base") (v := .int b tb) (by rw [if_neg (by decide), if_neg (by decide)]; exact hq2) F4_0
            clear F4_0
            have F4_2 := fr_eta (x := Str.ofString "table") (v := .ref sd) (by rw [if_neg (by decide), if_neg (by decide), if_neg (by decide)]; exact hq3) F4_1
            clear F4_1
            have F4_3 := fr_eta (x := Str.ofString "seen") (v := .ref dd) (by rw [if_neg (by decide), if_neg (by decide), if_neg (by decide), if_neg (by decide)]; exact hq4) F4_2
            clear F4_2
            have F4_4 := fr_eta (x := Str.ofString "pending") (v := .ref nl) (by rw [if_neg (by decide), if_neg (by decide), if_neg (by decide), if_neg (by decide), if_neg (by decide)]; exact hq5) F4_3
            clear F4_3
            have F4_5 := fr_eta (x := Str.ofString "end") (v := .int (b + (code.length : Int)) t6) (by rw [if_neg (by decide), if_neg (by decide), if_neg (by decide), if_neg (by decide), if_neg (by decide), if_neg (by decide)]; exact hq6) F4_4
            clear F4_4
            have F4_6 := fr_eta (x := Str.ofString "address") (v := .int x tx) (by rw [if_neg (by decide), if_neg (by decide), if_neg (by decide), if_neg (by decide), if_neg (by decide), if_neg (by decide), if_neg (by decide)]; exact hq7) F4_5
            clear F4_5
            have F4 := fr_eta (x := Str.ofString "ins") (v := .ref a) (by rw [if_neg (by decide), if_neg (by decide), if_neg (by decide), if_neg (by decide), if_neg (by decide), if_neg (by decide), if_neg (by decide), if_neg (by decide)]; exact hq8) F4_6
            clear F4_6
            clear F2
            obtain ⟨k, t3, rfl, hk3⟩ := ints_at hTs hvi
            have hl2 := hI2.length
            have hlt : (I.tgts.take i).length ≤ 101 := by rw [List.length_take]; omega
            rw [List.length_append] at hl2
            have htake : I.tgts.take (i + 1) = I.tgts.take i ++ [k] := by rw [List.take_add_one, hk3]; rfl
            k_steps
            (rename Fr _ _ _ _ => F1); (rename News _ _ _ _ => N1)
            simp only [List.push_toArray] at N1
            refine end4' F1 N1 ⟨rfl, rfl, rfl, rfl, rfl, rfl, ⟨_, rfl⟩, rfl, _, _, rfl, ?_⟩ hoff
            rw [htake, ← List.append_assoc]; exact IntsAre.append hI2 (.cons _ _ .nil)
          · rintro m₂ nx h2 tk2 ⟨hq1, hq2, hq3, hq4, hq5, hq6, ⟨tx, hq7⟩, hq8, us2, n2, rfl, hI2⟩ F2 N2
            clear F1 N1
            rw [htl2, List.take_length] at hI2
            have F4_0 := fr_eta (x := Str.ofString "instrs") (v := .ref ra) (by exact hq1) F2
            have F4_1 := fr_eta (x := Str.ofString "base") (v := .int b tb) (by rw [if_neg (by decide)]; exact hq2) F4_0
            clear F4_0
            have F4_2 := fr_eta (x := Str.ofString "table") (v := .ref sd) (by rw [if_neg (by decide), if_neg (by decide)]; exact hq3) F4_1
            clear F4_1
            have F4_3 := fr_eta (x := Str.ofString "seen") (v := .ref dd) (by rw [if_neg (by decide), if_neg (by decide), if_neg (by decide)]; exact hq4) F4_2
            clear F4_2
            have F4_4 := fr_eta (x := Str.ofString "pending") (v := .ref nl) (by rw [if_neg (by decide), if_neg (by decide), if_neg (by decide), if_neg (by decide)]; exact hq5) F4_3
            clear F4_3
            have F4_5 := fr_eta (x := Str.ofString "end") (v := .int (b + (code.length : Int)) t6) (by rw [if_neg (by decide), if_neg (by decide), if_neg (by decide), if_neg (by decide), if_neg (by decide)]; exact hq6) F4_4
            clear F4_4
            have F4_6 := fr_eta (x := Str.ofString "address") (v := .int x tx) (by rw [if_neg (by decide), if_neg (by decide), if_neg (by decide), if_neg (by decide), if_neg (by decide), if_neg (by decide)]; exact hq7) F4_5
            clear F4_5
            have F4 := fr_eta (x := Str.ofString "ins") (v := .ref a) (by rw [if_neg (by decide), if_neg (by decide), if_neg (by decide), if_neg (by decide), if_neg (by decide), if_neg (by decide), if_neg (by decide)]; exact hq8) F4_6
            clear F4_6
            clear F2
            have hl2 := hI2.length
            rw [List.length_append] at hl2
            dsimp only
            have hR : Reach code b en x := hInv.reach x (.inr (by rw [hpe]; simp))
            have hu := unseen_lt (n := code.length) hA.1 hA.lt hns
            have hmap : (kvs ++ [(x, Value.bool true)]).map (·.1) = kvs.map (·.1) ++ [x] := by simp
            k_steps
            · (rename Fr _ _ _ _ => F1); (rename News _ _ _ _ => N1)
              (rename I.falls = true => hf)
              (rename x + 1 = _ => he)
              refine Stop.mk (raise_fault (show dp + 1 + 1 < 1000 by omega) rfl F1 X0 T0 (fun h' tk e ob t kp hnew hget hcls hdata => ?_) rfl rfl)
              exact leave_O B0 F1 kp hnew hget hcls hdata (fun h'' R U => exc x I hR hA hf he h'' _ e R fun b' o e' hn => U b' o (hg2 b' o (by simp) e') hn) rfl
            · (rename Fr _ _ _ _ => F1); (rename News _ _ _ _ => N1)
              (rename I.falls = true => hf)
              (rename ¬ (x + 1 = _) => he)
              have hs : succs I x = I.tgts ++ [x + 1] := by unfold succs; rw [if_pos hf]
              simp only [List.push_toArray] at N1
              show WhEnd _ _ _ _ _ _
              refine WhEnd.intro (k' := 201 * unseen code.length b ((kvs ++ [(x, Value.bool true)]).map (·.1)) + (rest ++ succs I x).length) F1 (fun p hp => N1 p (.tail _ hp)) ?_ ⟨rfl, rfl, rfl, rfl, rfl, ⟨_, rfl⟩, _, _, rest ++ succs I x, kvs ++ [(x, Value.bool true)], _, rfl, ?_, hd2, ?_, rfl⟩
              · rw [hmap, hs]
                simp only [List.length_append, List.length_cons, List.length_nil]
                omega
              · rw [hs, ← List.append_assoc]; exact IntsAre.append hI2 (.cons _ _ .nil)
              · rw [hmap]
                exact (hpe ▸ hInv : Inv code b en (kvs.map (·.1)) (rest ++ [x])).visit hA hns htl fun _ => he
            · (rename Fr _ _ _ _ => F1); (rename News _ _ _ _ => N1)
              (rename I.falls = false => hf)
              have hs : succs I x = I.tgts := by unfold succs; rw [if_neg (by rw [hf]; exact Bool.false_ne_true), List.append_nil]
              show WhEnd _ _ _ _ _ _
              refine WhEnd.intro (k' := 201 * unseen code.length b ((kvs ++ [(x, Value.bool true)]).map (·.1)) + (rest ++ succs I x).length) F1 (fun p hp => N1 p (.tail _ hp)) ?_ ⟨rfl, rfl, rfl, rfl, rfl, ⟨_, rfl⟩, _, _, rest ++ succs I x, kvs ++ [(x, Value.bool true)], _, rfl, ?_, hd2, ?_, rfl⟩
              · rw [hmap, hs]
                simp only [List.length_append]
                omega
              · rw [hs]; exact hI2
              · rw [hmap]
                exact (hpe ▸ hInv : Inv code b en (kvs.map (·.1)) (rest ++ [x])).visit hA hns htl fun q => absurd q (by rw [hf]; exact Bool.false_ne_true)
      · (rename Fr _ _ _ _ => F1); (rename News _ _ _ _ => N1)
        (rename IntsAre (List.dropLast us) _ => hI9)
        (rename pend.getLastD 0 < b => hc)
        rw [hgl] at hc
        rw [hdl] at hI9
        show WhEnd _ _ _ _ _ _
        exact WhEnd.intro F1 N1 (by omega) ⟨rfl, rfl, rfl, rfl, rfl, ⟨_, rfl⟩, _, _, _, _, _, rfl, hI9, hdict, hdrop (.inl hc), rfl⟩
      · (rename Fr _ _ _ _ => F1); (rename News _ _ _ _ => N1)
        (rename IntsAre (List.dropLast us) _ => hI9)
        (rename _ ≤ pend.getLastD 0 => hc)
        rw [hgl] at hc
        rw [hdl] at hI9
        show WhEnd _ _ _ _ _ _
        exact WhEnd.intro F1 N1 (by omega) ⟨rfl, rfl, rfl, rfl, rfl, ⟨_, rfl⟩, _, _, _, _, _, rfl, hI9, hdict, hdrop (.inr (.inl hc)), rfl⟩
end
end
theorem words_w51 : True := by
  w_top off
  k_with_none
  (k_with "eval Dict nil nil" => (k_here; k_dflt (refine' newDict_K ?k1 ?k2 (TopRead.nolimit (by k_asm)) ?_; (case k1 => k_asm); (case k2 => k_asm); k_whole); intro dd h' od F' N' dl dlo dhs dfs dhi dfi; (try k_lt dl); (try k_sweep)))
  (k_with "call ref" => (k_here; (with_reducible show wpAny _ _ (call (Value.ref 89) _) _ _ _); k_dflt (refine' next_N ?B ?F ?X ?T ?hk ?hd ?hu ?N ?U ?hi ?hl ?_; (case B => k_asm); (case F => k_asm); (case X => k_asm); (case T => k_asm); (case hk => first | rfl | assumption); (case N => k_asm); (case U => k_updF); (case hi => with_reducible assumption); (case hl => omega); (case hd => k_room); (case hu => k_units); k_whole); intro h' tk' vs' ns' i' t' n' F' N' hI' hL'; (try dsimp only at N'); (try k_sweep)))
  (k_with "call ref" => (k_here; (with_reducible show wpAny _ _ (call (Value.ref 96) _) _ _ _); k_dflt (refine' address_N ?B ?F ?X ?T ?hk ?hd ?hu ?N ?U ?hi ?hl ?b0 ?b1 ?_; (case B => k_asm); (case F => k_asm); (case X => k_asm); (case T => k_asm); (case hk => first | rfl | assumption); (case N => k_asm); (case U => k_updF); (case hi => with_reducible assumption); (case hl => omega); (case b0 => omega); (case b1 => omega); (case hd => k_room); (case hu => k_units); k_whole); intro h' tk' vs' ns' i' t' n' F' N' hI' hL' hb0' hb1'; (try dsimp only at N'); (try k_sweep)))
  (k_with "call ref" => (k_here; (with_reducible show wpAny _ _ (call (Value.ref 82) _) _ _ _); k_dflt (refine' row_N ?B ?F ?X ?T ?hk ?hd ?hu ?N ?l ?hi ?hl ?_; (case B => k_asm); (case F => k_asm); (case X => k_asm); (case T => k_asm); (case hk => first | rfl | assumption); (case N => k_asm); (case l => with_reducible assumption); (case hi => with_reducible assumption); (case hl => omega); (case hd => k_room); (case hu => k_units); k_whole); intro h' tk' row vs' ns' n' F' N' rne hI' hL'; (try dsimp only at N'); (try k_sweep)))
  (k_with "call ref" => (k_here; (with_reducible show wpAny _ _ (call (Value.ref 103) _) _ _ _); refine Stop.out ?_))
  trivial
section
theorem words_w53 : True := by
  w_top off
  k_with_none
  (k_with "eval Dict nil nil" => (k_here; k_dflt (refine' newDict_K ?k1 ?k2 (TopRead.nolimit (by k_asm)) ?_; (case k1 => k_asm); (case k2 => k_asm); k_whole); intro dd h' od F' N' dl dlo dhs dfs dhi dfi; (try k_lt dl); (try k_sweep)))
  (k_with "call ref" => (k_here; (with_reducible show wpAny _ _ (call (Value.ref 89) _) _ _ _); k_dflt (refine' next_N ?B ?F ?X ?T ?hk ?hd ?hu ?N ?U ?hi ?hl ?_; (case B => k_asm); (case F => k_asm); (case X => k_asm); (case T => k_asm); (case hk => first | rfl | assumption); (case N => k_asm); (case U => k_updF); (case hi => with_reducible assumption); (case hl => omega); (case hd => k_room); (case hu => k_units); k_whole); intro h' tk' vs' ns' i' t' n' F' N' hI' hL'; (try dsimp only at N'); (try k_sweep)))
  (k_with "call ref" => (k_here; (with_reducible show wpAny _ _ (call (Value.ref 96) _) _ _ _); k_dflt (refine' address_N ?B ?F ?X ?T ?hk ?hd ?hu ?N ?U ?hi ?hl ?b0 ?b1 ?_; (case B => k_asm); (case F => k_asm); (case X => k_asm); (case T => k_asm); (case hk => first | rfl | assumption); (case N => k_asm); (case U => k_updF); (case hi => with_reducible assumption); (case hl => omega); (case b0 => omega); (case b1 => omega); (case hd => k_room); (case hu => k_units); k_whole); intro h' tk' vs' ns' i' t' n' F' N' hI' hL' hb0' hb1'; (try dsimp only at N'); (try k_sweep)))
  (k_with "call ref" => (k_here; (with_reducible show wpAny _ _ (call (Value.ref 82) _) _ _ _); k_dflt (refine' row_N ?B ?F ?X ?T ?hk ?hd ?hu ?N ?l ?hi ?hl ?_; (case B => k_asm); (case F => k_asm); (case X => k_asm); (case T => k_asm); (case hk => first | rfl | assumption); (case N => k_asm); (case l => with_reducible assumption); (case hi => with_reducible assumption); (case hl => omega); (case hd => k_room); (case hu => k_units); k_whole); intro h' tk' row vs' ns' n' F' N' rne hI' hL'; (try dsimp only at N'); (try k_sweep)))
  (k_with "call ref" => (k_here; (with_reducible show wpAny _ _ (call (Value.ref 103) _) _ _ _); refine Stop.out ?_))
  trivial
section
variable {w : World} {mean : ExcName → Option Value} {mg mb : Str → Option Value} {dp un : Nat} {gd : Option (List Code)} {cn : Str} {cs : Scope} {ca : Addr} {ccd : Value} {cl : List (Str × Addr)}
    {outer : List Env} {A₀ : Around} {base h₀ : Heap} {L : Addr} {m : Str → Option Value} {s : Shared} {Q : Value → Shared → Prop} {E : Value → Shared → Prop}
    {r : Addr} {vs : List Value} {ns : List Int} {n : Nat} {news : List (Addr × Obj)} {g : Obj → List (Addr × Obj)}
theorem made_L (B : Below A₀ base outer h₀) (F : Fr h₀ L s.heap m) (X : (Kf w).In h₀) (T : TopM mean mg mb h₀) (hk : cs.kind = .function) (hdp : dp < 870) (hun : un < 960)
    (N : News h₀ L s.heap ((r, listOf vs.toArray n) :: news)) (hne : ∀ p ∈ news, p.1 ≠ r) (hi : IntsAre vs ns) (hlen : vs.length ≤ 200) {b : Int} {tb : Tok} (hb0 : 0 ≤ b) (hb1 : b ≤ 100)
    (ret : ∀ h' tk v I led vs' ns' n', Fr h₀ L h' m → News h₀ L h' ((r, listOf vs'.toArray n') :: (led ++ news)) → (∀ p ∈ led, p.1 ≠ r ∧ ∀ q ∈ news, p.1 ≠ q.1) → IntsAre vs' ns' → vs'.length ≤ 200 → (∀ h, Stand led h → InsAt w h v I) → Q v { s with heap := h', toks := tk }) :
    wpAny (model Pg w) (ktrTop dp un gd cn cs L ca ccd cl outer) (call (.ref 108) [.ref r, .int b tb]) Q E s := by
  have hr0 := N _ (.head _)
  refine made_call B F X T hk hdp hun (news_only N (.head _)) hi hlen hb0 hb1 fun h' tk v I led vs' ns' n' K hr hi' hl' hnew hst hins => ?_
  refine ret h' tk v I led vs' ns' n' (K.fr F (fun q => hr0.2.1 (List.mem_singleton.mp q).symm) (fun a ha => by rw [List.mem_singleton.mp ha]; exact hr0.2.2)) (fun p hp => ?_) (fun p hp => ⟨fun e => ?_, fun q hq e => ?_⟩) hi' hl' hins
  · rcases List.mem_cons.mp hp with rfl | hp
    · exact ⟨hr, hr0.2⟩
    · rcases List.mem_append.mp hp with hp | hp
      · refine ⟨hst p hp, fun q => ?_, ?_⟩
        · obtain ⟨oL, _, _, eL, _⟩ := F.ns
          have := hnew p hp
          rw [q, eL] at this; cases this
        · cases q : h₀.get? p.1 with
          | none => rfl
          | some o' => have := F.keep _ _ q; rw [hnew p hp] at this; cases this
      · have P := N p (.tail _ hp)
        exact ⟨K _ _ (fun q => hne p hp (List.mem_singleton.mp q)) P.1, P.2⟩
  · have := hr0.1
    dsimp only at this
    rw [← e, hnew p hp] at this; cases this
  · have := (N q (.tail _ hq)).1
    rw [← e, hnew p hp] at this; cases this
end
/-- the rows that the law has made so far, and the ledger that bears them -/
noncomputable def RowsAt (w : World) (ys : List Value) (code : List Ins) (led : List (Addr × Obj)) : Prop :=
  ys.length = code.length ∧ ∀ (j : Nat) v I, ys[j]? = some v → code[j]? = some I → ∀ h, Stand led h → InsAt w h v I
theorem RowsAt.nil {w : World} : RowsAt w [] [] [] := ⟨rfl, fun j v I h => by simp at h⟩
theorem RowsAt.snoc {w : World} {ys : List Value} {code : List Ins} {led led' : List (Addr × Obj)} {v : Value} {I : Ins} (x : RowsAt w ys code led) (h : ∀ h, Stand led' h → InsAt w h v I) : RowsAt w (ys ++ [v]) (code ++ [I]) (led' ++ led) := by
  refine ⟨by rw [List.length_append, List.length_append, x.1]; rfl, fun j u J hu hJ h' st => ?_⟩
  rcases Nat.lt_or_ge j ys.length with q | q
  · rw [List.getElem?_append_left q] at hu
    rw [List.getElem?_append_left (x.1 ▸ q)] at hJ
    exact x.2 j u J hu hJ h' fun p hp => st p (List.mem_append_right _ hp)
  · rw [List.getElem?_append_right q] at hu
    rw [List.getElem?_append_right (x.1 ▸ q), ← x.1] at hJ
    cases e : j - ys.length with
    | zero =>
      rw [e] at hu hJ
      simp only [List.getElem?_cons_zero, Option.some.injEq] at hu hJ
      subst hu hJ
      exact h h' fun p hp => st p (List.mem_append_left _ hp)
    | succ k => rw [e] at hu; simp at hu
theorem keep_row {h₀ h h' : Heap} {L r : Addr} {o o' : Obj} {m : Str → Option Value} {news : List (Addr × Obj)} (F : Fr h₀ L h m) (N : News h₀ L h ((r, o) :: news)) (hne : ∀ p ∈ news, p.1 ≠ r) (K : Keeps [r] h h') (hr : h'.get? r = some o') : Fr h₀ L h' m ∧ News h₀ L h' ((r, o') :: news) := by
  have hr0 := N _ (.head _)
  refine ⟨K.fr F (fun q => hr0.2.1 (List.mem_singleton.mp q).symm) (fun a ha => by rw [List.mem_singleton.mp ha]; exact hr0.2.2), fun p hp => ?_⟩
  rcases List.mem_cons.mp hp with rfl | hp
  · exact ⟨hr, hr0.2⟩
  · have P := N p (.tail _ hp)
    exact ⟨K _ _ (fun q => hne p hp (List.mem_singleton.mp q)) P.1, P.2⟩
section
variable {w : World} {mean : ExcName → Option Value} {mg mb : Str → Option Value} {dp un : Nat} {gd : Option (List Code)} {cn : Str} {cs : Scope} {ca : Addr} {ccd : Value} {cl : List (Str × Addr)}
    {outer : List Env} {A₀ : Around} {base h₀ : Heap} {L : Addr} {m : Str → Option Value} {s : Shared} {Q : Value → Shared → Prop} {E : Value → Shared → Prop}
    {r : Addr} {vs : List Value} {ns : List Int} {n : Nat} {news : List (Addr × Obj)} {g : Obj → List (Addr × Obj)}
theorem next_L (B : Below A₀ base outer h₀) (F : Fr h₀ L s.heap m) (X : (Kf w).In h₀) (T : TopM mean mg mb h₀) (hk : cs.kind = .function) (hdp : dp < 900) (hun : un < 1000)
    (N : News h₀ L s.heap ((r, listOf vs.toArray n) :: news)) (hne : ∀ p ∈ news, p.1 ≠ r) (hi : IntsAre vs ns) (hlen : vs.length ≤ 200)
    (ret : ∀ h' tk vs' ns' i t n', Fr h₀ L h' m → News h₀ L h' ((r, listOf vs'.toArray n') :: news) → IntsAre vs' ns' → vs'.length ≤ 200 → Q (.int i t) { s with heap := h', toks := tk }) :
    wpAny (model Pg w) (ktrTop dp un gd cn cs L ca ccd cl outer) (call (.ref 89) [.ref r]) Q E s :=
  next_call B F X T hk hdp hun (news_only N (.head _)) hi hlen fun h' tk vs' ns' i t n' K hr hi' hl' => let ⟨F', N'⟩ := keep_row F N hne K hr; ret h' tk vs' ns' i t n' F' N' hi' (Nat.le_trans hl' hlen)
theorem address_L (B : Below A₀ base outer h₀) (F : Fr h₀ L s.heap m) (X : (Kf w).In h₀) (T : TopM mean mg mb h₀) (hk : cs.kind = .function) (hdp : dp < 890) (hun : un < 980)
    (N : News h₀ L s.heap ((r, listOf vs.toArray n) :: news)) (hne : ∀ p ∈ news, p.1 ≠ r) (hi : IntsAre vs ns) (hlen : vs.length ≤ 200) {b : Int} {tb : Tok} (hb0 : 0 ≤ b) (hb1 : b ≤ 100)
    (ret : ∀ h' tk vs' ns' i t n', Fr h₀ L h' m → News h₀ L h' ((r, listOf vs'.toArray n') :: news) → IntsAre vs' ns' → vs'.length ≤ 200 → 0 ≤ i → i ≤ b + 20 → Q (.int i t) { s with heap := h', toks := tk }) :
    wpAny (model Pg w) (ktrTop dp un gd cn cs L ca ccd cl outer) (call (.ref 96) [.ref r, .int b tb]) Q E s :=
  address_call B F X T hk hdp hun (news_only N (.head _)) hi hlen hb0 hb1 fun h' tk vs' ns' i t n' K hr hi' hl' h0 h1 => let ⟨F', N'⟩ := keep_row F N hne K hr; ret h' tk vs' ns' i t n' F' N' hi' hl' h0 h1
end
/-- a branch's end: the row may have been drawn from, the map says so much -/
noncomputable def AfterIf (s1 : Shared) (h₀ : Heap) (L row : Addr) (rest : List (Addr × Obj)) (P : (Str → Option Value) → Prop) (f : Flow) (s' : Shared) : Prop :=
  f = .next ∧ ∃ (h' : Heap) (tk' : Nat) (vs' : List Value) (n' : Nat) (m' : Str → Option Value), s' = { s1 with heap := h', toks := tk' } ∧ Fr h₀ L h' m' ∧ News h₀ L h' ((row, listOf vs'.toArray n') :: rest) ∧ P m'
theorem AfterIf.intro {s1 : Shared} {h₀ h' : Heap} {L row : Addr} {rest : List (Addr × Obj)} {P : (Str → Option Value) → Prop} {tk' : Nat} {vs' : List Value} {n' : Nat} {m' : Str → Option Value} (F : Fr h₀ L h' m') (N : News h₀ L h' ((row, listOf vs'.toArray n') :: rest)) (p : P m') :
    AfterIf s1 h₀ L row rest P .next { s1 with heap := h', toks := tk' } := ⟨rfl, h', tk', vs', n', m', rfl, F, N, p⟩
/-- a list made on a branch -/
noncomputable def AfterNew (s1 : Shared) (h₀ : Heap) (L : Addr) (rest : List (Addr × Obj)) (P : (Str → Option Value) → List Value → Prop) (v : Value) (s' : Shared) : Prop :=
  ∃ (h' : Heap) (tk' : Nat) (l : Addr) (vs' : List Value) (n' : Nat) (m' : Str → Option Value), v = .ref l ∧ s' = { s1 with heap := h', toks := tk' } ∧ Fr h₀ L h' m' ∧ News h₀ L h' ((l, listOf vs'.toArray n') :: rest) ∧ (∀ p ∈ rest, p.1 ≠ l) ∧ P m' vs'
theorem AfterNew.intro {s1 : Shared} {h₀ h' : Heap} {L l : Addr} {rest : List (Addr × Obj)} {P : (Str → Option Value) → List Value → Prop} {tk' : Nat} {vs' : List Value} {n' : Nat} {m' : Str → Option Value} (F : Fr h₀ L h' m') (N : News h₀ L h' ((l, listOf vs'.toArray n') :: rest)) (hne : ∀ p ∈ rest, p.1 < l) (p : P m' vs') :
    AfterNew s1 h₀ L rest P (.ref l) { s1 with heap := h', toks := tk' } := ⟨h', tk', l, vs', n', m', rfl, rfl, F, N, fun p hp => Nat.ne_of_lt (hne p hp), p⟩
end
section
theorem words_w54 : True := by
  w_top off
  k_with_none
  (k_with "eval Dict nil nil" => (k_here; k_dflt (refine' newDict_K ?k1 ?k2 (TopRead.nolimit (by k_asm)) ?_; (case k1 => k_asm); (case k2 => k_asm); k_whole); intro dd h' od F' N' dl dlo dhs dfs dhi dfi; (try k_lt dl); (try k_sweep)))
  (k_with "call ref" => (k_here; (with_reducible show wpAny _ _ (call (Value.ref 89) _) _ _ _); k_dflt (refine' next_N ?B ?F ?X ?T ?hk ?hd ?hu ?N ?U ?hi ?hl ?_; (case B => k_asm); (case F => k_asm); (case X => k_asm); (case T => k_asm); (case hk => first | rfl | assumption); (case N => k_asm); (case U => k_updF); (case hi => with_reducible assumption); (case hl => omega); (case hd => k_room); (case hu => k_units); k_whole); intro h' tk' vs' ns' i' t' n' F' N' hI' hL'; (try dsimp only at N'); (try k_sweep)))
  (k_with "call ref" => (k_here; (with_reducible show wpAny _ _ (call (Value.ref 96) _) _ _ _); k_dflt (refine' address_N ?B ?F ?X ?T ?hk ?hd ?hu ?N ?U ?hi ?hl ?b0 ?b1 ?_; (case B => k_asm); (case F => k_asm); (case X => k_asm); (case T => k_asm); (case hk => first | rfl | assumption); (case N => k_asm); (case U => k_updF); (case hi => with_reducible assumption); (case hl => omega); (case b0 => omega); (case b1 => omega); (case hd => k_room); (case hu => k_units); k_whole); intro h' tk' vs' ns' i' t' n' F' N' hI' hL' hb0' hb1'; (try dsimp only at N'); (try k_sweep)))
  (k_with "call ref" => (k_here; (with_reducible show wpAny _ _ (call (Value.ref 82) _) _ _ _); k_dflt (refine' row_N ?B ?F ?X ?T ?hk ?hd ?hu ?N ?l ?hi ?hl ?_; (case B => k_asm); (case F => k_asm); (case X => k_asm); (case T => k_asm); (case hk => first | rfl | assumption); (case N => k_asm); (case l => with_reducible assumption); (case hi => with_reducible assumption); (case hl => omega); (case hd => k_room); (case hu => k_units); k_whole); intro h' tk' row vs' ns' n' F' N' rne hI' hL'; (try dsimp only at N'); (try k_sweep)))
  (k_with "call ref" => (k_here; (with_reducible show wpAny _ _ (call (Value.ref 103) _) _ _ _); refine Stop.out ?_))
  trivial
/-- what the law's own closure holds after so many turns -/
structure Bfs (code : List Ins) (b en : Int) (met : List Int) (i : Nat) : Prop where
  reach : ∀ a ∈ met, Reach code b en a
  inr : ∀ a ∈ met, ∃ I, At code b a I
  nodup : met.Nodup
  entry : en ∈ met ∨ ∀ I, ¬ At code b en I
  many : met.length + unseen code.length b met ≤ code.length
  closed : ∀ (j : Nat) a, j < i → met[j]? = some a → ∀ I, At code b a I → ∀ t ∈ succs I a, t ∈ met ∨ ∀ I', ¬ At code b t I'
theorem Bfs.none {code : List Ins} {b en : Int} (h : en < b ∨ b + code.length ≤ en) : Bfs code b en [] 0 where
  reach := fun _ h => nomatch h
  inr := fun _ h => nomatch h
  nodup := List.nodup_nil
  entry := .inr fun I q => by have := q.1; have := q.lt; omega
  many := by
    unfold unseen
    have := List.length_filter_le (fun i : Nat => !([] : List Int).contains (b + (i : Int))) (List.range code.length)
    rw [List.length_range] at this; simp only [List.length_nil]; omega
  closed := fun _ _ h => nomatch h
theorem Bfs.one {code : List Ins} {b en : Int} (h0 : b ≤ en) (h1 : en < b + code.length) : Bfs code b en [en] 0 where
  reach := fun a h => by rw [List.mem_singleton.mp h]; exact .entry
  inr := fun a h => by rw [List.mem_singleton.mp h]; exact at_of h0 h1
  nodup := by simp
  entry := .inl (.head _)
  many := by
    have h2 := unseen_lt (n := code.length) h0 h1 (seen := []) (by simp)
    have := (Bfs.none (code := code) (b := b) (en := b - 1) (.inl (by omega))).many
    simp only [List.length_nil, List.nil_append, List.length_singleton] at *
    omega
  closed := fun _ _ h => nomatch h
/-- an address taken in -/
theorem Bfs.take {code : List Ins} {b en t : Int} {met : List Int} {i : Nat} (v : Bfs code b en met i) (hi : i ≤ met.length) (h0 : b ≤ t) (h1 : t < b + code.length) (hn : t ∉ met) (hr : Reach code b en t) : Bfs code b en (met ++ [t]) i where
  reach := fun a h => by
    rcases List.mem_append.mp h with h | h
    · exact v.reach a h
    · rw [List.mem_singleton.mp h]; exact hr
  inr := fun a h => by
    rcases List.mem_append.mp h with h | h
    · exact v.inr a h
    · rw [List.mem_singleton.mp h]; exact at_of h0 h1
  nodup := by
    rw [List.nodup_append]
    refine ⟨v.nodup, by simp, fun x hx y hy => ?_⟩
    rw [List.mem_singleton.mp hy]
    rintro rfl
    exact hn hx
  entry := v.entry.imp (fun q => List.mem_append_left _ q) id
  many := by
    have := v.many
    have h2 := unseen_lt (n := code.length) h0 h1 hn
    rw [List.length_append, List.length_singleton]; omega
  closed := fun j a hj ha I hA t' ht => by
    have q : j < met.length := Nat.lt_of_lt_of_le hj hi
    rw [List.getElem?_append_left q] at ha
    exact (v.closed j a hj ha I hA t' ht).imp (fun q => List.mem_append_left _ q) id
theorem Bfs.skip {code : List Ins} {b en : Int} {met : List Int} {i : Nat} (v : Bfs code b en met i) (h : met.length ≤ i) : Bfs code b en met (i + 1) :=
  ⟨v.reach, v.inr, v.nodup, v.entry, v.many, fun j a hj ha => by
    rcases Nat.lt_or_ge j i with q | q
    · exact v.closed j a q ha
    · rw [List.getElem?_eq_none (by omega)] at ha; cases ha⟩
theorem Bfs.step {code : List Ins} {b en a : Int} {met : List Int} {i : Nat} {I : Ins} (v : Bfs code b en met i) (ha : met[i]? = some a) (hA : At code b a I) (hc : ∀ t ∈ succs I a, t ∈ met ∨ ∀ I', ¬ At code b t I') : Bfs code b en met (i + 1) :=
  ⟨v.reach, v.inr, v.nodup, v.entry, v.many, fun j x hj hx J hJ t ht => by
    rcases Nat.lt_or_ge j i with q | q
    · exact v.closed j x q hx J hJ t ht
    · obtain rfl : j = i := by omega
      rw [ha] at hx
      cases hx
      obtain rfl := hA.one hJ
      exact hc t ht⟩
/-- all that is reached and lies within has been met -/
theorem Bfs.all {code : List Ins} {b en : Int} {met : List Int} (v : Bfs code b en met code.length) {a : Int} (h : Reach code b en a) : (∃ I, At code b a I) → a ∈ met := by
  have hl : met.length ≤ code.length := by have := v.many; omega
  induction h with
  | entry =>
    rintro ⟨I, hI⟩
    exact v.entry.resolve_right fun q => q I hI
  | @step x t J hx hA ht ih =>
    rintro ⟨I, hI⟩
    obtain ⟨j, hj⟩ := List.getElem?_of_mem (ih ⟨J, hA⟩)
    have hj' : j < met.length := by
      rcases Nat.lt_or_ge j met.length with q | q
      · exact q
      · rw [List.getElem?_eq_none q] at hj; cases hj
    exact (v.closed j x (by omega) hj J hA t ht).resolve_right fun q => q I hI
theorem Closed.all {code : List Ins} {b en : Int} {seen : List Int} (v : Closed code b en seen) {a : Int} (h : Reach code b en a) : (∃ I, At code b a I) → a ∈ seen := by
  induction h with
  | entry =>
    rintro ⟨I, hI⟩
    exact v.entry.resolve_right fun q => q I hI
  | @step x t J hx hA ht ih =>
    rintro ⟨I, hI⟩
    exact (v.closed x (ih ⟨J, hA⟩) J hA t ht).resolve_right fun q => q I hI
theorem Closed.perm {code : List Ins} {b en : Int} {seen met : List Int} (v : Closed code b en seen) (u : Bfs code b en met code.length) : seen.Perm met :=
  (List.perm_ext_iff_of_nodup v.nodup u.nodup).mpr fun a => ⟨fun h => u.all (v.reach a h) (v.inr a h), fun h => v.all (u.reach a h) (u.inr a h)⟩
theorem allLt_mem {d : Nat} {l : List (Addr × Obj)} (x : AllLt d l) (p : Addr × Obj) (h : p ∈ l) : @LT.lt Nat _ p.1 d := by
  induction l with
  | nil => cases h
  | cons q l ih =>
    rcases List.mem_cons.mp h with rfl | h
    · exact x.1
    · exact ih x.2 h
theorem news_item {prog : Program} {w : World} {A : Around} {E : Value → Shared → Prop} {s : Shared} {h₀ : Heap} {L l : Addr} {news : List (Addr × Obj)} {vs : List Value} {n : Nat} {Q : Value → Shared → Prop} {value slice : PySem.Expr} {k : Int} {u : Tok} {v : Value}
    (N : News h₀ L s.heap news) (hp : (l, listOf vs.toArray n) ∈ news) (hz : vs.length ≤ 100000) (h0 : 0 ≤ k) (hv : vs[k.toNat]? = some v) (h : Q v s)
    (hs : subscripted slice false (.ref l) (.int k u) = operate [.ref l, .int k u] (getItem (.ref l) (.int k u)) := by with_unfolding_all rfl) (hg : ∀ r, letTemporaryGo value (.ref l) r = pure () := by intro _; with_unfolding_all rfl) :
    wpAny (model prog w) A (subscriptTail value slice (.ref l) (.int k u)) Q E s := by
  have hlt : k.toNat < vs.length := by
    rcases Nat.lt_or_ge k.toNat vs.length with q | q
    · exact q
    · rw [List.getElem?_eq_none q] at hv; cases hv
  exact item_list ⟨_, (N _ hp).1, rfl, n, rfl⟩ h0 (by omega) (by simpa using hv) h hs hg
end
section
theorem words_w55 : True := by
  w_top off
  k_with_none
  (k_with "eval Dict nil nil" => (k_here; k_dflt (refine' newDict_K ?k1 ?k2 (TopRead.nolimit (by k_asm)) ?_; (case k1 => k_asm); (case k2 => k_asm); k_whole); intro dd h' od F' N' dl dlo dhs dfs dhi dfi; (try k_lt dl); (try k_sweep)))
  (k_with "call ref" => (k_here; (with_reducible show wpAny _ _ (call (Value.ref 89) _) _ _ _); k_dflt (refine' next_N ?B ?F ?X ?T ?hk ?hd ?hu ?N ?U ?hi ?hl ?_; (case B => k_asm); (case F => k_asm); (case X => k_asm); (case T => k_asm); (case hk => first | rfl | assumption); (case N => k_asm); (case U => k_updF); (case hi => with_reducible assumption); (case hl => omega); (case hd => k_room); (case hu => k_units); k_whole); intro h' tk' vs' ns' i' t' n' F' N' hI' hL'; (try dsimp only at N'); (try k_sweep)))
  (k_with "call ref" => (k_here; (with_reducible show wpAny _ _ (call (Value.ref 96) _) _ _ _); k_dflt (refine' address_N ?B ?F ?X ?T ?hk ?hd ?hu ?N ?U ?hi ?hl ?b0 ?b1 ?_; (case B => k_asm); (case F => k_asm); (case X => k_asm); (case T => k_asm); (case hk => first | rfl | assumption); (case N => k_asm); (case U => k_updF); (case hi => with_reducible assumption); (case hl => omega); (case b0 => omega); (case b1 => omega); (case hd => k_room); (case hu => k_units); k_whole); intro h' tk' vs' ns' i' t' n' F' N' hI' hL' hb0' hb1'; (try dsimp only at N'); (try k_sweep)))
  (k_with "call ref" => (k_here; (with_reducible show wpAny _ _ (call (Value.ref 82) _) _ _ _); k_dflt (refine' row_N ?B ?F ?X ?T ?hk ?hd ?hu ?N ?l ?hi ?hl ?_; (case B => k_asm); (case F => k_asm); (case X => k_asm); (case T => k_asm); (case hk => first | rfl | assumption); (case N => k_asm); (case l => with_reducible assumption); (case hi => with_reducible assumption); (case hl => omega); (case hd => k_room); (case hu => k_units); k_whole); intro h' tk' row vs' ns' n' F' N' rne hI' hL'; (try dsimp only at N'); (try k_sweep)))
  (k_with "call ref" => (k_here; (with_reducible show wpAny _ _ (call (Value.ref 103) _) _ _ _); refine Stop.out ?_))
  trivial
/-! is an int in a list of ints on the ledger -/
theorem ints_kf {vs : List Value} {ns : List Int} (h : IntsAre vs ns) : kf_ints vs = true := by
  induction h with
  | nil => rfl
  | cons k t _ ih => exact ih
theorem ints_any {k : Int} {vs : List Value} {ns : List Int} (h : IntsAre vs ns) : vs.any (isInt k) = ns.contains k := by
  induction h with
  | nil => rfl
  | cons j t _ ih =>
    rw [List.any_cons, List.contains_cons, ih]
    congr 1
    show decide (j = k) = (k == j)
    by_cases e : j = k
    · subst e; simp
    · have : k ≠ j := fun q => e q.symm
      simp [e, this]
section
variable {prog : Program} {w : World} {A : Around} {E : Value → Shared → Prop} {s : Shared} {h₀ : Heap} {L l : Addr} {m : Str → Option Value} {vs : List Value} {ns : List Int} {n : Nat} {news : List (Addr × Obj)} {Q : Value → Shared → Prop} {k : Int} {t : Tok}
theorem in_met (N : News h₀ L s.heap news) (hp : (l, listOf vs.toArray n) ∈ news) (hI : IntsAre vs ns) (h : Q (.bool (ns.contains k)) s) : wpAny (model prog w) A (compareOp .In (.int k t) (.ref l)) Q E s :=
  kf_in N hp (ints_kf hI) (ints_any hI) h
theorem notin_met (N : News h₀ L s.heap news) (hp : (l, listOf vs.toArray n) ∈ news) (hI : IntsAre vs ns) (h : Q (.bool (!ns.contains k)) s) : wpAny (model prog w) A (compareOp .NotIn (.int k t) (.ref l)) Q E s :=
  kf_notin N hp (ints_kf hI) (by rw [ints_any hI]) h
end
end
section
theorem words_w56 : True := by
  w_top off
  k_with_none
  (k_with "eval Dict nil nil" => (k_here; k_dflt (refine' newDict_K ?k1 ?k2 (TopRead.nolimit (by k_asm)) ?_; (case k1 => k_asm); (case k2 => k_asm); k_whole); intro dd h' od F' N' dl dlo dhs dfs dhi dfi; (try k_lt dl); (try k_sweep)))
  (k_with "call ref" => (k_here; (with_reducible show wpAny _ _ (call (Value.ref 89) _) _ _ _); k_dflt (refine' next_N ?B ?F ?X ?T ?hk ?hd ?hu ?N ?U ?hi ?hl ?_; (case B => k_asm); (case F => k_asm); (case X => k_asm); (case T => k_asm); (case hk => first | rfl | assumption); (case N => k_asm); (case U => k_updF); (case hi => with_reducible assumption); (case hl => omega); (case hd => k_room); (case hu => k_units); k_whole); intro h' tk' vs' ns' i' t' n' F' N' hI' hL'; (try dsimp only at N'); (try k_sweep)))
  (k_with "call ref" => (k_here; (with_reducible show wpAny _ _ (call (Value.ref 96) _) _ _ _); k_dflt (refine' address_N ?B ?F ?X ?T ?hk ?hd ?hu ?N ?U ?hi ?hl ?b0 ?b1 ?_; (case B => k_asm); (case F => k_asm); (case X => k_asm); (case T => k_asm); (case hk => first | rfl | assumption); (case N => k_asm); (case U => k_updF); (case hi => with_reducible assumption); (case hl => omega); (case b0 => omega); (case b1 => omega); (case hd => k_room); (case hu => k_units); k_whole); intro h' tk' vs' ns' i' t' n' F' N' hI' hL' hb0' hb1'; (try dsimp only at N'); (try k_sweep)))
  (k_with "call ref" => (k_here; (with_reducible show wpAny _ _ (call (Value.ref 82) _) _ _ _); k_dflt (refine' row_N ?B ?F ?X ?T ?hk ?hd ?hu ?N ?l ?hi ?hl ?_; (case B => k_asm); (case F => k_asm); (case X => k_asm); (case T => k_asm); (case hk => first | rfl | assumption); (case N => k_asm); (case l => with_reducible assumption); (case hi => with_reducible assumption); (case hl => omega); (case hd => k_room); (case hu => k_units); k_whole); intro h' tk' row vs' ns' n' F' N' rne hI' hL'; (try dsimp only at N'); (try k_sweep)))
  (k_with "call ref" => (k_here; (with_reducible show wpAny _ _ (call (Value.ref 103) _) _ _ _); refine Stop.out ?_))
  trivial
/-- a truth told on a branch -/
noncomputable def AfterBool (s1 : Shared) (h₀ : Heap) (L : Addr) (rest : List (Addr × Obj)) (P : (Str → Option Value) → Bool → Prop) (v : Value) (s' : Shared) : Prop :=
  ∃ (h' : Heap) (tk' : Nat) (c : Bool) (m' : Str → Option Value), v = .bool c ∧ s' = { s1 with heap := h', toks := tk' } ∧ Fr h₀ L h' m' ∧ News h₀ L h' rest ∧ P m' c
theorem AfterBool.intro {s1 : Shared} {h₀ h' : Heap} {L : Addr} {rest : List (Addr × Obj)} {P : (Str → Option Value) → Bool → Prop} {tk' : Nat} {c : Bool} {m' : Str → Option Value} (F : Fr h₀ L h' m') (N : News h₀ L h' rest) (p : P m' c) :
    AfterBool s1 h₀ L rest P (.bool c) { s1 with heap := h', toks := tk' } := ⟨h', tk', c, m', rfl, rfl, F, N, p⟩
/-- the row behind the last one would be come to -/
noncomputable def OverIs (code : List Ins) (b : Int) (met : List Int) (c : Bool) : Prop :=
  ∃ I, At code b (b + (code.length : Int) - 1) I ∧ c = (met.contains (b + (code.length : Int) - 1) && I.falls)
theorem OverIs.raised {code : List Ins} {b en x : Int} {met : List Int} {c : Bool} {I : Ins} (o : OverIs code b met c) (v : Bfs code b en met code.length) (hR : Reach code b en x) (hA : At code b x I) (hf : I.falls = true) (he : x + 1 = b + (code.length : Int)) : c = true := by
  obtain ⟨J, hJ, rfl⟩ := o
  obtain rfl : x = b + (code.length : Int) - 1 := by omega
  obtain rfl := hA.one hJ
  have := v.all hR ⟨I, hA⟩
  rw [hf, Bool.and_true]
  simpa using this
theorem OverIs.told {code : List Ins} {b en : Int} {met seen : List Int} {c : Bool} (o : OverIs code b met c) (v : Bfs code b en met code.length) (u : Closed code b en seen) : c = false := by
  obtain ⟨J, hJ, rfl⟩ := o
  cases hm : met.contains (b + (code.length : Int) - 1) with
  | false => rfl
  | true =>
    cases hf : J.falls with
    | false => rfl
    | true =>
      have hmem : b + (code.length : Int) - 1 ∈ met := by simpa using hm
      exact absurd (by omega) (u.goes _ (u.all (v.reach _ hmem) ⟨J, hJ⟩) J hJ hf)
theorem told_sorted {code : List Ins} {b en : Int} {met seen a c : List Int} (v : Bfs code b en met code.length) (u : Closed code b en seen) (ha : a.Perm seen) (ha' : a.Pairwise (· ≤ ·)) (hc : c.Perm met) (hc' : c.Pairwise (· ≤ ·)) : a = c :=
  lks_uniq ((ha.trans (u.perm v)).trans hc.symm) ha' hc'
theorem news_last {prog : Program} {w : World} {A : Around} {E : Value → Shared → Prop} {s : Shared} {h₀ : Heap} {L l : Addr} {news : List (Addr × Obj)} {vs : List Value} {n : Nat} {Q : Value → Shared → Prop} {value slice : PySem.Expr} {u : Tok} {v : Value}
    (N : News h₀ L s.heap news) (hp : (l, listOf vs.toArray n) ∈ news) (hv : vs[vs.length - 1]? = some v) (h : Q v s)
    (hs : subscripted slice false (.ref l) (.int (-1) u) = operate [.ref l, .int (-1) u] (getItem (.ref l) (.int (-1) u)) := by with_unfolding_all rfl) (hg : ∀ r, letTemporaryGo value (.ref l) r = pure () := by intro _; with_unfolding_all rfl) :
    wpAny (model prog w) A (subscriptTail value slice (.ref l) (.int (-1) u)) Q E s := by
  rcases List.eq_nil_or_concat vs with rfl | ⟨vi, x, e⟩
  · cases hv
  · rw [List.concat_eq_append] at e
    subst e
    have : x = v := by simpa using hv
    subst this
    exact item_last ⟨_, (N _ hp).1, rfl, n, rfl⟩ h hs hg
end
section
theorem words_w59 : True := by
  w_top off
  k_with_none
  (k_with "eval Dict nil nil" => (k_here; k_dflt (refine' newDict_K ?k1 ?k2 (TopRead.nolimit (by k_asm)) ?_; (case k1 => k_asm); (case k2 => k_asm); k_whole); intro dd h' od F' N' dl dlo dhs dfs dhi dfi; (try k_lt dl); (try k_sweep)))
  (k_with "call ref" => (k_here; (with_reducible show wpAny _ _ (call (Value.ref 89) _) _ _ _); k_dflt (refine' next_N ?B ?F ?X ?T ?hk ?hd ?hu ?N ?U ?hi ?hl ?_; (case B => k_asm); (case F => k_asm); (case X => k_asm); (case T => k_asm); (case hk => first | rfl | assumption); (case N => k_asm); (case U => k_updF); (case hi => with_reducible assumption); (case hl => omega); (case hd => k_room); (case hu => k_units); k_whole); intro h' tk' vs' ns' i' t' n' F' N' hI' hL'; (try dsimp only at N'); (try k_sweep)))
  (k_with "call ref" => (k_here; (with_reducible show wpAny _ _ (call (Value.ref 96) _) _ _ _); k_dflt (refine' address_N ?B ?F ?X ?T ?hk ?hd ?hu ?N ?U ?hi ?hl ?b0 ?b1 ?_; (case B => k_asm); (case F => k_asm); (case X => k_asm); (case T => k_asm); (case hk => first | rfl | assumption); (case N => k_asm); (case U => k_updF); (case hi => with_reducible assumption); (case hl => omega); (case b0 => omega); (case b1 => omega); (case hd => k_room); (case hu => k_units); k_whole); intro h' tk' vs' ns' i' t' n' F' N' hI' hL' hb0' hb1'; (try dsimp only at N'); (try k_sweep)))
  (k_with "call ref" => (k_here; (with_reducible show wpAny _ _ (call (Value.ref 82) _) _ _ _); k_dflt (refine' row_N ?B ?F ?X ?T ?hk ?hd ?hu ?N ?l ?hi ?hl ?_; (case B => k_asm); (case F => k_asm); (case X => k_asm); (case T => k_asm); (case hk => first | rfl | assumption); (case N => k_asm); (case l => with_reducible assumption); (case hi => with_reducible assumption); (case hl => omega); (case hd => k_room); (case hu => k_units); k_whole); intro h' tk' row vs' ns' n' F' N' rne hI' hL'; (try dsimp only at N'); (try k_sweep)))
  (k_with "call ref" => (k_here; (with_reducible show wpAny _ _ (call (Value.ref 103) _) _ _ _); refine Stop.out ?_))
  trivial
/-- while this stands the walk stops at a branch -/
inductive IfGate : Prop
  | mk
inductive ExGate : Prop
  | mk
inductive RowGate : Prop
  | mk
inductive OvGate : Prop
  | mk
section
theorem words_w57 : True := by
  w_top off
  k_with_none
  (k_with "eval Dict nil nil" => (k_here; k_dflt (refine' newDict_K ?k1 ?k2 (TopRead.nolimit (by k_asm)) ?_; (case k1 => k_asm); (case k2 => k_asm); k_whole); intro dd h' od F' N' dl dlo dhs dfs dhi dfi; (try k_lt dl); (try k_sweep)))
  (k_with "call ref" => (k_here; (with_reducible show wpAny _ _ (call (Value.ref 89) _) _ _ _); k_dflt (refine' next_N ?B ?F ?X ?T ?hk ?hd ?hu ?N ?U ?hi ?hl ?_; (case B => k_asm); (case F => k_asm); (case X => k_asm); (case T => k_asm); (case hk => first | rfl | assumption); (case N => k_asm); (case U => k_updF); (case hi => with_reducible assumption); (case hl => omega); (case hd => k_room); (case hu => k_units); k_whole); intro h' tk' vs' ns' i' t' n' F' N' hI' hL'; (try dsimp only at N'); (try k_sweep)))
  (k_with "call ref" => (k_here; (with_reducible show wpAny _ _ (call (Value.ref 96) _) _ _ _); k_dflt (refine' address_N ?B ?F ?X ?T ?hk ?hd ?hu ?N ?U ?hi ?hl ?b0 ?b1 ?_; (case B => k_asm); (case F => k_asm); (case X => k_asm); (case T => k_asm); (case hk => first | rfl | assumption); (case N => k_asm); (case U => k_updF); (case hi => with_reducible assumption); (case hl => omega); (case b0 => omega); (case b1 => omega); (case hd => k_room); (case hu => k_units); k_whole); intro h' tk' vs' ns' i' t' n' F' N' hI' hL' hb0' hb1'; (try dsimp only at N'); (try k_sweep)))
  (k_with "call ref" => (k_here; (with_reducible show wpAny _ _ (call (Value.ref 82) _) _ _ _); k_dflt (refine' row_N ?B ?F ?X ?T ?hk ?hd ?hu ?N ?l ?hi ?hl ?_; (case B => k_asm); (case F => k_asm); (case X => k_asm); (case T => k_asm); (case hk => first | rfl | assumption); (case N => k_asm); (case l => with_reducible assumption); (case hi => with_reducible assumption); (case hl => omega); (case hd => k_room); (case hu => k_units); k_whole); intro h' tk' row vs' ns' n' F' N' rne hI' hL'; (try dsimp only at N'); (try k_sweep)))
  (k_with "call ref" => (k_here; (with_reducible show wpAny _ _ (call (Value.ref 103) _) _ _ _); refine Stop.out ?_))
  (k_with "exec For Name Name cons nil" => walk_at "m for")
  (k_with "exec For Name Subscript cons nil" => walk_at "m for")
  (k_with "exec For Name Call cons nil" => walk_at "m for")
  (k_with "exec For Name BinOp cons nil" => walk_at "m for")
  (k_with "pyIter ref" => refine Stop.out ?_)
  (k_with "exec Assign cons ListComp" => (k_here; k_dflt (refine LCg.Assign_ListComp_U (F₀ := by k_asm) (by rfl) (by with_unfolding_all rfl) (by rfl) (by decide) (by rfl) (by decide) (by rfl) (by rfl) (by rfl) ?_); k_dflt lcg_toSrc))
  (k_with "CompSrc" => refine Stop.out ?_)
  (k_with "call builtin:len" => (k_here; (with_reducible show wpAny _ _ (call (Value.builtin "len") [Value.ref _]) _ _ _); (with_reducible rename RowGate => hRowsX); k_dflt (refine' news_len ?N ?p ?z ?_; (case N => k_asm); (case p => k_mem); (case z => omega); k_whole); intro t' tk'))
  (k_with "call ref" => (with_reducible show wpAny _ _ (call (Value.ref 82) _) _ _ _; refine Stop.out ?_))
  (k_with "call ref" => (with_reducible show wpAny _ _ (call (Value.ref 108) _) _ _ _; refine Stop.out ?_))
  (k_with "call ref" => (with_reducible show wpAny _ _ (call (Value.ref 89) _) _ _ _; (with_reducible rename News _ _ _ (_ ++ _) => hNapp); refine Stop.out ?_))
  (k_with "call ref" => (with_reducible show wpAny _ _ (call (Value.ref 89) _) _ _ _; (with_reducible rename RowGate => hRowsX); refine Stop.out ?_))
  (k_with "call ref" => (with_reducible show wpAny _ _ (call (Value.ref 96) _) _ _ _; (with_reducible rename RowGate => hRowsX); refine Stop.out ?_))
  (k_with "exec If" => ((with_reducible rename IfGate => hGateX); refine Stop.out ?_))
  (k_with "eval IfExp" => ((with_reducible rename ExGate => hGateX); refine Stop.out ?_))
  (k_with "subscriptTail Name Name ref int" => ((with_reducible rename RowGate => hRowsX); refine Stop.out ?_))
  (k_with "subscriptTail Name BinOp ref int" => ((with_reducible rename RowGate => hRowsX); refine Stop.out ?_))
  (k_with "call ref" => (with_reducible show wpAny _ _ (call (Value.ref 120) _) _ _ _; refine Stop.out ?_))
  (k_with "call ref" => (with_reducible show wpAny _ _ (call (Value.ref 115) _) _ _ _; refine Stop.out ?_))
  (k_with "compareOp NotIn int ref" => refine Stop.out ?_)
  (k_with "eval BoolOp" => ((with_reducible rename OvGate => hGateX); refine Stop.out ?_))
  (k_with "compareOp In int ref" => refine Stop.out ?_)
  (k_with "subscriptTail Name UnaryOp ref int" => refine Stop.out ?_)
  (k_with "subscriptTail Name UnaryOp ref" => refine Stop.out ?_)
  (k_with "call ref" => (with_reducible show wpAny _ _ (call (Value.ref 75) _) _ _ _; refine Stop.out ?_))
  (k_with "call builtin:sorted" => refine Stop.out ?_)
  (k_with "compareOp Eq ref ref" => refine Stop.out ?_)
  trivial
set_option maxHeartbeats 8000000 in
theorem w1 : PySem.Challenge.rw_no0151_01.Holds := hd (by
  w_strict (
    k_go0
    all_goals (try k_fold)
    k_steps
    (rename Fr _ _ _ _ => F1); (rename News _ _ _ _ => N1)
    (rename World => w); (rename Shared => s1); (rename Ground _ _ _ _ _ _ _ _ _ => G0)
    (rename Below _ _ _ _ => B0); (rename Top _ _ _ _ _ _ => T0); (rename Frag.In _ _ => X0); (rename IntsAre _ _ => hI0); (rename Heap.IsList _ _ _ => hL0); (rename ¬ (_ < _) => hcond)
    have hlen0 := hI0.length
    refine Stop.mk (row_N B0 F1 X0 T0 rfl (by decide) (by decide) N1 hL0 hI0 (by omega) ?_)
    intro h2 tk2 row vs2 ns2 n2 F2 N2 rne hI2 hL2
    have hr1 := rne _ (.head _)
    have hr2 := rne _ (.tail _ (.head _))
    dsimp only at hr1 hr2
    clear F1 N1 rne
    k_steps
    (rename Fr _ _ _ _ => F1); (rename News _ _ _ _ => N1)
    simp only [List.cons_append, List.nil_append] at N1
    refine Stop.mk ?_
    k_steps
    (rename Fr _ _ _ _ => F1); (rename News _ _ _ _ => N1)
    simp only [List.cons_append, List.nil_append] at N1
    rename_i hA1 oR hcr tkA1 hA2 tkA2 vsA nsA xMany tA nA hIA hLA hA3 tkA3 FA NA hA4 oB FB NB hcb hA5 tkA5 t1 u1 v1 R1 hkA
    clear FA NA FB NB
    have hm0 := fmod_lo xMany (n := 16) (by decide)
    have hm1 := fmod_hi xMany (n := 16) (by decide)
    have hb0 := fmod_lo i' (n := 30) (by decide)
    have hb1 := fmod_hi i' (n := 30) (by decide)
    obtain ⟨k, hk⟩ : ∃ k : Nat, 1 + xMany.fmod 16 = (k : Int) := ⟨(1 + xMany.fmod 16).toNat, by omega⟩
    have hk1 : 1 ≤ k := by omega
    have hk2 : k ≤ 16 := by omega
    rw [hk] at R1 F1 ⊢
    generalize i'.fmod 30 = b at *
    have hrg := range_ones (b := (k : Int)) (by omega) (by omega)
    rw [Int.toNat_natCast] at hrg
    have hL1 : @Ne Nat (s1.heap.objs.size + 1 + 1) (s1.heap.objs.size + 1) := by omega
    refine Stop.mk (LCg.CompSrc.range rfl F1 N1 R1 hrg.1 hrg.2 (by rw [PySem.sizeLine_eq]; omega) fun g9 => comp_ind (fun i ys nw => ∃ vs n ns code led, nw = (row, listOf vs.toArray n) :: (s1.heap.objs.size + 1 + 1, oB) :: (s1.heap.objs.size + 1, oR) :: led ∧ IntsAre vs ns ∧ vs.length ≤ 200 ∧ code.length = i ∧
      RowsAt w ys code led ∧ ∀ p ∈ led, p.1 ≠ row ∧ p.1 ≠ s1.heap.objs.size + 1 + 1 ∧ p.1 ≠ s1.heap.objs.size + 1) ?_ ?_ ?_)
    · exact ⟨vs', n', ns', [], [], rfl, hI', hL', rfl, RowsAt.nil, fun _ q => nomatch q⟩
    · rintro ys nw ⟨vs, n, ns, code, led, rfl, hIr, hLr, hcl, hRows, hoff⟩
      clear F1 N1
      unfold LCg.FinA
      intro dA h tk9 F9 N9 o1
      have gate0 : RowGate := .mk
      have hoD : @Ne Nat row dA := o1.1
      have hoB : @Ne Nat (s1.heap.objs.size + 1 + 1) dA := o1.2.1
      have hoR : @Ne Nat (s1.heap.objs.size + 1) dA := o1.2.2.1
      clear o1
      k_steps
      (rename Fr _ _ _ _ => F1); (rename News _ _ _ _ => N1)
      have M1 : News T0.heap s1.heap.objs.size h ((row, listOf vs.toArray n) :: ((dA, LCg.lst ys) :: (s1.heap.objs.size + 1 + 1, oB) :: (s1.heap.objs.size + 1, oR) :: led)) := fun p hp => N1 p (by simp only [List.mem_cons] at hp ⊢; grind)
      have hneR : ∀ p ∈ ((dA, LCg.lst ys) :: (s1.heap.objs.size + 1 + 1, oB) :: (s1.heap.objs.size + 1, oR) :: led), p.1 ≠ row := by
        intro p hp
        simp only [List.mem_cons] at hp
        rcases hp with rfl | rfl | rfl | hp
        · exact fun q => hoD q.symm
        · exact hr1
        · exact hr2
        · exact (hoff p hp).1
      refine Stop.mk (address_L B0 F1 X0 T0 rfl (by decide) (by decide) M1 hneR hIr hLr hb0 (by omega) ?_)
      intro h4 tk4 vs4 ns4 en0 t4 n4 F4 N4 hI4 hL4 he0 he1
      clear F1 N1 M1
      have hkp : (0 : Int) < (k : Int) := by omega
      have gate : IfGate := .mk
      have gate2 : ExGate := .mk
      k_steps
      (rename Fr _ _ _ _ => F1); (rename News _ _ _ _ => N1)
      refine Stop.mk (wpAny_mono (Q := AfterIf s1 T0.heap s1.heap.objs.size row ((dA, LCg.lst ys) :: (s1.heap.objs.size + 1 + 1, oB) :: (s1.heap.objs.size + 1, oR) :: led) fun m' => m' (Str.ofString "rows") = some (.ref dA) ∧ (∃ t, m' (Str.ofString "many") = some (.int k t)) ∧ ∃ en t, m' (Str.ofString "entry") = some (.int en t)) ?_ ?_ fun _ _ e => e)
      · (rename IfGate => gt); clear gt
        k_steps
        (rename Fr _ _ _ _ => F1); (rename News _ _ _ _ => N1)
        refine Stop.mk (next_L B0 F1 X0 T0 rfl (by decide) (by decide) N1 hneR hI4 hL4 ?_)
        intro h5 tk5 vs5 ns5 x5 t5 n5 F5 N5 hI5 hL5
        clear F1 N1
        k_steps
        all_goals ((rename Fr _ _ _ _ => F1); (rename News _ _ _ _ => N1); exact AfterIf.intro F1 N1 ⟨rfl, ⟨_, rfl⟩, _, _, rfl⟩)
      · rintro _ _ ⟨rfl, h5, tk5, vs5, n5, m5, rfl, F5, N5, hq1, ⟨tm, hq2⟩, en, te, hq3⟩
        have F6_0 := fr_eta (x := Str.ofString "rows") (v := .ref dA) (by exact hq1) F5
        have F6_1 := fr_eta (x := Str.ofString "many") (v := .int k tm) (by rw [if_neg (by decide)]; exact hq2) F6_0
        clear F6_0
        have F6 := fr_eta (x := Str.ofString "entry") (v := .int en te) (by rw [if_neg (by decide), if_neg (by decide)]; exact hq3) F6_1
        clear F6_1
        clear F5
        dsimp only
        k_steps
        (rename Fr _ _ _ _ => F1); (rename News _ _ _ _ => N1)
        have hcode : code.length = k := hcl
        refine Stop.mk (wpAny_mono (Q := AfterNew s1 T0.heap s1.heap.objs.size ((row, listOf vs5.toArray n5) :: (dA, LCg.lst ys) :: (s1.heap.objs.size + 1 + 1, oB) :: (s1.heap.objs.size + 1, oR) :: led) fun m' us => m' (Str.ofString "rows") = some (.ref dA) ∧ m' (Str.ofString "many") = some (.int k tm) ∧ m' (Str.ofString "entry") = some (.int en te) ∧ ∃ met, IntsAre us met ∧ Bfs code b en met 0) ?_ ?_ fun _ _ e => e)
        · (rename ExGate => gt); clear gt
          k_steps
          · (rename b ≤ en => hc1); (rename en < b + _ => hc2); (rename _ ∧ _ => hl1)
            (rename Fr _ _ _ _ => F1); (rename News _ _ _ _ => N1)
            refine AfterNew.intro F1 N1 (fun p hp => ?_) ⟨rfl, rfl, rfl, [en], .cons _ _ .nil, Bfs.one hc1 (hcode ▸ hc2)⟩
            simp only [List.mem_cons] at hp
            rcases hp with rfl | rfl | rfl | rfl | hp
            · exact hl1.1
            · exact hl1.2.1
            · exact hl1.2.2.1
            · exact hl1.2.2.2.1
            · exact allLt_mem hl1.2.2.2.2 p hp
          all_goals (
            (rename _ ∧ _ => hl1)
            (rename Fr _ _ _ _ => F1); (rename News _ _ _ _ => N1)
            refine AfterNew.intro F1 N1 (fun p hp => ?_) ⟨rfl, rfl, rfl, [], .nil, Bfs.none (by omega)⟩
            simp only [List.mem_cons] at hp
            rcases hp with rfl | rfl | rfl | rfl | hp
            · exact hl1.1
            · exact hl1.2.1
            · exact hl1.2.2.1
            · exact hl1.2.2.2.1
            · exact allLt_mem hl1.2.2.2.2 p hp)
        · rintro _ _ ⟨h6, tk6, mt, us6, n6, m6, rfl, rfl, F6, N6, hne6, hq1, hq2, hq3, met, hI6, hBfs⟩
          clear F1
          have F7_0 := fr_eta (x := Str.ofString "rows") (v := .ref dA) (by exact hq1) F6
          have F7_1 := fr_eta (x := Str.ofString "many") (v := .int k tm) (by rw [if_neg (by decide)]; exact hq2) F7_0
          clear F7_0
          have F7 := fr_eta (x := Str.ofString "entry") (v := .int en te) (by rw [if_neg (by decide), if_neg (by decide)]; exact hq3) F7_1
          clear F7_1
          clear F6
          k_steps
          (rename Fr _ _ _ _ => F1); (rename News _ _ _ _ => N1)
          (rename IsRange _ _ _ _ _ _ _ _ => R2)
          (rename IfGate => gt); clear gt
          refine Stop.mk (rangeG (n := k) (fun i m nx => m (Str.ofString "rows") = some (.ref dA) ∧ m (Str.ofString "many") = some (.int k tm) ∧ m (Str.ofString "entry") = some (.int en te) ∧ m (Str.ofString "met") = some (.ref mt) ∧
            ∃ us n met, nx = (mt, listOf us.toArray n) :: (row, listOf vs5.toArray n5) :: (dA, LCg.lst ys) :: (s1.heap.objs.size + 1 + 1, oB) :: (s1.heap.objs.size + 1, oR) :: led ∧ IntsAre us met ∧ Bfs code b en met i) rfl R2 hrg.1 hrg.2 F1 N1 ?_ ?_ ?_)
          · exact ⟨rfl, rfl, rfl, rfl, us6, n6, met, rfl, hI6, hBfs⟩
          · rintro i ti m₁ nx h tk9 own hilt hoff9 ⟨hz1, hz2, hz3, hz4, us, n7, met, rfl, hI7, hB7⟩ F2 N2
            clear F1 N1 R2
            simp only [List.cons_append] at N2
            have F3_0 := fr_eta (x := Str.ofString "rows") (v := .ref dA) (by rw [if_neg (by decide)]; exact hz1) F2
            have F3_1 := fr_eta (x := Str.ofString "many") (v := .int k tm) (by rw [if_neg (by decide), if_neg (by decide)]; exact hz2) F3_0
            clear F3_0
            have F3_2 := fr_eta (x := Str.ofString "entry") (v := .int en te) (by rw [if_neg (by decide), if_neg (by decide), if_neg (by decide)]; exact hz3) F3_1
            clear F3_1
            have F3 := fr_eta (x := Str.ofString "met") (v := .ref mt) (by rw [if_neg (by decide), if_neg (by decide), if_neg (by decide), if_neg (by decide)]; exact hz4) F3_2
            clear F3_2
            clear F2
            have hul := hI7.length
            have hml : met.length ≤ k := by have := hB7.many; omega
            k_steps
            rotate_left
            · (rename Fr _ _ _ _ => F1); (rename News _ _ _ _ => N1)
              (rename ¬ (_ < _) => hge)
              exact endG F1 N1 rfl ⟨rfl, rfl, rfl, rfl, us, n7, met, rfl, hI7, hB7.skip (by omega)⟩ hoff9
            · (rename Fr _ _ _ _ => F1); (rename News _ _ _ _ => N1)
              (rename _ < (met.length : Int) => hlt)
              have hli : i < met.length := by omega
              obtain ⟨a, ha⟩ : ∃ a, met[i]? = some a := ⟨met[i], by simp⟩
              obtain ⟨ta, hva⟩ : ∃ t, us[(0 + (i : Int)).toNat]? = some (.int a t) := by
                rw [show (0 + (i : Int)).toNat = i by omega]; exact hI7.get i a ha
              have ham : a ∈ met := List.mem_of_getElem? ha
              obtain ⟨I, hA⟩ := hB7.inr a ham
              have hal := hA.lt
              have hab := hA.1
              obtain ⟨v, hv⟩ : ∃ v, ys[(a - b).toNat]? = some v := ⟨ys[(a - b).toNat]'(by rw [hRows.1]; omega), by simp⟩
              have hIns := hRows.2 _ v I hv hA.2
              refine Stop.mk (news_item N1 (.head _) (by omega) (by omega) hva ?_)
              k_steps
              (rename Fr _ _ _ _ => F1); (rename News _ _ _ _ => N1)
              refine Stop.mk (news_item (vs := ys) (n := ys.length) N1 (List.Mem.tail _ (List.Mem.tail _ (List.Mem.head _))) (by rw [hRows.1]; omega) (by omega) hv ?_)
              k_steps
              (rename Fr _ _ _ _ => F1); (rename News _ _ _ _ => N1)
              have hSt : ∀ (h' : Heap), News T0.heap s1.heap.objs.size h' ((mt, listOf us.toArray n7) :: (row, listOf vs5.toArray n5) :: (dA, LCg.lst ys) :: (s1.heap.objs.size + 1 + 1, oB) :: (s1.heap.objs.size + 1, oR) :: (led ++ own)) → Stand led h' :=
                fun h' N p hp => (N p (.tail _ (.tail _ (.tail _ (.tail _ (.tail _ (List.mem_append_left _ hp))))))).1
              refine Stop.mk (named_N B0 F1 X0 T0 rfl (by decide) (by decide) N1 (hIns _ (hSt _ N1)) ?_)
              intro h8 tk8 nl us8 n8 F8 N8 ne8 hI8
              clear F1 N1
              k_steps
              (rename Fr _ _ _ _ => F1); (rename News _ _ _ _ => N1)
              refine Stop.mk (wpAny_mono (Q := AfterNew s1 T0.heap s1.heap.objs.size ((nl, listOf us8.toArray n8) :: (mt, listOf us.toArray n7) :: (row, listOf vs5.toArray n5) :: (dA, LCg.lst ys) :: (s1.heap.objs.size + 1 + 1, oB) :: (s1.heap.objs.size + 1, oR) :: (led ++ own)) fun m' us9 => m' (Str.ofString "rows") = some (.ref dA) ∧ m' (Str.ofString "many") = some (.int k tm) ∧ m' (Str.ofString "entry") = some (.int en te) ∧ m' (Str.ofString "met") = some (.ref mt) ∧
                IntsAre us9 (if I.falls = true then [a + 1] else [])) ?_ ?_ fun _ _ e => e)
              · (rename ExGate => gt); clear gt
                k_steps
                (rename Fr _ _ _ _ => F1); (rename News _ _ _ _ => N1)
                refine Stop.mk (falls_N B0 F1 X0 T0 rfl (by decide) (by decide) N1 (hIns _ (hSt _ fun p hp => N1 p (.tail _ hp))) ?_)
                intro h9 tk9 F9 N9
                clear F1 N1
                k_steps
                · (rename I.falls = true => hf)
                  (rename Fr _ _ _ _ => F1); (rename News _ _ _ _ => N1)
                  refine Stop.mk (news_item N1 (.tail _ (.head _)) (by omega) (by omega) hva ?_)
                  k_steps
                  (rename _ ∧ _ => hl1)
                  (rename Fr _ _ _ _ => F1); (rename News _ _ _ _ => N1)
                  refine AfterNew.intro F1 N1 (fun p hp => ?_) ⟨rfl, rfl, rfl, rfl, by rw [if_pos hf]; exact .cons _ _ .nil⟩
                  simp only [List.mem_cons] at hp
                  rcases hp with rfl | rfl | rfl | rfl | rfl | rfl | hp
                  · exact hl1.1
                  · exact hl1.2.1
                  · exact hl1.2.2.1
                  · exact hl1.2.2.2.1
                  · exact hl1.2.2.2.2.1
                  · exact hl1.2.2.2.2.2.1
                  · exact allLt_mem hl1.2.2.2.2.2.2 p hp
                · (rename I.falls = false => hf)
                  (rename _ ∧ _ => hl1)
                  (rename Fr _ _ _ _ => F1); (rename News _ _ _ _ => N1)
                  refine AfterNew.intro (vs' := []) F1 N1 (fun p hp => ?_) ⟨rfl, rfl, rfl, rfl, by rw [if_neg (by rw [hf]; exact Bool.false_ne_true)]; exact .nil⟩
                  simp only [List.mem_cons] at hp
                  rcases hp with rfl | rfl | rfl | rfl | rfl | rfl | hp
                  · exact hl1.1
                  · exact hl1.2.1
                  · exact hl1.2.2.1
                  · exact hl1.2.2.2.1
                  · exact hl1.2.2.2.2.1
                  · exact hl1.2.2.2.2.2.1
                  · exact allLt_mem hl1.2.2.2.2.2.2 p hp
              · rintro _ _ ⟨h9, tk9, gl, us9, n9, m9, rfl, rfl, F9, N9, ne9, hq1, hq2, hq3, hq4, hI9⟩
                clear F1
                (rename ExGate => gt); clear gt
                have F10_0 := fr_eta (x := Str.ofString "rows") (v := .ref dA) (by exact hq1) F9
                have F10_1 := fr_eta (x := Str.ofString "many") (v := .int k tm) (by rw [if_neg (by decide)]; exact hq2) F10_0
                clear F10_0
                have F10_2 := fr_eta (x := Str.ofString "entry") (v := .int en te) (by rw [if_neg (by decide), if_neg (by decide)]; exact hq3) F10_1
                clear F10_1
                have F10 := fr_eta (x := Str.ofString "met") (v := .ref mt) (by rw [if_neg (by decide), if_neg (by decide), if_neg (by decide)]; exact hq4) F10_2
                clear F10_2
                clear F9
                k_steps
                have hil : ((if I.falls = true then [a + 1] else []) : List Int).length ≤ 1 := by split <;> simp
                have htl := hIns _ (hSt _ fun p hp => N9 p (.tail _ (.tail _ hp)))
                have htl := htl.tgts_len
                refine kmk_add_ints F10 N9 (N9.isList (.tail _ (.head _))) (N9.isList (.head _)) hI8 hI9 ?_ (by rw [PySem.sizeLine_eq]; omega)
                intro D wsD hD FD ND ltD hID
                rw [show I.tgts ++ (if I.falls = true then [a + 1] else []) = succs I a from rfl] at hID
                have hDl := hID.length
                clear F10 N9
                k_steps
                have ND' : News T0.heap s1.heap.objs.size hD ((D, listOf wsD.toArray 0) :: (mt, listOf us.toArray n7) :: (row, listOf vs5.toArray n5) :: (dA, LCg.lst ys) :: (s1.heap.objs.size + 1 + 1, oB) :: (s1.heap.objs.size + 1, oR) :: (led ++ own)) := fun p hp => ND p (by
                  rcases List.mem_cons.mp hp with rfl | hp
                  · exact .head _
                  · exact .tail _ (.tail _ (.tail _ hp)))
                clear ND
                refine Stop.mk (listG (vs := wsD) (fun j m nx => m (Str.ofString "rows") = some (.ref dA) ∧ m (Str.ofString "many") = some (.int k tm) ∧ m (Str.ofString "entry") = some (.int en te) ∧ m (Str.ofString "met") = some (.ref mt) ∧
                  ∃ us n met, nx = (D, listOf wsD.toArray 0) :: (mt, listOf us.toArray n) :: (row, listOf vs5.toArray n5) :: (dA, LCg.lst ys) :: (s1.heap.objs.size + 1 + 1, oB) :: (s1.heap.objs.size + 1, oR) :: (led ++ own) ∧ IntsAre us met ∧ Bfs code b en met i ∧ met[i]? = some a ∧
                    ∀ t ∈ (succs I a).take j, t ∈ met ∨ ∀ I', ¬ At code b t I') rfl (ND'.isList (.head _)) (.inr ⟨listOf wsD.toArray 0, ?_⟩) (ND' _ (.head _)).2.1 FD ND' ?_ ?_ ?_)
                · rintro j m nx ⟨-, -, -, -, us, n, met, rfl, -⟩
                  exact .head _
                · exact ⟨rfl, rfl, rfl, rfl, us, n7, met, rfl, hI7, hB7, ha, fun t ht => by simp at ht⟩
                · rintro j v m₂ nx h tk9 own2 hvj hoff ⟨hq1, hq2, hq3, hq4, us, n7, met, rfl, hI7, hB7, ha, hgoals⟩ F2 N2
                  clear FD ND'
                  simp only [List.cons_append] at N2
                  have F3_0 := fr_eta (x := Str.ofString "rows") (v := .ref dA) (by rw [if_neg (by decide)]; exact hq1) F2
                  have F3_1 := fr_eta (x := Str.ofString "many") (v := .int k tm) (by rw [if_neg (by decide), if_neg (by decide)]; exact hq2) F3_0
                  clear F3_0
                  have F3_2 := fr_eta (x := Str.ofString "entry") (v := .int en te) (by rw [if_neg (by decide), if_neg (by decide), if_neg (by decide)]; exact hq3) F3_1
                  clear F3_1
                  have F3 := fr_eta (x := Str.ofString "met") (v := .ref mt) (by rw [if_neg (by decide), if_neg (by decide), if_neg (by decide), if_neg (by decide)]; exact hq4) F3_2
                  clear F3_2
                  clear F2
                  obtain ⟨t, t3, rfl, hk3⟩ := ints_at hID hvj
                  have htake : (succs I a).take (j + 1) = (succs I a).take j ++ [t] := by rw [List.take_add_one, hk3]; rfl
                  have hmem : t ∈ succs I a := List.mem_of_getElem? hk3
                  have hul := hI7.length
                  have hml : met.length ≤ k := by have := hB7.many; omega
                  have ham7 : a ∈ met := List.mem_of_getElem? ha
                  have hli7 : i < met.length := (List.getElem?_eq_some_iff.mp ha).1
                  have hgo : (∀ I', ¬ At code b t I') ∨ t ∈ met → ∀ x ∈ (succs I a).take (j + 1), x ∈ met ∨ ∀ I', ¬ At code b x I' := by
                    intro q x hx
                    rw [htake] at hx
                    rcases List.mem_append.mp hx with hx | hx
                    · exact hgoals x hx
                    · rw [List.mem_singleton.mp hx]; exact q.symm
                  k_steps
                  rotate_left 2
                  · (rename ¬ (_ ≤ t) => hc)
                    (rename Fr _ _ _ _ => F1); (rename News _ _ _ _ => N1)
                    exact endG F1 N1 rfl ⟨rfl, rfl, rfl, rfl, us, n7, met, rfl, hI7, hB7, ha, hgo (.inl fun I' q => hc q.1)⟩ hoff
                  · (rename b ≤ t => hc0); (rename t < b + _ => hc1)
                    (rename Fr _ _ _ _ => F1); (rename News _ _ _ _ => N1)
                    refine Stop.mk (notin_met N1 (.tail _ (.head _)) hI7 ?_)
                    cases hin : met.contains t with
                    | true =>
                      k_steps
                      (rename Fr _ _ _ _ => F1); (rename News _ _ _ _ => N1)
                      exact endG F1 N1 rfl ⟨rfl, rfl, rfl, rfl, us, n7, met, rfl, hI7, hB7, ha, hgo (.inr (by simpa using hin))⟩ hoff
                    | false =>
                      k_steps
                      (rename Fr _ _ _ _ => F1); (rename News _ _ _ _ => N1)
                      have hDm : @Ne Nat D mt := Nat.ne_of_gt (ltD _ (.tail _ (.tail _ (.head _))))
                      refine append_K F1 N1 (.tail hDm (.head ?_)) ?_ (by rw [PySem.sizeLine_eq, List.size_toArray]; omega)
                      · intro p hp
                        have hp' : p ∈ ((row, listOf vs5.toArray n5) :: (dA, LCg.lst ys) :: (s1.heap.objs.size + 1 + 1, oB) :: (s1.heap.objs.size + 1, oR) :: led) ∨ p ∈ own ∨ p ∈ own2 := by
                          simp only [List.mem_cons, List.mem_append] at hp ⊢; grind
                        rcases hp' with hp | hp | hp
                        · exact hne6 p hp
                        · exact hoff9 p hp _ (.head _)
                        · exact hoff p hp _ (.tail _ (.head _))
                      · intro h' F' N'
                        clear F1 N1
                        rw [List.push_toArray] at N'
                        k_steps
                        (rename Fr _ _ _ _ => F1); (rename News _ _ _ _ => N1)
                        have hBt := hB7.take (by omega) hc0 (hcode ▸ hc1) (by simpa using hin) (Reach.step (hB7.reach a ham7) hA hmem)
                        have hnew : ∀ x ∈ (succs I a).take (j + 1), x ∈ met ++ [t] ∨ ∀ I', ¬ At code b x I' := by
                          intro x hx
                          rw [htake] at hx
                          rcases List.mem_append.mp hx with hx | hx
                          · exact (hgoals x hx).imp (fun q => List.mem_append_left _ q) id
                          · exact .inl (List.mem_append_right _ hx)
                        refine endG F1 N1 rfl ⟨rfl, rfl, rfl, rfl, us ++ [.int t t3], n7 + 1, met ++ [t], rfl, IntsAre.append hI7 (.cons _ _ .nil), hBt, ?_, hnew⟩ hoff
                        rw [List.getElem?_append_left (by omega)]; exact ha
                  · (rename ¬ (t < _) => hc)
                    (rename Fr _ _ _ _ => F1); (rename News _ _ _ _ => N1)
                    exact endG F1 N1 rfl ⟨rfl, rfl, rfl, rfl, us, n7, met, rfl, hI7, hB7, ha, hgo (.inl fun I' q => hc (hcode ▸ q.lt))⟩ hoff
                · rintro m₂ nx h tk9 ⟨hq1, hq2, hq3, hq4, us, n7, met, rfl, hI7, hB7, ha, hgoals⟩ F2 N2
                  clear FD ND'
                  rw [hDl, List.take_of_length_le (Nat.le_refl _)] at hgoals
                  have F3_0 := fr_eta (x := Str.ofString "rows") (v := .ref dA) (by exact hq1) F2
                  have F3_1 := fr_eta (x := Str.ofString "many") (v := .int k tm) (by rw [if_neg (by decide)]; exact hq2) F3_0
                  clear F3_0
                  have F3_2 := fr_eta (x := Str.ofString "entry") (v := .int en te) (by rw [if_neg (by decide), if_neg (by decide)]; exact hq3) F3_1
                  clear F3_1
                  have F3 := fr_eta (x := Str.ofString "met") (v := .ref mt) (by rw [if_neg (by decide), if_neg (by decide), if_neg (by decide)]; exact hq4) F3_2
                  clear F3_2
                  clear F2
                  have N3 : News T0.heap s1.heap.objs.size h ((mt, listOf us.toArray n7) :: (row, listOf vs5.toArray n5) :: (dA, LCg.lst ys) :: (s1.heap.objs.size + 1 + 1, oB) :: (s1.heap.objs.size + 1, oR) :: (led ++ own)) := fun p hp => N2 p (.tail _ hp)
                  clear N2
                  dsimp only
                  k_steps
                  (rename Fr _ _ _ _ => F1); (rename News _ _ _ _ => N1)
                  exact endG F1 N1 rfl ⟨rfl, rfl, rfl, rfl, us, n7, met, rfl, hI7, hB7.step ha hA hgoals⟩ hoff9
          · rintro m₁ nx h tk9 ⟨hz1, hz2, hz3, hz4, us, n7, met, rfl, hI7, hB7⟩ F2 N2
            clear F1 N1 R2
            have F3_0 := fr_eta (x := Str.ofString "rows") (v := .ref dA) (by exact hz1) F2
            have F3_1 := fr_eta (x := Str.ofString "many") (v := .int k tm) (by rw [if_neg (by decide)]; exact hz2) F3_0
            clear F3_0
            have F3_2 := fr_eta (x := Str.ofString "entry") (v := .int en te) (by rw [if_neg (by decide), if_neg (by decide)]; exact hz3) F3_1
            clear F3_1
            have F3 := fr_eta (x := Str.ofString "met") (v := .ref mt) (by rw [if_neg (by decide), if_neg (by decide), if_neg (by decide)]; exact hz4) F3_2
            clear F3_2
            clear F2
            have hul := hI7.length
            have hml : met.length ≤ k := by have := hB7.many; omega
            have gate3 : OvGate := .mk
            dsimp only
            k_steps
            (rename Fr _ _ _ _ => F1); (rename News _ _ _ _ => N1)
            obtain ⟨I, hA⟩ : ∃ I, At code b (b + (code.length : Int) - 1) I := at_of (by omega) (by omega)
            obtain ⟨v, hv⟩ : ∃ v, ys[ys.length - 1]? = some v := ⟨ys[ys.length - 1]'(by rw [hRows.1]; omega), by simp⟩
            have hIns := hRows.2 (ys.length - 1) v I hv (by rw [hRows.1, ← hA.2]; congr 1; omega)
            have hStd : ∀ (h' : Heap) o, News T0.heap s1.heap.objs.size h' ((mt, o) :: (row, listOf vs5.toArray n5) :: (dA, LCg.lst ys) :: (s1.heap.objs.size + 1 + 1, oB) :: (s1.heap.objs.size + 1, oR) :: led) → Stand led h' :=
              fun h' o N p hp => (N p (.tail _ (.tail _ (.tail _ (.tail _ (.tail _ hp)))))).1
            refine Stop.mk (wpAny_mono (Q := AfterBool s1 T0.heap s1.heap.objs.size ((mt, listOf us.toArray n7) :: (row, listOf vs5.toArray n5) :: (dA, LCg.lst ys) :: (s1.heap.objs.size + 1 + 1, oB) :: (s1.heap.objs.size + 1, oR) :: led) fun m' c => m' (Str.ofString "rows") = some (.ref dA) ∧ m' (Str.ofString "many") = some (.int k tm) ∧ m' (Str.ofString "entry") = some (.int en te) ∧ m' (Str.ofString "met") = some (.ref mt) ∧ OverIs code b met c) ?_ ?_ fun _ _ e => e)
            · (rename OvGate => gt); clear gt
              k_steps
              (rename Fr _ _ _ _ => F1); (rename News _ _ _ _ => N1)
              refine Stop.mk (in_met N1 (.head _) hI7 ?_)
              cases hin : met.contains (b + ↑k - 1) with
              | true =>
                k_steps
                (rename Fr _ _ _ _ => F1); (rename News _ _ _ _ => N1)
                refine Stop.mk (news_last (vs := ys) (n := ys.length) N1 (.tail _ (.tail _ (.head _))) hv ?_)
                k_steps
                (rename Fr _ _ _ _ => F1); (rename News _ _ _ _ => N1)
                refine Stop.mk (falls_N B0 F1 X0 T0 rfl (by decide) (by decide) N1 (hIns _ (hStd _ _ N1)) ?_)
                intro h9 tk9 F9 N9
                clear F1 N1
                k_steps
                (rename Fr _ _ _ _ => F1); (rename News _ _ _ _ => N1)
                exact AfterBool.intro F1 N1 ⟨rfl, rfl, rfl, rfl, I, hA, by rw [hcode, hin, Bool.true_and]⟩
              | false =>
                k_steps
                (rename Fr _ _ _ _ => F1); (rename News _ _ _ _ => N1)
                exact AfterBool.intro F1 N1 ⟨rfl, rfl, rfl, rfl, I, hA, by rw [hcode, hin, Bool.false_and]⟩
            · rintro _ _ ⟨h9, tk9, ov, m9, rfl, rfl, F9, N9, hq1, hq2, hq3, hq4, hOv⟩
              clear F1 N1
              (rename OvGate => gt); clear gt
              have F10_0 := fr_eta (x := Str.ofString "rows") (v := .ref dA) (by exact hq1) F9
              have F10_1 := fr_eta (x := Str.ofString "many") (v := .int k tm) (by rw [if_neg (by decide)]; exact hq2) F10_0
              clear F10_0
              have F10_2 := fr_eta (x := Str.ofString "entry") (v := .int en te) (by rw [if_neg (by decide), if_neg (by decide)]; exact hq3) F10_1
              clear F10_1
              have F10 := fr_eta (x := Str.ofString "met") (v := .ref mt) (by rw [if_neg (by decide), if_neg (by decide), if_neg (by decide)]; exact hq4) F10_2
              clear F10_2
              clear F9
              dsimp only
              k_steps
              (rename Fr _ _ _ _ => F1); (rename News _ _ _ _ => N1)
              refine wpAny_Try_except ?_
              k_steps
              (rename Fr _ _ _ _ => F1); (rename News _ _ _ _ => N1)
              have hcall : ∀ (i : Nat) v I, ys[i]? = some v → code[i]? = some I → InsAt w _ v I := fun i v I a c => hRows.2 i v I a c _ (hStd _ _ N1)
              refine Stop.mk (reachable_call B0 F1 X0 T0 rfl (by decide) (by decide) (vs := ys) (rn := ys.length) (N1 _ (.tail _ (.tail _ (.head _)))).1 hRows.1 (by omega) (by omega) hcall hb0 (by omega) ?_ ?_)
              · intro h5 tk5 l vs5' n5' ns5 seen K5 hl5 ho5 hI5 hP5 hS5 hC5
                obtain ⟨F5, N5, ne5⟩ := news_new K5 F1 N1 hl5 ho5
                clear F1 N1
                have hsl : seen.length = met.length := (hC5.perm (hcode ▸ hB7)).length_eq
                have hpl := hP5.length_eq
                have hvl := hI5.length
                have hov := hOv.told (hcode ▸ hB7) hC5
                subst hov
                k_steps
                (rename Fr _ _ _ _ => F1); (rename News _ _ _ _ => N1)
                refine Stop.mk (sorted_N F1 N1 (N1.isList (.tail _ (.tail _ (.head _)))) hI7 (by omega) ?_)
                intro h8 vs8 ns8 e8 F8 N8 hI8 hP8 hS8
                clear F1 N1
                k_steps
                (rename Fr _ _ _ _ => F1); (rename News _ _ _ _ => N1)
                refine Stop.mk (eq_intsK (N1.isList (.tail _ (.head _))) hI5 (N1.isList (.head _)) hI8 (by units_room) ?_)
                have hsame : ns5 = ns8 := told_sorted (hcode ▸ hB7) hC5 hP5 hS5 hP8 hS8
                rw [decide_eq_true hsame]
                k_steps
              · intro x I' hR5 hA5 hf5 he5 h5 tk5 e R5 U5
                refine caught_X B0 F1 U5 R5 X0 T0 (fun h6 F6 => ?_) rfl rfl
                have hov := hOv.raised (hcode ▸ hB7) hR5 hA5 hf5 he5
                subst hov
                have N6 : News T0.heap s1.heap.objs.size h6 [] := fun p hp => nomatch hp
                clear F1 N1
                k_steps
    · rintro i ys nw v iA oI cA oC dA m₂ h tk9 E' hi ⟨vs, n, ns, code, led, rfl, hIr, hLr, hcl, hRows, hoff⟩ ⟨tv, rfl⟩ hC hx F9 N9 off ne
      clear F1 N1
      k_steps
      (rename Fr _ _ _ _ => F1); (rename News _ _ _ _ => N1)
      have M1 : News T0.heap s1.heap.objs.size h ((row, listOf vs.toArray n) :: ((iA, oI) :: (cA, oC) :: (dA, LCg.lst ys) :: (s1.heap.objs.size + 1 + 1, oB) :: (s1.heap.objs.size + 1, oR) :: led)) := fun p hp => N1 p (by simp only [List.mem_cons] at hp ⊢; grind)
      have hrow := off.mem _ (.head _)
      have hcB := off.mem _ (.tail _ (.head _))
      have hcR := off.mem _ (.tail _ (.tail _ (.head _)))
      have hled := fun p hp => off.mem p (.tail _ (.tail _ (.tail _ hp)))
      dsimp only at hrow hcB hcR
      refine Stop.mk (made_L B0 F1 X0 T0 rfl (by decide) (by decide) M1 (fun p hp => ?_) hIr hLr hb0 (by omega) ?_)
      · simp only [List.mem_cons] at hp
        rcases hp with rfl | rfl | rfl | rfl | rfl | hp
        · exact fun q => hrow.1 q.symm
        · exact fun q => hrow.2.1 q.symm
        · exact fun q => hrow.2.2 q.symm
        · exact hr1
        · exact hr2
        · exact (hoff p hp).1
      · intro h4 tk4 v I4 led4 vs4 ns4 n4 F4 N4 hsep hI4 hL4 hins
        have hs : ∀ p ∈ led4 ++ led, (p.1 ≠ iA ∧ p.1 ≠ cA ∧ p.1 ≠ dA) ∧ p.1 ≠ row ∧ p.1 ≠ s1.heap.objs.size + 1 + 1 ∧ p.1 ≠ s1.heap.objs.size + 1 := by
          intro p hp
          rcases List.mem_append.mp hp with hp | hp
          · obtain ⟨q1, q2⟩ := hsep p hp
            exact ⟨⟨q2 _ (.head _), q2 _ (.tail _ (.head _)), q2 _ (.tail _ (.tail _ (.head _)))⟩, q1, q2 _ (.tail _ (.tail _ (.tail _ (.head _)))), q2 _ (.tail _ (.tail _ (.tail _ (.tail _ (.head _)))))⟩
          · exact ⟨hled p hp, hoff p hp⟩
        refine LCg.CompEnd.intro F4 N4 ((row, listOf vs4.toArray n4) :: (s1.heap.objs.size + 1 + 1, oB) :: (s1.heap.objs.size + 1, oR) :: (led4 ++ led)) (fun p hp => ?_) ⟨hrow, hcB, hcR, LCg.Off3.of fun p hp => (hs p hp).1⟩ trivial ⟨vs4, n4, ns4, code ++ [I4], led4 ++ led, rfl, hI4, hL4, ?_, hRows.snoc hins, fun p hp => (hs p hp).2⟩
        · simp only [List.mem_cons, List.mem_append] at hp ⊢; grind
        · rw [List.length_append, hcl]; rfl))
end
end
theorem words_w58 : True := by
  w_top off
  k_with_none
  (k_with "eval Dict nil nil" => (k_here; k_dflt (refine' newDict_K ?k1 ?k2 (TopRead.nolimit (by k_asm)) ?_; (case k1 => k_asm); (case k2 => k_asm); k_whole); intro dd h' od F' N' dl dlo dhs dfs dhi dfi; (try k_lt dl); (try k_sweep)))
  (k_with "call ref" => (k_here; (with_reducible show wpAny _ _ (call (Value.ref 89) _) _ _ _); k_dflt (refine' next_N ?B ?F ?X ?T ?hk ?hd ?hu ?N ?U ?hi ?hl ?_; (case B => k_asm); (case F => k_asm); (case X => k_asm); (case T => k_asm); (case hk => first | rfl | assumption); (case N => k_asm); (case U => k_updF); (case hi => with_reducible assumption); (case hl => omega); (case hd => k_room); (case hu => k_units); k_whole); intro h' tk' vs' ns' i' t' n' F' N' hI' hL'; (try dsimp only at N'); (try k_sweep)))
  (k_with "call ref" => (k_here; (with_reducible show wpAny _ _ (call (Value.ref 96) _) _ _ _); k_dflt (refine' address_N ?B ?F ?X ?T ?hk ?hd ?hu ?N ?U ?hi ?hl ?b0 ?b1 ?_; (case B => k_asm); (case F => k_asm); (case X => k_asm); (case T => k_asm); (case hk => first | rfl | assumption); (case N => k_asm); (case U => k_updF); (case hi => with_reducible assumption); (case hl => omega); (case b0 => omega); (case b1 => omega); (case hd => k_room); (case hu => k_units); k_whole); intro h' tk' vs' ns' i' t' n' F' N' hI' hL' hb0' hb1'; (try dsimp only at N'); (try k_sweep)))
  (k_with "call ref" => (k_here; (with_reducible show wpAny _ _ (call (Value.ref 82) _) _ _ _); k_dflt (refine' row_N ?B ?F ?X ?T ?hk ?hd ?hu ?N ?l ?hi ?hl ?_; (case B => k_asm); (case F => k_asm); (case X => k_asm); (case T => k_asm); (case hk => first | rfl | assumption); (case N => k_asm); (case l => with_reducible assumption); (case hi => with_reducible assumption); (case hl => omega); (case hd => k_room); (case hu => k_units); k_whole); intro h' tk' row vs' ns' n' F' N' rne hI' hL'; (try dsimp only at N'); (try k_sweep)))
  (k_with "call ref" => (k_here; (with_reducible show wpAny _ _ (call (Value.ref 103) _) _ _ _); refine Stop.out ?_))
  trivial
end Mine
theorem PySem.Challenge.cw_no0151_01_holds : PySem.Challenge.rw_no0151_01.Holds :=
  Mine.w1
