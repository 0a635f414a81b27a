import PyProof.Rows.All
import Wide.All
import OpenK.AllK
import Wide.FinOn
import PySem.Challenge.RW_no0041_01
open PySem PySem.W PyProof.Rows PySem.Calls PySem.Spec
set_option Elab.async false
set_option maxRecDepth 100000
namespace Mine
set_option maxHeartbeats 8000000 in
open_top hd for PySem.Challenge.rw_no0041_01
end Mine
namespace Mine

abbrev PR : Program := PySem.Challenge.rw_no0041_01.row.prog

/-- the machine's surroundings, written out -/
abbrev arnd (dp un : Nat) (gd : Option (List Code)) (env : Env) (outer : List Env) : Around :=
  { handled := none, depth := dp, frames := some (env :: outer), guards := gd, units := un }

/-- what the walk of a body hands back -/
def PEnd (g : Heap) (Out : List (Addr × Obj) → Value → Prop) (v : Value) (s s' : Shared) : Prop :=
  ∃ h' tk' tl, s' = { s with heap := h', toks := tk' } ∧ (∀ b o, g.get? b = some o → h'.get? b = some o) ∧
    (∀ p ∈ tl, h'.get? p.1 = some p.2 ∧ g.get? p.1 = none) ∧ Out tl v

abbrev PureCall (w : World) (f : Addr) (vs : List Value) (led : List (Addr × Obj)) (Out : List (Addr × Obj) → Value → Prop) : Prop :=
  ∀ (mean : ExcName → Option Value) (mg mb : Str → Option Value) (dp un : Nat) (gd : Option (List Code)) (env : Env) (outer : List Env) (A₀ : Around) (base h₀ : Heap) (L : Addr) (m : Str → Option Value) (s : Shared)
    (Q E : Value → Shared → Prop),
    env.frame = some L → env.scope.kind = .function → dp + 10 < recursionLimit → un + 60 < cLine →
    Below A₀ base outer h₀ → Fr h₀ L s.heap m → (hd.heap_39 w.params).In h₀ → Top hd.view_39 (looseW hd.view_39 []) mean mg mb h₀ →
    (∀ p ∈ led, s.heap.get? p.1 = some p.2) →
    (∀ v s', PEnd s.heap Out v s s' → Q v s') →
    wpAny (model PySem.Challenge.rw_no0041_01.row.prog w) (arnd dp un gd env outer) (call (.ref f) vs) Q E s

theorem pure_def {w : World} {K : Frag} {p : Program} {loose : List Str} {mean : ExcName → Option Value} {mg mb : Str → Option Value} {prog : Program} {dp un : Nat} {gd : Option (List Code)} {A₀ : Around} {base h₀ : Heap} {L : Addr} {m : Str → Option Value} {s : Shared} {Q E : Value → Shared → Prop}
    {env : Env} {outer : List Env} {name qual : Str} {params : Arguments} {body : List Stmt} {scope : Scope} {dV kV doc pm cdv ct oc : Value} {an od : Option Addr} {osl : Array (Option Value)} {f : Addr} {vs : List Value} {binds : List (Str × Value)}
    {Out : List (Addr × Obj) → Value → Prop}
    (hf : env.frame = some L) (hke : env.scope.kind = .function) (hroom : dp + 10 < recursionLimit)
    (B : Below A₀ base outer h₀) (F : Fr h₀ L s.heap m) (X₀ : K.In h₀) (T : Top p loose mean mg mb h₀)
    (hret : ∀ v s', PEnd s.heap Out v s s' → Q v s')
    (ho : K.lookup f = some ⟨oc, od, .func (fnOf name qual params body scope dV kV doc pm an cdv ct), osl⟩) (hcd : codeIn K cdv qual = true)
    (hbind : BindsTo s (fnOf name qual params body scope dV kV doc pm an cdv ct) ⟨vs, []⟩ binds) (hloc : ∀ y ∈ binds, scope.names.lookup y.1 = some .local)
    (h : ∀ g L' h₁, (∀ b o, s.heap.get? b = some o → g.get? b = some o) → Fr g L' h₁ (fun y => binds.reverse.lookup y) → News g L' h₁ [] → Below (arnd dp un gd env outer) base (env :: outer) g → K.In g → Top p loose mean mg mb g →
      (∀ v s', PEnd g Out v s s' → PEnd s.heap Out v s s') →
      wpAny (model prog w) (arnd (dp + 1) (un + 3) gd (envOf qual scope L' f cdv) (env :: outer)) (execs body (envOf qual scope L' f cdv))
        (fun fl s' => PEnd g Out (match fl with | .ret v => v | _ => .none) s s')
        (fun _ _ => False)
        { s with heap := h₁, toks := s.toks + binds.length })
    (hco : scope.isCoroutine = false) (hgen : scope.isGenerator = false) (hk : scope.kind = .function)
    (hcell : ∀ x ∈ scope.names, x.2 ≠ .cell) :
    wpAny (model prog w) (arnd dp un gd env outer) (call (.ref f) vs) Q E s := by
  refine wpAny_call ?_
  have B₁ := pushX B F hf hke
  refine codeAny_call_def (fd := fnOf name qual params body scope dV kV doc pm an cdv ct) (body := body) (binds := binds) (by show dp < _; omega) ((X₀.keeps F.keep) _ _ ho) rfl (T.nolimit.keeps F.keep) (codeRec_of (X₀.keeps F.keep) hcd) rfl hbind hcell hloc (fun h₁ hns hk₁ => ?_) hco hgen hk
  refine wpAny_mono (h s.heap s.heap.objs.size h₁ (fun _ _ e => e) ⟨hns, hk₁, Nat.le_refl _⟩ News.nil ⟨rfl, fun b o e => F.keep b o (B.stays b o e), B₁.frames⟩ (X₀.keeps F.keep) (T.keeps F.keep) (fun _ _ x => x)) (fun fl s' x => hret _ _ x) fun _ _ x => x.elim

end Mine
namespace Mine

section
variable {prog : Program} {w : World} {A : Around} {E : Value → Shared → Prop} {s : Shared} {env : Env} {h₀ : Heap} {x : Str} {body : List Stmt} {Q : Flow → Shared → Prop}
/-- a loop over anything that walks by places; what it reads lies in the ground, or is the iterator's own -/
theorem my_loop {I : Addr} {fp wr : List Addr} {n : Nat} {P : Nat → Value → Prop} {St : Nat → Heap → Prop} {m₀ : Str → Option Value} {news : List (Addr × Obj)}
    (J : Nat → (Str → Option Value) → List (Addr × Obj) → Prop)
    (W : Walks prog w A I fp wr n P St) (hL : env.locals ∉ fp) (hwr : ∀ b ∈ wr, h₀.get? b = none) (hfp : ∀ b ∈ fp, b ∈ wr ∨ ∃ o, h₀.get? b = some o)
    (hob : ∀ i h, St i h → ∀ b ∈ wr, ∃ o, h.get? b = some o)
    (hn : ∀ p ∈ news, p.1 ∉ wr) (hst : St 0 s.heap) (F : Fr h₀ env.locals s.heap m₀) (N : News h₀ env.locals s.heap news) (hj : J 0 m₀ news)
    (turn : ∀ i v m₁ nx h tk own, i < n → P i v → OwnOff own (nx.map (·.1)) → J i m₁ nx →
      Fr h₀ env.locals h (fun y => if y = x then some v else m₁ y) → News h₀ env.locals h (nx ++ own) →
      wpAny (model prog w) A (execs body env) (InvPostG h₀ env.locals (J (i + 1)) own { s with heap := h, toks := tk } Q) E { s with heap := h, toks := tk })
    (done : ∀ m₁ nx h tk, J n m₁ nx → Fr h₀ env.locals h m₁ → News h₀ env.locals h nx → Q .next { s with heap := h, toks := tk }) :
    LoopAtV prog w A h₀ env x body Q E (.ref I) s := by
  refine ⟨I, fp, wr, n, P, St, m₀, news, J, rfl, W, hL, hwr, hn, hst, F, N, hj, ?_, ?_⟩
  · rintro i v m₁ news₁ s₁ own ⟨hh', tk', rfl⟩ hin hP hJ hoff hown _ hmem hst' F₁ N₁
    have hsep : OwnOff own (news₁.map (·.1)) := by
      intro p hp b hb e
      obtain ⟨q, hq, rfl⟩ := List.mem_map.mp hb
      rcases hfp _ (hown p hp) with h | ⟨o, ho⟩
      · exact hoff q hq (e ▸ h)
      · have := (N₁ p (List.mem_append.mpr (.inl hp))).2.2
        rw [ho] at this
        cases this
    have N₂ : News h₀ env.locals hh' (news₁ ++ own) := fun p hp => N₁ p ((List.mem_append.mp hp).elim (fun h => List.mem_append.mpr (.inr h)) fun h => List.mem_append.mpr (.inl h))
    refine wpAny_mono (turn i v m₁ news₁ hh' tk' own hin hP hsep hJ F₁ N₂) (fun f s₂ p => ?_) fun _ _ e => e
    have fin : InvEndG h₀ env.locals (J (i + 1)) own { s with heap := hh', toks := tk' } s₂ → LoopStepU h₀ env.locals wr own (J (i + 1)) { s with heap := hh', toks := tk' } .next s₂ := by
      rintro ⟨h', tk, m', news', nx, e, F', N', hn, ho, ha, hm⟩
      refine ⟨rfl, h', tk, m', nx, e, F', fun p hp => N' p ((List.mem_append.mp hp).elim (ho p) (hn p)), fun p hp hq => ?_, hm⟩
      obtain ⟨o, hbo⟩ := hob _ _ hst' _ hq
      exact ha _ (hmem _ (W.sub _ hq) (hwr _ hq) o hbo) p.1 (List.mem_map.mpr ⟨p, hp, rfl⟩) rfl
    cases f with
    | ret v => exact .ret p
    | brk => exact .brk p
    | next => exact .next (fin p)
    | cont => exact .cont (fin p)
  · rintro h' tk m' news' F' N' _ hJ
    exact done m' news' h' tk hJ F' N'

/-- a loop over a list of the ground -/
theorem loop_list {l : Addr} {vs : List Value} {m₀ : Str → Option Value} {news : List (Addr × Obj)} (J : Nat → (Str → Option Value) → List (Addr × Obj) → Prop)
    (hh : A.handled = none) (hl : h₀.IsList l vs.toArray) (F : Fr h₀ env.locals s.heap m₀) (N : News h₀ env.locals s.heap news) (hj : J 0 m₀ news)
    (turn : ∀ i v m₁ nx h tk own, vs[i]? = some v → OwnOff own (nx.map (·.1)) → J i m₁ nx →
      Fr h₀ env.locals h (fun y => if y = x then some v else m₁ y) → News h₀ env.locals h (nx ++ own) →
      wpAny (model prog w) A (execs body env) (InvPostG h₀ env.locals (J (i + 1)) own { s with heap := h, toks := tk } Q) E { s with heap := h, toks := tk })
    (done : ∀ m₁ nx h tk, J vs.length m₁ nx → Fr h₀ env.locals h m₁ → News h₀ env.locals h nx → Q .next { s with heap := h, toks := tk }) :
    wpAny (model prog w) A (pyIter (.ref l)) (fun it s₂ => LoopAtV prog w A h₀ env x body Q E it s₂) E s := by
  have hls : s.heap.IsList l vs.toArray := hl.at fun o e => F.keep l o e
  obtain ⟨ol, hol, _⟩ := id hl
  have hlt : l < h₀.objs.size := Heap.lt_size hol
  have hne : l ≠ s.heap.objs.size := Nat.ne_of_lt (Nat.lt_trans (Nat.lt_of_lt_of_le hlt F.above) F.ns.lt)
  refine wpAny_pyIter_list hls ?_
  have W := Walks.list (prog := prog) (w := w) hh s.heap.objs.size l hne vs.toArray
  have hlen : vs.toArray.size = vs.length := by simp
  rw [hlen] at W
  refine my_loop (s := { s with heap := _ }) J W ?_ ?_ ?_ ?_ ?_ ⟨⟨_, Heap.get?_push_size _ rfl, rfl, rfl⟩, hls.at fun o e => Heap.get?_push_of_some _ e⟩ (F.push _) (fun p hp => ⟨Heap.get?_push_of_some _ (N p hp).1, (N p hp).2⟩) hj ?_ ?_
  · intro hm
    rcases List.mem_cons.mp hm with e | hm
    · exact absurd F.ns.lt (e ▸ Nat.lt_irrefl _)
    · exact absurd (Nat.lt_of_lt_of_le hlt F.above) ((List.mem_singleton.mp hm) ▸ Nat.lt_irrefl _)
  · intro b hb
    rw [List.mem_singleton.mp hb]
    exact next_is_new F
  · intro b hb
    rcases List.mem_cons.mp hb with e | hb
    · exact .inl (by simp [e])
    · exact .inr ⟨ol, by rw [List.mem_singleton.mp hb]; exact hol⟩
  · intro i h hst b hb
    rw [List.mem_singleton.mp hb]
    obtain ⟨⟨o, ho, _⟩, _⟩ := hst
    exact ⟨o, ho⟩
  · intro p hp hI
    exact absurd (Heap.lt_size (N p hp).1) ((List.mem_singleton.mp hI) ▸ Nat.lt_irrefl _)
  · intro i v m₁ nx h tk own _ hv ho hj' F₁ N₁
    exact turn i v m₁ nx h tk own (by simpa using hv) ho hj' F₁ N₁
  · exact done
end

section
variable {prog : Program} {w : World} {A : Around} {E : Value → Shared → Prop} {s : Shared} {env : Env} {h₀ : Heap} {x : Str} {body : List Stmt} {Q : Flow → Shared → Prop}
/-- a loop over a range -/
theorem loop_range {r : Addr} {a₀ b₀ c₀ : Int} {t₀ u₀ v₀ : Tok} {n : Nat} {m₀ : Str → Option Value} {news : List (Addr × Obj)} (J : Nat → (Str → Option Value) → List (Addr × Obj) → Prop)
    (hh : A.handled = none) (hr : IsRange s.heap r a₀ b₀ c₀ t₀ u₀ v₀) (hsmall : Builtin.Range.small a₀ b₀ c₀ = true) (hsz : Builtin.Range.rangeSize a₀ b₀ c₀ = (n : Int))
    (F : Fr h₀ env.locals s.heap m₀) (N : News h₀ env.locals s.heap news) (hj : J 0 m₀ news)
    (turn : ∀ i t m₁ nx h tk own, i < n → OwnOff own (nx.map (·.1)) → J i m₁ nx →
      Fr h₀ env.locals h (fun y => if y = x then some (.int (a₀ + (i : Nat) * c₀) t) else m₁ y) → News h₀ env.locals h (nx ++ own) →
      wpAny (model prog w) A (execs body env) (InvPostG h₀ env.locals (J (i + 1)) own { s with heap := h, toks := tk } Q) E { s with heap := h, toks := tk })
    (done : ∀ m₁ nx h tk, J n m₁ nx → Fr h₀ env.locals h m₁ → News h₀ env.locals h nx → Q .next { s with heap := h, toks := tk }) :
    wpAny (model prog w) A (pyIter (.ref r)) (fun it s₂ => LoopAtV prog w A h₀ env x body Q E it s₂) E s := by
  refine wpAny_pyIter_range hr hsmall ?_
  have W : Walks prog w A s.heap.objs.size [s.heap.objs.size] [s.heap.objs.size] n (fun i v => i < n ∧ ∃ t, v = .int (a₀ + i * c₀) t)
      (fun i h => IsRangeIter h s.heap.objs.size (a₀ + (i : Nat) * c₀) ((n : Int) - (i : Nat)) c₀) := (Walks.range hh _ a₀ c₀ n).bound
  refine my_loop (s := { s with heap := _ }) J W ?_ ?_ (fun b hb => .inl hb) ?_ ?_ (by show IsRangeIter _ _ _ _ _; rw [hsz]; simpa using Heap.get?_push_size _ rfl) (F.push _) (fun p hp => ⟨Heap.get?_push_of_some _ (N p hp).1, (N p hp).2⟩) hj ?_ ?_
  · intro hm
    exact absurd F.ns.lt ((List.mem_singleton.mp hm) ▸ Nat.lt_irrefl _)
  · intro b hb
    rw [List.mem_singleton.mp hb]
    exact next_is_new F
  · intro i h hi b hb
    rw [List.mem_singleton.mp hb]
    exact ⟨_, hi⟩
  · intro p hp hI
    exact absurd (Heap.lt_size (N p hp).1) ((List.mem_singleton.mp hI) ▸ Nat.lt_irrefl _)
  · rintro i v m₁ nx h tk own hi ⟨_, t, rfl⟩ ho hj' F₁ N₁
    exact turn i t m₁ nx h tk own hi ho hj' F₁ N₁
  · exact done
end

def Halt (P : Prop) : Prop := P
theorem halt_of {P : Prop} (h : Halt P) : P := h

theorem fr_know {h₀ h : Heap} {L : Addr} {m : Str → Option Value} {x : Str} {v : Value} (F : Fr h₀ L h m) (hx : m x = some v) : Fr h₀ L h (fun y => if y = x then some v else m y) := by
  have e : (fun y => if y = x then some v else m y) = m := by
    funext y
    by_cases h : y = x
    · simp [h, hx]
    · simp [h]
  rw [e]; exact F
theorem fr_ps {h₀ h : Heap} {L : Addr} {m : Str → Option Value} (ps : List (Str × Value)) (h1 : ∀ p ∈ ps, m p.1 = some p.2) (F : Fr h₀ L h m) : Fr h₀ L h (kstB m ps) := by
  have e : kstB m ps = m := funext fun z => kstB_eq h1 fun _ => rfl
  rw [e]; exact F
theorem kst_self {m : Str → Option Value} (ps : List (Str × Value)) (h1 : ∀ p ∈ ps, m p.1 = some p.2) : m = kstB m ps := (funext fun z => kstB_eq h1 fun _ => rfl).symm
theorem PEnd.intro {g h' : Heap} {L : Addr} {Out : List (Addr × Obj) → Value → Prop} {v : Value} {s s' : Shared} {tk' : Nat} {m' : Str → Option Value} {news : List (Addr × Obj)} (F : Fr g L h' m') (N : News g L h' news) (tl : List (Addr × Obj))
    (hsub : ∀ p ∈ tl, p ∈ news) (ho : Out tl v) (hs : s' = { s with heap := h', toks := tk' }) : PEnd g Out v s s' := by
  subst hs
  exact ⟨h', tk', tl, rfl, F.keep, fun p hp => ⟨(N p (hsub p hp)).1, (N p (hsub p hp)).2.2⟩, ho⟩
theorem off_cons {d : Addr} {o : Obj} {tl own : List (Addr × Obj)} (h : OwnOff own (((d, o) :: tl).map (·.1))) : ∀ p ∈ own, p.1 ≠ d := fun p hp => h p hp d (by simp)
theorem inv_end {h₀ h' : Heap} {L fa : Addr} {m' : Str → Option Value} {J' : (Str → Option Value) → List (Addr × Obj) → Prop} {own news' nu rest : List (Addr × Obj)} {o o' : Obj} {s₁ s₂ : Shared} {tk' : Nat}
    (F : Fr h₀ L h' m') (N : News h₀ L h' news') (hoff : OwnOff own (((fa, o) :: rest).map (·.1))) (hnu : ∀ p ∈ nu, ∀ q ∈ own, q.1 < p.1)
    (hsub : ∀ p ∈ (fa, o') :: (nu ++ rest), p ∈ news') (hown : ∀ p ∈ own, p ∈ news') (hs : s₂ = { s₁ with heap := h', toks := tk' }) (hj : J' m' ((fa, o') :: (nu ++ rest))) : InvEndG h₀ L J' own s₁ s₂ := by
  subst hs
  refine InvEndG.intro F N hj ?_ hsub hown
  intro p hp b hb
  simp only [List.map_cons, List.map_append, List.mem_cons, List.mem_append] at hb
  rcases hb with rfl | hb | hb
  · exact hoff p hp _ (by simp)
  · obtain ⟨q, hq, rfl⟩ := List.mem_map.mp hb
    exact Nat.ne_of_lt (hnu q hq p hp)
  · exact hoff p hp _ (by simp only [List.map_cons, List.mem_cons]; exact .inr hb)
theorem allLt_mem {d : Addr} : ∀ {l : List (Addr × Obj)}, AllLt d l → ∀ p ∈ l, p.1 < d
  | [], _, _, h => nomatch h
  | q :: r, h, p, hp => by
    rcases List.mem_cons.mp hp with rfl | hp
    · exact h.1
    · exact allLt_mem h.2 p hp
theorem item_base {prog : Program} {w : World} {A : Around} {E : Value → Shared → Prop} {s : Shared} {value slice : PySem.Expr} {l : Addr} {vs : List Value} {k : Int} {u : Tok} {v : Value} {Q : Value → Shared → Prop}
    (hl : s.heap.IsList l vs.toArray) (h0 : 0 ≤ k) (hhi : k < 2 ^ 63) (hx : vs[k.toNat]? = some v) (h : Q v s)
    (hs : subscripted slice false (.ref l) (.int k u) = operate [.ref l, .int k u] (getItem (.ref l) (.int k u)) := by with_unfolding_all rfl) :
    wpAny (model prog w) A (subscriptTail value slice (.ref l) (.int k u)) Q E s :=
  tail_any hl.typeIs slot_list_getitem.lookup (wpAny_getItem_list hl h0 hhi (by simpa using hx) h) hs
theorem item_neg1 {prog : Program} {w : World} {A : Around} {E : Value → Shared → Prop} {s : Shared} {value slice : PySem.Expr} {l : Addr} {vs : List Value} {u : Tok} {v : Value} {Q : Value → Shared → Prop}
    (hl : s.heap.IsList l (vs ++ [v]).toArray) (h : Q v s)
    (hs : subscripted slice false (.ref l) (.int (-1) u) = operate [.ref l, .int (-1) u] (getItem (.ref l) (.int (-1) u)) := by with_unfolding_all rfl) :
    wpAny (model prog w) A (subscriptTail value slice (.ref l) (.int (-1) u)) Q E s := by
  have hz : (vs ++ [v]).toArray.size = vs.length + 1 := by simp
  have hx : (vs ++ [v]).toArray[((-1 : Int) + ((vs ++ [v]).toArray.size : Nat)).toNat]? = some v := by
    rw [hz]
    have : ((-1 : Int) + ((vs.length + 1 : Nat) : Int)).toNat = vs.length := by omega
    rw [this]
    simp
  exact tail_any hl.typeIs slot_list_getitem.lookup (wpAny_getItem_list_neg hl (by decide) (by rw [hz]; omega) (by decide) hx h) hs
theorem item_tup {prog : Program} {w : World} {A : Around} {E : Value → Shared → Prop} {s : Shared} {value slice : PySem.Expr} {t : Addr} {l : List Value} {k : Int} {u : Tok} {j : Nat} {x : Value} {Q : Value → Shared → Prop} {n : Nat}
    (ht : s.heap.get? t = some { cls := .type "tuple", data := .seq l.toArray n })
    (hlo : -(2 ^ 63) ≤ k) (hhi : k < 2 ^ 63) (hj : seqIndex? k l.length = some j) (hx : l[j]? = some x) (h : Q x s)
    (hs : subscripted slice false (.ref t) (.int k u) = operate [.ref t, .int k u] (getItem (.ref t) (.int k u)) := by with_unfolding_all rfl) :
    wpAny (model prog w) A (subscriptTail value slice (.ref t) (.int k u)) Q E s := item_tupleT ⟨_, ht, rfl, _, rfl⟩ hlo hhi hj hx h hs
theorem dat_last {rest : List (Addr × Obj)} {us : List Value} {acc : List (Int × Int)} (hD : DatAll rest us ((acc.map fun p => Dat.tuple [.int p.1, .int p.2]))) (hne : acc ≠ []) :
    ∃ us₀ acc₀ a b T ta tb n, us = us₀ ++ [Value.ref T] ∧ acc = acc₀ ++ [(a, b)] ∧ (T, ({ cls := .type "tuple", data := .seq [.int a ta, .int b tb].toArray n } : Obj)) ∈ rest ∧ DatAll rest us₀ (acc₀.map fun p => Dat.tuple [.int p.1, .int p.2]) := by
  rcases List.eq_nil_or_concat acc with h | ⟨acc₀, ⟨a, b⟩, rfl⟩
  · exact absurd h hne
  · have hl := hD.length
    rcases List.eq_nil_or_concat us with h | ⟨us₀, u, rfl⟩
    · subst h
      simp at hl
    · rw [List.concat_eq_append, List.concat_eq_append] at hD
      obtain ⟨es, d, he, h0, h1⟩ := hD.snoc
      simp only [List.map_append, List.map_cons, List.map_nil] at he
      obtain ⟨he1, he2⟩ := List.append_inj' he rfl
      subst he1
      obtain rfl := (List.cons.inj he2).1
      cases h1 with
      | tuple hm r =>
        cases r with
        | cons h1 r =>
          cases r with
          | cons h2 r =>
            cases r
            cases h1
            cases h2
            exact ⟨us₀, acc₀, a, b, _, _, _, _, by simp, by simp, hm, h0⟩
theorem setL_last : ∀ (us : List Value) (x v : Value), ki_setL (us ++ [x]) us.length v = some (us ++ [v])
  | [], _, _ => rfl
  | u :: r, x, v => by
    show (match ki_setL (r ++ [x]) r.length v with | some q => some (u :: q) | none => none) = _
    rw [setL_last r x v]
    rfl
theorem set_last {prog : Program} {w : World} {A : Around} {E : Value → Shared → Prop} {s : Shared} {h₀ : Heap} {L D : Addr} {m : Str → Option Value} {us : List Value} {x v : Value} {n : Nat} {t : Tok} {pre post news : List (Addr × Obj)} {Q : Unit → Shared → Prop}
    (F : Fr h₀ L s.heap m) (N : News h₀ L s.heap news) (hn : news = pre ++ (D, listOf (us ++ [x]).toArray n) :: post) (h1 : ∀ p ∈ pre, p.1 ≠ D) (h2 : ∀ p ∈ post, p.1 ≠ D)
    (h : ∀ h', Fr h₀ L h' m → News h₀ L h' (pre ++ (D, listOf (us ++ [v]).toArray n) :: post) → Q () { s with heap := h' }) : wpAny (model prog w) A (setItem (.ref D) (.int (-1) t) v) Q E s := by
  subst hn
  have hz : (us ++ [x]).toArray.size = us.length + 1 := by simp
  have up : ∀ {pre : List (Addr × Obj)}, (∀ p ∈ pre, p.1 ≠ D) → Upd D (listOf (us ++ [x]).toArray n) (listOf (us ++ [v]).toArray n) (pre ++ (D, listOf (us ++ [x]).toArray n) :: post) (pre ++ (D, listOf (us ++ [v]).toArray n) :: post) := by
    intro pre
    induction pre with
    | nil => intro _; exact .head h2
    | cons p pre ih => intro h; exact .tail (h p (.head _)) (ih fun q hq => h q (.tail _ hq))
  refine ki_setNeg (j := us.length) F N (by decide) (by decide) ?_ (setL_last us x v) (up h1) h
  rw [hz, seqIndex_neg (by decide) (by omega)]
  have e : ((-1 : Int) + ((us.length + 1 : Nat) : Int)).toNat = us.length := by omega
  rw [e]
end Mine
namespace Mine
local macro_rules | `(tactic| walk_at "mine enter") => `(tactic| (
  w_top off
  unfold PureCall
  k_fill
  intro mean mg mb dp un gd env outer A₀ base h₀ L m s Q E hf hke hdp hun B F X T hled hret
  refine' pure_def hf hke hdp B F X T hret ?k6 ?k7 ?k9 ?kB ?_ ?c2 ?c3 ?c4 ?c5
  (case k6 => k_dflt k_is)
  (case k7 => k_dflt k_is)
  (case k9 => exact BindsTo.of_eq rfl)
  (case c5 => decide)
  (case kB => exact locs rfl)
  (case c2 => exact rfl)
  (case c3 => exact rfl)
  (case c4 => exact rfl)
  clear hret B F X T hke hf
  intro g L h₁ hg F N B X T hret
  replace hled := fun p hp => hg _ _ (hled p hp)
  clear hg hret
  revert hled F s))

abbrev prs (rs : List (Int × Int)) : List Dat := rs.map fun p => Dat.tuple [.int p.1, .int p.2]
structure AS where
  low : Int
  high : Int
  found : List (Int × Int)
  b : Bool
def addStep (a : AS) (p : Int × Int) : AS :=
  if p.1 > a.high + 1 then { a with found := a.found ++ [p] }
  else if p.2 < a.low - 1 then { a with found := (if a.b then a.found else a.found ++ [(a.low, a.high)]) ++ [p], b := true }
  else { a with low := min a.low p.1, high := max a.high p.2 }
def addFold (n : Int) (rs : List (Int × Int)) : AS := rs.foldl addStep ⟨n, n, [], false⟩
def addN (rs : List (Int × Int)) (n : Int) : List (Int × Int) :=
  let a := addFold n rs
  if a.b then a.found else a.found ++ [(a.low, a.high)]

def AddJ (n : Int) (rs : List (Int × Int)) (led : List (Addr × Obj)) (fa : Addr) (i : Nat) (m : Str → Option Value) (nx : List (Addr × Obj)) : Prop :=
  ∃ (tl th : Tok) (us : List Value) (k : Nat) (rest : List (Addr × Obj)),
    m (Str.ofString "low") = some (.int (addFold n (rs.take i)).low tl) ∧ m (Str.ofString "high") = some (.int (addFold n (rs.take i)).high th) ∧
    m (Str.ofString "found") = some (.ref fa) ∧ m (Str.ofString "is_in") = some (.bool (addFold n (rs.take i)).b) ∧
    nx = (fa, listOf us.toArray k) :: rest ∧ (∀ p ∈ rest, p.1 ≠ fa) ∧ DatAll (rest ++ led) us (prs (addFold n (rs.take i)).found)

theorem pair_at {led : List (Addr × Obj)} {vs : List Value} {rs : List (Int × Int)} {i : Nat} {v : Value} (hd : DatAll led vs (prs rs)) (hv : vs[i]? = some v) :
    ∃ a b T ta tb n, rs[i]? = some (a, b) ∧ v = .ref T ∧ (T, ({ cls := .type "tuple", data := .seq [.int a ta, .int b tb].toArray n } : Obj)) ∈ led := by
  have hl := hd.length
  have hi : i < (prs rs).length := by
    rw [← hl]; exact (List.getElem?_eq_some_iff.mp hv).1
  obtain ⟨v', hv', hD⟩ := hd.get hi
  rw [hv] at hv'
  cases hv'
  have hi' : i < rs.length := by simpa using hi
  have e : (prs rs)[i] = Dat.tuple [.int rs[i].1, .int rs[i].2] := by simp [prs]
  rw [e] at hD
  cases hD with
  | tuple hm r =>
    cases r with
    | cons h1 r =>
      cases r with
      | cons h2 r =>
        cases r
        cases h1
        cases h2
        exact ⟨_, _, _, _, _, _, List.getElem?_eq_getElem hi', rfl, hm⟩

theorem led_tup {g : Heap} {led : List (Addr × Obj)} {T : Addr} {its : Array Value} {n : Nat} (hled : ∀ p ∈ led, g.get? p.1 = some p.2) (hm : (T, ({ cls := .type "tuple", data := .seq its n } : Obj)) ∈ led) : IsTup g T its :=
  ⟨_, hled _ hm, rfl, n, rfl⟩
theorem led_list {g : Heap} {led : List (Addr × Obj)} {T : Addr} {its : Array Value} {n : Nat} (hled : ∀ p ∈ led, g.get? p.1 = some p.2) (hm : (T, listOf its n) ∈ led) : g.IsList T its :=
  ⟨_, hled _ hm, rfl, n, rfl⟩

local macro_rules | `(tactic| walk_at "subscriptTail") => `(tactic| (k_here; (with_reducible show wpAny _ _ (subscriptTail _ _ (Value.ref _) (Value.int _ _)) _ _ _); k_dflt (refine' item_tupleT ?t ?a ?b ?c ?d ?_; (case t => exact IsTup.keeps (by assumption) (Fr.keep (by assumption))); (case a => decide); (case b => decide); (case c => rfl); (case d => rfl); k_whole)))
local macro_rules | `(tactic| k_all) => `(tactic| assumption)
local macro_rules | `(tactic| size_fits) => `(tactic| first | assumption | (simp only [Array.size_push, List.size_toArray, List.length_append, List.length_cons, List.length_nil, sizeLine_eq] at *; omega))

theorem addFold_succ {n : Int} {rs : List (Int × Int)} {i : Nat} {a b : Int} (hi : rs[i]? = some (a, b)) : addFold n (rs.take (i + 1)) = addStep (addFold n (rs.take i)) (a, b) := by
  have h : rs.take (i + 1) = rs.take i ++ [(a, b)] := by rw [List.take_add_one, hi]; rfl
  rw [h, addFold, List.foldl_append]
  rfl
theorem addFold_len {n : Int} (rs : List (Int × Int)) : (addFold n rs).found.length ≤ 2 * rs.length := by
  have : ∀ (rs : List (Int × Int)) (a : AS), (rs.foldl addStep a).found.length ≤ a.found.length + 2 * rs.length := by
    intro rs
    induction rs with
    | nil => intro a; simp
    | cons p rs ih =>
      intro a
      have h := ih (addStep a p)
      have h2 : (addStep a p).found.length ≤ a.found.length + 2 := by
        unfold addStep
        split
        · simp
        · split
          · cases a.b <;> simp
          · simp
      simp only [List.foldl_cons, List.length_cons]
      omega
  have := this rs ⟨n, n, [], false⟩
  simpa [addFold] using this

theorem end_ledger {fa : Addr} {o o' : Obj} {rest own nu : List (Addr × Obj)} (hoff : OwnOff own (((fa, o) :: rest).map (·.1))) (hnu : ∀ p ∈ nu, ∀ q ∈ own, q.1 < p.1) :
    OwnOff own (((fa, o') :: (nu ++ rest)).map (·.1)) := by
  intro p hp b hb
  simp only [List.map_cons, List.map_append, List.mem_cons, List.mem_append] at hb
  rcases hb with rfl | hb | hb
  · exact hoff p hp _ (by simp)
  · obtain ⟨q, hq, rfl⟩ := List.mem_map.mp hb
    exact Nat.ne_of_lt (hnu q hq p hp)
  · exact hoff p hp _ (by simp only [List.map_cons, List.mem_cons]; exact .inr hb)
theorem led_grow {nu rest led : List (Addr × Obj)} : ∀ p ∈ rest ++ led, p ∈ (nu ++ rest) ++ led := fun p hp => by
  rw [List.append_assoc]; exact List.mem_append.mpr (.inr hp)

theorem add_end3 {n : Int} {rs : List (Int × Int)} {led rest own : List (Addr × Obj)} {fa D9 T L : Addr} {i k nT : Nat} {a b : Int} {tl th ta tb : Tok} {us : List Value} {g h' : Heap} {m' : Str → Option Value} {s₁ s₂ : Shared} {tk' : Nat} {o : Obj}
    (hl : fa < D9 ∧ AllLt D9 (rest ++ own))
    (e : addFold n (rs.take (i + 1)) = { low := (addFold n (rs.take i)).low, high := (addFold n (rs.take i)).high, found := ((addFold n (rs.take i)).found ++ [((addFold n (rs.take i)).low, (addFold n (rs.take i)).high)]) ++ [(a, b)], b := true })
    (hrest : ∀ p ∈ rest, p.1 ≠ fa) (hoff : OwnOff own (((fa, o) :: rest).map (·.1))) (hD : DatAll (rest ++ led) us (prs (addFold n (rs.take i)).found))
    (hmT : (T, ({ cls := .type "tuple", data := .seq [.int a ta, .int b tb].toArray nT } : Obj)) ∈ led)
    (h1 : m' (Str.ofString "low") = some (.int (addFold n (rs.take i)).low tl)) (h2 : m' (Str.ofString "high") = some (.int (addFold n (rs.take i)).high th))
    (h3 : m' (Str.ofString "found") = some (.ref fa)) (h4 : m' (Str.ofString "is_in") = some (.bool true)) (hs : s₂ = { s₁ with heap := h', toks := tk' })
    (F' : Fr g L h' m') (N' : News g L h' ((D9, ({ cls := .type "tuple", data := .seq #[.int (addFold n (rs.take i)).low tl, .int (addFold n (rs.take i)).high th] } : Obj)) :: (fa, W.listOf ((us.toArray.push (.ref D9)).push (.ref T)) (k + 1 + 1)) :: (rest ++ own))) :
    InvEndG g L (AddJ n rs led fa (i + 1)) own s₁ s₂ := by
  subst hs
  generalize ho9 : ({ cls := Value.type "tuple", data := Data.seq #[Value.int (addFold n (List.take i rs)).low tl, Value.int (addFold n (List.take i rs)).high th] } : Obj) = o9 at N'
  refine InvEndG.intro F' N' (nx := (fa, W.listOf (us ++ [Value.ref D9, Value.ref T]).toArray (k + 1 + 1)) :: ([(D9, o9)] ++ rest)) ⟨tl, th, us ++ [Value.ref D9, Value.ref T], k + 1 + 1, [(D9, o9)] ++ rest, ?_, ?_, h3, ?_, rfl, ?_, ?_⟩ (end_ledger hoff ?_) ?_ ?_
  · rw [e]; exact h1
  · rw [e]; exact h2
  · rw [e]; exact h4
  · intro p hp
    rcases List.mem_append.mp hp with hp | hp
    · rw [List.mem_singleton.mp hp]
      exact Nat.ne_of_gt hl.1
    · exact hrest p hp
  · rw [e]
    simp only [prs, List.map_append]
    rw [List.append_cons us]
    refine (DatAll.append (DatAll.append (hD.mono led_grow) (DatAll.one ?_)) (DatAll.one (.tuple (List.mem_append.mpr (.inr hmT)) (.cons (.int _ _) (.cons (.int _ _) .nil)))))
    rw [← ho9]
    exact .tuple (vs := [.int _ tl, .int _ th]) (n := 0) (by simp) (.cons (.int _ _) (.cons (.int _ _) .nil))
  · intro p hp q hq
    rw [List.mem_singleton.mp hp]
    exact allLt_mem hl.2 q (List.mem_append.mpr (.inr hq))
  · intro p hp
    simp only [List.mem_cons, List.mem_append, List.push_toArray, List.append_assoc, List.cons_append, List.nil_append, List.not_mem_nil, or_false] at hp ⊢
    rcases hp with h | h | h
    · exact .inr (.inl h)
    · exact .inl h
    · exact .inr (.inr (.inl h))
  · intro p hp
    simp [hp]

set_option maxHeartbeats 4000000 in
theorem add_spec (w : World) (led : List (Addr × Obj)) (r : Addr) (rs : List (Int × Int)) (n : Int) (t : Tok) (hrs : rs.length ≤ 1000) (hr : DatIn led (.ref r) (.list (prs rs))) :
    PureCall w 21 [.ref r, .int n t] led (fun tl v => DatIn (tl ++ led) v (.list (prs (addN rs n)))) := by
  walk_at "mine enter"
  rename_i hdp hun g L h₁ N B X T
  intro s₀ F hled
  change Fr g L h₁ (fun y => List.lookup y [(Str.ofString "n", .int n t), (Str.ofString "ranges", .ref r)]) at F
  cases hr with
  | list hm hd =>
  rename_i vs rn
  dsimp only
  try k_fold
  k_steps
  k_here; (rename Fr _ _ _ _ => lF'); (with_unfolding_all refine' For_invVF lF' ?k1 ?k2 ?_; (case k1 => exact rfl); (case k2 => exact rfl))
  try k_fold
  k_steps
  rename_i fa _ _ _ _ _ _ _ _ _ _ _
  rename News _ _ _ _ => N9
  refine loop_list (AddJ n rs led fa) rfl (led_list hled hm) lF' (news := [(fa, W.listOf #[] 0)]) (fun p hp => N9 p (by simp at hp; simp [hp])) ⟨t, t, [], 0, [], rfl, rfl, rfl, rfl, rfl, (fun _ h => nomatch h), .nil⟩ ?_ ?_
  · intro i v m₁ nx h tk own hv hoff hJ F₁ N₁
    obtain ⟨tl, th, us, k, rest, hlow, hhigh, hfound, hin, rfl, hrest, hD⟩ := hJ
    obtain ⟨a, b, T, ta, tb, nT, hi, rfl, hmT⟩ := pair_at hd hv
    have hT := led_tup hled hmT
    have F₂ := kst_fr (ps := [(Str.ofString "low", .int (addFold n (rs.take i)).low tl), (Str.ofString "high", .int (addFold n (rs.take i)).high th), (Str.ofString "found", .ref fa), (Str.ofString "is_in", .bool (addFold n (rs.take i)).b)]) (stored := []) (m₀ := m₁) (by simp [hlow, hhigh, hfound, hin]) (fun _ _ _ _ => rfl) F₁
    dsimp only [kstB] at F₂
    clear F₁
    have hR : ∀ p ∈ rest ++ own, p.1 ≠ fa := fun p hp => (List.mem_append.mp hp).elim (hrest p) (off_cons hoff p)
    have N₂ : News g L h ((fa, W.listOf us.toArray k) :: (rest ++ own)) := N₁
    have hlen : us.length ≤ 10000 := by
      have h1 := hD.length
      have h2 := addFold_len (n := n) (rs.take i)
      simp only [prs, List.length_map, List.length_take] at h1 h2
      omega
    clear N₁
    try k_fold
    k_steps
    · rename Fr _ _ _ _ => F'
      rename News _ _ _ _ => N'
      have e := addFold_succ (n := n) hi
      rw [addStep, if_pos (by assumption)] at e
      refine InvEndG.intro F' N' (nx := (fa, W.listOf (us ++ [Value.ref T]).toArray (k + 1)) :: ([] ++ rest)) ⟨tl, th, us ++ [Value.ref T], k + 1, rest, ?_, ?_, rfl, ?_, rfl, hrest, ?_⟩ (end_ledger hoff (by simp)) ?_ ?_
      · rw [e]; rfl
      · rw [e]; rfl
      · rw [e]; rfl
      · rw [e]
        simp only [prs, List.map_append]
        exact hD.append (DatAll.one (.tuple (List.mem_append.mpr (.inr hmT)) (.cons (.int _ _) (.cons (.int _ _) .nil))))
      · intro p hp
        simpa using List.mem_append_left own hp
      · intro p hp
        simp [hp]
    · rename Fr _ _ _ _ => F'
      rename News _ _ _ _ => N'
      rename (addFold n (List.take i rs)).b = true => hb
      have e := addFold_succ (n := n) hi
      rw [addStep, if_neg (by assumption), if_pos (by assumption), hb, if_pos rfl] at e
      refine InvEndG.intro F' N' (nx := (fa, W.listOf (us ++ [Value.ref T]).toArray (k + 1)) :: ([] ++ rest)) ⟨tl, th, us ++ [Value.ref T], k + 1, rest, ?_, ?_, rfl, ?_, rfl, hrest, ?_⟩ (end_ledger hoff (by simp)) ?_ ?_
      · rw [e]; rfl
      · rw [e]; rfl
      · rw [e, ← hb]; rfl
      · rw [e]
        simp only [prs, List.map_append]
        exact hD.append (DatAll.one (.tuple (List.mem_append.mpr (.inr hmT)) (.cons (.int _ _) (.cons (.int _ _) .nil))))
      · intro p hp
        simpa using List.mem_append_left own hp
      · intro p hp
        simp [hp]
    · rename Fr _ _ _ _ => F'
      rename News _ _ _ _ => N'
      rename (addFold n (List.take i rs)).b = false => hb
      rename _ ∧ AllLt _ _ => hl
      have e := addFold_succ (n := n) hi
      rw [addStep, if_neg (by assumption), if_pos (by assumption), hb, if_neg (by decide)] at e
      exact add_end3 hl e hrest hoff hD hmT rfl rfl rfl rfl rfl F' N'
    · rename Fr _ _ _ _ => F'
      rename News _ _ _ _ => N'
      have e := addFold_succ (n := n) hi
      rw [addStep, if_neg (by assumption), if_neg (by assumption)] at e
      refine InvEndG.intro F' N' (nx := (fa, W.listOf us.toArray k) :: ([] ++ rest)) ⟨if a < (addFold n (List.take i rs)).low then ta else tl, if b > (addFold n (List.take i rs)).high then tb else th, us, k, rest, ?_, ?_, rfl, ?_, rfl, hrest, ?_⟩ (end_ledger hoff (by simp)) ?_ ?_
      · rw [e]
        have h1 : min (addFold n (List.take i rs)).low a = if a < (addFold n (List.take i rs)).low then a else (addFold n (List.take i rs)).low := by omega
        dsimp only
        rw [h1]; rfl
      · rw [e]
        have h1 : max (addFold n (List.take i rs)).high b = if b > (addFold n (List.take i rs)).high then b else (addFold n (List.take i rs)).high := by omega
        dsimp only
        rw [h1]; rfl
      · rw [e]; rfl
      · rw [e]; exact hD
      · intro p hp
        simp only [List.nil_append, List.mem_cons, List.mem_append] at hp ⊢
        rcases hp with h | h
        · exact .inr (.inl h)
        · exact .inr (.inr (.inl h))
      · intro p hp
        simp [hp]
  · intro m₁ nx h tk hJ F₁ N₁
    have hl : rs.take vs.length = rs := by
      have h1 := hd.length
      simp only [prs, List.length_map] at h1
      exact List.take_of_length_le (by omega)
    obtain ⟨tl, th, us, k, rest, hlow, hhigh, hfound, hin, rfl, hrest, hD⟩ := hJ
    rw [hl] at hlow hhigh hin hD
    have F₂ := fr_ps [(Str.ofString "low", .int (addFold n rs).low tl), (Str.ofString "high", .int (addFold n rs).high th), (Str.ofString "found", .ref fa), (Str.ofString "is_in", .bool (addFold n rs).b)] (by simp [hlow, hhigh, hfound, hin]) F₁
    dsimp only [kstB] at F₂
    clear F₁
    have hlen : us.length ≤ 10000 := by
      have h1 := hD.length
      have h2 := addFold_len (n := n) rs
      simp only [prs, List.length_map] at h1
      omega
    dsimp only
    try k_fold
    k_steps
    · refine PEnd.intro F₂ N₁ ((fa, W.listOf us.toArray k) :: rest) (fun _ hp => hp) ?_ rfl
      have e : addN rs n = (addFold n rs).found := by
        unfold addN
        simp only [*, if_true]
      rw [e]
      exact .list (.head _) (hD.mono fun p hp => .tail _ hp)
    · rename Fr _ _ _ _ => F'
      rename News _ _ _ _ => N'
      refine PEnd.intro F' N' _ (fun _ hp => hp) ?_ rfl
      have e : addN rs n = (addFold n rs).found ++ [((addFold n rs).low, (addFold n rs).high)] := by
        unfold addN
        simp [*]
      rw [e]
      simp only [prs, List.map_append]
      refine .list (.head _) (DatAll.append (hD.mono fun p hp => ?_) (DatAll.one (.tuple (vs := [.int _ tl, .int _ th]) (n := 0) (.tail _ (.tail _ (.head _))) (.cons (.int _ _) (.cons (.int _ _) .nil)))))
      rcases List.mem_append.mp hp with hp | hp <;> simp [hp]
end Mine
namespace Mine
local macro_rules | `(tactic| walk_at "mine enter") => `(tactic| (
  w_top off
  unfold PureCall
  k_fill
  intro mean mg mb dp un gd env outer A₀ base h₀ L m s Q E hf hke hdp hun B F X T hled hret
  refine' pure_def hf hke hdp B F X T hret ?k6 ?k7 ?k9 ?kB ?_ ?c2 ?c3 ?c4 ?c5
  (case k6 => k_dflt k_is)
  (case k7 => k_dflt k_is)
  (case k9 => exact BindsTo.of_eq rfl)
  (case c5 => decide)
  (case kB => exact locs rfl)
  (case c2 => exact rfl)
  (case c3 => exact rfl)
  (case c4 => exact rfl)
  clear hret B F X T hke hf
  intro g L h₁ hg F N B X T hret
  replace hled := fun p hp => hg _ _ (hled p hp)
  clear hg hret
  revert hled F s))
def EnumPost (h₀ : Heap) (L : Addr) (J' : (Str → Option Value) → Prop) (own : List (Addr × Obj)) (s₁ : Shared) (Q : Flow → Shared → Prop) (f : Flow) (s₂ : Shared) : Prop :=
  match f with
  | .ret v => Q (.ret v) s₂
  | .brk => Q .next s₂
  | _ => ∃ h' tk m' news', s₂ = { s₁ with heap := h', toks := tk } ∧ Fr h₀ L h' m' ∧ News h₀ L h' news' ∧ (∀ p ∈ own, p ∈ news') ∧ J' m'

section
variable {prog : Program} {w : World} {A : Around} {E : Value → Shared → Prop} {s : Shared} {env : Env} {h₀ : Heap} {a b : Str} {body : List Stmt} {Q : Flow → Shared → Prop}
theorem for_enum {pa pb pt pos : Pos} {x1 : Nat} {iter : Expr} {l : Addr} {vs : List Value} {m₀ : Str → Option Value} (J : Nat → (Str → Option Value) → Prop)
    (hh : A.handled = none) (hl : h₀.IsList l vs.toArray) (ha : env.kindOf a = some .local) (hb : env.kindOf b = some .local)
    (hp : (env.scope.kind == .class || (env.scope.kind == .module && env.locals != env.globals)) = false)
    (hs : ∀ x, foldedSetIterable iter env x = pure x)
    (h : wpAny (model prog w) A (eval iter env) (fun xv s₁ => ∃ e it, xv = .ref e ∧ IsEnum s₁.heap e it 0 .none ∧ s₁.heap.IsListIter it l 0 ∧ e ≠ it ∧ h₀.get? e = none ∧ h₀.get? it = none ∧ e ≠ env.locals ∧ it ≠ env.locals ∧ Fr h₀ env.locals s₁.heap m₀ ∧ J 0 m₀ ∧
      (∀ i v t m₁ h tk own, vs[i]? = some v → J i m₁ → Fr h₀ env.locals h (fun y => if y = b then some v else if y = a then some (.int (i : Nat) t) else m₁ y) → News h₀ env.locals h own →
        wpAny (model prog w) A (execs body env) (EnumPost h₀ env.locals (J (i + 1)) own { s₁ with heap := h, toks := tk } Q) (fun _ _ => False) { s₁ with heap := h, toks := tk }) ∧
      (∀ m₁ h tk, J vs.length m₁ → Fr h₀ env.locals h m₁ → Q .next { s₁ with heap := h, toks := tk })) E s) :
    wpAny (model prog w) A (exec (.For (.Tuple [.Name a pa, .Name b pb] x1 pt) iter body [] pos) env) Q E s := by
  refine wpAny_For (wpAny_mono h (fun xv s₁ h₁ => ?_) fun _ _ e => e) hs
  obtain ⟨e, it, rfl, he, hit, hne, hen, hitn, heL, hitL, F, hj, turn, done⟩ := h₁
  obtain ⟨ol, hol, _⟩ := id hl
  have hle : l ≠ e := fun q => by rw [← q, hol] at hen; cases hen
  have hli : l ≠ it := fun q => by rw [← q, hol] at hitn; cases hitn
  have W := WalksT.enumerate (prog := prog) (w := w) hh e it l hne hle hli vs.toArray
  have hLw : env.locals ∉ [e, it] := fun hm => by
    rcases List.mem_cons.mp hm with q | hm
    · exact heL q.symm
    · exact hitL (List.mem_singleton.mp hm).symm
  have old : ∀ b o, h₀.get? b = some o → b ∉ [e, it] := fun b o q hm => by
    rcases List.mem_cons.mp hm with r | hm
    · rw [r, hen] at q; cases q
    · rw [List.mem_singleton.mp hm, hitn] at q; cases q
  have hlen : vs.toArray.size = vs.length := by simp
  rw [hlen] at W
  refine W.self 0 _ _ _ ⟨⟨_, he⟩, hit, hl.at fun o q => F.keep l o q⟩ ?_
  refine codeAny_forLoop_any
    (fun k s' => ∃ h' tk m' i, s' = { s₁ with heap := h', toks := tk } ∧ ((∃ x, IsEnum h' e it (i : Nat) x) ∧ h'.IsListIter it l i ∧ h'.IsList l vs.toArray) ∧ Fr h₀ env.locals h' m' ∧ J i m' ∧ i ≤ vs.length ∧ k = vs.length + 1 - i) ?_ (vs.length + 1)
    ⟨s₁.heap, s₁.toks, m₀, 0, rfl, ⟨⟨_, he⟩, hit, hl.at fun o q => F.keep l o q⟩, F, hj, Nat.zero_le _, rfl⟩
  rintro k s' ⟨h', tk, m', i, rfl, hst', F', hJ, hi, rfl⟩
  have next : ∀ h₁ : Heap, (∀ b o, b ∉ [e, it] → h'.get? b = some o → h₁.get? b = some o) → Fr h₀ env.locals h₁ m' := fun h₁ hk₁ =>
    ⟨F'.ns.at' fun o q => hk₁ _ o hLw q, fun b o q => hk₁ b o (old b o q) (F'.keep b o q), F'.above⟩
  by_cases hlt : i < vs.length
  · refine W.item i _ _ _ hlt hst' fun T vals h₁ tk₁ hP hT hTup hMid hk₁ => ?_
    obtain ⟨t, x, hx, rfl⟩ := hP
    refine W.go _ _ _ i T _ _ _ hMid fun h₂ hst₂ hk₂ => ?_
    have hTw := W.apart i T _ hMid
    have F₂ := next h₂ fun b o hb q => hk₂ b o hb (hk₁ b o hb q)
    have hTup₂ : h₂.IsTuple T #[.int (i : Nat) t, x] := by
      obtain ⟨o, ho, r⟩ := hTup
      exact ⟨o, hk₂ _ _ hTw ho, r⟩
    refine kcp_assign hh hTup₂ ha hb hp F₂.ns fun h₃ tk₃ hn₃ hk₃ => ?_
    have F₃ : Fr h₀ env.locals h₃ _ := ⟨hn₃, fun b o q => hk₃ b o (Nat.ne_of_lt (Nat.lt_of_lt_of_le (Heap.lt_size q) F₂.above)) (F₂.keep b o q), F₂.above⟩
    obtain ⟨⟨y, he₂⟩, ⟨oi, hoi, hoi'⟩, hl₂⟩ := hst₂
    obtain ⟨oe, hoe, hoe'⟩ : ∃ oe, h₂.get? e = some oe ∧ oe = _ := ⟨_, he₂, rfl⟩
    have hN : News h₀ env.locals h₃ [(e, oe), (it, oi)] := by
      intro p hp
      rcases List.mem_cons.mp hp with rfl | hp
      · exact ⟨hk₃ _ _ heL hoe, heL, hen⟩
      · rw [List.mem_singleton.mp hp]
        exact ⟨hk₃ _ _ hitL hoi, hitL, hitn⟩
    refine wpAny_mono (turn i x t m' h₃ tk₃ [(e, oe), (it, oi)] (by simpa using hx) hJ F₃ hN) (fun f s₄ p => ?_) fun _ _ q => q.elim
    have fin : (∃ h' tk m' news', s₄ = { s₁ with heap := h', toks := tk } ∧ Fr h₀ env.locals h' m' ∧ News h₀ env.locals h' news' ∧ (∀ p ∈ [(e, oe), (it, oi)], p ∈ news') ∧ J (i + 1) m') →
        ∃ m, m < vs.length + 1 - i ∧ ∃ h' tk m' i, s₄ = { s₁ with heap := h', toks := tk } ∧ ((∃ x, IsEnum h' e it (i : Nat) x) ∧ h'.IsListIter it l i ∧ h'.IsList l vs.toArray) ∧ Fr h₀ env.locals h' m' ∧ J i m' ∧ i ≤ vs.length ∧ m = vs.length + 1 - i := by
      rintro ⟨h₅, tk₅, m₅, news₅, rfl, F₅, N₅, hin, hJ₅⟩
      refine ⟨vs.length + 1 - (i + 1), by omega, h₅, tk₅, m₅, i + 1, rfl, ⟨⟨y, by have q := (N₅ _ (hin _ (.head _))).1; rw [hoe'] at q; exact q⟩, ⟨oi, (N₅ _ (hin _ (.tail _ (.head _)))).1, hoi'⟩, hl.at fun o q => F₅.keep l o q⟩, F₅, hJ₅, hlt, rfl⟩
    cases f with
    | ret v => exact p
    | brk => exact p
    | next => exact fin p
    | cont => exact fin p
  · have hin : i = vs.length := by omega
    subst hin
    refine W.done _ _ _ hst' fun h₁ tk₁ hk₁ => wpAny_execs_nil ?_
    exact done m' h₁ tk₁ hJ (next h₁ hk₁)
end

local macro_rules | `(tactic| walk_at "exec For Tuple Call cons nil") => `(tactic| refine halt_of ?_)
local macro_rules | `(tactic| walk_at "call type:enumerate") => `(tactic| refine halt_of ?_)
def okAt (rs : List (Int × Int)) (i : Nat) : Bool :=
  match rs[i]? with
  | some p => decide (0 ≤ p.1 ∧ p.1 ≤ p.2 ∧ ¬ (0 < i ∧ (rs.getD (i - 1) (0, 0)).1 - 1 ≤ p.2))
  | none => true
def rightAll (rs : List (Int × Int)) : Bool := (List.range rs.length).all (okAt rs)
def RightJ (r : Addr) (rs : List (Int × Int)) (i : Nat) (m : Str → Option Value) : Prop := m (Str.ofString "ranges") = some (.ref r) ∧ ∀ j, j < i → okAt rs j = true
local macro_rules | `(tactic| walk_at "subscriptTail") => `(tactic| (k_here; (with_reducible show wpAny _ _ (subscriptTail _ _ (Value.ref _) (Value.int _ _)) _ _ _); k_dflt (refine' item_tupleT ?t ?a ?b ?c ?d ?_; (case t => exact IsTup.keeps (by assumption) (Fr.keep (by assumption))); (case a => decide); (case b => decide); (case c => rfl); (case d => rfl); k_whole)))
local macro_rules | `(tactic| walk_at "subscriptTail Name BinOp ref int") => `(tactic| refine halt_of ?_)
set_option maxHeartbeats 4000000 in
theorem right_spec (w : World) (led : List (Addr × Obj)) (r : Addr) (rs : List (Int × Int)) (hrs : rs.length ≤ 1000) (hr : DatIn led (.ref r) (.list (prs rs))) :
    PureCall w 62 [.ref r] led (fun _ v => v = .bool (rightAll rs)) := by
  walk_at "mine enter"
  rename_i hdp hun g L h₁ N B X T
  intro s₀ F hled
  change Fr g L h₁ (fun y => List.lookup y [(Str.ofString "ranges", .ref r)]) at F
  cases hr with
  | list hm hd =>
  rename_i vs rn
  have hL := led_list hled hm
  dsimp only
  try k_fold
  k_steps
  unfold Halt
  refine for_enum (m₀ := fun y => List.lookup y [(Str.ofString "ranges", .ref r)]) (RightJ r rs) rfl hL rfl rfl rfl (fun _ => rfl) ?_
  try k_fold
  k_steps
  unfold Halt
  have hls : h₁.IsList r vs.toArray := hL.at fun o e => F.keep r o e
  refine call_enumerate_list hls fun h' he hit _ hk => ?_
  have hLlt : L < h₁.objs.size := F.ns.lt
  have hnone : ∀ b, h₁.objs.size ≤ b → g.get? b = none := fun b hb => by
    cases q : g.get? b with
    | none => rfl
    | some o => exact absurd (Heap.lt_size (F.keep _ _ q)) (Nat.not_lt.mpr hb)
  refine ⟨_, _, rfl, he, hit, Nat.succ_ne_self _, hnone _ (Nat.le_succ _), hnone _ (Nat.le_refl _), Nat.ne_of_gt (Nat.lt_succ_of_lt hLlt), Nat.ne_of_gt hLlt, Fr.keeps F hk, ⟨rfl, fun _ h => absurd h (Nat.not_lt_zero _)⟩, ?_, ?_⟩
  · intro i v t m₁ h tk own hv hJ F₁ N₁
    obtain ⟨hm₁, hok⟩ := hJ
    obtain ⟨a, b, T, ta, tb, nT, hi, rfl, hmT⟩ := pair_at hd hv
    have hT := led_tup hled hmT
    rw [kst_self (m := m₁) [(Str.ofString "ranges", .ref r)] (by simp [hm₁])] at F₁
    dsimp only [kstB] at F₁
    have hilt : i < rs.length := (List.getElem?_eq_some_iff.mp hi).1
    have bad : okAt rs i = false → rightAll rs = false := fun h => by
      unfold rightAll
      rw [List.all_eq_false]
      exact ⟨i, List.mem_range.mpr hilt, by rw [h]; decide⟩
    have good : okAt rs i = true → RightJ r rs (i + 1) (fun y => if y = Str.ofString "one" then some (.ref T) else if y = Str.ofString "at" then some (.int i t) else if y = Str.ofString "ranges" then some (.ref r) else m₁ y) := fun h => by
      refine ⟨rfl, fun j hj => ?_⟩
      by_cases q : j = i
      · rw [q]; exact h
      · exact hok j (by omega)
    try k_fold
    k_steps
    · unfold Halt
      have hi0 : 0 < i := by omega
      have hi1 : i - 1 < vs.length := by
        have := (List.getElem?_eq_some_iff.mp hv).1
        omega
      obtain ⟨a', b', T', ta', tb', nT', hi', hvT', hmT'⟩ := pair_at hd (List.getElem?_eq_getElem hi1)
      have hT' := led_tup hled hmT'
      have hx : vs[((i : Int) - 1).toNat]? = some (.ref T') := by
        have : ((i : Int) - 1).toNat = i - 1 := by omega
        rw [this, List.getElem?_eq_getElem hi1, hvT']
      have hget : rs.getD (i - 1) (0, 0) = (a', b') := by rw [List.getD_eq_getElem?_getD, hi']; rfl
      refine item_base (hL.at fun o e => F₁.keep r o e) (by omega) (by omega) hx ?_
      try k_fold
      k_steps
      · refine PEnd.intro F₁ N₁ [] (by simp) ?_ rfl
        rw [bad]
        unfold okAt
        rw [hi]
        simp only [hget, decide_eq_false_iff_not]
        omega
      · refine ⟨_, _, _, _, rfl, F₁, N₁, fun _ h => h, good ?_⟩
        unfold okAt
        rw [hi]
        simp only [hget, decide_eq_true_eq]
        omega
    · refine ⟨_, _, _, _, rfl, F₁, N₁, fun _ h => h, good ?_⟩
      unfold okAt
      rw [hi]
      simp only [decide_eq_true_eq]
      omega
    · refine PEnd.intro F₁ N₁ [] (by simp) ?_ rfl
      rw [bad]
      unfold okAt
      rw [hi]
      simp only [decide_eq_false_iff_not]
      omega
    · refine PEnd.intro F₁ N₁ [] (by simp) ?_ rfl
      rw [bad]
      unfold okAt
      rw [hi]
      simp only [decide_eq_false_iff_not]
      omega
  · intro m₁ h tk hJ F₁
    have hall : rightAll rs = true := by
      unfold rightAll
      rw [List.all_eq_true]
      intro j hj
      refine hJ.2 j ?_
      have h1 := hd.length
      simp only [prs, List.length_map] at h1
      rw [h1]
      exact List.mem_range.mp hj
    dsimp only
    try k_fold
    k_steps
    exact PEnd.intro F₁ (News.nil) [] (by simp) (by rw [hall]) rfl
end Mine
namespace Mine
local macro_rules | `(tactic| walk_at "mine enter") => `(tactic| (
  w_top off
  unfold PureCall
  k_fill
  intro mean mg mb dp un gd env outer A₀ base h₀ L m s Q E hf hke hdp hun B F X T hled hret
  refine' pure_def hf hke hdp B F X T hret ?k6 ?k7 ?k9 ?kB ?_ ?c2 ?c3 ?c4 ?c5
  (case k6 => k_dflt k_is)
  (case k7 => k_dflt k_is)
  (case k9 => exact BindsTo.of_eq rfl)
  (case c5 => decide)
  (case kB => exact locs rfl)
  (case c2 => exact rfl)
  (case c3 => exact rfl)
  (case c4 => exact rfl)
  clear hret B F X T hke hf
  intro g L h₁ hg F N B X T hret
  replace hled := fun p hp => hg _ _ (hled p hp)
  clear hg hret
  revert hled F s))
local macro_rules | `(tactic| walk_at "exec For Name Call cons nil") => `(tactic| refine halt_of ?_)
local macro_rules | `(tactic| walk_at "pyIter ref") => `(tactic| refine halt_of ?_)
local macro_rules | `(tactic| walk_at "subscriptTail Name UnaryOp ref int") => `(tactic| refine halt_of ?_)
local macro_rules | `(tactic| walk_at "subscriptTail Subscript Constant ref int") => `(tactic| refine halt_of ?_)
local macro_rules | `(tactic| walk_at "setItem ref int ref") => `(tactic| refine halt_of ?_)
local macro_rules | `(tactic| k_all) => `(tactic| assumption)
local macro_rules | `(tactic| size_fits) => `(tactic| first | assumption | (simp only [Array.size_push, List.size_toArray, List.length_append, List.length_cons, List.length_nil, sizeLine_eq] at *; omega))

def lrStep (ks : List Int) (acc : List (Int × Int)) (n : Int) : List (Int × Int) :=
  if ks.any (· == n) then (if ks.any (· == n + 1) then acc.dropLast ++ [(n, (acc.getLastD (0, 0)).2)] else acc ++ [(n, n)]) else acc
def lrFold (ks : List Int) (i : Nat) : List (Int × Int) := (List.range i).foldl (fun acc (j : Nat) => lrStep ks acc (24 - (j : Int))) []
def lawRanges (ks : List Int) : List (Int × Int) := lrFold ks 25
theorem lrFold_succ (ks : List Int) (i : Nat) : lrFold ks (i + 1) = lrStep ks (lrFold ks i) (24 - (i : Int)) := by
  unfold lrFold
  rw [List.range_succ, List.foldl_append]
  rfl
theorem lrFold_len (ks : List Int) (i : Nat) : (lrFold ks i).length ≤ i := by
  induction i with
  | zero => simp [lrFold]
  | succ i ih =>
    rw [lrFold_succ]
    unfold lrStep
    split
    · split
      · simp only [List.length_append, List.length_dropLast, List.length_cons, List.length_nil]
        omega
      · simp only [List.length_append, List.length_cons, List.length_nil]
        omega
    · omega
def LrJ (ks : List Int) (kp fa : Addr) (i : Nat) (m : Str → Option Value) (nx : List (Addr × Obj)) : Prop :=
  ∃ (us : List Value) (k : Nat) (rest : List (Addr × Obj)),
    m (Str.ofString "found") = some (.ref fa) ∧ m (Str.ofString "kept") = some (.ref kp) ∧
    nx = (fa, W.listOf us.toArray k) :: rest ∧ (∀ p ∈ rest, p.1 ≠ fa) ∧ DatAll rest us (prs (lrFold ks i)) ∧ (ks.any (· == 25 - (i : Int)) = true → lrFold ks i ≠ [])

theorem lr_end1 {g h' : Heap} {L fa D kp : Addr} {ks : List Int} {i k' : Nat} {a b : Int} {ta tb : Tok} {m' : Str → Option Value} {us₀ : List Value} {acc₀ : List (Int × Int)} {rest own : List (Addr × Obj)} {o : Obj} {s₁ s₂ : Shared} {tk' : Nat}
    (F : Fr g L h' m') (N : News g L h' ((D, ({ cls := .type "tuple", data := .seq #[.int a ta, .int b tb] } : Obj)) :: (fa, W.listOf (us₀ ++ [Value.ref D]).toArray k') :: (rest ++ own)))
    (hl : fa < D ∧ AllLt D (rest ++ own)) (e : lrFold ks (i + 1) = acc₀ ++ [(a, b)]) (hoff : OwnOff own (((fa, o) :: rest).map (·.1))) (hrest : ∀ p ∈ rest, p.1 ≠ fa)
    (hD : DatAll rest us₀ (prs acc₀)) (h1 : m' (Str.ofString "found") = some (.ref fa)) (h2 : m' (Str.ofString "kept") = some (.ref kp)) (hs : s₂ = { s₁ with heap := h', toks := tk' }) :
    InvEndG g L (LrJ ks kp fa (i + 1)) own s₁ s₂ := by
  refine inv_end (nu := [(D, ({ cls := .type "tuple", data := .seq #[.int a ta, .int b tb] } : Obj))]) (rest := rest) F N hoff ?_ ?_ ?_ hs ⟨us₀ ++ [Value.ref D], k', [(D, ({ cls := .type "tuple", data := .seq #[.int a ta, .int b tb] } : Obj))] ++ rest, h1, h2, rfl, ?_, ?_, ?_⟩
  · intro p hp q hq
    rw [List.mem_singleton.mp hp]
    exact allLt_mem hl.2 q (List.mem_append.mpr (.inr hq))
  · intro p hp
    simp only [List.mem_cons, List.mem_append, List.cons_append, List.nil_append] at hp ⊢
    rcases hp with h | h | h
    · exact .inr (.inl h)
    · exact .inl h
    · exact .inr (.inr (.inl h))
  · intro p hp
    simp [hp]
  · intro p hp
    rcases List.mem_append.mp hp with hp | hp
    · rw [List.mem_singleton.mp hp]
      exact Nat.ne_of_gt hl.1
    · exact hrest p hp
  · rw [e]
    simp only [prs, List.map_append]
    exact DatAll.append (hD.mono fun p hp => .tail _ hp) (DatAll.one (.tuple (vs := [.int a ta, .int b tb]) (n := 0) (.head _) (.cons (.int _ _) (.cons (.int _ _) .nil))))
  · intro _
    rw [e]
    simp
set_option maxHeartbeats 4000000 in
theorem lr_spec (w : World) (kp kn : Nat) (vs : List Value) (ks : List Int) (hks : ∀ k ∈ ks, k < 25) (hi : IntsAre vs ks) :
    PureCall w 81 [.ref kp] [(kp, W.listOf vs.toArray kn)] (fun tl v => DatIn tl v (.list (prs (lawRanges ks)))) := by
  walk_at "mine enter"
  rename_i hdp hun g L h₁ N B X T
  intro s₀ F hled
  change Fr g L h₁ (fun y => List.lookup y [(Str.ofString "kept", .ref kp)]) at F
  have hL := led_list hled (.head _)
  dsimp only
  try k_fold
  k_steps
  unfold Halt
  rename_i fa _ _ _ _ _
  (rename Fr _ _ _ _ => lF'); (with_unfolding_all refine' For_invVF lF' ?k1 ?k2 ?_; (case k1 => exact rfl); (case k2 => exact rfl))
  try k_fold
  k_steps
  unfold Halt
  rename IsRange _ _ _ _ _ _ _ _ => hR
  rename Fr _ _ _ _ => F9
  rename News _ _ _ _ => N9
  refine loop_range (n := 25) (LrJ ks kp fa) rfl hR (by decide) (by decide) F9 N9 ⟨[], 0, [], rfl, rfl, rfl, (fun _ h => nomatch h), .nil, fun h => ?_⟩ ?_ ?_
  · exfalso
    obtain ⟨k, hk, e⟩ := List.any_eq_true.mp h
    have := hks k hk
    simp only [beq_iff_eq] at e
    omega
  · intro i t m₁ nx h tk own hi25 hoff hJ F₁ N₁
    obtain ⟨us, k, rest, hf, hkp, rfl, hrest, hD, hne⟩ := hJ
    rw [kst_self (m := m₁) [(Str.ofString "found", .ref fa), (Str.ofString "kept", .ref kp)] (by simp [hf, hkp])] at F₁
    dsimp only [kstB] at F₁
    have e1 : (24 : Int) + (i : Nat) * (-1) = 24 - i := by omega
    rw [e1] at F₁
    have hR : ∀ p ∈ rest ++ own, p.1 ≠ fa := fun p hp => (List.mem_append.mp hp).elim (hrest p) (off_cons hoff p)
    have N₂ : News g L h ((fa, W.listOf us.toArray k) :: (rest ++ own)) := N₁
    have hlen : us.length ≤ 100 := by
      have h1 := hD.length
      have h2 := lrFold_len ks i
      simp only [prs, List.length_map] at h1
      omega
    clear N₁
    try k_fold
    k_steps
    · unfold Halt
      have hne' := hne (by rename (ks.any fun x => x == 24 - (i : Int) + 1) = true => h9; rw [← h9]; congr 1; funext x; congr 1; omega)
      obtain ⟨us₀, acc₀, a, b, T, ta, tb, nT, rfl, hacc, hmT, hD₀⟩ := dat_last hD hne'
      refine item_neg1 (News.isList N₂ (.head _)) ?_
      try k_fold
      k_steps
      try unfold Halt
      refine item_tup (N₂ _ (List.mem_cons_of_mem _ (List.mem_append_left _ hmT))).1 (by decide) (by decide) (j := 1) rfl rfl ?_
      try k_fold
      k_steps
      unfold Halt
      rename (ks.any fun x => x == 24 - (i : Int) + 1) = true => h8
      rename (ks.any fun x => x == 24 - (i : Int)) = true => h9
      rename Fr _ _ _ _ => F3
      rename News _ _ _ _ => N3
      rename _ ∧ AllLt _ _ => hl
      refine set_last (pre := _ :: []) (post := rest ++ own) (us := us₀) F3 N3 rfl (fun p hp => by rw [List.mem_singleton.mp hp]; exact Nat.ne_of_gt hl.1) hR fun h3 F4 N4 => ?_
      try k_fold
      k_steps
      have e := lrFold_succ ks i
      rw [lrStep, h9, h8, if_pos rfl, if_pos rfl, hacc] at e
      simp only [List.dropLast_concat, List.getLastD_concat] at e
      refine lr_end1 F4 N4 hl e hoff hrest hD₀ rfl rfl rfl
    · rename (ks.any fun x => x == 24 - (i : Int) + 1) = false => h8
      rename (ks.any fun x => x == 24 - (i : Int)) = true => h9
      rename Fr _ _ _ _ => F3
      rename News _ _ _ _ => N3
      rename _ ∧ AllLt _ _ => hl
      have e := lrFold_succ ks i
      rw [lrStep, h9, h8, if_pos rfl, if_neg (by decide)] at e
      rw [List.push_toArray] at N3
      exact lr_end1 F3 N3 hl e hoff hrest hD rfl rfl rfl
    · rename_i h9
      have e := lrFold_succ ks i
      rw [lrStep, h9, if_neg (by decide)] at e
      refine inv_end (nu := []) (rest := rest) F₁ N₂ hoff (by simp) (fun p hp => ?_) (fun p hp => by simp [hp]) rfl ⟨us, k, rest, rfl, rfl, rfl, hrest, by rw [e]; exact hD, fun h => ?_⟩
      · simp only [List.nil_append, List.mem_cons, List.mem_append] at hp ⊢
        rcases hp with h | h
        · exact .inl h
        · exact .inr (.inl h)
      · exfalso
        have : (25 : Int) - ((i + 1 : Nat) : Int) = 24 - i := by omega
        rw [this, h9] at h
        cases h
  · intro m₁ nx h tk hJ F₁ N₁
    obtain ⟨us, k, rest, hf, hkp, rfl, hrest, hD, hne⟩ := hJ
    rw [kst_self (m := m₁) [(Str.ofString "found", .ref fa), (Str.ofString "kept", .ref kp)] (by simp [hf, hkp])] at F₁
    dsimp only [kstB] at F₁
    dsimp only
    try k_fold
    k_steps
    exact PEnd.intro F₁ N₁ _ (fun _ hp => hp) (.list (.head _) (hD.mono fun p hp => .tail _ hp)) rfl
end Mine
namespace Mine
open LCg (lst lst_snoc)

abbrev testsOf (ifs : List PySem.Expr) (cenv : Env) : Sem Bool :=
  forIn ifs true fun c r => if r = true then do let ok ← isTrue c cenv (eval c cenv); pure (ForInStep.yield ok) else pure (ForInStep.yield r)

def CDone (C : Addr) (mus : List Addr) (J' : Heap → Prop) (s s' : Shared) : Prop :=
  ∃ h' tk' m', s' = { s with heap := h', toks := tk' } ∧ h'.Ns C m' ∧ (∀ b o, b ≠ C → b ∉ mus → s.heap.get? b = some o → h'.get? b = some o) ∧ J' h'

/-- what a comprehension over an iterator I asks: its turns, from the state behind the iterator's making -/
structure CompOn (prog : Program) (w : World) (A : Around) (env : Env) (scope : Scope) (cl : List (Str × Addr)) (target : PySem.Expr) (ifs : List PySem.Expr) (elt : PySem.Expr) (s₂ : Shared)
    (I : Addr) (fp wr : List Addr) (n : Nat) (P : Nat → Value → Prop) (St : Nat → Heap → Prop) (mus : List Addr) (J : Nat → List Value → Heap → Prop) : Prop where
  W : Walks prog w A I fp wr n P St
  hsz : n ≤ 1000000
  st : St 0 s₂.heap
  hfp : ∀ b ∈ fp, b < s₂.heap.objs.size
  hmu : ∀ b ∈ mus, b < s₂.heap.objs.size ∧ b ∉ fp
  go : ∀ i (s' : Shared) v (Q' : Unit → Shared → Prop) (E' : Value → Shared → Prop), St i s'.heap → Q' () s' → wpAny (model prog w) A (letOwnedTupleGo target (.ref I) v) Q' E' s'
  hJ0 : J 0 [] s₂.heap
  hJ : ∀ i ys h h', J i ys h → (∀ b o, b ∉ wr → b ≠ s₂.heap.objs.size → b ≠ s₂.heap.objs.size + 1 → h.get? b = some o → h'.get? b = some o) → J i ys h'
  turn : ∀ i v ys m₁ h tk, i < n → P i v → St (i + 1) h → J i ys h → h.get? s₂.heap.objs.size = some (lst ys) → h.Ns (s₂.heap.objs.size + 1) m₁ → (∀ b o, b ∉ wr → b ∉ mus → s₂.heap.get? b = some o → h.get? b = some o) → s₂.heap.objs.size + 2 ≤ h.objs.size →
    wpAny (model prog w) A (assign target (compEnvC scope cl (s₂.heap.objs.size + 1) env) v) (fun _ s₄ => wpAny (model prog w) A (testsOf ifs (compEnvC scope cl (s₂.heap.objs.size + 1) env)) (fun ok s₅ =>
      if ok = true then wpAny (model prog w) A (eval elt (compEnvC scope cl (s₂.heap.objs.size + 1) env)) (fun y s₆ => CDone (s₂.heap.objs.size + 1) mus (J (i + 1) (ys ++ [y])) { s₂ with heap := h, toks := tk } s₆) (fun _ _ => False) s₅
      else CDone (s₂.heap.objs.size + 1) mus (J (i + 1) ys) { s₂ with heap := h, toks := tk } s₅) (fun _ _ => False) s₄) (fun _ _ => False) { s₂ with heap := h, toks := tk }

section
variable {prog : Program} {w : World} {A : Around} {E : Value → Shared → Prop} {s : Shared} {env : Env}

theorem comp_tests {elt target iter : PySem.Expr} {ifs : List PySem.Expr} {scope : Scope} {pos : Pos} {it acc : Value} {env : Env} {R : Result → Shared → Prop} (I : Nat → Shared → Prop)
    (turn : ∀ n s, I n s → wpAny (model prog w) A (pyNext it) (fun r s₁ => match r with
      | none => R (.ok .next) s₁
      | some v => wpAny (model prog w) A (letOwnedTupleGo target it v) (fun _ s₀ => wpAny (model prog w) A (assign target env v) (fun _ s₂ =>
          wpAny (model prog w) A (testsOf ifs env) (fun ok s₃ =>
            if ok = true then wpAny (model prog w) A (eval elt env) (fun x s₄ =>
              wpAny (model prog w) A (call (.builtin "list.append") [acc, x]) (fun _ s₅ => ∃ m, m < n ∧ I m s₅) (fun _ _ => False) s₄) (fun _ _ => False) s₃
            else ∃ m, m < n ∧ I m s₃) (fun _ _ => False) s₂) (fun _ _ => False) s₀) (fun _ _ => False) s₁) (fun _ _ => False) s)
    (n : Nat) (h : I n s) : codeAny (model prog w) A (.compLoop (.ListComp elt [⟨target, iter, ifs, 0⟩] scope pos) 0 it acc env) R s := by
  have up : ∀ {α : Type} {t : Sem α} {Q : α → Shared → Prop} {E' : Value → Shared → Prop} {s : Shared}, wpAny (model prog w) A t Q (fun _ _ => False) s → wpAny (model prog w) A t Q E' s :=
    fun h => wpAny_mono h (fun _ _ x => x) fun _ _ x => x.elim
  refine codeAny_loop rfl I (fun n s hI => ?_) n h
  show wpAny _ A ((compTurn (.ListComp elt [⟨target, iter, ifs, 0⟩] scope pos) 0 it acc env).onRaise (fun x => do noteFrame x env; theTreesLotGoes x)) _ _ s
  refine wpAny_noted ?_
  rw [compTurn_list]
  refine wpAny_bind (wpAny_standAt (wpAny_bind (wpAny_mono (turn n s hI) (fun r s₁ h₁ => ?_) fun _ _ h' => h'.elim)))
  cases r with
  | none => exact wpAny_pure h₁
  | some v =>
    refine wpAny_bind (wpAny_mono h₁ (fun _ s₀ h₀ => ?_) fun _ _ h' => h'.elim)
    refine wpAny_bind (wpAny_mono h₀ (fun _ s₂ h₂ => wpAny_bind (wpAny_mono h₂ (fun ok s₃ h₃ => ?_) fun _ _ h' => h'.elim)) fun _ _ h' => h'.elim)
    cases ok with
    | false => exact wpAny_pure ⟨rfl, h₃⟩
    | true =>
      exact wpAny_bind (wpAny_bind (wpAny_mono h₃ (fun x s₄ h₄ => wpAny_bind (wpAny_mono h₄ (fun _ s₅ h₅ => wpAny_pure (wpAny_pure ⟨rfl, h₅⟩)) fun _ _ h' => h'.elim)) fun _ _ h' => h'.elim))

theorem comp_core {elt target iter : PySem.Expr} {ifs : List PySem.Expr} {scope : Scope} {cl : List (Str × Addr)} {pos : Pos} {s₂ : Shared} {I : Addr} {fp wr : List Addr} {n : Nat} {P : Nat → Value → Prop}
    {St : Nat → Heap → Prop} {mus : List Addr} {J : Nat → List Value → Heap → Prop} {RR : Value → Addr → Result → Shared → Prop}
    (X : CompOn prog w A env scope cl target ifs elt s₂ I fp wr n P St mus J) (hcell : ∀ y ∈ scope.names, y.2 ≠ .cell) (hkind : scope.kind = .function)
    (hRR : ∀ h' tk m' ys, h'.Ns (s₂.heap.objs.size + 1) m' → h'.get? s₂.heap.objs.size = some (lst ys) → J n ys h' → ys.length ≤ n →
      (∀ b o, b ∉ wr → b ∉ mus → s₂.heap.get? b = some o → h'.get? b = some o) → RR (.ref s₂.heap.objs.size) (s₂.heap.objs.size + 1) (.ok .next) { s₂ with heap := h', toks := tk }) :
    wpAny (model prog w) A (newList []) (fun acc s₃ => wpAny (model prog w) A (newFunctionEnv scope env.globals cl [] env.qual none .none (some env)) (fun cenv s₄ =>
      codeAny (model prog w) A (.compStart (.ListComp elt [⟨target, iter, ifs, 0⟩] scope pos) 0 (.ref I) acc { cenv with scope := relabel scope env }) (RR acc cenv.locals) s₄) E s₃) E s₂ := by
  refine wpAny_newObj_type (hd := by size_fits) (wpAny_newFunctionEnv hcell (by intro y hy; simp at hy) (fun h₁ hns₁ hsb₁ => ?_) hkind)
  dsimp only at hns₁ hsb₁ ⊢
  generalize hH2 : s₂.heap.push { cls := .type "list", dict := none, data := .seq ([] : List Value).toArray } = H2 at hns₁ hsb₁ ⊢
  have hC : H2.objs.size = s₂.heap.objs.size + 1 := by rw [← hH2, Heap.size_push]
  rw [hC] at hns₁ hsb₁ ⊢
  generalize hD0 : s₂.heap.objs.size = D at *
  have hDC : D ≠ D + 1 := (Nat.succ_ne_self D).symm
  have below : ∀ b, b < D → b ≠ D + 1 ∧ b ≠ D := fun b hb => ⟨Nat.ne_of_lt (Nat.lt_succ_of_lt hb), Nat.ne_of_lt hb⟩
  have old : ∀ b o, s₂.heap.get? b = some o → h₁.get? b = some o := fun b o e =>
    hsb₁.extBut b o (below b (hD0 ▸ Heap.lt_size e)).1 (Heap.get?_push_of_some _ (hH2 ▸ Heap.get?_push_of_some _ e))
  have hacc : h₁.get? D = some (lst []) := by
    refine hsb₁.extBut _ _ hDC (Heap.get?_push_of_some _ ?_)
    rw [← hH2, ← hD0]
    exact Heap.get?_push_size _ rfl
  have hst₁ : St 0 h₁ := X.W.frame _ _ _ X.st fun b _ o e => old b o e
  have hfpC : ∀ b ∈ fp, b ≠ D + 1 ∧ b ≠ D := fun b hb => below b (hD0 ▸ X.hfp b hb)
  have hmuC : ∀ b ∈ mus, b ≠ D + 1 ∧ b ≠ D := fun b hb => below b (hD0 ▸ (X.hmu b hb).1)
  have hCw : D + 1 ∉ wr := fun h => (hfpC _ (X.W.sub _ h)).1 rfl
  have hDw : D ∉ wr := fun h => (hfpC _ (X.W.sub _ h)).2 rfl
  have hCm : D + 1 ∉ mus := fun h => (hmuC _ h).1 rfl
  have hDm : D ∉ mus := fun h => (hmuC _ h).2 rfl
  have hJ₁ : J 0 [] h₁ := X.hJ _ _ _ _ X.hJ0 fun b o _ _ _ e => old b o e
  have hturn := X.turn
  have hJs := X.hJ
  rw [hD0] at hturn hJs
  have loop : ∀ s₃ : Shared, s₃ = { s₂ with heap := h₁, toks := s₂.toks + ([] : List (Str × Value)).length } →
      codeAny (model prog w) A (.compLoop (.ListComp elt [⟨target, iter, ifs, 0⟩] scope pos) 0 (.ref I) (.ref D) (compEnvC scope cl (D + 1) env)) (RR (.ref D) (D + 1)) s₃ := by
    rintro s₃ rfl
    refine comp_tests
      (fun k s' => ∃ h' tk m' ys i, s' = { s₂ with heap := h', toks := tk } ∧ St i h' ∧ h'.get? D = some (lst ys) ∧ h'.Ns (D + 1) m' ∧ J i ys h' ∧ ys.length ≤ i ∧ i ≤ n ∧ k = n + 1 - i ∧
        ∀ b o, b ∉ wr → b ∉ mus → s₂.heap.get? b = some o → h'.get? b = some o) ?_ (n + 1)
      ⟨h₁, _, _, [], 0, rfl, hst₁, hacc, hns₁, hJ₁, Nat.le_refl _, Nat.zero_le _, rfl, fun b o _ _ e => old b o e⟩
    rintro k s' ⟨h', tk, m', ys, i, rfl, hst', hacc', hns', hJ', hys, hi, rfl, hk⟩
    by_cases hlt : i < n
    · refine X.W.item i _ _ _ hlt hst' fun v h₃ tk₃ hP hst₃ hk₃ => ?_
      refine X.go (i + 1) _ v _ _ hst₃ ?_
      have hns₃ : h₃.Ns (D + 1) m' := hns'.at' fun o e => hk₃ _ o hCw e
      have hacc₃ : h₃.get? D = some (lst ys) := hk₃ _ _ hDw hacc'
      have hJ₃ : J i ys h₃ := hJs _ _ _ _ hJ' fun b o hb _ _ e => hk₃ b o hb e
      have hk₃' : ∀ b o, b ∉ wr → b ∉ mus → s₂.heap.get? b = some o → h₃.get? b = some o := fun b o hb hb' e => hk₃ b o hb (hk b o hb hb' e)
      have hsz₃ : D + 2 ≤ h₃.objs.size := hns₃.lt
      have fin : ∀ {ys' : List Value} {s₅ : Shared}, CDone (D + 1) mus (J (i + 1) ys') { s₂ with heap := h₃, toks := tk₃ } s₅ →
          ∃ h₅ tk₅ m₅, s₅ = { s₂ with heap := h₅, toks := tk₅ } ∧ St (i + 1) h₅ ∧ h₅.get? D = some (lst ys) ∧ h₅.Ns (D + 1) m₅ ∧ J (i + 1) ys' h₅ ∧ ∀ b o, b ∉ wr → b ∉ mus → s₂.heap.get? b = some o → h₅.get? b = some o := by
        rintro ys' s₅ ⟨h₅, tk₅, m₅, rfl, hns₅, hk₅, hJ₅⟩
        refine ⟨h₅, tk₅, m₅, rfl, X.W.frame _ _ _ hst₃ fun b hb o e => hk₅ b o (hfpC b hb).1 (fun hm => (X.hmu b hm).2 hb) e, hk₅ _ _ hDC hDm hacc₃, hns₅, hJ₅, fun b o hb hb' e => hk₅ b o ?_ hb' (hk₃' b o hb hb' e)⟩
        exact (below b (hD0 ▸ Heap.lt_size e)).1
      refine wpAny_mono (hturn i v ys m' h₃ tk₃ hlt hP hst₃ hJ₃ hacc₃ hns₃ hk₃' hsz₃) (fun _ s₄ h₄ => wpAny_mono h₄ (fun ok s₅ h₅ => ?_) fun _ _ x => x) fun _ _ x => x
      cases ok with
      | false =>
        simp only [Bool.false_eq_true, if_false] at h₅ ⊢
        obtain ⟨h₆, tk₅, m₅, rfl, a, b, c, d, e⟩ := fin h₅
        exact ⟨n + 1 - (i + 1), by omega, h₆, tk₅, m₅, ys, i + 1, rfl, a, b, c, d, Nat.le_succ_of_le hys, hlt, rfl, e⟩
      | true =>
        simp only [if_true] at h₅ ⊢
        refine wpAny_mono h₅ (fun y s₆ h₆ => ?_) fun _ _ x => x
        obtain ⟨h₆, tk₆, m₆, rfl, a, b, c, d, e⟩ := fin h₆
        refine append_at (its := ys.toArray) (n := ys.length) (hsz := by rw [List.size_toArray, PySem.sizeLine_eq]; have := X.hsz; omega) b fun h₇ hs₇ ho₇ => ?_
        rw [lst_snoc] at ho₇
        refine ⟨n + 1 - (i + 1), by omega, h₇, tk₆, m₆, ys ++ [y], i + 1, rfl, X.W.frame _ _ _ a fun b hb o e => hs₇.extBut b o (hfpC b hb).2 e, ho₇, c.sameBut hs₇ hDC.symm, hJs _ _ _ _ d fun b o _ hb _ e => hs₇.extBut b o hb e,
          by simp only [List.length_append, List.length_cons, List.length_nil]; omega, hlt, rfl, fun b o hb hb' q => hs₇.extBut b o ((below b (hD0 ▸ Heap.lt_size q)).2) (e b o hb hb' q)⟩
    · have hin : i = n := by omega
      subst hin
      refine X.W.done _ _ _ hst' fun h₃ tk₃ hk₃ => ?_
      exact hRR h₃ tk₃ m' ys (hns'.at' fun o e => hk₃ _ o hCw e) (hk₃ _ _ hDw hacc') (hJs _ _ _ _ hJ' fun b o hb _ _ e => hk₃ b o hb e) hys fun b o hb hb' e => hk₃ b o hb (hk b o hb hb' e)
  exact codeAny_compStart_list (loop _ rfl) (X.W.self 0 _ _ _ hst₁ (loop _ rfl))

def CompAsk (prog : Program) (w : World) (A : Around) (env : Env) (scope : Scope) (cl : List (Str × Addr)) (target : PySem.Expr) (ifs : List PySem.Expr) (elt : PySem.Expr) (Q : Value → Shared → Prop) (it : Value) (s₂ : Shared) : Prop :=
  ∃ I fp wr n P St mus J, it = .ref I ∧ CompOn prog w A env scope cl target ifs elt s₂ I fp wr n P St mus J ∧
      (∀ h' tk ys, h'.get? s₂.heap.objs.size = some (lst ys) → J n ys h' → ys.length ≤ n → (∀ b o, b ∉ wr → b ∉ mus → s₂.heap.get? b = some o → h'.get? b = some o) → Q (.ref s₂.heap.objs.size) { s₂ with heap := h', toks := tk })

theorem comp_eval {elt target iter : PySem.Expr} {ifs : List PySem.Expr} {scope : Scope} {cl : List (Str × Addr)} {pos : Pos} {Q : Value → Shared → Prop}
    (hclos : closureFor scope env = pure cl) (hcell : ∀ y ∈ scope.names, y.2 ≠ .cell) (hkind : scope.kind = .function) (hnames : ∀ y ∈ scope.names, y.2 = .local → scope.names.lookup y.1 = some .local)
    (hs : ∀ x, foldedSetIterable iter env x = pure x)
    (h : wpAny (model prog w) A (eval iter env) (fun xv s₁ => wpAny (model prog w) A (pyIter xv) (fun it s₂ => CompAsk prog w A env scope cl target ifs elt Q it s₂) E s₁) E s) :
    wpAny (model prog w) A (eval (.ListComp elt [⟨target, iter, ifs, 0⟩] scope pos) env) Q E s := by
  rw [eval_ListComp]
  refine wpAny_comprehension_free (use := none) rfl hs hclos hkind hnames (wpAny_mono h (fun xv s₁ h₁ => wpAny_mono h₁ (fun it s₂ h₂ => ?_) fun _ _ e => e) fun _ _ e => e)
  obtain ⟨I, fp, wr, n, P, St, mus, J, rfl, X, hQ⟩ := h₂
  refine comp_core (RR := fun acc C => compPost (model prog w) A E none Q acc C) X hcell hkind ?_
  intro h' tk m' ys hn hl hJ hys hk
  refine ⟨m', hn, fun h'' hs'' => hQ h'' tk ys (hs''.extBut _ _ (Nat.succ_ne_self _).symm hl) (X.hJ _ _ _ _ hJ fun b o _ _ hb e => hs''.extBut b o hb e) hys fun b o hb hb' e => hs''.extBut b o ?_ (hk b o hb hb' e)⟩
  exact Nat.ne_of_lt (Nat.lt_succ_of_lt (Heap.lt_size e))

def CompAskA (prog : Program) (w : World) (A : Around) (env : Env) (scope : Scope) (cl : List (Str × Addr)) (target : PySem.Expr) (ifs : List PySem.Expr) (elt : PySem.Expr) (y : Str) (Q : Flow → Shared → Prop) (it : Value) (s₂ : Shared) : Prop :=
  ∃ I fp wr n P St mus J m, it = .ref I ∧ CompOn prog w A env scope cl target ifs elt s₂ I fp wr n P St mus J ∧
      env.locals ∉ wr ∧ env.locals ∉ mus ∧ s₂.heap.Ns env.locals m ∧ (∀ ys h h', J n ys h → Heap.SameBut env.locals h h' → J n ys h') ∧
      (∀ h' tk ys, h'.get? s₂.heap.objs.size = some (lst ys) → J n ys h' → ys.length ≤ n → h'.Ns env.locals (fun z => if z = y then some (.ref s₂.heap.objs.size) else m z) →
        (∀ b o, b ≠ env.locals → b ∉ wr → b ∉ mus → s₂.heap.get? b = some o → h'.get? b = some o) → Q .next { s₂ with heap := h', toks := tk })

theorem comp_assign {elt target iter : PySem.Expr} {ifs : List PySem.Expr} {scope : Scope} {cl : List (Str × Addr)} {pos spos py : Pos} {y : Str} {Q : Flow → Shared → Prop}
    (hsw : swapsWith (.ListComp elt [⟨target, iter, ifs, 0⟩] scope pos) (some (.Name y py)) spos.line env = pure true)
    (hclos : closureFor scope env = pure cl) (hcell : ∀ y ∈ scope.names, y.2 ≠ .cell) (hkind : scope.kind = .function) (hnames : ∀ y ∈ scope.names, y.2 = .local → scope.names.lookup y.1 = some .local)
    (hs : ∀ x, foldedSetIterable iter env x = pure x) (hy : env.kindOf y = some .local) (hp : (env.scope.kind == .class || (env.scope.kind == .module && env.locals != env.globals)) = false)
    (h : wpAny (model prog w) A (eval iter env) (fun xv s₁ => wpAny (model prog w) A (pyIter xv) (fun it s₂ => CompAskA prog w A env scope cl target ifs elt y Q it s₂) E s₁) E s) :
    wpAny (model prog w) A (exec (.Assign [.Name y py] (.ListComp elt [⟨target, iter, ifs, 0⟩] scope pos) spos) env) Q E s := by
  rw [exec_Assign_Name_used _ _ _ _ hsw]
  refine wpAny_bind (wpAny_standAt (wpAny_bind ?_))
  show wpAny _ A (do let _ ← comprehension (.ListComp elt [⟨target, iter, ifs, 0⟩] scope pos) scope env _ (newList []) false (eval iter env) (some (assign (.Name y py) env))) _ _ s
  refine wpAny_bind (wpAny_mono (wpAny_comprehension_free (use := some (assign (.Name y py) env)) (Q := fun _ s' => Q .next s') rfl hs hclos hkind hnames
    (wpAny_mono h (fun xv s₁ h₁ => wpAny_mono h₁ (fun it s₂ h₂ => ?_) fun _ _ e => e) fun _ _ e => e)) (fun _ s' hq => wpAny_pure (wpAny_pure hq)) fun _ _ e => e)
  obtain ⟨I, fp, wr, n, P, St, mus, J, m, rfl, X, hLw, hLm, hn, hJL, hQ⟩ := h₂
  refine comp_core (RR := fun acc C => compPost (model prog w) A E (some (assign (.Name y py) env)) (fun _ s' => Q .next s') acc C) X hcell hkind ?_
  intro h' tk m' ys hnC hl hJ hys hk
  have hLlt := hn.lt
  have hLC : env.locals ≠ s₂.heap.objs.size + 1 := Nat.ne_of_lt (Nat.lt_succ_of_lt hLlt)
  have hLD : env.locals ≠ s₂.heap.objs.size := Nat.ne_of_lt hLlt
  show wpAny _ A (assign (.Name y py) env (.ref s₂.heap.objs.size)) _ _ _
  refine wpAny_assign_Name (wpAny_storeName_local hy (hn.at' fun o e => hk _ o hLw hLm e) (fun h₂ hn₂ hs₂ => ?_) hp)
  refine ⟨m', hnC.sameBut hs₂ (Ne.symm hLC), fun h₃ hs₃ => ?_⟩
  refine hQ h₃ _ ys (hs₃.extBut _ _ (Nat.succ_ne_self _).symm (hs₂.extBut _ _ hLD.symm hl)) (X.hJ _ _ _ _ (hJL _ _ _ hJ hs₂) fun b o _ _ hb e => hs₃.extBut b o hb e) hys (hn₂.sameBut hs₃ hLC) fun b o hbL hb hb' e => hs₃.extBut b o ?_ (hs₂.extBut b o hbL (hk b o hb hb' e))
  exact Nat.ne_of_lt (Nat.lt_succ_of_lt (Heap.lt_size e))
end
end Mine
namespace Mine
open LCg (lst lst_snoc)

/-- the end of a turn that changes nothing but the block's own names -/
def CTurn (C : Addr) (G : List (Addr × Obj) → Prop) (tl : List (Addr × Obj)) (s s' : Shared) : Prop :=
  ∃ h' tk' m' nu, s' = { s with heap := h', toks := tk' } ∧ h'.Ns C m' ∧ (∀ b o, b ≠ C → s.heap.get? b = some o → h'.get? b = some o) ∧ (∀ p ∈ nu, h'.get? p.1 = some p.2 ∧ s.heap.get? p.1 = none) ∧ G (nu ++ tl)

abbrev CTurnWp (prog : Program) (w : World) (A : Around) (target : PySem.Expr) (ifs : List PySem.Expr) (elt : PySem.Expr) (cenv : Env) (C : Addr) (i : Nat) (v : Value) (ys : List Value) (tl : List (Addr × Obj)) (G : Nat → List Value → List (Addr × Obj) → Prop) (s : Shared) : Prop :=
  wpAny (model prog w) A (assign target cenv v) (fun _ s₄ => wpAny (model prog w) A (testsOf ifs cenv) (fun ok s₅ =>
      if ok = true then wpAny (model prog w) A (eval elt cenv) (fun y s₆ => CTurn C (G (i + 1) (ys ++ [y])) tl s s₆) (fun _ _ => False) s₅
      else CTurn C (G (i + 1) ys) tl s s₅) (fun _ _ => False) s₄) (fun _ _ => False) s

section
variable {prog : Program} {w : World} {A : Around} {E : Value → Shared → Prop} {s : Shared} {env : Env}
theorem comp_pack {target : PySem.Expr} {ifs : List PySem.Expr} {elt : PySem.Expr} {scope : Scope} {cl : List (Str × Addr)} {oI : Obj} {fp : List Addr} {n : Nat} {P : Nat → Value → Prop} {St : Nat → Heap → Prop} {Q : Value → Shared → Prop}
    (G : Nat → List Value → List (Addr × Obj) → Prop)
    (W : Walks prog w A s.heap.objs.size fp [s.heap.objs.size] n P St) (hn : n ≤ 1000000) (hst : St 0 (s.heap.push oI)) (hfp : ∀ b ∈ fp, b < s.heap.objs.size + 1) (hfree : oI.isFreed = false)
    (hgo : ∀ i (s' : Shared) v (Q' : Unit → Shared → Prop) (E' : Value → Shared → Prop), St i s'.heap → Q' () s' → wpAny (model prog w) A (letOwnedTupleGo target (.ref s.heap.objs.size) v) Q' E' s')
    (hob : ∀ i h, St i h → ∃ o, h.get? s.heap.objs.size = some o) (h0 : G 0 [] [])
    (turn : ∀ C i v ys tl m₁ h tk, i < n → P i v → G i ys tl → h.Ns C m₁ → (∀ b o, s.heap.get? b = some o → h.get? b = some o) → s.heap.objs.size ≤ C → (∀ p ∈ tl, h.get? p.1 = some p.2) →
      CTurnWp prog w A target ifs elt (compEnvC scope cl C env) C i v ys tl G { s with heap := h, toks := tk })
    (done : ∀ D h' tk ys tl, h'.get? D = some (lst ys) → s.heap.get? D = none → G n ys tl → ys.length ≤ n → (∀ b o, s.heap.get? b = some o → h'.get? b = some o) → (∀ p ∈ tl, h'.get? p.1 = some p.2 ∧ s.heap.get? p.1 = none) → Q (.ref D) { s with heap := h', toks := tk }) :
    ∃ I fp wr n P St mus J, Value.ref s.heap.objs.size = .ref I ∧ CompOn prog w A env scope cl target ifs elt { s with heap := s.heap.push oI } I fp wr n P St mus J ∧
      (∀ h' tk ys, h'.get? (s.heap.push oI).objs.size = some (lst ys) → J n ys h' → ys.length ≤ n → (∀ b o, b ∉ wr → b ∉ mus → (s.heap.push oI).get? b = some o → h'.get? b = some o) →
        Q (.ref (s.heap.push oI).objs.size) { s with heap := h', toks := tk }) := by
  have hsz : (s.heap.push oI).objs.size = s.heap.objs.size + 1 := Heap.size_push ..
  have old : ∀ b o, s.heap.get? b = some o → (s.heap.push oI).get? b = some o := fun b o e => Heap.get?_push_of_some _ e
  have notI : ∀ b o, s.heap.get? b = some o → b ∉ [s.heap.objs.size] := fun b o e hm => absurd (Heap.lt_size e) ((List.mem_singleton.mp hm) ▸ Nat.lt_irrefl _)
  have fresh : ∀ b, s.heap.objs.size ≤ b → s.heap.get? b = none := fun b hb => by
    cases q : s.heap.get? b with
    | none => rfl
    | some o => exact absurd (Heap.lt_size q) (Nat.not_lt.mpr hb)
  refine ⟨_, fp, _, n, P, St, [], fun i ys h => ∃ tl, (∀ p ∈ tl, h.get? p.1 = some p.2 ∧ s.heap.get? p.1 = none ∧ p.1 ≠ s.heap.objs.size ∧ p.1 ≠ s.heap.objs.size + 1 ∧ p.1 ≠ s.heap.objs.size + 1 + 1) ∧ G i ys tl, rfl,
    ⟨W, hn, hst, fun b hb => by rw [hsz]; exact hfp b hb, fun b hb => (nomatch hb), hgo, ⟨[], fun _ hp => (nomatch hp), h0⟩, ?_, ?_⟩, ?_⟩
  · rintro i ys h h' ⟨tl, ht, hG⟩ hk
    rw [hsz] at hk
    refine ⟨tl, fun p hp => ?_, hG⟩
    obtain ⟨a, b, c, d, e⟩ := ht p hp
    exact ⟨hk _ _ (fun hm => c (List.mem_singleton.mp hm)) d e a, b, c, d, e⟩
  · rintro i v ys m₁ h tk hi hP hst' ⟨tl, ht, hG⟩ hD hC hk hle
    rw [hsz] at hD hC hle
    dsimp only
    rw [hsz]
    obtain ⟨oi, hoi⟩ := hob _ _ hst'
    refine wpAny_mono (turn (s.heap.objs.size + 1 + 1) i v ys tl m₁ h tk hi hP hG hC (fun b o e => hk b o (notI b o e) (by simp) (old b o e)) (Nat.le_succ_of_le (Nat.le_succ _)) fun p hp => (ht p hp).1) (fun _ s₄ h₄ => wpAny_mono h₄ (fun ok s₅ h₅ => ?_) fun _ _ x => x) fun _ _ x => x
    have fin : ∀ {ys' : List Value} {s₆ : Shared}, CTurn (s.heap.objs.size + 1 + 1) (G (i + 1) ys') tl { s with heap := h, toks := tk } s₆ →
        CDone (s.heap.objs.size + 1 + 1) [] (fun h => ∃ tl, (∀ p ∈ tl, h.get? p.1 = some p.2 ∧ s.heap.get? p.1 = none ∧ p.1 ≠ s.heap.objs.size ∧ p.1 ≠ s.heap.objs.size + 1 ∧ p.1 ≠ s.heap.objs.size + 1 + 1) ∧ G (i + 1) ys' tl) { s with heap := h, toks := tk } s₆ := by
      rintro ys' s₆ ⟨h', tk', m', nu, rfl, hn', hk', hnu, hG'⟩
      refine ⟨h', tk', m', rfl, hn', fun b o hb _ e => hk' b o hb e, nu ++ tl, fun p hp => ?_, hG'⟩
      rcases List.mem_append.mp hp with hp | hp
      · obtain ⟨a, b⟩ := hnu p hp
        refine ⟨a, ?_, fun q => ?_, fun q => ?_, fun q => ?_⟩
        · cases q : s.heap.get? p.1 with
          | none => rfl
          | some o => have := hk _ _ (notI _ _ q) (by simp) (old _ _ q); rw [b] at this; cases this
        · rw [q] at b; rw [b] at hoi; cases hoi
        · rw [q] at b; rw [b] at hD; cases hD
        · obtain ⟨oc, _, _, hoc, _⟩ := hC
          rw [q] at b; rw [b] at hoc; cases hoc
      · obtain ⟨a, b, c, d, e⟩ := ht p hp
        exact ⟨hk' _ _ e a, b, c, d, e⟩
    cases ok with
    | false =>
      simp only [Bool.false_eq_true, if_false] at h₅ ⊢
      exact fin h₅
    | true =>
      simp only [if_true] at h₅ ⊢
      exact wpAny_mono h₅ (fun y s₆ h₆ => fin h₆) fun _ _ x => x
  · rintro h' tk ys hD ⟨tl, ht, hG⟩ hys hk
    exact done _ h' tk ys tl hD (fresh _ (by rw [hsz]; exact Nat.le_succ _)) hG hys (fun b o e => hk b o (notI b o e) (by simp) (old b o e)) fun p hp => ⟨(ht p hp).1, (ht p hp).2.1⟩

theorem comp_list {target : PySem.Expr} {ifs : List PySem.Expr} {elt : PySem.Expr} {scope : Scope} {cl : List (Str × Addr)} {l : Addr} {vs : List Value} {Q : Value → Shared → Prop}
    (G : Nat → List Value → List (Addr × Obj) → Prop) (hh : A.handled = none) (hl : s.heap.IsList l vs.toArray) (hn : vs.length ≤ 1000000) (h0 : G 0 [] [])
    (turn : ∀ C i v ys tl m₁ h tk, vs[i]? = some v → G i ys tl → h.Ns C m₁ → (∀ b o, s.heap.get? b = some o → h.get? b = some o) → s.heap.objs.size ≤ C → (∀ p ∈ tl, h.get? p.1 = some p.2) →
      CTurnWp prog w A target ifs elt (compEnvC scope cl C env) C i v ys tl G { s with heap := h, toks := tk })
    (done : ∀ D h' tk ys tl, h'.get? D = some (lst ys) → s.heap.get? D = none → G vs.length ys tl → ys.length ≤ vs.length → (∀ b o, s.heap.get? b = some o → h'.get? b = some o) → (∀ p ∈ tl, h'.get? p.1 = some p.2 ∧ s.heap.get? p.1 = none) → Q (.ref D) { s with heap := h', toks := tk }) :
    wpAny (model prog w) A (pyIter (.ref l)) (fun it s₂ => CompAsk prog w A env scope cl target ifs elt Q it s₂) E s := by
  obtain ⟨ol, hol, _⟩ := id hl
  have hlt : l < s.heap.objs.size := Heap.lt_size hol
  refine wpAny_pyIter_list hl ?_
  have W := Walks.list (prog := prog) (w := w) hh s.heap.objs.size l (Nat.ne_of_lt hlt) vs.toArray
  have hlen : vs.toArray.size = vs.length := by simp
  rw [hlen] at W
  refine comp_pack G W hn ⟨⟨_, Heap.get?_push_size _ rfl, rfl, rfl⟩, hl.at fun o e => Heap.get?_push_of_some _ e⟩ ?_ rfl (fun i s' v Q' E' hst h => letGo_listiter hst.1 h) (fun i h hst => let ⟨⟨o, ho, _⟩, _⟩ := hst; ⟨o, ho⟩) h0 ?_ done
  · intro b hb
    rcases List.mem_cons.mp hb with rfl | hb
    · exact Nat.lt_succ_self _
    · rw [List.mem_singleton.mp hb]; exact Nat.lt_succ_of_lt hlt
  · intro C i v ys tl m₁ h tk _ hP hG hC hk hle ht
    exact turn C i v ys tl m₁ h tk (by simpa using hP) hG hC hk hle ht

theorem comp_range {x : Str} {px : Pos} {ifs : List PySem.Expr} {elt : PySem.Expr} {scope : Scope} {cl : List (Str × Addr)} {r : Addr} {a₀ b₀ c₀ : Int} {t₀ u₀ v₀ : Tok} {n : Nat} {Q : Value → Shared → Prop}
    (G : Nat → List Value → List (Addr × Obj) → Prop) (hh : A.handled = none) (hr : IsRange s.heap r a₀ b₀ c₀ t₀ u₀ v₀) (hsmall : Builtin.Range.small a₀ b₀ c₀ = true) (hsz : Builtin.Range.rangeSize a₀ b₀ c₀ = (n : Int)) (hn : n ≤ 1000000) (h0 : G 0 [] [])
    (turn : ∀ C i t ys tl m₁ h tk, i < n → G i ys tl → h.Ns C m₁ → (∀ b o, s.heap.get? b = some o → h.get? b = some o) → s.heap.objs.size ≤ C → (∀ p ∈ tl, h.get? p.1 = some p.2) →
      CTurnWp prog w A (.Name x px) ifs elt (compEnvC scope cl C env) C i (.int (a₀ + (i : Nat) * c₀) t) ys tl G { s with heap := h, toks := tk })
    (done : ∀ D h' tk ys tl, h'.get? D = some (lst ys) → s.heap.get? D = none → G n ys tl → ys.length ≤ n → (∀ b o, s.heap.get? b = some o → h'.get? b = some o) → (∀ p ∈ tl, h'.get? p.1 = some p.2 ∧ s.heap.get? p.1 = none) → Q (.ref D) { s with heap := h', toks := tk }) :
    wpAny (model prog w) A (pyIter (.ref r)) (fun it s₂ => CompAsk prog w A env scope cl (.Name x px) ifs elt Q it s₂) E s := by
  refine wpAny_pyIter_range hr hsmall ?_
  have W : Walks prog w A s.heap.objs.size [s.heap.objs.size] [s.heap.objs.size] n (fun i v => i < n ∧ ∃ t, v = .int (a₀ + i * c₀) t)
      (fun i h => IsRangeIter h s.heap.objs.size (a₀ + (i : Nat) * c₀) ((n : Int) - (i : Nat)) c₀) := (Walks.range hh _ a₀ c₀ n).bound
  refine comp_pack G W hn (by show IsRangeIter _ _ _ _ _; rw [hsz]; simpa using Heap.get?_push_size _ rfl) ?_ rfl (fun i s' v Q' E' hst h => wpAny_of_eq (by cases v <;> rfl) h) (fun i h hst => ⟨_, hst⟩) h0 ?_ done
  · intro b hb
    rw [List.mem_singleton.mp hb]
    exact Nat.lt_succ_self _
  · rintro C i v ys tl m₁ h tk hi ⟨_, t, rfl⟩ hG hC hk hle ht
    exact turn C i t ys tl m₁ h tk hi hG hC hk hle ht
end

theorem pure_defC {w : World} {K : Frag} {p : Program} {loose : List Str} {mean : ExcName → Option Value} {mg mb : Str → Option Value} {prog : Program} {dp un : Nat} {gd : Option (List Code)} {A₀ : Around} {base h₀ : Heap} {L : Addr} {m : Str → Option Value} {s : Shared} {Q E : Value → Shared → Prop}
    {env : Env} {outer : List Env} {name qual : Str} {params : Arguments} {body : List Stmt} {scope : Scope} {dV kV doc pm cdv ct oc : Value} {an od : Option Addr} {osl : Array (Option Value)} {f : Addr} {vs : List Value} {binds : List (Str × Value)}
    {Out : List (Addr × Obj) → Value → Prop}
    (hf : env.frame = some L) (hke : env.scope.kind = .function) (hroom : dp + 10 < recursionLimit)
    (B : Below A₀ base outer h₀) (F : Fr h₀ L s.heap m) (X₀ : K.In h₀) (T : Top p loose mean mg mb h₀)
    (hret : ∀ v s', PEnd s.heap Out v s s' → Q v s')
    (ho : K.lookup f = some ⟨oc, od, .func (fnOf name qual params body scope dV kV doc pm an cdv ct), osl⟩) (hcd : codeIn K cdv qual = true)
    (hbind : BindsTo s (fnOf name qual params body scope dV kV doc pm an cdv ct) ⟨vs, []⟩ binds)
    (hkind : (binds.all fun y => scope.names.lookup y.1 == some .local || scope.names.lookup y.1 == some .cell) = true)
    (hnd : ((cellsFrom 0 scope.names []).map (·.1)).Nodup)
    (h : ∀ g L' h₁ tk cells, (∀ b o, s.heap.get? b = some o → g.get? b = some o) → Fr g L' h₁ (bindL (envOfC qual scope L' f cdv).kindOf binds fun _ => none) → News g L' h₁ cells →
      CellsAre (bindC (envOfC qual scope L' f cdv).kindOf binds fun _ => none) (cellsFrom (L' + 1) scope.names []) cells → Below (arnd dp un gd env outer) base (env :: outer) g → K.In g → Top p loose mean mg mb g →
      wpAny (model prog w) (arnd (dp + 1) (un + 3) gd (envOfC qual scope L' f cdv) (env :: outer)) (execs body (envOfC qual scope L' f cdv))
        (fun fl s' => PEnd g Out (match fl with | .ret v => v | _ => .none) s s')
        (fun _ _ => False)
        { s with heap := h₁, toks := tk })
    (hco : scope.isCoroutine = false) (hgen : scope.isGenerator = false) (hk : scope.kind = .function) :
    wpAny (model prog w) (arnd dp un gd env outer) (call (.ref f) vs) Q E s := by
  refine wpAny_call ?_
  have B₁ := pushX B F hf hke
  refine codeAny_call_function (fd := fnOf name qual params body scope dV kV doc pm an cdv ct) (body := body) (by show dp < _; omega) ((X₀.keeps F.keep) _ _ ho) rfl hco hgen rfl (codeRec_of (X₀.keeps F.keep) hcd) (hbind _ _ _ _ ?_)
  refine wpAny_newFunctionEnv_cells hk (kindsX hkind _) fun env' he s' x => ?_
  subst he
  refine ⟨(T.nolimit.keeps F.keep).keeps x.toInCall.keep, codeAny_func ?_⟩
  obtain ⟨h₁, tk, rfl, _⟩ := x.done
  have hk₁ := x.toInCall.keep
  obtain ⟨cells, NC, Y⟩ := Cl.news (h₀ := s.heap) (Nat.le_refl _) fun n c hm => ⟨x.cell n c (lookup_of_mem_nodup (cellsFrom_names scope.names 0 (s.heap.objs.size + 1) [] [] rfl ▸ hnd) hm), x.above n c hm⟩
  refine wpAny_mono (h s.heap s.heap.objs.size h₁ tk cells (fun _ _ e => e) ⟨x.toInCall.ns, hk₁, Nat.le_refl _⟩ NC Y ⟨rfl, fun b o e => F.keep b o (B.stays b o e), B₁.frames⟩ (X₀.keeps F.keep) (T.keeps F.keep)) (fun fl s' x => hret _ _ x) fun _ _ x => x.elim
end Mine
namespace Mine
open LCg (lst lst_snoc)
local macro_rules | `(tactic| walk_at "mine enterC") => `(tactic| (
  w_top off
  unfold PureCall
  k_fill
  intro mean mg mb dp un gd env outer A₀ base h₀ L m s Q E hf hke hdp hun B F X T hled hret
  refine' pure_defC hf hke hdp B F X T hret ?k6 ?k7 ?k9 ?kB ?kD ?_ ?c2 ?c3 ?c4
  (case k6 => k_dflt k_is)
  (case k7 => k_dflt k_is)
  (case k9 => exact BindsTo.of_eq rfl)
  (case kB => exact rfl)
  (case kD => decide +kernel)
  (case c2 => exact rfl)
  (case c3 => exact rfl)
  (case c4 => exact rfl)
  clear hret B F X T hke hf
  intro g L h₁ tk cells hg F N Y B X T
  replace hled := fun p hp => hg _ _ (hled p hp)
  clear hg
  revert hled Y N F s))
local macro_rules | `(tactic| walk_at "eval ListComp") => `(tactic| refine halt_of ?_)
local macro_rules | `(tactic| walk_at "pyIter ref") => `(tactic| refine halt_of ?_)

section
variable {M : Model} {A : Around} {E : Value → Shared → Prop} {s : Shared} {scope : Scope} {cl : List (Str × Addr)} {C : Addr} {env : Env} {x : Str} {pos : Pos} {v : Value} {Q : Value → Shared → Prop} {m : Str → Option Value}
theorem nameB_L (hn : s.heap.Ns C m) (hv : m x = some v) (h : Q v s) (hk : scope.kind = .function) (hx : (compEnvC scope cl C env).kindOf x = some .local) (hd : (x == ("__debug__" : Str)) = false) :
    wpAny M A (eval (.Name x pos) (compEnvC scope cl C env)) Q E s := wpAny_Name (wpAny_loadName_local (env := compEnvC scope cl C env) hk hx hn hv h) hd
theorem nameB_C {c : Addr} (hc : s.heap.IsCell c (some v)) (hl : cl.lookup x = some c) (h : Q v s) (hk : scope.kind = .function) (hx : (compEnvC scope cl C env).kindOf x = some .cell) (hd : (x == ("__debug__" : Str)) = false) :
    wpAny M A (eval (.Name x pos) (compEnvC scope cl C env)) Q E s := wpAny_Name (wpAny_loadName_cell (env := compEnvC scope cl C env) hk hx hl hc h) hd
end
local macro_rules | `(tactic| walk_at "eval Name") => `(tactic| ((with_reducible show wpAny _ _ (eval _ (compEnvC _ _ _ _)) _ _ _); k_dflt (first
  | (refine' nameB_L ?n ?v ?_ ?a ?b ?c; (case n => assumption); (case v => rfl); (case a => rfl); (case b => rfl); (case c => decide))
  | (refine' nameB_C ?n ?v ?_ ?a ?b ?c; (case n => assumption); (case v => rfl); (case a => rfl); (case b => rfl); (case c => decide)))))

theorem bools_map {α : Type} (l : List α) (f : α → Bool) : LSm.BoolsAre (l.map fun p => Value.bool (f p)) (l.map f) := by
  induction l with
  | nil => exact .nil
  | cons p l ih => exact .cons _ ih

def hasN (rs : List (Int × Int)) (n : Int) : Bool := rs.any fun p => decide (p.1 ≤ n) && decide (n ≤ p.2)

set_option maxHeartbeats 4000000 in
theorem has_spec (w : World) (led : List (Addr × Obj)) (r : Addr) (rs : List (Int × Int)) (n : Int) (t : Tok) (hrs : rs.length ≤ 1000) (hr : DatIn led (.ref r) (.list (prs rs))) :
    PureCall w 26 [.ref r, .int n t] led (fun _ v => v = .bool (hasN rs n)) := by
  walk_at "mine enterC"
  rename_i hdp hun g L h₁ tk cells B X T
  intro s₀ F N Y hled
  obtain ⟨o, rfl, ho⟩ := CellsAre.one Y
  change Fr g L h₁ (fun y => if y = Str.ofString "ranges" then some (.ref r) else none) at F
  have hcell : h₁.IsCell (L + 1) (some (.int n t)) := ⟨o, (N _ (.head _)).1, ho⟩
  cases hr with
  | list hm hd =>
  rename_i vs rn
  have hL := led_list hled hm
  try dsimp only
  try k_fold
  k_steps
  unfold Halt
  refine comp_eval (by with_unfolding_all rfl) (by decide) rfl (by decide) (fun _ => rfl) ?_
  k_steps
  unfold Halt
  have hls : h₁.IsList r vs.toArray := hL.at fun o e => F.keep r o e
  have hvl : vs.length = rs.length := by have h1 := hd.length; simpa [prs] using h1
  refine comp_list (vs := vs) (fun i ys tl => tl = [] ∧ ys = (rs.take i).map fun p => Value.bool (decide (p.1 ≤ n) && decide (n ≤ p.2))) rfl hls (by omega) ⟨rfl, rfl⟩ ?_ ?_
  · rintro C i v ys tl m₁ h tk hv ⟨rfl, rfl⟩ hC hk hle ht
    obtain ⟨a, b, T, ta, tb, nT, hi, rfl, hmT⟩ := pair_at hd hv
    have hT : h.IsTuple T #[.int a ta, .int b tb] := ⟨_, hk _ _ (F.keep _ _ (hled _ hmT)), rfl, _, rfl⟩
    refine kcp_assign rfl hT rfl rfl rfl hC fun h₂ tk₂ hC₂ hk₂ => ?_
    refine wpAny_tests_nil ?_
    rw [if_pos rfl]
    have hcell₂ : h₂.IsCell (L + 1) (some (.int n t)) := by
      obtain ⟨o, ho, hd⟩ := hcell
      refine ⟨o, hk₂ _ _ ?_ (hk _ _ ho), hd⟩
      exact Nat.ne_of_lt (Nat.lt_of_lt_of_le (Heap.lt_size ho) hle)
    try k_fold
    k_steps
    · refine ⟨h₂, _, _, [], rfl, hC₂, hk₂, by simp, rfl, ?_⟩
      rw [List.take_add_one, hi]
      simp [*]
    · refine ⟨h₂, _, _, [], rfl, hC₂, hk₂, by simp, rfl, ?_⟩
      rw [List.take_add_one, hi]
      simp [*]
  · rintro D h' tk' ys tl hD hDn ⟨rfl, rfl⟩ hlen hk _
    rw [hvl, List.take_length] at hD
    have F₂ := Fr.keeps F hk
    have N₂ := News.grown N hk
    have hb : LSm.BoolsAre (rs.map fun p => Value.bool (decide (p.1 ≤ n) && decide (n ≤ p.2))) (rs.map fun p => (decide (p.1 ≤ n) && decide (n ≤ p.2))) := by
      exact bools_map rs _
    have hDl : h'.IsList D (rs.map fun p => Value.bool (decide (p.1 ≤ n) && decide (n ≤ p.2))).toArray := ⟨_, hD, rfl, _, rfl⟩
    k_steps
    refine LSm.any_bools F₂ N₂ rfl hDl hb fun h'' tk'' F₃ N₃ => ?_
    refine PEnd.intro F₃ N₃ [] (by simp) ?_ rfl
    simp [hasN, Function.comp_def]
end Mine
namespace Mine
local macro_rules | `(tactic| walk_at "mine dummy") => `(tactic| fail)
open LCg (lst lst_snoc)
local macro_rules | `(tactic| walk_at "mine enter") => `(tactic| (
  w_top off
  unfold PureCall
  k_fill
  intro mean mg mb dp un gd env outer A₀ base h₀ L m s Q E hf hke hdp hun B F X T hled hret
  refine' pure_def hf hke hdp B F X T hret ?k6 ?k7 ?k9 ?kB ?_ ?c2 ?c3 ?c4 ?c5
  (case k6 => k_dflt k_is)
  (case k7 => k_dflt k_is)
  (case k9 => exact BindsTo.of_eq rfl)
  (case c5 => decide)
  (case kB => exact locs rfl)
  (case c2 => exact rfl)
  (case c3 => exact rfl)
  (case c4 => exact rfl)
  clear hret B F X T hke hf
  intro g L h₁ hg F N B X T hret
  replace hled := fun p hp => hg _ _ (hled p hp)
  clear hg hret
  revert hled F s))
local macro_rules | `(tactic| walk_at "eval ListComp") => `(tactic| refine halt_of ?_)
local macro_rules | `(tactic| walk_at "pyIter ref") => `(tactic| refine halt_of ?_)
local macro_rules | `(tactic| walk_at "eval Name") => `(tactic| ((with_reducible show wpAny _ _ (eval _ (compEnvC _ _ _ _)) _ _ _); k_dflt (first
  | (refine' nameB_L ?n ?v ?_ ?a ?b ?c; (case n => assumption); (case v => rfl); (case a => rfl); (case b => rfl); (case c => decide))
  | (refine' nameB_C ?n ?v ?_ ?a ?b ?c; (case n => assumption); (case v => rfl); (case a => rfl); (case b => rfl); (case c => decide)))))

def countN (rs : List (Int × Int)) : Int := (rs.map fun p => p.2 - p.1 + 1).sum

theorem ints_snoc {vs : List Value} {ns : List Int} (h : IntsAre vs ns) (n : Int) (t : Tok) : IntsAre (vs ++ [.int n t]) (ns ++ [n]) := IntsAre.append h (.cons _ _ .nil)

set_option maxHeartbeats 4000000 in
theorem count_spec (w : World) (led : List (Addr × Obj)) (r : Addr) (rs : List (Int × Int)) (hrs : rs.length ≤ 1000) (hr : DatIn led (.ref r) (.list (prs rs))) :
    PureCall w 38 [.ref r] led (fun _ v => ∃ t, v = .int (countN rs) t) := by
  walk_at "mine enter"
  rename_i hdp hun g L h₁ N B X T
  intro s₀ F hled
  change Fr g L h₁ (fun y => List.lookup y [(Str.ofString "ranges", .ref r)]) at F
  cases hr with
  | list hm hd =>
  rename_i vs rn
  have hL := led_list hled hm
  try dsimp only
  try k_fold
  k_steps
  unfold Halt
  refine comp_eval (by with_unfolding_all rfl) (by decide) rfl (by decide) (fun _ => rfl) ?_
  try k_fold
  k_steps
  unfold Halt
  have hls : h₁.IsList r vs.toArray := hL.at fun o e => F.keep r o e
  have hvl : vs.length = rs.length := by have h1 := hd.length; simpa [prs] using h1
  refine comp_list (vs := vs) (fun i ys tl => tl = [] ∧ IntsAre ys ((rs.take i).map fun p => p.2 - p.1 + 1)) rfl hls (by omega) ⟨rfl, .nil⟩ ?_ ?_
  · rintro C i v ys tl m₁ h tk hv ⟨rfl, hys⟩ hC hk hle ht
    obtain ⟨a, b, T, ta, tb, nT, hi, rfl, hmT⟩ := pair_at hd hv
    have hT : h.IsTuple T #[.int a ta, .int b tb] := ⟨_, hk _ _ (F.keep _ _ (hled _ hmT)), rfl, _, rfl⟩
    refine kcp_assign rfl hT rfl rfl rfl hC fun h₂ tk₂ hC₂ hk₂ => ?_
    refine wpAny_tests_nil ?_
    rw [if_pos rfl]
    try k_fold
    k_steps
    refine ⟨h₂, _, _, [], rfl, hC₂, hk₂, by simp, rfl, ?_⟩
    rw [List.take_add_one, hi]
    simp only [Option.toList_some, List.map_append, List.map_cons, List.map_nil]
    exact ints_snoc hys _ _
  · rintro D h' tk' ys tl hD hDn ⟨rfl, hys⟩ hlen hk _
    rw [hvl, List.take_length] at hys
    have F₂ := Fr.keeps F hk
    have hDl : h'.IsList D ys.toArray := ⟨_, hD, rfl, _, rfl⟩
    k_steps
    refine LSm.sum_ints F₂ News.nil rfl hDl hys fun h'' tk'' t'' F₃ N₃ => ?_
    exact PEnd.intro F₃ N₃ [] (by simp) ⟨t'', rfl⟩ rfl

theorem all_take {led : List (Addr × Obj)} : ∀ {vs : List Value} {ds : List Dat} (k : Nat), DatAll led vs ds → DatAll led (vs.take k) (ds.take k)
  | _, _, 0, _ => by simp; exact .nil
  | _, _, _ + 1, .nil => .nil
  | _, _, k + 1, .cons h r => .cons h (all_take k r)

set_option maxHeartbeats 4000000 in
theorem largest_spec (w : World) (led : List (Addr × Obj)) (r : Addr) (rs : List (Int × Int)) (hrs : rs.length ≤ 1000) (hr : DatIn led (.ref r) (.list (prs rs))) :
    PureCall w 33 [.ref r] led (fun _ v => match rs with | [] => v = .none | p :: _ => ∃ t, v = .int p.2 t) := by
  walk_at "mine enter"
  rename_i hdp hun g L h₁ N B X T
  intro s₀ F hled
  change Fr g L h₁ (fun y => List.lookup y [(Str.ofString "ranges", .ref r)]) at F
  cases hr with
  | list hm hd =>
  rename_i vs rn
  have hL := led_list hled hm
  have hvl : vs.length = rs.length := by have h1 := hd.length; simpa [prs] using h1
  try dsimp only
  try k_fold
  k_steps
  refine Calls.call_len_list (hL.at fun o e => F.keep r o e) (by rw [List.size_toArray]; omega) ?_
  rw [List.size_toArray]
  k_steps
  · rename 0 < (vs.length : Int) => h0
    have h0' : 0 < vs.length := by omega
    obtain ⟨a, b, T, ta, tb, nT, hi, hv, hmT⟩ := pair_at hd (List.getElem?_eq_getElem h0')
    refine item_base (k := 0) (v := .ref T) (hL.at fun o e => F.keep r o e) (by decide) (by decide) (by rw [← hv]; exact List.getElem?_eq_getElem h0') ?_
    k_steps
    refine item_tup (F.keep _ _ (hled _ hmT)) (by decide) (by decide) (j := 1) rfl rfl ?_
    k_steps
    refine PEnd.intro F N [] (by simp) ?_ rfl
    cases rs with
    | nil => cases hi
    | cons p rs => simp at hi; subst hi; exact ⟨_, rfl⟩
  · rename ¬ 0 < (vs.length : Int) => h0
    refine PEnd.intro F N [] (by simp) ?_ rfl
    cases rs with
    | nil => rfl
    | cons p rs => exfalso; simp at hvl; omega


set_option maxHeartbeats 4000000 in
theorem ack_spec (w : World) (led : List (Addr × Obj)) (r : Addr) (rs : List (Int × Int)) (k : Int) (t : Tok) (hk : 0 ≤ k) (hk2 : k < 1000) (hrs : rs.length ≤ 1000) (hr : DatIn led (.ref r) (.list (prs rs))) :
    PureCall w 45 [.ref r, .int k t] led (fun tl v => DatIn (tl ++ led) v (.list (prs (rs.take k.toNat)))) := by
  walk_at "mine enter"
  rename_i hdp hun g L h₁ N B X T
  intro s₀ F hled
  change Fr g L h₁ (fun y => List.lookup y [(Str.ofString "most", .int k t), (Str.ofString "ranges", .ref r)]) at F
  cases hr with
  | list hm hd =>
  rename_i vs rn
  have hL := led_list hled hm
  have hvl : vs.length = rs.length := by have h1 := hd.length; simpa [prs] using h1
  try dsimp only
  try k_fold
  k_steps
  rename Fr _ _ _ _ => F2
  rename News _ _ _ _ => N2
  obtain ⟨kn, rfl⟩ := Int.eq_ofNat_of_zero_le hk
  refine list_copyK F2 N2 (News.isList N2 (.head _)) (fun D c h' F3 N3 l3 => ?_) ?_
  · refine PEnd.intro F3 N3 _ (fun _ hp => hp) ?_ rfl
    have e : slicePick vs.toArray none (some (kn : Int)) none = (vs.take kn).toArray := by
      rw [slicePick_upto']
    simp only [e] at N3 ⊢
    have e2 : (Int.ofNat kn).toNat = kn := rfl
    have e3 : prs (rs.take kn) = (prs rs).take kn := by simp [prs]
    show DatIn _ _ (.list (prs (rs.take (Int.ofNat kn).toNat)))
    rw [e2, e3]
    exact .list (n := c) (vs := vs.take kn) (by rw [← e]; exact .head _) ((all_take kn hd).mono fun p hp => List.mem_append.mpr (.inr hp))
  · refine Nat.le_trans (slicePick_size_le ..) ?_
    rw [List.size_toArray, sizeLine_eq]
    omega

end Mine
namespace Mine
open LCg (lst lst_snoc)
local macro_rules | `(tactic| walk_at "mine enterC") => `(tactic| (
  w_top off
  unfold PureCall
  k_fill
  intro mean mg mb dp un gd env outer A₀ base h₀ L m s Q E hf hke hdp hun B F X T hled hret
  refine' pure_defC hf hke hdp B F X T hret ?k6 ?k7 ?k9 ?kB ?kD ?_ ?c2 ?c3 ?c4
  (case k6 => k_dflt k_is)
  (case k7 => k_dflt k_is)
  (case k9 => exact BindsTo.of_eq rfl)
  (case kB => exact rfl)
  (case kD => decide +kernel)
  (case c2 => exact rfl)
  (case c3 => exact rfl)
  (case c4 => exact rfl)
  clear hret B F X T hke hf
  intro g L h₁ tk cells hg F N Y B X T
  replace hled := fun p hp => hg _ _ (hled p hp)
  clear hg
  revert hled Y N F s))
local macro_rules | `(tactic| walk_at "eval ListComp") => `(tactic| refine halt_of ?_)
local macro_rules | `(tactic| walk_at "pyIter ref") => `(tactic| refine halt_of ?_)
local macro_rules | `(tactic| walk_at "newTuple") => `(tactic| refine halt_of ?_)
local macro_rules | `(tactic| walk_at "call builtin:max") => `(tactic| refine halt_of ?_)

section
variable {M : Model} {A : Around} {E : Value → Shared → Prop} {s : Shared} {scope : Scope} {cl : List (Str × Addr)} {C : Addr} {env : Env} {x : Str} {pos : Pos} {v : Value} {Q : Value → Shared → Prop} {m mg mb : Str → Option Value} {K : Frag} {h₀ : Heap} {L : Addr} {p : Program} {loose : List Str} {mean : ExcName → Option Value}
theorem nameB_B (F : Fr h₀ L s.heap m) (X : K.In h₀) (T : Top p loose mean mg mb h₀) (e : nsIn K mainGlobals x = some none) (hv : bootBuiltins x = some v) (hn : x ≠ "__name__") (h : Q v s)
    (hg : env.globals = mainGlobals) (hb : env.builtins = builtinsNs) (hk : scope.kind = .function) (hx : (compEnvC scope cl C env).kindOf x = some .globalImplicit) (hd : (x == ("__debug__" : Str)) = false) :
    wpAny M A (eval (.Name x pos) (compEnvC scope cl C env)) Q E s :=
  Name_function_global (env := compEnvC scope cl C env) hk hx (loadGlobal_builtin (env := compEnvC scope cl C env) (by show s.heap.Ns env.globals mg; rw [hg]; exact T.g.keeps F.keep) (mg_none_of X T.g e) (by show s.heap.Ns env.builtins mb; rw [hb]; exact T.b.keeps F.keep) ((T.builtins x hn).trans hv) h) hd
theorem nameB_G (F : Fr h₀ L s.heap m) (X : K.In h₀) (T : Top p loose mean mg mb h₀) (e : nsIn K mainGlobals x = some (some v)) (h : Q v s)
    (hg : env.globals = mainGlobals) (hk : scope.kind = .function) (hx : (compEnvC scope cl C env).kindOf x = some .globalImplicit) (hd : (x == ("__debug__" : Str)) = false) :
    wpAny M A (eval (.Name x pos) (compEnvC scope cl C env)) Q E s :=
  Name_function_global (env := compEnvC scope cl C env) hk hx (loadGlobal_global (env := compEnvC scope cl C env) (by show s.heap.Ns env.globals mg; rw [hg]; exact T.g.keeps F.keep) (mg_of X T.g e) h) hd
end
local macro_rules | `(tactic| walk_at "eval Name") => `(tactic| ((with_reducible show wpAny _ _ (eval _ (compEnvC _ _ _ _)) _ _ _); k_dflt (first
  | (refine' nameB_L ?n ?v ?_ ?a ?b ?c; (case n => assumption); (case v => rfl); (case a => rfl); (case b => rfl); (case c => decide))
  | (refine' nameB_C ?n ?v ?_ ?a ?b ?c; (case n => assumption); (case v => rfl); (case a => rfl); (case b => rfl); (case c => decide))
  | (refine' nameB_B ?F ?X ?T ?e ?v ?n ?_ ?g1 ?g2 ?a ?b ?c; (case F => assumption); (case X => k_asm); (case T => k_asm); (case e => k_is); (case v => boot_fast); (case n => decide); (case g1 => rfl); (case g2 => rfl); (case a => rfl); (case b => rfl); (case c => decide))
  | (refine' nameB_G ?F ?X ?T ?e ?_ ?g1 ?a ?b ?c; (case F => assumption); (case X => k_asm); (case T => k_asm); (case e => k_is); (case g1 => rfl); (case a => rfl); (case b => rfl); (case c => decide)))))
local macro_rules | `(tactic| walk_at "subscriptTail") => `(tactic| (k_here; (with_reducible show wpAny _ _ (subscriptTail _ _ (Value.ref _) (Value.int _ _)) _ _ _); k_dflt (refine' item_tupleT ?t ?a ?b ?c ?d ?_; (case t => exact IsTup.keeps (by assumption) (Fr.keep (by assumption))); (case a => decide); (case b => decide); (case c => rfl); (case d => rfl); k_whole)))

def pruneN (rs : List (Int × Int)) (low : Int) : List (Int × Int) := (rs.filter fun p => decide (low ≤ p.2)).map fun p => (max p.1 low, p.2)

set_option maxHeartbeats 4000000 in
theorem prune_spec (w : World) (led : List (Addr × Obj)) (r : Addr) (rs : List (Int × Int)) (n : Int) (t : Tok) (hrs : rs.length ≤ 1000) (hr : DatIn led (.ref r) (.list (prs rs))) :
    PureCall w 55 [.ref r, .int n t] led (fun tl v => DatIn (tl ++ led) v (.list (prs (pruneN rs n)))) := by
  walk_at "mine enterC"
  rename_i hdp hun g L h₁ tk cells B X T
  intro s₀ F N Y hled
  obtain ⟨o, rfl, ho⟩ := CellsAre.one Y
  change Fr g L h₁ (fun y => if y = Str.ofString "ranges" then some (.ref r) else none) at F
  have hcell : h₁.IsCell (L + 1) (some (.int n t)) := ⟨o, (N _ (.head _)).1, ho⟩
  cases hr with
  | list hm hd =>
  rename_i vs rn
  have hL := led_list hled hm
  try dsimp only
  try k_fold
  k_steps
  unfold Halt
  refine comp_eval (by with_unfolding_all rfl) (by decide) rfl (by decide) (fun _ => rfl) ?_
  try k_fold
  k_steps
  unfold Halt
  have hls : h₁.IsList r vs.toArray := hL.at fun o e => F.keep r o e
  have hvl : vs.length = rs.length := by have h1 := hd.length; simpa [prs] using h1
  refine comp_list (vs := vs) (fun i ys tl => DatAll (tl ++ led) ys (prs (pruneN (rs.take i) n))) rfl hls (by omega) .nil ?_ ?_
  · intro C i v ys tl m₁ h tk hv hys hC hk hle ht
    obtain ⟨a, b, T', ta, tb, nT, hi, rfl, hmT⟩ := pair_at hd hv
    have hT := led_tup hled hmT
    refine wpAny_assign_Name (wpAny_storeName_local rfl hC (fun h₂ hC₂ hs₂ => ?_) rfl)
    have hLh : C ≠ L := Nat.ne_of_gt (Nat.lt_of_lt_of_le F.ns.lt hle)
    have hcell₂ : h₂.IsCell (L + 1) (some (.int n t)) := by
      obtain ⟨o, ho, hd⟩ := hcell
      refine ⟨o, hs₂.extBut _ _ ?_ (hk _ _ ho), hd⟩
      exact Nat.ne_of_lt (Nat.lt_of_lt_of_le (Heap.lt_size ho) hle)
    have F₂ : Fr g L h₂ _ := Fr.keeps F fun b o e => hs₂.extBut b o (Nat.ne_of_lt (Nat.lt_of_lt_of_le (Heap.lt_size e) hle)) (hk b o e)
    refine wpAny_tests_one ?_
    try k_fold
    k_steps
    · unfold Halt
      refine max_two_ints rfl fun h₃ tk₃ hk₃ => ?_
      have hC₃ : h₃.Ns C (fun x => if x = Str.ofString "one" then some (Value.ref T') else m₁ x) := hC₂.at' fun o e => hk₃ _ o e
      have F₃ : Fr g L h₃ _ := Fr.keeps F₂ hk₃
      have hcell₃ : h₃.IsCell (L + 1) (some (.int n t)) := by obtain ⟨o, ho, hd⟩ := hcell₂; exact ⟨o, hk₃ _ _ ho, hd⟩
      rename n ≤ b => hnb
      have hmax : (if n > a then Value.int n t else Value.int a ta) = .int (max a n) (if n > a then t else ta) := by
        by_cases hc : n > a
        · rw [if_pos hc, if_pos hc, Int.max_eq_right (by omega)]
        · rw [if_neg hc, if_neg hc, Int.max_eq_left (by omega)]
      rw [hmax]
      k_steps
      unfold Halt
      refine wpAny_newObj_type ?_ (by show 2 ≤ sizeLine; rw [sizeLine_eq]; decide)
      have hpush : (h₃.push { cls := .type "tuple", data := .seq [Value.int (max a n) (if n > a then t else ta), Value.int b tb].toArray }).get? h₃.objs.size = some { cls := .type "tuple", data := .seq [Value.int (max a n) (if n > a then t else ta), Value.int b tb].toArray } := Heap.get?_push_size _ rfl
      have up : ∀ b o, b ≠ C → h.get? b = some o → (h₃.push { cls := .type "tuple", data := .seq [Value.int (max a n) (if n > a then t else ta), Value.int b tb].toArray }).get? b = some o := fun b o hb e => Heap.get?_push_of_some _ (hk₃ _ _ (hs₂.extBut b o hb e))
      refine ⟨_, _, _, [(h₃.objs.size, { cls := .type "tuple", data := .seq [Value.int (max a n) (if n > a then t else ta), Value.int b tb].toArray })], rfl, hC₃.at' fun o e => Heap.get?_push_of_some _ e, fun b o hb e => Heap.get?_push_of_some _ (hk₃ _ _ (hs₂.extBut b o hb e)), ?_, ?_⟩
      · intro p hp
        rw [List.mem_singleton.mp hp]
        refine ⟨hpush, ?_⟩
        cases q : h.get? h₃.objs.size with
        | none => rfl
        | some o =>
          by_cases hb : h₃.objs.size = C
          · exact absurd hC₃.lt (by rw [hb]; exact Nat.lt_irrefl _)
          · exact absurd (Heap.lt_size (hk₃ _ _ (hs₂.extBut _ o hb q))) (Nat.lt_irrefl _)
      · have e : pruneN (rs.take (i + 1)) n = pruneN (rs.take i) n ++ [(max a n, b)] := by
          rw [List.take_add_one, hi]
          simp [pruneN, hnb]
        show DatAll _ _ (prs (pruneN (rs.take (i + 1)) n))
        rw [e]
        simp only [prs, List.map_append]
        exact DatAll.append (hys.mono fun p hp => .tail _ hp) (DatAll.one (.tuple (.head _) (.cons (.int _ _) (.cons (.int _ _) .nil))))
    · refine ⟨h₂, _, _, [], rfl, hC₂, fun b o hb e => hs₂.extBut b o hb e, by simp, ?_⟩
      rename ¬ n ≤ b => hnb
      have e : pruneN (rs.take (i + 1)) n = pruneN (rs.take i) n := by
        rw [List.take_add_one, hi]
        simp [pruneN, hnb]
      rw [e]
      exact hys
  · rintro D h' tk' ys tl hD hDn hys hlen hk htl
    rw [hvl, List.take_length] at hys
    have F₂ := Fr.keeps F hk
    k_steps
    refine ⟨h', tk', (D, lst ys) :: tl, rfl, F₂.keep, ?_, .list (n := ys.length) (.head _) (hys.mono fun p hp => .tail _ hp)⟩
    have hg : ∀ {b}, h₁.get? b = none → g.get? b = none := fun {b} e => by
      cases q : g.get? b with
      | none => rfl
      | some o => rw [F.keep _ _ q] at e; cases e
    intro p hp
    rcases List.mem_cons.mp hp with rfl | hp
    · exact ⟨hD, hg hDn⟩
    · exact ⟨(htl p hp).1, hg (htl p hp).2⟩
end Mine
namespace Mine
open LCg (lst lst_snoc)
abbrev PureCallB (w : World) (f : Addr) (vs : List Value) (led : List (Addr × Obj)) (Out : List (Addr × Obj) → Value → Prop) : Prop :=
  ∀ (mean : ExcName → Option Value) (mg mb : Str → Option Value) (dp un : Nat) (gd : Option (List Code)) (env : Env) (outer : List Env) (A₀ : Around) (base h₀ : Heap) (L : Addr) (m : Str → Option Value) (s : Shared)
    (Q E : Value → Shared → Prop),
    env.frame = some L → env.scope.kind = .function → dp + 20 < recursionLimit → un + 100 < cLine →
    Below A₀ base outer h₀ → Fr h₀ L s.heap m → (hd.heap_39 w.params).In h₀ → Top hd.view_39 (looseW hd.view_39 []) mean mg mb h₀ →
    (∀ p ∈ led, s.heap.get? p.1 = some p.2) →
    (∀ v s', PEnd s.heap Out v s s' → Q v s') →
    wpAny (model PySem.Challenge.rw_no0041_01.row.prog w) (arnd dp un gd env outer) (call (.ref f) vs) Q E s
local macro_rules | `(tactic| walk_at "mine enterC") => `(tactic| (
  w_top off
  unfold PureCallB
  k_fill
  intro mean mg mb dp un gd env outer A₀ base h₀ L m s Q E hf hke hdp hun B F X T hled hret
  refine' pure_defC hf hke (Nat.lt_trans (Nat.add_lt_add_left (by decide) _) hdp) B F X T hret ?k6 ?k7 ?k9 ?kB ?kD ?_ ?c2 ?c3 ?c4
  (case k6 => k_dflt k_is)
  (case k7 => k_dflt k_is)
  (case k9 => exact BindsTo.of_eq rfl)
  (case kB => exact rfl)
  (case kD => decide +kernel)
  (case c2 => exact rfl)
  (case c3 => exact rfl)
  (case c4 => exact rfl)
  clear hret B F X T hke hf
  intro g L h₁ tk cells hg F N Y B X T
  replace hled := fun p hp => hg _ _ (hled p hp)
  clear hg
  revert hled Y N F s))
local macro_rules | `(tactic| walk_at "eval ListComp") => `(tactic| refine halt_of ?_)
local macro_rules | `(tactic| walk_at "pyIter ref") => `(tactic| refine halt_of ?_)
local macro_rules | `(tactic| walk_at "call ref") => `(tactic| refine halt_of ?_)
local macro_rules | `(tactic| walk_at "call builtin:sorted") => `(tactic| refine halt_of ?_)
local macro_rules | `(tactic| walk_at "eval Name") => `(tactic| ((with_reducible show wpAny _ _ (eval _ (compEnvC _ _ _ _)) _ _ _); k_dflt (first
  | (refine' nameB_L ?n ?v ?_ ?a ?b ?c; (case n => assumption); (case v => rfl); (case a => rfl); (case b => rfl); (case c => decide))
  | (refine' nameB_C ?n ?v ?_ ?a ?b ?c; (case n => assumption); (case v => rfl); (case a => rfl); (case b => rfl); (case c => decide))
  | (refine' nameB_B ?F ?X ?T ?e ?v ?n ?_ ?g1 ?g2 ?a ?b ?c; (case F => assumption); (case X => k_asm); (case T => k_asm); (case e => k_is); (case v => boot_fast); (case n => decide); (case g1 => rfl); (case g2 => rfl); (case a => rfl); (case b => rfl); (case c => decide))
  | (refine' nameB_G ?F ?X ?T ?e ?_ ?g1 ?a ?b ?c; (case F => assumption); (case X => k_asm); (case T => k_asm); (case e => k_is); (case g1 => rfl); (case a => rfl); (case b => rfl); (case c => decide)))))

/-- a list of ints, new: a sorted copy of ns -/
def SortedOut (ns : List Int) (tl : List (Addr × Obj)) (v : Value) : Prop :=
  ∃ a vs' ns' k, v = .ref a ∧ (a, W.listOf vs'.toArray k) ∈ tl ∧ IntsAre vs' ns' ∧ ns'.Perm ns ∧ ns'.Pairwise (· ≤ ·)

set_option maxHeartbeats 4000000 in
theorem newly_spec (w : World) (led : List (Addr × Obj)) (sa sn r : Nat) (svs : List Value) (ns : List Int) (rs : List (Int × Int)) (hrs : rs.length ≤ 1000) (hr : DatIn led (.ref r) (.list (prs rs)))
    (hs : (sa, W.listOf svs.toArray sn) ∈ led) (hi : IntsAre svs ns) (hns : ns.length < 60) :
    PureCallB w 50 [.ref sa, .ref r] led (SortedOut (ns.filter (hasN rs))) := by
  walk_at "mine enterC"
  rename_i hdp hun g L h₁ tk cells B X T
  intro s₀ F N Y hled
  obtain ⟨o, rfl, ho⟩ := CellsAre.one Y
  change Fr g L h₁ (fun y => if y = Str.ofString "sent_numbers" then some (.ref sa) else none) at F
  have hcell : h₁.IsCell (L + 1) (some (.ref r)) := ⟨o, (N _ (.head _)).1, ho⟩
  have hL := led_list hled hs
  try dsimp only
  try k_fold
  k_steps
  unfold Halt
  refine comp_eval (by with_unfolding_all rfl) (by decide) rfl (by decide) (fun _ => rfl) ?_
  try k_fold
  k_steps
  unfold Halt
  have hls : h₁.IsList sa svs.toArray := hL.at fun o e => F.keep sa o e
  have hvl : svs.length = ns.length := hi.length
  refine comp_list (vs := svs) (fun i ys tl => IntsAre ys ((ns.take i).filter (hasN rs))) rfl hls (by omega) .nil ?_ ?_
  · intro C i v ys tl m₁ h tk hv hys hC hk hle ht
    have hilt : i < ns.length := by rw [← hvl]; exact (List.getElem?_eq_some_iff.mp hv).1
    obtain ⟨t, hx⟩ := hi.get i ns[i] (List.getElem?_eq_getElem hilt)
    rw [hx] at hv
    obtain rfl := Option.some.inj hv
    refine wpAny_assign_Name (wpAny_storeName_local rfl hC (fun h₂ hC₂ hs₂ => ?_) rfl)
    have old₂ : ∀ b o, h₁.get? b = some o → h₂.get? b = some o := fun b o e => hs₂.extBut b o (Nat.ne_of_lt (Nat.lt_of_lt_of_le (Heap.lt_size e) hle)) (hk b o e)
    have hcell₂ : h₂.IsCell (L + 1) (some (.ref r)) := by
      obtain ⟨o, ho, hd⟩ := hcell
      exact ⟨o, old₂ _ _ ho, hd⟩
    have F₂ : Fr g L h₂ _ := Fr.keeps F old₂
    refine wpAny_tests_one ?_
    try k_fold
    k_steps
    unfold Halt
    refine has_spec w led r rs _ _ hrs hr _ _ _ _ _ _ _ _ _ _ _ _ _ _ _ _ rfl rfl ?hd ?hu B F₂ X T ?hl ?_
    case hd => omega
    case hu => omega
    case hl => exact fun p hp => F₂.keep _ _ (hled p hp)
    rintro v s' ⟨h₃, tk₃, tl₃, rfl, hk₃, _, rfl⟩
    have hC₃ : h₃.Ns C (fun x => if x = Str.ofString "n" then some (Value.int ns[i] t) else m₁ x) := hC₂.at' fun o e => hk₃ _ o e
    have e : (ns.take (i + 1)).filter (hasN rs) = (ns.take i).filter (hasN rs) ++ (if hasN rs ns[i] = true then [ns[i]] else []) := by
      rw [List.take_add_one, List.getElem?_eq_getElem hilt]
      simp only [Option.toList_some, List.filter_append, List.filter_cons, List.filter_nil]
    refine wpAny_truthy_bool ?_
    k_steps
    · rename hasN rs ns[i] = true => hb
      refine ⟨h₃, _, _, [], rfl, hC₃, fun b o hb e => hk₃ _ _ (hs₂.extBut b o hb e), by simp, ?_⟩
      rw [if_pos hb] at e
      show IntsAre _ ((ns.take (i + 1)).filter (hasN rs))
      rw [e]
      exact ints_snoc hys _ _
    · rename hasN rs ns[i] = false => hb
      refine ⟨h₃, _, _, [], rfl, hC₃, fun b o hb e => hk₃ _ _ (hs₂.extBut b o hb e), by simp, ?_⟩
      rw [hb, if_neg (by decide)] at e
      show IntsAre _ ((ns.take (i + 1)).filter (hasN rs))
      rw [e, List.append_nil]
      exact hys
  · rintro D h' tk' ys tl hD hDn hys hlen hk htl
    rw [hvl, List.take_length] at hys
    have F₂ := Fr.keeps F hk
    have N₂ := News.grown N hk
    k_steps
    unfold Halt
    have hDl : h'.IsList D ys.toArray := ⟨_, hD, rfl, _, rfl⟩
    refine sorted_N F₂ N₂ hDl hys (by omega) fun h₃ vs' ns' e F₃ N₃ a1 a2 a3 => ?_
    exact PEnd.intro F₃ N₃ _ (fun _ hp => hp) ⟨_, vs', ns', e, rfl, .head _, a1, a2, a3⟩ rfl
end Mine
namespace Mine

theorem mut_def {w : World} {K : Frag} {p : Program} {loose : List Str} {mean : ExcName → Option Value} {mg mb : Str → Option Value} {prog : Program} {dp un : Nat} {gd : Option (List Code)} {A₀ : Around} {base h₀ : Heap} {L : Addr} {m : Str → Option Value} {s : Shared} {Q E : Value → Shared → Prop}
    {env : Env} {outer : List Env} {name qual : Str} {params : Arguments} {body : List Stmt} {scope : Scope} {dV kV doc pm cdv ct oc : Value} {an od : Option Addr} {osl : Array (Option Value)} {f : Addr} {vs : List Value} {binds : List (Str × Value)}
    {Out : List (Addr × Obj) → Value → Prop} {news : List (Addr × Obj)}
    (hf : env.frame = some L) (hke : env.scope.kind = .function) (hroom : dp + 10 < recursionLimit)
    (B : Below A₀ base outer h₀) (F : Fr h₀ L s.heap m) (X₀ : K.In h₀) (T : Top p loose mean mg mb h₀) (N : News h₀ L s.heap news)
    (hret : ∀ v s', PEnd (hideAll s.heap (news.map (·.1))) Out v s s' → Q v s')
    (ho : K.lookup f = some ⟨oc, od, .func (fnOf name qual params body scope dV kV doc pm an cdv ct), osl⟩) (hcd : codeIn K cdv qual = true)
    (hbind : BindsTo s (fnOf name qual params body scope dV kV doc pm an cdv ct) ⟨vs, []⟩ binds) (hloc : ∀ y ∈ binds, scope.names.lookup y.1 = some .local)
    (h : ∀ g L' h₁, (∀ b o, s.heap.get? b = some o → b ∉ news.map (·.1) → g.get? b = some o) → Fr g L' h₁ (fun y => binds.reverse.lookup y) → News g L' h₁ news → Below (arnd dp un gd env outer) base (env :: outer) g → K.In g → Top p loose mean mg mb g →
      wpAny (model prog w) (arnd (dp + 1) (un + 3) gd (envOf qual scope L' f cdv) (env :: outer)) (execs body (envOf qual scope L' f cdv))
        (fun fl s' => PEnd g Out (match fl with | .ret v => v | _ => .none) s s')
        (fun _ _ => False)
        { s with heap := h₁, toks := s.toks + binds.length })
    (hco : scope.isCoroutine = false) (hgen : scope.isGenerator = false) (hk : scope.kind = .function)
    (hcell : ∀ x ∈ scope.names, x.2 ≠ .cell) :
    wpAny (model prog w) (arnd dp un gd env outer) (call (.ref f) vs) Q E s := by
  refine wpAny_call ?_
  obtain ⟨FG, BG, st, _⟩ := groundX (A := arnd dp un gd env outer) (R := fun _ _ => True) B F N rfl hf hke
  refine codeAny_call_def (fd := fnOf name qual params body scope dV kV doc pm an cdv ct) (body := body) (binds := binds) (by show dp < _; omega) ((X₀.keeps F.keep) _ _ ho) rfl (T.nolimit.keeps F.keep) (codeRec_of (X₀.keeps F.keep) hcd) rfl hbind hcell hloc (fun h₁ hns hk₁ => ?_) hco hgen hk
  refine wpAny_mono (h _ s.heap.objs.size h₁ (fun b o e n => hideAll_get _ e n) ⟨hns, fun b o e => hk₁ b o (of_hideAll _ e), Nat.le_of_eq (hideAll_size _ _)⟩
    (fun p hp => ⟨hk₁ _ _ (N p hp).1, Nat.ne_of_lt (Heap.lt_size (N p hp).1), hideAll_none _ (List.mem_map_of_mem hp)⟩) BG (X₀.keeps st) (T.keeps st)) (fun fl s' x => hret _ _ x) fun _ _ x => x.elim

def boxObj (ca : Addr) (k : Int) (t : Tok) (c : Int) (u : Tok) (bn : Nat) : Obj := W.listOf #[.ref ca, .int k t, .int c u] bn

abbrev TakeCall (w : World) (bx ca : Addr) (cvs : List Value) (k : Int) (t : Tok) (c : Int) (u : Tok) (bn : Nat) (M : Int) (v : Tok) : Prop :=
  ∀ (mean : ExcName → Option Value) (mg mb : Str → Option Value) (dp un : Nat) (gd : Option (List Code)) (env : Env) (outer : List Env) (A₀ : Around) (base h₀ : Heap) (L : Addr) (m : Str → Option Value) (s : Shared)
    (Q E : Value → Shared → Prop),
    env.frame = some L → env.scope.kind = .function → dp + 10 < recursionLimit → un + 60 < cLine →
    Below A₀ base outer h₀ → Fr h₀ L s.heap m → (hd.heap_39 w.params).In h₀ → Top hd.view_39 (looseW hd.view_39 []) mean mg mb h₀ →
    News h₀ L s.heap [(bx, boxObj ca k t c u bn)] → s.heap.IsList ca cvs.toArray →
    (∀ v s', PEnd (hideAll s.heap [bx]) (fun tl v => ∃ d t t', v = .int d t ∧ 0 ≤ d ∧ d < M ∧ (bx, boxObj ca (k + 1) t' c u bn) ∈ tl) v s s' → Q v s') →
    wpAny (model PySem.Challenge.rw_no0041_01.row.prog w) (arnd dp un gd env outer) (call (.ref 74) [.ref bx, .int M v]) Q E s

set_option maxHeartbeats 4000000 in
theorem take_spec (w : World) (bx ca : Nat) (hne : ca ≠ bx) (cvs : List Value) (cs : List Int) (hi : IntsAre cvs cs) (hlen : cs.length ≤ 100) (k : Int) (h0 : 0 ≤ k) (hk : k < 1000000) (t : Tok) (c : Int) (u : Tok) (bn : Nat) (M : Int) (hM : 0 < M) (v : Tok) :
    TakeCall w bx ca cvs k t c u bn M v := by
  w_top off
  unfold TakeCall
  k_fill
  intro mean mg mb dp un gd env outer A₀ base h₀ L₀ m s₀ Q E hf hke hdp hun B₀ F₀ X₀ T₀ N₀ hL hret
  refine' mut_def hf hke hdp B₀ F₀ X₀ T₀ N₀ hret ?k6 ?k7 ?k9 ?kB ?_ ?c2 ?c3 ?c4 ?c5
  (case k6 => k_dflt k_is)
  (case k7 => k_dflt k_is)
  (case k9 => exact BindsTo.of_eq rfl)
  (case c5 => decide)
  (case kB => exact locs rfl)
  (case c2 => exact rfl)
  (case c3 => exact rfl)
  (case c4 => exact rfl)
  clear hret B₀ F₀ X₀ T₀ hke hf
  intro g L h₁ hg F N B X T
  have hgl : g.IsList ca cvs.toArray := hL.at fun o e => hg _ _ e (by simp [hne])
  clear hL hg N₀
  unfold boxObj at N ⊢
  change Fr g L h₁ (fun y => List.lookup y [(Str.ofString "many", .int M v), (Str.ofString "box", .ref bx)]) at F
  try dsimp only
  try k_fold
  k_steps
  all_goals (rename Fr _ _ _ _ => F2; rename News _ _ _ _ => N2)
  · exact PEnd.intro F2 N2 _ (fun _ hp => hp) ⟨_, _, _, rfl, fmod_lo _ hM, fmod_hi _ hM, .head _⟩ rfl
  · exact PEnd.intro F2 N2 _ (fun _ hp => hp) ⟨_, _, _, rfl, fmod_lo _ hM, fmod_hi _ hM, .head _⟩ rfl
end Mine
namespace Mine

/-- ranges from the highest down, a gap between each two -/
def Desc (rs : List (Int × Int)) : Prop := (∀ p ∈ rs, p.1 ≤ p.2) ∧ rs.Pairwise (fun p q => q.2 + 1 < p.1)
def Mem (rs : List (Int × Int)) (x : Int) : Prop := ∃ p ∈ rs, p.1 ≤ x ∧ x ≤ p.2

theorem mem_nil (x : Int) : ¬ Mem [] x := fun ⟨_, h, _⟩ => nomatch h
theorem mem_cons {p : Int × Int} {t : List (Int × Int)} {x : Int} : Mem (p :: t) x ↔ (p.1 ≤ x ∧ x ≤ p.2) ∨ Mem t x := by
  unfold Mem
  constructor
  · rintro ⟨q, hq, h⟩
    rcases List.mem_cons.mp hq with rfl | hq
    · exact .inl h
    · exact .inr ⟨q, hq, h⟩
  · rintro (h | ⟨q, hq, h⟩)
    · exact ⟨p, .head _, h⟩
    · exact ⟨q, .tail _ hq, h⟩
theorem mem_append {s t : List (Int × Int)} {x : Int} : Mem (s ++ t) x ↔ Mem s x ∨ Mem t x := by
  induction s with
  | nil => simp [mem_nil]
  | cons p s ih => rw [List.cons_append, mem_cons, mem_cons, ih, or_assoc]
theorem desc_cons {p : Int × Int} {t : List (Int × Int)} : Desc (p :: t) ↔ p.1 ≤ p.2 ∧ (∀ q ∈ t, q.2 + 1 < p.1) ∧ Desc t := by
  unfold Desc
  rw [List.pairwise_cons, List.forall_mem_cons]
  constructor
  · rintro ⟨⟨a, b⟩, c, d⟩; exact ⟨a, c, b, d⟩
  · rintro ⟨a, c, b, d⟩; exact ⟨⟨a, b⟩, c, d⟩
theorem desc_nil : Desc [] := ⟨fun _ h => (nomatch h), .nil⟩
theorem desc_below {p : Int × Int} {t : List (Int × Int)} (h : Desc (p :: t)) {x : Int} (hx : Mem t x) : x + 1 < p.1 := by
  obtain ⟨q, hq, h1, h2⟩ := hx
  have := (desc_cons.mp h).2.1 q hq
  omega
theorem desc_above {p : Int × Int} {t : List (Int × Int)} (hp : p.1 ≤ p.2) (ht : Desc t) (h : ∀ x, Mem t x → x + 1 < p.1) : Desc (p :: t) :=
  desc_cons.mpr ⟨hp, fun q hq => h q.2 ⟨q, hq, ht.1 q hq, Int.le_refl _⟩, ht⟩

theorem desc_ext : ∀ {rs ss : List (Int × Int)}, Desc rs → Desc ss → (∀ x, Mem rs x ↔ Mem ss x) → rs = ss
  | [], [], _, _, _ => rfl
  | [], q :: _, _, hs, h => absurd ((h q.1).mpr (mem_cons.mpr (.inl ⟨Int.le_refl _, (desc_cons.mp hs).1⟩))) (mem_nil _)
  | p :: _, [], hr, _, h => absurd ((h p.1).mp (mem_cons.mpr (.inl ⟨Int.le_refl _, (desc_cons.mp hr).1⟩))) (mem_nil _)
  | p :: t, q :: u, hr, hs, h => by
    have hp := (desc_cons.mp hr).1
    have hq := (desc_cons.mp hs).1
    have a1 : ∀ x, Mem (q :: u) x → x ≤ q.2 := fun x hx => by
      rcases mem_cons.mp hx with h | h
      · exact h.2
      · have := desc_below hs h; omega
    have a2 : ∀ x, Mem (p :: t) x → x ≤ p.2 := fun x hx => by
      rcases mem_cons.mp hx with h | h
      · exact h.2
      · have := desc_below hr h; omega
    have e2 : p.2 = q.2 := by
      have := a1 p.2 ((h _).mp (mem_cons.mpr (.inl ⟨hp, Int.le_refl _⟩)))
      have := a2 q.2 ((h _).mpr (mem_cons.mpr (.inl ⟨hq, Int.le_refl _⟩)))
      omega
    have e1 : p.1 = q.1 := by
      have key : ∀ {p q : Int × Int} {t u : List (Int × Int)}, Desc (p :: t) → Desc (q :: u) → (∀ x, Mem (p :: t) x ↔ Mem (q :: u) x) → p.2 = q.2 → p.1 ≤ q.1 := by
        intro p q t u hr hs h e2
        have hp := (desc_cons.mp hr).1
        have hq := (desc_cons.mp hs).1
        false_or_by_contra
        rename_i hc
        -- p.1 - 1 lies in q's range, not in p's list
        have hm : Mem (q :: u) (p.1 - 1) := mem_cons.mpr (.inl ⟨by omega, by omega⟩)
        rcases mem_cons.mp ((h _).mpr hm) with h' | h'
        · omega
        · have := desc_below hr h'; omega
      have h1 := key hr hs h e2
      have h2 := key hs hr (fun x => (h x).symm) e2.symm
      omega
    have e : p = q := Prod.ext e1 e2
    subst e
    have ht := (desc_cons.mp hr).2.2
    have hu := (desc_cons.mp hs).2.2
    congr 1
    refine desc_ext ht hu fun x => ⟨fun hx => ?_, fun hx => ?_⟩
    · rcases mem_cons.mp ((h x).mp (mem_cons.mpr (.inr hx))) with h' | h'
      · have := desc_below hr hx; omega
      · exact h'
    · rcases mem_cons.mp ((h x).mpr (mem_cons.mpr (.inr hx))) with h' | h'
      · have := desc_below hs hx; omega
      · exact h'

/-- what add_number does to ranges that are right -/
def addR : List (Int × Int) → Int → Int → List (Int × Int)
  | [], low, high => [(low, high)]
  | p :: t, low, high => if p.1 > high + 1 then p :: addR t low high
    else if p.2 < low - 1 then (low, high) :: p :: t
    else addR t (min low p.1) (max high p.2)

theorem fold_true : ∀ (rs : List (Int × Int)) (a : AS), a.b = true → (∀ p ∈ rs, p.1 ≤ p.2 ∧ p.2 < a.low - 1) → a.low ≤ a.high → rs.foldl addStep a = { a with found := a.found ++ rs }
  | [], a, _, _, _ => by simp
  | p :: t, a, hb, h, hl => by
    have hp := h p (.head _)
    have e : addStep a p = { a with found := a.found ++ [p] } := by
      unfold addStep
      rw [if_neg (by omega), if_pos hp.2, hb]
      cases a
      simp at hb
      simp [hb]
    rw [List.foldl_cons, e, fold_true t { a with found := a.found ++ [p] } hb (fun q hq => h q (.tail _ hq)) hl]
    simp

theorem fold_add : ∀ (rs : List (Int × Int)) (low high : Int) (found : List (Int × Int)), Desc rs → low ≤ high →
    (let a := rs.foldl addStep ⟨low, high, found, false⟩; if a.b then a.found else a.found ++ [(a.low, a.high)]) = found ++ addR rs low high
  | [], low, high, found, _, _ => by simp [addR]
  | p :: t, low, high, found, hd, hl => by
    have hp := desc_cons.mp hd
    rw [List.foldl_cons, addR]
    by_cases h1 : p.1 > high + 1
    · have e : addStep ⟨low, high, found, false⟩ p = ⟨low, high, found ++ [p], false⟩ := by unfold addStep; rw [if_pos h1]
      rw [e, if_pos h1, fold_add t low high _ hp.2.2 hl]
      simp
    · rw [if_neg h1]
      by_cases h2 : p.2 < low - 1
      · have e : addStep ⟨low, high, found, false⟩ p = ⟨low, high, found ++ [(low, high)] ++ [p], true⟩ := by unfold addStep; rw [if_neg h1, if_pos h2]; simp
        rw [e, if_pos h2, fold_true t _ rfl (fun q hq => ⟨hp.2.2.1 q hq, by have := hp.2.1 q hq; show q.2 < low - 1; omega⟩) hl]
        simp
      · have e : addStep ⟨low, high, found, false⟩ p = ⟨min low p.1, max high p.2, found, false⟩ := by unfold addStep; rw [if_neg h1, if_neg h2]
        rw [e, if_neg h2]
        exact fold_add t _ _ found hp.2.2 (by omega)

theorem addN_eq {rs : List (Int × Int)} (h : Desc rs) (n : Int) : addN rs n = addR rs n n := by
  have := fold_add rs n n [] h (Int.le_refl _)
  rw [List.nil_append] at this
  exact this

theorem addR_mem : ∀ (rs : List (Int × Int)) (low high : Int), low ≤ high → Desc rs → ∀ x, Mem (addR rs low high) x ↔ Mem rs x ∨ (low ≤ x ∧ x ≤ high)
  | [], low, high, _, _, x => by
    rw [addR, mem_cons]
    constructor
    · rintro (h | h)
      · exact .inr h
      · exact absurd h (mem_nil _)
    · rintro (h | h)
      · exact absurd h (mem_nil _)
      · exact .inl h
  | p :: t, low, high, hl, hd, x => by
    have hp := desc_cons.mp hd
    rw [addR]
    by_cases h1 : p.1 > high + 1
    · rw [if_pos h1, mem_cons, addR_mem t low high hl hp.2.2 x, mem_cons, or_assoc]
    · rw [if_neg h1]
      by_cases h2 : p.2 < low - 1
      · rw [if_pos h2, mem_cons]
        exact or_comm
      · rw [if_neg h2, addR_mem t _ _ (by omega) hp.2.2 x, mem_cons]
        constructor
        · rintro (h | h)
          · exact .inl (.inr h)
          · by_cases hx : p.1 ≤ x ∧ x ≤ p.2
            · exact .inl (.inl hx)
            · right; omega
        · rintro ((h | h) | h)
          · right; omega
          · exact .inl h
          · right; omega

theorem addR_desc : ∀ (rs : List (Int × Int)) (low high : Int), low ≤ high → Desc rs → Desc (addR rs low high)
  | [], low, high, hl, _ => desc_cons.mpr ⟨hl, (fun _ h => nomatch h), desc_nil⟩
  | p :: t, low, high, hl, hd => by
    have hp := desc_cons.mp hd
    rw [addR]
    by_cases h1 : p.1 > high + 1
    · rw [if_pos h1]
      refine desc_above hp.1 (addR_desc t low high hl hp.2.2) fun x hx => ?_
      rcases (addR_mem t low high hl hp.2.2 x).mp hx with h | h
      · exact desc_below hd h
      · omega
    · rw [if_neg h1]
      by_cases h2 : p.2 < low - 1
      · rw [if_pos h2]
        refine desc_above (p := (low, high)) hl hd fun x hx => ?_
        rcases mem_cons.mp hx with h | h
        · show x + 1 < low; omega
        · have := desc_below hd h
          show x + 1 < low; omega
      · rw [if_neg h2]
        exact addR_desc t _ _ (by omega) hp.2.2

/-- the law's own ranges -/
theorem any_mem (ks : List Int) (x : Int) : ks.any (· == x) = true ↔ x ∈ ks := by
  rw [List.any_eq_true]
  constructor
  · rintro ⟨y, hy, e⟩; rw [← beq_iff_eq.mp e]; exact hy
  · intro h; exact ⟨x, h, by simp⟩

theorem desc_snoc {s : List (Int × Int)} {p : Int × Int} (hs : Desc s) (hp : p.1 ≤ p.2) (h : ∀ q ∈ s, p.2 + 1 < q.1) : Desc (s ++ [p]) := by
  refine ⟨fun q hq => ?_, ?_⟩
  · rcases List.mem_append.mp hq with hq | hq
    · exact hs.1 q hq
    · rw [List.mem_singleton.mp hq]; exact hp
  · rw [List.pairwise_append]
    exact ⟨hs.2, List.pairwise_singleton _ _, fun q hq r hr => by rw [List.mem_singleton.mp hr]; exact h q hq⟩

theorem desc_init {s : List (Int × Int)} {p : Int × Int} (h : Desc (s ++ [p])) : Desc s ∧ p.1 ≤ p.2 ∧ ∀ q ∈ s, p.2 + 1 < q.1 := by
  obtain ⟨h1, h2⟩ := h
  rw [List.pairwise_append] at h2
  exact ⟨⟨fun q hq => h1 q (List.mem_append_left _ hq), h2.1⟩, h1 p (by simp), fun q hq => h2.2.2 q hq p (by simp)⟩

structure LrInv (ks : List Int) (i : Nat) (acc : List (Int × Int)) : Prop where
  desc : Desc acc
  mem : ∀ x, Mem acc x ↔ (x ∈ ks ∧ 25 - (i : Int) ≤ x)
  last : 25 - (i : Int) ∈ ks → ∃ s b, acc = s ++ [(25 - (i : Int), b)]

theorem lr_inv (ks : List Int) (hks : ∀ k ∈ ks, k < 25) : ∀ i, LrInv ks i (lrFold ks i)
  | 0 => by
    refine ⟨desc_nil, fun x => ⟨fun h => absurd h (mem_nil _), fun h => ?_⟩, fun h => ?_⟩
    · have := hks x h.1; omega
    · have := hks _ h; omega
  | i + 1 => by
    obtain ⟨hd, hm, hl⟩ := lr_inv ks hks i
    rw [lrFold_succ]
    generalize lrFold ks i = acc at hd hm hl
    have en : (25 : Int) - ((i + 1 : Nat) : Int) = 24 - i := by omega
    have en1 : (24 : Int) - (i : Int) + 1 = 25 - i := by omega
    have ge : ∀ q ∈ acc, 25 - (i : Int) ≤ q.1 := fun q hq => ((hm q.1).mp ⟨q, hq, Int.le_refl _, hd.1 q hq⟩).2
    unfold lrStep
    by_cases h1 : (24 - (i : Int)) ∈ ks
    · rw [(any_mem ks _).mpr h1, if_pos rfl, en1]
      by_cases h2 : (25 - (i : Int)) ∈ ks
      · rw [(any_mem ks _).mpr h2, if_pos rfl]
        obtain ⟨s, b, rfl⟩ := hl h2
        obtain ⟨hs, hb, hlt⟩ := desc_init hd
        rw [List.dropLast_concat, List.getLastD_concat]
        refine ⟨desc_snoc hs (by show 24 - (i : Int) ≤ b; have : 25 - (i : Int) ≤ b := hb; omega) hlt, fun x => ?_, fun _ => ⟨s, b, by rw [en]⟩⟩
        rw [en]
        have hx := hm x
        rw [mem_append, mem_cons] at hx ⊢
        have hno : ¬ Mem [] x := mem_nil x
        constructor
        · rintro (h | h | h)
          · have := hx.mp (.inl h); exact ⟨this.1, by omega⟩
          · by_cases q : x = 24 - i
            · rw [q]; exact ⟨h1, Int.le_refl _⟩
            · have h' : 24 - (i : Int) ≤ x ∧ x ≤ b := h
              have := hx.mp (.inr (.inl ⟨by show 25 - (i : Int) ≤ x; omega, h'.2⟩)); exact ⟨this.1, by omega⟩
          · exact absurd h hno
        · rintro ⟨a, c⟩
          by_cases q : x = 24 - i
          · right; left
            have hb' : 25 - (i : Int) ≤ b := hb
            exact ⟨by show 24 - (i : Int) ≤ x; omega, by show x ≤ b; omega⟩
          · rcases hx.mpr ⟨a, by omega⟩ with h | h | h
            · exact .inl h
            · have h' : 25 - (i : Int) ≤ x ∧ x ≤ b := h
              exact .inr (.inl ⟨by show 24 - (i : Int) ≤ x; omega, h'.2⟩)
            · exact absurd h hno
      · have e2 : ks.any (· == 25 - (i : Int)) = false := by
          rw [← Bool.not_eq_true, any_mem]; exact h2
        rw [e2, if_neg (by decide)]
        have gt : ∀ q ∈ acc, (24 - (i : Int)) + 1 < q.1 := fun q hq => by
          have h3 := ge q hq
          by_cases q1 : q.1 = 25 - i
          · exact absurd ((hm q.1).mp ⟨q, hq, Int.le_refl _, hd.1 q hq⟩).1 (by rw [q1]; exact h2)
          · omega
        refine ⟨desc_snoc hd (Int.le_refl _) gt, fun x => ?_, fun _ => ⟨acc, _, by rw [en]⟩⟩
        rw [en, mem_append, mem_cons, hm x]
        have hno : ¬ Mem [] x := mem_nil x
        constructor
        · rintro (h | h | h)
          · exact ⟨h.1, by omega⟩
          · have h' : 24 - (i : Int) ≤ x ∧ x ≤ 24 - (i : Int) := h
            have : x = 24 - i := by omega
            rw [this]; exact ⟨h1, Int.le_refl _⟩
          · exact absurd h hno
        · rintro ⟨a, c⟩
          by_cases q : x = 24 - i
          · right; left; rw [q]; exact ⟨Int.le_refl _, Int.le_refl _⟩
          · left; exact ⟨a, by omega⟩
    · have e1 : ks.any (· == 24 - (i : Int)) = false := by
        rw [← Bool.not_eq_true, any_mem]; exact h1
      rw [e1, if_neg (by decide)]
      refine ⟨hd, fun x => ?_, fun h => absurd (by rw [en] at h; exact h) h1⟩
      rw [hm x, en]
      constructor
      · rintro ⟨a, b⟩; exact ⟨a, by omega⟩
      · rintro ⟨a, b⟩
        refine ⟨a, ?_⟩
        by_cases q : x = 24 - i
        · rw [q] at a; exact absurd a h1
        · omega

theorem law_desc {ks : List Int} (hks : ∀ k ∈ ks, k < 25) : Desc (lawRanges ks) := (lr_inv ks hks 25).desc
theorem law_mem {ks : List Int} (hks : ∀ k ∈ ks, 0 ≤ k ∧ k < 25) (x : Int) : Mem (lawRanges ks) x ↔ x ∈ ks := by
  rw [lawRanges, (lr_inv ks (fun k hk => (hks k hk).2) 25).mem x]
  constructor
  · exact fun h => h.1
  · exact fun h => ⟨h, by have := (hks x h).1; omega⟩

/-- the law of add_number -/
theorem add_law {ks : List Int} (hks : ∀ k ∈ ks, 0 ≤ k ∧ k < 25) {n : Int} (h0 : 0 ≤ n) (hn : n < 25) : addN (lawRanges ks) n = lawRanges (ks ++ [n]) := by
  have hks' : ∀ k ∈ ks ++ [n], 0 ≤ k ∧ k < 25 := fun k hk => by
    rcases List.mem_append.mp hk with h | h
    · exact hks k h
    · rw [List.mem_singleton.mp h]; exact ⟨h0, hn⟩
  have hd := law_desc (fun k hk => (hks k hk).2)
  rw [addN_eq hd]
  refine desc_ext (addR_desc _ _ _ (Int.le_refl _) hd) (law_desc fun k hk => (hks' k hk).2) fun x => ?_
  rw [addR_mem _ _ _ (Int.le_refl _) hd, law_mem hks, law_mem hks', List.mem_append, List.mem_singleton]
  constructor
  · rintro (h | h)
    · exact .inl h
    · right; omega
  · rintro (h | h)
    · exact .inl h
    · right; omega

theorem hasN_mem (rs : List (Int × Int)) (n : Int) : hasN rs n = true ↔ Mem rs n := by
  unfold hasN Mem
  rw [List.any_eq_true]
  constructor
  · rintro ⟨p, hp, h⟩
    simp only [Bool.and_eq_true, decide_eq_true_eq] at h
    exact ⟨p, hp, h⟩
  · rintro ⟨p, hp, h⟩
    exact ⟨p, hp, by simp only [Bool.and_eq_true, decide_eq_true_eq]; exact h⟩
theorem has_law {ks : List Int} (hks : ∀ k ∈ ks, 0 ≤ k ∧ k < 25) (n : Int) : hasN (lawRanges ks) n = ks.any (· == n) := by
  rw [Bool.eq_iff_iff, hasN_mem, law_mem hks, any_mem]

theorem right_of {rs : List (Int × Int)} (h : Desc rs) (h0 : ∀ p ∈ rs, 0 ≤ p.1) : rightAll rs = true := by
  unfold rightAll
  rw [List.all_eq_true]
  intro i hi
  have hi' := List.mem_range.mp hi
  unfold okAt
  rw [List.getElem?_eq_getElem hi']
  simp only [decide_eq_true_eq]
  refine ⟨h0 _ (List.getElem_mem hi'), h.1 _ (List.getElem_mem hi'), ?_⟩
  rintro ⟨hp, hle⟩
  have h1 : i - 1 < rs.length := by omega
  rw [List.getD_eq_getElem?_getD, List.getElem?_eq_getElem h1, Option.getD_some] at hle
  have := List.pairwise_iff_getElem.mp h.2 (i - 1) i h1 hi' (by omega)
  omega
theorem right_law {ks : List Int} (hks : ∀ k ∈ ks, 0 ≤ k ∧ k < 25) : rightAll (lawRanges ks) = true := by
  have hd := law_desc (fun k hk => (hks k hk).2)
  refine right_of hd fun p hp => ?_
  exact (hks p.1 ((law_mem hks p.1).mp ⟨p, hp, Int.le_refl _, hd.1 p hp⟩)).1

theorem prune_mem (rs : List (Int × Int)) (low x : Int) : Mem (pruneN rs low) x ↔ Mem rs x ∧ low ≤ x := by
  unfold pruneN Mem
  constructor
  · rintro ⟨q, hq, h1, h2⟩
    obtain ⟨p, hp, rfl⟩ := List.mem_map.mp hq
    obtain ⟨hp, hl⟩ := List.mem_filter.mp hp
    have h1' : max p.1 low ≤ x := h1
    exact ⟨⟨p, hp, by omega, h2⟩, by omega⟩
  · rintro ⟨⟨p, hp, h1, h2⟩, hl⟩
    exact ⟨(max p.1 low, p.2), List.mem_map.mpr ⟨p, List.mem_filter.mpr ⟨hp, by simp only [decide_eq_true_eq]; omega⟩, rfl⟩, by show max p.1 low ≤ x; omega, h2⟩
theorem prune_desc {rs : List (Int × Int)} (h : Desc rs) (low : Int) : Desc (pruneN rs low) := by
  unfold pruneN
  refine ⟨fun q hq => ?_, ?_⟩
  · obtain ⟨p, hp, rfl⟩ := List.mem_map.mp hq
    obtain ⟨hp, hl⟩ := List.mem_filter.mp hp
    have := h.1 p hp
    simp only [decide_eq_true_eq] at hl
    show max p.1 low ≤ p.2
    omega
  · rw [List.pairwise_map]
    refine List.Pairwise.imp ?_ (h.2.filter _)
    intro p q hpq
    show q.2 + 1 < max p.1 low
    omega
theorem prune_law {ks : List Int} (hks : ∀ k ∈ ks, 0 ≤ k ∧ k < 25) (low : Int) : pruneN (lawRanges ks) low = lawRanges (ks.filter fun n => decide (low ≤ n)) := by
  have hks' : ∀ k ∈ ks.filter (fun n => decide (low ≤ n)), 0 ≤ k ∧ k < 25 := fun k hk => hks k (List.mem_filter.mp hk).1
  refine desc_ext (prune_desc (law_desc fun k hk => (hks k hk).2) low) (law_desc fun k hk => (hks' k hk).2) fun x => ?_
  rw [prune_mem, law_mem hks, law_mem hks', List.mem_filter, decide_eq_true_eq]

theorem newly_law {ks : List Int} (hks : ∀ k ∈ ks, 0 ≤ k ∧ k < 25) (sent : List Int) : sent.filter (hasN (lawRanges ks)) = sent.filter fun n => ks.any (· == n) := by
  congr 1
  funext n
  exact has_law hks n

theorem law_len (ks : List Int) : (lawRanges ks).length ≤ 25 := lrFold_len ks 25

/-- how many -/
theorem count_int : ∀ a : Fin 25, ∀ b : Fin 25, a.val ≤ b.val → ((List.range 25).countP fun x => decide (a.val ≤ x) && decide (x ≤ b.val)) = b.val - a.val + 1 := by decide +kernel
theorem countP_or {α : Type} (f g : α → Bool) (l : List α) (h : ∀ x ∈ l, ¬ (f x = true ∧ g x = true)) : l.countP (fun x => f x || g x) = l.countP f + l.countP g := by
  induction l with
  | nil => rfl
  | cons x l ih =>
    have hx := h x (.head _)
    rw [List.countP_cons, List.countP_cons, List.countP_cons, ih fun y hy => h y (.tail _ hy)]
    cases hf : f x <;> cases hg : g x <;> simp [hf, hg] at hx ⊢ <;> omega
theorem count_desc : ∀ {rs : List (Int × Int)}, Desc rs → (∀ p ∈ rs, 0 ≤ p.1 ∧ p.2 < 25) → countN rs = (((List.range 25).countP fun x : Nat => hasN rs (x : Int) : Nat) : Int)
  | [], _, _ => by simp [countN, hasN]
  | p :: t, hd, hb => by
    have hp := desc_cons.mp hd
    have hb0 := hb p (.head _)
    have ih := count_desc hp.2.2 fun q hq => hb q (.tail _ hq)
    have e1 : countN (p :: t) = (p.2 - p.1 + 1) + countN t := by simp [countN]
    have e2 : (fun x : Nat => hasN (p :: t) (x : Int)) = fun x : Nat => (decide (p.1 ≤ (x : Int)) && decide ((x : Int) ≤ p.2)) || hasN t (x : Int) := by
      funext x; simp [hasN]
    rw [e1, ih, e2, countP_or]
    · obtain ⟨a, ha⟩ := Int.eq_ofNat_of_zero_le hb0.1
      obtain ⟨b, hb'⟩ := Int.eq_ofNat_of_zero_le (by omega : 0 ≤ p.2)
      have h25b : b < 25 := by omega
      have hab : a ≤ b := by omega
      have h25 : (List.range 25).countP (fun x : Nat => decide (a ≤ x) && decide (x ≤ b)) = b - a + 1 := count_int ⟨a, by omega⟩ ⟨b, h25b⟩ hab
      have e3 : (fun x : Nat => decide (p.1 ≤ (x : Int)) && decide ((x : Int) ≤ p.2)) = fun x : Nat => decide (a ≤ x) && decide (x ≤ b) := by
        funext x
        rw [ha, hb']
        congr 1 <;> (apply decide_eq_decide.mpr; omega)
      rw [e3, h25]
      omega
    · intro x _ ⟨h1, h2⟩
      have := desc_below hd ((hasN_mem t _).mp h2)
      simp only [Bool.and_eq_true, decide_eq_true_eq] at h1
      omega
theorem count_law {ks : List Int} (hks : ∀ k ∈ ks, 0 ≤ k ∧ k < 25) : countN (lawRanges ks) = (((List.range 25).countP fun x : Nat => ks.any (· == (x : Int)) : Nat) : Int) := by
  have hd := law_desc (fun k hk => (hks k hk).2)
  rw [count_desc hd fun p hp => ⟨(hks p.1 ((law_mem hks p.1).mp ⟨p, hp, Int.le_refl _, hd.1 p hp⟩)).1, (hks p.2 ((law_mem hks p.2).mp ⟨p, hp, hd.1 p hp, Int.le_refl _⟩)).2⟩]
  congr 2
  funext x
  exact has_law hks _

/-- the greatest -/
theorem head_law {ks : List Int} (hks : ∀ k ∈ ks, 0 ≤ k ∧ k < 25) {p : Int × Int} {t : List (Int × Int)} (h : lawRanges ks = p :: t) : p.2 ∈ ks ∧ ∀ k ∈ ks, k ≤ p.2 := by
  have hd := law_desc (fun k hk => (hks k hk).2)
  have hm := law_mem hks
  rw [h] at hd hm
  refine ⟨(hm p.2).mp (mem_cons.mpr (.inl ⟨(desc_cons.mp hd).1, Int.le_refl _⟩)), fun k hk => ?_⟩
  rcases mem_cons.mp ((hm k).mpr hk) with h' | h'
  · exact h'.2
  · have := desc_below hd h'
    have := (desc_cons.mp hd).1
    omega
theorem nil_law {ks : List Int} (hks : ∀ k ∈ ks, 0 ≤ k ∧ k < 25) (h : lawRanges ks = []) : ks = [] := by
  cases ks with
  | nil => rfl
  | cons k r =>
    have := (law_mem hks k).mpr (.head _)
    rw [h] at this
    exact absurd this (mem_nil _)
end Mine
namespace Mine
open LCg (lst lst_snoc)
def PackJ (s : Shared) (G : Nat → List Value → List (Addr × Obj) → Prop) (i : Nat) (ys : List Value) (h : Heap) : Prop :=
  ∃ tl, (∀ p ∈ tl, h.get? p.1 = some p.2 ∧ s.heap.get? p.1 = none ∧ p.1 ≠ s.heap.objs.size ∧ p.1 ≠ s.heap.objs.size + 1 ∧ p.1 ≠ s.heap.objs.size + 1 + 1) ∧ G i ys tl
section
variable {prog : Program} {w : World} {A : Around} {E : Value → Shared → Prop} {s : Shared} {env : Env}
theorem comp_packX {target : PySem.Expr} {ifs : List PySem.Expr} {elt : PySem.Expr} {scope : Scope} {cl : List (Str × Addr)} {oI : Obj} {fp : List Addr} {n : Nat} {P : Nat → Value → Prop} {St : Nat → Heap → Prop} 
    (G : Nat → List Value → List (Addr × Obj) → Prop)
    (W : Walks prog w A s.heap.objs.size fp [s.heap.objs.size] n P St) (hn : n ≤ 1000000) (hst : St 0 (s.heap.push oI)) (hfp : ∀ b ∈ fp, b < s.heap.objs.size + 1) (hfree : oI.isFreed = false)
    (hgo : ∀ i (s' : Shared) v (Q' : Unit → Shared → Prop) (E' : Value → Shared → Prop), St i s'.heap → Q' () s' → wpAny (model prog w) A (letOwnedTupleGo target (.ref s.heap.objs.size) v) Q' E' s')
    (hob : ∀ i h, St i h → ∃ o, h.get? s.heap.objs.size = some o) (h0 : G 0 [] [])
    (turn : ∀ C i v ys tl m₁ h tk, i < n → P i v → G i ys tl → h.Ns C m₁ → (∀ b o, s.heap.get? b = some o → h.get? b = some o) → s.heap.objs.size ≤ C → (∀ p ∈ tl, h.get? p.1 = some p.2) →
      CTurnWp prog w A target ifs elt (compEnvC scope cl C env) C i v ys tl G { s with heap := h, toks := tk }) :
    CompOn prog w A env scope cl target ifs elt { s with heap := s.heap.push oI } s.heap.objs.size fp [s.heap.objs.size] n P St [] (PackJ s G) := by
  have hsz : (s.heap.push oI).objs.size = s.heap.objs.size + 1 := Heap.size_push ..
  have old : ∀ b o, s.heap.get? b = some o → (s.heap.push oI).get? b = some o := fun b o e => Heap.get?_push_of_some _ e
  have notI : ∀ b o, s.heap.get? b = some o → b ∉ [s.heap.objs.size] := fun b o e hm => absurd (Heap.lt_size e) ((List.mem_singleton.mp hm) ▸ Nat.lt_irrefl _)
  have fresh : ∀ b, s.heap.objs.size ≤ b → s.heap.get? b = none := fun b hb => by
    cases q : s.heap.get? b with
    | none => rfl
    | some o => exact absurd (Heap.lt_size q) (Nat.not_lt.mpr hb)
  refine ⟨W, hn, hst, fun b hb => by rw [hsz]; exact hfp b hb, fun b hb => (nomatch hb), hgo, ⟨[], fun _ hp => (nomatch hp), h0⟩, ?_, ?_⟩
  · rintro i ys h h' ⟨tl, ht, hG⟩ hk
    rw [hsz] at hk
    refine ⟨tl, fun p hp => ?_, hG⟩
    obtain ⟨a, b, c, d, e⟩ := ht p hp
    exact ⟨hk _ _ (fun hm => c (List.mem_singleton.mp hm)) d e a, b, c, d, e⟩
  · rintro i v ys m₁ h tk hi hP hst' ⟨tl, ht, hG⟩ hD hC hk hle
    rw [hsz] at hD hC hle
    dsimp only
    rw [hsz]
    obtain ⟨oi, hoi⟩ := hob _ _ hst'
    refine wpAny_mono (turn (s.heap.objs.size + 1 + 1) i v ys tl m₁ h tk hi hP hG hC (fun b o e => hk b o (notI b o e) (by simp) (old b o e)) (Nat.le_succ_of_le (Nat.le_succ _)) fun p hp => (ht p hp).1) (fun _ s₄ h₄ => wpAny_mono h₄ (fun ok s₅ h₅ => ?_) fun _ _ x => x) fun _ _ x => x
    have fin : ∀ {ys' : List Value} {s₆ : Shared}, CTurn (s.heap.objs.size + 1 + 1) (G (i + 1) ys') tl { s with heap := h, toks := tk } s₆ →
        CDone (s.heap.objs.size + 1 + 1) [] (PackJ s G (i + 1) ys') { s with heap := h, toks := tk } s₆ := by
      rintro ys' s₆ ⟨h', tk', m', nu, rfl, hn', hk', hnu, hG'⟩
      refine ⟨h', tk', m', rfl, hn', fun b o hb _ e => hk' b o hb e, nu ++ tl, fun p hp => ?_, hG'⟩
      rcases List.mem_append.mp hp with hp | hp
      · obtain ⟨a, b⟩ := hnu p hp
        refine ⟨a, ?_, fun q => ?_, fun q => ?_, fun q => ?_⟩
        · cases q : s.heap.get? p.1 with
          | none => rfl
          | some o => have := hk _ _ (notI _ _ q) (by simp) (old _ _ q); rw [b] at this; cases this
        · rw [q] at b; rw [b] at hoi; cases hoi
        · rw [q] at b; rw [b] at hD; cases hD
        · obtain ⟨oc, _, _, hoc, _⟩ := hC
          rw [q] at b; rw [b] at hoc; cases hoc
      · obtain ⟨a, b, c, d, e⟩ := ht p hp
        exact ⟨hk' _ _ e a, b, c, d, e⟩
    cases ok with
    | false =>
      simp only [Bool.false_eq_true, if_false] at h₅ ⊢
      exact fin h₅
    | true =>
      simp only [if_true] at h₅ ⊢
      exact wpAny_mono h₅ (fun y s₆ h₆ => fin h₆) fun _ _ x => x

theorem comp_rangeA {x y : Str} {px : Pos} {ifs : List PySem.Expr} {elt : PySem.Expr} {scope : Scope} {cl : List (Str × Addr)} {r : Addr} {a₀ b₀ c₀ : Int} {t₀ u₀ v₀ : Tok} {n : Nat} {Q : Flow → Shared → Prop} {m : Str → Option Value}
    (G : Nat → List Value → List (Addr × Obj) → Prop) (hh : A.handled = none) (hr : IsRange s.heap r a₀ b₀ c₀ t₀ u₀ v₀) (hsmall : Builtin.Range.small a₀ b₀ c₀ = true) (hsz : Builtin.Range.rangeSize a₀ b₀ c₀ = (n : Int)) (hn : n ≤ 1000000) (h0 : G 0 [] [])
    (hL : s.heap.Ns env.locals m)
    (turn : ∀ C i t ys tl m₁ h tk, i < n → G i ys tl → h.Ns C m₁ → (∀ b o, s.heap.get? b = some o → h.get? b = some o) → s.heap.objs.size ≤ C → (∀ p ∈ tl, h.get? p.1 = some p.2) →
      CTurnWp prog w A (.Name x px) ifs elt (compEnvC scope cl C env) C i (.int (a₀ + (i : Nat) * c₀) t) ys tl G { s with heap := h, toks := tk })
    (done : ∀ D h' tk ys tl, h'.get? D = some (lst ys) → s.heap.get? D = none → G n ys tl → ys.length ≤ n → h'.Ns env.locals (fun z => if z = y then some (.ref D) else m z) → (∀ b o, b ≠ env.locals → s.heap.get? b = some o → h'.get? b = some o) →
      (∀ p ∈ tl, h'.get? p.1 = some p.2 ∧ s.heap.get? p.1 = none) → Q .next { s with heap := h', toks := tk }) :
    wpAny (model prog w) A (pyIter (.ref r)) (fun it s₂ => CompAskA prog w A env scope cl (.Name x px) ifs elt y Q it s₂) E s := by
  refine wpAny_pyIter_range hr hsmall ?_
  have W : Walks prog w A s.heap.objs.size [s.heap.objs.size] [s.heap.objs.size] n (fun i v => i < n ∧ ∃ t, v = .int (a₀ + i * c₀) t)
      (fun i h => IsRangeIter h s.heap.objs.size (a₀ + (i : Nat) * c₀) ((n : Int) - (i : Nat)) c₀) := (Walks.range hh _ a₀ c₀ n).bound
  obtain ⟨oL, _, _, hoL, _⟩ := id hL
  have hLlt : env.locals < s.heap.objs.size := Heap.lt_size hoL
  refine ⟨_, _, _, n, _, _, [], _, m, rfl, comp_packX G W hn (by show IsRangeIter _ _ _ _ _; rw [hsz]; simpa using Heap.get?_push_size _ rfl) (fun b hb => by rw [List.mem_singleton.mp hb]; exact Nat.lt_succ_self _) rfl
    (fun i s' v Q' E' hst h => wpAny_of_eq (by cases v <;> rfl) h) (fun i h hst => ⟨_, hst⟩) h0 (fun C i v ys tl m₁ h tk hi hv hG hC hk hle ht => by
      obtain ⟨_, t, rfl⟩ := hv
      exact turn C i t ys tl m₁ h tk hi hG hC hk hle ht), ?_, (fun h => nomatch h), hL.keeps fun b o e => Heap.get?_push_of_some _ e, ?_, ?_⟩
  · intro hm
    exact absurd hLlt ((List.mem_singleton.mp hm) ▸ Nat.lt_irrefl _)
  · rintro ys h h' ⟨tl, ht, hG⟩ hs
    refine ⟨tl, fun p hp => ⟨hs.extBut _ _ (fun q => ?_) (ht p hp).1, (ht p hp).2⟩, hG⟩
    have := (ht p hp).2.1
    rw [q, hoL] at this
    cases this
  · rintro h' tk ys hD ⟨tl, ht, hG⟩ hys hNs hk
    refine done _ h' tk ys tl hD ?_ hG hys hNs (fun b o hb e => hk b o hb ?_ (fun h => nomatch h) (Heap.get?_push_of_some _ e)) fun p hp => ⟨(ht p hp).1, (ht p hp).2.1⟩
    · have fresh : ∀ b, s.heap.objs.size ≤ b → s.heap.get? b = none := fun b hb => by
        cases q : s.heap.get? b with
        | none => rfl
        | some o => exact absurd (Heap.lt_size q) (Nat.not_lt.mpr hb)
      exact fresh _ (by dsimp only; rw [Heap.size_push]; exact Nat.le_succ _)
    · intro hm
      exact absurd (Heap.lt_size e) ((List.mem_singleton.mp hm) ▸ Nat.lt_irrefl _)
end
end Mine
namespace Mine
open LCg (lst lst_snoc)
section
variable {prog : Program} {w : World} {A : Around} {E : Value → Shared → Prop} {s : Shared} {env : Env}
/-- a comprehension over a range whose turns change one object -/
theorem comp_rangeM {x y : Str} {px : Pos} {ifs : List PySem.Expr} {elt : PySem.Expr} {scope : Scope} {cl : List (Str × Addr)} {r mu : Addr} {a₀ b₀ c₀ : Int} {t₀ u₀ v₀ : Tok} {n : Nat} {Q : Flow → Shared → Prop} {m : Str → Option Value} {oM : Obj}
    (J : Nat → List Value → Heap → Prop) (hh : A.handled = none) (hr : IsRange s.heap r a₀ b₀ c₀ t₀ u₀ v₀) (hsmall : Builtin.Range.small a₀ b₀ c₀ = true) (hsz : Builtin.Range.rangeSize a₀ b₀ c₀ = (n : Int)) (hn : n ≤ 1000000) (h0 : J 0 [] s.heap)
    (hL : s.heap.Ns env.locals m) (hmu : s.heap.get? mu = some oM) (hLm : env.locals ≠ mu)
    (hJ : ∀ i ys h h', J i ys h → (∀ o, h.get? mu = some o → h'.get? mu = some o) → J i ys h')
    (turn : ∀ C i t ys m₁ h tk, i < n → J i ys h → h.Ns C m₁ → (∀ b o, b ≠ mu → s.heap.get? b = some o → h.get? b = some o) → s.heap.objs.size ≤ C →
      wpAny (model prog w) A (assign (.Name x px) (compEnvC scope cl C env) (.int (a₀ + (i : Nat) * c₀) t)) (fun _ s₄ => wpAny (model prog w) A (testsOf ifs (compEnvC scope cl C env)) (fun ok s₅ =>
        if ok = true then wpAny (model prog w) A (eval elt (compEnvC scope cl C env)) (fun y s₆ => CDone C [mu] (J (i + 1) (ys ++ [y])) { s with heap := h, toks := tk } s₆) (fun _ _ => False) s₅
        else CDone C [mu] (J (i + 1) ys) { s with heap := h, toks := tk } s₅) (fun _ _ => False) s₄) (fun _ _ => False) { s with heap := h, toks := tk })
    (done : ∀ D h' tk ys, h'.get? D = some (lst ys) → s.heap.get? D = none → J n ys h' → ys.length ≤ n → h'.Ns env.locals (fun z => if z = y then some (.ref D) else m z) → (∀ b o, b ≠ env.locals → b ≠ mu → s.heap.get? b = some o → h'.get? b = some o) →
      Q .next { s with heap := h', toks := tk }) :
    wpAny (model prog w) A (pyIter (.ref r)) (fun it s₂ => CompAskA prog w A env scope cl (.Name x px) ifs elt y Q it s₂) E s := by
  refine wpAny_pyIter_range hr hsmall ?_
  have W : Walks prog w A s.heap.objs.size [s.heap.objs.size] [s.heap.objs.size] n (fun i v => i < n ∧ ∃ t, v = .int (a₀ + i * c₀) t)
      (fun i h => IsRangeIter h s.heap.objs.size (a₀ + (i : Nat) * c₀) ((n : Int) - (i : Nat)) c₀) := (Walks.range hh _ a₀ c₀ n).bound
  obtain ⟨oL, _, _, hoL, _⟩ := id hL
  have hLlt : env.locals < s.heap.objs.size := Heap.lt_size hoL
  have hMlt : mu < s.heap.objs.size := Heap.lt_size hmu
  have notI : ∀ b o, s.heap.get? b = some o → b ∉ [s.heap.objs.size] := fun b o e hm => absurd (Heap.lt_size e) ((List.mem_singleton.mp hm) ▸ Nat.lt_irrefl _)
  refine ⟨_, _, _, n, _, _, [mu], J, m, rfl, ⟨W, hn, (by show IsRangeIter _ _ _ _ _; rw [hsz]; simpa using Heap.get?_push_size _ rfl), (fun b hb => by rw [List.mem_singleton.mp hb]; dsimp only; rw [Heap.size_push]; exact Nat.lt_succ_self _), ?_,
    (fun i s' v Q' E' hst h => wpAny_of_eq (by cases v <;> rfl) h), hJ _ _ _ _ h0 (fun o e => Heap.get?_push_of_some _ e), ?_, ?_⟩, ?_, ?_, hL.keeps fun b o e => Heap.get?_push_of_some _ e, ?_, ?_⟩
  · intro b hb
    rw [List.mem_singleton.mp hb]
    refine ⟨?_, notI _ _ hmu⟩
    dsimp only
    rw [Heap.size_push]
    exact Nat.lt_succ_of_lt hMlt
  · intro i ys h h' hj hk
    refine hJ _ _ _ _ hj fun o e => hk _ _ (notI _ _ hmu) ?_ ?_ e
    · dsimp only; rw [Heap.size_push]; exact Nat.ne_of_lt (Nat.lt_succ_of_lt hMlt)
    · dsimp only; rw [Heap.size_push]; exact Nat.ne_of_lt (Nat.lt_succ_of_lt (Nat.lt_succ_of_lt hMlt))
  · rintro i v ys m₁ h tk hi ⟨_, t, rfl⟩ hst hj hD hC hk hle
    exact turn _ i t ys m₁ h tk hi hj hC (fun b o hb e => hk b o (notI _ _ e) (fun q => hb (List.mem_singleton.mp q)) (Heap.get?_push_of_some _ e)) (by dsimp only; rw [Heap.size_push]; exact Nat.le_succ_of_le (Nat.le_succ _))
  · intro hm
    exact absurd hLlt ((List.mem_singleton.mp hm) ▸ Nat.lt_irrefl _)
  · intro hm
    exact hLm (List.mem_singleton.mp hm)
  · intro ys h h' hj hs
    exact hJ _ _ _ _ hj fun o e => hs.extBut _ _ (Ne.symm hLm) e
  · intro h' tk ys hD hj hys hNs hk
    have fresh : ∀ b, s.heap.objs.size ≤ b → s.heap.get? b = none := fun b hb => by
      cases q : s.heap.get? b with
      | none => rfl
      | some o => exact absurd (Heap.lt_size q) (Nat.not_lt.mpr hb)
    exact done _ h' tk ys hD (fresh _ (by dsimp only; rw [Heap.size_push]; exact Nat.le_succ _)) hj hys hNs fun b o hb hb' e => hk b o hb (notI _ _ e) (fun q => hb' (List.mem_singleton.mp q)) (Heap.get?_push_of_some _ e)
end
end Mine
namespace Mine
open LCg (lst lst_snoc)

section
variable {w : World} {A₀ : Around} {base h₀ : Heap} {L : Addr} {m mg mb : Str → Option Value} {mean : ExcName → Option Value} {dp un : Nat} {gd : Option (List Code)} {env : Env} {outer : List Env} {s : Shared} {Q E : Value → Shared → Prop} {news rest : List (Addr × Obj)}

theorem news_sub {h : Heap} {news' : List (Addr × Obj)} (N : News h₀ L h news) (hs : ∀ p ∈ news', p ∈ news) : News h₀ L h news' := fun p hp => N p (hs p hp)
theorem fresh_ne {h : Heap} {a b : Addr} {o : Obj} (ha : h.get? a = none) (hb : h.get? b = some o) : a ≠ b := fun e => by rw [e, hb] at ha; cases ha

/-- what a pure call leaves, told in the caller's words -/
theorem pure_end {Out : List (Addr × Obj) → Value → Prop} (F : Fr h₀ L s.heap m) (N : News h₀ L s.heap news)
    (h : ∀ v h' tk' tl, Fr h₀ L h' m → News h₀ L h' (tl ++ news) → (∀ p ∈ tl, ∀ q ∈ news, p.1 ≠ q.1) → Out tl v → Q v { s with heap := h', toks := tk' }) :
    ∀ v s', PEnd s.heap Out v s s' → Q v s' := by
  rintro v s' ⟨h', tk', tl, rfl, hk, ht, ho⟩
  refine h v h' tk' tl (Fr.keeps F hk) (fun p hp => ?_) (fun p hp q hq => fresh_ne (ht p hp).2 (N q hq).1) ho
  rcases List.mem_append.mp hp with hp | hp
  · obtain ⟨a, b⟩ := ht p hp
    obtain ⟨oL, _, _, hoL, _⟩ := F.ns
    refine ⟨a, fresh_ne b hoL, ?_⟩
    cases q : h₀.get? p.1 with
    | none => rfl
    | some o => rw [F.keep _ _ q] at b; cases b
  · exact (News.grown N hk) p hp

theorem take_L {bx ca : Nat} {cvs : List Value} {cs : List Int} {k c M : Int} {t u v : Tok} {bn : Nat}
    (hf : env.frame = some L) (hke : env.scope.kind = .function) (hdp : dp + 10 < recursionLimit) (hun : un + 60 < cLine)
    (B : Below A₀ base outer h₀) (F : Fr h₀ L s.heap m) (X : (hd.heap_39 w.params).In h₀) (T : Top hd.view_39 (looseW hd.view_39 []) mean mg mb h₀)
    (N : News h₀ L s.heap ((bx, boxObj ca k t c u bn) :: rest)) (hoff : ∀ p ∈ rest, p.1 ≠ bx) (hca : (ca, lst cvs) ∈ rest) (hi : IntsAre cvs cs) (hlen : cs.length ≤ 100) (h0 : 0 ≤ k) (hk : k < 1000000) (hM : 0 < M)
    (h : ∀ d td t' h' tk', 0 ≤ d → d < M → Fr h₀ L h' m → News h₀ L h' ((bx, boxObj ca (k + 1) t' c u bn) :: rest) → Q (.int d td) { s with heap := h', toks := tk' }) :
    wpAny (model PySem.Challenge.rw_no0041_01.row.prog w) (arnd dp un gd env outer) (call (.ref 74) [.ref bx, .int M v]) Q E s := by
  have N1 : News h₀ L s.heap [(bx, boxObj ca k t c u bn)] := news_sub N fun p hp => by rw [List.mem_singleton.mp hp]; exact .head _
  have hL : s.heap.IsList ca cvs.toArray := ⟨_, (N _ (.tail _ hca)).1, rfl, _, rfl⟩
  refine take_spec w bx ca (hoff _ hca) cvs cs hi hlen k h0 hk t c u bn M hM v mean mg mb dp un gd env outer A₀ base h₀ L m s Q E hf hke hdp hun B F X T N1 hL ?_
  rintro v' s' ⟨h', tk', tl, rfl, hkp, ht, d, td, t', rfl, hd0, hdM, hm⟩
  have keep : ∀ b o, b ≠ bx → s.heap.get? b = some o → h'.get? b = some o := fun b o hb e => hkp b o (hideAll_get _ e (by simpa using hb))
  have hbx := N1 _ (.head _)
  refine h d td t' h' tk' hd0 hdM ⟨F.ns.at' fun o e => keep _ _ (Ne.symm hbx.2.1) e, fun b o e => keep b o (fun q => ?_) (F.keep b o e), F.above⟩ (fun p hp => ?_)
  · rw [q, hbx.2.2] at e
    cases e
  · rcases List.mem_cons.mp hp with rfl | hp
    · exact ⟨(ht _ hm).1, hbx.2⟩
    · exact ⟨keep _ _ (hoff _ hp) (N _ (.tail _ hp)).1, (N _ (.tail _ hp)).2⟩
end

theorem dats_ints : ∀ {vs : List Value} {ns : List Int}, IntsAre vs ns → DatAll [] vs (ns.map Dat.int)
  | _, _, .nil => .nil
  | _, _, .cons _ _ r => .cons (.int _ _) (dats_ints r)
theorem ok_ints (ns : List Int) : ∀ d ∈ ns.map Dat.int, kqdOk 8 d = true := by
  intro d hd
  obtain ⟨n, _, rfl⟩ := List.mem_map.mp hd
  rfl
theorem ok_prs (rs : List (Int × Int)) : ∀ d ∈ prs rs, kqdOk 8 d = true := by
  intro d hd
  obtain ⟨n, _, rfl⟩ := List.mem_map.mp hd
  rfl
section
variable {prog : Program} {w : World} {A : Around} {E : Value → Shared → Prop} {s : Shared} {h₀ : Heap} {L a b : Addr} {news : List (Addr × Obj)} {Q : Value → Shared → Prop}
theorem ne_prs {rs ss : List (Int × Int)} (N : News h₀ L s.heap news) (ha : DatIn news (.ref a) (.list (prs rs))) (hb : DatIn news (.ref b) (.list (prs ss))) (e : rs = ss) (hu : A.units + 64 < cLine)
    (h : Q (.bool false) s) : wpAny (model prog w) A (compareOp .NotEq (.ref a) (.ref b)) Q E s := by
  subst e
  cases ha with
  | list ha da =>
  cases hb with
  | list hb db =>
  refine kqd_ne N ha rfl rfl da (fun _ h => h) hb rfl rfl db (fun _ h => h) (ok_prs _) (ok_prs _) hu ?_
  simpa using h
theorem ne_ints {us vs : List Value} {ks ns : List Int} {ka kb : Nat} (N : News h₀ L s.heap news) (ha : (a, listOf us.toArray ka) ∈ news) (ia : IntsAre us ks) (hb : (b, listOf vs.toArray kb) ∈ news) (ib : IntsAre vs ns) (e : ks = ns) (hu : A.units + 64 < cLine)
    (h : Q (.bool false) s) : wpAny (model prog w) A (compareOp .NotEq (.ref a) (.ref b)) Q E s := by
  subst e
  refine kqd_ne N ha rfl rfl (dats_ints ia) (fun _ h => nomatch h) hb rfl rfl (dats_ints ib) (fun _ h => nomatch h) (ok_ints _) (ok_ints _) hu ?_
  simpa using h
end
end Mine
namespace Mine
open LCg (lst lst_snoc)
section
variable {h₀ h h' : Heap} {L D : Addr} {m m' : Str → Option Value} {news : List (Addr × Obj)} {o : Obj}
theorem compA_end (F : Fr h₀ L h m) (N : News h₀ L h news) (hk : ∀ b o, b ≠ L → h.get? b = some o → h'.get? b = some o) (hNs : h'.Ns L m') (hD : h'.get? D = some o) (hDn : h.get? D = none) :
    Fr h₀ L h' m' ∧ News h₀ L h' ((D, o) :: news) ∧ ∀ q ∈ news, D ≠ q.1 := by
  obtain ⟨oL, _, _, hoL, _⟩ := F.ns
  refine ⟨⟨hNs, fun b o e => hk b o (Nat.ne_of_lt (Nat.lt_of_lt_of_le (Heap.lt_size e) F.above)) (F.keep b o e), F.above⟩, fun p hp => ?_, fun q hq => fresh_ne hDn (N q hq).1⟩
  rcases List.mem_cons.mp hp with rfl | hp
  · refine ⟨hD, fresh_ne hDn hoL, ?_⟩
    cases q : h₀.get? D with
    | none => rfl
    | some o => rw [F.keep _ _ q] at hDn; cases hDn
  · exact ⟨hk _ _ (N p hp).2.1 (N p hp).1, (N p hp).2⟩
theorem comp_end (F : Fr h₀ L h m) (N : News h₀ L h news) (hk : ∀ b o, h.get? b = some o → h'.get? b = some o) (hD : h'.get? D = some o) (hDn : h.get? D = none) :
    Fr h₀ L h' m ∧ News h₀ L h' ((D, o) :: news) ∧ ∀ q ∈ news, D ≠ q.1 := by
  obtain ⟨oL, _, _, hoL, _⟩ := F.ns
  refine ⟨Fr.keeps F hk, fun p hp => ?_, fun q hq => fresh_ne hDn (N q hq).1⟩
  rcases List.mem_cons.mp hp with rfl | hp
  · refine ⟨hD, fresh_ne hDn hoL, ?_⟩
    cases q : h₀.get? D with
    | none => rfl
    | some o => rw [F.keep _ _ q] at hDn; cases hDn
  · exact ⟨hk _ _ (N p hp).1, (N p hp).2⟩
end
theorem swap2 {α : Type} {a b c : List α} : ∀ p ∈ a ++ (b ++ c), p ∈ b ++ (a ++ c) := by
  intro p hp
  simp only [List.mem_append] at hp ⊢
  rcases hp with h | h | h <;> simp [h]
def inRange (ks : List Int) (i : Nat) : List Int := ((List.range i).map fun (j : Nat) => (j : Int)).filter fun x => ks.any (· == x)
theorem inRange_succ (ks : List Int) (i : Nat) : inRange ks (i + 1) = inRange ks i ++ (if ks.any (· == (i : Int)) = true then [(i : Int)] else []) := by
  unfold inRange
  rw [List.range_succ, List.map_append, List.filter_append]
  simp only [List.map_cons, List.map_nil, List.filter_cons, List.filter_nil]
theorem inRange_len (ks : List Int) (i : Nat) : ((inRange ks i).length : Int) = (((List.range i).countP fun x : Nat => ks.any (· == (x : Int)) : Nat) : Int) := by
  unfold inRange
  rw [List.filter_map, List.length_map, ← List.countP_eq_length_filter]
  rfl
end Mine
namespace Mine
section
variable {prog : Program} {w : World} {A : Around} {E : Value → Shared → Prop} {s : Shared} {h₀ : Heap} {L a b : Addr} {news : List (Addr × Obj)} {Q : Value → Shared → Prop}
theorem ints_inj : ∀ {ks ns : List Int}, ks.map Dat.int = ns.map Dat.int → ks = ns
  | [], [], _ => rfl
  | [], _ :: _, h => nomatch h
  | _ :: _, [], h => nomatch h
  | k :: ks, n :: ns, h => by
    simp only [List.map_cons, List.cons.injEq, Dat.int.injEq] at h
    rw [h.1, ints_inj h.2]
theorem ne_intsT {us vs : List Value} {ks ns : List Int} {ka kb : Nat} (N : News h₀ L s.heap news) (ha : (a, listOf us.toArray ka) ∈ news) (ia : IntsAre us ks) (hb : (b, listOf vs.toArray kb) ∈ news) (ib : IntsAre vs ns) (e : ks ≠ ns) (hu : A.units + 64 < cLine)
    (h : Q (.bool true) s) : wpAny (model prog w) A (compareOp .NotEq (.ref a) (.ref b)) Q E s := by
  refine kqd_ne N ha rfl rfl (dats_ints ia) (fun _ h => nomatch h) hb rfl rfl (dats_ints ib) (fun _ h => nomatch h) (ok_ints _) (ok_ints _) hu ?_
  have e2 : ¬ (ks.map Dat.int = ns.map Dat.int) := fun q => e (ints_inj q)
  simpa [e2] using h
end
end Mine
namespace Mine
def LargestOut (rs : List (Int × Int)) (v : Value) : Prop := match rs with
  | [] => v = .none
  | p :: _ => ∃ t, v = .int p.2 t
theorem largest_out (w : World) (led : List (Addr × Obj)) (r : Addr) (rs : List (Int × Int)) (hrs : rs.length ≤ 1000) (hr : DatIn led (.ref r) (.list (prs rs))) : PureCall w 33 [.ref r] led (fun _ v => LargestOut rs v) := by
  cases rs with
  | nil => exact largest_spec w led r [] hrs hr
  | cons p t => exact largest_spec w led r (p :: t) hrs hr
theorem largest_law {ks : List Int} (hks : ∀ k ∈ ks, 0 ≤ k ∧ k < 25) {v : Value} (h : LargestOut (lawRanges ks) v) : (ks = [] ∧ v = .none) ∨ ∃ M t, v = .int M t ∧ M ∈ ks ∧ ∀ k ∈ ks, k ≤ M := by
  cases hrs : lawRanges ks with
  | nil => rw [hrs] at h; exact .inl ⟨nil_law hks hrs, h⟩
  | cons p rs => rw [hrs] at h; obtain ⟨t, e⟩ := h; exact .inr ⟨_, t, e, head_law hks hrs⟩
end Mine
namespace Mine
def LedPost (h₀ : Heap) (L : Addr) (m : Str → Option Value) (nx : List (Addr × Obj)) (s : Shared) (P : Value → Prop) (b : Value) (s' : Shared) : Prop :=
  ∃ h' tk', s' = { s with heap := h', toks := tk' } ∧ Fr h₀ L h' m ∧ News h₀ L h' nx ∧ P b
theorem ev_cut {prog : Program} {w : World} {A : Around} {t : Sem Value} {E : Value → Shared → Prop} {s : Shared} {h₀ : Heap} {L : Addr} {m : Str → Option Value} {nx : List (Addr × Obj)} {Q : Value → Shared → Prop}
    (F : Fr h₀ L s.heap m) (N : News h₀ L s.heap nx) (P : Value → Prop) (h1 : Fr h₀ L s.heap m → News h₀ L s.heap nx → wpAny (model prog w) A t (LedPost h₀ L m nx s P) E s)
    (h2 : ∀ b h' tk', Fr h₀ L h' m → News h₀ L h' nx → P b → Q b { s with heap := h', toks := tk' }) : wpAny (model prog w) A t Q E s :=
  wpAny_mono (h1 F N) (fun b s' ⟨h', tk', e, F', N', p⟩ => e ▸ h2 b h' tk' F' N' p) fun _ _ e => e
end Mine
namespace Mine
theorem filter_succ (f : Int → Bool) {ks : List Int} {i : Nat} (h : i < ks.length) : (ks.take (i + 1)).filter f = (ks.take i).filter f ++ (if f ks[i] = true then [ks[i]] else []) := by
  rw [List.take_add_one, List.getElem?_eq_getElem h]
  simp only [Option.toList_some, List.filter_append, List.filter_cons, List.filter_nil]
end Mine
namespace Mine
theorem compM_end {h₀ h h' : Heap} {L D bx : Addr} {m m' : Str → Option Value} {rest : List (Addr × Obj)} {o ob ob' : Obj} (F : Fr h₀ L h m) (N : News h₀ L h ((bx, ob) :: rest)) (hoff : ∀ p ∈ rest, p.1 ≠ bx)
    (hk : ∀ b o, b ≠ L → b ≠ bx → h.get? b = some o → h'.get? b = some o) (hNs : h'.Ns L m') (hbx : h'.get? bx = some ob') (hD : h'.get? D = some o) (hDn : h.get? D = none) :
    Fr h₀ L h' m' ∧ News h₀ L h' ((D, o) :: (bx, ob') :: rest) ∧ ∀ q ∈ (bx, ob) :: rest, D ≠ q.1 := by
  obtain ⟨oL, _, _, hoL, _⟩ := F.ns
  have hb := N _ (.head _)
  refine ⟨⟨hNs, fun b o e => hk b o (Nat.ne_of_lt (Nat.lt_of_lt_of_le (Heap.lt_size e) F.above)) (fun q => ?_) (F.keep b o e), F.above⟩, fun p hp => ?_, fun q hq => fresh_ne hDn (N q hq).1⟩
  · rw [q, hb.2.2] at e
    cases e
  · rcases List.mem_cons.mp hp with rfl | hp
    · refine ⟨hD, fresh_ne hDn hoL, ?_⟩
      cases q : h₀.get? D with
      | none => rfl
      | some o => rw [F.keep _ _ q] at hDn; cases hDn
    · rcases List.mem_cons.mp hp with rfl | hp
      · exact ⟨hbx, hb.2⟩
      · have z := N p (.tail _ hp)
        exact ⟨hk _ _ z.2.1 (hoff _ hp) z.1, z.2⟩
end Mine
namespace Mine
theorem off7 {bx kp c3 c1 c2 c4 ca : Nat} {ok o3 o1 o2 o4 oc : Obj} {tl : List (Addr × Obj)} {G : Prop} {h₀ h : Heap} {L : Addr} {obb : Obj} (N9 : News h₀ L h ((bx, obb) :: (kp, ok) :: (c3, o3) :: (c1, o1) :: (c2, o2) :: (c4, o4) :: (ca, oc) :: tl)) (ob : ∀ p ∈ tl, p.1 ≠ bx) (h1 : kp ≠ bx) (h2 : c3 ≠ bx) (h3 : c1 ≠ bx) (h4 : c2 ≠ bx) (h5 : c4 ≠ bx) (h6 : ca ≠ bx)
    (g : (∀ p ∈ (kp, ok) :: (c3, o3) :: (c1, o1) :: (c2, o2) :: (c4, o4) :: (ca, oc) :: tl, p.1 ≠ bx) → G) : G := g fun p hp => by
  simp only [List.mem_cons] at hp
  rcases hp with h | h | h | h | h | h | h
  · rw [h]; exact h1
  · rw [h]; exact h2
  · rw [h]; exact h3
  · rw [h]; exact h4
  · rw [h]; exact h5
  · rw [h]; exact h6
  · exact ob p h
end Mine
namespace Mine
theorem sorted_same {a b : List Int} (h : a.Perm b) (ha : a.Pairwise (· ≤ ·)) (hb : b.Pairwise (· ≤ ·)) : a = b :=
  List.Perm.eq_of_pairwise (fun _ _ _ _ h1 h2 => Int.le_antisymm h1 h2) ha hb h
end Mine
namespace Mine
open LCg (lst lst_snoc)
def isBoxy (o : Obj) : Bool := match o.data with
  | .seq a _ => match a.toList with
    | [.ref _, .int _ _, .int _ _] => true
    | _ => false
  | _ => false
theorem take_P {w : World} {A₀ : Around} {base h₀ : Heap} {L : Addr} {m mg mb : Str → Option Value} {mean : ExcName → Option Value} {dp un : Nat} {gd : Option (List Code)} {env : Env} {outer : List Env} {s : Shared} {Q E : Value → Shared → Prop} {pre rest : List (Addr × Obj)} {bx ca : Nat} {cvs : List Value} {cs : List Int} {k c M : Int} {t u v : Tok} {bn : Nat}
    (hf : env.frame = some L) (hke : env.scope.kind = .function) (hdp : dp + 10 < recursionLimit) (hun : un + 60 < cLine)
    (B : Below A₀ base outer h₀) (F : Fr h₀ L s.heap m) (X : (hd.heap_39 w.params).In h₀) (T : Top hd.view_39 (looseW hd.view_39 []) mean mg mb h₀)
    (N : News h₀ L s.heap (pre ++ (bx, boxObj ca k t c u bn) :: rest)) (hp : (pre.all fun p => !isBoxy p.2) = true) (hoff : ∀ p ∈ rest, p.1 ≠ bx) (hca : (ca, lst cvs) ∈ rest) (hi : IntsAre cvs cs) (hlen : cs.length ≤ 100) (h0 : 0 ≤ k) (hk : k < 1000000) (hM : 0 < M)
    (h : ∀ d td t' h' tk', 0 ≤ d → d < M → Fr h₀ L h' m → News h₀ L h' (pre ++ (bx, boxObj ca (k + 1) t' c u bn) :: rest) → Q (.int d td) { s with heap := h', toks := tk' }) :
    wpAny (model PySem.Challenge.rw_no0041_01.row.prog w) (arnd dp un gd env outer) (call (.ref 74) [.ref bx, .int M v]) Q E s := by
  have hpre : ∀ p ∈ pre, p.1 ≠ bx := fun p hm e => by
    have h1 := (N p (List.mem_append_left _ hm)).1
    have h2 := (N (bx, boxObj ca k t c u bn) (List.mem_append_right _ (.head _))).1
    rw [e] at h1
    have h3 := List.all_eq_true.mp hp p hm
    rw [Option.some.inj (h1.symm.trans h2)] at h3
    cases h3
  have N2 : News h₀ L s.heap ((bx, boxObj ca k t c u bn) :: (pre ++ rest)) := news_sub N (swap2 (a := [_]) (b := pre) (c := rest))
  refine take_L hf hke hdp hun B F X T N2 (fun p hm => (List.mem_append.mp hm).elim (hpre p) (hoff p)) (List.mem_append_right _ hca) hi hlen h0 hk hM ?_
  intro d td t' h' tk' a b F' N'
  exact h d td t' h' tk' a b F' (news_sub N' (swap2 (a := pre) (b := [_]) (c := rest)))
end Mine
namespace Mine
theorem bad_pick {g h : Heap} {L D a0 a1 a2 a3 a4 : Addr} {more : List (Addr × Obj)} {ix : Int} {r0 r1 r2 r3 r4 : List (Int × Int)} {G : Prop}
    (N : News g L h ((D, W.listOf #[.ref a0, .ref a1, .ref a2, .ref a3, .ref a4] 0) :: more)) (h0 : 0 ≤ ix) (h5 : ix < 5)
    (d0 : DatIn more (.ref a0) (.list (prs r0))) (d1 : DatIn more (.ref a1) (.list (prs r1))) (d2 : DatIn more (.ref a2) (.list (prs r2))) (d3 : DatIn more (.ref a3) (.list (prs r3))) (d4 : DatIn more (.ref a4) (.list (prs r4)))
    (e : (r0.length ≤ 1000 ∧ r1.length ≤ 1000 ∧ r2.length ≤ 1000 ∧ r3.length ≤ 1000 ∧ r4.length ≤ 1000) ∧ rightAll r0 = false ∧ rightAll r1 = false ∧ rightAll r2 = false ∧ rightAll r3 = false ∧ rightAll r4 = false)
    (q : ∀ a rs, h.IsList D [Value.ref a0, .ref a1, .ref a2, .ref a3, .ref a4].toArray → ([Value.ref a0, .ref a1, .ref a2, .ref a3, .ref a4])[ix.toNat]? = some (.ref a) → rs.length ≤ 1000 → rightAll rs = false → DatIn more (.ref a) (.list (prs rs)) → G) : G := by
  have hl : h.IsList D [Value.ref a0, .ref a1, .ref a2, .ref a3, .ref a4].toArray := ⟨_, (N _ (.head _)).1, rfl, _, rfl⟩
  obtain ⟨⟨l0, l1, l2, l3, l4⟩, e0, e1, e2, e3, e4⟩ := e
  have : ix = 0 ∨ ix = 1 ∨ ix = 2 ∨ ix = 3 ∨ ix = 4 := by omega
  rcases this with rfl | rfl | rfl | rfl | rfl
  · exact q a0 r0 hl rfl l0 e0 d0
  · exact q a1 r1 hl rfl l1 e1 d1
  · exact q a2 r2 hl rfl l2 e2 d2
  · exact q a3 r3 hl rfl l3 e3 d3
  · exact q a4 r4 hl rfl l4 e4 d4
theorem bads : (([((5 : Int), (4 : Int))] : List (Int × Int)).length ≤ 1000 ∧ ([((1 : Int), (2 : Int)), (3, 4)] : List (Int × Int)).length ≤ 1000 ∧ ([((5 : Int), (6 : Int)), (3, 4)] : List (Int × Int)).length ≤ 1000 ∧ ([((-1 : Int), (3 : Int))] : List (Int × Int)).length ≤ 1000 ∧ ([((5 : Int), (9 : Int)), (3, 6)] : List (Int × Int)).length ≤ 1000) ∧
    rightAll [(5, 4)] = false ∧ rightAll [(1, 2), (3, 4)] = false ∧ rightAll [(5, 6), (3, 4)] = false ∧ rightAll [(-1, 3)] = false ∧ rightAll [(5, 9), (3, 6)] = false := by decide
end Mine
namespace Mine
open LCg (lst lst_snoc)
theorem name10 {g h : Heap} {L D rr kp bx ca ws c4 c3 c2 c1 : Nat} {oD orr okp oca ows o4 o3 o2 o1 : Obj} {k c : Int} {t u : Tok}
    (N : News g L h [(D, oD), (rr, orr), (kp, okp), (bx, W.listOf #[.ref ca, .int k t, .int c u] 0), (ca, oca), (ws, ows), (c4, o4), (c3, o3), (c2, o2), (c1, o1)]) {G : Prop}
    (q : ∀ (D' rr' kp' bx' ca' ws' : Nat) (o4' o3' o2' o1' : Obj) (t' u' : Tok) (c' : Int), D' = D → rr' = rr → kp' = kp → bx' = bx → ca' = ca → ws' = ws → o4' = o4 → o3' = o3 → o2' = o2 → o1' = o1 → t' = t → u' = u → c' = c → G) : G :=
  q D rr kp bx ca ws o4 o3 o2 o1 t u c rfl rfl rfl rfl rfl rfl rfl rfl rfl rfl rfl rfl rfl

structure Keys (L bx kp ca : Nat) : Prop where
  b : L + 1 + 1 + 1 + 1 < bx
  k : bx < kp
  c : L + 1 + 1 + 1 + 1 ≠ ca ∧ L + 1 + 1 + 1 ≠ ca ∧ L + 1 + 1 ≠ ca ∧ L + 1 ≠ ca
  cb : ca < bx

structure LJ (L bx kp ca : Nat) (cvs : List Value) (c : Int) (u : Tok) (bn i : Nat) (m : Str → Option Value) (nx : List (Addr × Obj)) (t : Tok) (kvs : List Value) (ks : List Int) (kn : Nat) (o1 o2 o3 o4 : Obj) (rr : Nat) (tl : List (Addr × Obj)) : Prop where
  nx : nx = (bx, boxObj ca ((i : Int) + 1) t c u bn) :: (kp, W.listOf kvs.toArray kn) :: (L + 1 + 1 + 1, o3) :: (L + 1, o1) :: (L + 1 + 1, o2) :: (L + 1 + 1 + 1 + 1, o4) :: (ca, lst cvs) :: tl
  offb : ∀ p ∈ tl, p.1 ≠ bx
  offk : ∀ p ∈ tl, p.1 ≠ kp
  off3 : ∀ p ∈ tl, p.1 ≠ L + 1 + 1 + 1
  off4 : ∀ p ∈ tl, p.1 ≠ L + 1 + 1 + 1 + 1
  d1 : o1.data = .cell (some (.ref bx))
  d2 : o2.data = .cell (some (.ref kp))
  d3 : o3.data = .cell (some (.ref rr))
  d4 : o4.data = .cell none
  ik : IntsAre kvs ks
  len : ks.length = i
  low : ∀ x ∈ ks, 0 ≤ x ∧ x < 25
  dat : DatIn tl (.ref rr) (.list (prs (lawRanges ks)))
def LJx (L bx kp ca : Nat) (cvs : List Value) (c : Int) (u : Tok) (bn i : Nat) (m : Str → Option Value) (nx : List (Addr × Obj)) : Prop :=
  ∃ t kvs ks kn o1 o2 o3 o4 rr tl, LJ L bx kp ca cvs c u bn i m nx t kvs ks kn o1 o2 o3 o4 rr tl
theorem off_more {a : Addr} {tl own pre : List (Addr × Obj)} (h1 : ∀ p ∈ tl, p.1 ≠ a) (h : OwnOff own ((pre ++ tl).map (·.1))) (hm : a ∈ pre.map (·.1)) : ∀ p ∈ tl ++ own, p.1 ≠ a := fun p hp =>
  (List.mem_append.mp hp).elim (h1 p) fun hp => h p hp a (by simp only [List.map_append, List.mem_append]; exact .inl hm)
theorem swap1 {α : Type} {x : α} {a b c : List α} : ∀ p ∈ a ++ (b ++ x :: c), p ∈ b ++ (x :: (a ++ c)) := by
  intro p hp
  simp only [List.mem_append, List.mem_cons] at hp ⊢
  rcases hp with h | h | h | h <;> simp [h]
theorem off_add {a D : Addr} {o o' : Obj} {tl2 rest all : List (Addr × Obj)} (h0 : ∀ p ∈ rest, p.1 ≠ a) (hD : @LT.lt Nat _ a D) (hm : (a, o') ∈ all) (h2 : ∀ p ∈ tl2, ∀ q ∈ all, p.1 ≠ q.1) : ∀ p ∈ tl2 ++ (D, o) :: rest, p.1 ≠ a := fun p hp => by
  rcases List.mem_append.mp hp with h | h
  · exact h2 p h _ hm
  · rcases List.mem_cons.mp h with rfl | h
    · exact Nat.ne_of_gt hD
    · exact h0 p h
theorem mem7 {α : Type} {p a b c d e f g : α} {ts : List α} (h : p ∈ ts) : p ∈ a :: b :: c :: d :: e :: f :: g :: ts := List.mem_append_right [a, b, c, d, e, f, g] h
theorem mem8 {p a b c d e f g i : Addr × Obj} {tl own : List (Addr × Obj)} (h : p ∈ own) : p ∈ i :: a :: b :: c :: d :: e :: f :: g :: (tl ++ own) := List.mem_append_right [i, a, b, c, d, e, f, g] (List.mem_append_right _ h)
theorem own_off {pre tl own tl2 : List (Addr × Obj)} {pre' : List (Addr × Obj)} (h : OwnOff own ((pre ++ tl).map (·.1))) (h2 : ∀ p ∈ tl2, ∀ q ∈ own, p.1 ≠ q.1) (e : pre'.map (·.1) = pre.map (·.1) := by rfl) : OwnOff own ((pre' ++ (tl2 ++ tl)).map (·.1)) := by
  intro p hp b hb
  simp only [List.map_append, List.mem_append, e] at hb
  rcases hb with hb | hb | hb
  · exact h p hp b (by simp only [List.map_append, List.mem_append]; exact .inl hb)
  · obtain ⟨q, hq, rfl⟩ := List.mem_map.mp hb
    exact Ne.symm (h2 q hq p hp)
  · exact h p hp b (by simp only [List.map_append, List.mem_append]; exact .inr hb)
theorem sub_end {pre tl ts : List (Addr × Obj)} (h : ∀ p ∈ tl, p ∈ ts) : ∀ p ∈ pre ++ tl, p ∈ pre ++ ts := fun p hp => (List.mem_append.mp hp).elim (fun h => List.mem_append_left _ h) fun q => List.mem_append_right _ (h p q)
theorem ref_of {led : List (Addr × Obj)} {v : Value} {ds : List Dat} (h : DatIn led v (.list ds)) : ∃ a, v = .ref a := by
  cases h with
  | list _ _ => exact ⟨_, rfl⟩
theorem keys_name {L bx kp ca : Nat} (h : Keys L bx kp ca) {G : Prop} (q : ∀ bx' kp' ca' : Nat, bx' = bx → kp' = kp → ca' = ca → G) : G := q _ _ _ rfl rfl rfl
theorem mem8a {α : Type} {p a b c d e f g i : α} {ts : List α} (h : p ∈ ts) : p ∈ a :: b :: c :: d :: e :: f :: g :: i :: ts := List.mem_append_right [a, b, c, d, e, f, g, i] h
theorem drop8 {α : Type} {x : α} {a c : List α} : ∀ p ∈ a ++ c, p ∈ a ++ (x :: c) := fun p hp => (List.mem_append.mp hp).elim (fun h => List.mem_append_left _ h) fun h => List.mem_append_right _ (List.mem_cons_of_mem _ h)
theorem hu64 : 7 + 64 < cLine := by decide
theorem fst_ne_cons {a D : Addr} {o : Obj} {tl : List (Addr × Obj)} (h : D ≠ a) (ob : ∀ p ∈ tl, p.1 ≠ a) : ∀ p ∈ (D, o) :: tl, p.1 ≠ a := fun p hp => by
  rcases List.mem_cons.mp hp with rfl | hp
  · exact h
  · exact ob p hp
theorem drops {α : Type} {a b c : List α} : ∀ p ∈ a ++ c, p ∈ a ++ (b ++ c) := fun p hp => (List.mem_append.mp hp).elim (fun h => List.mem_append_left _ h) fun h => List.mem_append_right _ (List.mem_append_right _ h)
inductive LawMark : Prop where
  | here
inductive LitMark : Prop where
  | here
local macro_rules | `(tactic| k_all) => `(tactic| ((have hMm : LawMark := by assumption); (clear hMm); assumption))
local macro_rules | `(tactic| size_fits) => `(tactic| ((have hMm : LawMark := by assumption); (clear hMm); assumption))
local macro_rules | `(tactic| walk_at "pyIter ref") => `(tactic| ((have hMm : LawMark := by assumption); (clear hMm); refine halt_of ?_))
local macro_rules | `(tactic| walk_at "exec Assign cons ListComp") => `(tactic| ((have hMm : LawMark := by assumption); (clear hMm); refine halt_of ?_))
local macro_rules | `(tactic| walk_at "eval ListComp") => `(tactic| ((have hMm : LawMark := by assumption); (clear hMm); refine halt_of ?_))
local macro_rules | `(tactic| walk_at "call ref") => `(tactic| first | ((have hMm : LawMark := by assumption); (clear hMm); refine halt_of ?_) | ((show wpAny _ _ (call (Value.ref 74) _ _) _ _ _); refine halt_of ?_))
local macro_rules | `(tactic| walk_at "call type:list") => `(tactic| ((have hMm : LawMark := by assumption); (clear hMm); refine halt_of ?_))
local macro_rules | `(tactic| walk_at "compareOp In int ref") => `(tactic| ((have hMm : LawMark := by assumption); (clear hMm); refine halt_of ?_))
local macro_rules | `(tactic| walk_at "compareOp NotEq ref ref") => `(tactic| ((have hMm : LawMark := by assumption); (clear hMm); refine halt_of ?_))
local macro_rules | `(tactic| walk_at "call builtin:max") => `(tactic| ((have hMm : LawMark := by assumption); (clear hMm); refine halt_of ?_))
local macro_rules | `(tactic| walk_at "call builtin:sorted") => `(tactic| ((have hMm : LawMark := by assumption); (clear hMm); refine halt_of ?_))
local macro_rules | `(tactic| walk_at "newTuple") => `(tactic| ((have hMm : LitMark := by assumption); (clear hMm); k_dflt (refine' kup_newTuple ?F ?N ?_ ?z; (case F => k_asm); (case N => k_asm); (case z => exact Nat.le_of_ble_eq_true rfl)); intro D' h' F' N' l1; clear l1; (try k_sweep)))
local macro_rules | `(tactic| walk_at "eval Tuple") => `(tactic| ((have hMm : LitMark := by assumption); (clear hMm); refine Tuple_ ?_))
local macro_rules | `(tactic| walk_at "newList") => `(tactic| ((have hMm : LitMark := by assumption); (clear hMm); k_dflt (refine' newList_K ?F ?N ?_ ?z; (case F => k_asm); (case N => k_asm); (case z => exact Nat.le_of_ble_eq_true rfl)); intro D' h' F' N' l1; clear l1; (try k_sweep)))
local macro_rules | `(tactic| walk_at "eval Name") => `(tactic| ((have hMm : LawMark := by assumption); (clear hMm); (with_reducible show wpAny _ _ (eval _ (compEnvC _ _ _ _)) _ _ _); k_dflt (first
  | (refine' nameB_L ?n ?v ?_ ?a ?b ?c; (case n => assumption); (case v => rfl); (case a => rfl); (case b => rfl); (case c => decide))
  | (refine' nameB_C ?n ?v ?_ ?a ?b ?c; (case n => assumption); (case v => rfl); (case a => rfl); (case b => rfl); (case c => decide))
  | (refine' nameB_B ?F ?X ?T ?e ?v ?n ?_ ?g1 ?g2 ?a ?b ?c; (case F => assumption); (case X => k_asm); (case T => k_asm); (case e => k_is); (case v => boot_fast); (case n => decide); (case g1 => rfl); (case g2 => rfl); (case a => rfl); (case b => rfl); (case c => decide))
  | (refine' nameB_G ?F ?X ?T ?e ?_ ?g1 ?a ?b ?c; (case F => assumption); (case X => k_asm); (case T => k_asm); (case e => k_is); (case g1 => rfl); (case a => rfl); (case b => rfl); (case c => decide)))))
structure CutHyp (P : Prop) : Prop where
  out : P
structure Cut (X : Prop) where
  P : Prop
  go : CutHyp P → X
structure CutB (X : Prop) where
  P : Prop
  R : Prop
  go : CutHyp P → CutHyp R → X
theorem Cut.run {X : Prop} (c : Cut X) (h : c.P) : X := c.go ⟨h⟩
theorem CutB.run {X : Prop} (c : CutB X) (h : c.P) (k : c.R) : X := c.go ⟨h⟩ ⟨k⟩
set_option maxHeartbeats 16000000 in
noncomputable def cut1 : Cut PySem.Challenge.rw_no0041_01.Holds := by
  apply Cut.mk
  intro hCut
  exact hd (by
    w_strict (w_top off; k_go0; (all_goals try k_fold); k_steps
              unfold Halt
              rename Fr _ _ _ _ => F9
              rename News _ _ _ _ => N9
              rename IntsAre _ (List.map _ _) => iC
              rename _ ∧ _ => lA
              have T9 := topFor F9 (by assumption)
              have X9 := kFor F9 (by assumption)
              -- ck1
              rename_i ck1v0 ck1v1 ck1v2 ck1v3 ck1v4 ck1v5 ck1v6 ck1v7 ck1v8 ck1v9 ck1v10 ck1v11 ck1v12 ck1v13 ck1v14 ck1v15 ck1v16 ck1v17 ck1v18 ck1v19 ck1v20 ck1v21 ck1v22 ck1v23 ck1v24 ck1v25 ck1v26 ck1v27 ck1v28 ck1v29 ck1v30 ck1v31 ck1v32 ck1v33 ck1v34 ck1v35 ck1v36 ck1v37 ck1v38 ck1v39 ck1v40 ck1v41 ck1v42 ck1v43 ck1v44 ck1v45 ck1v46 ck1v47 ck1v48 ck1v49 ck1v50 ck1v51 ck1v52 ck1v53 ck1v54 ck1v55 ck1v56 ck1v57 ck1v58 ck1v59 ck1v60 ck1v61 ck1v62 ck1v63 ck1v64 ck1v65 ck1v66 ck1v67 ck1v68 ck1v69 ck1v70 ck1v71 ck1v72 ck1v73 ck1v74 ck1v75 ck1v76 ck1v77 ck1v78 ck1v79 ck1v80 ck1v81 ck1v82 ck1v83 ck1v84 ck1v85 ck1v86 ck1v87 ck1v88 ck1v89 ck1v90 ck1v91 ck1v92 ck1v93 ck1v94 ck1v95 ck1v96 ck1v97 ck1v98 ck1v99 ck1v100 ck1v101 ck1v102 ck1v103 ck1v104 ck1v105 ck1v106 ck1v107 ck1v108 ck1v109 ck1v110 ck1v111 ck1v112 ck1v113 ck1v114 ck1v115 ck1v116
              revert ck1v0 ck1v1 ck1v2 ck1v3 ck1v4 ck1v5 ck1v6 ck1v7 ck1v8 ck1v9 ck1v10 ck1v11 ck1v12 ck1v13 ck1v14 ck1v15 ck1v16 ck1v17 ck1v18 ck1v19 ck1v20 ck1v21 ck1v22 ck1v23 ck1v24 ck1v25 ck1v26 ck1v27 ck1v28 ck1v29 ck1v30 ck1v31 ck1v32 ck1v33 ck1v34 ck1v35 ck1v36 ck1v37 ck1v38 ck1v39 ck1v40 ck1v41 ck1v42 ck1v43 ck1v44 ck1v45 ck1v46 ck1v47 ck1v48 ck1v49 ck1v50 ck1v51 ck1v52 ck1v53 ck1v54 ck1v55 ck1v56 ck1v57 ck1v58 ck1v59 ck1v60 ck1v61 ck1v62 ck1v63 ck1v64 ck1v65 ck1v66 ck1v67 ck1v68 ck1v69 ck1v70 ck1v71 ck1v72 ck1v73 ck1v74 ck1v75 ck1v76 ck1v77 ck1v78 ck1v79 ck1v80 ck1v81 ck1v82 ck1v83 ck1v84 ck1v85 ck1v86 ck1v87 ck1v88 ck1v89 ck1v90 ck1v91 ck1v92 ck1v93 ck1v94 ck1v95 ck1v96 ck1v97 ck1v98 ck1v99 ck1v100 ck1v101 ck1v102 ck1v103 ck1v104 ck1v105 ck1v106 ck1v107 ck1v108 ck1v109 ck1v110 ck1v111 ck1v112 ck1v113 ck1v114 ck1v115 ck1v116 lifted qk ek ys iC lA F9 N9 tk T9 X9
              exact hCut.out))
set_option maxHeartbeats 16000000 in
noncomputable def cut2 : CutB cut1.P := by
  apply CutB.mk
  intro hCut hCut2
  w_top off
  intro zz
  revert zz
  k_fill
  intro zz ck1v1 ck1v2 ck1v3 ck1v4 ck1v5 ck1v6 ck1v7 ck1v8 ck1v9 ck1v10 ck1v11 ck1v12 ck1v13 ck1v14 ck1v15 ck1v16 ck1v17 ck1v18 ck1v19 ck1v20 ck1v21 ck1v22 ck1v23 ck1v24 ck1v25 ck1v26 ck1v27 ck1v28 ck1v29 ck1v30 ck1v31 ck1v32 ck1v33 ck1v34 ck1v35 ck1v36 ck1v37 ck1v38 ck1v39 ck1v40 ck1v41 ck1v42 ck1v43 ck1v44 ck1v45 ck1v46 ck1v47 ck1v48 ck1v49 ck1v50 ck1v51 ck1v52 ck1v53 ck1v54 ck1v55 ck1v56 ck1v57 ck1v58 ck1v59 ck1v60 ck1v61 ck1v62 ck1v63 ck1v64 ck1v65 ck1v66 ck1v67 ck1v68 ck1v69 ck1v70 ck1v71 lifted qk ek ck1v72 ck1v73 ck1v74 ck1v75 ck1v76 ck1v77 ck1v78 ck1v79 ck1v80 ck1v81 ck1v82 ys iC ck1v83 ck1v84 ck1v85 ck1v86 ck1v87 ck1v88 ck1v89 ck1v90 ck1v91 ck1v92 ck1v93 ck1v94 ck1v95 ck1v96 ck1v97 ck1v98 ck1v99 ck1v100 ck1v101 ck1v102 ck1v103 ck1v104 ck1v105 ck1v106 ck1v107 ck1v108 ck1v109 lA ck1v110 ck1v111 ck1v112 ck1v113 ck1v114 ck1v115 F9 N9 ck1v116 tk T9 X9
  have hMark : LawMark := .here
  rename Fr _ _ _ _ => F9
  rename News _ _ _ _ => N9
  rename IntsAre _ (List.map _ _) => iC
  rename _ ∧ _ => lA
  rename Top _ _ _ _ _ (Top.heap _) => T9
  rename Frag.In _ (Top.heap _) => X9
  rename Below _ _ [] _ => K0
  rename List Value => ys
  rename Shared => s1
  have hclen : ∀ (f : Int → Int) (l : List Int), ((l.take 24).map f).length ≤ 100 := fun f l => by simp only [List.length_map, List.length_take]; omega
  refine name10 N9 fun D rr kp bx ca ws o4 o3 o2 o1 t0 u0 c0 e1 e2 e3 e4 e5 e6 e7 e8 e9 e10 e11 e12 e13 => ?_
  subst e1 e2 e3 e4 e5 e6 e7 e8 e9 e10
  rw [← e11, ← e12, ← e13] at N9
  rename o1.data = _ => d1
  rename o2.data = _ => d2
  rename o3.data = _ => d3
  have d4 : o4.data = .cell none := by assumption
  have hK : Keys s1.heap.objs.size bx kp ca := ⟨by omega, by omega, ⟨neN (by omega), neN (by omega), neN (by omega), neN (by omega)⟩, by omega⟩
  have N9' : News _ _ _ ((bx, boxObj ca 0 t0 c0 u0 0) :: (kp, W.listOf #[] 0) :: (s1.heap.objs.size + 1 + 1 + 1, o3) :: (s1.heap.objs.size + 1, o1) :: (s1.heap.objs.size + 1 + 1, o2) :: (s1.heap.objs.size + 1 + 1 + 1 + 1, o4) :: (ca, lst ys) :: (rr, W.listOf #[] 0) :: []) := news_sub N9 fun p hp => by
    simp only [List.mem_cons, List.not_mem_nil, or_false] at hp ⊢
    simp only [boxObj] at hp
    rcases hp with h | h | h | h | h | h | h | h <;> simp [h]
  refine take_L (dp := 302) (un := 7) (gd := some []) (outer := []) (cvs := ys) (ca := ca) rfl rfl (by decide) (by decide) K0 F9 X9 T9 N9' ?_ (by simp) iC (hclen _ _) (by decide) (by decide) (by decide) fun d td t' h' tk' hd0 hdM F1 N1 => ?_
  · intro p hp
    simp only [List.mem_cons, List.not_mem_nil, or_false] at hp
    have := hK.b
    have := hK.k
    have := hK.cb
    rcases hp with h | h | h | h | h | h | h <;> (rw [h]; dsimp only; refine neN ?_; omega)
  clear N9 N9' F9
  k_steps
  unfold Halt
  rename IsRange _ _ _ _ _ _ _ _ => hR
  rename Fr _ _ _ _ => F2
  rename News _ _ _ _ => N2
  refine loop_range (n := d.toNat) (LJx s1.heap.objs.size bx kp ca ys c0 u0 0) rfl hR (small_one (by decide) (by decide) (by omega) (by omega)) (by rw [rangeSize_nat]; simp) F2 N2
    ⟨t', [], [], 0, o1, o2, o3, o4, rr, [(rr, W.listOf #[] 0)], rfl, ?_, ?_, ?_, ?_, d1, d2, d3, d4, .nil, rfl, (fun _ h => nomatch h), .list (.head _) .nil⟩ ?_ ?_
  · intro p hp; rw [List.mem_singleton.mp hp]; have := hK.k; refine neN ?_; dsimp only; omega
  · intro p hp; rw [List.mem_singleton.mp hp]; refine neN ?_; dsimp only; omega
  · intro p hp; rw [List.mem_singleton.mp hp]; refine neN ?_; dsimp only; omega
  · intro p hp; rw [List.mem_singleton.mp hp]; refine neN ?_; dsimp only; omega
  · clear d1 d2 d3 d4 F2 N2 hR
    -- ckTurn
    rename_i ckTurnv0 ckTurnv1 ckTurnv2 ckTurnv3 ckTurnv4 ckTurnv5 ckTurnv6 ckTurnv7
    revert ckTurnv0 ckTurnv1 ckTurnv2 ckTurnv3 ckTurnv4 ckTurnv5 ckTurnv6 ckTurnv7 zz ck1v1 s1 ck1v3 ck1v4 ck1v5 ck1v6 ck1v7 ck1v8 ck1v9 ck1v10 ck1v11 ck1v12 ck1v13 ck1v14 ck1v15 ck1v16 ck1v17 ck1v18 ck1v19 ck1v20 ck1v21 ck1v22 ck1v23 ck1v24 ck1v25 ck1v26 ck1v27 ck1v28 ck1v29 ck1v30 ck1v31 ck1v32 ck1v33 ck1v34 ck1v35 ck1v36 ck1v37 ck1v38 ck1v39 ck1v40 ck1v41 ck1v42 ck1v43 ck1v44 ck1v45 K0 ck1v47 ck1v48 ck1v49 ck1v50 ck1v52 ck1v53 ck1v54 ck1v56 ck1v57 ck1v58 ck1v61 ck1v62 ck1v63 ck1v64 ck1v65 ck1v66 ck1v67 ck1v68 ck1v69 ck1v70 ck1v71 lifted qk ek ck1v72 ck1v74 ck1v75 ck1v76 ck1v77 ck1v78 ck1v80 ck1v81 ck1v82 ys iC ck1v83 ck1v85 ck1v86 ck1v88 ck1v89 ck1v90 ck1v92 ck1v96 ck1v97 ck1v98 ck1v101 ck1v103 ck1v106 ck1v109 ck1v110 ck1v111 ck1v114 tk T9 X9 hMark hclen D rr kp bx ca ws o4 o3 o2 o1 t0 u0 c0 e11 e12 e13 ck1v93 ck1v79 ck1v87 ck1v95 ck1v104 ck1v107 lA ck1v55 ck1v59 ck1v60 ck1v94 hK d td t' h' tk' hd0 hdM
    exact hCut.out
  · clear d1 d2 d3 d4 F2 N2 hR
    -- ckDone
    rename_i ckDonev0 ckDonev1 ckDonev2 ckDonev3 ckDonev4 ckDonev5 ckDonev6 ckDonev7
    revert ckDonev0 ckDonev1 ckDonev2 ckDonev3 ckDonev4 ckDonev5 ckDonev6 ckDonev7 zz ck1v1 s1 ck1v3 ck1v4 ck1v5 ck1v6 ck1v7 ck1v8 ck1v9 ck1v10 ck1v11 ck1v12 ck1v13 ck1v14 ck1v15 ck1v16 ck1v17 ck1v18 ck1v19 ck1v20 ck1v21 ck1v22 ck1v23 ck1v24 ck1v25 ck1v26 ck1v27 ck1v28 ck1v29 ck1v30 ck1v31 ck1v32 ck1v33 ck1v34 ck1v35 ck1v36 ck1v37 ck1v38 ck1v39 ck1v40 ck1v41 ck1v42 ck1v43 ck1v44 ck1v45 K0 ck1v47 ck1v48 ck1v49 ck1v50 ck1v52 ck1v53 ck1v54 ck1v56 ck1v57 ck1v58 ck1v61 ck1v62 ck1v63 ck1v64 ck1v65 ck1v66 ck1v67 ck1v68 ck1v69 ck1v70 ck1v71 lifted qk ek ck1v72 ck1v74 ck1v75 ck1v76 ck1v77 ck1v78 ck1v80 ck1v81 ck1v82 ys iC ck1v83 ck1v85 ck1v86 ck1v88 ck1v89 ck1v90 ck1v92 ck1v96 ck1v97 ck1v98 ck1v101 ck1v103 ck1v106 ck1v109 ck1v110 ck1v111 ck1v114 tk T9 X9 hMark hclen D rr kp bx ca ws o4 o3 o2 o1 t0 u0 c0 e11 e12 e13 ck1v93 ck1v79 ck1v87 ck1v95 ck1v104 ck1v107 lA ck1v55 ck1v59 ck1v60 ck1v94 hK d td t' h' tk' hd0 hdM
    exact hCut2.out
set_option maxHeartbeats 16000000 in
theorem law_turn : cut2.P := by
  w_top off
  intro zz
  revert zz
  k_fill
  intro zz ck1v1 s1 ck1v3 ck1v4 ck1v5 ck1v6 ck1v7 ck1v8 ck1v9 ck1v10 ck1v11 ck1v12 ck1v13 ck1v14 ck1v15 ck1v16 ck1v17 ck1v18 ck1v19 ck1v20 ck1v21 ck1v22 ck1v23 ck1v24 ck1v25 ck1v26 ck1v27 ck1v28 ck1v29 ck1v30 ck1v31 ck1v32 ck1v33 ck1v34 ck1v35 ck1v36 ck1v37 ck1v38 ck1v39 ck1v40 ck1v41 ck1v42 ck1v43 ck1v44 ck1v45 K0 ck1v47 ck1v48 ck1v49 ck1v50 ck1v52 ck1v53 ck1v54 ck1v56 ck1v57 ck1v58 ck1v61 ck1v62 ck1v63 ck1v64 ck1v65 ck1v66 ck1v67 ck1v68 ck1v69 ck1v70 ck1v71 lifted qk ek ck1v72 ck1v74 ck1v75 ck1v76 ck1v77 ck1v78 ck1v80 ck1v81 ck1v82 ys iC ck1v83 ck1v85 ck1v86 ck1v88 ck1v89 ck1v90 ck1v92 ck1v96 ck1v97 ck1v98 ck1v101 ck1v103 ck1v106 ck1v109 ck1v110 ck1v111 ck1v114 tk T9 X9 hMark hclen D rr kp bx ca ws o4 o3 o2 o1 t0 u0 c0 e11 e12 e13 ck1v93 ck1v79 ck1v87 ck1v95 ck1v104 ck1v107 lA ck1v55 ck1v59 ck1v60 ck1v94 hK d td t' h' tk' hd0 hdM ckTurnv0 ckTurnv1 ckTurnv2 ckTurnv3 ckTurnv4 ckTurnv5 ckTurnv6 ckTurnv7 i t m₁ nx h tk own a a a a a
  have hMark : LawMark := .here
  rename World => w
  rename Below _ _ [] _ => K0
  rename Top _ _ _ _ _ (Top.heap _) => T9
  rename Frag.In _ (Top.heap _) => X9
  rename Keys _ _ _ _ => hK
  rename IntsAre _ (List.map _ _) => iC
  rename ∀ (f : Int → Int) (l : List Int), _ => hclen
  rename OwnOff _ _ => hoff
  rename LJx _ _ _ _ _ _ _ _ _ _ _ => hJ
  rename _ < Int.toNat _ => hi
  rename Fr _ _ _ _ => F1
  rename News _ _ _ _ => N1
  rename List (Addr × Obj) => own
  rename Shared => s1
  refine keys_name hK fun bx kp ca ebx ekp eca => ?_
  subst ebx ekp eca
  replace F1 : Fr _ s1.heap.objs.size _ _ := F1
  obtain ⟨t, kvs, ks, kn, o1, o2, o3, o4, rr, tl, rfl, ob, ok, ob3, ob4, d1, d2, d3, d4, ik, klen, klow, kdat⟩ := hJ
  replace N1 : News _ s1.heap.objs.size _ (_ :: _ :: _ :: _ :: _ :: _ :: _ :: (tl ++ own)) := N1
  have ob' := off_more (pre := [_, _, _, _, _, _, _]) ob hoff (by simp)
  have ok' := off_more (pre := [_, _, _, _, _, _, _]) ok hoff (by simp)
  have ob3' := off_more (pre := [_, _, _, _, _, _, _]) ob3 hoff (by simp)
  try k_fold
  k_steps
  unfold Halt
  refine take_L (dp := 302) (un := 7) (gd := some []) (outer := []) rfl rfl (by decide) (by decide) K0 F1 X9 T9 N1 ?_ (by simp) iC (hclen _ _) (by omega) (by omega) (by decide) fun n tn t' h' tk' hn0 hnM F2 N2 => ?_
  · intro p hp
    have := hK.b
    have := hK.k
    have := hK.cb
    simp only [List.mem_cons] at hp
    rcases hp with h | h | h | h | h | h | h
    iterate 6 (rw [h]; dsimp only; refine neN ?_; omega)
    exact ob' p h
  clear N1 F1
  k_steps
  unfold Halt
  rename Fr _ _ _ _ => F3
  rename News _ _ _ _ => N3
  have hb1 := hK.b
  have hb2 := hK.k
  have hb3 := hK.cb
  have hd := kdat
  cases hd with
  | list hm hd =>
  rename_i rvs rn
  have hrl : rvs.length ≤ 25 := by have h1 := hd.length; have h2 := law_len ks; simp only [prs, List.length_map] at h1; omega
  refine list_copyK F3 N3 (News.isList N3 (List.mem_append_right [_, _, _, _, _, _, _] (List.mem_append_left _ hm))) (fun D c h3 F4 N4 l4 => ?_) ?sz
  case sz => simp only [List.size_toArray, sizeLine_eq]; omega
  clear F3 N3
  k_steps
  unfold Halt
  rename Fr _ _ _ _ => F5
  rename News _ _ _ _ => N5
  have hadd : addN (lawRanges ks) n = lawRanges (ks ++ [n]) := add_law klow hn0 (by omega)
  refine add_spec w tl rr (lawRanges ks) n tn (by have := law_len ks; omega) kdat _ _ _ 302 7 (some []) _ [] _ _ _ _ _ _ _ _ rfl rfl (by decide) (by decide) K0 F5 X9 T9 (fun p hp => (N5 p (List.mem_append_right [_, _, _, _, _, _, _, _] (List.mem_append_left _ hp))).1) ?_
  refine pure_end F5 N5 fun v h5 tk5 tl2 F6 N6 off2 hv => ?_
  rw [hadd] at hv
  obtain ⟨later, rfl⟩ := ref_of hv
  clear F5
  have N7 := news_sub N6 (swap1 (a := [_, _, _, _, _, _, _]) (b := tl2) (x := (D, W.listOf rvs.toArray c)) (c := tl ++ own))
  replace N7 : News _ s1.heap.objs.size _ (_ :: _ :: _ :: _ :: _ :: _ :: _ :: (tl2 ++ (D, W.listOf rvs.toArray c) :: (tl ++ own))) := N7
  have offk5 := off_add (a := kp) (o := W.listOf rvs.toArray c) ok' (l4 (kp, _) (.tail _ (.head _))) (.tail _ (.tail _ (.head _))) off2
  have offb5 := off_add (a := bx) (o := W.listOf rvs.toArray c) ob' (l4 (bx, _) (.head _)) (.tail _ (.head _)) off2
  have off35 := off_add (a := s1.heap.objs.size + 1 + 1 + 1) (o := W.listOf rvs.toArray c) ob3' (l4 (s1.heap.objs.size + 1 + 1 + 1, _) (.tail _ (.tail _ (.head _)))) (.tail _ (.tail _ (.tail _ (.head _)))) off2
  obtain ⟨ts, hts⟩ : ∃ ts, ts = tl2 ++ (D, W.listOf rvs.toArray c) :: (tl ++ own) := ⟨_, rfl⟩
  rw [← hts] at N7 offk5 offb5 off35
  have s2 : ∀ p ∈ tl2, p ∈ ts := fun p hp => by rw [hts]; exact List.mem_append_left _ hp
  have sD : (D, W.listOf rvs.toArray c) ∈ ts := by rw [hts]; simp
  have sl : ∀ p ∈ tl, p ∈ ts := fun p hp => by rw [hts]; simp [hp]
  have so : ∀ p ∈ own, p ∈ ts := fun p hp => by rw [hts]; simp [hp]
  clear hts N6
  have hkl := ik.length
  have hki : ks.length < 16 := by omega
  have hsz : kvs.toArray.size ≤ sizeLine := by simp only [List.size_toArray, sizeLine_eq]; omega
  try k_fold
  k_steps
  unfold Halt
  rename Fr _ _ _ _ => F7
  rename News _ _ _ _ => N8
  rw [List.push_toArray] at N8
  have hu64 : 7 + 64 < cLine := by decide
  refine ne_prs (rs := lawRanges ks) (ss := lawRanges ks) N8 (kdat.mono fun p hp => mem7 (sl p hp)) (.list (mem7 sD) (hd.mono fun p hp => mem7 (sl p hp))) rfl hu64 ?_
  try k_fold
  k_steps
  unfold Halt
  have ik' := ints_snoc ik n tn
  have klow' : ∀ x ∈ ks ++ [n], 0 ≤ x ∧ x < 25 := fun x hx => by
    rcases List.mem_append.mp hx with h | h
    · exact klow x h
    · rw [List.mem_singleton.mp h]; omega
  refine lr_spec w kp (kn + 1) (kvs ++ [.int n tn]) (ks ++ [n]) (fun k hk => (klow' k hk).2) ik' _ _ _ 302 7 (some []) _ [] _ _ _ _ _ _ _ _ rfl rfl (by decide) (by decide) K0 F7 X9 T9 (fun p hp => by rw [List.mem_singleton.mp hp]; exact (N8 _ (.tail _ (.head _))).1) ?_
  refine pure_end F7 N8 fun v h6 tk6 tl3 F8 N9 off3 hv3 => ?_
  obtain ⟨nr, rfl⟩ := ref_of hv3
  try k_fold
  k_steps
  unfold Halt
  have hvl : DatIn ts (.ref later) (.list (prs (lawRanges (ks ++ [n])))) := hv.mono fun p hp => (List.mem_append.mp hp).elim (s2 p) (sl p)
  refine ne_prs (rs := lawRanges (ks ++ [n])) (ss := lawRanges (ks ++ [n])) N9 (hvl.mono fun p hp => List.mem_append_right _ (mem7 hp)) (hv3.mono fun p hp => List.mem_append_left _ hp) rfl hu64 ?_
  replace N9 := news_sub N9 fun p hp => List.mem_append_right tl3 hp
  clear N8 F7
  try k_fold
  k_steps
  unfold Halt
  refine right_spec w ts later (lawRanges (ks ++ [n])) (by have := law_len (ks ++ [n]); omega) hvl _ _ _ 302 7 (some []) _ [] _ _ _ _ _ _ _ _ rfl rfl (by decide) (by decide) K0 F8 X9 T9 (fun p hp => (N9 _ (mem7 hp)).1) ?_
  refine pure_end F8 N9 fun v h7 tk7 tl4 F9 N10 off4 hv4 => ?_
  rw [right_law klow'] at hv4
  subst hv4
  replace N10 := news_sub N10 fun p hp => List.mem_append_right tl4 hp
  clear N9 F8
  try k_fold
  k_steps
  rename Fr _ _ _ _ => F11
  rename News _ _ _ _ => N11
  rename Obj => o3n
  rename o3n.data = _ => d3n
  refine InvEndG.intro F11 N11 (nx := (bx, boxObj ca _ t' _ _ 0) :: (kp, W.listOf (kvs ++ [Value.int n tn]).toArray (kn + 1)) :: (s1.heap.objs.size + 1 + 1 + 1, o3n) :: (s1.heap.objs.size + 1, o1) :: (s1.heap.objs.size + 1 + 1, o2) :: (s1.heap.objs.size + 1 + 1 + 1 + 1, o4) :: (ca, lst _) :: (tl2 ++ tl))
    ⟨t', kvs ++ [.int n tn], ks ++ [n], kn + 1, o1, o2, o3n, o4, later, tl2 ++ tl, ⟨rfl, ?_, ?_, ?_, ?_, d1, d2, d3n, d4, ik', by simp [klen], klow', hv⟩⟩ ?_ ?_ (fun p hp => mem7 (so p hp))
  · intro p hp
    exact (List.mem_append.mp hp).elim (fun h => offb5 p (s2 p h)) (ob p)
  · intro p hp
    exact (List.mem_append.mp hp).elim (fun h => offk5 p (s2 p h)) (ok p)
  · intro p hp
    exact (List.mem_append.mp hp).elim (fun h => off35 p (s2 p h)) (ob3 p)
  · intro p hp
    exact (List.mem_append.mp hp).elim (fun h => off2 p h _ (.tail _ (.tail _ (.tail _ (.tail _ (.tail _ (.tail _ (.head _)))))))) (ob4 p)
  · exact own_off (pre := [_, _, _, _, _, _, _]) hoff fun p hp q hq => off2 p hp q (mem8 hq)
  · exact sub_end (pre := [_, _, _, _, _, _, _]) fun p hp => (List.mem_append.mp hp).elim (s2 p) (sl p)
set_option maxHeartbeats 16000000 in
noncomputable def cut4 : Cut cut2.R := by
  apply Cut.mk
  intro hCut
  w_top off
  intro zz
  revert zz
  k_fill
  intro zz ck1v1 s1 ck1v3 ck1v4 ck1v5 ck1v6 ck1v7 ck1v8 ck1v9 ck1v10 ck1v11 ck1v12 ck1v13 ck1v14 ck1v15 ck1v16 ck1v17 ck1v18 ck1v19 ck1v20 ck1v21 ck1v22 ck1v23 ck1v24 ck1v25 ck1v26 ck1v27 ck1v28 ck1v29 ck1v30 ck1v31 ck1v32 ck1v33 ck1v34 ck1v35 ck1v36 ck1v37 ck1v38 ck1v39 ck1v40 ck1v41 ck1v42 ck1v43 ck1v44 ck1v45 K0 ck1v47 ck1v48 ck1v49 ck1v50 ck1v52 ck1v53 ck1v54 ck1v56 ck1v57 ck1v58 ck1v61 ck1v62 ck1v63 ck1v64 ck1v65 ck1v66 ck1v67 ck1v68 ck1v69 ck1v70 ck1v71 lifted qk ek ck1v72 ck1v74 ck1v75 ck1v76 ck1v77 ck1v78 ck1v80 ck1v81 ck1v82 ys iC ck1v83 ck1v85 ck1v86 ck1v88 ck1v89 ck1v90 ck1v92 ck1v96 ck1v97 ck1v98 ck1v101 ck1v103 ck1v106 ck1v109 ck1v110 ck1v111 ck1v114 tk T9 X9 hMark hclen D rr kp bx ca ws o4 o3 o2 o1 t0 u0 c0 e11 e12 e13 ck1v93 ck1v79 ck1v87 ck1v95 ck1v104 ck1v107 lA ck1v55 ck1v59 ck1v60 ck1v94 hK d td t' h' tk' hd0 hdM ckDonev0 ckDonev1 ckDonev2 ckDonev3 ckDonev4 ckDonev5 ckDonev6 ckDonev7 m₁ nx h tk a a a
  have hMark : LawMark := .here
  rename World => w
  rename Below _ _ [] _ => K0
  rename Top _ _ _ _ _ (Top.heap _) => T9
  rename Frag.In _ (Top.heap _) => X9
  rename Keys _ _ _ _ => hK
  rename IntsAre _ (List.map _ _) => iC
  rename ∀ (f : Int → Int) (l : List Int), _ => hclen
  rename LJx _ _ _ _ _ _ _ _ _ _ _ => hJ
  rename Fr _ _ _ _ => F1
  rename News _ _ _ _ => N1
  rename Shared => s1
  rename Int => d
  refine keys_name hK fun bx kp ca ebx ekp eca => ?_
  subst ebx ekp eca
  obtain ⟨t, kvs, ks, kn, o1, o2, o3, o4, rr, tl, rfl, ob, ok, ob3, ob4, d1, d2, d3, d4, ik, klen, klow, kdat⟩ := hJ
  replace F1 : Fr _ s1.heap.objs.size _ _ := F1
  replace N1 : News _ s1.heap.objs.size _ (_ :: _ :: _ :: _ :: _ :: _ :: _ :: tl) := N1
  try dsimp only
  try k_fold
  k_steps
  unfold Halt
  refine comp_assign (by with_unfolding_all rfl) (by with_unfolding_all rfl) (by decide) rfl (by decide) (fun _ => rfl) rfl rfl ?_
  try k_fold
  k_steps
  unfold Halt
  rename IsRange _ _ _ _ _ _ _ _ => hR
  rename Fr _ _ _ _ => F2
  rename News _ _ _ _ => N2
  refine comp_rangeA (n := 25) (fun i ys tl' => tl' = [] ∧ IntsAre ys (inRange ks i)) rfl hR (by decide) (by decide) (by decide) ⟨rfl, .nil⟩ F2.ns ?_ ?_
  · rintro C i tt ys' tl' m' h tk hi ⟨rfl, hys⟩ hC hk hle ht
    have e1 : (0 : Int) + (i : Nat) * 1 = i := by omega
    rw [e1]
    refine wpAny_assign_Name (wpAny_storeName_local rfl hC (fun h₂ hC₂ hs₂ => ?_) rfl)
    have old₂ : ∀ b o, Heap.get? _ b = some o → h₂.get? b = some o := fun b o e => hs₂.extBut b o (Nat.ne_of_lt (Nat.lt_of_lt_of_le (Heap.lt_size e) hle)) (hk b o e)
    have hcell₂ : h₂.IsCell (s1.heap.objs.size + 1 + 1) (some (.ref kp)) := ⟨o2, old₂ _ _ (N2 _ (List.mem_append_right [_, _, _, _] (.head _))).1, d2⟩
    have F₃ := Fr.keeps F2 old₂
    refine wpAny_tests_one ?_
    try k_fold
    k_steps
    unfold Halt
    have hkpl : h₂.IsList kp kvs.toArray := ⟨_, old₂ _ _ (N2 _ (.tail _ (.head _))).1, rfl, _, rfl⟩
    refine in_list_ints hkpl ik ?_
    refine wpAny_truthy_bool ?_
    try k_fold
    k_steps
    · rename (ks.any _) = true => hb
      have e := inRange_succ ks i
      rw [if_pos hb] at e
      refine ⟨h₂, _, _, [], rfl, hC₂, fun b o hb e => hs₂.extBut b o hb e, by simp, rfl, ?_⟩
      rw [e]
      exact ints_snoc hys _ _
    · rename (ks.any _) = false => hb
      have e := inRange_succ ks i
      rw [hb, if_neg (by decide), List.append_nil] at e
      refine ⟨h₂, _, _, [], rfl, hC₂, fun b o hb e => hs₂.extBut b o hb e, by simp, rfl, ?_⟩
      rw [e]
      exact hys
  · rintro D h' tk' ys' tl' hD hDn ⟨rfl, hys⟩ hlen hNs hk ht
    obtain ⟨F3, N3, off3⟩ := compA_end F2 N2 hk hNs hD hDn
    clear F2 N2 hNs hk hR
    -- ckB
    rename_i ckBv0 ckBv1 ckBv2 ckBv3 ckBv4 ckBv5 ckBv6 ckBv7 ckBv8 ckBv9 ckBv10 ckBv11 ckBv12 ckBv13 ckBv14 ckBv15 ckBv16 ckBv17 ckBv18 ckBv19
    revert ckBv0 ckBv1 ckBv2 ckBv3 ckBv4 ckBv5 ckBv6 ckBv7 ckBv8 ckBv9 ckBv10 ckBv11 ckBv12 ckBv13 ckBv14 ckBv15 ckBv16 ckBv17 ckBv18 ckBv19 w ck1v1 s1 ck1v3 ck1v4 ck1v5 ck1v6 ck1v7 ck1v8 ck1v9 ck1v10 ck1v11 ck1v12 ck1v13 ck1v14 ck1v15 ck1v16 ck1v17 ck1v18 ck1v19 ck1v20 ck1v21 ck1v22 ck1v23 ck1v24 ck1v25 ck1v26 ck1v27 ck1v28 ck1v29 ck1v30 ck1v31 ck1v32 ck1v33 ck1v34 ck1v35 ck1v36 ck1v37 ck1v38 ck1v39 ck1v40 ck1v41 ck1v42 ck1v43 ck1v44 ck1v45 K0 ck1v47 ck1v48 ck1v49 ck1v50 ck1v52 ck1v53 ck1v54 ck1v56 ck1v57 ck1v58 ck1v61 ck1v62 ck1v63 ck1v64 ck1v65 ck1v66 ck1v67 ck1v68 ck1v69 ck1v70 ck1v71 lifted ck1v72 ck1v74 ck1v75 ck1v76 ck1v77 ck1v78 ck1v80 ck1v81 ck1v82 ys iC ck1v83 ck1v85 ck1v86 ck1v88 ck1v89 ck1v90 ck1v92 ck1v96 ck1v97 ck1v98 ck1v101 ck1v103 ck1v106 ck1v109 ck1v110 ck1v111 ck1v114 T9 X9 hclen ws t0 u0 c0 e11 e12 e13 ck1v79 ck1v55 ck1v59 ck1v60 d td t' hd0 hdM ckDonev0 ckDonev2 ckDonev3 ckDonev4 ckDonev5 ckDonev6 ckDonev7 m₁ h tk hMark bx kp ca ck1v93 ck1v87 ck1v95 ck1v94 ck1v104 ck1v107 lA hK ckDonev1 t kvs ks kn o1 o2 o3 o4 rr tl ob ok ob3 ob4 d1 d2 d3 d4 ik klen klow kdat qk ek D h' tk' ys' hD hDn hys hlen ht F3 N3 off3
    exact hCut.out
set_option maxHeartbeats 16000000 in
noncomputable def cut5 : Cut cut4.P := by
  apply Cut.mk
  intro hCut
  w_top off
  intro zz
  revert zz
  k_fill
  intro zz ck1v1 s1 ck1v3 ck1v4 ck1v5 ck1v6 ck1v7 ck1v8 ck1v9 ck1v10 ck1v11 ck1v12 ck1v13 ck1v14 ck1v15 ck1v16 ck1v17 ck1v18 ck1v19 ck1v20 ck1v21 ck1v22 ck1v23 ck1v24 ck1v25 ck1v26 ck1v27 ck1v28 ck1v29 ck1v30 ck1v31 ck1v32 ck1v33 ck1v34 ck1v35 ck1v36 ck1v37 ck1v38 ck1v39 ck1v40 ck1v41 ck1v42 ck1v43 ck1v44 ck1v45 K0 ck1v47 ck1v48 ck1v49 ck1v50 ck1v52 ck1v53 ck1v54 ck1v56 ck1v57 ck1v58 ck1v61 ck1v62 ck1v63 ck1v64 ck1v65 ck1v66 ck1v67 ck1v68 ck1v69 ck1v70 ck1v71 lifted ckBv0 ckBv1 ck1v72 ck1v74 ck1v75 ck1v76 ck1v77 ck1v78 ck1v80 ck1v81 ck1v82 ys iC ck1v83 ck1v85 ck1v86 ck1v88 ck1v89 ck1v90 ck1v92 ck1v96 ck1v97 ck1v98 ck1v101 ck1v103 ck1v106 ck1v109 ck1v110 ck1v111 ck1v114 ckBv2 T9 X9 ckBv3 hclen ckBv4 ckBv5 ws ckBv6 ckBv7 ckBv8 ckBv9 t0 u0 c0 e11 e12 e13 ck1v79 ck1v55 ck1v59 ck1v60 d td t' ckBv10 ckBv11 hd0 hdM ckDonev0 ckDonev2 ckDonev3 ckDonev4 ckDonev5 ckDonev6 ckDonev7 m₁ h tk hMark bx kp ca ck1v93 ck1v87 ck1v95 ck1v94 ck1v104 ck1v107 lA hK ckDonev1 t kvs ks kn o1 o2 o3 o4 rr tl ob ok ob3 ob4 d1 d2 d3 d4 ik klen klow kdat ckBv12 ckBv13 qk ek ckBv14 ckBv15 ckBv16 ckBv17 ckBv18 ckBv19 D h' tk' ys' hD hDn hys hlen ht F3 N3 off3
  have hMark : LawMark := .here
  have N4 := news_sub N3 (swap2 (a := [_, _, _, _, _, _, _]) (b := [(D, lst ys')]) (c := tl))
  replace N4 : News _ s1.heap.objs.size _ (_ :: _ :: _ :: _ :: _ :: _ :: _ :: ((D, lst ys') :: tl)) := N4
  have ob5 := fst_ne_cons (o := lst ys') (off3 (bx, _) (.head _)) ob
  have ob45 := fst_ne_cons (o := lst ys') (off3 (s1.heap.objs.size + 1 + 1 + 1 + 1, _) (.tail _ (.tail _ (.tail _ (.tail _ (.tail _ (.head _))))))) ob4
  clear N3 off3
  replace F3 := F3
  dsimp only
  try k_fold
  k_steps
  unfold Halt
  refine comp_eval (by with_unfolding_all rfl) (by decide) rfl (by decide) (fun _ => rfl) ?_
  try k_fold
  k_steps
  unfold Halt
  rename IsRange _ _ _ _ _ _ _ _ => hR
  rename Fr _ _ _ _ => F5
  rename News _ _ _ _ => N5
  refine comp_range (n := 25) (fun i zs tl' => tl' = [] ∧ IntsAre zs (inRange ks i)) rfl hR (by decide) (by decide) (by decide) ⟨rfl, .nil⟩ ?_ ?_
  · rintro C i tt ys' tl' m' h tk hi ⟨rfl, hys⟩ hC hk hle ht
    have e1 : (0 : Int) + (i : Nat) * 1 = i := by omega
    rw [e1]
    refine wpAny_assign_Name (wpAny_storeName_local rfl hC (fun h₂ hC₂ hs₂ => ?_) rfl)
    have old₂ : ∀ b o, Heap.get? _ b = some o → h₂.get? b = some o := fun b o e => hs₂.extBut b o (Nat.ne_of_lt (Nat.lt_of_lt_of_le (Heap.lt_size e) hle)) (hk b o e)
    have hcell₂ : h₂.IsCell (s1.heap.objs.size + 1 + 1 + 1) (some (.ref rr)) := ⟨o3, old₂ _ _ (N5 _ (List.mem_append_right [_, _] (.head _))).1, d3⟩
    have F₃ := Fr.keeps F5 old₂
    have N₃ := News.grown N5 old₂
    refine wpAny_tests_one ?_
    try k_fold
    k_steps
    unfold Halt
    refine has_spec _ tl rr (lawRanges ks) _ _ (by have := law_len ks; omega) kdat _ _ _ 302 7 (some []) _ [] _ _ _ _ _ _ _ _ rfl rfl (by decide) (by decide) K0 F₃ X9 T9 (fun p hp => (N₃ p (mem7 (List.mem_cons_of_mem _ hp))).1) ?_
    rintro v s' ⟨h₃, tk₃, tl₃, rfl, hk₃, _, rfl⟩
    rw [has_law klow]
    have hC₃ := hC₂.at' fun o e => hk₃ _ o e
    refine wpAny_truthy_bool ?_
    k_steps
    · rename (ks.any _) = true => hb
      have e := inRange_succ ks i
      rw [if_pos hb] at e
      refine ⟨h₃, _, _, [], rfl, hC₃, fun b o hb e => hk₃ _ _ (hs₂.extBut b o hb e), by simp, rfl, ?_⟩
      rw [e]
      exact ints_snoc hys _ _
    · rename (ks.any _) = false => hb
      have e := inRange_succ ks i
      rw [hb, if_neg (by decide), List.append_nil] at e
      refine ⟨h₃, _, _, [], rfl, hC₃, fun b o hb e => hk₃ _ _ (hs₂.extBut b o hb e), by simp, rfl, ?_⟩
      rw [e]
      exact hys
  · rintro D2 h' tk' zs tl' hD2 hDn2 ⟨rfl, hzs⟩ hlen2 hk ht2
    obtain ⟨F6, N6, off6⟩ := comp_end F5 N5 hk hD2 hDn2
    clear F5 N5 hk hR
    k_steps
    unfold Halt
    refine ne_ints N6 (.head _) hzs (mem8a (.head _)) hys rfl hu64 ?_
    replace N6 := news_sub N6 fun p hp => List.mem_cons_of_mem _ hp
    k_steps
    unfold Halt
    refine count_spec _ tl rr (lawRanges ks) (by have := law_len ks; omega) kdat _ _ _ 302 7 (some []) _ [] _ _ _ _ _ _ _ _ rfl rfl (by decide) (by decide) K0 F6 X9 T9 (fun p hp => (N6 p (mem7 (List.mem_cons_of_mem _ hp))).1) ?_
    refine pure_end F6 N6 fun v h6 tk6 tl3 F7 N7 _ hv => ?_
    obtain ⟨ct, rfl⟩ := hv
    replace N7 := news_sub N7 fun p hp => List.mem_append_right tl3 hp
    clear F6 N6
    have hcl := count_law klow
    rw [← inRange_len, ← hys.length] at hcl
    rw [hcl]
    k_steps
    refine Calls.call_len_list (items := ys'.toArray) (News.isList N7 (mem7 (.head _))) (by simp only [List.size_toArray]; omega) ?_
    simp only [List.size_toArray]
    k_steps
    unfold Halt
    have N8 := news_sub N7 (drop8 (a := [_, _, _, _, _, _, _]) (x := (D, lst ys')) (c := tl))
    replace N8 : News _ s1.heap.objs.size _ (_ :: _ :: _ :: _ :: _ :: _ :: _ :: tl) := N8
    clear N7
    -- ckC
    rename_i ckCv0 ckCv1 ckCv2 ckCv3 ckCv4 ckCv5 ckCv6 ckCv7 ckCv8 ckCv9 ckCv10 ckCv11 ckCv12 ckCv13 ckCv14 ckCv15
    revert ckCv0 ckCv1 ckCv2 ckCv3 ckCv4 ckCv5 ckCv6 ckCv7 ckCv8 ckCv9 ckCv10 ckCv11 ckCv12 ckCv13 ckCv14 ckCv15 zz ck1v1 s1 ck1v3 ck1v4 ck1v5 ck1v6 ck1v7 ck1v8 ck1v9 ck1v10 ck1v11 ck1v12 ck1v13 ck1v14 ck1v15 ck1v16 ck1v17 ck1v18 ck1v19 ck1v20 ck1v21 ck1v22 ck1v23 ck1v24 ck1v25 ck1v26 ck1v27 ck1v28 ck1v29 ck1v30 ck1v31 ck1v32 ck1v33 ck1v34 ck1v35 ck1v36 ck1v37 ck1v38 ck1v39 ck1v40 ck1v41 ck1v42 ck1v43 ck1v44 ck1v45 K0 ck1v47 ck1v48 ck1v49 ck1v50 ck1v52 ck1v53 ck1v54 ck1v56 ck1v57 ck1v58 ck1v61 ck1v62 ck1v63 ck1v64 ck1v65 ck1v66 ck1v67 ck1v68 ck1v69 ck1v70 ck1v71 lifted ckBv0 ckBv1 ck1v72 ck1v74 ck1v75 ck1v76 ck1v77 ck1v78 ck1v80 ck1v81 ck1v82 ys iC ck1v83 ck1v85 ck1v86 ck1v88 ck1v89 ck1v90 ck1v92 ck1v96 ck1v97 ck1v98 ck1v101 ck1v103 ck1v106 ck1v109 ck1v110 ck1v111 ck1v114 ckBv2 T9 X9 ckBv3 hclen ckBv4 ckBv5 ws ckBv6 ckBv7 ckBv8 ckBv9 t0 u0 c0 e11 e12 e13 ck1v79 ck1v55 ck1v59 ck1v60 d td t' ckBv10 ckBv11 hd0 hdM ckDonev0 ckDonev2 ckDonev3 ckDonev4 ckDonev5 ckDonev6 ckDonev7 m₁ h bx kp ca ck1v93 ck1v87 ck1v95 ck1v94 ck1v104 ck1v107 lA hK ckDonev1 t kvs ks kn o1 o2 o3 o4 rr tl ob ok ob3 ob4 d1 d2 d3 d4 ik klen klow kdat ckBv12 ckBv13 ckBv14 ckBv15 ckBv16 ckBv17 ckBv18 ckBv19 D ys' hD hDn hys hlen ht hMark ob5 ob45 qk ek D2 h' tk' zs hD2 hDn2 hzs hlen2 ht2 off6 h6 tk6 tl3 F7 ct hcl tk N8
    exact hCut.out
set_option maxHeartbeats 16000000 in
noncomputable def cut6 : Cut cut5.P := by
  apply Cut.mk
  intro hCut
  w_top off
  intro zz
  revert zz
  k_fill
  intro zz ck1v1 s1 ck1v3 ck1v4 ck1v5 ck1v6 ck1v7 ck1v8 ck1v9 ck1v10 ck1v11 ck1v12 ck1v13 ck1v14 ck1v15 ck1v16 ck1v17 ck1v18 ck1v19 ck1v20 ck1v21 ck1v22 ck1v23 ck1v24 ck1v25 ck1v26 ck1v27 ck1v28 ck1v29 ck1v30 ck1v31 ck1v32 ck1v33 ck1v34 ck1v35 ck1v36 ck1v37 ck1v38 ck1v39 ck1v40 ck1v41 ck1v42 ck1v43 ck1v44 ck1v45 K0 ck1v47 ck1v48 ck1v49 ck1v50 ck1v52 ck1v53 ck1v54 ck1v56 ck1v57 ck1v58 ck1v61 ck1v62 ck1v63 ck1v64 ck1v65 ck1v66 ck1v67 ck1v68 ck1v69 ck1v70 ck1v71 lifted ckBv0 ckBv1 ck1v72 ck1v74 ck1v75 ck1v76 ck1v77 ck1v78 ck1v80 ck1v81 ck1v82 ys iC ck1v83 ck1v85 ck1v86 ck1v88 ck1v89 ck1v90 ck1v92 ck1v96 ck1v97 ck1v98 ck1v101 ck1v103 ck1v106 ck1v109 ck1v110 ck1v111 ck1v114 ckBv2 T9 X9 ckBv3 hclen ckBv4 ckBv5 ws ckBv6 ckBv7 ckBv8 ckBv9 t0 u0 c0 e11 e12 e13 ck1v79 ck1v55 ck1v59 ck1v60 d td t' ckBv10 ckBv11 hd0 hdM ckDonev0 ckDonev2 ckDonev3 ckDonev4 ckDonev5 ckDonev6 ckDonev7 m₁ h ckCv0 ckCv1 bx kp ca ck1v93 ck1v87 ck1v95 ck1v94 ck1v104 ck1v107 lA hK ckDonev1 t kvs ks kn o1 o2 o3 o4 rr tl ob ok ob3 ob4 d1 d2 d3 d4 ik klen klow kdat ckBv12 ckBv13 ckCv2 ckCv3 ckBv14 ckBv15 ckBv16 ckBv17 ckBv18 ckBv19 D ckCv4 ckCv5 ys' hD hDn hys hlen ht hMark ckCv6 ob5 ob45 ckCv7 qk ek ckCv8 ckCv9 ckCv10 ckCv11 ckCv12 ckCv13 D2 h' tk' zs hD2 hDn2 hzs hlen2 ht2 off6 h6 tk6 tl3 F7 ckCv14 ct hcl ckCv15 tk N8
  have hMark : LawMark := .here
  rename Fr _ _ _ _ => F7
  obtain ⟨m2, F7⟩ : ∃ m2, Fr _ s1.heap.objs.size _ m2 := ⟨_, F7⟩
  refine largest_out _ tl rr (lawRanges ks) (by have := law_len ks; omega) kdat _ _ _ 302 7 (some []) _ [] _ _ _ _ _ _ _ _ rfl rfl (by decide) (by decide) K0 F7 X9 T9 (fun p hp => (N8 p (mem7 hp)).1) ?_
  refine pure_end F7 N8 fun v h8 tk8 tl3 F9 N9 _ hv => ?_
  replace N9 := news_sub N9 fun p hp => List.mem_append_right tl3 hp
  have hv' := largest_law klow hv
  clear hv F7 N8
  refine ev_cut F9 N9 (fun b => (ks = [] ∧ b = .none) ∨ ∃ M t, b = .int M t ∧ M ∈ ks ∧ ∀ k ∈ ks, k ≤ M) ?ev (fun b h10 tk10 F10 N10 hb => ?cont)
  case ev =>
    clear F9 N9
    intro F9 N9
    by_cases hks : ks = []
    · k_steps
      unfold Halt
      rename Fr _ _ _ _ => F11
      rename News _ _ _ _ => N11
      refine ne_ints N11 (.tail _ (.tail _ (.head _))) ik (.head _) .nil hks hu64 ?_
      k_steps
      exact ⟨_, _, rfl, F11, news_sub N11 fun p hp => List.mem_cons_of_mem _ hp, .inl ⟨hks, rfl⟩⟩
    · k_steps
      unfold Halt
      rename Fr _ _ _ _ => F11
      rename News _ _ _ _ => N11
      refine ne_intsT N11 (.tail _ (.tail _ (.head _))) ik (.head _) .nil hks hu64 ?_
      k_steps
      unfold Halt
      refine kso_max F11 N11 (News.isList N11 (.tail _ (.tail _ (.head _)))) ik (List.length_pos_iff.mpr hks) rfl fun h12 M tM tk12 F12 N12 hM hM2 => ?_
      exact ⟨_, _, rfl, F12, news_sub N12 fun p hp => List.mem_cons_of_mem _ hp, .inr ⟨M, tM, rfl, hM, hM2⟩⟩
  case cont =>
    have key : ∀ {prog : Program} {w : World} {A : Around} {E : Value → Shared → Prop} {Q : Value → Shared → Prop} {s : Shared}, Q (.bool false) s → wpAny (model prog w) A (compareOp .NotEq v b) Q E s := by
      intro prog w A E Q s hq
      rcases hv' with ⟨e, rfl⟩ | ⟨M, t, rfl, hM, hM2⟩
      · rcases hb with ⟨_, rfl⟩ | ⟨M, t, rfl, hM, hM2⟩
        · exact EqNone.ne_none_none hq
        · rw [e] at hM; cases hM
      · rcases hb with ⟨e, rfl⟩ | ⟨M', t', rfl, hM', hM2'⟩
        · rw [e] at hM; cases hM
        · have e : M = M' := by have := hM2 _ hM'; have := hM2' _ hM; omega
          subst e
          refine ne_int ?_
          simpa using hq
    refine key ?_
    clear key hb hv' F9 N9
    k_steps
    unfold Halt
    have hb1 := hK.b
    have hb2 := hK.k
    have hb3 := hK.cb
    have hkd : (d.toNat : Int) < 17 := by omega
    refine take_L (dp := 302) (un := 7) (gd := some []) (outer := []) rfl rfl (by decide) (by decide) K0 F10 X9 T9 N10 ?_ (by simp) iC (hclen _ _) (by omega) (by omega) (by decide) fun lo lt t2 h12 tk12 hl0 hlM F12 N12 => ?_
    · intro p hp
      simp only [List.mem_cons] at hp
      rcases hp with h | h | h | h | h | h | h
      iterate 6 (rw [h]; dsimp only; refine neN ?_; omega)
      exact ob p h
    clear F10 N10
    k_steps
    unfold Halt
    rename Fr _ _ _ _ => F13
    rename News _ _ _ _ => N13
    rename Obj => o4n
    rename o4n.data = _ => d4n
    -- ckD
    rename_i ckDv0 ckDv1 ckDv2 ckDv3 ckDv4
    revert ckDv0 ckDv1 ckDv2 ckDv3 ckDv4 zz ck1v1 s1 ck1v3 ck1v4 ck1v5 ck1v6 ck1v7 ck1v8 ck1v9 ck1v10 ck1v11 ck1v12 ck1v13 ck1v14 ck1v15 ck1v16 ck1v17 ck1v18 ck1v19 ck1v20 ck1v21 ck1v22 ck1v23 ck1v24 ck1v25 ck1v26 ck1v27 ck1v28 ck1v29 ck1v30 ck1v31 ck1v32 ck1v33 ck1v34 ck1v35 ck1v36 ck1v37 ck1v38 ck1v39 ck1v40 ck1v41 ck1v42 ck1v43 ck1v44 ck1v45 K0 ck1v47 ck1v48 ck1v49 ck1v50 ck1v52 ck1v53 ck1v54 ck1v56 ck1v57 ck1v58 ck1v61 ck1v62 ck1v63 ck1v64 ck1v65 ck1v66 ck1v67 ck1v68 ck1v69 ck1v70 ck1v71 lifted ckBv0 ckBv1 ck1v72 ck1v74 ck1v75 ck1v76 ck1v77 ck1v78 ck1v80 ck1v81 ck1v82 ys iC ck1v83 ck1v85 ck1v86 ck1v88 ck1v89 ck1v90 ck1v92 ck1v96 ck1v97 ck1v98 ck1v101 ck1v103 ck1v106 ck1v109 ck1v110 ck1v111 ck1v114 ckBv2 T9 X9 ckBv3 hclen ckBv4 ckBv5 ws ckBv6 ckBv7 ckBv8 ckBv9 t0 u0 c0 e11 e12 e13 ck1v79 ck1v55 ck1v59 ck1v60 d td t' ckBv10 ckBv11 hd0 hdM ckDonev2 ckDonev3 ckDonev4 ckDonev5 ckDonev6 ckDonev7 m₁ h ckCv0 ckCv1 bx kp ca ck1v93 ck1v87 ck1v95 ck1v94 ck1v104 ck1v107 lA hK t kvs ks kn o1 o2 o3 o4 rr tl ob ok ob3 ob4 d1 d2 d3 d4 ik klen klow kdat ckCv2 ckCv3 ckBv14 ckBv15 ckBv16 ckBv17 ckBv18 ckBv19 D ckCv4 ckCv5 ys' hD hDn hys hlen ht ob5 ob45 qk ek ckCv8 ckCv9 ckCv10 ckCv11 ckCv12 ckCv13 D2 h' tk' zs hD2 hDn2 hzs hlen2 ht2 off6 h6 tk6 ckCv14 ct hcl ckCv15 hMark m2 v h8 tk8 tl3 b h10 tk10 hb1 hb2 hb3 hkd lo lt t2 h12 tk12 hl0 hlM o4n F13 N13 d4n tk
    exact hCut.out
set_option maxHeartbeats 16000000 in
noncomputable def cut7 : Cut cut6.P := by
  apply Cut.mk
  intro hCut
  w_top off
  intro zz
  revert zz
  k_fill
  intro zz ck1v1 s1 ck1v3 ck1v4 ck1v5 ck1v6 ck1v7 ck1v8 ck1v9 ck1v10 ck1v11 ck1v12 ck1v13 ck1v14 ck1v15 ck1v16 ck1v17 ck1v18 ck1v19 ck1v20 ck1v21 ck1v22 ck1v23 ck1v24 ck1v25 ck1v26 ck1v27 ck1v28 ck1v29 ck1v30 ck1v31 ck1v32 ck1v33 ck1v34 ck1v35 ck1v36 ck1v37 ck1v38 ck1v39 ck1v40 ck1v41 ck1v42 ck1v43 ck1v44 ck1v45 K0 ck1v47 ck1v48 ck1v49 ck1v50 ck1v52 ck1v53 ck1v54 ck1v56 ck1v57 ck1v58 ck1v61 ck1v62 ck1v63 ck1v64 ck1v65 ck1v66 ck1v67 ck1v68 ck1v69 ck1v70 ck1v71 lifted ckBv0 ckBv1 ck1v72 ck1v74 ck1v75 ck1v76 ck1v77 ck1v78 ck1v80 ck1v81 ck1v82 ys iC ck1v83 ck1v85 ck1v86 ck1v88 ck1v89 ck1v90 ck1v92 ck1v96 ck1v97 ck1v98 ck1v101 ck1v103 ck1v106 ck1v109 ck1v110 ck1v111 ck1v114 ckBv2 T9 X9 ckBv3 hclen ckBv4 ckBv5 ws ckBv6 ckBv7 ckBv8 ckBv9 t0 u0 c0 e11 e12 e13 ck1v79 ck1v55 ck1v59 ck1v60 d td t' ckBv10 ckBv11 hd0 hdM ckDonev2 ckDonev3 ckDonev4 ckDonev5 ckDonev6 ckDonev7 m₁ h ckCv0 ckCv1 bx kp ca ck1v93 ck1v87 ck1v95 ck1v94 ck1v104 ck1v107 lA hK t kvs ks kn o1 o2 o3 o4 rr tl ob ok ob3 ob4 d1 d2 d3 d4 ik klen klow kdat ckCv2 ckCv3 ckBv14 ckBv15 ckBv16 ckBv17 ckBv18 ckBv19 D ckCv4 ckCv5 ys' hD hDn hys hlen ht ckDv0 ob5 ob45 qk ek ckCv8 ckCv9 ckCv10 ckCv11 ckCv12 ckCv13 D2 h' tk' zs hD2 hDn2 hzs hlen2 ht2 off6 h6 tk6 ckDv1 ckCv14 ct hcl ckCv15 ckDv2 hMark m2 v h8 tk8 tl3 ckDv3 b h10 tk10 hb1 hb2 hb3 hkd lo lt t2 h12 tk12 hl0 hlM ckDv4 o4n F13 N13 d4n tk
  have hMark : LawMark := .here
  refine prune_spec _ tl rr (lawRanges ks) lo lt (by have := law_len ks; omega) kdat _ _ _ 302 7 (some []) _ [] _ _ _ _ _ _ _ _ rfl rfl (by decide) (by decide) K0 F13 X9 T9 (fun p hp => (N13 p (mem7 hp)).1) ?_
  refine pure_end F13 N13 fun v h8 tk8 tl3 F14 N14 _ hv => ?_
  rw [prune_law klow] at hv
  obtain ⟨pr, rfl⟩ := ref_of hv
  replace N14 := news_sub N14 (swap2 (a := [_, _, _, _, _, _, _]) (b := tl3) (c := tl))
  replace N14 : News _ s1.heap.objs.size _ (_ :: _ :: _ :: _ :: _ :: _ :: _ :: (tl3 ++ tl)) := N14
  clear F13 N13
  try k_fold
  k_steps
  unfold Halt
  refine comp_eval (by with_unfolding_all rfl) (by decide) rfl (by decide) (fun _ => rfl) ?_
  try k_fold
  k_steps
  unfold Halt
  have hvl := ik.length
  refine comp_list (vs := kvs) (fun i zs tl' => tl' = [] ∧ IntsAre zs ((ks.take i).filter fun n => decide (lo ≤ n))) rfl (News.isList N14 (.tail _ (.head _))) (by omega) ⟨rfl, .nil⟩ ?_ ?_
  · rintro C i v ys' tl' m' h tk hv ⟨rfl, hys⟩ hC hk hle ht
    have hilt : i < ks.length := by rw [← hvl]; exact (List.getElem?_eq_some_iff.mp hv).1
    obtain ⟨tt, hx⟩ := ik.get i ks[i] (List.getElem?_eq_getElem hilt)
    rw [hx] at hv
    obtain rfl := Option.some.inj hv
    refine wpAny_assign_Name (wpAny_storeName_local rfl hC (fun h₂ hC₂ hs₂ => ?_) rfl)
    have old₂ : ∀ b o, Heap.get? _ b = some o → h₂.get? b = some o := fun b o e => hs₂.extBut b o (Nat.ne_of_lt (Nat.lt_of_lt_of_le (Heap.lt_size e) hle)) (hk b o e)
    have hcell₂ : h₂.IsCell (s1.heap.objs.size + 1 + 1 + 1 + 1) (some (.int lo lt)) := ⟨o4n, old₂ _ _ (N14 _ (List.mem_append_right [_, _, _, _, _] (.head _))).1, d4n⟩
    refine wpAny_tests_one ?_
    try k_fold
    k_steps
    · rename lo ≤ _ => hb
      have e := filter_succ (fun n => decide (lo ≤ n)) hilt
      rw [decide_eq_true hb, if_pos rfl] at e
      refine ⟨h₂, _, _, [], rfl, hC₂, fun b o hb e => hs₂.extBut b o hb e, by simp, rfl, ?_⟩
      rw [e]
      exact ints_snoc hys _ _
    · rename ¬ lo ≤ _ => hb
      have e := filter_succ (fun n => decide (lo ≤ n)) hilt
      rw [decide_eq_false hb, if_neg (by decide), List.append_nil] at e
      refine ⟨h₂, _, _, [], rfl, hC₂, fun b o hb e => hs₂.extBut b o hb e, by simp, rfl, ?_⟩
      rw [e]
      exact hys
  · rintro D h' tk' zs tl' hD hDn ⟨rfl, hzs⟩ hlen hk ht
    rw [hvl, List.take_length] at hzs
    obtain ⟨F15, N15, off6⟩ := comp_end F14 N14 hk hD hDn
    clear F14 N14 hk
    k_steps
    unfold Halt
    have hlow' : ∀ k ∈ ks.filter fun n => decide (lo ≤ n), k < 25 := fun k hk => (klow k (List.mem_filter.mp hk).1).2
    refine lr_spec _ D zs.length zs (ks.filter fun n => decide (lo ≤ n)) hlow' hzs _ _ _ 302 7 (some []) _ [] _ _ _ _ _ _ _ _ rfl rfl (by decide) (by decide) K0 F15 X9 T9 (fun p hp => by rw [List.mem_singleton.mp hp]; exact (N15 _ (.head _)).1) ?_
    refine pure_end F15 N15 fun v h16 tk16 tl4 F16 N16 _ hv3 => ?_
    obtain ⟨nr, rfl⟩ := ref_of hv3
    try k_fold
    k_steps
    unfold Halt
    refine ne_prs (rs := lawRanges (ks.filter fun n => decide (lo ≤ n))) (ss := lawRanges (ks.filter fun n => decide (lo ≤ n))) N16 (hv.mono fun p hp => List.mem_append_right _ (List.mem_cons_of_mem _ (mem7 hp))) (hv3.mono fun p hp => List.mem_append_left _ hp) rfl hu64 ?_
    have N17 := news_sub N16 fun p hp => List.mem_append_right tl4 (List.mem_cons_of_mem _ hp)
    replace N17 := news_sub N17 (drops (a := [_, _, _, _, _, _, _]) (b := tl3) (c := tl))
    replace N17 : News _ s1.heap.objs.size _ (_ :: _ :: _ :: _ :: _ :: _ :: _ :: tl) := N17
    clear N16 F15 N15 hv hv3
    k_steps
    unfold Halt
    -- ckE
    rename_i ckEv0 ckEv1 ckEv2 ckEv3 ckEv4 ckEv5 ckEv6 ckEv7 ckEv8 ckEv9 ckEv10 ckEv11 ckEv12 ckEv13 ckEv14 ckEv15 ckEv16 ckEv17 ckEv18 ckEv19
    revert ckEv0 ckEv1 ckEv2 ckEv3 ckEv4 ckEv5 ckEv6 ckEv7 ckEv8 ckEv9 ckEv10 ckEv11 ckEv12 ckEv13 ckEv14 ckEv15 ckEv16 ckEv17 ckEv18 ckEv19 zz ck1v1 s1 ck1v3 ck1v4 ck1v5 ck1v6 ck1v7 ck1v8 ck1v9 ck1v10 ck1v11 ck1v12 ck1v13 ck1v14 ck1v15 ck1v16 ck1v17 ck1v18 ck1v19 ck1v20 ck1v21 ck1v22 ck1v23 ck1v24 ck1v25 ck1v26 ck1v27 ck1v28 ck1v29 ck1v30 ck1v31 ck1v32 ck1v33 ck1v34 ck1v35 ck1v36 ck1v37 ck1v38 ck1v39 ck1v40 ck1v41 ck1v42 ck1v43 ck1v44 ck1v45 K0 ck1v47 ck1v48 ck1v49 ck1v50 ck1v52 ck1v53 ck1v54 ck1v56 ck1v57 ck1v58 ck1v61 ck1v62 ck1v63 ck1v64 ck1v65 ck1v66 ck1v67 ck1v68 ck1v69 ck1v70 ck1v71 lifted ckBv0 ckBv1 ck1v72 ck1v74 ck1v75 ck1v76 ck1v77 ck1v78 ck1v80 ck1v81 ck1v82 ys iC ck1v83 ck1v85 ck1v86 ck1v88 ck1v89 ck1v90 ck1v92 ck1v96 ck1v97 ck1v98 ck1v101 ck1v103 ck1v106 ck1v109 ck1v110 ck1v111 ck1v114 ckBv2 T9 X9 ckBv3 hclen ckBv4 ckBv5 ws ckBv6 ckBv7 ckBv8 ckBv9 t0 u0 c0 e11 e12 e13 ck1v79 ck1v55 ck1v59 ck1v60 d td t' ckBv10 ckBv11 hd0 hdM ckDonev2 ckDonev3 ckDonev4 ckDonev5 ckDonev6 ckDonev7 m₁ h ckCv0 ckCv1 bx kp ca ck1v93 ck1v87 ck1v95 ck1v94 ck1v104 ck1v107 lA hK t kvs ks kn o1 o2 o3 o4 rr tl ob ok ob3 ob4 d1 d2 d3 d4 ik klen klow kdat ckCv2 ckCv3 ckBv14 ckBv15 ckBv16 ckBv17 ckBv18 ckBv19 ckCv4 ckCv5 ys' hys ckDv0 ob5 ob45 ckCv8 ckCv9 ckCv10 ckCv11 ckCv12 ckCv13 D2 hD2 hDn2 hlen2 ht2 h6 tk6 ckDv1 ckCv14 ct hcl ckCv15 ckDv2 m2 v ckDv3 b h10 tk10 hb1 hb2 hb3 hkd lo lt t2 h12 tk12 hl0 hlM ckDv4 o4n d4n tk hMark h8 tk8 tl3 pr hvl D h' tk' zs hD hDn hzs hlen ht off6 hlow' h16 tk16 tl4 F16 nr qk ek N17
    exact hCut.out
set_option maxHeartbeats 16000000 in
noncomputable def cut8 : Cut cut7.P := by
  apply Cut.mk
  intro hCut
  w_top off
  intro zz
  revert zz
  k_fill
  intro zz ck1v1 s1 ck1v3 ck1v4 ck1v5 ck1v6 ck1v7 ck1v8 ck1v9 ck1v10 ck1v11 ck1v12 ck1v13 ck1v14 ck1v15 ck1v16 ck1v17 ck1v18 ck1v19 ck1v20 ck1v21 ck1v22 ck1v23 ck1v24 ck1v25 ck1v26 ck1v27 ck1v28 ck1v29 ck1v30 ck1v31 ck1v32 ck1v33 ck1v34 ck1v35 ck1v36 ck1v37 ck1v38 ck1v39 ck1v40 ck1v41 ck1v42 ck1v43 ck1v44 ck1v45 K0 ck1v47 ck1v48 ck1v49 ck1v50 ck1v52 ck1v53 ck1v54 ck1v56 ck1v57 ck1v58 ck1v61 ck1v62 ck1v63 ck1v64 ck1v65 ck1v66 ck1v67 ck1v68 ck1v69 ck1v70 ck1v71 lifted ckBv0 ckBv1 ck1v72 ck1v74 ck1v75 ck1v76 ck1v77 ck1v78 ck1v80 ck1v81 ck1v82 ys iC ck1v83 ck1v85 ck1v86 ck1v88 ck1v89 ck1v90 ck1v92 ck1v96 ck1v97 ck1v98 ck1v101 ck1v103 ck1v106 ck1v109 ck1v110 ck1v111 ck1v114 ckBv2 T9 X9 ckBv3 hclen ckBv4 ckBv5 ws ckBv6 ckBv7 ckBv8 ckBv9 t0 u0 c0 e11 e12 e13 ck1v79 ck1v55 ck1v59 ck1v60 d td t' ckBv10 ckBv11 hd0 hdM ckDonev2 ckDonev3 ckDonev4 ckDonev5 ckDonev6 ckDonev7 m₁ h ckCv0 ckCv1 bx kp ca ck1v93 ck1v87 ck1v95 ck1v94 ck1v104 ck1v107 lA hK t kvs ks kn o1 o2 o3 o4 rr tl ob ok ob3 ob4 d1 d2 d3 d4 ik klen klow kdat ckCv2 ckCv3 ckBv14 ckBv15 ckBv16 ckBv17 ckBv18 ckBv19 ckEv0 ckCv4 ckCv5 ys' ckEv1 ckEv2 hys ckEv3 ckEv4 ckDv0 ob5 ob45 ckEv5 ckEv6 ckCv8 ckCv9 ckCv10 ckCv11 ckCv12 ckCv13 D2 ckEv7 ckEv8 ckEv9 hD2 hDn2 ckEv10 hlen2 ht2 ckEv11 h6 tk6 ckDv1 ckCv14 ct hcl ckCv15 ckDv2 ckEv12 m2 v ckEv13 ckEv14 ckEv15 ckDv3 b h10 tk10 hb1 hb2 hb3 hkd lo lt t2 h12 tk12 hl0 hlM ckDv4 o4n d4n tk hMark h8 tk8 tl3 ckEv16 pr ckEv17 ckEv18 hvl D h' tk' zs hD hDn hzs hlen ht off6 hlow' h16 tk16 tl4 F16 ckEv19 nr qk ek N17
  have hMark : LawMark := .here
  refine comp_assign (by with_unfolding_all rfl) (by with_unfolding_all rfl) (by decide) rfl (by decide) (fun _ => rfl) rfl rfl ?_
  try k_fold
  k_steps
  unfold Halt
  refine take_L (dp := 302) (un := 7) (gd := some []) (outer := []) rfl rfl (by decide) (by decide) K0 F16 X9 T9 N17 ?_ (by simp) iC (hclen _ _) (by omega) (by omega) (by decide) fun dd dt2 t3 h18 tk18 hd20 hd2M F18 N18 => ?_
  · intro p hp
    simp only [List.mem_cons] at hp
    rcases hp with h | h | h | h | h | h | h
    iterate 6 (rw [h]; dsimp only; refine neN ?_; omega)
    exact ob p h
  clear F16 N17
  try k_fold
  k_steps
  unfold Halt
  rename IsRange _ _ _ _ _ _ _ _ => hR
  rename Fr _ _ _ _ => F19
  rename News _ _ _ _ => N19
  refine comp_rangeM (n := dd.toNat) (mu := bx) (fun i zs h => ∃ t' ns, IntsAre zs ns ∧ ns.length = i ∧ (∀ x ∈ ns, 0 ≤ x ∧ x < 25) ∧ h.get? bx = some (boxObj ca ((d.toNat : Int) + 1 + 1 + 1 + (i : Int)) t' c0 u0 0)) rfl hR (small_one (by decide) (by decide) (by omega) (by omega)) (by rw [rangeSize_nat]; simp) (by omega)
    ⟨t3, [], .nil, rfl, (fun _ h => nomatch h), (N19 _ (.head _)).1⟩ F19.ns (N19 _ (.head _)).1 (Ne.symm (N19 _ (.head _)).2.1) ?_ ?_ ?_
  · rintro i zs h h' ⟨t', ns, a, b, c, e⟩ hk
    exact ⟨t', ns, a, b, c, hk _ e⟩
  · rintro C i tt zs m' h tk hi ⟨t', ns, hzs, hnl, hns, hbx⟩ hC hk hle
    have hb19 := N19 _ (.head _)
    have hbC : bx ≠ C := Nat.ne_of_lt (Nat.lt_of_lt_of_le (Heap.lt_size hb19.1) hle)
    refine wpAny_assign_Name (wpAny_storeName_local rfl hC (fun h₂ hC₂ hs₂ => ?_) rfl)
    have old₂ : ∀ b o, b ≠ bx → Heap.get? _ b = some o → h₂.get? b = some o := fun b o hb e => hs₂.extBut b o (Nat.ne_of_lt (Nat.lt_of_lt_of_le (Heap.lt_size e) hle)) (hk b o hb e)
    have F₃ : Fr _ s1.heap.objs.size h₂ m2 := ⟨F19.ns.at' fun o e => old₂ _ _ (Ne.symm hb19.2.1) e, fun b o e => old₂ b o (fun q => by rw [q, hb19.2.2] at e; cases e) (F19.keep b o e), F19.above⟩
    have N₃ : News _ s1.heap.objs.size h₂ [(bx, boxObj ca ((d.toNat : Int) + 1 + 1 + 1 + (i : Int)) t' c0 u0 0)] := fun p hp => by
      rw [List.mem_singleton.mp hp]
      exact ⟨hs₂.extBut _ _ hbC hbx, hb19.2⟩
    have hcell₂ : h₂.IsCell (s1.heap.objs.size + 1) (some (.ref bx)) := ⟨o1, old₂ _ _ (neN (by omega)) (N19 _ (List.mem_append_right [_, _, _] (.head _))).1, d1⟩
    have hL₂ : h₂.IsList ca ys.toArray := ⟨_, old₂ _ _ (neN (by omega)) (N19 _ (List.mem_append_right [_, _, _, _, _, _] (.head _))).1, rfl, _, rfl⟩
    refine wpAny_tests_nil ?_
    rw [if_pos rfl]
    try k_fold
    k_steps
    unfold Halt
    refine take_spec _ bx ca (neN (by omega)) ys _ iC (hclen _ _) _ (by omega) (by omega) _ _ _ _ _ (by decide) _ _ _ _ 302 7 (some []) _ [] _ _ _ _ _ _ _ _ rfl rfl (by decide) (by decide) K0 F₃ X9 T9 N₃ hL₂ ?_
    rintro v s' ⟨h₃, tk₃, tl₃, rfl, hk₃, ht₃, d5, td5, t5, rfl, h50, h5M, hm5⟩
    have keep₃ : ∀ b o, b ≠ bx → h₂.get? b = some o → h₃.get? b = some o := fun b o hb e => hk₃ b o (hideAll_get _ e (by simpa using hb))
    have e : (d.toNat : Int) + 1 + 1 + 1 + ((i + 1 : Nat) : Int) = (d.toNat : Int) + 1 + 1 + 1 + (i : Int) + 1 := by omega
    refine ⟨h₃, _, _, rfl, hC₂.at' fun o e => keep₃ _ o (Ne.symm hbC) e, fun b o hb hb' e => keep₃ _ _ (by simpa using hb') (hs₂.extBut b o hb e), t5, ns ++ [d5], ints_snoc hzs _ _, by simp [hnl], ?_, by rw [e]; exact (ht₃ _ hm5).1⟩
    intro x hx
    rcases List.mem_append.mp hx with h | h
    · exact hns x h
    · rw [List.mem_singleton.mp h]
      exact ⟨h50, h5M⟩
  · rintro D h' tk' zs hD hDn ⟨t', ns, hzs, hnl, hns, hbx⟩ hlen hNs hk
    refine off7 N19 ob (neN (by omega)) (neN (by omega)) (neN (by omega)) (neN (by omega)) (neN (by omega)) (neN (by omega)) fun off2 => ?_
    obtain ⟨F20, N20, off20⟩ := compM_end F19 N19 off2 hk hNs hbx hD hDn
    clear off2
    have N21 := news_sub N20 (swap2 (a := [_, _, _, _, _, _, _]) (b := [(D, lst zs)]) (c := tl))
    replace N21 : News _ s1.heap.objs.size _ (_ :: _ :: _ :: _ :: _ :: _ :: _ :: ((D, lst zs) :: tl)) := N21
    have ob5 := fst_ne_cons (o := lst zs) (off20 (bx, _) (.head _)) ob
    clear F19 N19 N20 hk hNs hR hbx off20
    -- ckF
    rename_i ckFv0 ckFv1 ckFv2 ckFv3 ckFv4 ckFv5 ckFv6 ckFv7 ckFv8 ckFv9 ckFv10 ckFv11 ckFv12 ckFv13 ckFv14 ckFv15 ckFv16 ckFv17 ckFv18 ckFv19 ckFv20 ckFv21 ckFv22
    revert ckFv0 ckFv1 ckFv2 ckFv3 ckFv4 ckFv5 ckFv6 ckFv7 ckFv8 ckFv9 ckFv10 ckFv11 ckFv12 ckFv13 ckFv14 ckFv15 ckFv16 ckFv17 ckFv18 ckFv19 ckFv20 ckFv21 ckFv22 zz ck1v1 s1 ck1v3 ck1v4 ck1v5 ck1v6 ck1v7 ck1v8 ck1v9 ck1v10 ck1v11 ck1v12 ck1v13 ck1v14 ck1v15 ck1v16 ck1v17 ck1v18 ck1v19 ck1v20 ck1v21 ck1v22 ck1v23 ck1v24 ck1v25 ck1v26 ck1v27 ck1v28 ck1v29 ck1v30 ck1v31 ck1v32 ck1v33 ck1v34 ck1v35 ck1v36 ck1v37 ck1v38 ck1v39 ck1v40 ck1v41 ck1v42 ck1v43 ck1v44 ck1v45 K0 ck1v47 ck1v48 ck1v49 ck1v50 ck1v52 ck1v53 ck1v54 ck1v56 ck1v57 ck1v58 ck1v61 ck1v62 ck1v63 ck1v64 ck1v65 ck1v66 ck1v67 ck1v68 ck1v69 ck1v70 ck1v71 lifted ckBv0 ckBv1 ck1v72 ck1v74 ck1v75 ck1v76 ck1v77 ck1v78 ck1v80 ck1v81 ck1v82 ys iC ck1v83 ck1v85 ck1v86 ck1v88 ck1v89 ck1v90 ck1v92 ck1v96 ck1v97 ck1v98 ck1v101 ck1v103 ck1v106 ck1v109 ck1v110 ck1v111 ck1v114 ckBv2 T9 X9 ckBv3 hclen ckBv4 ckBv5 ws ckBv6 ckBv7 ckBv8 ckBv9 t0 u0 c0 e11 e12 e13 ck1v79 ck1v55 ck1v59 ck1v60 d td ckBv10 ckBv11 hd0 hdM ckDonev2 ckDonev3 ckDonev4 ckDonev5 ckDonev6 ckDonev7 m₁ h ckCv0 ckCv1 bx kp ca ck1v93 ck1v87 ck1v95 ck1v94 ck1v104 ck1v107 lA hK t kvs ks kn o1 o2 o3 o4 rr tl ob ok ob3 ob4 d1 d2 d3 d4 ik klen klow kdat ckCv2 ckCv3 ckBv14 ckBv15 ckBv16 ckBv17 ckBv18 ckBv19 ckEv0 ckCv4 ckCv5 ys' ckEv1 ckEv2 hys ckEv3 ckEv4 ckDv0 ob45 ckEv5 ckEv6 ckCv8 ckCv9 ckCv10 ckCv11 ckCv12 ckCv13 D2 ckEv7 ckEv8 ckEv9 hD2 hDn2 ckEv10 hlen2 ht2 ckEv11 h6 tk6 ckDv1 ckCv14 ct hcl ckCv15 ckDv2 ckEv12 m2 v ckEv13 ckEv14 ckEv15 ckDv3 b h10 tk10 hb1 hb2 hb3 hkd lo lt t2 h12 tk12 hl0 hlM ckDv4 o4n d4n tk h8 tk8 tl3 ckEv16 pr ckEv17 ckEv18 hvl ht off6 hlow' h16 tk16 tl4 ckEv19 nr hMark dd dt2 t3 h18 tk18 hd20 hd2M qk ek D h' tk' zs hD hDn t' ns hzs hnl hns hlen F20 N21 ob5
    exact hCut.out
set_option maxHeartbeats 16000000 in
noncomputable def cut9 : Cut cut8.P := by
  apply Cut.mk
  intro hCut
  w_top off
  intro zz
  revert zz
  k_fill
  intro zz ck1v1 s1 ck1v3 ck1v4 ck1v5 ck1v6 ck1v7 ck1v8 ck1v9 ck1v10 ck1v11 ck1v12 ck1v13 ck1v14 ck1v15 ck1v16 ck1v17 ck1v18 ck1v19 ck1v20 ck1v21 ck1v22 ck1v23 ck1v24 ck1v25 ck1v26 ck1v27 ck1v28 ck1v29 ck1v30 ck1v31 ck1v32 ck1v33 ck1v34 ck1v35 ck1v36 ck1v37 ck1v38 ck1v39 ck1v40 ck1v41 ck1v42 ck1v43 ck1v44 ck1v45 K0 ck1v47 ck1v48 ck1v49 ck1v50 ck1v52 ck1v53 ck1v54 ck1v56 ck1v57 ck1v58 ck1v61 ck1v62 ck1v63 ck1v64 ck1v65 ck1v66 ck1v67 ck1v68 ck1v69 ck1v70 ck1v71 lifted ckBv0 ckBv1 ck1v72 ck1v74 ck1v75 ck1v76 ck1v77 ck1v78 ck1v80 ck1v81 ck1v82 ys iC ck1v83 ck1v85 ck1v86 ck1v88 ck1v89 ck1v90 ck1v92 ck1v96 ck1v97 ck1v98 ck1v101 ck1v103 ck1v106 ck1v109 ck1v110 ck1v111 ck1v114 ckBv2 T9 X9 ckBv3 hclen ckBv4 ckBv5 ws ckBv6 ckBv7 ckBv8 ckBv9 t0 u0 c0 e11 e12 e13 ck1v79 ck1v55 ck1v59 ck1v60 d td ckFv0 ckBv10 ckBv11 hd0 hdM ckDonev2 ckDonev3 ckDonev4 ckDonev5 ckDonev6 ckDonev7 m₁ h ckCv0 ckCv1 bx kp ca ck1v93 ck1v87 ck1v95 ck1v94 ck1v104 ck1v107 lA hK t kvs ks kn o1 o2 o3 o4 rr tl ob ok ob3 ob4 d1 d2 d3 d4 ik klen klow kdat ckCv2 ckCv3 ckBv14 ckBv15 ckBv16 ckBv17 ckBv18 ckBv19 ckEv0 ckCv4 ckCv5 ys' ckEv1 ckEv2 hys ckEv3 ckEv4 ckDv0 ckFv1 ob45 ckEv5 ckEv6 ckCv8 ckCv9 ckCv10 ckCv11 ckCv12 ckCv13 D2 ckEv7 ckEv8 ckEv9 hD2 hDn2 ckEv10 hlen2 ht2 ckEv11 h6 tk6 ckDv1 ckCv14 ct hcl ckCv15 ckDv2 ckEv12 m2 v ckEv13 ckEv14 ckEv15 ckDv3 b h10 tk10 hb1 hb2 hb3 hkd lo lt t2 h12 tk12 hl0 hlM ckDv4 o4n d4n tk ckFv2 h8 tk8 tl3 ckEv16 pr ckEv17 ckEv18 hvl ckFv3 ckFv4 ckFv5 ckFv6 ckFv7 ckFv8 ckFv9 ckFv10 ht off6 hlow' h16 tk16 tl4 ckEv19 nr ckFv11 ckFv12 hMark ckFv13 ckFv14 dd dt2 t3 h18 tk18 hd20 hd2M ckFv15 ckFv16 qk ek ckFv17 ckFv18 ckFv19 ckFv20 ckFv21 ckFv22 D h' tk' zs hD hDn t' ns hzs hnl hns hlen F20 N21 ob5
  have hMark : LawMark := .here
  replace F20 : Fr _ s1.heap.objs.size _ _ := F20
  have hnz := hzs.length
  dsimp only
  try k_fold
  k_steps
  unfold Halt
  refine newly_spec _ ((D, lst zs) :: tl) D zs.length rr zs ns (lawRanges ks) (by have := law_len ks; omega) (kdat.mono fun p hp => List.mem_cons_of_mem _ hp) (.head _) hzs (by omega) _ _ _ 302 7 (some []) _ [] _ _ _ _ _ _ _ _ rfl rfl (by decide) (by decide) K0 F20 X9 T9 (fun p hp => (N21 p (mem7 hp)).1) ?_
  refine pure_end F20 N21 fun v h8 tk8 tl3 F22 N22 _ hv => ?_
  obtain ⟨na, nvs, nns, nk, rfl, hnm, hnv, hnp, hno⟩ := hv
  rw [newly_law klow] at hnp
  replace N22 := news_sub N22 (swap2 (a := [_, _, _, _, _, _, _]) (b := tl3) (c := (D, lst zs) :: tl))
  replace N22 : News _ s1.heap.objs.size _ (_ :: _ :: _ :: _ :: _ :: _ :: _ :: (tl3 ++ (D, lst zs) :: tl)) := N22
  clear F20 N21
  try k_fold
  k_steps
  unfold Halt
  refine comp_eval (by with_unfolding_all rfl) (by decide) rfl (by decide) (fun _ => rfl) ?_
  try k_fold
  k_steps
  unfold Halt
  refine comp_list (vs := zs) (fun i us tl' => tl' = [] ∧ IntsAre us ((ns.take i).filter fun n => ks.any (· == n))) rfl (News.isList N22 (mem7 (List.mem_append_right _ (.head _)))) (by omega) ⟨rfl, .nil⟩ ?_ ?_
  · rintro C i v ys' tl' m' h tk hv ⟨rfl, hys⟩ hC hk hle ht
    have hilt : i < ns.length := by rw [← hnz]; exact (List.getElem?_eq_some_iff.mp hv).1
    obtain ⟨tt, hx⟩ := hzs.get i ns[i] (List.getElem?_eq_getElem hilt)
    rw [hx] at hv
    obtain rfl := Option.some.inj hv
    refine wpAny_assign_Name (wpAny_storeName_local rfl hC (fun h₂ hC₂ hs₂ => ?_) rfl)
    have old₂ : ∀ b o, Heap.get? _ b = some o → h₂.get? b = some o := fun b o e => hs₂.extBut b o (Nat.ne_of_lt (Nat.lt_of_lt_of_le (Heap.lt_size e) hle)) (hk b o e)
    have hcell₂ : h₂.IsCell (s1.heap.objs.size + 1 + 1) (some (.ref kp)) := ⟨o2, old₂ _ _ (N22 _ (List.mem_append_right [_, _, _, _] (.head _))).1, d2⟩
    have F₃ := Fr.keeps F22 old₂
    refine wpAny_tests_one ?_
    try k_fold
    k_steps
    unfold Halt
    have hkpl : h₂.IsList kp kvs.toArray := ⟨_, old₂ _ _ (N22 _ (.tail _ (.head _))).1, rfl, _, rfl⟩
    refine in_list_ints hkpl ik ?_
    refine wpAny_truthy_bool ?_
    try k_fold
    k_steps
    · rename (ks.any _) = true => hb
      have e := filter_succ (fun n => ks.any (· == n)) hilt
      rw [if_pos hb] at e
      refine ⟨h₂, _, _, [], rfl, hC₂, fun b o hb e => hs₂.extBut b o hb e, by simp, rfl, ?_⟩
      rw [e]
      exact ints_snoc hys _ _
    · rename (ks.any _) = false => hb
      have e := filter_succ (fun n => ks.any (· == n)) hilt
      rw [hb, if_neg (by decide), List.append_nil] at e
      refine ⟨h₂, _, _, [], rfl, hC₂, fun b o hb e => hs₂.extBut b o hb e, by simp, rfl, ?_⟩
      rw [e]
      exact hys
  · rintro D2 h' tk' us tl' hD2 hDn2 ⟨rfl, hus⟩ hlen hk ht
    rw [hnz, List.take_length] at hus
    obtain ⟨F23, N23, off6⟩ := comp_end F22 N22 hk hD2 hDn2
    clear F22 N22 hk
    k_steps
    unfold Halt
    refine sorted_N F23 N23 (News.isList N23 (.head _)) hus (by omega) fun h24 vs' ns' e F24 N24 a1 a2 a3 => ?_
    k_steps
    unfold Halt
    refine ne_ints N24 (.tail _ (.tail _ (mem7 (List.mem_append_left _ hnm)))) hnv (.head _) a1 (sorted_same (hnp.trans a2.symm) hno a3) hu64 ?_
    have N25 := news_sub N24 fun p hp => List.mem_cons_of_mem _ (List.mem_cons_of_mem _ hp)
    replace N25 := news_sub N25 (drops (a := [_, _, _, _, _, _, _]) (b := tl3) (c := (D, lst zs) :: tl))
    replace N25 := news_sub N25 (drop8 (a := [_, _, _, _, _, _, _]) (x := (D, lst zs)) (c := tl))
    replace N25 : News _ s1.heap.objs.size _ (_ :: _ :: _ :: _ :: _ :: _ :: _ :: tl) := N25
    clear N24 F23 N23
    k_steps
    unfold Halt
    -- ckG
    rename_i ckGv0 ckGv1 ckGv2 ckGv3 ckGv4 ckGv5 ckGv6 ckGv7 ckGv8 ckGv9 ckGv10 ckGv11 ckGv12 ckGv13 ckGv14 ckGv15
    revert ckGv0 ckGv1 ckGv2 ckGv3 ckGv4 ckGv5 ckGv6 ckGv7 ckGv8 ckGv9 ckGv10 ckGv11 ckGv12 ckGv13 ckGv14 ckGv15 zz ck1v1 s1 ck1v3 ck1v4 ck1v5 ck1v6 ck1v7 ck1v8 ck1v9 ck1v10 ck1v11 ck1v12 ck1v13 ck1v14 ck1v15 ck1v16 ck1v17 ck1v18 ck1v19 ck1v20 ck1v21 ck1v22 ck1v23 ck1v24 ck1v25 ck1v26 ck1v27 ck1v28 ck1v29 ck1v30 ck1v31 ck1v32 ck1v33 ck1v34 ck1v35 ck1v36 ck1v37 ck1v38 ck1v39 ck1v40 ck1v41 ck1v42 ck1v43 ck1v44 ck1v45 K0 ck1v47 ck1v48 ck1v49 ck1v50 ck1v52 ck1v53 ck1v54 ck1v56 ck1v57 ck1v58 ck1v61 ck1v62 ck1v63 ck1v64 ck1v65 ck1v66 ck1v67 ck1v68 ck1v69 ck1v70 ck1v71 lifted ckBv0 ckBv1 ck1v72 ck1v74 ck1v75 ck1v76 ck1v77 ck1v78 ck1v80 ck1v81 ck1v82 ys iC ck1v83 ck1v85 ck1v86 ck1v88 ck1v89 ck1v90 ck1v92 ck1v96 ck1v97 ck1v98 ck1v101 ck1v103 ck1v106 ck1v109 ck1v110 ck1v111 ck1v114 ckBv2 T9 X9 ckBv3 hclen ckBv4 ckBv5 ws ckBv6 ckBv7 ckBv8 ckBv9 t0 u0 c0 e11 e12 e13 ck1v79 ck1v55 ck1v59 ck1v60 d td ckFv0 ckBv10 ckBv11 hd0 hdM ckDonev2 ckDonev3 ckDonev4 ckDonev5 ckDonev6 ckDonev7 m₁ h ckCv0 ckCv1 bx kp ca ck1v93 ck1v87 ck1v95 ck1v94 ck1v104 ck1v107 lA hK t kvs ks kn o1 o2 o3 o4 rr tl ob ok ob3 ob4 d1 d2 d3 d4 ik klen klow kdat ckCv2 ckCv3 ckBv14 ckBv15 ckBv16 ckBv17 ckBv18 ckBv19 ckEv0 ckCv4 ckCv5 ys' ckEv1 ckEv2 hys ckEv3 ckEv4 ckDv0 ckFv1 ob45 ckEv5 ckEv6 ckCv8 ckCv9 ckCv10 ckCv11 ckCv12 ckCv13 ckEv7 ckEv8 ckEv9 ckEv10 hlen2 ht2 ckEv11 h6 tk6 ckDv1 ckCv14 ct hcl ckCv15 ckDv2 ckEv12 m2 v ckEv13 ckEv14 ckEv15 ckDv3 b h10 tk10 hb1 hb2 hb3 hkd lo lt t2 h12 tk12 hl0 hlM ckDv4 o4n d4n ckFv2 ckEv16 pr ckEv17 ckEv18 hvl ckFv3 ckFv4 ckFv5 ckFv6 ckFv7 ckFv8 ckFv9 ckFv10 hlow' h16 tk16 tl4 ckEv19 nr ckFv11 ckFv12 ckFv13 ckFv14 dd dt2 t3 h18 tk18 hd20 hd2M ckFv15 ckFv16 ckFv17 ckFv18 ckFv19 ckFv20 ckFv21 ckFv22 D zs hD hDn t' ns hzs hnl hns ob5 hMark hnz h8 tk8 tl3 na nvs nns nk hnm hnv hnp hno qk ek D2 h' tk' us hD2 hDn2 hus hlen ht off6 h24 vs' ns' e F24 a1 a2 a3 N25 tk
    exact hCut.out
set_option maxHeartbeats 16000000 in
noncomputable def cutA : Cut cut9.P := by
  apply Cut.mk
  intro hCut
  w_top off
  intro zz
  revert zz
  k_fill
  intro zz ck1v1 s1 ck1v3 ck1v4 ck1v5 ck1v6 ck1v7 ck1v8 ck1v9 ck1v10 ck1v11 ck1v12 ck1v13 ck1v14 ck1v15 ck1v16 ck1v17 ck1v18 ck1v19 ck1v20 ck1v21 ck1v22 ck1v23 ck1v24 ck1v25 ck1v26 ck1v27 ck1v28 ck1v29 ck1v30 ck1v31 ck1v32 ck1v33 ck1v34 ck1v35 ck1v36 ck1v37 ck1v38 ck1v39 ck1v40 ck1v41 ck1v42 ck1v43 ck1v44 ck1v45 K0 ck1v47 ck1v48 ck1v49 ck1v50 ck1v52 ck1v53 ck1v54 ck1v56 ck1v57 ck1v58 ck1v61 ck1v62 ck1v63 ck1v64 ck1v65 ck1v66 ck1v67 ck1v68 ck1v69 ck1v70 ck1v71 lifted ckBv0 ckBv1 ck1v72 ck1v74 ck1v75 ck1v76 ck1v77 ck1v78 ck1v80 ck1v81 ck1v82 ys iC ck1v83 ck1v85 ck1v86 ck1v88 ck1v89 ck1v90 ck1v92 ck1v96 ck1v97 ck1v98 ck1v101 ck1v103 ck1v106 ck1v109 ck1v110 ck1v111 ck1v114 ckBv2 T9 X9 ckBv3 hclen ckBv4 ckBv5 ws ckBv6 ckBv7 ckBv8 ckBv9 t0 u0 c0 e11 e12 e13 ck1v79 ck1v55 ck1v59 ck1v60 d td ckFv0 ckBv10 ckBv11 hd0 hdM ckDonev2 ckDonev3 ckDonev4 ckDonev5 ckDonev6 ckDonev7 m₁ h ckCv0 ckCv1 bx kp ca ck1v93 ck1v87 ck1v95 ck1v94 ck1v104 ck1v107 lA hK t kvs ks kn o1 o2 o3 o4 rr tl ob ok ob3 ob4 d1 d2 d3 d4 ik klen klow kdat ckCv2 ckCv3 ckBv14 ckBv15 ckBv16 ckBv17 ckBv18 ckBv19 ckEv0 ckCv4 ckCv5 ys' ckEv1 ckEv2 hys ckEv3 ckEv4 ckDv0 ckFv1 ob45 ckEv5 ckEv6 ckCv8 ckCv9 ckCv10 ckCv11 ckCv12 ckCv13 ckGv0 ckEv7 ckEv8 ckEv9 ckGv1 ckGv2 ckEv10 hlen2 ht2 ckEv11 h6 tk6 ckDv1 ckCv14 ct hcl ckCv15 ckDv2 ckEv12 m2 v ckEv13 ckEv14 ckEv15 ckDv3 b h10 tk10 hb1 hb2 hb3 hkd lo lt t2 h12 tk12 hl0 hlM ckDv4 o4n d4n ckGv3 ckFv2 ckGv4 ckGv5 ckGv6 ckEv16 pr ckEv17 ckEv18 hvl ckFv3 ckFv4 ckFv5 ckFv6 ckFv7 ckFv8 ckFv9 ckFv10 ckGv7 ckGv8 hlow' h16 tk16 tl4 ckEv19 nr ckFv11 ckFv12 ckGv9 ckFv13 ckFv14 dd dt2 t3 h18 tk18 hd20 hd2M ckFv15 ckFv16 ckGv10 ckGv11 ckFv17 ckFv18 ckFv19 ckFv20 ckFv21 ckFv22 D ckGv12 ckGv13 zs hD hDn t' ns hzs hnl hns ckGv14 ob5 hMark hnz h8 tk8 tl3 ckGv15 na nvs nns nk hnm hnv hnp hno qk ek D2 h' tk' us hD2 hDn2 hus hlen ht off6 h24 vs' ns' e F24 a1 a2 a3 N25 tk
  have hMark : LawMark := .here
  have hkd2 : (dd.toNat : Int) < 7 := by omega
  rename Fr _ _ _ _ => F25
  refine off7 N25 ob (neN (by omega)) (neN (by omega)) (neN (by omega)) (neN (by omega)) (neN (by omega)) (neN (by omega)) fun offx => ?_
  refine take_L (dp := 302) (un := 7) (gd := some []) (outer := []) rfl rfl (by decide) (by decide) K0 F25 X9 T9 N25 offx (by simp) iC (hclen _ _) (by omega) (by omega) (by decide) fun mk mt t4 h28 tk28 hmk0 hmkM F28 N28 => ?_
  clear F25 N25
  try k_fold
  k_steps
  unfold Halt
  rename Fr _ _ _ _ => F29
  rename News _ _ _ _ => N29
  refine ack_spec _ tl rr (lawRanges ks) mk mt hmk0 (by omega) (by have := law_len ks; omega) kdat _ _ _ 302 7 (some []) _ [] _ _ _ _ _ _ _ _ rfl rfl (by decide) (by decide) K0 F29 X9 T9 (fun p hp => (N29 p (mem7 hp)).1) ?_
  refine pure_end F29 N29 fun v h8 tk8 tl3 F30 N30 _ hv => ?_
  obtain ⟨aa, rfl⟩ := ref_of hv
  replace N30 := news_sub N30 (swap2 (a := [_, _, _, _, _, _, _]) (b := tl3) (c := tl))
  replace N30 : News _ s1.heap.objs.size _ (_ :: _ :: _ :: _ :: _ :: _ :: _ :: (tl3 ++ tl)) := N30
  clear F29 N29
  have hd := kdat
  cases hd with
  | list hm hd =>
  rename_i rvs rn
  have hrrl : Heap.IsList _ rr rvs.toArray := News.isList N30 (mem7 (List.mem_append_right _ hm))
  try k_fold
  k_steps
  have hrvl := hd.length
  have hrl25 := law_len ks
  simp only [prs, List.length_map] at hrvl
  obtain ⟨kn2, rfl⟩ := Int.eq_ofNat_of_zero_le hmk0
  refine kmk_slice F30 N30 hrrl .none (.int _ _) (fun D h32 F31 N31 l31 => ?_) (by with_unfolding_all rfl) (by intro _; with_unfolding_all rfl) (by rw [List.size_toArray, sizeLine_eq]; omega)
  have e : slicePick rvs.toArray none (some (kn2 : Int)) none = (rvs.take kn2).toArray := by
    rw [slicePick_upto']
  rw [e] at N31
  have e3 : (prs (lawRanges ks)).take kn2 = prs ((lawRanges ks).take kn2) := by simp [prs]
  have hd2 := all_take kn2 hd
  rw [e3] at hd2
  try k_fold
  k_steps
  unfold Halt
  refine ne_prs (rs := (lawRanges ks).take kn2) (ss := (lawRanges ks).take kn2) N31 (hv.mono fun p hp => List.mem_cons_of_mem _ (mem7 hp)) (.list (.head _) (hd2.mono fun p hp => List.mem_cons_of_mem _ (mem7 (List.mem_append_right _ hp)))) rfl hu64 ?_
  have N32 := news_sub N31 fun p hp => List.mem_cons_of_mem _ hp
  replace N32 := news_sub N32 (drops (a := [_, _, _, _, _, _, _]) (b := tl3) (c := tl))
  replace N32 : News _ s1.heap.objs.size _ (_ :: _ :: _ :: _ :: _ :: _ :: _ :: tl) := N32
  clear N30 F30 N31 hv l31 hd2 e e3 hd hrrl
  refine wpAny_truthy_bool ?_
  rw [if_neg (by decide)]
  -- ckH
  rename_i ckHv0 ckHv1 ckHv2 ckHv3 ckHv4 ckHv5 ckHv6 ckHv7 ckHv8 ckHv9
  revert ckHv0 ckHv1 ckHv2 ckHv3 ckHv4 ckHv5 ckHv6 ckHv7 ckHv8 ckHv9 zz ck1v1 s1 ck1v3 ck1v4 ck1v5 ck1v6 ck1v7 ck1v8 ck1v9 ck1v10 ck1v11 ck1v12 ck1v13 ck1v14 ck1v15 ck1v16 ck1v17 ck1v18 ck1v19 ck1v20 ck1v21 ck1v22 ck1v23 ck1v24 ck1v25 ck1v26 ck1v27 ck1v28 ck1v29 ck1v30 ck1v31 ck1v32 ck1v33 ck1v34 ck1v35 ck1v36 ck1v37 ck1v38 ck1v39 ck1v40 ck1v41 ck1v42 ck1v43 ck1v44 ck1v45 K0 ck1v47 ck1v48 ck1v49 ck1v50 ck1v52 ck1v53 ck1v54 ck1v56 ck1v57 ck1v58 ck1v61 ck1v62 ck1v63 ck1v64 ck1v65 ck1v66 ck1v67 ck1v68 ck1v69 ck1v70 ck1v71 lifted ckBv0 ckBv1 ck1v72 ck1v74 ck1v75 ck1v76 ck1v77 ck1v78 ck1v80 ck1v81 ck1v82 ys iC ck1v83 ck1v85 ck1v86 ck1v88 ck1v89 ck1v90 ck1v92 ck1v96 ck1v97 ck1v98 ck1v101 ck1v103 ck1v106 ck1v109 ck1v110 ck1v111 ck1v114 ckBv2 T9 X9 ckBv3 hclen ckBv4 ckBv5 ws ckBv6 ckBv7 ckBv8 ckBv9 t0 u0 c0 e11 e12 e13 ck1v79 ck1v55 ck1v59 ck1v60 d td ckFv0 ckBv10 ckBv11 hd0 hdM ckDonev2 ckDonev3 ckDonev4 ckDonev5 ckDonev6 ckDonev7 m₁ h ckCv0 ckCv1 bx kp ca ck1v93 ck1v87 ck1v95 ck1v94 ck1v104 ck1v107 lA hK t kvs ks kn o1 o2 o3 o4 rr tl ob ok ob3 ob4 d1 d2 d3 d4 ik klen klow kdat ckCv2 ckCv3 ckBv14 ckBv15 ckBv16 ckBv17 ckBv18 ckBv19 ckEv0 ckCv4 ckCv5 ys' ckEv1 ckEv2 hys ckEv3 ckEv4 ckDv0 ckFv1 ob45 ckEv5 ckEv6 ckCv8 ckCv9 ckCv10 ckCv11 ckCv12 ckCv13 ckGv0 ckEv7 ckEv8 ckEv9 ckGv1 ckGv2 ckEv10 hlen2 ht2 ckEv11 h6 tk6 ckDv1 ckCv14 ct hcl ckCv15 ckDv2 ckEv12 m2 v ckEv13 ckEv14 ckEv15 ckDv3 b h10 tk10 hb1 hb2 hb3 hkd lo lt t2 h12 tk12 hl0 hlM ckDv4 o4n d4n ckGv3 ckFv2 ckGv4 ckGv5 ckGv6 ckEv16 pr ckEv17 ckEv18 hvl ckFv3 ckFv4 ckFv5 ckFv6 ckFv7 ckFv8 ckFv9 ckFv10 ckGv7 ckGv8 hlow' h16 tk16 tl4 ckEv19 nr ckFv11 ckFv12 ckGv9 ckFv13 ckFv14 dd dt2 t3 h18 tk18 hd20 hd2M ckGv10 ckGv11 ckFv17 ckFv18 ckFv19 ckFv20 ckFv21 ckFv22 ckGv12 ckGv13 zs hD hDn t' ns hzs hnl hns ckGv14 ob5 hnz ckGv15 na nvs nns nk hnm hnv hnp hno D2 h' tk' us hD2 hDn2 hus hlen ht off6 h24 vs' ns' e a1 a2 a3 hMark hkd2 offx mt t4 h28 tk28 qk ek tk h8 tk8 tl3 aa rvs rn hm hrl25 hrvl kn2 hmk0 hmkM D h32 F31 N32
  exact hCut.out
set_option maxHeartbeats 16000000 in
noncomputable def cutB : Cut cutA.P := by
  apply Cut.mk
  intro hCut
  w_top off
  intro zz
  revert zz
  k_fill
  intro zz ck1v1 s1 ck1v3 ck1v4 ck1v5 ck1v6 ck1v7 ck1v8 ck1v9 ck1v10 ck1v11 ck1v12 ck1v13 ck1v14 ck1v15 ck1v16 ck1v17 ck1v18 ck1v19 ck1v20 ck1v21 ck1v22 ck1v23 ck1v24 ck1v25 ck1v26 ck1v27 ck1v28 ck1v29 ck1v30 ck1v31 ck1v32 ck1v33 ck1v34 ck1v35 ck1v36 ck1v37 ck1v38 ck1v39 ck1v40 ck1v41 ck1v42 ck1v43 ck1v44 ck1v45 K0 ck1v47 ck1v48 ck1v49 ck1v50 ck1v52 ck1v53 ck1v54 ck1v56 ck1v57 ck1v58 ck1v61 ck1v62 ck1v63 ck1v64 ck1v65 ck1v66 ck1v67 ck1v68 ck1v69 ck1v70 ck1v71 lifted ckBv0 ckBv1 ck1v72 ck1v74 ck1v75 ck1v76 ck1v77 ck1v78 ck1v80 ck1v81 ck1v82 ys iC ck1v83 ck1v85 ck1v86 ck1v88 ck1v89 ck1v90 ck1v92 ck1v96 ck1v97 ck1v98 ck1v101 ck1v103 ck1v106 ck1v109 ck1v110 ck1v111 ck1v114 ckBv2 T9 X9 ckBv3 hclen ckBv4 ckBv5 ws ckBv6 ckBv7 ckBv8 ckBv9 t0 u0 c0 e11 e12 e13 ck1v79 ck1v55 ck1v59 ck1v60 d td ckFv0 ckBv10 ckBv11 hd0 hdM ckDonev2 ckDonev3 ckDonev4 ckDonev5 ckDonev6 ckDonev7 m₁ h ckCv0 ckCv1 bx kp ca ck1v93 ck1v87 ck1v95 ck1v94 ck1v104 ck1v107 lA hK t kvs ks kn o1 o2 o3 o4 rr tl ob ok ob3 ob4 d1 d2 d3 d4 ik klen klow kdat ckCv2 ckCv3 ckBv14 ckBv15 ckBv16 ckBv17 ckBv18 ckBv19 ckEv0 ckCv4 ckCv5 ys' ckEv1 ckEv2 hys ckEv3 ckEv4 ckDv0 ckFv1 ob45 ckEv5 ckEv6 ckCv8 ckCv9 ckCv10 ckCv11 ckCv12 ckCv13 ckGv0 ckEv7 ckEv8 ckEv9 ckGv1 ckGv2 ckEv10 hlen2 ht2 ckEv11 h6 tk6 ckDv1 ckCv14 ct hcl ckCv15 ckDv2 ckEv12 m2 v ckEv13 ckEv14 ckEv15 ckDv3 b h10 tk10 hb1 hb2 hb3 hkd lo lt t2 h12 tk12 hl0 hlM ckDv4 o4n d4n ckGv3 ckFv2 ckGv4 ckGv5 ckGv6 ckEv16 pr ckEv17 ckEv18 hvl ckFv3 ckFv4 ckFv5 ckFv6 ckFv7 ckFv8 ckFv9 ckFv10 ckGv7 ckGv8 hlow' h16 tk16 tl4 ckEv19 nr ckFv11 ckFv12 ckGv9 ckFv13 ckFv14 dd dt2 t3 h18 tk18 hd20 hd2M ckGv10 ckGv11 ckFv17 ckFv18 ckFv19 ckFv20 ckFv21 ckFv22 ckHv0 ckGv12 ckGv13 zs hD hDn t' ns hzs hnl hns ckGv14 ob5 ckHv1 hnz ckHv2 ckHv3 ckHv4 ckGv15 na nvs nns nk hnm hnv hnp hno ckHv5 ckHv6 D2 h' tk' us hD2 hDn2 hus hlen ht off6 h24 vs' ns' e a1 a2 a3 ckHv7 hMark hkd2 offx mt t4 h28 tk28 qk ek ckHv8 tk h8 tk8 tl3 ckHv9 aa rvs rn hm hrl25 hrvl kn2 hmk0 hmkM D h32 F31 N32
  have hMark : LawMark := .here
  have hLit : LitMark := .here
  k_steps
  unfold Halt
  rename Fr _ _ _ _ => F33
  rename News _ _ _ _ => N33
  refine take_P (dp := 302) (un := 7) (gd := some []) (outer := []) (pre := [_, _, _, _, _, _, _, _, _, _, _, _, _, _]) rfl rfl (by decide) (by decide) K0 F33 X9 T9 N33 rfl offx (by simp) iC (hclen _ _) (by omega) (by omega) (by decide) fun ix xt t5 h34 tk34 hix0 hixM F35 N35 => ?_
  clear F33 N33
  -- ckI
  rename_i ckIv0 ckIv1 ckIv2 ckIv3 ckIv4 ckIv5 ckIv6 ckIv7 ckIv8 ckIv9 ckIv10 ckIv11 ckIv12 ckIv13 ckIv14 ckIv15 ckIv16 ckIv17 ckIv18 ckIv19 ckIv20 ckIv21 ckIv22 ckIv23 ckIv24 ckIv25 ckIv26 ckIv27 ckIv28 ckIv29 ckIv30
  revert ckIv0 ckIv1 ckIv2 ckIv3 ckIv4 ckIv5 ckIv6 ckIv7 ckIv8 ckIv9 ckIv10 ckIv11 ckIv12 ckIv13 ckIv14 ckIv15 ckIv16 ckIv17 ckIv18 ckIv19 ckIv20 ckIv21 ckIv22 ckIv23 ckIv24 ckIv25 ckIv26 ckIv27 ckIv28 ckIv29 ckIv30 zz ck1v1 s1 ck1v3 ck1v4 ck1v5 ck1v6 ck1v7 ck1v8 ck1v9 ck1v10 ck1v11 ck1v12 ck1v13 ck1v14 ck1v15 ck1v16 ck1v17 ck1v18 ck1v19 ck1v20 ck1v21 ck1v22 ck1v23 ck1v24 ck1v25 ck1v26 ck1v27 ck1v28 ck1v29 ck1v30 ck1v31 ck1v32 ck1v33 ck1v34 ck1v35 ck1v36 ck1v37 ck1v38 ck1v39 ck1v40 ck1v41 ck1v42 ck1v43 ck1v44 ck1v45 K0 ck1v47 ck1v48 ck1v49 ck1v50 ck1v52 ck1v53 ck1v54 ck1v56 ck1v57 ck1v58 ck1v61 ck1v62 ck1v63 ck1v64 ck1v65 ck1v66 ck1v67 ck1v68 ck1v69 ck1v70 ck1v71 lifted ckBv0 ckBv1 ck1v72 ck1v74 ck1v75 ck1v76 ck1v77 ck1v78 ck1v80 ck1v81 ck1v82 ys iC ck1v83 ck1v85 ck1v86 ck1v88 ck1v89 ck1v90 ck1v92 ck1v96 ck1v97 ck1v98 ck1v101 ck1v103 ck1v106 ck1v109 ck1v110 ck1v111 ck1v114 ckBv2 T9 X9 ckBv3 hclen ckBv4 ckBv5 ws ckBv6 ckBv7 ckBv8 ckBv9 t0 u0 c0 e11 e12 e13 ck1v79 ck1v55 ck1v59 ck1v60 d td ckFv0 ckBv10 ckBv11 hd0 hdM ckDonev2 ckDonev3 ckDonev4 ckDonev5 ckDonev6 ckDonev7 m₁ h ckCv0 ckCv1 bx kp ca ck1v93 ck1v87 ck1v95 ck1v94 ck1v104 ck1v107 lA hK t kvs ks kn o1 o2 o3 o4 rr tl ob ok ob3 ob4 d1 d2 d3 d4 ik klen klow kdat ckCv2 ckCv3 ckBv14 ckBv15 ckBv16 ckBv17 ckBv18 ckBv19 ckEv0 ckCv4 ckCv5 ys' ckEv1 ckEv2 hys ckEv3 ckEv4 ckDv0 ckFv1 ob45 ckEv5 ckEv6 ckCv8 ckCv9 ckCv10 ckCv11 ckCv12 ckCv13 ckGv0 ckEv7 ckEv8 ckEv9 ckGv1 ckGv2 ckEv10 hlen2 ht2 ckEv11 h6 tk6 ckDv1 ckCv14 ct hcl ckCv15 ckDv2 ckEv12 m2 v ckEv13 ckEv14 ckEv15 ckDv3 b h10 tk10 hb1 hb2 hb3 hkd lo lt t2 h12 tk12 hl0 hlM ckDv4 o4n d4n ckGv3 ckFv2 ckGv4 ckGv5 ckGv6 ckEv16 pr ckEv17 ckEv18 hvl ckFv3 ckFv4 ckFv5 ckFv6 ckFv7 ckFv8 ckFv9 ckFv10 ckGv7 ckGv8 hlow' h16 tk16 tl4 ckEv19 nr ckFv11 ckFv12 ckGv9 ckFv13 ckFv14 dd dt2 t3 h18 tk18 hd20 hd2M ckGv10 ckGv11 ckFv17 ckFv18 ckFv19 ckFv20 ckFv21 ckFv22 ckHv0 ckGv12 ckGv13 zs hD hDn t' ns hzs hnl hns ckGv14 ob5 ckHv1 hnz ckHv2 ckHv3 ckHv4 ckGv15 na nvs nns nk hnm hnv hnp hno ckHv5 ckHv6 D2 h' tk' us hD2 hDn2 hus hlen ht off6 h24 vs' ns' e a1 a2 a3 ckHv7 hkd2 offx mt t4 h28 tk28 qk ek ckHv8 h8 tk8 tl3 ckHv9 aa rvs rn hm hrl25 hrvl kn2 hmk0 hmkM D h32 hMark hLit tk ix xt t5 h34 tk34 hix0 hixM F35 N35
  exact hCut.out
set_option maxHeartbeats 16000000 in
theorem law_last : cutB.P := by
  w_top off
  intro zz
  revert zz
  k_fill
  intro zz ck1v1 s1 ck1v3 ck1v4 ck1v5 ck1v6 ck1v7 ck1v8 ck1v9 ck1v10 ck1v11 ck1v12 ck1v13 ck1v14 ck1v15 ck1v16 ck1v17 ck1v18 ck1v19 ck1v20 ck1v21 ck1v22 ck1v23 ck1v24 ck1v25 ck1v26 ck1v27 ck1v28 ck1v29 ck1v30 ck1v31 ck1v32 ck1v33 ck1v34 ck1v35 ck1v36 ck1v37 ck1v38 ck1v39 ck1v40 ck1v41 ck1v42 ck1v43 ck1v44 ck1v45 K0 ck1v47 ck1v48 ck1v49 ck1v50 ck1v52 ck1v53 ck1v54 ck1v56 ck1v57 ck1v58 ck1v61 ck1v62 ck1v63 ck1v64 ck1v65 ck1v66 ck1v67 ck1v68 ck1v69 ck1v70 ck1v71 lifted ckBv0 ckBv1 ck1v72 ck1v74 ck1v75 ck1v76 ck1v77 ck1v78 ck1v80 ck1v81 ck1v82 ys iC ck1v83 ck1v85 ck1v86 ck1v88 ck1v89 ck1v90 ck1v92 ck1v96 ck1v97 ck1v98 ck1v101 ck1v103 ck1v106 ck1v109 ck1v110 ck1v111 ck1v114 ckBv2 T9 X9 ckBv3 hclen ckBv4 ckBv5 ws ckBv6 ckBv7 ckBv8 ckBv9 t0 u0 c0 e11 e12 e13 ck1v79 ck1v55 ck1v59 ck1v60 d td ckFv0 ckBv10 ckBv11 hd0 hdM ckDonev2 ckDonev3 ckDonev4 ckDonev5 ckDonev6 ckDonev7 m₁ h ckCv0 ckCv1 bx kp ca ck1v93 ck1v87 ck1v95 ck1v94 ck1v104 ck1v107 lA hK t kvs ks kn o1 o2 o3 o4 rr tl ob ok ob3 ob4 d1 d2 d3 d4 ik klen klow kdat ckCv2 ckCv3 ckBv14 ckBv15 ckBv16 ckBv17 ckBv18 ckBv19 ckEv0 ckCv4 ckCv5 ys' ckEv1 ckEv2 hys ckEv3 ckEv4 ckDv0 ckFv1 ob45 ckEv5 ckEv6 ckCv8 ckCv9 ckCv10 ckCv11 ckCv12 ckCv13 ckGv0 ckEv7 ckEv8 ckEv9 ckGv1 ckGv2 ckEv10 hlen2 ht2 ckEv11 h6 tk6 ckDv1 ckCv14 ct hcl ckCv15 ckDv2 ckEv12 m2 v ckEv13 ckEv14 ckEv15 ckDv3 b h10 tk10 hb1 hb2 hb3 hkd lo lt t2 h12 tk12 hl0 hlM ckDv4 o4n d4n ckGv3 ckFv2 ckGv4 ckGv5 ckGv6 ckEv16 pr ckEv17 ckEv18 hvl ckFv3 ckFv4 ckFv5 ckFv6 ckFv7 ckFv8 ckFv9 ckFv10 ckGv7 ckGv8 hlow' h16 tk16 tl4 ckEv19 nr ckFv11 ckFv12 ckGv9 ckFv13 ckFv14 dd dt2 t3 h18 tk18 hd20 hd2M ckGv10 ckGv11 ckFv17 ckFv18 ckFv19 ckFv20 ckFv21 ckFv22 ckHv0 ckGv12 ckGv13 zs hD hDn t' ns hzs hnl hns ckGv14 ob5 ckHv1 hnz ckHv2 ckHv3 ckHv4 ckGv15 na nvs nns nk hnm hnv hnp hno ckHv5 ckHv6 D2 h' tk' us hD2 hDn2 hus hlen ht off6 h24 vs' ns' e a1 a2 a3 ckHv7 ckIv0 hkd2 offx mt t4 h28 tk28 qk ek ckHv8 ckIv1 h8 tk8 tl3 ckHv9 aa rvs rn hm hrl25 hrvl kn2 hmk0 hmkM D h32 hMark hLit ckIv2 ckIv3 ckIv4 ckIv5 ckIv6 ckIv7 ckIv8 ckIv9 ckIv10 ckIv11 ckIv12 ckIv13 ckIv14 ckIv15 ckIv16 ckIv17 ckIv18 ckIv19 ckIv20 ckIv21 ckIv22 ckIv23 ckIv24 ckIv25 ckIv26 ckIv27 ckIv28 ckIv29 ckIv30 tk ix xt t5 h34 tk34 hix0 hixM F35 N35
  have hMark : LawMark := .here
  have hLit : LitMark := .here
  replace N35 : News _ s1.heap.objs.size _ (_ :: _ :: _ :: _ :: _ :: _ :: _ :: _ :: _ :: _ :: _ :: _ :: _ :: _ :: _) := N35
  refine bad_pick N35 hix0 hixM (.list (by k_mem) (.cons (.tuple (by k_mem) (.cons (.int _ _) (.cons (.int _ _) .nil))) .nil))
    (.list (by k_mem) (.cons (.tuple (by k_mem) (.cons (.int _ _) (.cons (.int _ _) .nil))) (.cons (.tuple (by k_mem) (.cons (.int _ _) (.cons (.int _ _) .nil))) .nil)))
    (.list (by k_mem) (.cons (.tuple (by k_mem) (.cons (.int _ _) (.cons (.int _ _) .nil))) (.cons (.tuple (by k_mem) (.cons (.int _ _) (.cons (.int _ _) .nil))) .nil)))
    (.list (by k_mem) (.cons (.tuple (by k_mem) (.cons (.int _ _) (.cons (.int _ _) .nil))) .nil))
    (.list (by k_mem) (.cons (.tuple (by k_mem) (.cons (.int _ _) (.cons (.int _ _) .nil))) (.cons (.tuple (by k_mem) (.cons (.int _ _) (.cons (.int _ _) .nil))) .nil)))
    bads fun ba rs hbl hba hrl hrs hdb => ?_
  refine item_base hbl hix0 (by omega) hba ?_
  k_steps
  unfold Halt
  refine right_spec _ _ ba rs hrl hdb _ _ _ 302 7 (some []) _ [] _ _ _ _ _ _ _ _ rfl rfl (by decide) (by decide) K0 F35 X9 T9 (fun p hp => (N35 p (.tail _ hp)).1) ?_
  refine pure_end F35 N35 fun v h36 tk36 tl36 F36 N36 _ hv36 => ?_
  rw [hrs] at hv36
  subst hv36
  replace N36 := news_sub N36 fun p hp => List.mem_append_right tl36 hp
  clear F35 N35 hdb hbl hba
  k_steps
  unfold Halt
  rename Fr _ _ _ _ => F37
  rename News _ _ _ _ => N37
  refine right_spec _ [(_, W.listOf #[] 0)] _ [] (by decide) (.list (.head _) .nil) _ _ _ 302 7 (some []) _ [] _ _ _ _ _ _ _ _ rfl rfl (by decide) (by decide) K0 F37 X9 T9 (fun p hp => (N37 p (by rw [List.mem_singleton.mp hp]; exact .head _)).1) ?_
  refine pure_end F37 N37 fun v h38 tk38 tl38 F38 N38 _ hv38 => ?_
  rw [show rightAll [] = true from rfl] at hv38
  subst hv38
  clear F37 N37
  k_steps
theorem chain {X : Prop} (c1 : Cut X) (c2 : CutB c1.P) (t : c2.P) (c4 : Cut c2.R) (c5 : Cut c4.P) (c6 : Cut c5.P) (c7 : Cut c6.P) (c8 : Cut c7.P) (c9 : Cut c8.P) (cA : Cut c9.P) (cB : Cut cA.P) (l : cB.P) : X :=
  c1.run (c2.run t (c4.run (c5.run (c6.run (c7.run (c8.run (c9.run (cA.run (cB.run l)))))))))
theorem law_holds : PySem.Challenge.rw_no0041_01.Holds := @chain PySem.Challenge.rw_no0041_01.Holds cut1 cut2 law_turn cut4 cut5 cut6 cut7 cut8 cut9 cutA cutB law_last
end Mine
theorem PySem.Challenge.cw_no0041_01_holds : PySem.Challenge.rw_no0041_01.Holds :=
  Mine.law_holds
