import PyProof.Rows.All
import Wide.All
import OpenK.AllK
import Wide.FinOn
import KE.KWhile
import PySem.Challenge.RW_nt0610_01
open PySem PySem.W PyProof.Rows
set_option Elab.async false
namespace Mine
section
open PySem PySem.W PyProof.Rows
noncomputable abbrev Ld := List (Addr × Obj)
/-- the written texts, as the model has them -/
noncomputable abbrev St (l : List String) : List Str := l.map Str.ofString
noncomputable abbrev has (l : List String) (x : Str) : Bool := (St l).any (· == x)
/-- a dict of the ledger, texts to texts -/
noncomputable def dS (T : List (String × String)) : List (PyData × PyData) := T.map fun p => (.str (Str.ofString p.1), .str (Str.ofString p.2))
noncomputable def sget : List (String × String) → Str → Str
  | [], _ => Str.ofString ""
  | p :: r, x => if Str.ofString p.1 = x then Str.ofString p.2 else sget r x
theorem look_sget (x : Str) : ∀ T : List (String × String), (PySem.Spec.lookup (PyData.str x) (dS T)).getD (PyData.str (Str.ofString "")) = PyData.str (sget T x)
  | [] => rfl
  | p :: r => by
    show (if PySem.Spec.same (PyData.str (Str.ofString p.1)) (PyData.str x) = true then some (PyData.str (Str.ofString p.2)) else PySem.Spec.lookup (PyData.str x) (dS r)).getD _ = _
    rw [PyProof.V.same_str]
    unfold sget
    by_cases h : Str.ofString p.1 = x
    · simp [h]
    · simp only [h, decide_false, Bool.false_eq_true, if_false]; exact look_sget x r
theorem flat_sget {v : Value} {x : Str} {T : List (String × String)} (h : PyProof.V.Flat v ((PySem.Spec.lookup (PyData.str x) (dS T)).getD (PyData.str (Str.ofString "")))) : ∃ t, v = .str (sget T x) t := by
  rw [look_sget] at h
  exact PyProof.V.Flat.str_inv h
noncomputable def Tab (w : World) (d : Addr) (o : Obj) (T : List (String × String)) : Prop :=
  (d == sysModules) = false ∧ ∃ kvs, o.IsDictOf (PySem.strKind Challenge.rw_nt0610_01.row.prog w) kvs ∧ PyProof.V.FlatPairs PyData.str kvs (dS T)
theorem r_get {w : World} {A : Around} {E : Value → Shared → Prop} {s : Shared} {h₀ : Heap} {L d : Addr} {news : Ld} {o : Obj} {T : List (String × String)} {x : Str} {tx ty : Tok} {Q : Value → Shared → Prop}
    (N : News h₀ L s.heap news) (hm : (d, o) ∈ news) (hT : Tab w d o T) (h : ∀ t, Q (.str (sget T x) t) { s with toks := s.toks + 1 }) :
    wpAny (model Challenge.rw_nt0610_01.row.prog w) A (call (.builtin "dict.get") [.ref d, .str x tx, .str (Str.ofString "") ty]) Q E s := by
  obtain ⟨lo, kvs, hd, hf⟩ := hT
  refine call_get2_strTab (TabAt.ofNews N hm lo hd hf) (PyProof.V.Flat.str _ _) fun v hv => ?_
  obtain ⟨t, rfl⟩ := flat_sget hv
  exact h t
theorem r_meth {w : World} {A : Around} {E : Value → Shared → Prop} {s : Shared} {h₀ : Heap} {L d : Addr} {news : Ld} {o : Obj} {T : List (String × String)} {pl : Sem Bool} {Q : Value × List Value → Shared → Prop}
    (N : News h₀ L s.heap news) (hm : (d, o) ∈ news) (hT : Tab w d o T) (h : Q (.builtin "dict.get", [.ref d]) s) :
    wpAny (model Challenge.rw_nt0610_01.row.prog w) A (getMethod (.ref d) (Str.ofString "get") pl) Q E s := by
  obtain ⟨lo, kvs, hd, hf⟩ := hT
  exact getMethod_strTab_get (TabAt.ofNews N hm lo hd hf) h
/-- y in x, of two texts -/
noncomputable def inS (y x : Str) : Bool := !(PySem.Builtin.Str.occurrences x y 0 x.length 1).isEmpty
end
section
open PySem PySem.W PyProof.Rows PySem.Spec PySem.Calls
section
variable {prog : Program} {w : World} {A : Around} {E : Value → Shared → Prop} {s : Shared} {h₀ : Heap} {L : Addr} {m : Str → Option Value} {env : Env}
/-- the i-th sign of a text -/
noncomputable def SignIs (l : List Str) (i : Nat) (v : Value) : Prop := ∃ t, v = .str (l.getD i Str.empty) t
theorem walks_sign {I : Addr} {tx : Str} {l : List Str} {T : Nat → Heap → Prop} (hl : tx.cps.toList.map (fun c => (⟨#[c]⟩ : Str)) = l) (W : Walks prog w A I [I] [I] tx.cps.size (SignAt tx) T) : Walks prog w A I [I] [I] tx.cps.size (SignIs l) T where
  sub := W.sub
  frame := W.frame
  item := fun i s Q E hi st hQ => W.item i s Q E hi st fun v h' tk hP => hQ v h' tk (by
    obtain ⟨c, u, hc, rfl⟩ := hP
    refine ⟨u, ?_⟩
    have : l[i]? = some (⟨#[c]⟩ : Str) := by rw [← hl, List.getElem?_map, Array.getElem?_toList, hc]; rfl
    rw [List.getD_eq_getElem?_getD, this]; rfl)
  done := W.done
  self := W.self
theorem striter_st {I : Addr} {T : String} {tx : Str} {t : Tok} : ∀ i (h h' : Heap) (o : Obj) (nw : List (Addr × Obj)), h.IsStrIter I T tx t i → h.get? I = some o → h'.get? I = some o → (∀ b o, h₀.get? b = some o → h'.get? b = some o) → News h₀ L h' nw → True → h'.IsStrIter I T tx t i :=
  fun i h h' o nw st e e' _ _ _ => by
    obtain ⟨o', q, r⟩ := st
    rw [e] at q; cases q
    exact ⟨o, e', r⟩
end
end
section
open PySem PySem.W PyProof.Rows PySem.Spec PySem.Calls
/-- an object that is a list of these texts -/
noncomputable def SL (o : Obj) (ss : List Str) : Prop := ∃ its k, o.cls = .type "list" ∧ o.data = .seq its.toArray k ∧ StrsAre its ss
theorem strs_len : ∀ {vs : List Value} {ss : List Str}, StrsAre vs ss → vs.length = ss.length
  | _, _, .nil => rfl
  | _, _, .cons _ _ r => by rw [List.length_cons, List.length_cons, strs_len r]
theorem strs_at : ∀ {vs : List Value} {ss : List Str}, StrsAre vs ss → ∀ i, i < ss.length → ∃ t, vs[i]? = some (.str (ss.getD i Str.empty) t)
  | _, _, .nil, _, h => by simp at h
  | _, _, .cons _ t _, 0, _ => ⟨t, rfl⟩
  | _, _, .cons _ _ r, i + 1, h => by
    obtain ⟨t, e⟩ := strs_at r i (by simpa using h)
    exact ⟨t, by simpa using e⟩
section
variable {prog : Program} {w : World} {A : Around} {E : Value → Shared → Prop} {s : Shared} {h₀ : Heap} {L a : Addr} {m : Str → Option Value} {news : Ld} {o : Obj} {ss : List Str}
theorem SL.list (S : SL o ss) (N : News h₀ L s.heap news) (hm : (a, o) ∈ news) : ∃ its, s.heap.IsList a its.toArray ∧ StrsAre its ss := by
  obtain ⟨its, k, hc, hd, hs⟩ := S
  exact ⟨its, ⟨o, N.get hm, hc, k, hd⟩, hs⟩
end
end
section
open PySem PySem.W PyProof.Rows PySem.Spec PySem.Calls PyProof.V
section
variable {prog : Program} {w : World} {A : Around} {E : Value → Shared → Prop} {s : Shared} {env : Env} {h₀ : Heap} {x : Str} {body : List Stmt} {Q : Flow → Shared → Prop}
/-- a for over a list of the ledger, by any invariant over the turn's number, the frame and the ledger -/
theorem iter_listJ {l : Addr} {its : List Value} {k : Nat} {o : Obj} {m₀ : Str → Option Value} {news : Ld} (J : Nat → (Str → Option Value) → Ld → Prop)
    (hh : A.handled = none) (F : Fr h₀ env.locals s.heap m₀) (N : News h₀ env.locals s.heap news) (hm : (l, o) ∈ news) (hc : o.cls = .type "list") (hd : o.data = .seq its.toArray k) (hj : J 0 m₀ news)
    (keep : ∀ i m ns, J i m ns → (l, o) ∈ ns)
    (turn : ∀ i v I it m₁ ns h tk, its[i]? = some v → J i m₁ ns → (∀ p ∈ ns, p.1 ≠ I) → Fr h₀ env.locals h (fun y => if y = x then some v else m₁ y) → News h₀ env.locals h ((I, it) :: ns) →
      wpAny (model prog w) A (execs body env) (UnrPost h₀ env.locals { s with heap := h, toks := tk } I it (J (i + 1)) Q) E { s with heap := h, toks := tk })
    (done : ∀ m₁ ns h tk, J its.length m₁ ns → Fr h₀ env.locals h m₁ → News h₀ env.locals h ns → Q .next { s with heap := h, toks := tk }) :
    wpAny (model prog w) A (pyIter (.ref l)) (fun it s₂ => LoopAtV prog w A h₀ env x body Q E it s₂) E s := by
  have hls : s.heap.IsList l its.toArray := ⟨o, N.get hm, hc, k, hd⟩
  have hlt : l < s.heap.objs.size := Heap.lt_size (N.get hm)
  have hne : l ≠ s.heap.objs.size := Nat.ne_of_lt hlt
  refine wpAny_pyIter_list hls ?_
  have W := Walks.list (prog := prog) (w := w) hh s.heap.objs.size l hne its.toArray
  rw [List.size_toArray] at W
  refine ⟨_, _, _, its.length, _, _, m₀, news, J, rfl, W, ?_, ?_, ?_, ⟨⟨_, Heap.get?_push_size _ rfl, rfl, rfl⟩, hls.at fun o e => Heap.get?_push_of_some _ e⟩, F.push _, (fun p hp => ⟨Heap.get?_push_of_some _ (N p hp).1, (N p hp).2⟩), hj, ?_, ?_⟩
  · intro hmem
    rcases List.mem_cons.mp hmem with e | hmem
    · exact absurd F.ns.lt (e ▸ Nat.lt_irrefl _)
    · have := List.mem_singleton.mp hmem
      exact (N _ hm).2.1 this.symm
  · intro b hb
    rw [List.mem_singleton.mp hb]
    exact next_is_new F
  · intro p hp hI
    exact absurd (Heap.lt_size (N p hp).1) ((List.mem_singleton.mp hI) ▸ Nat.lt_irrefl _)
  · rintro i v m₁ ns s₁ own ⟨hh', tk', rfl⟩ hin hP hJ hoff hown hget hall hst F₁ N₁
    obtain ⟨⟨it, hit, _⟩, _⟩ := hst
    have hmemI := hall s.heap.objs.size List.mem_cons_self (next_is_new F) _ hit
    have hP' : its[i]? = some v := by simpa using hP
    have hoff' : ∀ p ∈ ns, p.1 ≠ s.heap.objs.size := fun p hp e => hoff p hp (List.mem_singleton.mpr e)
    have N₂ : News h₀ env.locals hh' ((s.heap.objs.size, it) :: ns) := fun p hp => by
      rcases List.mem_cons.mp hp with rfl | hp
      · exact N₁ _ (List.mem_append_left _ hmemI)
      · exact N₁ _ (List.mem_append_right _ hp)
    refine wpAny_mono (turn i v _ it m₁ ns hh' tk' hP' hJ hoff' F₁ N₂) (fun f s₂ p => ?_) fun _ _ e => e
    have fin : UnrEnd h₀ env.locals { s with heap := hh', toks := tk' } s.heap.objs.size it (J (i + 1)) s₂ → LoopStepU h₀ env.locals [s.heap.objs.size] own (J (i + 1)) { s with heap := hh', toks := tk' } .next s₂ := by
      rintro ⟨h', tk, m', news', e, F', N', ho, r⟩
      refine ⟨rfl, h', tk, m', news', e, F', fun p hp => ?_, fun p hp hI => ho p hp (List.mem_singleton.mp hI), r⟩
      rcases List.mem_append.mp hp with hp | hp
      · rcases List.mem_cons.mp (hown p hp) with h1 | h1
        · have h2 : hh'.get? p.1 = some p.2 := hget p hp
          have h3 : p = (s.heap.objs.size, it) := by
            rw [h1, hit] at h2
            exact Prod.ext h1 (Option.some.inj h2).symm
          rw [h3]; exact N' _ List.mem_cons_self
        · have h1 := List.mem_singleton.mp h1
          have h2 : hh'.get? p.1 = some p.2 := hget p hp
          have h4 := (N₂ _ (List.mem_cons_of_mem _ (keep _ _ _ hJ))).1
          have h3 : p = (l, o) := by
            rw [h1] at h2
            exact Prod.ext h1 (Option.some.inj (h2.symm.trans h4))
          rw [h3]; exact N' _ (List.mem_cons_of_mem _ (keep _ _ _ r))
      · exact N' _ (List.mem_cons_of_mem _ hp)
    cases f with
    | ret v => exact .ret p
    | brk => exact .brk p
    | next => exact .next (fin p)
    | cont => exact .cont (fin p)
  · rintro h' tk m' news' F' N' _ hJ
    exact done m' news' h' tk hJ F' N'
/-- a for over range(a, b), by any invariant -/
theorem iter_rangeJ {r : Addr} {a₀ b₀ : Int} {t₀ u₀ v₀ : Tok} {n : Nat} {m₀ : Str → Option Value} {news : Ld} (J : Nat → (Str → Option Value) → Ld → Prop)
    (hh : A.handled = none) (hr : IsRange s.heap r a₀ b₀ 1 t₀ u₀ v₀) (hsmall : Builtin.Range.small a₀ b₀ 1 = true) (hn : Builtin.Range.rangeSize a₀ b₀ 1 = (n : Int)) (F : Fr h₀ env.locals s.heap m₀) (N : News h₀ env.locals s.heap news) (hj : J 0 m₀ news)
    (turn : ∀ i t I it m₁ ns h tk, i < n → J i m₁ ns → (∀ p ∈ ns, p.1 ≠ I) → Fr h₀ env.locals h (fun y => if y = x then some (.int (a₀ + (i : Int)) t) else m₁ y) → News h₀ env.locals h ((I, it) :: ns) →
      wpAny (model prog w) A (execs body env) (UnrPost h₀ env.locals { s with heap := h, toks := tk } I it (J (i + 1)) Q) E { s with heap := h, toks := tk })
    (done : ∀ m₁ ns h tk, J n m₁ ns → Fr h₀ env.locals h m₁ → News h₀ env.locals h ns → Q .next { s with heap := h, toks := tk }) :
    wpAny (model prog w) A (pyIter (.ref r)) (fun it s₂ => LoopAtV prog w A h₀ env x body Q E it s₂) E s := by
  refine wpAny_pyIter_range hr hsmall ?_
  have W : Walks prog w A s.heap.objs.size [s.heap.objs.size] [s.heap.objs.size] n (fun i v => i < n ∧ ∃ t, v = .int (a₀ + i * 1) t)
      (fun i h => IsRangeIter h s.heap.objs.size (a₀ + (i : Nat) * 1) ((n : Int) - (i : Nat)) 1) := (Walks.range hh _ a₀ 1 n).bound
  refine ⟨_, _, _, n, _, _, m₀, news, J, rfl, W, ?_, ?_, ?_, (by show IsRangeIter _ _ _ _ _; rw [hn]; simpa using Heap.get?_push_size _ rfl), F.push _, (fun p hp => ⟨Heap.get?_push_of_some _ (N p hp).1, (N p hp).2⟩), hj, ?_, ?_⟩
  · intro hm
    exact absurd F.ns.lt ((List.mem_singleton.mp hm) ▸ Nat.lt_irrefl _)
  · intro b hb
    rw [List.mem_singleton.mp hb]
    exact next_is_new F
  · intro p hp hI
    exact absurd (Heap.lt_size (N p hp).1) ((List.mem_singleton.mp hI) ▸ Nat.lt_irrefl _)
  · rintro i v m₁ ns s₁ own ⟨hh', tk', rfl⟩ hin ⟨_, t, rfl⟩ hJ hoff hown hget hall hst F₁ N₁
    obtain ⟨it, hit⟩ : ∃ it, hh'.get? s.heap.objs.size = some it := ⟨_, hst⟩
    have hmemI := hall s.heap.objs.size (List.mem_singleton.mpr rfl) (next_is_new F) _ hit
    have hoff' : ∀ p ∈ ns, p.1 ≠ s.heap.objs.size := fun p hp e => hoff p hp (List.mem_singleton.mpr e)
    rw [Int.mul_one] at F₁
    have N₂ : News h₀ env.locals hh' ((s.heap.objs.size, it) :: ns) := fun p hp => by
      rcases List.mem_cons.mp hp with rfl | hp
      · exact N₁ _ (List.mem_append_left _ hmemI)
      · exact N₁ _ (List.mem_append_right _ hp)
    refine wpAny_mono (turn i t _ it m₁ ns hh' tk' hin hJ hoff' F₁ N₂) (fun f s₂ p => ?_) fun _ _ e => e
    have fin : UnrEnd h₀ env.locals { s with heap := hh', toks := tk' } s.heap.objs.size it (J (i + 1)) s₂ → LoopStepU h₀ env.locals [s.heap.objs.size] own (J (i + 1)) { s with heap := hh', toks := tk' } .next s₂ := by
      rintro ⟨h', tk, m', news', e, F', N', ho, r⟩
      refine ⟨rfl, h', tk, m', news', e, F', fun p hp => ?_, fun p hp hI => ho p hp (List.mem_singleton.mp hI), r⟩
      rcases List.mem_append.mp hp with hp | hp
      · have h1 : p.1 = s.heap.objs.size := List.mem_singleton.mp (hown p hp)
        have h2 : hh'.get? p.1 = some p.2 := hget p hp
        rw [h1, hit] at h2
        have h3 : p = (s.heap.objs.size, it) := Prod.ext h1 (Option.some.inj h2).symm
        rw [h3]; exact N' _ List.mem_cons_self
      · exact N' _ (List.mem_cons_of_mem _ hp)
    cases f with
    | ret v => exact .ret p
    | brk => exact .brk p
    | next => exact .next (fin p)
    | cont => exact .cont (fin p)
  · rintro h' tk m' news' F' N' _ hJ
    exact done m' news' h' tk hJ F' N'
/-- texts to texts -/
noncomputable def dT (T : List (Str × Str)) : List (PyData × PyData) := T.map fun p => (.str p.1, .str p.2)
noncomputable def tput (T : List (Str × Str)) (k v : Str) : List (Str × Str) :=
  if T.any (fun p => decide (p.1 = k)) then T.map (fun p => if decide (p.1 = k) then (p.1, v) else p) else T ++ [(k, v)]
noncomputable def TabG (w : World) (d : Addr) (o : Obj) (T : List (Str × Str)) : Prop :=
  (d == sysModules) = false ∧ ∃ kvs, o.IsDictOf (PySem.strKind Challenge.rw_nt0610_01.row.prog w) kvs ∧ PyProof.V.FlatPairs PyData.str kvs (dT T)
theorem dT_any (T : List (Str × Str)) (k : Str) : ((dT T).any fun p => PySem.Spec.same p.1 (PyData.str k)) = T.any fun p => decide (p.1 = k) := by
  induction T with
  | nil => rfl
  | cons p c ih =>
    show (PySem.Spec.same (PyData.str p.1) (PyData.str k) || (dT c).any fun p => PySem.Spec.same p.1 (PyData.str k)) = (decide (p.1 = k) || c.any fun p => decide (p.1 = k))
    rw [ih, PyProof.V.same_str]
theorem dT_put (T : List (Str × Str)) (k v : Str) : putD (PyData.str k) (PyData.str v) (dT T) = dT (tput T k v) := by
  unfold putD tput
  rw [dT_any]
  by_cases hc : (T.any fun p => decide (p.1 = k)) = true
  · rw [if_pos hc, if_pos hc]
    unfold dT
    rw [List.map_map, List.map_map]
    refine List.map_congr_left fun p _ => ?_
    show (if PySem.Spec.same (PyData.str p.1) (PyData.str k) = true then (PyData.str p.1, PyData.str v) else (PyData.str p.1, PyData.str p.2)) = (fun p : Str × Str => (PyData.str p.1, PyData.str p.2)) (if decide (p.1 = k) = true then (p.1, v) else p)
    rw [PyProof.V.same_str]
    by_cases hp : p.1 = k
    · rw [if_pos (decide_eq_true hp), if_pos (decide_eq_true hp)]
    · rw [if_neg (by simp [hp]), if_neg (by simp [hp])]
  · rw [if_neg hc, if_neg hc]
    unfold dT
    rw [List.map_append]
    rfl
theorem tput_len (T : List (Str × Str)) (k v : Str) : (tput T k v).length ≤ T.length + 1 := by
  unfold tput
  split
  · rw [List.length_map]; omega
  · rw [List.length_append]; simp
noncomputable def tfill (T : List (Str × Str)) (ks : List Str) (v : Str) : List (Str × Str) := ks.foldl (fun T k => tput T k v) T
theorem tfill_len (v : Str) : ∀ (ks : List Str) (T : List (Str × Str)), (tfill T ks v).length ≤ T.length + ks.length
  | [], T => Nat.le_refl _
  | k :: r, T => by
    have h1 := tfill_len v r (tput T k v)
    have h2 := tput_len T k v
    show (tfill (tput T k v) r v).length ≤ _
    rw [List.length_cons]; omega
theorem TabG.toTab {w : World} {d : Addr} {o : Obj} {T : List (Str × Str)} {S : List (String × String)} (h : TabG w d o T) (e : T = S.map fun p => (Str.ofString p.1, Str.ofString p.2)) : Tab w d o S := by
  subst e
  obtain ⟨lo, kvs, h1, h2⟩ := h
  refine ⟨lo, kvs, h1, ?_⟩
  have e2 : dT (S.map fun p => (Str.ofString p.1, Str.ofString p.2)) = dS S := by unfold dT dS; rw [List.map_map]; rfl
  exact e2 ▸ h2
end
section
variable {w : World} {A : Around} {E : Value → Shared → Prop} {s : Shared} {h₀ : Heap} {L d : Addr} {m : Str → Option Value} {news : Ld} {o : Obj} {T : List (Str × Str)} {u : Obj → Ld} {k v : Str} {tk tv : Tok}
theorem r_put {Q : Unit → Shared → Prop} (F : Fr h₀ L s.heap m) (N : News h₀ L s.heap news) (U : UpdF d o news u) (hT : TabG w d o T) (hl : T.length ≤ 1000)
    (h : ∀ h' o', Fr h₀ L h' m → News h₀ L h' (u o') → TabG w d o' (tput T k v) → Q () { s with heap := h', toks := s.toks + 1 }) :
    wpAny (model Challenge.rw_nt0610_01.row.prog w) A (setItem (.ref d) (.str k tk) (.str v tv)) Q E s := by
  obtain ⟨lo, kvs, h1, h2⟩ := hT
  refine setItem_K PyProof.V.same_str (strKind_is _ _ _ _) (PyProof.V.Flat.str v tv) F N U h1 h2 (fun h' o' F' N' a b => h h' o' F' N' ⟨lo, _, a, by rw [← dT_put]; exact b⟩) ?_
  rw [sizeLine_eq]; unfold dT; rw [List.length_map]; omega
end
section
variable {prog : Program} {w : World} {A : Around} {E : Value → Shared → Prop} {s : Shared} {env : Env} {h₀ : Heap} {x : Str} {body : List Stmt} {Q : Flow → Shared → Prop}
end
end
section
open PySem PySem.W PyProof.Rows PySem.Spec PySem.Calls PyProof.V
section
variable {prog : Program} {w : World} {A : Around} {E : Value → Shared → Prop} {s : Shared} {env : Env} {h₀ : Heap} {target : PySem.Expr} {body : List Stmt} {Q : Flow → Shared → Prop}
/-- a for over a list of the ledger with any target -/
theorem turns_listJ {l : Addr} {its : List Value} {k : Nat} {o : Obj} {m₀ : Str → Option Value} {news : Ld} (J : Nat → (Str → Option Value) → Ld → Prop)
    (hh : A.handled = none) (F : Fr h₀ env.locals s.heap m₀) (N : News h₀ env.locals s.heap news) (hm : (l, o) ∈ news) (hc : o.cls = .type "list") (hd : o.data = .seq its.toArray k) (hj : J 0 m₀ news)
    (keep : ∀ i m ns, J i m ns → (l, o) ∈ ns)
    (turn : ∀ i v I it m₁ ns h tk, its[i]? = some v → J i m₁ ns → (∀ p ∈ ns, p.1 ≠ I) → Fr h₀ env.locals h m₁ → News h₀ env.locals h ((I, it) :: ns) →
      wpAny (model prog w) A (assign target env v) (fun _ s₂ => wpAny (model prog w) A (execs body env) (UnrPost h₀ env.locals { s with heap := h, toks := tk } I it (J (i + 1)) Q) E s₂) E { s with heap := h, toks := tk })
    (done : ∀ m₁ ns h tk, J its.length m₁ ns → Fr h₀ env.locals h m₁ → News h₀ env.locals h ns → Q .next { s with heap := h, toks := tk }) :
    wpAny (model prog w) A (pyIter (.ref l)) (fun it s₂ => TurnsAt prog w A h₀ env target body Q E it s₂) E s := by
  have hls : s.heap.IsList l its.toArray := ⟨o, N.get hm, hc, k, hd⟩
  have hlt : l < s.heap.objs.size := Heap.lt_size (N.get hm)
  have hne : l ≠ s.heap.objs.size := Nat.ne_of_lt hlt
  refine wpAny_pyIter_list hls ?_
  have W := Walks.list (prog := prog) (w := w) hh s.heap.objs.size l hne its.toArray
  rw [List.size_toArray] at W
  refine ⟨_, _, _, its.length, _, _, _, m₀, news, J, rfl, KTurns.ofWalks W fun i v s Q E st q => letGo_listiter st.1 q, ?_, ?_, ?_, ⟨⟨_, Heap.get?_push_size _ rfl, rfl, rfl⟩, hls.at fun o e => Heap.get?_push_of_some _ e⟩, F.push _, (fun p hp => ⟨Heap.get?_push_of_some _ (N p hp).1, (N p hp).2⟩), hj, ?_, ?_⟩
  · intro hmem
    rcases List.mem_cons.mp hmem with e | hmem
    · exact absurd F.ns.lt (e ▸ Nat.lt_irrefl _)
    · have := List.mem_singleton.mp hmem
      exact (N _ hm).2.1 this.symm
  · intro b hb
    rw [List.mem_singleton.mp hb]
    exact next_is_new F
  · intro p hp hI
    exact absurd (Heap.lt_size (N p hp).1) ((List.mem_singleton.mp hI) ▸ Nat.lt_irrefl _)
  · rintro i v m₁ ns hh' tk' own hin hP hJ hoff hown hget hall hst F₁ N₁
    obtain ⟨⟨it, hit, _⟩, _⟩ := hst
    have hmemI := hall s.heap.objs.size List.mem_cons_self (next_is_new F) _ hit
    have hP' : its[i]? = some v := by
      have hP2 : its.toArray[i]? = some v := hP
      simpa using hP2
    have hoff' : ∀ p ∈ ns, p.1 ≠ s.heap.objs.size := fun p hp e => hoff p hp (List.mem_singleton.mpr e)
    have N₂ : News h₀ env.locals hh' ((s.heap.objs.size, it) :: ns) := fun p hp => by
      rcases List.mem_cons.mp hp with rfl | hp
      · exact N₁ _ (List.mem_append_left _ hmemI)
      · exact N₁ _ (List.mem_append_right _ hp)
    refine wpAny_mono (turn i v _ it m₁ ns hh' tk' hP' hJ hoff' F₁ N₂) (fun _ s₂ hq => wpAny_mono hq (fun f s₃ p => ?_) fun _ _ e => e) fun _ _ e => e
    have fin : UnrEnd h₀ env.locals { s with heap := hh', toks := tk' } s.heap.objs.size it (J (i + 1)) s₃ → LoopStepU h₀ env.locals [s.heap.objs.size] own (J (i + 1)) { s with heap := hh', toks := tk' } .next s₃ := by
      rintro ⟨h', tk, m', news', e, F', N', ho, r⟩
      refine ⟨rfl, h', tk, m', news', e, F', fun p hp => ?_, fun p hp hI => ho p hp (List.mem_singleton.mp hI), r⟩
      rcases List.mem_append.mp hp with hp | hp
      · rcases List.mem_cons.mp (hown p hp) with h1 | h1
        · have h2 : hh'.get? p.1 = some p.2 := hget p hp
          have h3 : p = (s.heap.objs.size, it) := by
            rw [h1, hit] at h2
            exact Prod.ext h1 (Option.some.inj h2).symm
          rw [h3]; exact N' _ List.mem_cons_self
        · have h1 := List.mem_singleton.mp h1
          have h2 : hh'.get? p.1 = some p.2 := hget p hp
          have h4 := (N₂ _ (List.mem_cons_of_mem _ (keep _ _ _ hJ))).1
          have h3 : p = (l, o) := by
            rw [h1] at h2
            exact Prod.ext h1 (Option.some.inj (h2.symm.trans h4))
          rw [h3]; exact N' _ (List.mem_cons_of_mem _ (keep _ _ _ r))
      · exact N' _ (List.mem_cons_of_mem _ hp)
    cases f with
    | ret v => exact .ret p
    | brk => exact .brk p
    | next => exact .next (fin p)
    | cont => exact .cont (fin p)
  · rintro h' tk m' news' F' N' _ hJ
    exact done m' news' h' tk hJ F' N'
end
/-- the rows: tuples of two texts, objects of the ledger -/
inductive RowsAre (R : Ld) : List Value → List (Str × Str) → Prop
  | nil : RowsAre R [] []
  | cons {a : Addr} {x y : Str} {t u : Tok} {n : Nat} {vs : List Value} {rs : List (Str × Str)} : (a, ({ cls := .type "tuple", data := .seq #[.str x t, .str y u] n } : Obj)) ∈ R → RowsAre R vs rs → RowsAre R (.ref a :: vs) ((x, y) :: rs)
theorem rows_len {R : Ld} : ∀ {vs : List Value} {rs : List (Str × Str)}, RowsAre R vs rs → vs.length = rs.length
  | _, _, .nil => rfl
  | _, _, .cons _ r => by rw [List.length_cons, List.length_cons, rows_len r]
theorem rows_at {R : Ld} {vs : List Value} {rs : List (Str × Str)} (H : RowsAre R vs rs) : ∀ (i : Nat) (v : Value), vs[i]? = some v → ∃ (a : Addr) (x y : Str) (t u : Tok) (n : Nat), v = Value.ref a ∧ rs[i]? = some (x, y) ∧ (a, ({ cls := .type "tuple", data := .seq #[.str x t, .str y u] n } : Obj)) ∈ R := by
  induction H with
  | nil => intro i v h; simp at h
  | cons hm _ ih =>
    intro i v h
    cases i with
    | zero =>
      simp at h
      exact ⟨_, _, _, _, _, _, h.symm, rfl, hm⟩
    | succ i =>
      obtain ⟨a, x, y, t, u, n, e, h1, h2⟩ := ih i v (by simpa using h)
      exact ⟨a, x, y, t, u, n, e, by simpa using h1, h2⟩
section
variable {prog : Program} {w : World} {A : Around} {E : Value → Shared → Prop} {s : Shared} {env : Env} {h₀ : Heap} {target : PySem.Expr} {body : List Stmt} {Q : Flow → Shared → Prop} {xa xb xc : Str}
end
end
section
open PySem PySem.W PyProof.Rows PySem.Calls PySem.Spec
/-- displays of written texts: told at one go -/
noncomputable def strOf : PySem.Expr → Option Str
  | .Constant (.str x) _ _ => some x
  | _ => none
noncomputable def allStr : List PySem.Expr → Bool
  | [] => true
  | e :: es => (strOf e).isSome && allStr es
noncomputable def strsOf : List PySem.Expr → List Str
  | [] => []
  | e :: es => (strOf e).getD Str.empty :: strsOf es
theorem eval_str {M : Model} {A : Around} {E : Value → Shared → Prop} {env : Env} {e : PySem.Expr} {s : Shared} {Q : Value → Shared → Prop} (he : (strOf e).isSome = true) (h : ∀ t tk, Q (.str ((strOf e).getD Str.empty) t) { s with toks := tk }) : wpAny M A (eval e env) Q E s ∧ ∀ rest, starEach (e :: rest) env = (false, eval e env) :: starEach rest env := by
  cases e with
  | Constant c k p =>
    cases c with
    | str x => exact ⟨Calls.Constant_str (h _ _), fun _ => rfl⟩
    | _ => simp [strOf] at he
  | _ => simp [strOf] at he
theorem spliced_strs {M : Model} {A : Around} {E : Value → Shared → Prop} {env : Env} {pos : Pos} : ∀ (elts : List PySem.Expr) (s : Shared) (Q : List Value → Shared → Prop), allStr elts = true →
    (∀ vs tk, StrsAre vs (strsOf elts) → Q vs { s with toks := tk }) → wpAny M A (spliced (backTo pos (starEach elts env))) Q E s
  | [], s, Q, _, h => args_nil (h [] s.toks .nil)
  | e :: es, s, Q, hl, h => by
    have h1 : (strOf e).isSome = true := (Bool.and_eq_true_iff.mp hl).1
    have h2 : allStr es = true := (Bool.and_eq_true_iff.mp hl).2
    refine args_cons (eval_str h1 fun t tk => ?_).1 ((eval_str (M := M) (A := A) (E := E) (s := s) (Q := fun _ _ => True) h1 fun _ _ => trivial).2 es)
    exact spliced_strs es _ _ h2 fun vs tk' hvs => h (_ :: vs) tk' (.cons _ _ hvs)
theorem strs_lenL {vs : List Value} {ss : List Str} (h : StrsAre vs ss) : vs.length = ss.length := StrsAre.length h
theorem Tuple_strs {prog : Program} {w : World} {A : Around} {E : Value → Shared → Prop} {env : Env} {s : Shared} {h₀ : Heap} {L : Addr} {m : Str → Option Value} {news : Ld} {elts : List PySem.Expr} {k : Nat} {pos : Pos} {Q : Value → Shared → Prop} (F : Fr h₀ L s.heap m) (N : News h₀ L s.heap news) (hl : allStr elts = true) (hz : (strsOf elts).length ≤ sizeLine)
    (h : ∀ (D : Addr) (its : List Value) (h' : Heap) (tk' : Nat), StrsAre its (strsOf elts) → Fr h₀ L h' m → News h₀ L h' ((D, ({ cls := .type "tuple", data := .seq its.toArray } : Obj)) :: news) → (∀ p ∈ news, p.1 < D) → Q (.ref D) { s with heap := h', toks := tk' }) :
    wpAny (model prog w) A (eval (.Tuple elts k pos) env) Q E s :=
  Tuple_ (spliced_strs elts s _ hl fun vs tk hvs => newTuple_N (s := { s with toks := tk }) F N (fun h' F' N' => h _ vs h' tk hvs F' N' fun p hp => Heap.lt_size (N p hp).1) (by rw [strs_lenL hvs]; exact hz))
theorem List_strs {prog : Program} {w : World} {A : Around} {E : Value → Shared → Prop} {env : Env} {s : Shared} {h₀ : Heap} {L : Addr} {m : Str → Option Value} {news : Ld} {elts : List PySem.Expr} {pos : Pos} {Q : Value → Shared → Prop} (F : Fr h₀ L s.heap m) (N : News h₀ L s.heap news) (hl : allStr elts = true) (hz : (strsOf elts).length ≤ sizeLine)
    (h : ∀ (D : Addr) (its : List Value) (h' : Heap) (tk' : Nat), StrsAre its (strsOf elts) → Fr h₀ L h' m → News h₀ L h' ((D, listOf its.toArray 0) :: news) → (∀ p ∈ news, p.1 < D) → Q (.ref D) { s with heap := h', toks := tk' }) :
    wpAny (model prog w) A (eval (.List elts pos) env) Q E s :=
  List_ (spliced_strs elts s _ hl fun vs tk hvs => newList_N (s := { s with toks := tk }) F N (fun h' F' N' => h _ vs h' tk hvs F' N' fun p hp => Heap.lt_size (N p hp).1) (by rw [strs_lenL hvs]; exact hz))
end
section
open PySem PySem.W PyProof.Rows PySem.Calls PySem.Spec
/-- displays of rows: tuples of two written texts, told at one go; the ledger is named anew -/
noncomputable def rowOf : PySem.Expr → Option (Str × Str)
  | .Tuple [a, b] _ _ => match strOf a, strOf b with
    | some x, some y => some (x, y)
    | _, _ => none
  | _ => none
noncomputable def allRow : List PySem.Expr → Bool
  | [] => true
  | e :: es => (rowOf e).isSome && allRow es
noncomputable def rowsOf : List PySem.Expr → List (Str × Str)
  | [] => []
  | e :: es => (rowOf e).getD (Str.empty, Str.empty) :: rowsOf es
theorem RowsAre.mono {R R' : Ld} (h : ∀ p ∈ R, p ∈ R') : ∀ {vs : List Value} {rs : List (Str × Str)}, RowsAre R vs rs → RowsAre R' vs rs
  | _, _, .nil => .nil
  | _, _, .cons hm r => .cons (h _ hm) (r.mono h)
theorem rows_app {R : Ld} : ∀ {vs ws : List Value} {rs qs : List (Str × Str)}, RowsAre R vs rs → RowsAre R ws qs → RowsAre R (vs ++ ws) (rs ++ qs)
  | _, _, _, _, .nil, h => h
  | _, _, _, _, .cons hm r, h => .cons hm (rows_app r h)
theorem row_inv {e : PySem.Expr} (h : (rowOf e).isSome = true) : ∃ (a b : PySem.Expr) (k : Nat) (p : Pos) (x y : Str), e = .Tuple [a, b] k p ∧ strOf a = some x ∧ strOf b = some y ∧ rowOf e = some (x, y) := by
  cases e with
  | Tuple l k p =>
    match l, h with
    | [a, b], h =>
      cases ha : strOf a with
      | none => simp [rowOf, ha] at h
      | some x =>
        cases hb : strOf b with
        | none => simp [rowOf, ha, hb] at h
        | some y => exact ⟨a, b, k, p, x, y, rfl, ha, hb, by simp [rowOf, ha, hb]⟩
  | _ => simp [rowOf] at h
theorem two_inv {vs : List Value} {x y : Str} (h : StrsAre vs [x, y]) : ∃ t u, vs = [.str x t, .str y u] := by
  cases h with
  | cons _ t h =>
    cases h with
    | cons _ u h => cases h; exact ⟨t, u, rfl⟩
section
variable {prog : Program} {w : World} {A : Around} {E : Value → Shared → Prop} {env : Env} {h₀ : Heap} {L : Addr} {m : Str → Option Value}
theorem star_row {e : PySem.Expr} (he : (rowOf e).isSome = true) (rest : List PySem.Expr) : starEach (e :: rest) env = (false, eval e env) :: starEach rest env := by
  obtain ⟨a, b, k, p, x, y, rfl, ha, hb, hr⟩ := row_inv he
  rfl
end
end
section
open PySem PySem.W PyProof.Rows PySem.Calls PySem.Spec
/-- displays of triples of written numbers, told at one go; what they add to the ledger is a list X of its own -/
noncomputable def intOf : PySem.Expr → Option Int
  | .Constant (.int x) _ _ => some x
  | _ => none
noncomputable def tripOf : PySem.Expr → Option (Int × Int × Int)
  | .Tuple [a, b, c] _ _ => match intOf a, intOf b, intOf c with
    | some x, some y, some z => some (x, y, z)
    | _, _, _ => none
  | _ => none
noncomputable def allTrip : List PySem.Expr → Bool
  | [] => true
  | e :: es => (tripOf e).isSome && allTrip es
noncomputable def tripsOf : List PySem.Expr → List (Int × Int × Int)
  | [] => []
  | e :: es => (tripOf e).getD (0, 0, 0) :: tripsOf es
inductive TripsAre (R : Ld) : List Value → List (Int × Int × Int) → Prop
  | nil : TripsAre R [] []
  | cons {a : Addr} {r : Int × Int × Int} {t u v : Tok} {vs : List Value} {rs : List (Int × Int × Int)} : (a, ({ cls := .type "tuple", data := .seq #[.int r.1 t, .int r.2.1 u, .int r.2.2 v] } : Obj)) ∈ R → TripsAre R vs rs → TripsAre R (.ref a :: vs) (r :: rs)
theorem TripsAre.mono {R R' : Ld} (h : ∀ p ∈ R, p ∈ R') : ∀ {vs : List Value} {rs : List (Int × Int × Int)}, TripsAre R vs rs → TripsAre R' vs rs
  | _, _, .nil => .nil
  | _, _, .cons hm r => .cons (h _ hm) (r.mono h)
theorem trips_app {R : Ld} : ∀ {vs ws : List Value} {rs qs : List (Int × Int × Int)}, TripsAre R vs rs → TripsAre R ws qs → TripsAre R (vs ++ ws) (rs ++ qs)
  | _, _, _, _, .nil, h => h
  | _, _, _, _, .cons hm r, h => .cons hm (trips_app r h)
theorem trips_len {R : Ld} : ∀ {vs : List Value} {rs : List (Int × Int × Int)}, TripsAre R vs rs → vs.length = rs.length
  | _, _, .nil => rfl
  | _, _, .cons _ r => by rw [List.length_cons, List.length_cons, trips_len r]
theorem trips_at {R : Ld} {vs : List Value} {rs : List (Int × Int × Int)} (H : TripsAre R vs rs) : ∀ (i : Nat) (r : Int × Int × Int), rs[i]? = some r → ∃ (a : Addr) (t u v : Tok), vs[i]? = some (Value.ref a) ∧ (a, ({ cls := .type "tuple", data := .seq #[.int r.1 t, .int r.2.1 u, .int r.2.2 v] } : Obj)) ∈ R := by
  induction H with
  | nil => intro i r h; simp at h
  | cons hm _ ih =>
    intro i r h
    cases i with
    | zero => simp at h; exact ⟨_, _, _, _, rfl, h ▸ hm⟩
    | succ i =>
      obtain ⟨a, t, u, v, h1, h2⟩ := ih i r (by simpa using h)
      exact ⟨a, t, u, v, by simpa using h1, h2⟩
theorem int_inv {e : PySem.Expr} {x : Int} (h : intOf e = some x) : ∃ k p, e = .Constant (.int x) k p := by
  cases e with
  | Constant c k p =>
    cases c with
    | int i => simp [intOf] at h; exact ⟨k, p, by rw [h]⟩
    | _ => simp [intOf] at h
  | _ => simp [intOf] at h
theorem trip_inv {e : PySem.Expr} (h : (tripOf e).isSome = true) : ∃ (ka kb kc k : Nat) (pa pb pc p : Pos) (x y z : Int), e = .Tuple [.Constant (.int x) ka pa, .Constant (.int y) kb pb, .Constant (.int z) kc pc] k p ∧ tripOf e = some (x, y, z) := by
  cases e with
  | Tuple l k p =>
    match l, h with
    | [a, b, c], h =>
      cases ha : intOf a with
      | none => simp [tripOf, ha] at h
      | some x =>
        cases hb : intOf b with
        | none => simp [tripOf, ha, hb] at h
        | some y =>
          cases hc : intOf c with
          | none => simp [tripOf, ha, hb, hc] at h
          | some z =>
            obtain ⟨ka, pa, rfl⟩ := int_inv ha
            obtain ⟨kb, pb, rfl⟩ := int_inv hb
            obtain ⟨kc, pc, rfl⟩ := int_inv hc
            exact ⟨ka, kb, kc, k, pa, pb, pc, p, x, y, z, rfl, rfl⟩
  | _ => simp [tripOf] at h
section
variable {prog : Program} {w : World} {A : Around} {E : Value → Shared → Prop} {env : Env} {h₀ : Heap} {L : Addr} {m : Str → Option Value}
theorem eval_trip {e : PySem.Expr} {s : Shared} {news : Ld} {Q : Value → Shared → Prop} (he : (tripOf e).isSome = true) (F : Fr h₀ L s.heap m) (N : News h₀ L s.heap news)
    (h : ∀ (D : Addr) (t u v : Tok) (h' : Heap) (tk : Nat), (∀ p ∈ news, p.1 < D) → Fr h₀ L h' m → News h₀ L h' ((D, ({ cls := .type "tuple", data := .seq #[.int ((tripOf e).getD (0, 0, 0)).1 t, .int ((tripOf e).getD (0, 0, 0)).2.1 u, .int ((tripOf e).getD (0, 0, 0)).2.2 v] } : Obj)) :: news) → Q (.ref D) { s with heap := h', toks := tk }) :
    wpAny (model prog w) A (eval e env) Q E s := by
  obtain ⟨ka, kb, kc, k, pa, pb, pc, p, x, y, z, rfl, hr⟩ := trip_inv he
  rw [hr] at h
  refine Tuple_ (args_cons (wpAny_Constant_int ?_) rfl)
  refine args_cons (wpAny_Constant_int ?_) rfl
  refine args_cons (wpAny_Constant_int ?_) rfl
  refine args_nil ?_
  exact newTuple_N (s := { s with toks := s.toks + 1 + 1 + 1 }) F N (fun h' F' N' => h _ _ _ _ h' _ (fun p hp => Heap.lt_size (N p hp).1) F' N') (by rw [sizeLine_eq]; show 3 ≤ _; omega)
theorem star_trip {e : PySem.Expr} (he : (tripOf e).isSome = true) (rest : List PySem.Expr) : starEach (e :: rest) env = (false, eval e env) :: starEach rest env := by
  obtain ⟨ka, kb, kc, k, pa, pb, pc, p, x, y, z, rfl, hr⟩ := trip_inv he
  rfl
end
end
section
open PySem PySem.W PyProof.Rows PySem.Calls PySem.Spec
noncomputable def allInt : List PySem.Expr → Bool
  | [] => true
  | e :: es => (intOf e).isSome && allInt es
noncomputable def intsOf : List PySem.Expr → List Int
  | [] => []
  | e :: es => (intOf e).getD 0 :: intsOf es
theorem ints_lenL : ∀ {vs : List Value} {ns : List Int}, IntsAre vs ns → vs.length = ns.length
  | _, _, .nil => rfl
  | _, _, .cons _ _ r => by rw [List.length_cons, List.length_cons, ints_lenL r]
section
variable {prog : Program} {w : World} {A : Around} {E : Value → Shared → Prop} {env : Env} {h₀ : Heap} {L : Addr} {m : Str → Option Value}
theorem spliced_ints {M : Model} {pos : Pos} : ∀ (elts : List PySem.Expr) (s : Shared) (Q : List Value → Shared → Prop), allInt elts = true →
    (∀ vs tk, IntsAre vs (intsOf elts) → Q vs { s with toks := tk }) → wpAny M A (spliced (backTo pos (starEach elts env))) Q E s
  | [], s, Q, _, h => args_nil (h [] s.toks .nil)
  | e :: es, s, Q, hl, h => by
    have h1 : (intOf e).isSome = true := (Bool.and_eq_true_iff.mp hl).1
    have h2 : allInt es = true := (Bool.and_eq_true_iff.mp hl).2
    obtain ⟨x, hx⟩ := Option.isSome_iff_exists.mp h1
    obtain ⟨k, p, rfl⟩ := int_inv hx
    refine args_cons (wpAny_Constant_int ?_) rfl
    exact spliced_ints es _ _ h2 fun vs tk hvs => h (_ :: vs) tk (.cons _ _ hvs)
theorem List_ints {s : Shared} {news : Ld} {elts : List PySem.Expr} {pos : Pos} {Q : Value → Shared → Prop} (F : Fr h₀ L s.heap m) (N : News h₀ L s.heap news) (hl : allInt elts = true) (hz : (intsOf elts).length ≤ 1000)
    (h : ∀ (D : Addr) (its : List Value) (h' : Heap) (tk' : Nat), IntsAre its (intsOf elts) → Fr h₀ L h' m → News h₀ L h' ((D, listOf its.toArray 0) :: news) → (∀ p ∈ news, p.1 < D) → Q (.ref D) { s with heap := h', toks := tk' }) :
    wpAny (model prog w) A (eval (.List elts pos) env) Q E s :=
  List_ (spliced_ints elts s _ hl fun vs tk hvs => newList_N (s := { s with toks := tk }) F N (fun h' F' N' => h _ vs h' tk hvs F' N' fun p hp => Heap.lt_size (N p hp).1) (by rw [ints_lenL hvs, sizeLine_eq]; omega))
end
end
section
open PySem PySem.W PyProof.Rows PySem.Spec PySem.Calls PyProof.V
section
variable {prog : Program} {w : World} {A : Around} {E : Value → Shared → Prop} {s : Shared} {env : Env} {h₀ : Heap} {x : Str} {body : List Stmt} {Q : Flow → Shared → Prop}
/-- a for over a text, by any invariant -/
theorem iter_strJ {tx : Str} {t₀ : Tok} {m₀ : Str → Option Value} {news : Ld} (J : Nat → (Str → Option Value) → Ld → Prop)
    (hh : A.handled = none) (F : Fr h₀ env.locals s.heap m₀) (N : News h₀ env.locals s.heap news) (hj : J 0 m₀ news)
    (turn : ∀ i c t I it m₁ ns h tk, tx.cps[i]? = some c → J i m₁ ns → (∀ p ∈ ns, p.1 ≠ I) → Fr h₀ env.locals h (fun y => if y = x then some (.str ⟨#[c]⟩ t) else m₁ y) → News h₀ env.locals h ((I, it) :: ns) →
      wpAny (model prog w) A (execs body env) (UnrPost h₀ env.locals { s with heap := h, toks := tk } I it (J (i + 1)) Q) E { s with heap := h, toks := tk })
    (done : ∀ m₁ ns h tk, J tx.cps.size m₁ ns → Fr h₀ env.locals h m₁ → News h₀ env.locals h ns → Q .next { s with heap := h, toks := tk }) :
    wpAny (model prog w) A (pyIter (.str tx t₀)) (fun it s₂ => LoopAtV prog w A h₀ env x body Q E it s₂) E s := by
  have go : ∀ (T : String) (o : Obj), Walks prog w A s.heap.objs.size [s.heap.objs.size] [s.heap.objs.size] tx.cps.size (SignAt tx) (fun i h => h.IsStrIter s.heap.objs.size T tx t₀ i) →
      (s.heap.push o).IsStrIter s.heap.objs.size T tx t₀ 0 → LoopAtV prog w A h₀ env x body Q E (.ref s.heap.objs.size) { s with heap := s.heap.push o } := by
    intro T o W st0
    refine ⟨_, _, _, tx.cps.size, _, _, m₀, news, J, rfl, W, ?_, ?_, ?_, st0, F.push _, (fun p hp => ⟨Heap.get?_push_of_some _ (N p hp).1, (N p hp).2⟩), hj, ?_, ?_⟩
    · intro hm
      exact absurd F.ns.lt ((List.mem_singleton.mp hm) ▸ Nat.lt_irrefl _)
    · intro b hb
      rw [List.mem_singleton.mp hb]
      exact next_is_new F
    · intro p hp hI
      exact absurd (Heap.lt_size (N p hp).1) ((List.mem_singleton.mp hI) ▸ Nat.lt_irrefl _)
    · rintro i v m₁ ns s₁ own ⟨hh', tk', rfl⟩ hin ⟨c, t, hc, rfl⟩ hJ hoff hown hget hall hst F₁ N₁
      obtain ⟨it, hit⟩ : ∃ it, hh'.get? s.heap.objs.size = some it := by obtain ⟨o, e, _⟩ := hst; exact ⟨o, e⟩
      have hmemI := hall s.heap.objs.size (List.mem_singleton.mpr rfl) (next_is_new F) _ hit
      have hoff' : ∀ p ∈ ns, p.1 ≠ s.heap.objs.size := fun p hp e => hoff p hp (List.mem_singleton.mpr e)
      have N₂ : News h₀ env.locals hh' ((s.heap.objs.size, it) :: ns) := fun p hp => by
        rcases List.mem_cons.mp hp with rfl | hp
        · exact N₁ _ (List.mem_append_left _ hmemI)
        · exact N₁ _ (List.mem_append_right _ hp)
      refine wpAny_mono (turn i c t _ it m₁ ns hh' tk' hc hJ hoff' F₁ N₂) (fun f s₂ p => ?_) fun _ _ e => e
      have fin : UnrEnd h₀ env.locals { s with heap := hh', toks := tk' } s.heap.objs.size it (J (i + 1)) s₂ → LoopStepU h₀ env.locals [s.heap.objs.size] own (J (i + 1)) { s with heap := hh', toks := tk' } .next s₂ := by
        rintro ⟨h', tk, m', news', e, F', N', ho, r⟩
        refine ⟨rfl, h', tk, m', news', e, F', fun p hp => ?_, fun p hp hI => ho p hp (List.mem_singleton.mp hI), r⟩
        rcases List.mem_append.mp hp with hp | hp
        · have h1 : p.1 = s.heap.objs.size := List.mem_singleton.mp (hown p hp)
          have h2 : hh'.get? p.1 = some p.2 := hget p hp
          rw [h1, hit] at h2
          have h3 : p = (s.heap.objs.size, it) := Prod.ext h1 (Option.some.inj h2).symm
          rw [h3]; exact N' _ List.mem_cons_self
        · exact N' _ (List.mem_cons_of_mem _ hp)
      cases f with
      | ret v => exact .ret p
      | brk => exact .brk p
      | next => exact .next (fin p)
      | cont => exact .cont (fin p)
    · rintro h' tk m' news' F' N' _ hJ
      exact done m' news' h' tk hJ F' N'
  cases ha : tx.cps.all (· < 128)
  · exact wpAny_pyIter_wide ha (go "str_iterator" _ (Walks.strWide hh _ tx t₀) ⟨_, Heap.get?_push_size _ rfl, rfl, rfl⟩)
  · exact wpAny_pyIter_ascii ha (go "str_ascii_iterator" _ (Walks.strAscii hh _ tx t₀) ⟨_, Heap.get?_push_size _ rfl, rfl, rfl⟩)
end
noncomputable def lowN (c : Nat) : Nat := if 65 ≤ c ∧ c ≤ 90 then c + 32 else c
noncomputable def low1 (c : Nat) : Str := ⟨#[lowN c]⟩
noncomputable def lows (x : Str) : List Str := x.cps.toList.map low1
noncomputable def lowT (x : Str) : Str := Txt.join (Str.ofString "") (lows x)
theorem upA (c : Nat) : ([c] < (Str.ofString "A").cps.toList) ↔ c < 65 := by
  have e : (Str.ofString "A").cps.toList = [65] := by decide +kernel
  rw [e]
  simp [List.cons_lt_cons_iff]
theorem upZ (c : Nat) : ((Str.ofString "Z").cps.toList < [c]) ↔ 90 < c := by
  have e : (Str.ofString "Z").cps.toList = [90] := by decide +kernel
  rw [e]
  simp [List.cons_lt_cons_iff]
theorem low_hi {c : Nat} {t : Tok} (h : 65 ≤ c ∧ c ≤ 90) : Value.str ⟨#[((c : Int) + 32).toNat]⟩ t = .str (low1 c) t := by
  unfold low1 lowN
  rw [if_pos h, show ((c : Int) + 32).toNat = c + 32 by omega]
theorem low_lo {c : Nat} {t : Tok} (h : ¬ (65 ≤ c ∧ c ≤ 90)) : Value.str ⟨#[c]⟩ t = .str (low1 c) t := by
  unfold low1 lowN
  rw [if_neg h]
theorem lows_len (x : Str) : ((lows x).map (·.length)).sum = (lows x).length := by
  unfold lows
  induction x.cps.toList with
  | nil => rfl
  | cons a r ih => simp only [List.map_cons, List.sum_cons, List.length_cons, ih]; show 1 + _ = _; omega
theorem r_joinL {prog : Program} {w : World} {A : Around} {E : Value → Shared → Prop} {s : Shared} {h₀ : Heap} {L l : Addr} {news : Ld} {vs : Array Value} {k : Nat} {x : Str} {u : Tok} {Q : Value → Shared → Prop} (N : News h₀ L s.heap news) (hm : (l, listOf vs k) ∈ news) (hS : StrsAre vs.toList (lows x)) (hx : x.length ≤ 100)
    (h : ∀ t' k, Q (.str (lowT x) t') { s with toks := k }) : wpAny (model prog w) A (call (.builtin "str.join") [.str (Str.ofString "") u, .ref l]) Q E s :=
  join_listW (N.isList hm) hS (by decide +kernel) (by
    rw [lows_len]
    have : (lows x).length = x.length := by unfold lows; rw [List.length_map, Array.length_toList]; rfl
    omega) h
theorem ints_at : ∀ {vs : List Value} {ns : List Int}, IntsAre vs ns → ∀ i, i < ns.length → ∃ z t, vs[i]? = some (.int z t)
  | _, _, .nil, _, h => by simp at h
  | _, _, .cons z t _, 0, _ => ⟨z, t, rfl⟩
  | _, _, .cons _ _ r, i + 1, h => by
    obtain ⟨z, t, e⟩ := ints_at r i (by simpa using h)
    exact ⟨z, t, by simpa using e⟩
theorem r_itemI {prog : Program} {w : World} {A : Around} {E : Value → Shared → Prop} {s : Shared} {a : Addr} {vs : List Value} {ns : List Int} {value slice : PySem.Expr} {k : Int} {u : Tok} {Q : Value → Shared → Prop} (hil : s.heap.IsList a vs.toArray) (S : IntsAre vs ns) (hn : ns.length ≤ 63) (h0 : 0 ≤ k) (h1 : k < (ns.length : Int)) (h : ∀ z t, Q (.int z t) s)
    (hs : subscripted slice false (.ref a) (.int k u) = operate [.ref a, .int k u] (getItem (.ref a) (.int k u)) := by with_unfolding_all rfl) :
    wpAny (model prog w) A (subscriptTail value slice (.ref a) (.int k u)) Q E s := by
  obtain ⟨z, t, ht⟩ := ints_at S k.toNat (by omega)
  exact tail_any hil.typeIs slot_list_getitem.lookup (wpAny_getItem_list (x := .int z t) hil h0 (by omega) (by simpa using ht) (h _ _)) hs
theorem strs_snoc {y : Str} {t : Tok} : ∀ {vs : List Value} {ys : List Str}, StrsAre vs ys → StrsAre (vs ++ [.str y t]) (ys ++ [y])
  | _, _, .nil => .cons y t .nil
  | _, _, .cons z u r => .cons z u (strs_snoc r)
end
section
open PySem PySem.W PyProof.Rows PySem.Spec PySem.Calls PyProof.V
noncomputable abbrev Pr : Program := Challenge.rw_nt0610_01.row.prog
noncomputable abbrev Lo := List (Str × Value)
/-- the ledger, by blocks -/
noncomputable abbrev Lb := List Ld
noncomputable abbrev KU := Lo → Lo → Lb → Nat → Prop
noncomputable abbrev KV := Value → KU
/-- a local stored -/
noncomputable def setL (x : Str) (v : Value) : Lo → Lo
  | [] => [(x, v)]
  | (y, u) :: r => bif y == x then (y, v) :: r else (y, u) :: setL x v r
theorem lookup_setL (x : Str) (v : Value) (y : Str) : ∀ m : Lo, (setL x v m).lookup y = if y = x then some v else m.lookup y
  | [] => by
    show List.lookup y [(x, v)] = _
    rw [List.lookup_cons]
    by_cases h : y = x
    · rw [if_pos h, h, beq_self_eq_true]
    · rw [if_neg h, beq_eq_false_iff_ne.mpr h]
  | (z, u) :: r => by
    unfold setL
    by_cases hz : z = x
    · rw [hz, beq_self_eq_true, cond_true, List.lookup_cons, List.lookup_cons]
      by_cases h : y = x
      · rw [if_pos h, h, beq_self_eq_true]
      · rw [if_neg h, beq_eq_false_iff_ne.mpr h]
    · rw [beq_eq_false_iff_ne.mpr hz, cond_false, List.lookup_cons, List.lookup_cons, lookup_setL x v y r]
      by_cases h : y = z
      · rw [h, if_neg hz]; simp [hz]
      · rw [beq_eq_false_iff_ne.mpr h]
/-- the keys of a ledger stand apart -/
noncomputable def Apart (l : Ld) : Prop := (l.map (·.1)).Nodup
/-- the names of the top that the law's text reads -/
noncomputable def globsK : List (String × Nat) := [("is_upper", 28), ("lower", 35), ("lower_text", 42), ("is_special", 49), ("is_formatting", 56), ("is_heading", 63), ("is_void", 70), ("is_raw", 77), ("is_table_part", 84), ("is_math_point", 91), ("is_html_point", 98), ("implied_names", 105), ("all_implied_names", 112), ("Formatting", 224), ("OpenStack", 329), ("Tree", 446), ("Builder", 524), ("mode_of", 535), ("select_mode", 542), ("mode_for", 549), ("reset_mode", 556), ("_law_digit", 563), ("_law_table", 570), ("_law_modes", 577), ("_law_spoiled", 584), ("_law_named", 589), ("_law_points", 596), ("_law_tells", 601), ("_law_resets", 606)]
noncomputable def globsB : Lo := [(Str.ofString "len", .builtin "len"), (Str.ofString "sorted", .builtin "sorted"), (Str.ofString "chr", .builtin "chr"), (Str.ofString "ord", .builtin "ord"), (Str.ofString "list", .type "list"), (Str.ofString "range", .type "range")]
noncomputable def globs : Lo := globsB ++ globsK.map fun p => (Str.ofString p.1, .ref p.2)
/-- what a name reads: a local, a cell, a name of the top -/
noncomputable def see (S : Scope) (m cv : Lo) (x : Str) : Option Value := match m.lookup x with
  | some v => some v
  | none => match cv.lookup x with
    | some v => some v
    | none => match globs.lookup x with
      | some v => (match S.names.lookup x with
        | some .globalImplicit => some v
        | _ => none)
      | none => none
noncomputable def GlobIs (K : Frag) (x : Str) (v : Value) : Prop := nsIn (K) mainGlobals x = some (some v) ∨ (nsIn (K) mainGlobals x = some none ∧ bootBuiltins x = some v ∧ x ≠ Str.ofString "__name__")
/-- the functions of the text that are called -/
noncomputable def fnsK : List Nat := [28, 35, 42, 49, 56, 63, 70, 77, 84, 91, 98, 105, 112, 270, 356, 365, 436, 443, 486, 224, 329, 446, 524, 535, 542, 549, 556, 563, 570, 577, 584, 589, 596, 601, 606]
/-- what a call's arguments bind -/
noncomputable def Binds (K : Frag) (f : Addr) (args : List Value) (binds : Lo) : Prop := ∀ (s : Shared) (o : Obj) (fd : FuncData), List.lookup f (K) = some o → o.data = .func fd → K.In s.heap → BindsTo s fd ⟨args, []⟩ binds
/-! the attributes of the text's classes -/
noncomputable def attrT : List (Nat × List String) := [(446, ["kinds", "spaces", "names", "attrs", "texts", "parents", "children", "contents"]), (329, ["tree", "items"]), (224, ["tree", "items"]),
  (524, ["rules", "tree", "stack", "formatting", "mode", "original", "modes", "head", "form", "owners", "is_frameset_ok", "is_scripting", "is_foster", "context", "quirks", "errors", "pending", "wish", "is_skipping", "is_acknowledged", "is_done"])]
noncomputable def inT (C : Nat) (name : Str) : Bool := attrT.any fun p => p.1 == C && p.2.any fun x => Str.ofString x == name
structure AttrOk (K : Frag) (C : Addr) (name : Str) : Prop where
  g : plainGet (K) C name = true
  d : hasDictIn (K) C = true
  a : findIn (K) (.ref C) name = some none
  s : findIn (K) (.ref C) (Str.ofString "__setattr__") = some (some (.builtin "object.__setattr__"))
  o : plainOver (K) C = true
/-! the methods -/
noncomputable def methT : List (Nat × String × Nat) := [(446, "add", 356), (446, "element", 365), (446, "value", 436), (446, "is_html", 443), (329, "many", 270), (524, "to", 486)]
noncomputable def methOf (C : Nat) (name : Str) : Option Nat := (methT.find? fun p => p.1 == C && Str.ofString p.2.1 == name).map (·.2.2)
structure MethOk (K : Frag) (C : Addr) (name : Str) (f : Addr) : Prop where
  g : plainGet (K) C name = true
  a : findIn (K) (.ref C) name = some (some (.ref f))
  i : isFn (K) (.ref f) = true
/-- the given program's statements, by their places -/
noncomputable def nthS : List Stmt → Nat → Stmt
  | [], _ => .Pass ⟨0, 0, 0, 0⟩
  | s :: _, 0 => s
  | _ :: r, n + 1 => nthS r n
noncomputable def clsB : Stmt → List Stmt
  | .ClassDef _ _ _ b _ _ _ _ _ _ _ => b
  | _ => []
noncomputable def stTop (i : Nat) : Stmt := nthS Challenge.rw_nt0610_01.row.prog.main.body i
noncomputable def stIn (i j : Nat) : Stmt := nthS (clsB (stTop i)) j
noncomputable def fdN : Stmt → Str
  | .FunctionDef n _ _ _ _ _ _ _ _ _ => n
  | _ => Str.empty
noncomputable def fdA : Stmt → Arguments
  | .FunctionDef _ a _ _ _ _ _ _ _ _ => a
  | _ => ⟨[], [], none, [], [], none, []⟩
noncomputable def fdB : Stmt → List Stmt
  | .FunctionDef _ _ b _ _ _ _ _ _ _ => b
  | _ => []
noncomputable def fdS : Stmt → Scope
  | .FunctionDef _ _ _ _ _ _ s _ _ _ => s
  | _ => ⟨.module, [], false, false, []⟩
/-- a def of the text stands at an address -/
noncomputable def FnAt (K : Frag) (f : Addr) (st : Stmt) (dV : Value) : Prop := ∃ qual doc pm an cdv ct oc od osl, List.lookup f K = some { cls := oc, dict := od, data := .func (fnOf (fdN st) qual (fdA st) (fdB st) (fdS st) dV .none doc pm an cdv ct), slots := osl } ∧ codeIn K cdv qual = true
/-- a class that makes its objects by its own __init__ -/
noncomputable def ClsAt (K : Frag) (C f : Addr) : Prop := makesIn K C = true ∧ findIn K (.ref C) (Str.ofString "__init__") = some (some (.ref f)) ∧ isFn K (.ref f) = true
set_option genInjectivity false in
/-- what is asked of a heap's written part: the top's names, the defs and the classes of the text -/
structure KOk (K : Frag) : Prop where
  globs : ∀ x v, globs.lookup x = some v → GlobIs K x v
  keep : ∀ a, fnsK.contains a = true → keepIn K (.ref a) = true
  attr : ∀ {C name}, inT C name = true → AttrOk K C name
  meth : ∀ {C name f}, methOf C name = some f → MethOk K C name f
  f28 : FnAt K 28 (stTop 2) .none
  f35 : FnAt K 35 (stTop 3) .none
  f42 : FnAt K 42 (stTop 4) .none
  f49 : FnAt K 49 (stTop 6) .none
  f56 : FnAt K 56 (stTop 7) .none
  f63 : FnAt K 63 (stTop 8) .none
  f70 : FnAt K 70 (stTop 9) .none
  f77 : FnAt K 77 (stTop 10) .none
  f84 : FnAt K 84 (stTop 11) .none
  f91 : FnAt K 91 (stTop 12) .none
  f98 : FnAt K 98 (stTop 13) .none
  f105 : FnAt K 105 (stTop 14) .none
  f112 : FnAt K 112 (stTop 15) .none
  f158 : FnAt K 158 (stIn 20 0) .none
  f242 : FnAt K 242 (stIn 22 0) .none
  f270 : FnAt K 270 (stIn 22 4) .none
  f347 : FnAt K 347 (stIn 24 0) .none
  f356 : FnAt K 356 (stIn 24 1) (.ref 349)
  f365 : FnAt K 365 (stIn 24 2) (.ref 358)
  f436 : FnAt K 436 (stIn 24 12) .none
  f443 : FnAt K 443 (stIn 24 13) .none
  f472 : FnAt K 472 (stIn 27 0) (.ref 465)
  f486 : FnAt K 486 (stIn 27 2) .none
  f535 : FnAt K 535 (stTop 29) .none
  f542 : FnAt K 542 (stTop 30) .none
  f549 : FnAt K 549 (stTop 31) .none
  f556 : FnAt K 556 (stTop 32) .none
  f563 : FnAt K 563 (stTop 34) .none
  f570 : FnAt K 570 (stTop 35) .none
  f577 : FnAt K 577 (stTop 36) .none
  f584 : FnAt K 584 (stTop 37) .none
  f589 : FnAt K 589 (stTop 38) .none
  f596 : FnAt K 596 (stTop 39) .none
  f601 : FnAt K 601 (stTop 40) .none
  f606 : FnAt K 606 (stTop 41) .none
  c446 : ClsAt K 446 347
  c329 : ClsAt K 329 242
  c224 : ClsAt K 224 158
  c524 : ClsAt K 524 472
  add5 : ∃ q, ∀ t x y z b, Binds K 356 [t, x, y, z, b] [(Str.ofString "self", t), (Str.ofString "kind", x), (Str.ofString "space", y), (Str.ofString "name", z), (Str.ofString "attrs", b), (Str.ofString "text", q)]
  add2 : ∃ ty tz b q, (∀ t x, Binds K 356 [t, x] [(Str.ofString "self", t), (Str.ofString "kind", x), (Str.ofString "space", .str (Str.ofString "") ty), (Str.ofString "name", .str (Str.ofString "") tz), (Str.ofString "attrs", .ref b), (Str.ofString "text", q)]) ∧ List.lookup b K = some { cls := .type "tuple", data := .seq #[] 0 }
  el4 : ∀ t z y b, Binds K 365 [t, z, y, b] [(Str.ofString "self", t), (Str.ofString "name", z), (Str.ofString "space", y), (Str.ofString "attrs", b)]
  el3 : ∃ b, (∀ t z y, Binds K 365 [t, z, y] [(Str.ofString "self", t), (Str.ofString "name", z), (Str.ofString "space", y), (Str.ofString "attrs", .ref b)]) ∧ List.lookup b K = some { cls := .type "tuple", data := .seq #[] 0 }
  ini : ∀ x ru, Binds K 472 [x, ru] [(Str.ofString "self", x), (Str.ofString "rules", ru), (Str.ofString "is_scripting", .bool false)]
/-- a world, a written part of the heap, a view of the top -/
structure WG where
  w : World
  K : Frag
  vw : Program
  ok : KOk K
noncomputable abbrev KF (w : WG) : Frag := w.K
set_option genInjectivity false in
set_option genSizeOf false in
/-- the frame at hand: ev is where names are read, fe the frame's own, Inv what the locals and the hidden objects are -/
structure Ct (w : WG) (S : Scope) (r u : Nat) where
  L : Addr
  ev : Env
  fe : Env
  A : Around
  outer : List Env
  A₀ : Around
  base : Heap
  h₀ : Heap
  E : Value → Shared → Prop
  s : Shared
  mean : ExcName → Option Value
  mg : Str → Option Value
  mb : Str → Option Value
  Inv : Lo → Lo → (Str → Option Value) → Ld → Prop
  B : Below A₀ base outer h₀
  X : (KF w).In h₀
  T : Top w.vw (looseW w.vw [Str.ofString "Tree"]) mean mg mb h₀
  hI : interactive ev = false
  hA : A.frames = some (fe :: outer)
  hfr : fe.frame = some L
  hfk : fe.scope.kind = .function
  hn : A.handled = none
  hd : A.depth + r < recursionLimit
  hu : A.units + u < cLine
  rd : ∀ {m cv mm co l h tk x pos v} {Q : Value → Shared → Prop}, Fr h₀ L h mm → Inv m cv mm co → News h₀ L h (co ++ l) → see S m cv x = some v → Q v { s with heap := h, toks := tk } → wpAny (model Pr w.w) A (eval (.Name x pos) ev) Q E { s with heap := h, toks := tk }
section
variable {w : WG} {S : Scope} {r u : Nat}
noncomputable abbrev Ct.sh (c : Ct w S r u) (h : Heap) (tk : Nat) : Shared := { c.s with heap := h, toks := tk }
structure CellOk (S : Scope) (cl : List (Str × Addr)) (cv : Lo) (co : Ld) : Prop where
  keys : co.map (·.1) = cl.map (·.2)
  all : ∀ x, S.names.lookup x = some .cell → ∃ a, cl.lookup x = some a
  cell : ∀ p ∈ co, ∃ v, p.2.data = .cell v
  val : ∀ x v, cv.lookup x = some v → S.names.lookup x = some .cell ∧ ∃ a o, cl.lookup x = some a ∧ (a, o) ∈ co ∧ o.data = .cell (some v)
noncomputable def LoOk (S : Scope) (m : Lo) (mm : Str → Option Value) : Prop := ∀ x v, m.lookup x = some v → mm x = some v ∧ S.names.lookup x = some .local
/-- what the heap holds: locals, cells, ledger -/
noncomputable def Holds (c : Ct w S r u) (m cv : Lo) (l : Lb) (h : Heap) : Prop :=
  ∃ mm co, Fr c.h₀ c.L h mm ∧ c.Inv m cv mm co ∧ News c.h₀ c.L h (co ++ l.flatten) ∧ Apart (co ++ l.flatten)
noncomputable abbrev Out (c : Ct w S r u) {α : Type} (K : α → KU) (v : α) (s' : Shared) : Prop :=
  ∃ m' cv' l' tk' h', s' = c.sh h' tk' ∧ Holds c m' cv' l' h' ∧ K v m' cv' l' tk'
@[irreducible] noncomputable def WE (c : Ct w S r u) {α : Type} (t : Sem α) (K : α → KU) (m cv : Lo) (l : Lb) (tk : Nat) : Prop :=
  ∀ h, Holds c m cv l h → wpAny (model Pr w.w) c.A t (Out c K) c.E (c.sh h tk)
variable {c : Ct w S r u} {m cv : Lo} {l : Lb} {tk : Nat} {h : Heap}
theorem WE.mk {α : Type} {t : Sem α} {K : α → KU} (H : ∀ h, Holds c m cv l h → wpAny (model Pr w.w) c.A t (Out c K) c.E (c.sh h tk)) : WE c t K m cv l tk := by delta WE; exact H
theorem WE.run {α : Type} {t : Sem α} {K : α → KU} (H : WE c t K m cv l tk) (hh : Holds c m cv l h) : wpAny (model Pr w.w) c.A t (Out c K) c.E (c.sh h tk) := by delta WE at H; exact H h hh
theorem WE.go {α : Type} {t : Sem α} {K : α → KU} {Q : α → Shared → Prop} (H : WE c t K m cv l tk) (hh : Holds c m cv l h)
    (k : ∀ a m' cv' l' tk' h', Holds c m' cv' l' h' → K a m' cv' l' tk' → Q a (c.sh h' tk')) : wpAny (model Pr w.w) c.A t Q c.E (c.sh h tk) :=
  wpAny_mono (H.run hh) (fun a _ ⟨_, _, _, _, _, e, hh', hk⟩ => e ▸ k a _ _ _ _ _ hh' hk) fun _ _ x => x
theorem Out.mk {α : Type} {K : α → KU} {v : α} (hh : Holds c m cv l h) (k : K v m cv l tk) : Out c K v (c.sh h tk) := ⟨_, _, _, _, _, rfl, hh, k⟩
theorem WE.mono {α : Type} {t : Sem α} {K K' : α → KU} (H : WE c t K m cv l tk) (k : ∀ a m cv l tk, K a m cv l tk → K' a m cv l tk) : WE c t K' m cv l tk :=
  .mk fun _ hh => H.go hh fun _ _ _ _ _ _ hh hk => Out.mk hh (k _ _ _ _ _ hk)
/-! the ledger -/
theorem apart_app {a b : Ld} : Apart (a ++ b) ↔ Apart a ∧ Apart b ∧ ∀ p ∈ a, ∀ q ∈ b, p.1 ≠ q.1 := by
  unfold Apart
  rw [List.map_append, List.nodup_append]
  refine and_congr Iff.rfl (and_congr Iff.rfl ⟨fun h p hp q hq => h _ (List.mem_map.mpr ⟨p, hp, rfl⟩) _ (List.mem_map.mpr ⟨q, hq, rfl⟩), fun h x hx y hy => ?_⟩)
  obtain ⟨p, hp, rfl⟩ := List.mem_map.mp hx
  obtain ⟨q, hq, rfl⟩ := List.mem_map.mp hy
  exact h p hp q hq
theorem Holds.sub {l' : Lb} (hh : Holds c m cv l h) (hs : ∀ p ∈ l'.flatten, p ∈ l.flatten) (ha : Apart l'.flatten) : Holds c m cv l' h := by
  obtain ⟨mm, co, F, hm, N, a⟩ := hh
  obtain ⟨a1, a2, a3⟩ := apart_app.mp a
  refine ⟨mm, co, F, hm, fun p hp => N p ?_, apart_app.mpr ⟨a1, ha, fun p hp q hq => a3 p hp q (hs q hq)⟩⟩
  rcases List.mem_append.mp hp with hp | hp
  · exact List.mem_append_left _ hp
  · exact List.mem_append_right _ (hs p hp)
theorem Holds.apart (hh : Holds c m cv l h) : Apart l.flatten := by
  obtain ⟨mm, co, F, hm, N, a⟩ := hh
  exact (apart_app.mp a).2.1
theorem WE.sub {α : Type} {t : Sem α} {K : α → KU} {l' : Lb} (H : WE c t K m cv l' tk) (hs : ∀ p ∈ l'.flatten, p ∈ l.flatten) (ha : Apart l.flatten → Apart l'.flatten) : WE c t K m cv l tk :=
  .mk fun _ hh => H.run (hh.sub hs (ha hh.apart))
/-- the blocks cut anew -/
theorem WE.cut {α : Type} {t : Sem α} {K : α → KU} {l' : Lb} (e : l.flatten = l'.flatten) (H : WE c t K m cv l' tk) : WE c t K m cv l tk :=
  H.sub (fun _ hp => e ▸ hp) fun a => e ▸ a
/-- one object -/
noncomputable abbrev one (D : Addr) (o : Obj) : Ld := [(D, o)]
theorem Holds.newer {mm : Str → Option Value} {co : Ld} {h' : Heap} {D : Addr} {o : Obj} (hm : c.Inv m cv mm co) (a : Apart (co ++ l.flatten)) (F' : Fr c.h₀ c.L h' mm) (N' : News c.h₀ c.L h' ((D, o) :: (co ++ l.flatten))) (lt : ∀ p ∈ co ++ l.flatten, p.1 < D) : Holds c m cv (one D o :: l) h' := by
  obtain ⟨a1, a2, a3⟩ := apart_app.mp a
  have ne : ∀ p ∈ co ++ l.flatten, p.1 ≠ D := fun p hp => Nat.ne_of_lt (lt p hp)
  refine ⟨mm, co, F', hm, fun p hp => N' p ?_, apart_app.mpr ⟨a1, ?_, fun p hp q hq => ?_⟩⟩
  · rcases List.mem_append.mp hp with hp | hp
    · exact List.mem_cons_of_mem _ (List.mem_append_left _ hp)
    · rcases List.mem_cons.mp hp with rfl | hp
      · exact List.mem_cons_self
      · exact List.mem_cons_of_mem _ (List.mem_append_right _ hp)
  · refine (apart_app (a := one D o)).mpr ⟨List.pairwise_singleton _ _, a2, fun p hp q hq => ?_⟩
    rw [List.mem_singleton.mp hp]
    exact (ne q (List.mem_append_right _ hq)).symm
  · rcases List.mem_cons.mp hq with rfl | hq
    · exact ne p (List.mem_append_left _ hp)
    · exact a3 p hp q hq
/-- an object turned -/
noncomputable def setK (d : Addr) (o : Obj) (l : Ld) : Ld := l.map fun p => if p.1 = d then (d, o) else p
theorem setK_other {d : Addr} {o : Obj} : ∀ {l : Ld}, (∀ p ∈ l, p.1 ≠ d) → setK d o l = l
  | [], _ => rfl
  | p :: r, h => by
    show (if p.1 = d then (d, o) else p) :: setK d o r = _
    rw [if_neg (h p List.mem_cons_self), setK_other fun q hq => h q (List.mem_cons_of_mem _ hq)]
theorem apart_cons {p : Addr × Obj} {l : Ld} : Apart (p :: l) ↔ (∀ q ∈ l, q.1 ≠ p.1) ∧ Apart l := by
  unfold Apart
  rw [List.map_cons, List.nodup_cons]
  refine and_congr ⟨fun h q hq e => h (List.mem_map.mpr ⟨q, hq, e⟩), fun h hp => ?_⟩ Iff.rfl
  obtain ⟨q, hq, e⟩ := List.mem_map.mp hp
  exact h q hq e
theorem upd_of {d : Addr} {o o' : Obj} : ∀ {l : Ld}, Apart l → (d, o) ∈ l → Upd d o o' l (setK d o' l)
  | [], _, h => nomatch h
  | p :: r, ha, h => by
    obtain ⟨h1, h2⟩ := apart_cons.mp ha
    rcases List.mem_cons.mp h with rfl | h
    · show Upd d o o' ((d, o) :: r) ((if d = d then (d, o') else (d, o)) :: setK d o' r)
      rw [if_pos rfl, setK_other h1]
      exact .head h1
    · show Upd d o o' (p :: r) ((if p.1 = d then (d, o') else p) :: setK d o' r)
      have hp : p.1 ≠ d := fun e => h1 _ h e.symm
      rw [if_neg hp]
      exact .tail hp (upd_of h2 h)
theorem updF_of {d : Addr} {o : Obj} : ∀ {l : Ld}, Apart l → (d, o) ∈ l → UpdF d o l fun o' => setK d o' l
  | [], _, h => nomatch h
  | p :: r, ha, h => by
    obtain ⟨h1, h2⟩ := apart_cons.mp ha
    rcases List.mem_cons.mp h with rfl | h
    · have e : (fun o' => setK d o' ((d, o) :: r)) = fun o' => (d, o') :: r := funext fun o' => by
        show (if d = d then (d, o') else (d, o)) :: setK d o' r = _
        rw [if_pos rfl, setK_other h1]
      rw [e]; exact .head h1
    · have hp : p.1 ≠ d := fun e => h1 _ h e.symm
      have e : (fun o' => setK d o' (p :: r)) = fun o' => p :: setK d o' r := funext fun o' => by
        show (if p.1 = d then (d, o') else p) :: setK d o' r = _
        rw [if_neg hp]
      rw [e]; exact .tail hp (updF_of h2 h)
theorem keys_setK {d : Addr} {o : Obj} : ∀ {l : Ld}, (setK d o l).map (·.1) = l.map (·.1)
  | [] => rfl
  | p :: r => by
    show (if p.1 = d then (d, o) else p).1 :: (setK d o r).map (·.1) = p.1 :: r.map (·.1)
    rw [keys_setK]
    by_cases h : p.1 = d
    · rw [if_pos h, h]
    · rw [if_neg h]
theorem Apart.setK {d : Addr} {o : Obj} {l : Ld} (ha : Apart l) : Apart (setK d o l) := by unfold Apart; rw [keys_setK]; exact ha
theorem setK_append {d : Addr} {o : Obj} {a b : Ld} : setK d o (a ++ b) = setK d o a ++ setK d o b := List.map_append
/-- a block by its place -/
noncomputable def setB (b : Ld) : Nat → Lb → Lb
  | _, [] => []
  | 0, _ :: r => b :: r
  | i + 1, p :: r => p :: setB b i r
theorem mem_block {b : Ld} {p : Addr × Obj} {i : Nat} (h : l[i]? = some b) (hp : p ∈ b) : p ∈ l.flatten := List.mem_flatten.mpr ⟨b, List.mem_of_getElem? h, hp⟩
theorem setK_setB {d : Addr} {o o' : Obj} {b : Ld} (hd : (d, o) ∈ b) : ∀ {l : Lb} {i : Nat}, Apart l.flatten → l[i]? = some b → setK d o' l.flatten = (setB (setK d o' b) i l).flatten
  | [], _, _, h => by simp at h
  | p :: r, 0, ha, h => by
    obtain ⟨h1, h2, h3⟩ := (apart_app (a := p)).mp ha
    simp at h
    subst h
    show setK d o' (p ++ r.flatten) = setK d o' p ++ r.flatten
    rw [setK_append, setK_other (l := r.flatten) fun q hq => (h3 _ hd q hq).symm]
  | p :: r, i + 1, ha, h => by
    obtain ⟨h1, h2, h3⟩ := (apart_app (a := p)).mp ha
    have h' : r[i]? = some b := by simpa using h
    show setK d o' (p ++ r.flatten) = p ++ (setB (setK d o' b) i r).flatten
    rw [setK_append, setK_setB hd h2 h', setK_other (l := p) fun q hq => h3 q hq _ (mem_block h' hd)]
/-- a rule that turns one object of the ledger -/
theorem Holds.turned (hh : Holds c m cv l h) {d : Addr} {o o' : Obj} {b b' : Ld} {i : Nat} (hi : l[i]? = some b) (hd : (d, o) ∈ b) (e : setK d o' b = b') :
    ∃ mm ns ns', Fr c.h₀ c.L h mm ∧ News c.h₀ c.L h ns ∧ Upd d o o' ns ns' ∧ ∀ h', Fr c.h₀ c.L h' mm → News c.h₀ c.L h' ns' → Holds c m cv (setB b' i l) h' := by
  obtain ⟨mm, co, F0, hm, N0, a⟩ := hh
  have hmem := mem_block hi hd
  obtain ⟨a1, a2, a3⟩ := apart_app.mp a
  have e2 : setK d o' (co ++ l.flatten) = co ++ (setB b' i l).flatten := by
    rw [setK_append, setK_setB hd a2 hi, setK_other (l := co) fun q hq => a3 q hq _ hmem, e]
  refine ⟨mm, _, _, F0, N0, upd_of a (List.mem_append_right _ hmem), fun h' F' N' => ⟨mm, co, F', hm, e2 ▸ N', e2 ▸ a.setK⟩⟩
theorem Holds.turnedF (hh : Holds c m cv l h) {d : Addr} {o : Obj} {b : Ld} {i : Nat} (hi : l[i]? = some b) (hd : (d, o) ∈ b) :
    ∃ mm ns g, Fr c.h₀ c.L h mm ∧ News c.h₀ c.L h ns ∧ UpdF d o ns g ∧ ∀ h' o', Fr c.h₀ c.L h' mm → News c.h₀ c.L h' (g o') → Holds c m cv (setB (setK d o' b) i l) h' := by
  obtain ⟨mm, co, F0, hm, N0, a⟩ := hh
  have hmem := mem_block hi hd
  obtain ⟨a1, a2, a3⟩ := apart_app.mp a
  have e2 (o' : Obj) : setK d o' (co ++ l.flatten) = co ++ (setB (setK d o' b) i l).flatten := by
    rw [setK_append, setK_setB hd a2 hi, setK_other (l := co) fun q hq => a3 q hq _ hmem]
  refine ⟨mm, _, _, F0, N0, updF_of a (List.mem_append_right _ hmem), fun h' o' F' N' => ⟨mm, co, F', hm, e2 o' ▸ N', e2 o' ▸ a.setK⟩⟩
/-- the objects of the ledger are in the heap -/
theorem Holds.at (hh : Holds c m cv l h) : ∃ mm ns, Fr c.h₀ c.L h mm ∧ News c.h₀ c.L h ns ∧ ∀ (i : Nat) b, l[i]? = some b → ∀ p ∈ b, p ∈ ns := by
  obtain ⟨mm, co, F0, hm, N0, a⟩ := hh
  exact ⟨mm, _, F0, N0, fun i b hi p hp => List.mem_append_right _ (mem_block hi hp)⟩
/-- a rule that brings one object -/
theorem Holds.news (hh : Holds c m cv l h) : ∃ mm ns, Fr c.h₀ c.L h mm ∧ News c.h₀ c.L h ns ∧ (∀ (i : Nat) b, l[i]? = some b → ∀ p ∈ b, p ∈ ns) ∧ ∀ D o h', Fr c.h₀ c.L h' mm → News c.h₀ c.L h' ((D, o) :: ns) → (∀ p ∈ ns, p.1 < D) → Holds c m cv (one D o :: l) h' := by
  obtain ⟨mm, co, F0, hm, N0, a⟩ := hh
  exact ⟨mm, _, F0, N0, (fun i b hi p hp => List.mem_append_right _ (mem_block hi hp)), fun D o h' F' N' lt => .newer hm a F' N' lt⟩
theorem mem_of_lookup {β : Type} {x : Str} {b : β} : ∀ {l : List (Str × β)}, l.lookup x = some b → (x, b) ∈ l
  | [], h => by cases h
  | (y, a) :: r, h => by
    rw [List.lookup_cons] at h
    by_cases e : x = y
    · rw [e, beq_self_eq_true] at h
      cases h
      rw [e]; exact List.mem_cons_self
    · rw [beq_eq_false_iff_ne.mpr e] at h
      exact List.mem_cons_of_mem _ (mem_of_lookup h)
theorem snd_inj {x y : Str} {a : Addr} : ∀ {l : List (Str × Addr)}, (l.map (·.2)).Nodup → (x, a) ∈ l → (y, a) ∈ l → x = y
  | [], _, h, _ => nomatch h
  | (z, b) :: r, hn, h1, h2 => by
    rw [List.map_cons, List.nodup_cons] at hn
    rcases List.mem_cons.mp h1 with e1 | g1 <;> rcases List.mem_cons.mp h2 with e2 | g2
    · cases e1; cases e2; rfl
    · cases e1; exact absurd (List.mem_map.mpr ⟨(y, a), g2, rfl⟩ : a ∈ r.map (·.2)) hn.1
    · cases e2; exact absurd (List.mem_map.mpr ⟨(x, a), g1, rfl⟩ : a ∈ r.map (·.2)) hn.1
    · exact snd_inj hn.2 g1 g2
theorem CellOk.set {S : Scope} {cl : List (Str × Addr)} {cv : Lo} {co : Ld} {x : Str} {v : Value} {a : Addr} {o' : Obj} (H : CellOk S cl cv co) (hn : Apart co) (hx : S.names.lookup x = some .cell) (ha : cl.lookup x = some a) (hd : o'.data = .cell (some v)) :
    CellOk S cl (setL x v cv) (setK a o' co) := by
  have hin : ∀ {b o}, (b, o) ∈ co → b ≠ a → (b, o) ∈ setK a o' co := fun {b o} hb hne => List.mem_map.mpr ⟨_, hb, if_neg hne⟩
  have hk : a ∈ co.map (·.1) := by rw [H.keys]; exact List.mem_map.mpr ⟨_, mem_of_lookup ha, rfl⟩
  refine ⟨by rw [keys_setK, H.keys], H.all, fun p hp => ?_, fun y z e => ?_⟩
  · obtain ⟨q, hq, rfl⟩ := List.mem_map.mp hp
    by_cases h : q.1 = a
    · rw [if_pos h]; exact ⟨_, hd⟩
    · rw [if_neg h]; exact H.cell _ hq
  · rw [lookup_setL] at e
    by_cases q : y = x
    · rw [if_pos q] at e
      cases e
      obtain ⟨p, hp, e⟩ := List.mem_map.mp hk
      exact ⟨q ▸ hx, a, o', q ▸ ha, List.mem_map.mpr ⟨p, hp, if_pos e⟩, hd⟩
    · rw [if_neg q] at e
      obtain ⟨h1, b, o, h2, h3, h4⟩ := H.val _ _ e
      refine ⟨h1, b, o, h2, hin h3 fun e => q ?_, h4⟩
      refine snd_inj (l := cl) (a := a) ?_ (mem_of_lookup (e ▸ h2)) (mem_of_lookup ha)
      rw [← H.keys]; exact hn
noncomputable def lst (D : Addr) (its : List Value) (n : Nat) : Ld := one D (W.listOf its.toArray n)
noncomputable def tup (D : Addr) (its : List Value) : Ld := one D { cls := .type "tuple", data := .seq its.toArray }
/-- an object of a class of the text, and its dict -/
noncomputable def ins (x C dx : Addr) (es : List DictEntry) (n : Nat) : Ld := [(x, instObj C dx), (dx, dictOf es n)]
noncomputable def atB : Lb → Nat → Ld
  | [], _ => []
  | b :: _, 0 => b
  | _ :: r, i + 1 => atB r i
theorem atB_get {p : Addr × Obj} {b : Ld} : ∀ {l : Lb} {i : Nat}, atB l i = p :: b → l[i]? = some (p :: b)
  | [], _, h => nomatch h
  | _ :: _, 0, h => congrArg some h
  | _ :: r, i + 1, h => by
    have := atB_get (l := r) (i := i) h
    simpa using this
end
end
section
open PySem PySem.W PyProof.Rows PySem.Spec PySem.Calls PyProof.V
theorem lookup_all {P : Str → Value → Prop} : ∀ {l : Lo}, (∀ p ∈ l, P p.1 p.2) → ∀ x v, l.lookup x = some v → P x v
  | [], _, _, _, h => by cases h
  | (y, u) :: r, ha, x, v, h => by
    rw [List.lookup_cons] at h
    by_cases e : x = y
    · rw [e, beq_self_eq_true] at h
      cases h
      rw [e]; exact ha _ List.mem_cons_self
    · rw [beq_eq_false_iff_ne.mpr e] at h
      exact lookup_all (fun p hp => ha p (List.mem_cons_of_mem _ hp)) _ _ h
theorem globs_ok (w : WG) : ∀ x v, globs.lookup x = some v → GlobIs w.K x v := w.ok.globs
end
section
open PySem PySem.W PyProof.Rows PySem.Spec PySem.Calls PyProof.V
noncomputable def notComp : Expr → Bool
  | .ListComp .. | .SetComp .. | .DictComp .. => false
  | _ => true
noncomputable def notCall : Expr → Bool
  | .Call .. => false
  | _ => true
noncomputable def notAttr : Expr → Bool
  | .Attribute .. => false
  | _ => true
noncomputable def notSlice : Expr → Bool
  | .Slice .. => false
  | _ => true
noncomputable def plain1 : Expr → Bool
  | .Starred .. => false
  | _ => true
noncomputable def plains : List Expr → Bool
  | [] => true
  | e :: r => plain1 e && plains r
theorem swaps_none {e : Expr} (h : notComp e = true) (t : Option Expr) (n : Nat) (env : Env) : swapsWith e t n env = pure false := by
  cases e <;> first | rfl | cases h
theorem star_cons {e : Expr} (h : plain1 e = true) (rest : List Expr) (env : Env) : starEach (e :: rest) env = (false, eval e env) :: starEach rest env := by
  cases e <;> first | rfl | cases h
theorem back_plain {env : Env} {pos : Pos} : ∀ {es : List Expr}, plains es = true → (backTo pos (starEach es env)).any (·.1) = false ∧ (backTo pos (starEach es env)).all (!·.1) = true
  | [], _ => ⟨rfl, rfl⟩
  | e :: r, h => by
    obtain ⟨h1, h2⟩ := Bool.and_eq_true_iff.mp h
    obtain ⟨a, b⟩ := back_plain (env := env) (pos := pos) h2
    rw [star_cons h1]
    exact ⟨by show (false || (backTo pos (starEach r env)).any (·.1)) = false; rw [a]; rfl, by show (true && (backTo pos (starEach r env)).all (!·.1)) = true; rw [b]; rfl⟩
theorem keep_ok (w : WG) : ∀ a, fnsK.contains a = true → keepIn (KF w) (.ref a) = true := w.ok.keep
/-- two ways -/
@[irreducible] noncomputable def BR (b : Bool) (P Q : Prop) : Prop := (b = true → P) ∧ (b = false → Q)
theorem BR.mk {b : Bool} {P Q : Prop} (h1 : b = true → P) (h2 : b = false → Q) : BR b P Q := by delta BR; exact ⟨h1, h2⟩
theorem BR.out {b : Bool} {P Q : Prop} (h : BR b P Q) : if b = true then P else Q := by
  delta BR at h
  obtain ⟨h1, h2⟩ := h
  cases b
  · exact h2 rfl
  · exact h1 rfl
theorem BR.t {b : Bool} {P Q : Prop} (e : b = true) (h : P) : BR b P Q := .mk (fun _ => h) fun e' => by rw [e] at e'; cases e'
theorem BR.f {b : Bool} {P Q : Prop} (e : b = false) (h : Q) : BR b P Q := .mk (fun e' => by rw [e] at e'; cases e') fun _ => h
noncomputable def BK (b : Bool) (P Q : KU) : KU := fun m cv l tk => BR b (P m cv l tk) (Q m cv l tk)
section
variable {w : WG} {S : Scope} {r u : Nat}
/-- by the kinds of two values -/
noncomputable def v2 (a b : Value) (KS : Str → Str → KU) (KI : Int → Int → KU) (H : KU) : KU := match a with
  | .str x _ => (match b with
    | .str y _ => KS x y
    | _ => H)
  | .int x _ => (match b with
    | .int y _ => KI x y
    | _ => H)
  | _ => H
@[irreducible] noncomputable def WM (c : Ct w S r u) (ov : Value) (name : Str) (K : Value × List Value → KU) : KU := fun m cv l tk => ∀ pl, WE c (getMethod ov name pl) K m cv l tk
/-- a slice, its object just made -/
@[irreducible] noncomputable def WSl (c : Ct w S r u) (value slice : Expr) (o lo hi : Value) (K : KV) : KU := fun m cv l tk => ∀ h, Holds c m cv l h →
  wpAny (model Pr w.w) c.A (subscriptTail value slice o (.ref h.objs.size)) (Out c K) c.E { c.sh h tk with heap := h.push { cls := .type "slice", data := .fields #[lo, hi, .none] } }
structure VC where
  E : Expr → KV → KU
  T : Expr → (Bool → KU) → KU
  S : List Stmt → (Flow → KU) → KU
noncomputable def vArgs (R : VC) : List Expr → (List Value → KU) → KU
  | [], K => K []
  | e :: es, K => R.E e fun v => vArgs R es fun vs => K (v :: vs)
noncomputable def vBin (c : Ct w S r u) (op : Operator) (a b : Value) (K : KV) : KU := match op with
  | .Add => v2 a b (fun _ _ => WE c (binaryOp .Add a b) K) (fun x y m cv l tk => K (.int (x + y) tk) m cv l (tk + 1)) (WE c (binaryOp .Add a b) K)
  | .Sub => v2 a b (fun _ _ => WE c (binaryOp .Sub a b) K) (fun x y m cv l tk => K (.int (x - y) tk) m cv l (tk + 1)) (WE c (binaryOp .Sub a b) K)
  | op => WE c (binaryOp op a b) K
noncomputable def vInp (c : Ct w S r u) (op : Operator) (a b : Value) (K : KV) : KU := match op with
  | .Sub => v2 a b (fun _ _ => WE c (inplaceOp .Sub a b) K) (fun x y m cv l tk => K (.int (x - y) tk) m cv l (tk + 1)) (WE c (inplaceOp .Sub a b) K)
  | op => WE c (inplaceOp op a b) K
noncomputable def vIsNot (c : Ct w S r u) (a b : Value) (K : KV) : KU := match b with
  | .none => (match a with
    | .none => K (.bool false)
    | .str _ _ => K (.bool true)
    | a => WE c (compareOp .IsNot a .none) K)
  | b => WE c (compareOp .IsNot a b) K
noncomputable def vCmp (c : Ct w S r u) (op : CmpOp) (a b : Value) (K : KV) : KU := match op with
  | .Eq => v2 a b (fun x y => K (.bool (x == y))) (fun x y => K (.bool (x == y))) (WE c (compareOp .Eq a b) K)
  | .NotEq => v2 a b (fun x y => K (.bool (x != y))) (fun x y => K (.bool (x != y))) (WE c (compareOp .NotEq a b) K)
  | .Lt => v2 a b (fun _ _ => WE c (compareOp .Lt a b) K) (fun x y => K (.bool (decide (x < y)))) (WE c (compareOp .Lt a b) K)
  | .Gt => v2 a b (fun _ _ => WE c (compareOp .Gt a b) K) (fun x y => K (.bool (decide (y < x)))) (WE c (compareOp .Gt a b) K)
  | .GtE => v2 a b (fun _ _ => WE c (compareOp .GtE a b) K) (fun x y => K (.bool (decide (y ≤ x)))) (WE c (compareOp .GtE a b) K)
  | .LtE => v2 a b (fun x y => K (.bool (!decide (y.cps.toList < x.cps.toList)))) (fun x y => K (.bool (decide (x ≤ y)))) (WE c (compareOp .LtE a b) K)
  | .In => v2 a b (fun y x => K (.bool (inS y x))) (fun _ _ => WE c (compareOp .In a b) K) (WE c (compareOp .In a b) K)
  | .IsNot => vIsNot c a b K
  | op => WE c (compareOp op a b) K
noncomputable def vTru (c : Ct w S r u) (v : Value) (K : Bool → KU) : KU := match v with
  | .bool b => K b
  | v => WE c (truthy v) K
noncomputable def vName (c : Ct w S r u) (x : Str) (pos : Pos) (K : KV) : KU := fun m cv l tk => match see S m cv x with
  | some v => K v m cv l tk
  | none => WE c (eval (.Name x pos) c.ev) K m cv l tk
noncomputable def vCall (c : Ct w S r u) (R : VC) (pos : Pos) (f : Value) (first : List Value) (args : List Expr) (K : KV) : KU := match f with
  | .ref a => bif fnsK.contains a then vArgs R args fun vs => WE c (call (.ref a) (first ++ vs)) K else WE c (callWith pos (.ref a) first (backTo pos (starEach args c.ev)) []) K
  | .builtin id => vArgs R args fun vs => WE c (call (.builtin id) (first ++ vs)) K
  | .type T => vArgs R args fun vs => WE c (call (.type T) (first ++ vs)) K
  | f => WE c (callWith pos f first (backTo pos (starEach args c.ev)) []) K
noncomputable def vPart (R : VC) : Option Expr → KV → KU
  | none, K => K .none
  | some e, K => R.E e K
/-- a display that has a rule of its own -/
noncomputable def isLit : Expr → Bool
  | .Constant .. => true
  | .Tuple .. => true
  | _ => false
noncomputable def big (es : List Expr) : Bool := Nat.ble 9 es.length || (Nat.ble 3 es.length && es.all isLit)
noncomputable def vConst (c : Ct w S r u) (k : Const) (n : Nat) (p : Pos) (K : KV) : KU := match k with
  | .str x => fun m cv l tk => K (.str x tk) m cv l (tk + 1)
  | .int i => fun m cv l tk => K (.int i tk) m cv l (tk + 1)
  | .bool b => K (.bool b)
  | .none => K .none
  | k => WE c (eval (.Constant k n p) c.ev) K
noncomputable def vUn (c : Ct w S r u) (R : VC) (op : UnaryOp) (a : Expr) (p : Pos) (K : KV) : KU := match op with
  | .USub => R.E a fun v => match v with
    | .int i _ => fun m cv l tk => K (.int (-i) tk) m cv l (tk + 1)
    | v => WE c (unaryOp .USub v) K
  | op => WE c (eval (.UnaryOp op a p) c.ev) K
noncomputable def vCompare (c : Ct w S r u) (R : VC) (a : Expr) (ops : List CmpOp) (bs : List Expr) (p : Pos) (K : KV) : KU := match ops with
  | [op] => (match bs with
    | [b] => bif behindInMarks op b then WE c (eval (.Compare a [op] [b] p) c.ev) K else R.E a fun va => R.E b fun vb => vCmp c op va vb K
    | bs => WE c (eval (.Compare a [op] bs p) c.ev) K)
  | [o₁, o₂] => (match bs with
    | [b₁, b₂] => bif lastMarks [o₁, o₂] [b₁, b₂] then WE c (eval (.Compare a [o₁, o₂] [b₁, b₂] p) c.ev) K else R.E a fun va => R.E b₁ fun vb => vCmp c o₁ va vb fun v => vTru c v fun t => BK t (R.E b₂ fun vd => vCmp c o₂ vb vd K) (K v)
    | bs => WE c (eval (.Compare a [o₁, o₂] bs p) c.ev) K)
  | ops => WE c (eval (.Compare a ops bs p) c.ev) K
noncomputable def vBool (c : Ct w S r u) (R : VC) (op : BoolOp) (es : List Expr) (p : Pos) (K : KV) : KU := match es with
  | [] => WE c (eval (.BoolOp op [] p) c.ev) K
  | e₁ :: rest => (match rest with
    | [] => R.E e₁ K
    | e₂ :: rest => (match op with
      | .And => R.E e₁ fun v => vTru c v fun b => BK b (R.E (.BoolOp .And (e₂ :: rest) p) K) (K v)
      | .Or => R.E e₁ fun v => vTru c v fun b => BK b (K v) (R.E (.BoolOp .Or (e₂ :: rest) p) K)))
noncomputable def attrOf : Expr → Option (Expr × Str × Pos)
  | .Attribute o name apos => some (o, name, apos)
  | _ => none
noncomputable def vCallE (c : Ct w S r u) (R : VC) (f : Expr) (args : List Expr) (kw : List Keyword) (pos : Pos) (K : KV) : KU := match kw with
  | [] => (match attrOf f with
    | some (o, name, apos) => bif notCall o && (plains args && (Nat.blt args.length 30 && (apos.endLine == pos.line))) then R.E o fun ov => WM c ov name fun fx => vCall c R pos fx.1 fx.2 args K
      else WE c (eval (.Call f args [] pos) c.ev) K
    | none => bif plains args then R.E f fun fv => vCall c R pos fv [] args K else WE c (eval (.Call f args [] pos) c.ev) K)
  | kw => WE c (eval (.Call f args kw pos) c.ev) K
noncomputable def partsOf : Expr → Option (Option Expr × Option Expr × Pos)
  | .Slice lo hi none p => some (lo, hi, p)
  | _ => none
noncomputable def vSub (c : Ct w S r u) (R : VC) (value slice : Expr) (pos : Pos) (K : KV) : KU := match partsOf slice with
  | some (lo, hi, _) => R.E value fun o => vPart R lo fun a => vPart R hi fun b => WSl c value slice o a b K
  | none => bif notSlice slice then R.E value fun o => R.E slice fun i => WE c (subscriptTail value slice o i) K else WE c (eval (.Subscript value slice pos) c.ev) K
noncomputable def vE (c : Ct w S r u) (R : VC) (e : Expr) (K : KV) : KU := match e with
  | .Constant k n p => vConst c k n p K
  | .Name x pos => vName c x pos K
  | .BinOp a op b _ => R.E a fun va => R.E b fun vb => vBin c op va vb K
  | .UnaryOp op a p => vUn c R op a p K
  | .IfExp t a b _ => R.T t fun x => BK x (R.E a K) (R.E b K)
  | .Compare a ops bs p => vCompare c R a ops bs p K
  | .BoolOp op es p => vBool c R op es p K
  | .Call f args kw pos => vCallE c R f args kw pos K
  | .Attribute value attr pos => bif notCall value then R.E value fun o => WE c (getAttr o attr true) K else WE c (eval (.Attribute value attr pos) c.ev) K
  | .Subscript value slice pos => vSub c R value slice pos K
  | .List elts pos => bif plains elts && !big elts then vArgs R elts fun vs m cv l tk => ∀ D, K (.ref D) m cv (lst D vs 0 :: l) tk else WE c (eval (.List elts pos) c.ev) K
  | .Tuple elts k pos => bif plains elts && !big elts then vArgs R elts fun vs m cv l tk => ∀ D, K (.ref D) m cv (tup D vs :: l) tk else WE c (eval (.Tuple elts k pos) c.ev) K
  | e => WE c (eval e c.ev) K
noncomputable def vTBool (c : Ct w S r u) (R : VC) (op : BoolOp) (es : List Expr) (p : Pos) (K : Bool → KU) : KU := match op with
  | .And => (match es with
    | [] => K true
    | x :: rest => R.T x fun b => BK b (R.T (.BoolOp .And rest p) K) (K false))
  | .Or => (match es with
    | [] => K false
    | x :: rest => R.T x fun b => BK b (K true) (R.T (.BoolOp .Or rest p) K))
noncomputable def vTCompare (c : Ct w S r u) (R : VC) (a : Expr) (ops : List CmpOp) (bs : List Expr) (p : Pos) (K : Bool → KU) : KU := match ops with
  | [op] => (match bs with
    | [b] => bif behindInMarks op b then WE c (PySem.isTrue (.Compare a [op] [b] p) c.ev (eval (.Compare a [op] [b] p) c.ev)) K else R.E a fun va => R.E b fun vb => vCmp c op va vb fun v => vTru c v K
    | bs => WE c (PySem.isTrue (.Compare a [op] bs p) c.ev (eval (.Compare a [op] bs p) c.ev)) K)
  | ops => WE c (PySem.isTrue (.Compare a ops bs p) c.ev (eval (.Compare a ops bs p) c.ev)) K
noncomputable def vTUn (c : Ct w S r u) (R : VC) (op : UnaryOp) (a : Expr) (p : Pos) (K : Bool → KU) : KU := match op with
  | .Not => R.T a fun b => K (!b)
  | op => WE c (PySem.isTrue (.UnaryOp op a p) c.ev (eval (.UnaryOp op a p) c.ev)) K
noncomputable def vT (c : Ct w S r u) (R : VC) (e : Expr) (K : Bool → KU) : KU := match e with
  | .UnaryOp op x p => vTUn c R op x p K
  | .BoolOp op es p => vTBool c R op es p K
  | .Compare a ops bs p => vTCompare c R a ops bs p K
  | .Name x pos => R.E (.Name x pos) fun v => vTru c v K
  | .Call f args kw pos => R.E (.Call f args kw pos) fun v => vTru c v K
  | e => WE c (PySem.isTrue e c.ev (eval e c.ev)) K
noncomputable def vStore (c : Ct w S r u) (x : Str) (v : Value) (K : KU) : KU := fun m cv l tk => match S.names.lookup x with
  | some .local => K (setL x v m) cv l (tk + 1)
  | some .cell => K m (setL x v cv) l tk
  | _ => WE c (storeName c.ev x v) (fun _ => K) m cv l tk
noncomputable def lineOf : Stmt → Nat
  | .Assign _ _ p | .If _ _ _ p | .Return _ p => p.line
  | _ => 0
noncomputable def vAssign (c : Ct w S r u) (R : VC) (t : Expr) (value : Expr) (pos : Pos) (K : Flow → KU) : KU := match t with
  | .Name x _ => R.E value fun v => vStore c x v (K .next)
  | .Attribute o attr _ => R.E value fun v => R.E o fun ov => WE c (setAttr ov attr v) fun _ => K .next
  | .Subscript o i _ => R.E value fun v => R.E o fun ov => R.E i fun iv => WE c (setItem ov iv v) fun _ => K .next
  | t => WE c (exec (.Assign [t] value pos) c.ev) K
noncomputable def vAug (c : Ct w S r u) (R : VC) (t : Expr) (op : Operator) (value : Expr) (pos : Pos) (K : Flow → KU) : KU := match t with
  | .Name x p' => fun m cv l tk => (match m.lookup x with
    | some old => R.E value (fun v => vInp c op old v fun z => vStore c x z (K .next)) m cv l tk
    | none => WE c (exec (.AugAssign (.Name x p') op value pos) c.ev) K m cv l tk)
  | t => WE c (exec (.AugAssign t op value pos) c.ev) K
noncomputable def vS0 (c : Ct w S r u) (R : VC) (s : Stmt) (K : Flow → KU) : KU := match s with
  | .Return e pos => (match e with
    | some e => R.E e fun v => K (.ret v)
    | none => K (.ret .none))
  | .If t a b _ => R.T t fun x => BK x (R.S a K) (R.S b K)
  | .Expr e pos => bif notComp e then R.E e fun _ => K .next else WE c (exec (.Expr e pos) c.ev) K
  | .Assign ts value pos => (match ts with
    | [t] => bif notComp value then vAssign c R t value pos K else WE c (exec (.Assign [t] value pos) c.ev) K
    | ts => WE c (exec (.Assign ts value pos) c.ev) K)
  | .AugAssign t op value pos => vAug c R t op value pos K
  | s => WE c (exec s c.ev) K
noncomputable def vS1 (c : Ct w S r u) (st : List Nat) (R : VC) (s : Stmt) (K : Flow → KU) : KU := bif st.contains (lineOf s) then WE c (exec s c.ev) K else vS0 c R s K
noncomputable def vS (c : Ct w S r u) (st : List Nat) (R : VC) (ss : List Stmt) (K : Flow → KU) : KU := match ss with
  | [] => K .next
  | s :: rest => vS1 c st R s fun f => match f with
    | .next => R.S rest K
    | f => K f
noncomputable def vcs (c : Ct w S r u) (st : List Nat) : Nat → VC
  | 0 => ⟨fun e K => WE c (eval e c.ev) K, fun e K => WE c (PySem.isTrue e c.ev (eval e c.ev)) K, fun ss K => WE c (execs ss c.ev) K⟩
  | n + 1 => ⟨vE c (vcs c st n), vT c (vcs c st n), vS c st (vcs c st n)⟩
end
end
section
open PySem PySem.W PyProof.Rows PySem.Spec PySem.Calls PyProof.V
section
variable {w : WG} {S : Scope} {r u : Nat} {c : Ct w S r u} {m cv : Lo} {l : Lb} {tk : Nat} {h : Heap}
structure VCOk (c : Ct w S r u) (R : VC) : Prop where
  E : ∀ {e K m cv l tk}, R.E e K m cv l tk → WE c (eval e c.ev) K m cv l tk
  T : ∀ {e K m cv l tk}, R.T e K m cv l tk → WE c (PySem.isTrue e c.ev (eval e c.ev)) K m cv l tk
theorem v2_ok {a b : Value} {KS : Str → Str → KU} {KI : Int → Int → KU} {H : KU} {P : Prop} (k : v2 a b KS KI H m cv l tk) (hS : ∀ x t y u, a = .str x t → b = .str y u → KS x y m cv l tk → P) (hI : ∀ x t y u, a = .int x t → b = .int y u → KI x y m cv l tk → P) (hH : H m cv l tk → P) : P := by
  cases a with
  | str x t => cases b with
    | str y u => exact hS _ _ _ _ rfl rfl k
    | _ => exact hH k
  | int x t => cases b with
    | int y u => exact hI _ _ _ _ rfl rfl k
    | _ => exact hH k
  | _ => exact hH k
theorem vBin_ok {op : Operator} {a b : Value} {K : KV} (k : vBin c op a b K m cv l tk) : WE c (binaryOp op a b) K m cv l tk := by
  cases op with
  | Add => exact v2_ok k (fun _ _ _ _ _ _ k => k) (fun x t y u e1 e2 k => e1 ▸ e2 ▸ .mk fun _ hh => add_int (Out.mk hh k)) id
  | Sub => exact v2_ok k (fun _ _ _ _ _ _ k => k) (fun x t y u e1 e2 k => e1 ▸ e2 ▸ .mk fun _ hh => sub_int (Out.mk hh k)) id
  | _ => exact k
theorem vInp_ok {op : Operator} {a b : Value} {K : KV} (k : vInp c op a b K m cv l tk) : WE c (inplaceOp op a b) K m cv l tk := by
  cases op with
  | Sub => exact v2_ok k (fun _ _ _ _ _ _ k => k) (fun x t y u e1 e2 k => e1 ▸ e2 ▸ .mk fun _ hh => isub_int (Out.mk hh k)) id
  | _ => exact k
theorem vIsNot_ok {a b : Value} {K : KV} (k : vIsNot c a b K m cv l tk) : WE c (compareOp .IsNot a b) K m cv l tk := by
  cases b with
  | none => cases a with
    | none => exact .mk fun _ hh => isnot_none_none (Out.mk hh k)
    | str x t => exact .mk fun _ hh => isnot_str_none (Out.mk hh k)
    | _ => exact k
  | _ => exact k
theorem vCmp_ok {op : CmpOp} {a b : Value} {K : KV} (k : vCmp c op a b K m cv l tk) : WE c (compareOp op a b) K m cv l tk := by
  cases op with
  | Eq => exact v2_ok k (fun x t y u e1 e2 k => e1 ▸ e2 ▸ .mk fun _ hh => eq_str (Out.mk hh k)) (fun x t y u e1 e2 k => e1 ▸ e2 ▸ .mk fun _ hh => eq_int (Out.mk hh k)) id
  | NotEq => exact v2_ok k (fun x t y u e1 e2 k => e1 ▸ e2 ▸ .mk fun _ hh => ne_str (Out.mk hh k)) (fun x t y u e1 e2 k => e1 ▸ e2 ▸ .mk fun _ hh => ne_int (Out.mk hh k)) id
  | Lt => exact v2_ok k (fun _ _ _ _ _ _ k => k) (fun x t y u e1 e2 k => e1 ▸ e2 ▸ .mk fun _ hh => lt_int (Out.mk hh k)) id
  | Gt => exact v2_ok k (fun _ _ _ _ _ _ k => k) (fun x t y u e1 e2 k => e1 ▸ e2 ▸ .mk fun _ hh => gt_int (Out.mk hh k)) id
  | GtE => exact v2_ok k (fun _ _ _ _ _ _ k => k) (fun x t y u e1 e2 k => e1 ▸ e2 ▸ .mk fun _ hh => ge_int (Out.mk hh k)) id
  | LtE => exact v2_ok k (fun x t y u e1 e2 k => e1 ▸ e2 ▸ .mk fun _ hh => PySem.P.le_str (Out.mk hh k)) (fun x t y u e1 e2 k => e1 ▸ e2 ▸ .mk fun _ hh => le_int (Out.mk hh k)) id
  | In => exact v2_ok k (fun x t y u e1 e2 k => e1 ▸ e2 ▸ .mk fun _ hh => in_str (Out.mk hh k)) (fun _ _ _ _ _ _ k => k) id
  | IsNot => exact vIsNot_ok k
  | _ => exact k
theorem vTru_ok {v : Value} {K : Bool → KU} (k : vTru c v K m cv l tk) : WE c (truthy v) K m cv l tk := by
  cases v with
  | bool b => exact .mk fun _ hh => wpAny_truthy_bool (Out.mk hh k)
  | _ => exact k
theorem vName_ok {x : Str} {pos : Pos} {K : KV} (k : vName c x pos K m cv l tk) : WE c (eval (.Name x pos) c.ev) K m cv l tk := by
  unfold vName at k
  split at k
  · rename_i v hv
    refine .mk fun _ hh => ?_
    have hh' := hh
    obtain ⟨mm, co, F, hm, N, a⟩ := hh'
    exact c.rd F hm N hv (Out.mk hh k)
  · exact k
variable {R : VC}
theorem vArgs_ok (H : VCOk c R) {pos : Pos} : ∀ {es : List Expr} {K : List Value → KU} {m cv l tk}, plains es = true → vArgs R es K m cv l tk → WE c (spliced (backTo pos (starEach es c.ev))) K m cv l tk
  | [], _, _, _, _, _, _, k => .mk fun _ hh => args_nil (Out.mk hh k)
  | e :: es, _, _, _, _, _, hp, k => by
    obtain ⟨h1, h2⟩ := Bool.and_eq_true_iff.mp hp
    refine .mk fun _ hh => args_cons ?_ (star_cons h1 es c.ev)
    refine (H.E k).go hh fun v _ _ _ _ _ hh k => ?_
    exact (vArgs_ok H h2 k).go hh fun vs _ _ _ _ _ hh k => Out.mk hh k
theorem vCall_ok (H : VCOk c R) {pos : Pos} {f : Value} {first : List Value} {args : List Expr} {K : KV} (hp : plains args = true) (k : vCall c R pos f first args K m cv l tk) :
    WE c (callWith pos f first (backTo pos (starEach args c.ev)) []) K m cv l tk := by
  cases f with
  | ref a =>
    have k : (bif fnsK.contains a then vArgs R args fun vs => WE c (call (.ref a) (first ++ vs)) K else WE c (callWith pos (.ref a) first (backTo pos (starEach args c.ev)) []) K) m cv l tk := k
    cases hf : fnsK.contains a with
    | false => rw [hf] at k; exact k
    | true =>
      rw [hf] at k
      have k : vArgs R args (fun vs => WE c (call (.ref a) (first ++ vs)) K) m cv l tk := k
      refine .mk fun _ hh => ?_
      cases args with
      | nil =>
        have hh' := hh
        obtain ⟨mm, co, F, hm, N, a⟩ := hh'
        have k : WE c (call (.ref _) (first ++ [])) K m cv l tk := k
        exact callWith_K0 (Frag.In.keeps c.X F.keep) (keep_ok w _ hf) (k.run hh)
      | cons e es =>
        obtain ⟨h1, h2⟩ := Bool.and_eq_true_iff.mp hp
        refine callWith_K c.X (keep_ok w _ hf) ?_ (star_cons h1 es c.ev) (back_plain h2).1
        refine (vArgs_ok H hp k).go hh fun vs _ _ _ _ _ hh k => ?_
        have hh' := hh
        obtain ⟨mm, co, F, hm, N, a⟩ := hh'
        exact ⟨Frag.In.keeps c.X F.keep, k.run hh⟩
  | builtin id =>
    have k : vArgs R args (fun vs => WE c (call (.builtin id) (first ++ vs)) K) m cv l tk := k
    refine .mk fun _ hh => ?_
    cases args with
    | nil =>
      have k : WE c (call (.builtin id) (first ++ [])) K m cv l tk := k
      rw [List.append_nil] at k
      exact callWith_method0 (k.run hh)
    | cons e es =>
      obtain ⟨h1, h2⟩ := Bool.and_eq_true_iff.mp hp
      refine callWith_method1 ?_ (star_cons h1 es c.ev) (back_plain h2).1
      exact (vArgs_ok H hp k).go hh fun vs _ _ _ _ _ hh k => k.run hh
  | type T =>
    have k : vArgs R args (fun vs => WE c (call (.type T) (first ++ vs)) K) m cv l tk := k
    refine .mk fun _ hh => ?_
    cases args with
    | nil =>
      have k : WE c (call (.type T) (first ++ [])) K m cv l tk := k
      exact PyProof.Rows.callWith_type rfl (evalArgs_nil3 (k.run hh))
    | cons e es =>
      obtain ⟨h1, h2⟩ := Bool.and_eq_true_iff.mp hp
      have hb := (back_plain (env := c.ev) (pos := pos) h2).1
      rw [star_cons h1]
      refine PyProof.Rows.callWith_type (by show (false || (backTo pos (starEach es c.ev)).any (·.1)) = false; rw [hb]; rfl) (evalArgs_plain ?_)
      have := (vArgs_ok (pos := pos) H hp k).go (Q := fun vs s₁ => wpAny (model Pr w.w) c.A (call (.type T) (first ++ vs)) (Out c K) c.E s₁) hh fun vs _ _ _ _ _ hh k => k.run hh
      rw [star_cons h1] at this
      exact this
  | _ => exact k
theorem bif_t {b : Bool} {P Q : KU} (h : (bif b then P else Q) m cv l tk) : (b = true ∧ P m cv l tk) ∨ Q m cv l tk := by
  cases b
  · exact .inr h
  · exact .inl ⟨rfl, h⟩
theorem attr_eq {v : Expr} (h : notCall v = true) (attr : Str) (pos : Pos) (env : Env) : eval (.Attribute v attr pos) env = (do
      let o ← eval v env
      standAt pos.atName
      let r ← holding [o] (getAttr o attr true)
      letTemporaryGo v o r
      pure r) := by
  cases v <;> first | with_unfolding_all rfl | cases h
theorem call_eq {f : Expr} (h : notAttr f = true) (args : List Expr) (pos : Pos) (env : Env) : eval (.Call f args [] pos) env = (do callWith pos (← eval f env) [] (backTo pos (starEach args env)) (backToKw pos (keywordEach [] env))) := by
  cases f <;> first | rfl | cases h
theorem meth_eq {o : Expr} (h : notCall o = true) {name : Str} {apos pos : Pos} {args : List Expr} {env : Env} (hp : plains args = true) (hl : Nat.blt args.length 30 = true) (he : (apos.endLine == pos.line) = true) :
    ∃ pl, eval (.Call (.Attribute o name apos) args [] pos) env = (do
      let ov ← eval o env
      standAt apos.atName
      let (f, first) ← holding [ov] (getMethod ov name pl)
      callWith pos f first (backTo pos (starEach args env)) []) := by
  have hf : methodCallForm (args.length + 0) (backTo pos (starEach args env)) (backToKw pos (keywordEach [] env)) = true := by
    unfold methodCallForm
    rw [(back_plain hp).2]
    show (true && true && decide (args.length + 0 + 0 < 30)) = true
    have : args.length < 30 := Nat.le_of_ble_eq_true hl
    simpa using this
  refine ⟨do return (← importBound o env).getD true, ?_⟩
  have e1 : eval (.Call (.Attribute o name apos) args [] pos) env = (do
    let ov ← eval o env
    standAt apos.atName
    methodCall o name apos pos env ov (args.length + 0) (backTo pos (starEach args env)) (backToKw pos (keywordEach [] env))) := by
    cases o <;> first | rfl | cases h
  rw [e1]
  refine congrArg _ (funext fun ov => congrArg _ (funext fun _ => ?_))
  unfold methodCall
  rw [hf]
  unfold calleeOf methodCallPos
  simp only [if_true, he, Bool.not_true, Bool.false_or]
  rfl
theorem vPart_ok (H : VCOk c R) {e : Option Expr} {K : KV} (k : vPart R e K m cv l tk) : WE c (evalPart e c.ev) K m cv l tk := by
  cases e with
  | none => exact .mk fun _ hh => evalPart_none_step (Out.mk hh k)
  | some e => exact .mk fun _ hh => evalPart_some_step ((H.E k).run hh)
theorem WM.run {ov : Value} {name : Str} {K : Value × List Value → KU} (k : WM c ov name K m cv l tk) (pl : Sem Bool) : WE c (getMethod ov name pl) K m cv l tk := by delta WM at k; exact k pl
theorem WM.mk {ov : Value} {name : Str} {K : Value × List Value → KU} (k : ∀ pl, WE c (getMethod ov name pl) K m cv l tk) : WM c ov name K m cv l tk := by delta WM; exact k
theorem WM.cut {ov : Value} {name : Str} {K : Value × List Value → KU} {l' : Lb} (e : l.flatten = l'.flatten) (k : WM c ov name K m cv l' tk) : WM c ov name K m cv l tk := .mk fun pl => .cut e (k.run pl)
theorem WSl.run {value slice : Expr} {o lo hi : Value} {K : KV} (k : WSl c value slice o lo hi K m cv l tk) (hh : Holds c m cv l h) : wpAny (model Pr w.w) c.A (subscriptTail value slice o (.ref h.objs.size)) (Out c K) c.E { c.sh h tk with heap := h.push { cls := .type "slice", data := .fields #[lo, hi, .none] } } := by delta WSl at k; exact k h hh
theorem WSl.mk {value slice : Expr} {o lo hi : Value} {K : KV} (k : ∀ h, Holds c m cv l h → wpAny (model Pr w.w) c.A (subscriptTail value slice o (.ref h.objs.size)) (Out c K) c.E { c.sh h tk with heap := h.push { cls := .type "slice", data := .fields #[lo, hi, .none] } }) : WSl c value slice o lo hi K m cv l tk := by delta WSl; exact k
theorem sub_eq {slice : Expr} (h : notSlice slice = true) {value : Expr} {pos : Pos} {K : KV} (k : WE c (eval value c.ev) (fun o => WE c (eval slice c.ev) fun i => WE c (subscriptTail value slice o i) K) m cv l tk) : WE c (eval (.Subscript value slice pos) c.ev) K m cv l tk :=
  let _ := h
  .mk fun _ hh => Subscript_ (k.go hh fun _ _ _ _ _ _ hh k => k.go hh fun _ _ _ _ _ _ hh k => k.run hh)
theorem len_fit {n : Nat} {es : List Expr} (h : big es = false) (e : n = es.length) : n ≤ sizeLine := by
  rw [sizeLine_eq, e]
  have : ¬ 9 ≤ es.length := fun q => by
    unfold big at h
    rw [Nat.ble_eq_true_of_le q, Bool.true_or] at h; cases h
  omega
theorem vArgs_len (H : VCOk c R) {pos : Pos} : ∀ {es : List Expr} {K : List Value → KU} {m cv l tk}, plains es = true → vArgs R es K m cv l tk → WE c (spliced (backTo pos (starEach es c.ev))) (fun vs m cv l tk => vs.length = es.length ∧ K vs m cv l tk) m cv l tk
  | [], _, _, _, _, _, _, k => .mk fun _ hh => args_nil (Out.mk hh ⟨rfl, k⟩)
  | e :: es, _, _, _, _, _, hp, k => by
    obtain ⟨h1, h2⟩ := Bool.and_eq_true_iff.mp hp
    refine .mk fun _ hh => args_cons ?_ (star_cons h1 es c.ev)
    refine (H.E k).go hh fun v _ _ _ _ _ hh k => ?_
    exact (vArgs_len H h2 k).go hh fun vs _ _ _ _ _ hh k => Out.mk hh ⟨by rw [List.length_cons, List.length_cons, k.1], k.2⟩
theorem BK_go {b : Bool} {P Q : KU} (k : BK b P Q m cv l tk) : if b = true then P m cv l tk else Q m cv l tk := BR.out k
theorem vConst_ok {q : Const} {n : Nat} {p : Pos} {K : KV} (k : vConst c q n p K m cv l tk) : WE c (eval (.Constant q n p) c.ev) K m cv l tk := by
  cases q with
  | str x => exact .mk fun _ hh => Constant_str (Out.mk hh k)
  | int i => exact .mk fun _ hh => wpAny_Constant_int (Out.mk hh k)
  | bool b => exact .mk fun _ hh => Constant_bool (Out.mk hh k)
  | none => exact .mk fun _ hh => wpAny_Constant_none (Out.mk hh k)
  | _ => exact k
theorem vUn_ok (H : VCOk c R) {op : UnaryOp} {a : Expr} {p : Pos} {K : KV} (k : vUn c R op a p K m cv l tk) : WE c (eval (.UnaryOp op a p) c.ev) K m cv l tk := by
  cases op with
  | USub =>
    refine .mk fun _ hh => UnaryOp_ ((H.E k).go hh fun v _ _ _ _ _ hh k => ?_)
    cases v with
    | int i t => exact neg_int (Out.mk hh k)
    | _ => exact WE.run k hh
  | _ => exact k
theorem vCompare_ok (H : VCOk c R) {a : Expr} {ops : List CmpOp} {bs : List Expr} {p : Pos} {K : KV} (k : vCompare c R a ops bs p K m cv l tk) : WE c (eval (.Compare a ops bs p) c.ev) K m cv l tk := by
  match ops, bs, k with
  | [op], [b], k =>
    cases hb : behindInMarks op b with
    | true => unfold vCompare at k; dsimp only at k; rw [hb] at k; exact k
    | false =>
      unfold vCompare at k; dsimp only at k; rw [hb] at k
      have k : R.E a (fun va => R.E b fun vb => vCmp c op va vb K) m cv l tk := k
      exact .mk fun _ hh => wpAny_Compare1 ((H.E k).go hh fun _ _ _ _ _ _ hh k => (H.E k).go hh fun _ _ _ _ _ _ hh k => (vCmp_ok k).run hh) hb
  | [o₁, o₂], [b₁, b₂], k =>
    cases hb : lastMarks [o₁, o₂] [b₁, b₂] with
    | true => unfold vCompare at k; dsimp only at k; rw [hb] at k; exact k
    | false =>
      unfold vCompare at k; dsimp only at k; rw [hb] at k
      have k : R.E a (fun va => R.E b₁ fun vb => vCmp c o₁ va vb fun v => vTru c v fun t => BK t (R.E b₂ fun vd => vCmp c o₂ vb vd K) (K v)) m cv l tk := k
      refine .mk fun _ hh => Compare_chain ((H.E k).go hh fun _ _ _ _ _ _ hh k => chain_link ((H.E k).go hh fun _ _ _ _ _ _ hh k => (vCmp_ok k).go hh fun _ _ _ _ _ _ hh k => (vTru_ok k).go hh fun t _ _ _ _ _ hh k => ?_)) hb
      have k := BK_go k
      cases t
      · exact Out.mk hh k
      · exact chain_last ((H.E k).go hh fun _ _ _ _ _ _ hh k => (vCmp_ok k).run hh)
  | [], _, k => exact k
  | [_], [], k => exact k
  | [_], _ :: _ :: _, k => exact k
  | [_, _], [], k => exact k
  | [_, _], [_], k => exact k
  | [_, _], _ :: _ :: _ :: _, k => exact k
  | _ :: _ :: _ :: _, _, k => exact k
theorem vBool_ok (H : VCOk c R) {op : BoolOp} {es : List Expr} {p : Pos} {K : KV} (k : vBool c R op es p K m cv l tk) : WE c (eval (.BoolOp op es p) c.ev) K m cv l tk := by
  match es, k with
  | [], k => exact k
  | [e], k => exact .mk fun _ hh => BoolOp_one ((H.E k).run hh)
  | e₁ :: e₂ :: rest, k =>
    cases op with
    | And =>
      refine .mk fun _ hh => BoolOp_and ((H.E k).go hh fun v _ _ _ _ _ hh k => (vTru_ok k).go hh fun b _ _ _ _ _ hh k => ?_)
      have k := BK_go k
      cases b
      · exact Out.mk hh k
      · exact (H.E k).run hh
    | Or =>
      refine .mk fun _ hh => BoolOp_or ((H.E k).go hh fun v _ _ _ _ _ hh k => (vTru_ok k).go hh fun b _ _ _ _ _ hh k => ?_)
      have k := BK_go k
      cases b
      · exact (H.E k).run hh
      · exact Out.mk hh k
theorem attrOf_some {f o : Expr} {name : Str} {apos : Pos} (h : attrOf f = some (o, name, apos)) : f = .Attribute o name apos := by
  cases f with
  | Attribute o' n' a' => cases h; rfl
  | _ => cases h
theorem attrOf_none {f : Expr} (h : attrOf f = none) : notAttr f = true := by
  cases f with
  | Attribute o' n' a' => cases h
  | _ => rfl
theorem vCallE_ok (H : VCOk c R) {f : Expr} {args : List Expr} {kw : List Keyword} {pos : Pos} {K : KV} (k : vCallE c R f args kw pos K m cv l tk) : WE c (eval (.Call f args kw pos) c.ev) K m cv l tk := by
  cases kw with
  | cons _ _ => exact k
  | nil =>
    unfold vCallE at k
    dsimp only at k
    cases ha : attrOf f with
    | none =>
      rw [ha] at k
      rcases bif_t k with ⟨h2, k⟩ | k
      · exact .mk fun _ hh => Call_ ((H.E k).go hh fun fv _ _ _ _ _ hh k => (vCall_ok H h2 k).run hh) (call_eq (attrOf_none ha) _ _ _)
      · exact k
    | some q =>
      obtain ⟨o, name, apos⟩ := q
      rw [ha] at k
      have := attrOf_some ha
      subst this
      rcases bif_t k with ⟨hb, k⟩ | k
      · obtain ⟨h1, hb⟩ := Bool.and_eq_true_iff.mp hb
        obtain ⟨h2, hb⟩ := Bool.and_eq_true_iff.mp hb
        obtain ⟨h3, h4⟩ := Bool.and_eq_true_iff.mp hb
        obtain ⟨pl, he⟩ := meth_eq (name := name) (env := c.ev) h1 h2 h3 h4
        exact .mk fun _ hh => MethodCall_ (pl := pl) ((H.E k).go hh fun ov _ _ _ _ _ hh k => (k.run pl).go hh fun fx _ _ _ _ _ hh k => (vCall_ok H h2 k).run hh) he
      · exact k
theorem partsOf_some {e : Expr} {lo hi : Option Expr} {p : Pos} (h : partsOf e = some (lo, hi, p)) : e = .Slice lo hi none p := by
  cases e with
  | Slice l u s q =>
    cases s with
    | none => cases h; rfl
    | some _ => cases h
  | _ => cases h
theorem vSub_ok (H : VCOk c R) {value slice : Expr} {pos : Pos} {K : KV} (k : vSub c R value slice pos K m cv l tk) : WE c (eval (.Subscript value slice pos) c.ev) K m cv l tk := by
  unfold vSub at k
  cases hp : partsOf slice with
  | some q =>
    obtain ⟨lo, hi, p⟩ := q
    rw [hp] at k
    have := partsOf_some hp
    subst this
    refine .mk fun _ hh => Subscript_ ((H.E k).go hh fun o _ _ _ _ _ hh k => ?_)
    refine wpAny_Slice ((vPart_ok H k).go hh fun _ _ _ _ _ _ hh k => (vPart_ok H k).go hh fun _ _ _ _ _ _ hh k => evalPart_none_step ?_)
    exact k.run hh
  | none =>
    rw [hp] at k
    rcases bif_t k with ⟨hb, k⟩ | k
    · exact sub_eq hb ((H.E k).mono fun _ _ _ _ _ k => (H.E k))
    · exact k
theorem vE_ok (H : VCOk c R) {e : Expr} {K : KV} (k : vE c R e K m cv l tk) : WE c (eval e c.ev) K m cv l tk := by
  cases e with
  | Constant q n p => exact vConst_ok k
  | Name x pos => exact vName_ok k
  | BinOp a op b p => exact .mk fun _ hh => wpAny_BinOp ((H.E k).go hh fun _ _ _ _ _ _ hh k => (H.E k).go hh fun _ _ _ _ _ _ hh k => (vBin_ok k).run hh)
  | UnaryOp op a p => exact vUn_ok H k
  | IfExp t a b p =>
    refine .mk fun _ hh => IfExp_ ((H.T k).go hh fun b _ _ _ _ _ hh k => ?_)
    have k := BK_go k
    cases b
    · exact (H.E k).run hh
    · exact (H.E k).run hh
  | Compare a ops bs p => exact vCompare_ok H k
  | BoolOp op es p => exact vBool_ok H k
  | Call f args kw pos => exact vCallE_ok H k
  | Attribute value attr pos =>
    rcases bif_t k with ⟨hb, k⟩ | k
    · exact .mk fun _ hh => Attribute_any_ ((H.E k).go hh fun _ _ _ _ _ _ hh k => k.run hh) (attr_eq hb _ _ _)
    · exact k
  | Subscript value slice pos => exact vSub_ok H k
  | List elts pos =>
    rcases bif_t k with ⟨hb, k⟩ | k
    · obtain ⟨h1, h2⟩ := Bool.and_eq_true_iff.mp hb
      have h2 : big elts = false := by simpa using h2
      refine .mk fun _ hh => List_ ((vArgs_len H h1 k).go hh fun vs m1 cv1 l1 tk1 h1 hh k => ?_)
      have hh' := hh
      obtain ⟨mm, co, F, hm, N, a⟩ := hh'
      exact newList_K F N (fun D h' F' N' lt => Out.mk (.newer hm a F' N' lt) (k.2 D)) (len_fit h2 k.1)
    · exact k
  | Tuple elts kk pos =>
    rcases bif_t k with ⟨hb, k⟩ | k
    · obtain ⟨h1, h2⟩ := Bool.and_eq_true_iff.mp hb
      have h2 : big elts = false := by simpa using h2
      refine .mk fun _ hh => Tuple_ ((vArgs_len H h1 k).go hh fun vs m1 cv1 l1 tk1 h1 hh k => ?_)
      have hh' := hh
      obtain ⟨mm, co, F, hm, N, a⟩ := hh'
      exact kup_newTuple F N (fun D h' F' N' lt => Out.mk (.newer hm a F' N' lt) (k.2 D)) (len_fit h2 k.1)
    · exact k
  | _ => exact k
theorem vTBool_ok (H : VCOk c R) {op : BoolOp} {es : List Expr} {p : Pos} {K : Bool → KU} (k : vTBool c R op es p K m cv l tk) : WE c (PySem.isTrue (.BoolOp op es p) c.ev (eval (.BoolOp op es p) c.ev)) K m cv l tk := by
  cases op with
  | And => cases es with
    | nil => exact .mk fun _ hh => isTrue_and_nil (Out.mk hh k)
    | cons x rest =>
      refine .mk fun _ hh => isTrue_and ((H.T k).go hh fun b _ _ _ _ _ hh k => ?_)
      have k := BK_go k
      cases b
      · exact Out.mk hh k
      · exact (H.T k).run hh
  | Or => cases es with
    | nil => exact .mk fun _ hh => isTrue_or_nil (Out.mk hh k)
    | cons x rest =>
      refine .mk fun _ hh => isTrue_or ((H.T k).go hh fun b _ _ _ _ _ hh k => ?_)
      have k := BK_go k
      cases b
      · exact (H.T k).run hh
      · exact Out.mk hh k
theorem vTCompare_ok (H : VCOk c R) {a : Expr} {ops : List CmpOp} {bs : List Expr} {p : Pos} {K : Bool → KU} (k : vTCompare c R a ops bs p K m cv l tk) : WE c (PySem.isTrue (.Compare a ops bs p) c.ev (eval (.Compare a ops bs p) c.ev)) K m cv l tk := by
  match ops, bs, k with
  | [op], [b], k =>
    cases hb : behindInMarks op b with
    | true => unfold vTCompare at k; dsimp only at k; rw [hb] at k; exact k
    | false =>
      unfold vTCompare at k; dsimp only at k; rw [hb] at k
      have k : R.E a (fun va => R.E b fun vb => vCmp c op va vb fun v => vTru c v K) m cv l tk := k
      exact .mk fun _ hh => wpAny_isTrue_Compare1 ((H.E k).go hh fun _ _ _ _ _ _ hh k => (H.E k).go hh fun _ _ _ _ _ _ hh k => (vCmp_ok k).go hh fun _ _ _ _ _ _ hh k => (vTru_ok k).run hh) hb
  | [], _, k => exact k
  | [_], [], k => exact k
  | [_], _ :: _ :: _, k => exact k
  | _ :: _ :: _, _, k => exact k
theorem vT_ok (H : VCOk c R) {e : Expr} {K : Bool → KU} (k : vT c R e K m cv l tk) : WE c (PySem.isTrue e c.ev (eval e c.ev)) K m cv l tk := by
  cases e with
  | UnaryOp op x p => cases op with
    | Not => exact .mk fun _ hh => isTrue_not ((H.T k).go hh fun _ _ _ _ _ _ hh k => Out.mk hh k)
    | _ => exact k
  | BoolOp op es p => exact vTBool_ok H k
  | Compare a ops bs p => exact vTCompare_ok H k
  | Name x pos => exact .mk fun _ hh => isTrue_plain ((H.E k).go hh fun _ _ _ _ _ _ hh k => (vTru_ok k).run hh)
  | Call f args kw pos => exact .mk fun _ hh => isTrue_plain ((H.E k).go hh fun _ _ _ _ _ _ hh k => (vTru_ok k).run hh)
  | _ => exact k
theorem vce_ok (c : Ct w S r u) (st : List Nat) : ∀ n, VCOk c (vcs c st n)
  | 0 => ⟨id, id⟩
  | n + 1 => ⟨fun k => vE_ok (vce_ok c st n) k, fun k => vT_ok (vce_ok c st n) k⟩
/-- a def's frame: its names are stored; hid are objects that the walk does not see -/
structure FnFrame (c : Ct w S r u) : Prop where
  k : S.kind = .function
  po : PassesOwn (model Pr w.w) c.A c.ev c.E
  e : ∃ cn a ccd hid, c.ev = envX cn S c.L a ccd (cellsFrom (c.L + 1) S.names []) ∧ c.Inv = fun m cv mm co => ∃ co1, co = hid ++ co1 ∧ LoOk S m mm ∧ CellOk S (cellsFrom (c.L + 1) S.names []) cv co1
theorem vStore_ok (hf : FnFrame c) {x : Str} {v : Value} {K : KU} (k : vStore c x v K m cv l tk) : WE c (storeName c.ev x v) (fun _ => K) m cv l tk := by
  unfold vStore at k
  obtain ⟨hk, _, cn, a, ccd, hid, he, hi⟩ := hf
  split at k
  · rename_i hx
    refine .mk fun _ hh => ?_
    obtain ⟨mm, co, F, hm, N, ap⟩ := hh
    rw [hi] at hm
    obtain ⟨co1, ec, hm, hc⟩ := hm
    have mk : ∀ m' mm', LoOk S m' mm' → c.Inv m' cv mm' co := fun m' mm' q => by rw [hi]; exact ⟨co1, ec, q, hc⟩
    rw [he]
    refine storeX_L F N (fun h' F' N' => Out.mk ⟨_, co, F', mk _ _ fun y z e => ?_, N', ap⟩ k) hk hx
    rw [lookup_setL] at e
    by_cases q : y = x
    · rw [if_pos q] at e
      exact ⟨(if_pos q).trans e, q ▸ hx⟩
    · rw [if_neg q] at e
      exact ⟨(if_neg q).trans (hm _ _ e).1, (hm _ _ e).2⟩
  · rename_i hx
    refine .mk fun _ hh => ?_
    obtain ⟨mm, co, F, hm, N, ap⟩ := hh
    rw [hi] at hm
    obtain ⟨co1, rfl, hm, hc⟩ := hm
    obtain ⟨d, hd⟩ := hc.all _ hx
    have hk' : d ∈ co1.map (·.1) := by rw [hc.keys]; exact List.mem_map.mpr ⟨_, mem_of_lookup hd, rfl⟩
    obtain ⟨⟨d', o⟩, hp, e⟩ := List.mem_map.mp hk'
    have e : d' = d := e
    subst e
    obtain ⟨v₀, hv⟩ := hc.cell _ hp
    obtain ⟨a1, a2, a3⟩ := apart_app.mp ap
    obtain ⟨b1, b2, b3⟩ := apart_app.mp a1
    have hl : ∀ p ∈ l.flatten, p.1 ≠ d' := fun p hq e => a3 _ (List.mem_append_right _ hp) p hq e.symm
    have hg : ∀ p ∈ hid, p.1 ≠ d' := fun p hq => b3 p hq _ hp
    have e (o' : Obj) : setK d' o' (hid ++ co1 ++ l.flatten) = hid ++ setK d' o' co1 ++ l.flatten := by rw [setK_append, setK_append, setK_other hl, setK_other hg]
    have mk : ∀ o', CellOk S (cellsFrom (c.L + 1) S.names []) (setL x v cv) (setK d' o' co1) → c.Inv m (setL x v cv) mm (hid ++ setK d' o' co1) := fun o' q => by rw [hi]; exact ⟨_, rfl, hm, q⟩
    rw [he]
    exact storeX_C F N hd (updF_of ap (List.mem_append_left _ (List.mem_append_right _ hp))) hv (fun h' o' F' N' hd' => Out.mk ⟨mm, hid ++ setK d' o' co1, F', mk o' (hc.set b2 hx hd hd'), e o' ▸ N', e o' ▸ ap.setK⟩ k) hk hx
  · exact k
structure VSOk (c : Ct w S r u) (R : VC) : Prop where
  S : ∀ {e K m cv l tk}, R.S e K m cv l tk → WE c (execs e c.ev) K m cv l tk
theorem vAssign_ok (hf : FnFrame c) (H : VCOk c R) {t value : Expr} {pos : Pos} {K : Flow → KU} (hb : notComp value = true) (k : vAssign c R t value pos K m cv l tk) : WE c (exec (.Assign [t] value pos) c.ev) K m cv l tk := by
  cases t with
  | Name x p => exact .mk fun _ hh => wpAny_Assign_Name ((H.E k).go hh fun _ _ _ _ _ _ hh k => (vStore_ok hf k).go hh fun _ _ _ _ _ _ hh k => Out.mk hh k) (swaps_none hb _ _ _)
  | Attribute o attr p => exact .mk fun _ hh => plainObj_wpAny_Assign_Attribute ((H.E k).go hh fun _ _ _ _ _ _ hh k => (H.E k).go hh fun _ _ _ _ _ _ hh k => k.go hh fun _ _ _ _ _ _ hh k => Out.mk hh k) (swaps_none hb _ _ _)
  | Subscript o i p => exact .mk fun _ hh => wpAny_Assign_Subscript ((H.E k).go hh fun _ _ _ _ _ _ hh k => (H.E k).go hh fun _ _ _ _ _ _ hh k => (H.E k).go hh fun _ _ _ _ _ _ hh k => k.go hh fun _ _ _ _ _ _ hh k => Out.mk hh k) (swaps_none hb _ _ _)
  | _ => exact k
theorem vAug_ok (hf : FnFrame c) (H : VCOk c R) {t value : Expr} {op : Operator} {pos : Pos} {K : Flow → KU} (k : vAug c R t op value pos K m cv l tk) : WE c (exec (.AugAssign t op value pos) c.ev) K m cv l tk := by
  cases t with
  | Name x p =>
    have k : (match m.lookup x with
      | some old => R.E value (fun v => vInp c op old v fun z => vStore c x z (K .next)) m cv l tk
      | none => WE c (exec (.AugAssign (.Name x p) op value pos) c.ev) K m cv l tk) := k
    cases hx : m.lookup x with
    | none => rw [hx] at k; exact k
    | some old =>
      rw [hx] at k
      refine .mk fun _ hh => wpAny_AugAssign_Name ?_
      have hh' := hh
      obtain ⟨mm, co, F, hm, N, ap⟩ := hh'
      obtain ⟨hk, _, cn, a, ccd, hid, he, hi⟩ := id hf
      rw [hi] at hm
      obtain ⟨co1, ec, hm, hc⟩ := hm
      obtain ⟨h1, h2⟩ := hm _ _ hx
      have ld : ∀ {Q : Value → Shared → Prop}, Q _ (c.sh ‹Heap› tk) → wpAny (model Pr w.w) c.A (loadName c.ev x) Q c.E (c.sh ‹Heap› tk) := fun q => by
        rw [he]; exact wpAny_loadName_local hk h2 F.ns h1 q
      exact ld ((H.E k).go hh fun _ _ _ _ _ _ hh k => (vInp_ok k).go hh fun _ _ _ _ _ _ hh k => (vStore_ok hf k).go hh fun _ _ _ _ _ _ hh k => Out.mk hh k)
  | _ => exact k
theorem vS0_ok (hf : FnFrame c) (H : VCOk c R) (HS : VSOk c R) {s : Stmt} {K : Flow → KU} (k : vS0 c R s K m cv l tk) : WE c (exec s c.ev) K m cv l tk := by
  cases s with
  | Return e pos => cases e with
    | some e => exact .mk fun _ hh => wpAny_Return_some ((H.E k).go hh fun _ _ _ _ _ _ hh k => Out.mk hh k)
    | none => exact .mk fun _ hh => wpAny_Return_none (Out.mk hh k)
  | If t a b p =>
    refine .mk fun _ hh => wpAny_If ((H.T k).go hh fun b _ _ _ _ _ hh k => ?_)
    have k := BK_go k
    cases b
    · exact (HS.S k).run hh
    · exact (HS.S k).run hh
  | Expr e pos =>
    rcases bif_t k with ⟨hb, k⟩ | k
    · exact .mk fun _ hh => wpAny_Expr_any ((H.E k).go hh fun _ _ _ _ _ _ hh k => Out.mk hh k) c.hI (swaps_none hb _ _ _)
    · exact k
  | Assign ts value pos =>
    match ts, k with
    | [t], k =>
      rcases bif_t k with ⟨hb, k⟩ | k
      · exact vAssign_ok hf H hb k
      · exact k
    | [], k => exact k
    | _ :: _ :: _, k => exact k
  | AugAssign t op value pos => exact vAug_ok hf H k
  | _ => exact k
theorem vS1_ok (hf : FnFrame c) (H : VCOk c R) (HS : VSOk c R) {st : List Nat} {s : Stmt} {K : Flow → KU} (k : vS1 c st R s K m cv l tk) : WE c (exec s c.ev) K m cv l tk := by
  rcases bif_t k with ⟨_, k⟩ | k
  · exact k
  · exact vS0_ok hf H HS k
theorem vS_ok (hf : FnFrame c) (H : VCOk c R) (HS : VSOk c R) {st : List Nat} {ss : List Stmt} {K : Flow → KU} (k : vS c st R ss K m cv l tk) : WE c (execs ss c.ev) K m cv l tk := by
  cases ss with
  | nil => exact .mk fun _ hh => wpAny_execs_nil (Out.mk hh k)
  | cons s rest =>
    refine .mk fun _ hh => wpAny_execs_cons ((vS1_ok hf H HS k).go hh fun f _ _ _ _ _ hh k => ?_)
    cases f
    · exact (HS.S k).run hh
    · exact Out.mk hh k
    · exact Out.mk hh k
    · exact Out.mk hh k
theorem vcs_ok (c : Ct w S r u) (hf : FnFrame c) (st : List Nat) : ∀ n, VSOk c (vcs c st n)
  | 0 => ⟨id⟩
  | n + 1 => ⟨fun k => vS_ok hf (vce_ok c st n) (vcs_ok c hf st n) k⟩
/-- the names of a def's frame read -/
theorem not_debug {x : Str} {k : NameKind} (hS : S.names.lookup (Str.ofString "__debug__") = none) (hx : S.names.lookup x = some k) : (x == Str.ofString "__debug__") = false :=
  beq_eq_false_iff_ne.mpr fun e => by rw [e, hS] at hx; cases hx
theorem fn_rd {w : WG} {S : Scope} {h₀ : Heap} {L a : Addr} {cn : Str} {ccd : Value} {cl : List (Str × Addr)} {A : Around} {E : Value → Shared → Prop} {s : Shared} {mean : ExcName → Option Value} {mg mb : Str → Option Value} (hS : S.names.lookup (Str.ofString "__debug__") = none) (hk : S.kind = .function)
    (X : (KF w).In h₀) (T : Top w.vw (looseW w.vw [Str.ofString "Tree"]) mean mg mb h₀) {m cv : Lo} {mm : Str → Option Value} {co l : Ld} {h : Heap} {tk : Nat} {x : Str} {pos : Pos} {v : Value} {Q : Value → Shared → Prop} (F : Fr h₀ L h mm) (hi : LoOk S m mm ∧ CellOk S cl cv co) {hid : Ld} (N : News h₀ L h ((hid ++ co) ++ l)) (hv : see S m cv x = some v)
    (k : Q v { s with heap := h, toks := tk }) : wpAny (model Pr w.w) A (eval (.Name x pos) (envX cn S L a ccd cl)) Q E { s with heap := h, toks := tk } := by
  unfold see at hv
  split at hv
  · rename_i v' e
    cases hv
    obtain ⟨h1, h2⟩ := hi.1 _ _ e
    exact nameX_L (s := { s with heap := h, toks := tk }) F h1 k hk h2 (not_debug hS h2)
  · split at hv
    · rename_i v' e
      cases hv
      obtain ⟨h2, a, o, h3, h4, h5⟩ := hi.2.val _ _ e
      exact nameX_C (s := { s with heap := h, toks := tk }) N h3 (List.mem_append_left _ (List.mem_append_right _ h4)) h5 k hk h2 (not_debug hS h2)
    · split at hv
      · rename_i v' e
        split at hv
        · rename_i h2
          cases hv
          rcases globs_ok w _ _ e with g | ⟨h1, h3, h4⟩
          · exact nameX_K (s := { s with heap := h, toks := tk }) F X (topRead_of T) g k hk h2 (not_debug hS h2)
          · exact nameX_B (s := { s with heap := h, toks := tk }) F X (topRead_of T) h1 h3 h4 k hk h2 (not_debug hS h2)
        · cases hv
      · cases hv
theorem cellsFrom_nil : ∀ (names : List (Str × NameKind)) (n : Nat), (names.all fun x => x.2 != .cell) = true → cellsFrom n names [] = []
  | [], _, _ => rfl
  | (x, k) :: r, n, h => by
    rw [List.all_cons, Bool.and_eq_true] at h
    unfold cellsFrom
    have : (k == NameKind.cell) = false := by simpa using h.1
    rw [this]
    exact cellsFrom_nil r n h.2
end
end
section
open PySem PySem.W PyProof.Rows PySem.Spec PySem.Calls PyProof.V
section
variable {w : WG}
/-- a call of a def of the text: pre is the block of the ledger that it turns, B what it asks of the call's own objects, Post what stands behind -/
structure CallOk (w : WG) (r u : Nat) (B : Heap → Prop) (f : Addr) (args : List Value) (pre : Lb) (Post : Value → Lb → Prop) : Prop where
  run : ∀ {S r' u'} (c : Ct w S r' u'), Nat.ble r r' = true → Nat.ble u u' = true → B c.base → ∀ {K : KV} {m cv : Lo} {R : Lb} {tk : Nat}, (∀ v post tk', Post v post → K v m cv (post ++ R) tk') → WE c (call (.ref f) args) K m cv (pre ++ R) tk
noncomputable def retOf : Flow → Value
  | .ret v => v
  | _ => .none
/-- the end of a body -/
@[irreducible] noncomputable def Ends (Post : Value → Lb → Prop) (R : Lb) (fl : Flow) : KU := fun _ _ l _ => ∃ post, Post (retOf fl) post ∧ (∀ p ∈ (post ++ R).flatten, p ∈ l.flatten) ∧ (Apart l.flatten → Apart (post ++ R).flatten)
theorem apart_perm {l l' : Ld} (h : l.Perm l') : Apart l ↔ Apart l' := (h.map _).nodup_iff
theorem Ends.out {Post : Value → Lb → Prop} {R : Lb} {fl : Flow} {m cv : Lo} {l : Lb} {tk : Nat} (H : Ends Post R fl m cv l tk) : ∃ post, Post (retOf fl) post ∧ (∀ p ∈ (post ++ R).flatten, p ∈ l.flatten) ∧ (Apart l.flatten → Apart (post ++ R).flatten) := by delta Ends at H; exact H
theorem Ends.in {Post : Value → Lb → Prop} {R : Lb} {fl : Flow} {m cv : Lo} {l : Lb} {tk : Nat} (H : ∃ post, Post (retOf fl) post ∧ (∀ p ∈ (post ++ R).flatten, p ∈ l.flatten) ∧ (Apart l.flatten → Apart (post ++ R).flatten)) : Ends Post R fl m cv l tk := by delta Ends; exact H
/-- a body run in a frame of its own -/
theorem body_run {r u r' u' : Nat} {B : Heap → Prop} {f : Addr} {args : Args} {pre : Lb} {Post : Value → Lb → Prop} {name qual : Str} {params : Arguments} {body : List Stmt} {S S₀ : Scope} {dV kV doc pm cdv ct oc : Value} {an od : Option Addr} {osl : Array (Option Value)} {binds : Lo}
    (c : Ct w S₀ r' u') {A : Around} {h : Heap} {tk : Nat} {mm : Str → Option Value} {Q : Result → Shared → Prop}
    (hK : List.lookup f (w.K) = some { cls := oc, dict := od, data := .func (fnOf name qual params body S dV kV doc pm an cdv ct), slots := osl }) (hc : codeIn (w.K) cdv qual = true)
    (hb : ∀ s : Shared, (w.K).In s.heap → BindsTo s (fnOf name qual params body S dV kV doc pm an cdv ct) args binds) (hl : (binds.all fun y => S.names.lookup y.1 == some .local) = true)
    (h1 : S.isCoroutine = false) (h2 : S.isGenerator = false) (h3 : S.kind = .function) (h4 : (S.names.all fun x => x.2 != .cell) = true) (h5 : S.names.lookup (Str.ofString "__debug__") = none)
    (H : ∀ (c : Ct w S r u), FnFrame c → B c.base → ∀ tk, WE c (execs body c.ev) (Ends Post []) binds.reverse [] pre tk)
    (hA : A.frames = some (c.fe :: c.outer)) (hn : A.handled = none) (hdp : A.depth + 1 + r < recursionLimit) (hun : A.units + 3 + u < cLine) (hB : B c.base)
    (F : Fr c.h₀ c.L h mm) (N : News c.h₀ c.L h pre.flatten) (ap : Apart pre.flatten)
    (ret : ∀ v post tk' h', Post v post → Fr c.h₀ c.L h' mm → News c.h₀ c.L h' post.flatten → Apart post.flatten → Q (.ok (.ret v)) (c.sh h' tk')) : codeAny (model Pr w.w) A (.call (.ref f) args) Q (c.sh h tk) := by
  have hcell : ∀ x ∈ S.names, x.2 ≠ .cell := fun x hx => by
    have := List.all_eq_true.mp h4 x hx
    simpa using this
  have hloc : ∀ y ∈ binds, S.names.lookup y.1 = some .local := fun y hy => by
    have := List.all_eq_true.mp hl y hy
    simpa using this
  refine code_def (s := c.sh h tk) c.B F c.X N c.T hA c.hfr c.hfk hK hc (by omega) (hb _ (Frag.In.keeps c.X F.keep)) hloc (fun g L' h₁ FG F' N1 B1 X1 T1 => ?_) h1 h2 h3 hcell
  refine (fun (E' : Value → Shared → Prop) (hE : PassesOwn (model Pr w.w) (A.deeper (envOf qual S L' f cdv)) (envOf qual S L' f cdv) E') => ?_ : ∀ E', PassesOwn (model Pr w.w) (A.deeper (envOf qual S L' f cdv)) (envOf qual S L' f cdv) E' → wpAny _ _ _ _ E' _) _ (by passes_own)
  have ce := cellsFrom_nil S.names (L' + 1) h4
  let c' : Ct w S r u := ⟨L', envOf qual S L' f cdv, envOf qual S L' f cdv, A.deeper (envOf qual S L' f cdv), c.fe :: c.outer, A, c.base, g, E', c.s, c.mean, c.mg, c.mb, fun m cv mm co => ∃ co1, co = [] ++ co1 ∧ LoOk S m mm ∧ CellOk S (cellsFrom (L' + 1) S.names []) cv co1, B1, X1, T1,
    (by show (S.kind == .module && _) = false; rw [h3]; rfl), Around.frames_deeper hA, rfl, h3, hn, hdp, hun, fun F ⟨co1, e, hi⟩ N hv k => by rw [ce] at hi; subst e; exact fn_rd (cl := []) (hid := []) h5 h3 X1 T1 F hi N hv k⟩
  have hf : FnFrame c' := ⟨h3, hE, qual, f, cdv, [], (by show envX qual S L' f cdv [] = envX qual S L' f cdv (cellsFrom (L' + 1) S.names []); rw [ce]), rfl⟩
  have hold : Holds c' binds.reverse [] pre h₁ := ⟨_, [], F', ⟨[], rfl, fun x v e => ⟨e, by
    have := hloc (x, v) (List.mem_reverse.mp (mem_of_lookup e)); exact this⟩, by rw [ce]; rfl, fun x hx => by
      have := hcell _ (mem_of_lookup hx); exact absurd rfl this, (fun _ h => nomatch h), fun _ _ h => nomatch h⟩, N1, ap⟩
  refine (H c' hf hB _).go hold fun fl m1 cv1 l1 tk1 h1 hh1 ke => ?_
  obtain ⟨post, hpost, hs, hap⟩ := ke.out
  rw [List.append_nil] at hs hap
  have a3 := hap hh1.apart
  obtain ⟨mm1, co1, F1, _, N2, a2⟩ := hh1
  refine (?_ : LeaveK _ _ _ _ _ (retOf fl) _)
  exact leaveK_ F1 N2 fun F N => ret _ post tk1 h1 hpost F (fun p hq => N p (List.mem_append_right _ (hs p hq))) a3
theorem Ends.all {Post : Value → Lb → Prop} {R : Lb} {fl : Flow} {m cv : Lo} {l : Lb} {tk : Nat} (H : Ends Post R fl m cv l tk) : Ends (fun v post => ∃ q, Post v q ∧ post = q ++ R) [] fl m cv l tk := by
  obtain ⟨post, a, b, c⟩ := H.out
  exact .in ⟨post ++ R, ⟨post, a, rfl⟩, by rw [List.append_nil]; exact b, by rw [List.append_nil]; exact c⟩
theorem CallOk.of {r u : Nat} {B : Heap → Prop} {f : Addr} {args : List Value} {pre : Lb} {Post : Value → Lb → Prop} {name qual : Str} {params : Arguments} {body : List Stmt} {S : Scope} {dV kV doc pm cdv ct oc : Value} {an od : Option Addr} {osl : Array (Option Value)} {binds : Lo}
    (hK : List.lookup f (w.K) = some { cls := oc, dict := od, data := .func (fnOf name qual params body S dV kV doc pm an cdv ct), slots := osl }) (hc : codeIn (w.K) cdv qual = true)
    (hb : ∀ s : Shared, (w.K).In s.heap → BindsTo s (fnOf name qual params body S dV kV doc pm an cdv ct) ⟨args, []⟩ binds) (hl : (binds.all fun y => S.names.lookup y.1 == some .local) = true)
    (h1 : S.isCoroutine = false) (h2 : S.isGenerator = false) (h3 : S.kind = .function) (h4 : (S.names.all fun x => x.2 != .cell) = true) (h5 : S.names.lookup (Str.ofString "__debug__") = none)
    (H : ∀ (c : Ct w S r u), FnFrame c → B c.base → ∀ R tk, WE c (execs body c.ev) (Ends Post R) binds.reverse [] (pre ++ R) tk) : CallOk w (r + 1) (u + 3) B f args pre Post := by
  refine ⟨fun {S₀ r' u'} c hr hu hB {K m cv R tk} hret => .mk fun h hh => ?_⟩
  have hr := Nat.le_of_ble_eq_true hr
  have hu := Nat.le_of_ble_eq_true hu
  obtain ⟨mm, co, F, hm, N, a⟩ := hh
  have hp (q : Lb) : (co ++ (q ++ R).flatten).Perm (q ++ (R ++ [co])).flatten := by
    rw [← List.append_assoc q, List.flatten_append (L₁ := q ++ R), List.flatten_cons, List.flatten_nil, List.append_nil]; exact List.perm_append_comm
  refine wpAny_call (body_run (B := B) (Post := fun v post => ∃ q, Post v q ∧ post = q ++ (R ++ [co])) (mm := mm) c hK hc hb hl h1 h2 h3 h4 h5 (fun c' hf hB tk => (H c' hf hB (R ++ [co]) tk).mono fun _ _ _ _ _ => Ends.all) c.hA c.hn (by have := c.hd; omega) (by have := c.hu; omega) hB F (fun p hq => N p ((hp pre).mem_iff.mpr hq)) ((apart_perm (hp pre)).mp a) ?_)
  rintro v _ tk' h' ⟨q, hq, rfl⟩ F' N' a'
  exact ⟨m, cv, q ++ R, tk', h', rfl, ⟨mm, co, F', hm, fun p hx => N' p ((hp q).mem_iff.mp hx), (apart_perm (hp q)).mpr a'⟩, hret _ _ _ hq⟩
/-- an object of a class of the text made -/
theorem CallOk.cls {r u : Nat} {B : Heap → Prop} {C fI : Addr} {args : List Value} {pre : Lb} {Post : Value → Lb → Prop} {name qual : Str} {params : Arguments} {body : List Stmt} {S : Scope} {dV kV doc pm cdv ct oc : Value} {an od : Option Addr} {osl : Array (Option Value)} {binds : Addr → Lo}
    (hm : makesIn (w.K) C = true) (hi : findIn (w.K) (.ref C) (Str.ofString "__init__") = some (some (.ref fI))) (hf : isFn (w.K) (.ref fI) = true)
    (hK : List.lookup fI (w.K) = some { cls := oc, dict := od, data := .func (fnOf name qual params body S dV kV doc pm an cdv ct), slots := osl }) (hc : codeIn (w.K) cdv qual = true)
    (hb : ∀ x, ∀ s : Shared, (w.K).In s.heap → BindsTo s (fnOf name qual params body S dV kV doc pm an cdv ct) ⟨.ref x :: args, []⟩ (binds x)) (hl : ∀ x, ((binds x).all fun y => S.names.lookup y.1 == some .local) = true)
    (h1 : S.isCoroutine = false) (h2 : S.isGenerator = false) (h3 : S.kind = .function) (h4 : (S.names.all fun x => x.2 != .cell) = true) (h5 : S.names.lookup (Str.ofString "__debug__") = none)
    (H : ∀ x dx (c : Ct w S r u), FnFrame c → B c.base → ∀ R tk, WE c (execs body c.ev) (Ends (fun v post => v = .none ∧ Post (.ref x) post) R) (binds x).reverse [] (ins x C dx [] 0 :: (pre ++ R)) tk) : CallOk w (r + 2) (u + 4) B C args pre Post := by
  refine ⟨fun {S₀ r' u'} c hr hu hB {K m cv R tk} hret => .mk fun h hh => ?_⟩
  have hr := Nat.le_of_ble_eq_true hr
  have hu := Nat.le_of_ble_eq_true hu
  obtain ⟨mm, co, F, hm', N, a⟩ := hh
  refine call_cls (s := c.sh h tk) F c.X N hm hi hf fun x dx h1' F1 N1 lt ltx => ?_
  have hp (q : Lb) : (co ++ (q ++ R).flatten).Perm (q ++ (R ++ [co])).flatten := by
    rw [← List.append_assoc q, List.flatten_append (L₁ := q ++ R), List.flatten_cons, List.flatten_nil, List.append_nil]; exact List.perm_append_comm
  have a1 : Apart (ins x C dx [] 0 ++ (pre ++ (R ++ [co])).flatten) := by
    refine (apart_cons (p := (x, instObj C dx))).mpr ⟨fun q hq => ?_, (apart_cons (p := (dx, dictOf [] 0))).mpr ⟨fun q hq => ?_, (apart_perm (hp pre)).mp a⟩⟩
    · rcases List.mem_cons.mp hq with rfl | hq
      · exact Nat.ne_of_lt ltx
      · exact Nat.ne_of_lt (Nat.lt_trans (lt q ((hp pre).mem_iff.mpr hq)) ltx)
    · exact Nat.ne_of_lt (lt q ((hp pre).mem_iff.mpr hq))
  refine body_run (B := B) (pre := ins x C dx [] 0 :: (pre ++ (R ++ [co]))) (Post := fun v post => ∃ q, (v = .none ∧ Post (.ref x) q) ∧ post = q ++ (R ++ [co])) (mm := mm) c hK hc (hb x) (hl x) h1 h2 h3 h4 h5 (fun c' hf hB tk => (H x dx c' hf hB (R ++ [co]) tk).mono fun _ _ _ _ _ => Ends.all) (A := c.A.under _) ?_ c.hn ?_ ?_ hB F1 ?_ a1 ?_
  · unfold Around.under
    dsimp only
    rw [c.hA]; rfl
  · have := c.hd
    show c.A.depth + 1 + 1 + r < _
    omega
  · have := c.hu
    show c.A.units + 1 + 3 + u < _
    omega
  · intro p hq
    refine N1 p ?_
    rcases List.mem_cons.mp (show p ∈ (x, instObj C dx) :: (dx, dictOf [] 0) :: (pre ++ (R ++ [co])).flatten from hq) with rfl | hq
    · exact .head _
    · rcases List.mem_cons.mp hq with rfl | hq
      · exact .tail _ (.head _)
      · exact .tail _ (.tail _ ((hp pre).mem_iff.mpr hq))
  · rintro v _ tk' h' ⟨q, ⟨rfl, hq⟩, rfl⟩ F' N' a'
    exact ⟨rfl, m, cv, q ++ R, tk', h', rfl, ⟨mm, co, F', hm', fun p hx => N' p ((hp q).mem_iff.mp hx), (apart_perm (hp q)).mpr a'⟩, hret _ _ _ hq⟩
theorem CallOk.ofF {r u : Nat} {B : Heap → Prop} {f : Addr} {args : List Value} {pre : Lb} {Post : Value → Lb → Prop} {st : Stmt} {dV : Value} {n : Str} {ps : Arguments} {body : List Stmt} {dc : List Expr} {rr : Option Expr} {tp : List TypeParam} {S : Scope} {ts : Option Scope} {bi : Str} {p : Pos} {binds : Lo} (hF : FnAt w.K f st dV) (hst : st = .FunctionDef n ps body dc rr tp S ts bi p)
    (hb : ∀ (s : Shared) qual doc pm an cdv ct oc od osl, List.lookup f w.K = some { cls := oc, dict := od, data := .func (fnOf n qual ps body S dV .none doc pm an cdv ct), slots := osl } → (w.K).In s.heap → BindsTo s (fnOf n qual ps body S dV .none doc pm an cdv ct) ⟨args, []⟩ binds) (hl : (binds.all fun y => S.names.lookup y.1 == some .local) = true)
    (h1 : S.isCoroutine = false) (h2 : S.isGenerator = false) (h3 : S.kind = .function) (h4 : (S.names.all fun x => x.2 != .cell) = true) (h5 : S.names.lookup (Str.ofString "__debug__") = none)
    (H : ∀ (c : Ct w S r u), FnFrame c → B c.base → ∀ R tk, WE c (execs body c.ev) (Ends Post R) binds.reverse [] (pre ++ R) tk) : CallOk w (r + 1) (u + 3) B f args pre Post := by
  subst hst
  obtain ⟨qual, doc, pm, an, cdv, ct, oc, od, osl, hK, hc⟩ := hF
  exact CallOk.of hK hc (fun s X => hb s _ _ _ _ _ _ _ _ _ hK X) hl h1 h2 h3 h4 h5 H
theorem CallOk.clsF {r u : Nat} {B : Heap → Prop} {C f : Addr} {args : List Value} {pre : Lb} {Post : Value → Lb → Prop} {st : Stmt} {dV : Value} {n : Str} {ps : Arguments} {body : List Stmt} {dc : List Expr} {rr : Option Expr} {tp : List TypeParam} {S : Scope} {ts : Option Scope} {bi : Str} {p : Pos} {binds : Addr → Lo} (hC : ClsAt w.K C f) (hF : FnAt w.K f st dV) (hst : st = .FunctionDef n ps body dc rr tp S ts bi p)
    (hb : ∀ x (s : Shared) qual doc pm an cdv ct oc od osl, List.lookup f w.K = some { cls := oc, dict := od, data := .func (fnOf n qual ps body S dV .none doc pm an cdv ct), slots := osl } → (w.K).In s.heap → BindsTo s (fnOf n qual ps body S dV .none doc pm an cdv ct) ⟨.ref x :: args, []⟩ (binds x)) (hl : ∀ x, ((binds x).all fun y => S.names.lookup y.1 == some .local) = true)
    (h1 : S.isCoroutine = false) (h2 : S.isGenerator = false) (h3 : S.kind = .function) (h4 : (S.names.all fun x => x.2 != .cell) = true) (h5 : S.names.lookup (Str.ofString "__debug__") = none)
    (H : ∀ x dx (c : Ct w S r u), FnFrame c → B c.base → ∀ R tk, WE c (execs body c.ev) (Ends (fun v post => v = .none ∧ Post (.ref x) post) R) (binds x).reverse [] (ins x C dx [] 0 :: (pre ++ R)) tk) : CallOk w (r + 2) (u + 4) B C args pre Post := by
  subst hst
  obtain ⟨qual, doc, pm, an, cdv, ct, oc, od, osl, hK, hc⟩ := hF
  obtain ⟨c1, c2, c3⟩ := hC
  exact CallOk.cls c1 c2 c3 hK hc (fun x s X => hb x s _ _ _ _ _ _ _ _ _ hK X) hl h1 h2 h3 h4 h5 H
/-- a part of the ledger by its places: the first n blocks are dealt anew, the rest stays -/
noncomputable def nd : List Nat → Bool
  | [] => true
  | i :: r => !r.contains i && nd r
noncomputable def pick (is : List Nat) (n : Nat) (l : Lb) : Lb := is.filterMap (fun i => (l.take n)[i]?) ++ l.drop n
theorem pick_sub {is : List Nat} {n : Nat} {l : Lb} : ∀ p ∈ (pick is n l).flatten, p ∈ l.flatten := fun p hp => by
  obtain ⟨b, hb, hp⟩ := List.mem_flatten.mp hp
  refine List.mem_flatten.mpr ⟨b, ?_, hp⟩
  rcases List.mem_append.mp hb with hb | hb
  · obtain ⟨i, _, e⟩ := List.mem_filterMap.mp hb
    exact List.mem_of_mem_take (List.mem_of_getElem? e)
  · exact List.mem_of_mem_drop hb
theorem block_apart : ∀ {l : Lb}, Apart l.flatten → (∀ b ∈ l, Apart b) ∧ ∀ (i j : Nat) a b, i < j → l[i]? = some a → l[j]? = some b → ∀ p ∈ a, ∀ q ∈ b, p.1 ≠ q.1
  | [], _ => ⟨(fun _ h => nomatch h), fun _ _ _ _ _ h => by simp at h⟩
  | x :: r, h => by
    obtain ⟨h1, h2, h3⟩ := (apart_app (a := x)).mp h
    obtain ⟨i1, i2⟩ := block_apart h2
    refine ⟨fun b hb => ?_, fun i j a b hij ha hb p hp q hq => ?_⟩
    · rcases List.mem_cons.mp hb with rfl | hb
      · exact h1
      · exact i1 b hb
    · cases j with
      | zero => omega
      | succ j =>
        have hb : r[j]? = some b := by simpa using hb
        cases i with
        | zero =>
          have ha : x = a := by simpa using ha
          exact h3 p (ha ▸ hp) q (mem_block hb hq)
        | succ i => exact i2 i j a b (by omega) (by simpa using ha) hb p hp q hq
theorem pick_front {l : Lb} (a : Apart l.flatten) : ∀ {is : List Nat}, nd is = true → Apart (is.filterMap fun i => l[i]?).flatten
  | [], _ => List.nodup_nil
  | i :: r, h => by
    obtain ⟨h1, h2⟩ := Bool.and_eq_true_iff.mp h
    have ih := pick_front a h2
    obtain ⟨b1, b2⟩ := block_apart a
    rw [List.filterMap_cons]
    split
    · exact ih
    · rename_i x hx
      refine apart_app.mpr ⟨b1 x (List.mem_of_getElem? hx), ih, fun p hp q hq e => ?_⟩
      obtain ⟨y, hy, hq⟩ := List.mem_flatten.mp hq
      obtain ⟨j, hj, ej⟩ := List.mem_filterMap.mp hy
      have hij : j ≠ i := fun q => by
        rw [q] at hj
        rw [List.contains_iff_mem.mpr hj] at h1
        cases h1
      rcases Nat.lt_or_gt_of_ne hij with hlt | hlt
      · exact b2 j i y x hlt ej hx q hq p hp e.symm
      · exact b2 i j x y hlt hx ej p hp q hq e
theorem pick_apart {is : List Nat} {n : Nat} {l : Lb} (h : nd is = true) (a : Apart l.flatten) : Apart (pick is n l).flatten := by
  have a' := a
  rw [← List.take_append_drop n l, List.flatten_append] at a'
  obtain ⟨a1, a2, a3⟩ := apart_app.mp a'
  unfold pick
  rw [List.flatten_append]
  refine apart_app.mpr ⟨pick_front a1 h, a2, fun p hp q hq => a3 p ?_ q hq⟩
  obtain ⟨b, hb, hp⟩ := List.mem_flatten.mp hp
  obtain ⟨i, _, e⟩ := List.mem_filterMap.mp hb
  exact List.mem_flatten.mpr ⟨b, List.mem_of_getElem? e, hp⟩
theorem WE.pick {S : Scope} {r u : Nat} {c : Ct w S r u} {m cv : Lo} {l l' : Lb} {tk : Nat} {α : Type} {t : Sem α} {K : α → KU} (is : List Nat) (n : Nat) (hn : nd is = true) (e : Mine.pick is n l = l') (H : WE c t K m cv l' tk) : WE c t K m cv l tk :=
  H.sub (fun p hp => pick_sub p (e ▸ hp)) fun a => e ▸ pick_apart hn a
theorem Ends.mk {Post : Value → Lb → Prop} {R : Lb} {fl : Flow} {m cv : Lo} {l post : Lb} {tk : Nat} (is : List Nat) (n : Nat) (hn : nd is = true) (e : (Mine.pick is n l).flatten = (post ++ R).flatten) (hp : Post (retOf fl) post) : Ends Post R fl m cv l tk :=
  .in ⟨post, hp, fun p hq => pick_sub p (e.symm ▸ hq), fun a => e ▸ pick_apart hn a⟩
/-- a call that leaves its blocks as they were -/
theorem w_callR {r u : Nat} {f : Addr} {args : List Value} {pre : Lb} {P : Value → Prop} (C : CallOk w r u (fun _ => True) f args pre (fun v post => P v ∧ post = pre)) {S : Scope} {r' u' : Nat} {c : Ct w S r' u'} {K : KV} {m cv : Lo} {l : Lb} {tk : Nat} (R : Lb) (hr : Nat.ble r r' = true) (hu : Nat.ble u u' = true)
    (is : List Nat) (n : Nat) (hn : nd is = true) (ha : (List.range n).all is.contains = true) (e : (Mine.pick is n l).flatten = (pre ++ R).flatten) (k : ∀ v tk', P v → K v m cv l tk') : WE c (call (.ref f) args) K m cv l tk := .mk fun h hh => by
  have ap := hh.apart
  have H : WE c (call (.ref f) args) (fun v m1 cv1 l1 tk1 => P v ∧ m1 = m ∧ cv1 = cv ∧ l1 = pre ++ R) m cv l tk := .pick is n hn rfl (.cut e (C.run c hr hu trivial fun v post tk' ⟨hp, hq⟩ => ⟨hp, rfl, rfl, by rw [hq]⟩))
  refine H.go hh fun v m1 cv1 l1 tk1 h1 hh1 ⟨hp, e1, e2, e3⟩ => ?_
  subst e1 e2 e3
  refine Out.mk (hh1.sub (fun p hp => ?_) ap) (k v tk1 hp)
  rw [← e]
  obtain ⟨b, hb, hp⟩ := List.mem_flatten.mp hp
  refine List.mem_flatten.mpr ⟨b, ?_, hp⟩
  rw [← List.take_append_drop n l] at hb
  rcases List.mem_append.mp hb with hb | hb
  · obtain ⟨i, hi, ei⟩ := List.getElem_of_mem hb
    have hin : i < n := by
      rw [List.length_take] at hi; omega
    have : is.contains i = true := List.all_eq_true.mp ha i (List.mem_range.mpr hin)
    refine List.mem_append_left _ (List.mem_filterMap.mpr ⟨i, List.contains_iff_mem.mp this, ?_⟩)
    rw [List.getElem?_eq_getElem hi, ei]
  · exact List.mem_append_right _ hb
/-- a call that asks nothing of the ledger -/
theorem w_callP {r u : Nat} {f : Addr} {args : List Value} {P : Value → Prop} (C : CallOk w r u (fun _ => True) f args [] (fun v post => P v ∧ post = [])) {S : Scope} {r' u' : Nat} {c : Ct w S r' u'} {K : KV} {m cv : Lo} {l : Lb} {tk : Nat} (hr : Nat.ble r r' = true) (hu : Nat.ble u u' = true)
    (k : ∀ v tk', P v → K v m cv l tk') : WE c (call (.ref f) args) K m cv l tk := w_callR C l hr hu [] 0 rfl rfl rfl k
end
end
section
open PySem PySem.W PyProof.Rows PySem.Spec PySem.Calls PyProof.V
theorem ints_len : ∀ {vs : List Value} {ns : List Int}, IntsAre vs ns → vs.length = ns.length
  | _, _, .nil => rfl
  | _, _, .cons _ _ r => by rw [List.length_cons, List.length_cons, ints_len r]
theorem attr_all {P : Nat → Str → Prop} {T : List (Nat × List String)} (H : ∀ p ∈ T, ∀ x ∈ p.2, P p.1 (Str.ofString x)) {C : Nat} {name : Str} (h : (T.any fun p => p.1 == C && p.2.any fun x => Str.ofString x == name) = true) : P C name := by
  obtain ⟨p, hp, h⟩ := List.any_eq_true.mp h
  obtain ⟨h1, h2⟩ := Bool.and_eq_true_iff.mp h
  obtain ⟨x, hx, h3⟩ := List.any_eq_true.mp h2
  exact beq_iff_eq.mp h1 ▸ beq_iff_eq.mp h3 ▸ H p hp x hx
theorem attr_ok (w : WG) : ∀ {C name}, inT C name = true → AttrOk w.K C name := w.ok.attr
theorem meth_ok (w : WG) : ∀ {C name f}, methOf C name = some f → MethOk w.K C name f := w.ok.meth
/-- a dict's entries: texts for keys -/
noncomputable def DOk (es : List DictEntry) (k : Nat) : Prop := es.any (·.refKey) = false ∧ es.length ≤ k
theorem DOk.nil : DOk [] 0 := ⟨rfl, Nat.le_refl _⟩
theorem DOk.some {es : List DictEntry} {k : Nat} (h : DOk es k) (name : Str) : (getL name es).isSome = true := by
  unfold getL
  split
  · rfl
  · rw [h.1]; rfl
theorem putL_len (name : Str) (hs : Int) (key v : Value) : ∀ es : List DictEntry, (putL name hs key v es).length ≤ es.length + 1
  | [] => Nat.le_refl _
  | e :: r => by
    unfold putL
    split
    · exact Nat.le_succ _
    · exact Nat.succ_le_succ (putL_len name hs key v r)
theorem putL_ref (name : Str) (hs : Int) (t : Tok) (v : Value) : ∀ {es : List DictEntry}, es.any (·.refKey) = false → (putL name hs (.str name t) v es).any (·.refKey) = false
  | [], _ => rfl
  | e :: r, h => by
    rw [List.any_cons, Bool.or_eq_false_iff] at h
    unfold putL
    split
    · rw [List.any_cons, Bool.or_eq_false_iff]; exact ⟨h.1, h.2⟩
    · rw [List.any_cons, Bool.or_eq_false_iff]; exact ⟨h.1, putL_ref name hs t v h.2⟩
theorem DOk.put {name : Str} {hs : Int} {t : Tok} {v : Value} {es : List DictEntry} {k : Nat} (h : DOk es k) : DOk (putL name hs (.str name t) v es) (k + 1) := ⟨putL_ref _ _ _ _ h.1, Nat.le_trans (putL_len _ _ _ _ _) (Nat.succ_le_succ h.2)⟩
noncomputable abbrev putE (w : WG) (name : Str) (tk : Nat) (v : Value) (es : List DictEntry) : List DictEntry := putL name (PyData.keyHash w.w.params name) (.str name tk) v es
section
variable {w : WG} {S : Scope} {r u : Nat} {c : Ct w S r u} {m cv : Lo} {l : Lb} {tk : Nat} {h : Heap}
theorem Holds.base (hh : Holds c m cv l h) {a : Addr} {its : Array Value} (hB : c.base.IsList a its) : h.IsList a its := by
  obtain ⟨mm, co, F, hm, N, ap⟩ := hh
  exact F.lst (stays_list c.B.stays hB)
theorem Holds.list (hh : Holds c m cv l h) {D : Addr} {its : List Value} {n : Nat} (i : Nat) (hi : atB l i = lst D its n) : h.IsList D its.toArray := by
  obtain ⟨mm, ns, F, N, hs⟩ := hh.at
  exact N.isList (hs i _ (atB_get hi) _ List.mem_cons_self)
theorem Holds.tup (hh : Holds c m cv l h) {D : Addr} {its : List Value} (i : Nat) (hi : atB l i = Mine.tup D its) : IsTup h D its.toArray := by
  obtain ⟨mm, ns, F, N, hs⟩ := hh.at
  exact N.isTup (hs i _ (atB_get hi) _ List.mem_cons_self)
theorem w_lenB {a : Addr} {its : Array Value} {K : KV} (hB : c.base.IsList a its) (hz : its.size ≤ 1000) (k : K (.int its.size (tk + 1)) m cv l (tk + 1 + 1)) : WE c (call (.builtin "len") [.ref a]) K m cv l tk :=
  .mk fun _ hh => len_list (hh.base hB) (by omega) (Out.mk hh k)
theorem w_len {D : Addr} {its : List Value} {n : Nat} {K : KV} (i : Nat) (hi : atB l i = lst D its n) (hz : its.length ≤ 1000) (k : K (.int (its.length : Nat) (tk + 1)) m cv l (tk + 1 + 1)) : WE c (call (.builtin "len") [.ref D]) K m cv l tk :=
  .mk fun _ hh => len_list (hh.list i hi) (by rw [List.size_toArray]; omega) (Out.mk hh (by rw [List.size_toArray]; exact k))
theorem sub_not {slice : Expr} (h : notSlice slice = true) (o i : Value) : subscripted slice false o i = operate [o, i] (getItem o i) := by
  cases slice <;> first | rfl | cases h
theorem w_itemB {a : Addr} {vs : List Value} {ns : List Int} {K : KV} {value slice : Expr} {i : Int} {t : Tok} (hs : notSlice slice = true) (hB : c.base.IsList a vs.toArray) (S : IntsAre vs ns) (hn : ns.length ≤ 63) (h0 : 0 ≤ i) (h1 : i < (ns.length : Int)) (k : ∀ z t, K (.int z t) m cv l tk) :
    WE c (subscriptTail value slice (.ref a) (.int i t)) K m cv l tk :=
  .mk fun _ hh => r_itemI (hh.base hB) S hn h0 h1 (fun z t => Out.mk hh (k z t)) (sub_not hs _ _)
/-- an item of a list, at a place that is not negative -/
theorem w_item {D : Addr} {its : List Value} {n : Nat} {K : KV} {value slice : Expr} {k : Int} {t : Tok} {x : Value} (i : Nat) (hi : atB l i = lst D its n) (hs : notSlice slice = true) (hz : its.length ≤ 1000) (h0 : 0 ≤ k) (hx : its[k.toNat]? = some x) (kk : K x m cv l tk) :
    WE c (subscriptTail value slice (.ref D) (.int k t)) K m cv l tk :=
  .mk fun _ hh => by
    have hil := hh.list i hi
    have hlt : k.toNat < its.length := (List.getElem?_eq_some_iff.mp hx).1
    exact tail_any hil.typeIs slot_list_getitem.lookup (wpAny_getItem_list (x := x) hil h0 (by omega) (by simpa using hx) (Out.mk hh kk)) (sub_not hs _ _)
theorem w_get {x C dx : Addr} {es : List DictEntry} {n : Nat} {name : Str} {v : Value} {b : Bool} {K : KV} (i : Nat) (hi : atB l i = ins x C dx es n) (ok : inT C name = true) (hv : getL name es = some (some v)) (hh : handedIn v = true) (k : K v m cv l (tk + 1)) : WE c (getAttr (.ref x) name b) K m cv l tk :=
  .mk fun _ hh0 => by
    obtain ⟨mm, ns, F, N, hs⟩ := hh0.at
    have hs := hs i _ (atB_get hi)
    have A := attr_ok w ok
    exact get_own F c.X (InstAt.of_news N (hs _ List.mem_cons_self) (hs _ (.tail _ (.head _)))) A.g A.d A.a rfl hv hh (Out.mk hh0 k)
theorem w_set {x C dx : Addr} {es : List DictEntry} {n k' : Nat} {name : Str} {v : Value} {K : Unit → KU} (i : Nat) (hi : atB l i = ins x C dx es n) (ok : inT C name = true) (hd : DOk es k') (hk' : Nat.ble k' 900 = true)
    (k : K () m cv (setB (ins x C dx (putE w name (tk + 1) v es) (putN name es n)) i l) (tk + 2)) : WE c (setAttr (.ref x) name v) K m cv l tk :=
  .mk fun _ hh0 => by
    have A := attr_ok w ok
    have hm : (dx, dictOf es n) ∈ ins x C dx es n := .tail _ (.head _)
    have hne : x ≠ dx := by
      have := (block_apart hh0.apart).1 _ (List.mem_of_getElem? (atB_get hi))
      exact (((apart_cons.mp this).1) _ (.head _)).symm
    obtain ⟨mm, ns, ns', F, N, U, fin⟩ := hh0.turned (o' := dictOf (putE w name (tk + 1) v es) (putN name es n)) (b' := ins x C dx (putE w name (tk + 1) v es) (putN name es n)) (atB_get hi) hm (by
      show (if x = dx then _ else _) :: (if dx = dx then _ else _) :: [] = _
      rw [if_neg hne, if_pos rfl]; rfl)
    obtain ⟨mm2, ns2, F2, N2, hs2⟩ := hh0.at
    have hs := hs2 i _ (atB_get hi)
    have I := InstAt.of_news N2 (hs _ List.mem_cons_self) (hs _ (.tail _ (.head _)))
    exact set_dict F c.X N I rfl A.s A.o (by unfold takerIn; rw [A.a]; rfl) A.d (hd.some name) rfl U (by
      have h1 := putL_len name (PyData.keyHash w.w.params name) (.str name ((c.sh ‹Heap› tk).toks + 1)) v es
      have := hd.2
      have := Nat.le_of_ble_eq_true hk'
      omega) fun h' F' N' => Out.mk (fin h' F' N') k
theorem w_meth {x C dx f : Addr} {es : List DictEntry} {n : Nat} {name : Str} {K : Value × List Value → KU} (i : Nat) (hi : atB l i = ins x C dx es n) (ok : methOf C name = some f) (hn : getL name es = some none) (k : K (.ref f, [.ref x]) m cv l tk) : WM c (.ref x) name K m cv l tk :=
  .mk fun pl => .mk fun _ hh0 => by
    obtain ⟨mm, ns, F, N, hs⟩ := hh0.at
    have hs := hs i _ (atB_get hi)
    have A := meth_ok w ok
    exact method_inst F c.X (InstAt.of_news N (hs _ List.mem_cons_self) (hs _ (.tail _ (.head _)))) A.g A.a A.i hn (Out.mk hh0 k)
theorem w_mapp {D : Addr} {its : List Value} {n : Nat} {K : Value × List Value → KU} (i : Nat) (hi : atB l i = lst D its n) (k : K (.builtin "list.append", [.ref D]) m cv l tk) : WM c (.ref D) (Str.ofString "append") K m cv l tk :=
  .mk fun pl => .mk fun _ hh0 => by
    obtain ⟨mm, ns, F, N, hs⟩ := hh0.at
    exact listMethod_K N (hs i _ (atB_get hi) _ List.mem_cons_self) PySem.F.slot_list_append PySem.F.type_list_append (Out.mk hh0 k)
theorem w_app {D : Addr} {its : List Value} {n : Nat} {x : Value} {K : KV} (i : Nat) (hi : atB l i = lst D its n) (hz : its.length ≤ 1000) (k : K .none m cv (setB (lst D (its ++ [x]) (n + 1)) i l) tk) : WE c (call (.builtin "list.append") [.ref D, x]) K m cv l tk :=
  .mk fun _ hh0 => by
    obtain ⟨mm, ns, ns', F, N, U, fin⟩ := hh0.turned (o' := W.listOf (its ++ [x]).toArray (n + 1)) (b' := lst D (its ++ [x]) (n + 1)) (atB_get hi) (List.mem_cons_self : (D, W.listOf its.toArray n) ∈ _) (by
      show (if D = D then _ else _) :: [] = _
      rw [if_pos rfl]; rfl)
    have e : W.listOf (its ++ [x]).toArray (n + 1) = W.listOf (its.toArray.push x) (n + 1) := by simp
    exact append_K F N (e ▸ U) (fun h' F' N' => Out.mk (fin h' F' N') k) (by rw [sizeLine_eq, List.size_toArray]; omega)
end
set_option maxRecDepth 100000 in
theorem v_digit (w : WG) (a : Addr) (vs : List Value) (ns : List Int) (hi : IntsAre vs ns) (hn : ns.length ≤ 63) (i : Int) (ti : Tok) (h0 : 0 ≤ i) :
    CallOk w 1 3 (fun b => b.IsList a vs.toArray) 563 [.ref a, .int i ti] [] (fun v post => ∃ z t, v = .int z t ∧ post = []) := by
  refine' CallOk.ofF (binds := [(Str.ofString "script", .ref a), (Str.ofString "place", .int i ti)]) w.ok.f563 ?k1 ?k3 ?k4 ?k5 ?k6 ?k7 ?k8 ?k9 ?_
  case k1 => exact rfl
  case k3 => exact fun s _ _ _ _ _ _ _ _ _ _ X => BindsTo.of_eq rfl
  case k4 => exact rfl
  case k5 => exact rfl
  case k6 => exact rfl
  case k7 => exact rfl
  case k8 => exact rfl
  case k9 => exact rfl
  intro c hf hB R tk
  refine (vcs_ok c hf [] 40).S ?_
  show WE _ _ _ _ _ _ _
  have hv := ints_len hi
  refine w_lenB hB (by rw [List.size_toArray]; omega) ?_
  refine BR.mk (fun hb => ?_) fun _ => ?_
  · show WE _ _ _ _ _ _ _
    refine w_itemB rfl hB hi hn h0 ?_ fun z t => ?_
    · rw [List.size_toArray] at hb
      have := of_decide_eq_true hb
      omega
    · show Ends _ _ _ _ _ _ _
      exact Ends.mk [] 0 rfl rfl ⟨z, t, rfl, rfl⟩
  · show Ends _ _ _ _ _ _ _
    exact Ends.mk [] 0 rfl rfl ⟨_, _, rfl, rfl⟩
end
section
open PySem PySem.W PyProof.Rows PySem.Spec PySem.Calls PyProof.V
namespace V
theorem int_eq {a b : Int} {t : Tok} (h : a = b) : Value.int a t = .int b t := h ▸ rfl
/-- the tree's addresses -/
structure TA where
  (d t a1 a2 a3 a4 a5 a6 a7 a8 : Addr)
set_option genInjectivity false in
set_option genSizeOf false in
structure TO where
  es : List DictEntry
  n : Nat
  (v1 v2 v3 v4 v5 v6 v7 : List Value)
  (k1 k2 k3 k4 k5 k6 k7 : Nat)
  o8 : Obj
noncomputable abbrev TL (A : TA) (O : TO) : Lb := [ins A.t 446 A.d O.es O.n, lst A.a1 O.v1 O.k1, lst A.a2 O.v2 O.k2, lst A.a3 O.v3 O.k3, lst A.a4 O.v4 O.k4, lst A.a5 O.v5 O.k5, lst A.a6 O.v6 O.k6, lst A.a7 O.v7 O.k7, one A.a8 O.o8]
noncomputable abbrev at_ (x : String) (es : List DictEntry) (a : Addr) : Prop := getL (Str.ofString x) es = some (some (.ref a))
noncomputable abbrev no_ (x : String) (es : List DictEntry) : Prop := getL (Str.ofString x) es = some none
structure TreeE (es : List DictEntry) (A : TA) : Prop where
  e1 : at_ "kinds" es A.a1
  e2 : at_ "spaces" es A.a2
  e3 : at_ "names" es A.a3
  e4 : at_ "attrs" es A.a4
  e5 : at_ "texts" es A.a5
  e6 : at_ "parents" es A.a6
  e7 : at_ "children" es A.a7
  e8 : at_ "contents" es A.a8
  m1 : no_ "add" es
  m2 : no_ "element" es
  m3 : no_ "value" es
  m4 : no_ "is_html" es
/-- the tree as it stands: so many nodes, of these spaces, names and attributes; its first children's list -/
structure TreeIs (w : WG) (A : TA) (sp nm : List Str) (at' ch : List Value) (k : Nat) (O : TO) : Prop where
  e : TreeE O.es A
  s1 : O.v1.length = sp.length
  s2 : StrsAre O.v2 sp
  s3 : StrsAre O.v3 nm
  l3 : nm.length = sp.length
  s4 : O.v4 = at'
  l4 : at'.length = sp.length
  s5 : O.v5.length = sp.length
  s6 : O.v6.length = sp.length
  s7 : O.v7 = ch
  l7 : ch.length = sp.length
  s8 : ∃ kvs D, O.o8.IsDictOf (PySem.intKind Challenge.rw_nt0610_01.row.prog w.w) kvs ∧ FlatPairs PyData.int kvs D ∧ D.length ≤ k
/-- a block that is such a tree -/
noncomputable def TreeAt (w : WG) (A : TA) (sp nm : List Str) (at' ch : List Value) (k : Nat) (T : Ld) : Prop := ∃ O, T = (TL A O).flatten ∧ TreeIs w A sp nm at' ch k O
theorem TreeIs.lens {w : WG} {A : TA} {sp nm : List Str} {at' ch : List Value} {k : Nat} {O : TO} (H : TreeIs w A sp nm at' ch k O) :
    O.v2.length = sp.length ∧ O.v3.length = sp.length ∧ O.v4.length = sp.length ∧ O.v7.length = sp.length := by
  exact ⟨strs_len H.s2, (strs_len H.s3).trans H.l3, H.s4 ▸ H.l4, H.s7 ▸ H.l7⟩
theorem TreeIs.add {w : WG} {A : TA} {sp nm : List Str} {at' ch : List Value} {D l : Addr} {k : Nat} {O : TO} {a b c : Value} {y z : Str} {ty tz : Tok} {k1 k2 k3 k4 k5 k6 k7 : Nat} (H : TreeIs w A sp nm at' ch k O) :
    TreeIs w A (sp ++ [y]) (nm ++ [z]) (at' ++ [.ref D]) (ch ++ [.ref l]) k ⟨O.es, O.n, O.v1 ++ [a], O.v2 ++ [.str y ty], O.v3 ++ [.str z tz], O.v4 ++ [.ref D], O.v5 ++ [b], O.v6 ++ [c], O.v7 ++ [.ref l], k1, k2, k3, k4, k5, k6, k7, O.o8⟩ := by
  obtain ⟨e, s1, s2, s3, l3, s4, l4, s5, s6, s7, l7, s8⟩ := H
  refine ⟨e, ?_, strs_snoc s2, strs_snoc s3, ?_, by rw [s4], ?_, ?_, ?_, by rw [s7], ?_, s8⟩
  all_goals (simp only [List.length_append, List.length_singleton]; omega)
/-- a tuple that is there, in the ledger's part bs or at the top -/
noncomputable def TupIn (w : WG) (b : Addr) (its : List Value) (bs : Lb) : Prop := ∀ {S r u} (c : Ct w S r u) {m cv : Lo} {l : Lb} {h : Heap}, Holds c m cv l h → (∀ x ∈ bs, x ∈ l) → IsTup h b its.toArray
theorem w_listIn {w : WG} {S : Scope} {r u : Nat} {c : Ct w S r u} {m cv : Lo} {l bs R : Lb} {tk : Nat} {b : Addr} {its : List Value} {K : KV} (H : TupIn w b its bs) (n : Nat) (hd : l.drop n = bs ++ R) (hz : its.length ≤ 1000) (k : ∀ D' n, K (.ref D') m cv (lst D' its n :: l) tk) :
    WE c (call (.type "list") [.ref b]) K m cv l tk :=
  .mk fun _ hh0 => by
    have ht := H c hh0 fun x hx => List.mem_of_mem_drop (hd ▸ List.mem_append_left _ hx)
    obtain ⟨mm, ns, F, N, hs, fin⟩ := hh0.news
    exact list_copyKT F N ht (fun D' n h' F' N' lt => Out.mk (fin D' _ h' F' N' lt) (k D' n)) (by rw [sizeLine_eq, List.size_toArray]; omega)
noncomputable def AddPost (w : WG) (A : TA) (sp nm : List Str) (at' ch : List Value) (k : Nat) (y z : Str) (its : List Value) (bs : Lb) (v : Value) (post : Lb) : Prop :=
  ∃ (D l : Addr) (j : Nat) (T : Ld) (t : Tok), post = lst l [] 0 :: lst D its j :: T :: bs ∧ v = .int (sp.length : Int) t ∧ TreeAt w A (sp ++ [y]) (nm ++ [z]) (at' ++ [.ref D]) (ch ++ [.ref l]) k T
set_option maxRecDepth 100000 in
set_option maxHeartbeats 4000000 in
theorem v_add (w : WG) (A : TA) (T : Ld) (sp nm : List Str) (at' ch : List Value) (k : Nat) (hT : TreeAt w A sp nm at' ch k T) (hl : sp.length ≤ 900) (x q : Value) (y z : Str) (ty tz : Tok) (b : Addr) (its : List Value) (bs : Lb) (hb : TupIn w b its bs) (hz : its.length ≤ 100) {args : List Value}
    (ha : Binds w.K 356 args [(Str.ofString "self", .ref A.t), (Str.ofString "kind", x), (Str.ofString "space", .str y ty), (Str.ofString "name", .str z tz), (Str.ofString "attrs", .ref b), (Str.ofString "text", q)]) :
    CallOk w 1 3 (fun _ => True) 356 args (T :: bs) (AddPost w A sp nm at' ch k y z its bs) := by
  obtain ⟨O, rfl, hO⟩ := hT
  obtain ⟨q2, q3, q4, q7⟩ := hO.lens
  have q1 := hO.s1
  have q5 := hO.s5
  have q6 := hO.s6
  refine' CallOk.ofF (binds := [(Str.ofString "self", .ref A.t), (Str.ofString "kind", x), (Str.ofString "space", .str y ty), (Str.ofString "name", .str z tz), (Str.ofString "attrs", .ref b), (Str.ofString "text", q)]) w.ok.f356 ?k1 ?k3 ?k4 ?k5 ?k6 ?k7 ?k8 ?k9 ?_
  case k1 => exact rfl
  case k3 => exact fun s _ _ _ _ _ _ _ _ _ hK X => ha s _ _ hK rfl X
  case k4 => exact rfl
  case k5 => exact rfl
  case k6 => exact rfl
  case k7 => exact rfl
  case k8 => exact rfl
  case k9 => exact rfl
  intro c hf _ R tk
  refine WE.cut (l' := TL A O ++ (bs ++ R)) rfl ?_
  refine (vcs_ok c hf [] 40).S ?_
  show WE _ _ _ _ _ _ _
  refine w_get 0 rfl rfl hO.e.e1 rfl ?_
  show WM _ _ _ _ _ _ _ _
  refine w_mapp 1 rfl ?_
  show WE _ _ _ _ _ _ _
  refine w_app 1 rfl (by omega) ?_
  show WE _ _ _ _ _ _ _
  refine w_get 0 rfl rfl hO.e.e2 rfl ?_
  show WM _ _ _ _ _ _ _ _
  refine w_mapp 2 rfl ?_
  show WE _ _ _ _ _ _ _
  refine w_app 2 rfl (by omega) ?_
  show WE _ _ _ _ _ _ _
  refine w_get 0 rfl rfl hO.e.e3 rfl ?_
  show WM _ _ _ _ _ _ _ _
  refine w_mapp 3 rfl ?_
  show WE _ _ _ _ _ _ _
  refine w_app 3 rfl (by omega) ?_
  show WE _ _ _ _ _ _ _
  refine w_get 0 rfl rfl hO.e.e4 rfl ?_
  show WM _ _ _ _ _ _ _ _
  refine w_mapp 4 rfl ?_
  show WE _ _ _ _ _ _ _
  refine w_listIn (bs := bs) (R := R) hb 9 rfl (by omega) fun D j => ?_
  show WE _ _ _ _ _ _ _
  refine w_app 5 rfl (by omega) ?_
  show WE _ _ _ _ _ _ _
  refine w_get 1 rfl rfl hO.e.e5 rfl ?_
  show WM _ _ _ _ _ _ _ _
  refine w_mapp 6 rfl ?_
  show WE _ _ _ _ _ _ _
  refine w_app 6 rfl (by omega) ?_
  show WE _ _ _ _ _ _ _
  refine w_get 1 rfl rfl hO.e.e6 rfl ?_
  show WM _ _ _ _ _ _ _ _
  refine w_mapp 7 rfl ?_
  show WE _ _ _ _ _ _ _
  refine w_app 7 rfl (by omega) ?_
  show WE _ _ _ _ _ _ _
  refine w_get 1 rfl rfl hO.e.e7 rfl ?_
  show WM _ _ _ _ _ _ _ _
  refine w_mapp 8 rfl ?_
  intro l'
  show WE _ _ _ _ _ _ _
  refine w_app 9 rfl (by omega) ?_
  show WE _ _ _ _ _ _ _
  refine w_get 2 rfl rfl hO.e.e1 rfl ?_
  show WE _ _ _ _ _ _ _
  refine w_len 3 rfl (by rw [List.length_append, List.length_singleton]; omega) ?_
  show Ends _ _ _ _ _ _ _
  refine Ends.mk (post := lst l' [] 0 :: lst D its j :: _ :: bs) [0, 1, 2, 3, 4, 5, 6, 7, 8, 9, 10] 11 rfl rfl ⟨D, l', j, _, _, rfl, int_eq (by rw [List.length_append, List.length_singleton, q1]; omega), _, rfl, hO.add⟩
end V
end
section
open PySem PySem.W PyProof.Rows PySem.Spec PySem.Calls PyProof.V
namespace V
theorem Binds.mk' {K : Frag} {f : Addr} {args : List Value} {binds : Lo} {o : Obj} {fd : FuncData} (hK : List.lookup f K = some o) (hf : o.data = .func fd)
    (H : ∀ s : Shared, K.In s.heap → BindsTo s fd ⟨args, []⟩ binds) : Binds K f args binds := fun s o' fd' h1 h2 X => by
  rw [hK] at h1
  cases h1
  rw [hf] at h2
  cases h2
  exact H s X
theorem binds_add5 (w : WG) : ∃ q, ∀ t x y z b, Binds w.K 356 [t, x, y, z, b] [(Str.ofString "self", t), (Str.ofString "kind", x), (Str.ofString "space", y), (Str.ofString "name", z), (Str.ofString "attrs", b), (Str.ofString "text", q)] := w.ok.add5
theorem binds_add2 (w : WG) : ∃ ty tz b q, (∀ t x, Binds w.K 356 [t, x] [(Str.ofString "self", t), (Str.ofString "kind", x), (Str.ofString "space", .str (Str.ofString "") ty), (Str.ofString "name", .str (Str.ofString "") tz), (Str.ofString "attrs", .ref b), (Str.ofString "text", q)]) ∧ List.lookup b w.K = some { cls := .type "tuple", data := .seq #[] 0 } := w.ok.add2
theorem r_put8 {w : WG} {A : Around} {E : Value → Shared → Prop} {s : Shared} {h₀ : Heap} {L a8 : Addr} {m : Str → Option Value} {news : Ld} {u : Obj → Ld} {o : Obj} {k : Nat} {x y : Int} {tx ty : Tok} {Q : Unit → Shared → Prop}
    (F : Fr h₀ L s.heap m) (N : News h₀ L s.heap news) (U : UpdF a8 o news u) (h8 : ∃ kvs D, o.IsDictOf (PySem.intKind Challenge.rw_nt0610_01.row.prog w.w) kvs ∧ FlatPairs PyData.int kvs D ∧ D.length ≤ k) (hk : k ≤ 900)
    (h : ∀ h' o', Fr h₀ L h' m → News h₀ L h' (u o') → (∃ kvs D, o'.IsDictOf (PySem.intKind Challenge.rw_nt0610_01.row.prog w.w) kvs ∧ FlatPairs PyData.int kvs D ∧ D.length ≤ k + 1) → Q () { s with heap := h', toks := s.toks + 1 }) :
    wpAny (model Challenge.rw_nt0610_01.row.prog w.w) A (setItem (.ref a8) (.int x tx) (.int y ty)) Q E s := by
  obtain ⟨kvs, D, h1, h2, h3⟩ := h8
  refine setItem_K PyProof.V.same_int (intKind_is _ _ _ _) (PyProof.V.Flat.int y ty) F N U h1 h2 (fun h' o' F' N' a b => h h' o' F' N' ⟨_, _, a, b, ?_⟩) (by rw [sizeLine_eq]; omega)
  unfold putD
  split
  · rw [List.length_map]; omega
  · rw [List.length_append]; simp; omega
section
variable {w : WG} {S : Scope} {r u : Nat} {c : Ct w S r u} {m cv : Lo} {l : Lb} {tk : Nat} {h : Heap}
theorem w_put8 {a8 : Addr} {o : Obj} {k : Nat} {x y : Int} {tx ty : Tok} {K : Unit → KU} (i : Nat) (hi : atB l i = one a8 o) (h8 : ∃ kvs D, o.IsDictOf (PySem.intKind Challenge.rw_nt0610_01.row.prog w.w) kvs ∧ FlatPairs PyData.int kvs D ∧ D.length ≤ k) (hk : k ≤ 900)
    (kk : ∀ o', (∃ kvs D, o'.IsDictOf (PySem.intKind Challenge.rw_nt0610_01.row.prog w.w) kvs ∧ FlatPairs PyData.int kvs D ∧ D.length ≤ k + 1) → K () m cv (setB (one a8 o') i l) (tk + 1)) : WE c (setItem (.ref a8) (.int x tx) (.int y ty)) K m cv l tk :=
  .mk fun _ hh0 => by
    obtain ⟨mm, ns, g, F, N, U, fin⟩ := hh0.turnedF (atB_get hi) (List.mem_cons_self : (a8, o) ∈ _)
    refine r_put8 F N U h8 hk fun h' o' F' N' h8' => Out.mk (fin h' o' F' N') ?_
    have e : setK a8 o' [(a8, o)] = one a8 o' := by
      show (if a8 = a8 then _ else _) :: [] = _
      rw [if_pos rfl]
    rw [e]
    exact kk o' h8'
/-- a call by its contract, the ledger's blocks cut as it likes -/
theorem w_callF {r u : Nat} {B : Heap → Prop} {f : Addr} {args : List Value} {pre : Lb} {Post : Value → Lb → Prop} (C : CallOk w r u B f args pre Post) {S : Scope} {r' u' : Nat} {c : Ct w S r' u'} {K : KV} {m cv : Lo} {l : Lb} {tk : Nat} (R : Lb) (hr : Nat.ble r r' = true) (hu : Nat.ble u u' = true) (hB : B c.base)
    (is : List Nat) (n : Nat) (hn : nd is = true) (e : (Mine.pick is n l).flatten = (pre ++ R).flatten) (k : ∀ v post tk', Post v post → K v m cv (post ++ R) tk') : WE c (call (.ref f) args) K m cv l tk :=
  .pick is n hn rfl (.cut e (C.run c hr hu hB k))
theorem tupIn_K {b : Addr} (hb : List.lookup b (w.K) = some { cls := .type "tuple", data := .seq #[] 0 }) : TupIn w b [] [] := fun {S r u} c {m cv l h} hh _ => by
  obtain ⟨mm, ns, F, N, hs⟩ := hh.at
  exact ⟨_, Frag.In.keeps c.X F.keep _ _ hb, rfl, _, rfl⟩
end
theorem TreeIs.more {w : WG} {A : TA} {sp nm : List Str} {at' ch : List Value} {k j : Nat} {O : TO} (H : TreeIs w A sp nm at' ch k O) (h : k ≤ j) : TreeIs w A sp nm at' ch j O := by
  obtain ⟨e, s1, s2, s3, l3, s4, l4, s5, s6, s7, l7, ⟨kvs, D, a, b, c⟩⟩ := H
  exact ⟨e, s1, s2, s3, l3, s4, l4, s5, s6, s7, l7, ⟨kvs, D, a, b, Nat.le_trans c h⟩⟩
theorem TreeIs.with8 {w : WG} {A : TA} {sp nm : List Str} {at' ch : List Value} {k j : Nat} {O : TO} {o' : Obj} (H : TreeIs w A sp nm at' ch k O)
    (h8 : ∃ kvs D, o'.IsDictOf (PySem.intKind Challenge.rw_nt0610_01.row.prog w.w) kvs ∧ FlatPairs PyData.int kvs D ∧ D.length ≤ j) : TreeIs w A sp nm at' ch j { O with o8 := o' } := by
  obtain ⟨e, s1, s2, s3, l3, s4, l4, s5, s6, s7, l7, _⟩ := H
  exact ⟨e, s1, s2, s3, l3, s4, l4, s5, s6, s7, l7, h8⟩
noncomputable def ElemPost (w : WG) (A : TA) (sp nm : List Str) (at' ch : List Value) (k : Nat) (y z : Str) (its : List Value) (bs : Lb) (v : Value) (post : Lb) : Prop :=
  ∃ (D l : Addr) (j : Nat) (T : Ld) (t : Tok) (sp' nm' : List Str) (at'' ch' : List Value), post = lst D its j :: T :: bs ∧ v = .int (sp.length : Int) t ∧ TreeAt w A (sp ++ [y] ++ sp') (nm ++ [z] ++ nm') (at' ++ [.ref D] ++ at'') (ch ++ [.ref l] ++ ch') (k + 1) T ∧ sp'.length ≤ 1
set_option maxRecDepth 100000 in
set_option maxHeartbeats 4000000 in
theorem v_elem (w : WG) (A : TA) (T : Ld) (sp nm : List Str) (at' ch : List Value) (k : Nat) (hT : TreeAt w A sp nm at' ch k T) (hl : sp.length ≤ 890) (hk : k ≤ 890) (y z : Str) (ty tz : Tok) (b : Addr) (its : List Value) (bs : Lb) (hb : TupIn w b its bs) (hz : its.length ≤ 100) {args : List Value}
    (ha : Binds w.K 365 args [(Str.ofString "self", .ref A.t), (Str.ofString "name", .str z tz), (Str.ofString "space", .str y ty), (Str.ofString "attrs", .ref b)]) :
    CallOk w 2 6 (fun _ => True) 365 args (T :: bs) (ElemPost w A sp nm at' ch k y z its bs) := by
  obtain ⟨O, rfl, hO⟩ := hT
  refine' CallOk.ofF (binds := [(Str.ofString "self", .ref A.t), (Str.ofString "name", .str z tz), (Str.ofString "space", .str y ty), (Str.ofString "attrs", .ref b)]) w.ok.f365 ?k1 ?k3 ?k4 ?k5 ?k6 ?k7 ?k8 ?k9 ?_
  case k1 => exact rfl
  case k3 => exact fun s _ _ _ _ _ _ _ _ _ hK X => ha s _ _ hK rfl X
  case k4 => exact rfl
  case k5 => exact rfl
  case k6 => exact rfl
  case k7 => exact rfl
  case k8 => exact rfl
  case k9 => exact rfl
  intro c hf _ R tk
  refine WE.cut (l' := TL A O ++ (bs ++ R)) rfl ?_
  refine (vcs_ok c hf [] 40).S ?_
  show WM _ _ _ _ _ _ _ _
  refine w_meth 0 rfl rfl hO.e.m1 ?_
  show WE _ _ _ _ _ _ _
  obtain ⟨q, ha5⟩ := binds_add5 w
  refine w_callF (v_add w A _ sp nm at' ch k ⟨O, rfl, hO⟩ (by omega) _ q y z ty tz b its bs hb hz (ha5 _ _ _ _ _)) R rfl rfl trivial [0, 1, 2, 3, 4, 5, 6, 7, 8] 9 rfl rfl ?_
  rintro _ _ tk1 ⟨D, l', j, T', t', rfl, rfl, hT'⟩
  have fin : ∀ m cv tk, Ends (ElemPost w A sp nm at' ch k y z its bs) R (.ret (.int (sp.length : Int) t')) m cv ((lst l' [] 0 :: lst D its j :: T' :: bs) ++ R) tk := fun m cv tk => by
    obtain ⟨O', rfl, hO'⟩ := hT'
    exact Ends.mk (post := lst D its j :: _ :: bs) [1, 2] 3 rfl rfl ⟨D, l', j, _, _, [], [], [], [], rfl, rfl, ⟨O', rfl, by rw [List.append_nil, List.append_nil, List.append_nil, List.append_nil]; exact hO'.more (Nat.le_succ k)⟩, Nat.zero_le _⟩
  refine BR.mk (fun _ => ?_) fun _ => BR.f rfl (fin _ _ _)
  refine BR.mk (fun _ => BR.t rfl ?_) fun _ => BR.f rfl (fin _ _ _)
  obtain ⟨O', rfl, hO'⟩ := hT'
  show WM _ _ _ _ _ _ _ _
  refine WM.cut (l' := lst l' [] 0 :: lst D its j :: (TL A O' ++ (bs ++ R))) rfl ?_
  refine w_meth 2 rfl rfl hO'.e.m1 ?_
  show WE _ _ _ _ _ _ _
  obtain ⟨ty2, tz2, b2, q2, ha2, hb2⟩ := binds_add2 w
  refine w_callF (v_add w A _ _ _ _ _ k ⟨O', rfl, hO'⟩ (by rw [List.length_append, List.length_singleton]; omega) _ q2 _ _ ty2 tz2 b2 [] [] (tupIn_K hb2) (by decide) (ha2 _ _)) (lst l' [] 0 :: lst D its j :: (bs ++ R)) rfl rfl trivial [2, 3, 4, 5, 6, 7, 8, 9, 10, 0, 1] 11 rfl rfl ?_
  rintro _ _ tk2 ⟨D2, l2, j2, T2, t2, rfl, rfl, O2, rfl, hO2⟩
  show WE _ _ _ _ _ _ _
  refine WE.cut (l' := lst l2 [] 0 :: lst D2 [] j2 :: (TL A O2 ++ (lst l' [] 0 :: lst D its j :: (bs ++ R)))) rfl ?_
  refine w_get 2 rfl rfl hO2.e.e8 rfl ?_
  show WE _ _ _ _ _ _ _
  refine w_put8 10 rfl hO2.s8 (by omega) fun o' h8' => ?_
  show Ends _ _ _ _ _ _ _
  exact Ends.mk (post := lst D its j :: _ :: bs) [12, 2, 3, 4, 5, 6, 7, 8, 9, 10] 13 rfl rfl ⟨D, l', j, _, _, [_], [_], [_], [_], rfl, rfl, ⟨{ O2 with o8 := o' }, rfl, hO2.with8 h8'⟩, Nat.le_refl _⟩
end V
end
section
open PySem PySem.W PyProof.Rows PySem.Spec PySem.Calls PyProof.V
namespace V
section
variable {w : WG} {S : Scope} {r u : Nat} {c : Ct w S r u} {m cv : Lo} {l : Lb} {tk : Nat} {h : Heap}
theorem w_dict0 {pos : Pos} {K : KV} (k : ∀ (d : Addr) (o : Obj), (d == sysModules) = false → o.IsDictOf (PySem.strKind Pr w.w) [] → o.IsDictOf (PySem.intKind Pr w.w) [] → K (.ref d) m cv (one d o :: l) tk) : WE c (eval (.Dict [] [] pos) c.ev) K m cv l tk :=
  .mk fun _ hh0 => by
    obtain ⟨mm, ns, F, N, hs, fin⟩ := hh0.news
    exact newDict_K F N c.T.nolimit fun d h' o F' N' lt hd h1 _ h2 _ => Out.mk (fin d o h' F' N' lt) (k d o hd h1 h2)
end
noncomputable def TreePost (w : WG) (v : Value) (post : Lb) : Prop :=
  ∃ (A : TA) (T : Ld) (c0 : Addr) (at' : List Value), post = lst c0 [] 0 :: [T] ∧ v = .ref A.t ∧ TreeAt w A [Str.ofString ""] [Str.ofString ""] at' [.ref c0] 0 T
set_option maxRecDepth 100000 in
set_option maxHeartbeats 4000000 in
theorem v_tree (w : WG) : CallOk w 3 7 (fun _ => True) 446 [] [] (TreePost w) := by
  refine' CallOk.clsF (binds := fun x => [(Str.ofString "self", .ref x)]) w.ok.c446 w.ok.f347 ?k4 ?k6 ?k7 ?k8 ?k9 ?k10 ?k11 ?k12 ?_
  case k4 => exact rfl
  case k6 => exact fun x s _ _ _ _ _ _ _ _ _ _ X => BindsTo.of_eq rfl
  case k7 => exact fun x => rfl
  case k8 => exact rfl
  case k9 => exact rfl
  case k10 => exact rfl
  case k11 => exact rfl
  case k12 => exact rfl
  intro x dx c hf _ R tk
  refine (vcs_ok c hf [] 40).S ?_
  intro a1
  show WE _ _ _ _ _ _ _
  refine w_set 1 rfl rfl .nil rfl ?_
  intro a2
  show WE _ _ _ _ _ _ _
  refine w_set 2 rfl rfl (.put .nil) rfl ?_
  intro a3
  show WE _ _ _ _ _ _ _
  refine w_set 3 rfl rfl (.put (.put .nil)) rfl ?_
  intro a4
  show WE _ _ _ _ _ _ _
  refine w_set 4 rfl rfl (.put (.put (.put .nil))) rfl ?_
  intro a5
  show WE _ _ _ _ _ _ _
  refine w_set 5 rfl rfl (.put (.put (.put (.put .nil)))) rfl ?_
  intro a6
  show WE _ _ _ _ _ _ _
  refine w_set 6 rfl rfl (.put (.put (.put (.put (.put .nil))))) rfl ?_
  intro a7
  show WE _ _ _ _ _ _ _
  refine w_set 7 rfl rfl (.put (.put (.put (.put (.put (.put .nil)))))) rfl ?_
  show WE _ _ _ _ _ _ _
  refine w_dict0 fun a8 o8 _ _ h8 => ?_
  show WE _ _ _ _ _ _ _
  refine w_set 8 rfl rfl (.put (.put (.put (.put (.put (.put (.put .nil))))))) rfl ?_
  show WM _ _ _ _ _ _ _ _
  refine w_meth 8 rfl rfl rfl ?_
  show WE _ _ _ _ _ _ _
  obtain ⟨ty2, tz2, b2, q2, ha2, hb2⟩ := binds_add2 w
  refine w_callF (v_add w ⟨dx, x, a1, a2, a3, a4, a5, a6, a7, a8⟩ _ [] [] [] [] 0 ⟨⟨_, _, [], [], [], [], [], [], [], 0, 0, 0, 0, 0, 0, 0, o8⟩, rfl, ⟨⟨rfl, rfl, rfl, rfl, rfl, rfl, rfl, rfl, rfl, rfl, rfl, rfl⟩, rfl, .nil, .nil, rfl, rfl, rfl, rfl, rfl, rfl, rfl, ⟨[], [], h8, .nil, Nat.le_refl _⟩⟩⟩ (Nat.zero_le _) _ q2 _ _ ty2 tz2 b2 [] [] (tupIn_K hb2) (by decide) (ha2 _ _)) R rfl rfl trivial [8, 7, 6, 5, 4, 3, 2, 1, 0] 9 rfl rfl ?_
  rintro _ _ tk2 ⟨D2, l2, j2, T2, t2, rfl, rfl, hT2⟩
  show Ends _ _ _ _ _ _ _
  exact Ends.mk (post := lst l2 [] 0 :: [_]) [0, 2] 3 rfl rfl ⟨rfl, _, _, l2, _, rfl, rfl, hT2⟩
end V
end
section
open PySem PySem.W PyProof.Rows PySem.Spec PySem.Calls PyProof.V
namespace V
theorem isStr_ne {v : Value} {x y : Str} (h : v.isStr x = true) (ne : x ≠ y) : v.isStr y = false := by
  unfold Value.isStr at h ⊢
  split at h
  · rename_i z t n e1
    have := beq_iff_eq.mp h
    subst this
    exact beq_eq_false_iff_ne.mpr ne
  · cases h
theorem find_put_ne {a b : Str} (ne : b ≠ a) {hs : Int} {t : Tok} {v : Value} : ∀ {es : List DictEntry}, ((putL b hs (.str b t) v es).find? (·.key.isStr a)).map (·.val) = (es.find? (·.key.isStr a)).map (·.val)
  | [] => by
    unfold putL
    rw [List.find?_cons, show (Value.str b t).isStr a = false from beq_eq_false_iff_ne.mpr ne]
  | e :: r => by
    unfold putL
    split
    · rename_i h
      rw [List.find?_cons, List.find?_cons, isStr_ne h ne]
    · rw [List.find?_cons, List.find?_cons]
      cases e.key.isStr a
      · exact find_put_ne ne
      · rfl
theorem find_put {a : Str} {hs : Int} {t : Tok} {v : Value} : ∀ {es : List DictEntry}, ((putL a hs (.str a t) v es).find? (·.key.isStr a)).map (·.val) = some v
  | [] => by
    unfold putL
    rw [List.find?_cons, show (Value.str a t).isStr a = true from beq_self_eq_true a]
    rfl
  | e :: r => by
    unfold putL
    split
    · rename_i h
      rw [List.find?_cons, h]; rfl
    · rename_i h
      rw [List.find?_cons, Bool.eq_false_iff.mpr h]; exact find_put
theorem getL_of {es : List DictEntry} {a : Str} (h : es.any (·.refKey) = false) : getL a es = some ((es.find? (·.key.isStr a)).map (·.val)) := by
  unfold getL
  cases es.find? (·.key.isStr a) with
  | some e => rfl
  | none => dsimp only; rw [h]; rfl
theorem get_put {a : Str} {hs : Int} {t : Tok} {v : Value} {es : List DictEntry} {k : Nat} (h : DOk es k) : getL a (putL a hs (.str a t) v es) = some (some v) := by
  rw [getL_of (putL_ref _ _ _ _ h.1), find_put]
theorem get_put_ne {a b : Str} {hs : Int} {t : Tok} {v : Value} {es : List DictEntry} {k : Nat} {x : Option (Option Value)} (h : DOk es k) (ne : b ≠ a) (hx : getL a es = x) : getL a (putL b hs (.str b t) v es) = x := by
  rw [getL_of (putL_ref _ _ _ _ h.1), find_put_ne ne, ← hx, getL_of h.1]
theorem len_put {a : Str} {hs : Int} {t : Tok} {v : Value} : ∀ {es : List DictEntry}, (es.find? (·.key.isStr a)).isSome = true → (putL a hs (.str a t) v es).length = es.length
  | [], h => by cases h
  | e :: r, h => by
    unfold putL
    split
    · rfl
    · rename_i q
      rw [List.find?_cons, Bool.eq_false_iff.mpr q] at h
      exact congrArg Nat.succ (len_put h)
theorem DOk.re {es : List DictEntry} {k : Nat} (h : DOk es k) {a : Str} {hs : Int} {t : Tok} {v x : Value} (hx : getL a es = some (some x)) : DOk (putL a hs (.str a t) v es) k := by
  refine ⟨putL_ref _ _ _ _ h.1, ?_⟩
  rw [getL_of h.1] at hx
  rw [len_put]
  · exact h.2
  · cases e : es.find? (·.key.isStr a) with
    | none => rw [e] at hx; cases hx
    | some _ => rfl
/-- a dict's entries as they were put, the last one first -/
noncomputable def mkE (w : WG) : List (Str × Tok × Value) → List DictEntry
  | [] => []
  | p :: r => putE w p.1 p.2.1 p.2.2 (mkE w r)
theorem ok_mkE (w : WG) : ∀ l : List (Str × Tok × Value), DOk (mkE w l) l.length
  | [] => .nil
  | _ :: r => .put (ok_mkE w r)
theorem get_mkE {w : WG} {a : Str} : ∀ {l : List (Str × Tok × Value)}, getL a (mkE w l) = some ((l.find? fun p => p.1 == a).map (·.2.2))
  | [] => rfl
  | (n, t, v) :: r => by
    rw [List.find?_cons]
    by_cases h : n = a
    · subst h
      rw [beq_self_eq_true]
      exact get_put (ok_mkE w r)
    · rw [beq_eq_false_iff_ne.mpr h]
      exact get_put_ne (ok_mkE w r) h get_mkE
theorem w_setM {w : WG} {S : Scope} {r u : Nat} {c : Ct w S r u} {m cv : Lo} {l : Lb} {tk : Nat} {x C dx : Addr} (es : List (Str × Tok × Value)) {n : Nat} {name : Str} {v : Value} {K : Unit → KU} (i : Nat) (hi : atB l i = ins x C dx (mkE w es) n) (ok : inT C name = true) (hz : Nat.ble es.length 900 = true)
    (k : K () m cv (setB (ins x C dx (mkE w ((name, tk + 1, v) :: es)) (putN name (mkE w es) n)) i l) (tk + 2)) : WE c (setAttr (.ref x) name v) K m cv l tk := w_set i hi ok (ok_mkE w es) hz k
/-! the stack and the formatting of a builder -/
structure StackE (es : List DictEntry) : Prop where
  d : DOk es 2
  m : no_ "many" es
  i : ∃ x, getL (Str.ofString "items") es = some (some x)
noncomputable def StackPost (v : Value) (post : Lb) : Prop := ∃ b d es n, post = [ins b 329 d es n] ∧ v = .ref b ∧ StackE es
set_option maxRecDepth 100000 in
theorem v_stack (w : WG) (t : Value) : CallOk w 2 4 (fun _ => True) 329 [t] [] StackPost := by
  refine' CallOk.clsF (binds := fun x => [(Str.ofString "self", .ref x), (Str.ofString "tree", t)]) w.ok.c329 w.ok.f242 ?k4 ?k6 ?k7 ?k8 ?k9 ?k10 ?k11 ?k12 ?_
  case k4 => exact rfl
  case k6 => exact fun x s _ _ _ _ _ _ _ _ _ _ X => BindsTo.of_eq rfl
  case k7 => exact fun x => rfl
  case k8 => exact rfl
  case k9 => exact rfl
  case k10 => exact rfl
  case k11 => exact rfl
  case k12 => exact rfl
  intro x dx c hf _ R tk
  refine (vcs_ok c hf [] 40).S ?_
  show WE _ _ _ _ _ _ _
  refine w_set 0 rfl rfl .nil rfl ?_
  intro a2
  show WE _ _ _ _ _ _ _
  refine w_set 1 rfl rfl (.put .nil) rfl ?_
  show Ends _ _ _ _ _ _ _
  exact Ends.mk (post := [_]) [1] 2 rfl rfl ⟨rfl, x, dx, _, _, rfl, rfl, .put (.put .nil), rfl, _, rfl⟩
set_option maxRecDepth 100000 in
theorem v_formatting (w : WG) (t : Value) : CallOk w 2 4 (fun _ => True) 224 [t] [] (fun v post => post = [] ∧ ∃ b, v = .ref b) := by
  refine' CallOk.clsF (binds := fun x => [(Str.ofString "self", .ref x), (Str.ofString "tree", t)]) w.ok.c224 w.ok.f158 ?k4 ?k6 ?k7 ?k8 ?k9 ?k10 ?k11 ?k12 ?_
  case k4 => exact rfl
  case k6 => exact fun x s _ _ _ _ _ _ _ _ _ _ X => BindsTo.of_eq rfl
  case k7 => exact fun x => rfl
  case k8 => exact rfl
  case k9 => exact rfl
  case k10 => exact rfl
  case k11 => exact rfl
  case k12 => exact rfl
  intro x dx c hf _ R tk
  refine (vcs_ok c hf [] 40).S ?_
  show WE _ _ _ _ _ _ _
  refine w_set 0 rfl rfl .nil rfl ?_
  intro a2
  show WE _ _ _ _ _ _ _
  refine w_set 1 rfl rfl (.put .nil) rfl ?_
  show Ends _ _ _ _ _ _ _
  exact Ends.mk (post := []) [] 2 rfl rfl ⟨rfl, rfl, x, rfl⟩
/-! the builder -/
structure BuildE (es : List DictEntry) (t st er : Addr) : Prop where
  d : DOk es 21
  t : at_ "tree" es t
  s : at_ "stack" es st
  e : at_ "errors" es er
  m : no_ "to" es
  mo : ∃ x, getL (Str.ofString "mode") es = some (some x)
  ms : ∃ x, getL (Str.ofString "modes") es = some (some x)
  hd : ∃ x, getL (Str.ofString "head") es = some (some x)
  cx : ∃ x, getL (Str.ofString "context") es = some (some x)
noncomputable def BuildPost (w : WG) (v : Value) (post : Lb) : Prop :=
  ∃ (A : TA) (T : Ld) (c0 : Addr) (at' : List Value) (b bd : Addr) (es : List DictEntry) (n : Nat) (st sd : Addr) (ses : List DictEntry) (sn : Nat) (er : Addr),
    post = [ins b 524 bd es n, ins st 329 sd ses sn, lst er [] 0, lst c0 [] 0, T] ∧ v = .ref b ∧ BuildE es A.t st er ∧ StackE ses ∧ TreeAt w A [Str.ofString ""] [Str.ofString ""] at' [.ref c0] 0 T
set_option maxRecDepth 100000 in
set_option maxHeartbeats 4000000 in
theorem v_builder (w : WG) (ru : Value) : CallOk w 6 14 (fun _ => True) 524 [ru] [] (BuildPost w) := by
  refine' CallOk.clsF (r := 4) (u := 10) (binds := fun x => [(Str.ofString "self", .ref x), (Str.ofString "rules", ru), (Str.ofString "is_scripting", .bool false)]) w.ok.c524 w.ok.f472 ?k4 ?k6 ?k7 ?k8 ?k9 ?k10 ?k11 ?k12 ?_
  case k4 => exact rfl
  case k6 => exact fun x s _ _ _ _ _ _ _ _ _ hK X => w.ok.ini _ _ s _ _ hK rfl X
  case k7 => exact fun x => rfl
  case k8 => exact rfl
  case k9 => exact rfl
  case k10 => exact rfl
  case k11 => exact rfl
  case k12 => exact rfl
  intro x dx c hf _ R tk
  refine (vcs_ok c hf [] 60).S ?_
  show WE _ _ _ _ _ _ _
  refine w_setM [] 0 rfl rfl rfl ?_
  show WE _ _ _ _ _ _ _
  refine w_callF (v_tree w) _ rfl rfl trivial [0] 1 rfl rfl ?_
  rintro _ _ tk2 ⟨A, T, c0, at', rfl, rfl, hT⟩
  show WE _ _ _ _ _ _ _
  refine w_setM _ 2 rfl rfl rfl ?_
  show WE _ _ _ _ _ _ _
  refine w_get 2 rfl rfl get_mkE rfl ?_
  show WE _ _ _ _ _ _ _
  refine w_callF (v_stack w _) _ rfl rfl trivial [0, 1, 2] 3 rfl rfl ?_
  rintro _ _ tk3 ⟨st, sd, ses, sn, rfl, rfl, hS⟩
  show WE _ _ _ _ _ _ _
  refine w_setM _ 3 rfl rfl rfl ?_
  show WE _ _ _ _ _ _ _
  refine w_get 3 rfl rfl get_mkE rfl ?_
  show WE _ _ _ _ _ _ _
  refine w_callF (v_formatting w _) _ rfl rfl trivial [0, 1, 2, 3] 4 rfl rfl ?_
  rintro _ _ tk4 ⟨rfl, fo, rfl⟩
  show WE _ _ _ _ _ _ _
  refine w_setM _ 3 rfl rfl rfl ?_
  show WE _ _ _ _ _ _ _
  refine w_setM _ 3 rfl rfl rfl ?_
  show WE _ _ _ _ _ _ _
  refine w_setM _ 3 rfl rfl rfl ?_
  intro md
  show WE _ _ _ _ _ _ _
  refine w_setM _ 4 rfl rfl rfl ?_
  show WE _ _ _ _ _ _ _
  refine w_setM _ 4 rfl rfl rfl ?_
  show WE _ _ _ _ _ _ _
  refine w_setM _ 4 rfl rfl rfl ?_
  show WE _ _ _ _ _ _ _
  refine w_dict0 fun ow oo _ _ _ => ?_
  show WE _ _ _ _ _ _ _
  refine w_setM _ 5 rfl rfl rfl ?_
  show WE _ _ _ _ _ _ _
  refine w_setM _ 5 rfl rfl rfl ?_
  show WE _ _ _ _ _ _ _
  refine w_setM _ 5 rfl rfl rfl ?_
  show WE _ _ _ _ _ _ _
  refine w_setM _ 5 rfl rfl rfl ?_
  show WE _ _ _ _ _ _ _
  refine w_setM _ 5 rfl rfl rfl ?_
  show WE _ _ _ _ _ _ _
  refine w_setM _ 5 rfl rfl rfl ?_
  intro er
  show WE _ _ _ _ _ _ _
  refine w_setM _ 6 rfl rfl rfl ?_
  intro pe
  show WE _ _ _ _ _ _ _
  refine w_setM _ 7 rfl rfl rfl ?_
  show WE _ _ _ _ _ _ _
  refine w_setM _ 7 rfl rfl rfl ?_
  show WE _ _ _ _ _ _ _
  refine w_setM _ 7 rfl rfl rfl ?_
  show WE _ _ _ _ _ _ _
  refine w_setM _ 7 rfl rfl rfl ?_
  show WE _ _ _ _ _ _ _
  refine w_setM _ 7 rfl rfl rfl ?_
  show Ends _ _ _ _ _ _ _
  exact Ends.mk (post := [_, _, _, _, _]) [7, 4, 1, 5, 6] 8 rfl rfl ⟨rfl, A, T, c0, at', x, dx, _, _, st, sd, ses, sn, er, rfl, rfl, ⟨ok_mkE w _, get_mkE, get_mkE, get_mkE, get_mkE, ⟨_, get_mkE⟩, ⟨_, get_mkE⟩, ⟨_, get_mkE⟩, ⟨_, get_mkE⟩⟩, hS, hT⟩
end V
end
section
open PySem PySem.W PyProof.Rows PySem.Spec PySem.Calls PyProof.V
noncomputable def cSpecial : List String := ["address", "applet", "area", "article", "aside", "base", "basefont", "bgsound", "blockquote", "body", "br", "button", "caption", "center", "col", "colgroup", "dd", "details", "dir", "div", "dl", "dt", "embed", "fieldset", "figcaption", "figure", "footer", "form", "frame", "frameset", "h1", "h2", "h3", "h4", "h5", "h6", "head", "header", "hgroup", "hr", "html", "iframe", "img", "input", "keygen", "li", "link", "listing", "main", "marquee", "menu", "meta", "nav", "noembed", "noframes", "noscript", "object", "ol", "p", "param", "plaintext", "pre", "script", "search", "section", "select", "source", "style", "summary", "table", "tbody", "td", "template", "textarea", "tfoot", "th", "thead", "title", "tr", "track", "ul", "wbr", "xmp"]
noncomputable def cMath : List String := ["mi", "mo", "mn", "ms", "mtext", "annotation-xml"]
noncomputable def cSvg : List String := ["foreignObject", "desc", "title"]
noncomputable def cFormat : List String := ["a", "b", "big", "code", "em", "font", "i", "nobr", "s", "small", "strike", "strong", "tt", "u"]
noncomputable def cHead : List String := ["h1", "h2", "h3", "h4", "h5", "h6"]
noncomputable def cVoid : List String := ["area", "base", "br", "col", "embed", "hr", "img", "input", "link", "meta", "source", "track", "wbr"]
noncomputable def cRaw : List String := ["style", "script", "xmp", "iframe", "noembed", "noframes", "plaintext"]
noncomputable def cPart : List String := ["table", "tbody", "tfoot", "thead", "tr"]
noncomputable def cModes : List (String × String) := [("td", "in cell"), ("th", "in cell"), ("tr", "in row"), ("tbody", "in table body"), ("thead", "in table body"), ("tfoot", "in table body"), ("caption", "in caption"), ("colgroup", "in column group"), ("table", "in table"), ("head", "in head"), ("body", "in body"), ("frameset", "in frameset")]
namespace V
theorem strs_cnt : ∀ elts : List Expr, (strsOf elts).length = elts.length
  | [] => rfl
  | _ :: r => congrArg Nat.succ (strs_cnt r)
section
variable {w : WG} {S : Scope} {r u : Nat} {c : Ct w S r u} {m cv : Lo} {l : Lb} {tk : Nat} {h : Heap}
theorem w_tupS {elts : List Expr} {k : Nat} {pos : Pos} {K : KV} (hl : allStr elts = true) (hz : Nat.ble elts.length 1000 = true) (kk : ∀ D its tk', StrsAre its (strsOf elts) → K (.ref D) m cv (tup D its :: l) tk') : WE c (eval (.Tuple elts k pos) c.ev) K m cv l tk :=
  .mk fun _ hh0 => by
    obtain ⟨mm, ns, F, N, hs, fin⟩ := hh0.news
    exact Tuple_strs F N hl (by rw [sizeLine_eq, strs_cnt]; exact Nat.le_trans (Nat.le_of_ble_eq_true hz) (by decide)) fun D its h' tk' hS F' N' lt => Out.mk (fin D _ h' F' N' lt) (kk D its tk' hS)
theorem w_lstS {elts : List Expr} {pos : Pos} {K : KV} (hl : allStr elts = true) (hz : Nat.ble elts.length 1000 = true) (kk : ∀ D its tk', StrsAre its (strsOf elts) → K (.ref D) m cv (lst D its 0 :: l) tk') : WE c (eval (.List elts pos) c.ev) K m cv l tk :=
  .mk fun _ hh0 => by
    obtain ⟨mm, ns, F, N, hs, fin⟩ := hh0.news
    exact List_strs F N hl (by rw [sizeLine_eq, strs_cnt]; exact Nat.le_trans (Nat.le_of_ble_eq_true hz) (by decide)) fun D its h' tk' hS F' N' lt => Out.mk (fin D _ h' F' N' lt) (kk D its tk' hS)
theorem w_inT {D : Addr} {its : List Value} {xs : List Str} {x : Str} {t : Tok} {K : KV} (i : Nat) (hi : atB l i = tup D its) (hS : StrsAre its xs) (k : K (.bool (xs.any (· == x))) m cv l tk) : WE c (compareOp .In (.str x t) (.ref D)) K m cv l tk :=
  .mk fun _ hh => in_tuple_strs (hh.tup i hi) hS (Out.mk hh k)
theorem w_inL {D : Addr} {its : List Value} {n : Nat} {xs : List Str} {x : Str} {t : Tok} {K : KV} (i : Nat) (hi : atB l i = lst D its n) (hS : StrsAre its xs) (k : K (.bool (xs.any (· == x))) m cv l tk) : WE c (compareOp .In (.str x t) (.ref D)) K m cv l tk :=
  .mk fun _ hh => in_list_strs (hh.list i hi) hS (Out.mk hh k)
theorem Holds.kept (hh : Holds c m cv l h) {a : Addr} {o : Obj} {h₁ : Heap} (ha : h.objs.size ≤ a) (ho : h₁.get? a = some o) (hk : ∀ b o', h.get? b = some o' → h₁.get? b = some o') : Holds c m cv (one a o :: l) h₁ := by
  obtain ⟨mm, co, F, hm, N, ap⟩ := hh
  obtain ⟨⟨oL, es, ep, hL, r⟩, keep, above⟩ := F
  have lt : ∀ p ∈ co ++ l.flatten, p.1 < a := fun p hp => Nat.lt_of_lt_of_le (Heap.lt_size (N p hp).1) ha
  refine .newer hm ap ⟨⟨oL, es, ep, hk _ _ hL, r⟩, fun b o e => hk _ _ (keep b o e), above⟩ (fun p hp => ?_) lt
  rcases List.mem_cons.mp hp with rfl | hp
  · refine ⟨ho, Nat.ne_of_gt (Nat.lt_of_lt_of_le (Heap.lt_size hL) ha), ?_⟩
    cases q : c.h₀.get? a with
    | none => rfl
    | some o' => exact absurd (Heap.lt_size (keep _ _ q)) (Nat.not_lt.mpr ha)
  · exact ⟨hk _ _ (N p hp).1, (N p hp).2⟩
theorem w_dictS {keys : List (Option Expr)} {values : List Expr} {pos : Pos} {T : List (String × String)} {K : KV} (hD : litPairs keys values = some (dS T)) (hs : strKeyed (dS T) = true) (hn : (strKeysOf (dS T)).Nodup)
    (hall : keys.all (·.isSome) = true) (hl : keys.length = values.length) (h0 : keys ≠ []) (hlen : keys.length ≤ 15) (k : ∀ D o tk', Tab w.w D o T → K (.ref D) m cv (one D o :: l) tk') : WE c (eval (.Dict keys values pos) c.ev) K m cv l tk :=
  .mk fun h hh => Dict_lits_str hD hs hn hall hl h0 hlen fun a o h₁ tk' ha ho hT hk => by
    refine Out.mk (Holds.kept hh ha ho hk) (k a o tk' ⟨?_, hT⟩)
    obtain ⟨mm, co, F, hm, N, ap⟩ := hh
    exact beq_eq_false_iff_ne.mpr (Nat.ne_of_gt (Nat.lt_of_lt_of_le (Nat.lt_trans (Nat.lt_of_lt_of_le (modules_low c.T.nolimit) F.above) F.ns.lt) ha))
theorem w_mget {D : Addr} {o : Obj} {T : List (String × String)} {K : Value × List Value → KU} (i : Nat) (hi : atB l i = one D o) (hT : Tab w.w D o T) (k : K (.builtin "dict.get", [.ref D]) m cv l tk) : WM c (.ref D) (Str.ofString "get") K m cv l tk :=
  .mk fun pl => .mk fun _ hh0 => by
    obtain ⟨mm, ns, F, N, hs⟩ := hh0.at
    exact r_meth N (hs i _ (atB_get hi) _ List.mem_cons_self) hT (Out.mk hh0 k)
theorem w_dget {D : Addr} {o : Obj} {T : List (String × String)} {x : Str} {tx ty : Tok} {K : KV} (i : Nat) (hi : atB l i = one D o) (hT : Tab w.w D o T) (k : ∀ t, K (.str (sget T x) t) m cv l (tk + 1)) : WE c (call (.builtin "dict.get") [.ref D, .str x tx, .str (Str.ofString "") ty]) K m cv l tk :=
  .mk fun _ hh0 => by
    obtain ⟨mm, ns, F, N, hs⟩ := hh0.at
    exact r_get N (hs i _ (atB_get hi) _ List.mem_cons_self) hT fun t => Out.mk hh0 (k t)
end
noncomputable abbrev FnOk (w : WG) (f : Addr) (args : List Value) (P : Value → Prop) : Prop := CallOk w 1 3 (fun _ => True) f args [] (fun v post => P v ∧ post = [])
set_option maxRecDepth 100000 in
theorem v_formatting1 (w : WG) (x : Str) (t : Tok) : FnOk w 56 [.str x t] (fun v => v = .bool (has cFormat x)) := by
  refine' CallOk.ofF (binds := [(Str.ofString "name", .str x t)]) w.ok.f56 ?k1 ?k3 ?k4 ?k5 ?k6 ?k7 ?k8 ?k9 ?_
  case k1 => exact rfl
  case k3 => exact fun s _ _ _ _ _ _ _ _ _ _ X => BindsTo.of_eq rfl
  case k4 => exact rfl
  case k5 => exact rfl
  case k6 => exact rfl
  case k7 => exact rfl
  case k8 => exact rfl
  case k9 => exact rfl
  intro c hf _ R tk
  refine (vcs_ok c hf [] 40).S ?_
  show WE _ _ _ _ _ _ _
  refine w_tupS rfl rfl fun D its tk' hS => ?_
  show WE _ _ _ _ _ _ _
  refine w_inT 0 rfl hS ?_
  show Ends _ _ _ _ _ _ _
  exact Ends.mk (post := []) [] 1 rfl rfl ⟨rfl, rfl⟩
set_option maxRecDepth 100000 in
theorem v_heading (w : WG) (x : Str) (t : Tok) : FnOk w 63 [.str x t] (fun v => v = .bool (has cHead x)) := by
  refine' CallOk.ofF (binds := [(Str.ofString "name", .str x t)]) w.ok.f63 ?k1 ?k3 ?k4 ?k5 ?k6 ?k7 ?k8 ?k9 ?_
  case k1 => exact rfl
  case k3 => exact fun s _ _ _ _ _ _ _ _ _ _ X => BindsTo.of_eq rfl
  case k4 => exact rfl
  case k5 => exact rfl
  case k6 => exact rfl
  case k7 => exact rfl
  case k8 => exact rfl
  case k9 => exact rfl
  intro c hf _ R tk
  refine (vcs_ok c hf [] 40).S ?_
  show WE _ _ _ _ _ _ _
  refine w_tupS rfl rfl fun D its tk' hS => ?_
  show WE _ _ _ _ _ _ _
  refine w_inT 0 rfl hS ?_
  show Ends _ _ _ _ _ _ _
  exact Ends.mk (post := []) [] 1 rfl rfl ⟨rfl, rfl⟩
set_option maxRecDepth 100000 in
theorem v_void (w : WG) (x : Str) (t : Tok) : FnOk w 70 [.str x t] (fun v => v = .bool (has cVoid x)) := by
  refine' CallOk.ofF (binds := [(Str.ofString "name", .str x t)]) w.ok.f70 ?k1 ?k3 ?k4 ?k5 ?k6 ?k7 ?k8 ?k9 ?_
  case k1 => exact rfl
  case k3 => exact fun s _ _ _ _ _ _ _ _ _ _ X => BindsTo.of_eq rfl
  case k4 => exact rfl
  case k5 => exact rfl
  case k6 => exact rfl
  case k7 => exact rfl
  case k8 => exact rfl
  case k9 => exact rfl
  intro c hf _ R tk
  refine (vcs_ok c hf [] 40).S ?_
  show WE _ _ _ _ _ _ _
  refine w_tupS rfl rfl fun D its tk' hS => ?_
  show WE _ _ _ _ _ _ _
  refine w_inT 0 rfl hS ?_
  show Ends _ _ _ _ _ _ _
  exact Ends.mk (post := []) [] 1 rfl rfl ⟨rfl, rfl⟩
set_option maxRecDepth 100000 in
theorem v_raw (w : WG) (x : Str) (t : Tok) : FnOk w 77 [.str x t] (fun v => v = .bool (has cRaw x)) := by
  refine' CallOk.ofF (binds := [(Str.ofString "name", .str x t)]) w.ok.f77 ?k1 ?k3 ?k4 ?k5 ?k6 ?k7 ?k8 ?k9 ?_
  case k1 => exact rfl
  case k3 => exact fun s _ _ _ _ _ _ _ _ _ _ X => BindsTo.of_eq rfl
  case k4 => exact rfl
  case k5 => exact rfl
  case k6 => exact rfl
  case k7 => exact rfl
  case k8 => exact rfl
  case k9 => exact rfl
  intro c hf _ R tk
  refine (vcs_ok c hf [] 40).S ?_
  show WE _ _ _ _ _ _ _
  refine w_tupS rfl rfl fun D its tk' hS => ?_
  show WE _ _ _ _ _ _ _
  refine w_inT 0 rfl hS ?_
  show Ends _ _ _ _ _ _ _
  exact Ends.mk (post := []) [] 1 rfl rfl ⟨rfl, rfl⟩
set_option maxRecDepth 100000 in
theorem v_part (w : WG) (x : Str) (t : Tok) : FnOk w 84 [.str x t] (fun v => v = .bool (has cPart x)) := by
  refine' CallOk.ofF (binds := [(Str.ofString "name", .str x t)]) w.ok.f84 ?k1 ?k3 ?k4 ?k5 ?k6 ?k7 ?k8 ?k9 ?_
  case k1 => exact rfl
  case k3 => exact fun s _ _ _ _ _ _ _ _ _ _ X => BindsTo.of_eq rfl
  case k4 => exact rfl
  case k5 => exact rfl
  case k6 => exact rfl
  case k7 => exact rfl
  case k8 => exact rfl
  case k9 => exact rfl
  intro c hf _ R tk
  refine (vcs_ok c hf [] 40).S ?_
  show WE _ _ _ _ _ _ _
  refine w_tupS rfl rfl fun D its tk' hS => ?_
  show WE _ _ _ _ _ _ _
  refine w_inT 0 rfl hS ?_
  show Ends _ _ _ _ _ _ _
  exact Ends.mk (post := []) [] 1 rfl rfl ⟨rfl, rfl⟩
set_option maxRecDepth 100000 in
theorem v_special_math (w : WG) (x : Str) (t t2 : Tok) : FnOk w 49 [.str (Str.ofString "math") t2, .str x t] (fun v => v = .bool (has cMath x)) := by
  refine' CallOk.ofF (binds := [(Str.ofString "space", .str (Str.ofString "math") t2), (Str.ofString "name", .str x t)]) w.ok.f49 ?k1 ?k3 ?k4 ?k5 ?k6 ?k7 ?k8 ?k9 ?_
  case k1 => exact rfl
  case k3 => exact fun s _ _ _ _ _ _ _ _ _ _ X => BindsTo.of_eq rfl
  case k4 => exact rfl
  case k5 => exact rfl
  case k6 => exact rfl
  case k7 => exact rfl
  case k8 => exact rfl
  case k9 => exact rfl
  intro c hf _ R tk
  refine (vcs_ok c hf [] 40).S ?_
  refine BR.t rfl ?_
  show WE _ _ _ _ _ _ _
  refine w_tupS rfl rfl fun D its tk' hS => ?_
  show WE _ _ _ _ _ _ _
  refine w_inT 0 rfl hS ?_
  show Ends _ _ _ _ _ _ _
  exact Ends.mk (post := []) [] 1 rfl rfl ⟨rfl, rfl⟩
set_option maxRecDepth 100000 in
theorem v_special_svg (w : WG) (x : Str) (t t2 : Tok) : FnOk w 49 [.str (Str.ofString "svg") t2, .str x t] (fun v => v = .bool (has cSvg x)) := by
  refine' CallOk.ofF (binds := [(Str.ofString "space", .str (Str.ofString "svg") t2), (Str.ofString "name", .str x t)]) w.ok.f49 ?k1 ?k3 ?k4 ?k5 ?k6 ?k7 ?k8 ?k9 ?_
  case k1 => exact rfl
  case k3 => exact fun s _ _ _ _ _ _ _ _ _ _ X => BindsTo.of_eq rfl
  case k4 => exact rfl
  case k5 => exact rfl
  case k6 => exact rfl
  case k7 => exact rfl
  case k8 => exact rfl
  case k9 => exact rfl
  intro c hf _ R tk
  refine (vcs_ok c hf [] 40).S ?_
  refine BR.f rfl ?_
  refine BR.t rfl ?_
  show WE _ _ _ _ _ _ _
  refine w_tupS rfl rfl fun D its tk' hS => ?_
  show WE _ _ _ _ _ _ _
  refine w_inT 0 rfl hS ?_
  show Ends _ _ _ _ _ _ _
  exact Ends.mk (post := []) [] 1 rfl rfl ⟨rfl, rfl⟩
set_option maxRecDepth 100000 in
theorem v_special_html (w : WG) (x : Str) (t t2 : Tok) : FnOk w 49 [.str (Str.ofString "html") t2, .str x t] (fun v => v = .bool (has cSpecial x)) := by
  refine' CallOk.ofF (binds := [(Str.ofString "space", .str (Str.ofString "html") t2), (Str.ofString "name", .str x t)]) w.ok.f49 ?k1 ?k3 ?k4 ?k5 ?k6 ?k7 ?k8 ?k9 ?_
  case k1 => exact rfl
  case k3 => exact fun s _ _ _ _ _ _ _ _ _ _ X => BindsTo.of_eq rfl
  case k4 => exact rfl
  case k5 => exact rfl
  case k6 => exact rfl
  case k7 => exact rfl
  case k8 => exact rfl
  case k9 => exact rfl
  intro c hf _ R tk
  refine (vcs_ok c hf [] 40).S ?_
  refine BR.f rfl ?_
  refine BR.f rfl ?_
  refine BR.t rfl ?_
  show WE _ _ _ _ _ _ _
  refine w_tupS rfl rfl fun D its tk' hS => ?_
  show WE _ _ _ _ _ _ _
  refine w_inT 0 rfl hS ?_
  show Ends _ _ _ _ _ _ _
  exact Ends.mk (post := []) [] 1 rfl rfl ⟨rfl, rfl⟩
set_option maxRecDepth 100000 in
theorem v_special_none (w : WG) (x : Str) (t t2 : Tok) : FnOk w 49 [.str (Str.ofString "") t2, .str x t] (fun v => v = .bool false) := by
  refine' CallOk.ofF (binds := [(Str.ofString "space", .str (Str.ofString "") t2), (Str.ofString "name", .str x t)]) w.ok.f49 ?k1 ?k3 ?k4 ?k5 ?k6 ?k7 ?k8 ?k9 ?_
  case k1 => exact rfl
  case k3 => exact fun s _ _ _ _ _ _ _ _ _ _ X => BindsTo.of_eq rfl
  case k4 => exact rfl
  case k5 => exact rfl
  case k6 => exact rfl
  case k7 => exact rfl
  case k8 => exact rfl
  case k9 => exact rfl
  intro c hf _ R tk
  refine (vcs_ok c hf [] 40).S ?_
  refine BR.f rfl ?_
  refine BR.f rfl ?_
  refine BR.f rfl ?_
  show Ends _ _ _ _ _ _ _
  exact Ends.mk (post := []) [] 0 rfl rfl ⟨rfl, rfl⟩
set_option maxRecDepth 100000 in
theorem v_mode (w : WG) (x : Str) (t : Tok) : FnOk w 535 [.str x t] (fun v => ∃ t, v = .str (sget cModes x) t) := by
  refine' CallOk.ofF (binds := [(Str.ofString "name", .str x t)]) w.ok.f535 ?k1 ?k3 ?k4 ?k5 ?k6 ?k7 ?k8 ?k9 ?_
  case k1 => exact rfl
  case k3 => exact fun s _ _ _ _ _ _ _ _ _ _ X => BindsTo.of_eq rfl
  case k4 => exact rfl
  case k5 => exact rfl
  case k6 => exact rfl
  case k7 => exact rfl
  case k8 => exact rfl
  case k9 => exact rfl
  intro c hf _ R tk
  refine (vcs_ok c hf [] 40).S ?_
  show WE _ _ _ _ _ _ _
  refine w_dictS (T := cModes) rfl rfl (by decide +kernel) rfl rfl (List.cons_ne_nil _ _) (by decide) fun D o tk' hT => ?_
  show WM _ _ _ _ _ _ _ _
  refine w_mget 0 rfl hT ?_
  show WE _ _ _ _ _ _ _
  refine w_dget 0 rfl hT fun t => ?_
  show Ends _ _ _ _ _ _ _
  exact Ends.mk (post := []) [] 1 rfl rfl ⟨⟨_, rfl⟩, rfl⟩
end V
end
section
open PySem PySem.W PyProof.Rows PySem.Spec PySem.Calls PyProof.V
namespace V
theorem cells_keys {cm : Str → Option Value} {cl : List (Str × Addr)} {co : Ld} (H : CellsAre cm cl co) : co.map (·.1) = cl.map (·.2) := by
  induction H with
  | nil => rfl
  | cons h _ ih => rw [List.map_cons, List.map_cons, ih]
theorem cells_cell {cm : Str → Option Value} {cl : List (Str × Addr)} {co : Ld} (H : CellsAre cm cl co) : ∀ p ∈ co, ∃ v, p.2.data = .cell v := by
  induction H with
  | nil => exact fun _ h => nomatch h
  | cons h _ ih =>
    intro p hp
    rcases List.mem_cons.mp hp with rfl | hp
    · exact ⟨_, h⟩
    · exact ih p hp
theorem cells_val {cm : Str → Option Value} {cl : List (Str × Addr)} {co : Ld} (H : CellsAre cm cl co) {x : Str} {a : Addr} (h : cl.lookup x = some a) : ∃ o, (a, o) ∈ co ∧ o.data = .cell (cm x) := by
  induction H with
  | nil => cases h
  | @cons n c o cs cells hd _ ih =>
    rw [List.lookup_cons] at h
    by_cases e : x = n
    · rw [e, beq_self_eq_true] at h
      cases h
      exact ⟨o, List.mem_cons_self, e ▸ hd⟩
    · rw [beq_eq_false_iff_ne.mpr e] at h
      obtain ⟨o', h1, h2⟩ := ih h
      exact ⟨o', List.mem_cons_of_mem _ h1, h2⟩
theorem cellsFrom_lo (k : Nat) : ∀ (names : List (Str × NameKind)) (n : Nat) (acc : List (Str × Addr)), k ≤ n → (∀ p ∈ acc, k ≤ p.2 ∧ p.2 < n) → (acc.map (·.2)).Nodup → (∀ p ∈ cellsFrom n names acc, k ≤ p.2) ∧ ((cellsFrom n names acc).map (·.2)).Nodup
  | [], _, acc, _, h, hn => ⟨fun p hp => (h p hp).1, hn⟩
  | (x, kd) :: r, n, acc, hk, h, hn => by
    unfold cellsFrom
    split
    · refine cellsFrom_lo k r (n + 1) _ (Nat.le_succ_of_le hk) (fun p hp => ?_) ?_
      · rcases List.mem_cons.mp hp with rfl | hp
        · exact ⟨hk, Nat.lt_succ_self _⟩
        · exact ⟨(h p hp).1, Nat.lt_succ_of_lt (h p hp).2⟩
      · rw [List.map_cons, List.nodup_cons]
        refine ⟨fun q => ?_, hn⟩
        obtain ⟨p, hp, e⟩ := List.mem_map.mp q
        exact absurd (h p hp).2 (by rw [show p.2 = n from e]; exact Nat.lt_irrefl _)
    · exact cellsFrom_lo k r n acc hk h hn
/-- the arguments that are locals, those that are cells -/
noncomputable def locB (S : Scope) (b : Lo) : Lo := b.filter fun p => S.names.lookup p.1 == some .local
noncomputable def celB (S : Scope) (b : Lo) : Lo := b.filter fun p => S.names.lookup p.1 == some .cell
theorem lookup_append {x : Str} : ∀ {a b : Lo}, (a ++ b).lookup x = match a.lookup x with | some v => some v | none => b.lookup x
  | [], _ => rfl
  | (y, v) :: r, b => by
    rw [List.cons_append, List.lookup_cons, List.lookup_cons]
    cases x == y
    · exact lookup_append
    · rfl
theorem bindL_lo {S : Scope} {kindOf : Str → Option NameKind} (hk : ∀ x, kindOf x = S.names.lookup x) : ∀ (b : Lo) (m : Str → Option Value) (x : Str) (v : Value), (locB S b).reverse.lookup x = some v → bindL kindOf b m x = some v := by
  have key : ∀ (b : Lo) (m : Str → Option Value) (x : Str), bindL kindOf b m x = match (locB S b).reverse.lookup x with | some v => some v | none => m x := by
    intro b
    induction b with
    | nil => intro m x; rfl
    | cons p r ih =>
      intro m x
      obtain ⟨n, v⟩ := p
      unfold bindL
      rw [ih]
      by_cases hn : S.names.lookup n = some .local
      · have e1 : locB S ((n, v) :: r) = (n, v) :: locB S r := List.filter_cons_of_pos (by simp [hn])
        rw [if_pos (by rw [hk, hn]), e1, List.reverse_cons, lookup_append]
        cases (locB S r).reverse.lookup x with
        | some v => rfl
        | none =>
          dsimp only
          rw [List.lookup_cons]
          by_cases e : x = n
          · rw [if_pos e, e, beq_self_eq_true]
          · rw [if_neg e, beq_eq_false_iff_ne.mpr e]; rfl
      · have e1 : locB S ((n, v) :: r) = locB S r := List.filter_cons_of_neg (by simpa using hn)
        rw [if_neg (by rw [hk]; exact hn), e1]
  intro b m x v h
  rw [key, h]
theorem bindC_ce {S : Scope} {kindOf : Str → Option NameKind} (hk : ∀ x, kindOf x = S.names.lookup x) : ∀ (b : Lo) (m : Str → Option Value) (x : Str) (v : Value), (b.all fun y => S.names.lookup y.1 == some .local || S.names.lookup y.1 == some .cell) = true → (celB S b).reverse.lookup x = some v → bindC kindOf b m x = some v := by
  have key : ∀ (b : Lo) (m : Str → Option Value) (x : Str), (b.all fun y => S.names.lookup y.1 == some .local || S.names.lookup y.1 == some .cell) = true → bindC kindOf b m x = match (celB S b).reverse.lookup x with | some v => some v | none => m x := by
    intro b
    induction b with
    | nil => intro m x _; rfl
    | cons p r ih =>
      intro m x ha
      obtain ⟨n, v⟩ := p
      rw [List.all_cons, Bool.and_eq_true] at ha
      unfold bindC
      rw [ih _ _ ha.2]
      by_cases hn : S.names.lookup n = some .local
      · have e1 : celB S ((n, v) :: r) = celB S r := List.filter_cons_of_neg (by simp [hn])
        rw [if_pos (by rw [hk, hn]), e1]
      · have hc : S.names.lookup n = some .cell := by simpa [hn] using ha.1
        have e1 : celB S ((n, v) :: r) = (n, v) :: celB S r := List.filter_cons_of_pos (by simp [hc])
        rw [if_neg (by rw [hk]; exact hn), e1, List.reverse_cons, lookup_append]
        cases (celB S r).reverse.lookup x with
        | some v => rfl
        | none =>
          dsimp only
          rw [List.lookup_cons]
          by_cases e : x = n
          · rw [if_pos e, e, beq_self_eq_true]
          · rw [if_neg e, beq_eq_false_iff_ne.mpr e]; rfl
  intro b m x v ha h
  rw [key b m x ha, h]
theorem CallOk.ofC {w : WG} {r u : Nat} {B : Heap → Prop} {f : Addr} {args : List Value} {pre : Lb} {Post : Value → Lb → Prop} {name qual : Str} {params : Arguments} {body : List Stmt} {S : Scope} {dV kV doc pm cdv ct oc : Value} {an od : Option Addr} {osl : Array (Option Value)} {binds : Lo}
    (hK : List.lookup f (w.K) = some { cls := oc, dict := od, data := .func (fnOf name qual params body S dV kV doc pm an cdv ct), slots := osl }) (hc : codeIn (w.K) cdv qual = true)
    (hb : ∀ s : Shared, (w.K).In s.heap → BindsTo s (fnOf name qual params body S dV kV doc pm an cdv ct) ⟨args, []⟩ binds) (hl : (binds.all fun y => S.names.lookup y.1 == some .local || S.names.lookup y.1 == some .cell) = true)
    (h1 : S.isCoroutine = false) (h2 : S.isGenerator = false) (h3 : S.kind = .function) (h4 : ((cellsFrom 0 S.names []).map (·.1)).Nodup) (h5 : S.names.lookup (Str.ofString "__debug__") = none)
    (H : ∀ (c : Ct w S r u), FnFrame c → B c.base → ∀ R tk, WE c (execs body c.ev) (Ends Post R) (locB S binds).reverse (celB S binds).reverse (pre ++ R) tk) : CallOk w (r + 1) (u + 3) B f args pre Post := by
  refine ⟨fun {S₀ r' u'} c hr hu hB {K m cv R tk} hret => .mk fun h hh => ?_⟩
  have hr := Nat.le_of_ble_eq_true hr
  have hu := Nat.le_of_ble_eq_true hu
  obtain ⟨mm, co, F, hm, N, a⟩ := hh
  have hp (q : Lb) : (co ++ (q ++ R).flatten).Perm (q ++ (R ++ [co])).flatten := by
    rw [← List.append_assoc q, List.flatten_append (L₁ := q ++ R), List.flatten_cons, List.flatten_nil, List.append_nil]; exact List.perm_append_comm
  have N' : News c.h₀ c.L h (pre ++ (R ++ [co])).flatten := fun p hq => N p ((hp pre).mem_iff.mpr hq)
  have a' := (apart_perm (hp pre)).mp a
  refine wpAny_call ?_
  refine code_defC (s := c.sh h tk) c.B F c.X N' c.T c.hA c.hfr c.hfk hK hc (by have := c.hd; omega) (hb _ (Frag.In.keeps c.X F.keep)) hl h4 (fun g L' h₁ tk₁ cells FG F' N1 Y1 B1 X1 T1 lt => ?_) h1 h2 h3
  refine (fun (E' : Value → Shared → Prop) (hE : PassesOwn (model Pr w.w) (c.A.deeper (envOfC qual S L' f cdv)) (envOfC qual S L' f cdv) E') => ?_ : ∀ E', PassesOwn (model Pr w.w) (c.A.deeper (envOfC qual S L' f cdv)) (envOfC qual S L' f cdv) E' → wpAny _ _ _ _ E' _) _ (by passes_own)
  have kq : ∀ x, (envOfC qual S L' f cdv).kindOf x = S.names.lookup x := fun _ => rfl
  let cl := cellsFrom (L' + 1) S.names []
  let c' : Ct w S r u := ⟨L', envOfC qual S L' f cdv, envOfC qual S L' f cdv, c.A.deeper (envOfC qual S L' f cdv), c.fe :: c.outer, c.A, c.base, g, E', c.s, c.mean, c.mg, c.mb, fun m cv mm co => ∃ co1, co = [] ++ co1 ∧ LoOk S m mm ∧ CellOk S cl cv co1, B1, X1, T1,
    (by show (S.kind == .module && _) = false; rw [h3]; rfl), Around.frames_deeper c.hA, rfl, h3, c.hn, by have := c.hd; show c.A.depth + 1 + r < _; omega, by have := c.hu; show c.A.units + 3 + u < _; omega, fun F ⟨co1, e, hi⟩ N hv k => by subst e; exact fn_rd (cl := cl) (hid := []) h5 h3 X1 T1 F hi N hv k⟩
  have hf : FnFrame c' := ⟨h3, hE, qual, f, cdv, [], rfl, rfl⟩
  have kc : ∀ x, S.names.lookup x = some .cell → ∃ a, cl.lookup x = some a := fun x hx => Option.isSome_iff_exists.mp (cellsFrom_some S.names (L' + 1) [] (.inl hx))
  obtain ⟨k1, k2⟩ := cellsFrom_lo (L' + 1) S.names (L' + 1) [] (Nat.le_refl _) (fun _ h => nomatch h) List.nodup_nil
  have ck := cells_keys Y1
  have ap1 : Apart (cells ++ (pre ++ (R ++ [co])).flatten) := by
    refine apart_app.mpr ⟨by unfold Apart; rw [ck]; exact k2, a', fun p hp q hq e => ?_⟩
    have : p.1 ∈ cells.map (·.1) := List.mem_map.mpr ⟨p, hp, rfl⟩
    rw [ck] at this
    obtain ⟨z, hz, ez⟩ := List.mem_map.mp this
    have g1 := k1 z hz
    have g2 := lt q hq
    rw [ez, e] at g1
    exact absurd (Nat.lt_trans g2 g1) (Nat.lt_irrefl _)
  have hold : Holds c' (locB S binds).reverse (celB S binds).reverse (pre ++ (R ++ [co])) h₁ := ⟨_, cells, F', ⟨cells, rfl, fun x v e => ⟨bindL_lo kq binds _ x v e, by
      have := (List.mem_filter.mp (List.mem_reverse.mp (mem_of_lookup e))).2
      simpa using this⟩, ⟨ck, kc, cells_cell Y1, fun x v e => by
      have hx : S.names.lookup x = some .cell := by
        have := (List.mem_filter.mp (List.mem_reverse.mp (mem_of_lookup e))).2
        simpa using this
      obtain ⟨a, ha⟩ := kc x hx
      obtain ⟨o, o1, o2⟩ := cells_val Y1 ha
      exact ⟨hx, a, o, ha, o1, by rw [o2, bindC_ce kq binds _ x v hl e]⟩⟩⟩, N1, ap1⟩
  refine ((H c' hf hB (R ++ [co]) _).mono fun _ _ _ _ _ => Ends.all).go hold fun fl m1 cv1 l1 tk1 h1 hh1 ke => ?_
  obtain ⟨post, ⟨q, hq, rfl⟩, hs, hap⟩ := ke.out
  rw [List.append_nil] at hs hap
  have a3 := hap hh1.apart
  obtain ⟨mm1, co1, F1, _, N2, a2⟩ := hh1
  refine (?_ : LeaveK _ _ _ _ _ (retOf fl) _)
  exact leaveK_ F1 N2 fun F N => ⟨m, cv, q ++ R, tk1, h1, rfl, ⟨mm, co, F, hm, fun p hx => N p (List.mem_append_right _ (hs p ((hp q).mem_iff.mp hx))), (apart_perm (hp q)).mpr a3⟩, hret _ _ _ hq⟩
theorem CallOk.ofCF {w : WG} {r u : Nat} {B : Heap → Prop} {f : Addr} {args : List Value} {pre : Lb} {Post : Value → Lb → Prop} {st : Stmt} {dV : Value} {n : Str} {ps : Arguments} {body : List Stmt} {dc : List Expr} {rr : Option Expr} {tp : List TypeParam} {S : Scope} {ts : Option Scope} {bi : Str} {p : Pos} {binds : Lo} (hF : FnAt w.K f st dV) (hst : st = .FunctionDef n ps body dc rr tp S ts bi p)
    (hb : ∀ (s : Shared) qual doc pm an cdv ct oc od osl, List.lookup f w.K = some { cls := oc, dict := od, data := .func (fnOf n qual ps body S dV .none doc pm an cdv ct), slots := osl } → (w.K).In s.heap → BindsTo s (fnOf n qual ps body S dV .none doc pm an cdv ct) ⟨args, []⟩ binds) (hl : (binds.all fun y => S.names.lookup y.1 == some .local || S.names.lookup y.1 == some .cell) = true)
    (h1 : S.isCoroutine = false) (h2 : S.isGenerator = false) (h3 : S.kind = .function) (h4 : ((cellsFrom 0 S.names []).map (·.1)).Nodup) (h5 : S.names.lookup (Str.ofString "__debug__") = none)
    (H : ∀ (c : Ct w S r u), FnFrame c → B c.base → ∀ R tk, WE c (execs body c.ev) (Ends Post R) (locB S binds).reverse (celB S binds).reverse (pre ++ R) tk) : CallOk w (r + 1) (u + 3) B f args pre Post := by
  subst hst
  obtain ⟨qual, doc, pm, an, cdv, ct, oc, od, osl, hK, hc⟩ := hF
  exact CallOk.ofC hK hc (fun s X => hb s _ _ _ _ _ _ _ _ _ hK X) hl h1 h2 h3 h4 h5 H
end V
end
section
open PySem PySem.W PyProof.Rows PySem.Spec PySem.Calls PyProof.V
open V
theorem size_nat (n : Nat) : Builtin.Range.rangeSize 0 (n : Int) 1 = (n : Int) := by
  rw [rangeSize_nat]; omega
theorem small_nat {n : Nat} (h : n ≤ 1000) : Builtin.Range.small 0 (n : Int) 1 = true :=
  small_one (by decide) (by decide) (by omega) (by omega)
section
variable {w : WG} {S : Scope} {r u : Nat} {c : Ct w S r u} {m cv : Lo} {l : Lb} {tk : Nat} {h : Heap}
/-- an object that the walk is not to see -/
noncomputable def Ct.hide (c : Ct w S r u) (p : Addr × Obj) : Ct w S r u :=
  ⟨c.L, c.ev, c.fe, c.A, c.outer, c.A₀, c.base, c.h₀, c.E, c.s, c.mean, c.mg, c.mb, fun m cv mm co => ∃ co1, co = p :: co1 ∧ c.Inv m cv mm co1, c.B, c.X, c.T, c.hI, c.hA, c.hfr, c.hfk, c.hn, c.hd, c.hu,
    fun {m cv mm co l h tk x pos v Q} F ⟨co1, e, hi⟩ N hv k => c.rd (co := co1) (l := l) F hi (fun q hq => N q (by subst e; exact List.mem_cons_of_mem p hq)) hv k⟩
theorem FnFrame.hide (hf : FnFrame c) (p : Addr × Obj) : FnFrame (Ct.hide c p) := by
  obtain ⟨hk, po, cn, a, ccd, hid, he, hi⟩ := hf
  refine ⟨hk, po, cn, a, ccd, p :: hid, he, ?_⟩
  funext m cv mm co
  show (∃ co1, co = p :: co1 ∧ c.Inv m cv mm co1) = _
  rw [hi]
  exact propext ⟨fun ⟨_, e, co2, e2, x⟩ => ⟨co2, by rw [e, e2]; rfl, x⟩, fun ⟨co2, e, x⟩ => ⟨hid ++ co2, e, co2, rfl, x⟩⟩
theorem FnFrame.setInv (hf : FnFrame c) {x : Str} {v : Value} {mm : Str → Option Value} {co : Ld} (hx : S.names.lookup x = some .local) (hi : c.Inv m cv mm co) : c.Inv (setL x v m) cv (fun y => if y = x then some v else mm y) co := by
  obtain ⟨_, _, _, _, _, hid, _, e⟩ := hf
  rw [e] at hi ⊢
  obtain ⟨co1, ec, hm, hc⟩ := hi
  refine ⟨co1, ec, fun y z e => ?_, hc⟩
  rw [lookup_setL] at e
  by_cases q : y = x
  · rw [if_pos q] at e
    exact ⟨(if_pos q).trans e, q ▸ hx⟩
  · rw [if_neg q] at e
    exact ⟨(if_neg q).trans (hm _ _ e).1, (hm _ _ e).2⟩
theorem FnFrame.locals (hf : FnFrame c) : c.ev.locals = c.L := by
  obtain ⟨_, _, _, _, _, _, e, _⟩ := hf
  rw [e]
/-- what is known less -/
theorem FnFrame.less (hf : FnFrame c) {m' cv' : Lo} {mm : Str → Option Value} {co : Ld} (h1 : ∀ x v, m'.lookup x = some v → m.lookup x = some v) (h2 : ∀ x v, cv'.lookup x = some v → cv.lookup x = some v) (hi : c.Inv m cv mm co) : c.Inv m' cv' mm co := by
  obtain ⟨_, _, _, _, _, hid, _, e⟩ := hf
  rw [e] at hi ⊢
  obtain ⟨co1, ec, hm, hc⟩ := hi
  exact ⟨co1, ec, fun y z q => hm y z (h1 y z q), hc.keys, hc.all, hc.cell, fun y z q => hc.val y z (h2 y z q)⟩
theorem WE.less {α : Type} {t : Sem α} {K : α → KU} (hf : FnFrame c) {m' cv' : Lo} (h1 : ∀ x v, m'.lookup x = some v → m.lookup x = some v) (h2 : ∀ x v, cv'.lookup x = some v → cv.lookup x = some v) (k : WE c t K m' cv' l tk) : WE c t K m cv l tk :=
  .mk fun _ ⟨mm, co, F, hi, N, a⟩ => k.run ⟨mm, co, F, hf.less h1 h2 hi, N, a⟩
/-- a loop over a value -/
@[irreducible] noncomputable def ForK (c : Ct w S r u) (x : Str) (body : List Stmt) (K : Flow → KU) (xv : Value) : KU := fun m cv l tk => ∀ h, Holds c m cv l h →
  wpAny (model Pr w.w) c.A (pyIter xv) (fun it s₂ => LoopAtV Pr w.w c.A c.h₀ c.ev x body (Out c K) c.E it s₂) c.E (c.sh h tk)
theorem ForK.mk {x : Str} {body : List Stmt} {K : Flow → KU} {xv : Value} (H : ∀ h, Holds c m cv l h → wpAny (model Pr w.w) c.A (pyIter xv) (fun it s₂ => LoopAtV Pr w.w c.A c.h₀ c.ev x body (Out c K) c.E it s₂) c.E (c.sh h tk)) : ForK c x body K xv m cv l tk := by delta ForK; exact H
theorem ForK.run {x : Str} {body : List Stmt} {K : Flow → KU} {xv : Value} (H : ForK c x body K xv m cv l tk) (hh : Holds c m cv l h) : wpAny (model Pr w.w) c.A (pyIter xv) (fun it s₂ => LoopAtV Pr w.w c.A c.h₀ c.ev x body (Out c K) c.E it s₂) c.E (c.sh h tk) := by delta ForK at H; exact H h hh
theorem w_for (hf : FnFrame c) {x : Str} {px pos : Pos} {iter : Expr} {body : List Stmt} {K : Flow → KU} (hx : S.names.lookup x = some .local) (hs : ∀ v, foldedSetIterable iter c.ev v = pure v) (k : WE c (eval iter c.ev) (fun xv => ForK c x body K xv) m cv l tk) :
    WE c (exec (.For (.Name x px) iter body [] pos) c.ev) K m cv l tk := .mk fun _ hh => by
  have hh' := hh
  obtain ⟨mm, co, F, hi, N, a⟩ := hh'
  have hl := hf.locals
  obtain ⟨hk, po, cn, a', ccd, hid, he, _⟩ := hf
  refine For_invVF (h₀ := c.h₀) (m := mm) (by rw [hl]; exact F) (by rw [he]; exact hx) ?_ (k.go hh fun xv _ _ _ _ _ hh k => k.run hh) hs po
  rw [he]
  show (S.kind == .class || (S.kind == .module && _)) = false
  rw [hk]; rfl
noncomputable def TurnK (K : Flow → KU) (N : KU) (f : Flow) : KU := match f with
  | .ret v => K (.ret v)
  | .brk => fun _ _ _ _ => False
  | _ => N
theorem Holds.unhide {p : Addr × Obj} (hh : Holds (Ct.hide c p) m cv l h) : Holds c m cv l h := by
  obtain ⟨mm, co, F, ⟨co1, rfl, hi⟩, N, a⟩ := hh
  exact ⟨mm, co1, F, hi, fun q hq => N q (List.mem_cons_of_mem _ hq), (apart_cons.mp a).2⟩
/-- one turn of a loop, its iterator hidden -/
theorem turn_ok (hf : FnFrame c) {x : Str} {body : List Stmt} {K : Flow → KU} {v : Value} {I : Addr} {it : Obj} {J : KU} {J' : (Str → Option Value) → Ld → Prop} {mm : Str → Option Value} {co : Ld} (hx : S.names.lookup x = some .local)
    (hJ' : ∀ mm co m cv l tk, c.Inv m cv mm co → Apart (co ++ l.flatten) → J m cv l tk → J' mm (co ++ l.flatten))
    (hi : c.Inv m cv mm co) (ap : Apart (co ++ l.flatten)) (off : ∀ p ∈ co ++ l.flatten, p.1 ≠ I) (F : Fr c.h₀ c.L h (fun y => if y = x then some v else mm y)) (N : News c.h₀ c.L h ((I, it) :: (co ++ l.flatten)))
    (k : WE (Ct.hide c (I, it)) (execs body c.ev) (TurnK K J) (setL x v m) cv l tk) : wpAny (model Pr w.w) c.A (execs body c.ev) (UnrPost c.h₀ c.L (c.sh h tk) I it J' (Out c K)) c.E (c.sh h tk) := by
  have hold : Holds (Ct.hide c (I, it)) (setL x v m) cv l h := ⟨_, (I, it) :: co, F, ⟨co, rfl, hf.setInv hx hi⟩, N, apart_cons.mpr ⟨off, ap⟩⟩
  refine k.go hold fun f m3 cv3 l3 tk3 h3 hh3 k3 => ?_
  have fin : J m3 cv3 l3 tk3 → UnrEnd c.h₀ c.L (c.sh h tk) I it J' (c.sh h3 tk3) := fun hj => by
    obtain ⟨mm3, co3, F3, ⟨co4, rfl, hi3⟩, N3, a3⟩ := hh3
    obtain ⟨a1, a2⟩ := (apart_cons (p := (I, it)) (l := co4 ++ l3.flatten)).mp a3
    exact ⟨h3, tk3, mm3, co4 ++ l3.flatten, rfl, F3, N3, a1, hJ' _ _ _ _ _ _ hi3 a2 hj⟩
  cases f with
  | ret v => exact Out.mk (Holds.unhide hh3) k3
  | brk => exact absurd k3 id
  | next => exact fin k3
  | cont => exact fin k3
/-- locals that are known still -/
noncomputable def LoSub : Lo → Lo → Prop
  | [], _ => True
  | (x, v) :: r, m => m.lookup x = some v ∧ LoSub r m
theorem LoSub.get : ∀ {m0 m : Lo}, LoSub m0 m → ∀ x v, m0.lookup x = some v → m.lookup x = some v
  | [], _, _, _, _, h => by cases h
  | (y, u) :: r, m, hs, x, v, h => by
    rw [List.lookup_cons] at h
    by_cases e : x = y
    · rw [e, beq_self_eq_true] at h
      cases h
      rw [e]; exact hs.1
    · rw [beq_eq_false_iff_ne.mpr e] at h
      exact LoSub.get hs.2 x v h
theorem Holds.less (hf : FnFrame c) {m' cv' : Lo} (h1 : LoSub m' m) (h2 : LoSub cv' cv) (hh : Holds c m cv l h) : Holds c m' cv' l h := by
  obtain ⟨mm, co, F, hi, N, a⟩ := hh
  exact ⟨mm, co, F, hf.less h1.get h2.get hi, N, a⟩
/-- a turn's end: what is to be known still, and the ledger's invariant -/
noncomputable def TurnJ (K : Flow → KU) (m0 cv0 : Lo) (J : Lb → Prop) : Flow → KU := TurnK K fun m cv l _ => LoSub m0 m ∧ LoSub cv0 cv ∧ J l
noncomputable def JOf (c : Ct w S r u) (m0 cv0 : Lo) (J : Nat → Lb → Prop) (i : Nat) (mm : Str → Option Value) (ns : Ld) : Prop := ∃ co l, ns = co ++ l.flatten ∧ c.Inv m0 cv0 mm co ∧ Apart ns ∧ J i l
theorem w_overL (hf : FnFrame c) {x : Str} {body : List Stmt} {K : Flow → KU} (hx : S.names.lookup x = some .local) {D : Addr} {its : List Value} {n : Nat} (m0 cv0 : Lo) (j : Nat) (hj : atB l j = lst D its n) (J : Nat → Lb → Prop) (hm : LoSub m0 m) (hv : LoSub cv0 cv) (h0 : J 0 l)
    (keep : ∀ i l, J i l → ∃ j, atB l j = lst D its n)
    (turn : ∀ i v l tk (c2 : Ct w S r u), FnFrame c2 → c2.base = c.base → c2.ev = c.ev → its[i]? = some v → J i l → WE c2 (execs body c2.ev) (TurnJ K m0 cv0 (J (i + 1))) (setL x v m0) cv0 l tk)
    (done : ∀ l tk, J its.length l → K .next m0 cv0 l tk) : ForK c x body K (.ref D) m cv l tk := .mk fun h hh => by
  have hh := Holds.less hf hm hv hh
  obtain ⟨mm, co, F, hi, N, a⟩ := hh
  have hl := hf.locals
  have mem : ∀ {l : Lb}, (∃ j, atB l j = lst D its n) → (D, W.listOf its.toArray n) ∈ l.flatten := fun ⟨j, hj⟩ => mem_block (atB_get hj) List.mem_cons_self
  have F' : Fr c.h₀ c.ev.locals h mm := by rw [hl]; exact F
  have N' : News c.h₀ c.ev.locals h (co ++ l.flatten) := by rw [hl]; exact N
  refine iter_listJ (s := c.sh h tk) (JOf c m0 cv0 J) c.hn F' N' (List.mem_append_right _ (mem ⟨j, hj⟩)) rfl rfl ⟨co, l, rfl, hi, a, h0⟩ ?_ ?_ ?_
  · rintro i mm ns ⟨co, l, rfl, _, _, hJ⟩
    exact List.mem_append_right _ (mem (keep i l hJ))
  · rintro i v I it mm ns h tk hv ⟨co, l, rfl, hi, ap, hJ⟩ off F N
    rw [hl] at F N ⊢
    exact turn_ok hf hx (fun _ _ _ _ _ _ h1 h2 h3 => ⟨_, _, rfl, hf.less h3.1.get h3.2.1.get h1, h2, h3.2.2⟩) hi ap off F N (turn i v l tk (Ct.hide c (I, it)) (hf.hide _) rfl rfl hv hJ)
  · rintro mm ns h tk ⟨co, l, rfl, hi, ap, hJ⟩ F N
    rw [hl] at F N
    exact Out.mk ⟨mm, co, F, hi, N, ap⟩ (done l tk hJ)
theorem w_overS (hf : FnFrame c) {x : Str} {body : List Stmt} {K : Flow → KU} (hx : S.names.lookup x = some .local) {tx : Str} {t₀ : Tok} (m0 cv0 : Lo) (J : Nat → Lb → Prop) (hm : LoSub m0 m) (hv : LoSub cv0 cv) (h0 : J 0 l)
    (turn : ∀ i ch t l tk (c2 : Ct w S r u), FnFrame c2 → c2.base = c.base → c2.ev = c.ev → tx.cps[i]? = some ch → J i l → WE c2 (execs body c2.ev) (TurnJ K m0 cv0 (J (i + 1))) (setL x (.str ⟨#[ch]⟩ t) m0) cv0 l tk)
    (done : ∀ l tk, J tx.cps.size l → K .next m0 cv0 l tk) : ForK c x body K (.str tx t₀) m cv l tk := .mk fun h hh => by
  have hh := Holds.less hf hm hv hh
  obtain ⟨mm, co, F, hi, N, a⟩ := hh
  have hl := hf.locals
  have F' : Fr c.h₀ c.ev.locals h mm := by rw [hl]; exact F
  have N' : News c.h₀ c.ev.locals h (co ++ l.flatten) := by rw [hl]; exact N
  refine iter_strJ (s := c.sh h tk) (JOf c m0 cv0 J) c.hn F' N' ⟨co, l, rfl, hi, a, h0⟩ ?_ ?_
  · rintro i ch t I it mm ns h tk hv ⟨co, l, rfl, hi, ap, hJ⟩ off F N
    rw [hl] at F N ⊢
    exact turn_ok hf hx (fun _ _ _ _ _ _ h1 h2 h3 => ⟨_, _, rfl, hf.less h3.1.get h3.2.1.get h1, h2, h3.2.2⟩) hi ap off F N (turn i ch t l tk (Ct.hide c (I, it)) (hf.hide _) rfl rfl hv hJ)
  · rintro mm ns h tk ⟨co, l, rfl, hi, ap, hJ⟩ F N
    rw [hl] at F N
    exact Out.mk ⟨mm, co, F, hi, N, ap⟩ (done l tk hJ)
/-- a range that was just made -/
noncomputable def rng (r : Addr) (a b : Int) (t u v : Tok) : Ld := one r { cls := .type "range", data := .fields #[.int a t, .int b u, .int 1 v] }
theorem w_overR (hf : FnFrame c) {x : Str} {body : List Stmt} {K : Flow → KU} (hx : S.names.lookup x = some .local) {ra : Addr} {b : Int} {t₁ u₁ v₁ : Tok} (n : Nat) (m0 cv0 : Lo) (j : Nat) (hj : atB l j = rng ra 0 b t₁ u₁ v₁) (hb : b = (n : Int)) (hn : n ≤ 1000) (J : Nat → Lb → Prop) (hm : LoSub m0 m) (hv : LoSub cv0 cv) (h0 : J 0 l)
    (turn : ∀ i t l tk (c2 : Ct w S r u), FnFrame c2 → c2.base = c.base → c2.ev = c.ev → i < n → J i l → WE c2 (execs body c2.ev) (TurnJ K m0 cv0 (J (i + 1))) (setL x (.int (0 + (i : Int)) t) m0) cv0 l tk)
    (done : ∀ l tk, J n l → K .next m0 cv0 l tk) : ForK c x body K (.ref ra) m cv l tk := .mk fun h hh => by
  have hh := Holds.less hf hm hv hh
  obtain ⟨mm, co, F, hi, N, a⟩ := hh
  have hl := hf.locals
  have F' : Fr c.h₀ c.ev.locals h mm := by rw [hl]; exact F
  have N' : News c.h₀ c.ev.locals h (co ++ l.flatten) := by rw [hl]; exact N
  have hr : IsRange h ra 0 b 1 t₁ u₁ v₁ := N.get (List.mem_append_right _ (mem_block (atB_get hj) List.mem_cons_self))
  refine iter_rangeJ (s := c.sh h tk) (JOf c m0 cv0 J) c.hn hr (by rw [hb]; exact small_nat hn) (by rw [hb]; exact size_nat n) F' N' ⟨co, l, rfl, hi, a, h0⟩ ?_ ?_
  · rintro i t I it mm ns h tk hi' ⟨co, l, rfl, hi, ap, hJ⟩ off F N
    rw [hl] at F N ⊢
    exact turn_ok hf hx (fun _ _ _ _ _ _ h1 h2 h3 => ⟨_, _, rfl, hf.less h3.1.get h3.2.1.get h1, h2, h3.2.2⟩) hi ap off F N (turn i t l tk (Ct.hide c (I, it)) (hf.hide _) rfl rfl hi' hJ)
  · rintro mm ns h tk ⟨co, l, rfl, hi, ap, hJ⟩ F N
    rw [hl] at F N
    exact Out.mk ⟨mm, co, F, hi, N, ap⟩ (done l tk hJ)
theorem w_range {b : Int} {t : Tok} {K : KV} (k : ∀ r t₁ u₁ v₁ tk', K (.ref r) m cv (rng r 0 b t₁ u₁ v₁ :: l) tk') : WE c (call (.type "range") [.int b t]) K m cv l tk := .mk fun h hh => by
  have hh' := hh
  obtain ⟨mm, co, F, hi, N, ap⟩ := hh'
  exact range1_rows (s := c.sh h tk) F N fun h' tk' t₁ u₁ v₁ hr _ _ hk => Out.mk (Holds.kept hh (Nat.le_refl _) hr hk) (k _ t₁ u₁ v₁ tk')
/-! while -/
@[irreducible] noncomputable def WhK (c : Ct w S r u) (test : Expr) (body : List Stmt) (K : Flow → KU) : KU := fun m cv l tk => ∀ h, Holds c m cv l h → ∀ k, WhlRest Pr w.w c.A c.E c.ev test body [] (Out c K) k (c.sh h tk)
theorem WhK.mk {test : Expr} {body : List Stmt} {K : Flow → KU} (H : ∀ h, Holds c m cv l h → ∀ k, WhlRest Pr w.w c.A c.E c.ev test body [] (Out c K) k (c.sh h tk)) : WhK c test body K m cv l tk := by delta WhK; exact H
theorem WhK.run {test : Expr} {body : List Stmt} {K : Flow → KU} (H : WhK c test body K m cv l tk) (hh : Holds c m cv l h) (k : Nat) : WhlRest Pr w.w c.A c.E c.ev test body [] (Out c K) k (c.sh h tk) := by delta WhK at H; exact H h hh k
theorem w_while {test : Expr} {body : List Stmt} {pos : Pos} {K : Flow → KU} (k : WhK c test body K m cv l tk) : WE c (exec (.While test body [] pos) c.ev) K m cv l tk := .mk fun h hh => whl_start 0 (k.run hh 0)
theorem w_turn (hf : FnFrame c) {test : Expr} {body : List Stmt} {K : Flow → KU}
    (k : WE c (PySem.isTrue test c.ev (eval test c.ev)) (fun b => BK b (WE c (execs body c.ev) fun f => match f with | .brk => K .next | .ret v => K (.ret v) | _ => WhK c test body K) (K .next)) m cv l tk) : WhK c test body K m cv l tk := .mk fun h hh k0 => by
  refine whl_turn (k := k0) hf.po (k.go hh fun b _ _ _ _ _ hh k => ?_)
  have k := BK_go k
  cases b
  · refine WhlIf.no rfl (wpAny_execs_nil (Out.mk hh k))
  · refine WhlIf.yes rfl ((WE.go k hh fun f _ _ _ _ _ hh k => ?_))
    cases f with
    | next => exact k.run hh 0
    | cont => exact k.run hh 0
    | brk => exact Out.mk hh k
    | ret v => exact Out.mk hh k
end
end
section
open PySem PySem.W PyProof.Rows PySem.Spec PySem.Calls PyProof.V
open V
set_option maxRecDepth 4000
section
variable {w : WG} {S : Scope} {r u : Nat} {c : Ct w S r u} {m cv : Lo} {l : Lb} {tk : Nat} {h : Heap}
theorem w_ord {ch : Nat} {t : Tok} {K : KV} (k : K (.int (ch : Nat) tk) m cv l (tk + 1)) : WE c (call (.builtin "ord") [.str ⟨#[ch]⟩ t]) K m cv l tk := .mk fun _ hh => PySem.P.ord_of_char (Out.mk hh k)
theorem w_chr {i : Int} {t : Tok} {K : KV} (h0 : 0 ≤ i) (h1 : i ≤ 1114111) (k : K (.str ⟨#[i.toNat]⟩ tk) m cv l (tk + 1)) : WE c (call (.builtin "chr") [.int i t]) K m cv l tk := .mk fun _ hh => chr_of_range h0 h1 (Out.mk hh k)
theorem w_mjoin {x : Str} {t : Tok} {K : Value × List Value → KU} (k : K (.builtin "str.join", [.str x t]) m cv l tk) : WM c (.str x t) (Str.ofString "join") K m cv l tk := .mk fun _ => .mk fun _ hh => GM.join (Out.mk hh k)
theorem w_join {D : Addr} {its : List Value} {n : Nat} {x : Str} {t : Tok} {K : KV} (i : Nat) (hi : atB l i = lst D its n) (hS : StrsAre its (lows x)) (hx : x.length ≤ 100) (k : ∀ t' tk', K (.str (lowT x) t') m cv l tk') : WE c (call (.builtin "str.join") [.str (Str.ofString "") t, .ref D]) K m cv l tk :=
  .mk fun _ hh => by
    obtain ⟨mm, ns, F, N, hs⟩ := hh.at
    exact r_joinL N (hs i _ (atB_get hi) _ List.mem_cons_self) hS hx fun t' tk' => Out.mk hh (k t' tk')
end
theorem up_is (ch : Nat) : (if (!decide ([ch] < (Str.ofString "A").cps.toList)) = true then !decide ((Str.ofString "Z").cps.toList < [ch]) else !decide ([ch] < (Str.ofString "A").cps.toList)) = decide (65 ≤ ch ∧ ch ≤ 90) := by
  simp only [upA, upZ]
  by_cases h1 : ch < 65 <;> by_cases h2 : 90 < ch <;> simp [h1, h2] <;> omega
set_option maxRecDepth 100000 in
theorem v_upper (w : WG) (ch : Nat) (t : Tok) : FnOk w 28 [.str ⟨#[ch]⟩ t] (fun v => v = .bool (decide (65 ≤ ch ∧ ch ≤ 90))) := by
  refine' CallOk.ofF (binds := [(Str.ofString "c", .str ⟨#[ch]⟩ t)]) w.ok.f28 ?k1 ?k3 ?k4 ?k5 ?k6 ?k7 ?k8 ?k9 ?_
  case k1 => exact rfl
  case k3 => exact fun s _ _ _ _ _ _ _ _ _ _ X => BindsTo.of_eq rfl
  case k4 => exact rfl
  case k5 => exact rfl
  case k6 => exact rfl
  case k7 => exact rfl
  case k8 => exact rfl
  case k9 => exact rfl
  intro c hf _ R tk
  refine (vcs_ok c hf [] 60).S ?_
  have e := up_is ch
  refine BR.mk (fun hb => ?_) fun hb => ?_
  · show Ends _ _ _ _ _ _ _
    exact Ends.mk (post := []) [] 0 rfl rfl ⟨congrArg Value.bool (by rw [if_pos hb] at e; exact e), rfl⟩
  · show Ends _ _ _ _ _ _ _
    exact Ends.mk (post := []) [] 0 rfl rfl ⟨congrArg Value.bool (by rw [if_neg (by rw [hb]; exact Bool.false_ne_true)] at e; exact e), rfl⟩
set_option maxRecDepth 100000 in
theorem v_lower (w : WG) (ch : Nat) (t : Tok) : CallOk w 2 6 (fun _ => True) 35 [.str ⟨#[ch]⟩ t] [] (fun v post => (∃ u, v = .str (low1 ch) u) ∧ post = []) := by
  refine' CallOk.ofF (binds := [(Str.ofString "c", .str ⟨#[ch]⟩ t)]) w.ok.f35 ?k1 ?k3 ?k4 ?k5 ?k6 ?k7 ?k8 ?k9 ?_
  case k1 => exact rfl
  case k3 => exact fun s _ _ _ _ _ _ _ _ _ _ X => BindsTo.of_eq rfl
  case k4 => exact rfl
  case k5 => exact rfl
  case k6 => exact rfl
  case k7 => exact rfl
  case k8 => exact rfl
  case k9 => exact rfl
  intro c hf _ R tk
  refine (vcs_ok c hf [] 60).S ?_
  show WE _ _ _ _ _ _ _
  refine w_callF (v_upper w ch t) R rfl rfl trivial [] 0 rfl rfl ?_
  rintro _ _ tk2 ⟨rfl, rfl⟩
  refine BR.mk (fun hb => ?_) fun hb => ?_
  · show WE _ _ _ _ _ _ _
    refine w_ord ?_
    show WE _ _ _ _ _ _ _
    have hb := of_decide_eq_true hb
    refine w_chr (by omega) (by omega) ?_
    show Ends _ _ _ _ _ _ _
    exact Ends.mk (post := []) [] 0 rfl rfl ⟨⟨_, low_hi hb⟩, rfl⟩
  · show Ends _ _ _ _ _ _ _
    exact Ends.mk (post := []) [] 0 rfl rfl ⟨⟨_, low_lo (of_decide_eq_false hb)⟩, rfl⟩
set_option maxRecDepth 100000 in
theorem v_lowers (w : WG) (x : Str) (t : Tok) (hx : x.length ≤ 100) : CallOk w 3 9 (fun _ => True) 42 [.str x t] [] (fun v post => (∃ u, v = .str (lowT x) u) ∧ post = []) := by
  refine' CallOk.ofF (binds := [(Str.ofString "text", .str x t)]) w.ok.f42 ?k1 ?k3 ?k4 ?k5 ?k6 ?k7 ?k8 ?k9 ?_
  case k1 => exact rfl
  case k3 => exact fun s _ _ _ _ _ _ _ _ _ _ X => BindsTo.of_eq rfl
  case k4 => exact rfl
  case k5 => exact rfl
  case k6 => exact rfl
  case k7 => exact rfl
  case k8 => exact rfl
  case k9 => exact rfl
  intro c hf _ R tk
  refine (vcs_ok c hf [] 60).S ?_
  intro D
  show WE _ _ _ _ _ _ _
  refine w_for hf rfl (fun _ => rfl) ((vce_ok c [] 10).E ?_)
  show ForK _ _ _ _ _ _ _ _ _
  refine w_overS hf rfl [(Str.ofString "out", .ref D)] [] (fun i l => ∃ vs k, l = lst D vs k :: R ∧ StrsAre vs ((x.cps.toList.take i).map low1)) ⟨rfl, trivial⟩ trivial ⟨[], 0, rfl, .nil⟩ ?_ ?_
  · rintro i ch t _ tk c2 hf2 _ _ hc ⟨vs, k, rfl, hS⟩
    have hi : i < x.cps.size := (Array.getElem?_eq_some_iff.mp hc).1
    have hv := strs_len hS
    simp only [List.length_map, List.length_take, Array.length_toList] at hv
    have hx' : x.cps.size ≤ 100 := hx
    refine (vcs_ok c2 hf2 [] 40).S ?_
    show WM _ _ _ _ _ _ _ _
    refine w_mapp 0 rfl ?_
    show WE _ _ _ _ _ _ _
    refine w_callF (v_lower w ch t) (lst D vs k :: R) rfl rfl trivial [0] 1 rfl rfl ?_
    rintro _ _ tk2 ⟨⟨u, rfl⟩, rfl⟩
    show WE _ _ _ _ _ _ _
    refine w_app 0 rfl (by omega) ?_
    refine ⟨⟨rfl, trivial⟩, trivial, _, _, rfl, ?_⟩
    have e3 : x.cps.toList.take (i + 1) = x.cps.toList.take i ++ [ch] := by
      rw [List.take_add_one, Array.getElem?_toList, hc]; rfl
    rw [e3, List.map_append]
    exact strs_snoc hS
  · rintro _ tk ⟨vs, k, rfl, hS⟩
    rw [← Array.length_toList, List.take_length] at hS
    show WM _ _ _ _ _ _ _ _
    refine w_mjoin ?_
    show WE _ _ _ _ _ _ _
    refine w_join 0 rfl hS hx fun t' tk' => ?_
    show Ends _ _ _ _ _ _ _
    exact Ends.mk (post := []) [] 1 rfl rfl ⟨⟨_, rfl⟩, rfl⟩
end
section
open PySem PySem.W PyProof.Rows PySem.Spec PySem.Calls PyProof.V
open V
set_option maxRecDepth 4000
section
variable {w : WG} {S : Scope} {r u : Nat} {c : Ct w S r u} {m cv : Lo} {l : Lb} {tk : Nat} {h : Heap}
/-- a text of a list of texts -/
theorem w_itemS {D : Addr} {its : List Value} {n : Nat} {ss : List Str} {K : KV} {value slice : Expr} {k : Int} {t : Tok} (i : Nat) (hi : atB l i = lst D its n) (hs : notSlice slice = true) (S : StrsAre its ss) (h0 : 0 ≤ k) (h1 : k < (ss.length : Int)) (hz : ss.length ≤ 1000) (kk : ∀ t, K (.str (ss.getD k.toNat Str.empty) t) m cv l tk) :
    WE c (subscriptTail value slice (.ref D) (.int k t)) K m cv l tk := by
  obtain ⟨t', ht⟩ := strs_at S k.toNat (by omega)
  exact w_item i hi hs (by rw [strs_len S]; exact hz) h0 ht (kk t')
theorem w_itemTup {D : Addr} {its : List Value} {K : KV} {value slice : Expr} {k : Int} {t : Tok} {x : Value} {j : Nat} (i : Nat) (hi : atB l i = tup D its) (hs : notSlice slice = true) (hj : seqIndex? k its.length = some j) (hx : its[j]? = some x) (h0 : -2 ^ 63 ≤ k) (h1 : k < 2 ^ 63) (kk : K x m cv l tk) :
    WE c (subscriptTail value slice (.ref D) (.int k t)) K m cv l tk :=
  .mk fun _ hh => item_tupleT (hh.tup i hi) h0 h1 hj hx (Out.mk hh kk) (sub_not hs _ _)
end
noncomputable def cMP : List String := ["mi", "mo", "mn", "ms", "mtext"]
noncomputable abbrev gS (l : List Str) (i : Int) : Str := l.getD i.toNat Str.empty
/-- a read-only call about a tree -/
noncomputable abbrev TrOk (w : WG) (r u : Nat) (f : Addr) (args : List Value) (pre : Lb) (P : Value → Prop) : Prop := CallOk w r u (fun _ => True) f args pre (fun v post => P v ∧ post = pre)
theorem and_t {a b : Bool} (h : a = true) : Value.bool b = .bool (a && b) := by rw [h]; rfl
theorem and_f {a b : Bool} (h : a = false) : Value.bool a = .bool (a && b) := by rw [h]; rfl
set_option maxRecDepth 100000 in
theorem v_math (w : WG) (A : TA) (T : Ld) (sp nm : List Str) (at' ch : List Value) (k : Nat) (hT : TreeAt w A sp nm at' ch k T) (i : Int) (ti : Tok) (h0 : 0 ≤ i) (h1 : i < (sp.length : Int)) (hl : sp.length ≤ 900) :
    TrOk w 1 3 91 [.ref A.t, .int i ti] [T] (fun v => v = .bool ((gS sp i == Str.ofString "math") && has cMP (gS nm i))) := by
  obtain ⟨O, rfl, hO⟩ := hT
  have l3 := hO.l3
  refine' CallOk.ofF (binds := [(Str.ofString "tree", .ref A.t), (Str.ofString "node", .int i ti)]) w.ok.f91 ?k1 ?k3 ?k4 ?k5 ?k6 ?k7 ?k8 ?k9 ?_
  case k1 => exact rfl
  case k3 => exact fun s _ _ _ _ _ _ _ _ _ _ X => BindsTo.of_eq rfl
  case k4 => exact rfl
  case k5 => exact rfl
  case k6 => exact rfl
  case k7 => exact rfl
  case k8 => exact rfl
  case k9 => exact rfl
  intro c hf _ R tk
  refine WE.cut (l' := TL A O ++ R) rfl ?_
  refine (vcs_ok c hf [] 60).S ?_
  show WE _ _ _ _ _ _ _
  refine w_get 0 rfl rfl hO.e.e2 rfl ?_
  show WE _ _ _ _ _ _ _
  refine w_itemS 2 rfl rfl hO.s2 h0 h1 (by omega) fun t1 => ?_
  refine BR.mk (fun hb => ?_) fun hb => ?_
  · show WE _ _ _ _ _ _ _
    refine w_get 0 rfl rfl hO.e.e3 rfl ?_
    show WE _ _ _ _ _ _ _
    refine w_itemS 3 rfl rfl hO.s3 h0 (by omega) (by omega) fun t2 => ?_
    show WE _ _ _ _ _ _ _
    refine w_tupS rfl rfl fun D its tk' hS => ?_
    show WE _ _ _ _ _ _ _
    refine w_inT 0 rfl hS ?_
    show Ends _ _ _ _ _ _ _
    exact Ends.mk (post := [_]) [1, 2, 3, 4, 5, 6, 7, 8, 9] 10 rfl rfl ⟨and_t hb, rfl⟩
  · show Ends _ _ _ _ _ _ _
    exact Ends.mk (post := [_]) [0, 1, 2, 3, 4, 5, 6, 7, 8] 9 rfl rfl ⟨and_f hb, rfl⟩
set_option maxRecDepth 100000 in
theorem v_ishtml (w : WG) (A : TA) (T : Ld) (sp nm : List Str) (at' ch : List Value) (k : Nat) (hT : TreeAt w A sp nm at' ch k T) (i : Int) (ti : Tok) (h0 : 0 ≤ i) (h1 : i < (sp.length : Int)) (hl : sp.length ≤ 900) (x : Str) (tx : Tok) :
    TrOk w 1 3 443 [.ref A.t, .int i ti, .str x tx] [T] (fun v => v = .bool ((gS sp i == Str.ofString "html") && (gS nm i == x))) := by
  obtain ⟨O, rfl, hO⟩ := hT
  have l3 := hO.l3
  refine' CallOk.ofF (binds := [(Str.ofString "self", .ref A.t), (Str.ofString "node", .int i ti), (Str.ofString "name", .str x tx)]) w.ok.f443 ?k1 ?k3 ?k4 ?k5 ?k6 ?k7 ?k8 ?k9 ?_
  case k1 => exact rfl
  case k3 => exact fun s _ _ _ _ _ _ _ _ _ _ X => BindsTo.of_eq rfl
  case k4 => exact rfl
  case k5 => exact rfl
  case k6 => exact rfl
  case k7 => exact rfl
  case k8 => exact rfl
  case k9 => exact rfl
  intro c hf _ R tk
  refine WE.cut (l' := TL A O ++ R) rfl ?_
  refine (vcs_ok c hf [] 60).S ?_
  refine BR.t (by rw [bne_iff_ne]; omega) ?_
  show WE _ _ _ _ _ _ _
  refine w_get 0 rfl rfl hO.e.e2 rfl ?_
  show WE _ _ _ _ _ _ _
  refine w_itemS 2 rfl rfl hO.s2 h0 h1 (by omega) fun t1 => ?_
  refine BR.mk (fun hb => ?_) fun hb => ?_
  · show WE _ _ _ _ _ _ _
    refine w_get 0 rfl rfl hO.e.e3 rfl ?_
    show WE _ _ _ _ _ _ _
    refine w_itemS 3 rfl rfl hO.s3 h0 (by omega) (by omega) fun t2 => ?_
    show Ends _ _ _ _ _ _ _
    exact Ends.mk (post := [_]) [0, 1, 2, 3, 4, 5, 6, 7, 8] 9 rfl rfl ⟨and_t hb, rfl⟩
  · show Ends _ _ _ _ _ _ _
    exact Ends.mk (post := [_]) [0, 1, 2, 3, 4, 5, 6, 7, 8] 9 rfl rfl ⟨and_f hb, rfl⟩
/-- the attributes of a node: none, or the law's two pairs -/
inductive AtB : List Value → Lb → Option (Str × Str) → Prop
  | none : AtB [] [] none
  | two {p1 p2 : Addr} {k v : Str} {t1 t2 t3 t4 : Tok} : AtB [.ref p1, .ref p2] [tup p1 [.str (Str.ofString "id") t1, .str (Str.ofString "text/html") t2], tup p2 [.str k t3, .str v t4]] (some (k, v))
noncomputable def encOf : Option (Str × Str) → Option Str
  | none => none
  | some (k, v) => if k == Str.ofString "encoding" then some v else none
noncomputable def ValIs (o : Option Str) (v : Value) : Prop := match o with
  | none => v = .none
  | some x => ∃ t, v = .str x t
theorem val_yes {k v : Str} {t : Tok} (h : (k == Str.ofString "encoding") = true) : ValIs (encOf (some (k, v))) (.str v t) := by
  unfold encOf; dsimp only; rw [if_pos h]; exact ⟨t, rfl⟩
theorem val_no {k v : Str} (h : (k == Str.ofString "encoding") = false) : ValIs (encOf (some (k, v))) .none := by
  unfold encOf; dsimp only; rw [if_neg (by rw [h]; decide)]; rfl
set_option maxRecDepth 100000 in
theorem v_value (w : WG) (A : TA) (T : Ld) (sp nm : List Str) (at' ch : List Value) (k : Nat) (hT : TreeAt w A sp nm at' ch k T) (i : Int) (ti : Tok) (h0 : 0 ≤ i) (h1 : i < (sp.length : Int)) (hl : sp.length ≤ 900) (tx : Tok) (D : Addr) (its : List Value) (cD : Nat) (bs : Lb) (o : Option (Str × Str)) (hD : at'[i.toNat]? = some (.ref D)) (hA : AtB its bs o) :
    TrOk w 1 3 436 [.ref A.t, .int i ti, .str (Str.ofString "encoding") tx] (T :: lst D its cD :: bs) (ValIs (encOf o)) := by
  obtain ⟨O, rfl, hO⟩ := hT
  have l3 := hO.l3
  rw [← hO.s4] at hD
  have l4 := hO.lens.2.2.1
  refine' CallOk.ofF (binds := [(Str.ofString "self", .ref A.t), (Str.ofString "node", .int i ti), (Str.ofString "name", .str (Str.ofString "encoding") tx)]) w.ok.f436 ?k1 ?k3 ?k4 ?k5 ?k6 ?k7 ?k8 ?k9 ?_
  case k1 => exact rfl
  case k3 => exact fun s _ _ _ _ _ _ _ _ _ _ X => BindsTo.of_eq rfl
  case k4 => exact rfl
  case k5 => exact rfl
  case k6 => exact rfl
  case k7 => exact rfl
  case k8 => exact rfl
  case k9 => exact rfl
  intro c hf _ R tk
  refine WE.cut (l' := TL A O ++ (lst D its cD :: (bs ++ R))) rfl ?_
  refine (vcs_ok c hf [] 60).S ?_
  show WE _ _ _ _ _ _ _
  refine w_for hf rfl (fun _ => rfl) ((vce_ok c [] 20).E ?_)
  show WE _ _ _ _ _ _ _
  refine w_get 0 rfl rfl hO.e.e4 rfl ?_
  show WE _ _ _ _ _ _ _
  refine w_item 4 rfl rfl (by omega) h0 hD ?_
  show ForK _ _ _ _ _ _ _ _ _
  cases hA with
  | none =>
    refine w_overL hf rfl [] [] 9 rfl (fun _ l => l = TL A O ++ (lst D [] cD :: R)) trivial trivial rfl (fun _ l e => ⟨9, by rw [e]; rfl⟩) (fun j v l tk c2 _ _ _ hv => nomatch hv) ?_
    rintro _ tk rfl
    show Ends _ _ _ _ _ _ _
    exact Ends.mk (post := [_, _]) [0, 1, 2, 3, 4, 5, 6, 7, 8, 9] 10 rfl rfl ⟨rfl, rfl⟩
  | @two p1 p2 kk vv t1 t2 t3 t4 =>
    refine w_overL hf rfl [(Str.ofString "name", .str (Str.ofString "encoding") tx)] [] 9 rfl (fun j l => l = TL A O ++ (lst D [.ref p1, .ref p2] cD :: tup p1 [.str (Str.ofString "id") t1, .str (Str.ofString "text/html") t2] :: tup p2 [.str kk t3, .str vv t4] :: R) ∧ (j = 2 → (kk == Str.ofString "encoding") = false)) ⟨rfl, trivial⟩ trivial ⟨rfl, fun e => by cases e⟩ (fun _ l e => ⟨9, by rw [e.1]; rfl⟩) ?_ ?_
    · rintro j v _ tk c2 hf2 _ _ hv ⟨rfl, _⟩
      refine (vcs_ok c2 hf2 [] 40).S ?_
      match j, hv with
      | 0, hv =>
        cases hv
        show WE _ _ _ _ _ _ _
        refine w_itemTup (j := 0) 10 rfl rfl rfl rfl (by decide) (by decide) ?_
        refine BR.f (by decide +kernel) ?_
        exact ⟨⟨rfl, trivial⟩, trivial, rfl, fun e => by cases e⟩
      | 1, hv =>
        cases hv
        show WE _ _ _ _ _ _ _
        refine w_itemTup (j := 0) 11 rfl rfl rfl rfl (by decide) (by decide) ?_
        refine BR.mk (fun hb => ?_) fun hb => ?_
        · show WE _ _ _ _ _ _ _
          refine w_itemTup (j := 1) 11 rfl rfl rfl rfl (by decide) (by decide) ?_
          show Ends _ _ _ _ _ _ _
          exact Ends.mk (post := [_, _, _, _]) [0, 1, 2, 3, 4, 5, 6, 7, 8, 9, 10, 11] 12 rfl rfl ⟨val_yes hb, rfl⟩
        · exact ⟨⟨rfl, trivial⟩, trivial, rfl, fun _ => hb⟩
      | j + 2, hv => cases hv
    · rintro _ tk ⟨rfl, hk⟩
      show Ends _ _ _ _ _ _ _
      exact Ends.mk (post := [_, _, _, _]) [0, 1, 2, 3, 4, 5, 6, 7, 8, 9, 10, 11] 12 rfl rfl ⟨val_no (hk rfl), rfl⟩
end
section
open PySem PySem.W PyProof.Rows PySem.Spec PySem.Calls PyProof.V
open V
set_option maxRecDepth 4000
noncomputable def cEnc : List String := ["text/html", "application/xhtml+xml"]
noncomputable def encB : Option Str → Bool
  | none => false
  | some x => has cEnc (lowT x)
noncomputable def htmlP (s n : Str) (o : Option (Str × Str)) : Bool := if s == Str.ofString "svg" then has cSvg n else if s != Str.ofString "math" then false else if n != Str.ofString "annotation-xml" then false else encB (encOf o)
theorem html_svg {s n : Str} {o : Option (Str × Str)} (h : (s == Str.ofString "svg") = true) : Value.bool (has cSvg n) = .bool (htmlP s n o) := by unfold htmlP; rw [if_pos h]
theorem html_1 {s n : Str} {o : Option (Str × Str)} (h : (s == Str.ofString "svg") = false) (h2 : (s != Str.ofString "math") = true) : Value.bool false = .bool (htmlP s n o) := by unfold htmlP; rw [if_neg (by rw [h]; decide), if_pos h2]
theorem html_2 {s n : Str} {o : Option (Str × Str)} (h : (s == Str.ofString "svg") = false) (h2 : (s != Str.ofString "math") = false) (h3 : (n != Str.ofString "annotation-xml") = true) : Value.bool false = .bool (htmlP s n o) := by unfold htmlP; rw [if_neg (by rw [h]; decide), if_neg (by rw [h2]; decide), if_pos h3]
theorem html_3 {s n : Str} {o : Option (Str × Str)} (h : (s == Str.ofString "svg") = false) (h2 : (s != Str.ofString "math") = false) (h3 : (n != Str.ofString "annotation-xml") = false) (h4 : encOf o = none) : Value.bool false = .bool (htmlP s n o) := by unfold htmlP; rw [if_neg (by rw [h]; decide), if_neg (by rw [h2]; decide), if_neg (by rw [h3]; decide), h4] <;> rfl
theorem html_4 {s n x : Str} {o : Option (Str × Str)} (h : (s == Str.ofString "svg") = false) (h2 : (s != Str.ofString "math") = false) (h3 : (n != Str.ofString "annotation-xml") = false) (h4 : encOf o = some x) : Value.bool (has cEnc (lowT x)) = .bool (htmlP s n o) := by unfold htmlP; rw [if_neg (by rw [h]; decide), if_neg (by rw [h2]; decide), if_neg (by rw [h3]; decide), h4] <;> rfl
theorem val_cases {o : Option Str} {v : Value} (h : ValIs o v) : (o = none ∧ v = .none) ∨ (∃ x t, o = some x ∧ v = .str x t) := by
  cases o with
  | none => exact .inl ⟨rfl, h⟩
  | some x => obtain ⟨t, rfl⟩ := h; exact .inr ⟨x, t, rfl, rfl⟩
theorem enc_len {k v x : Str} (e : encOf (some (k, v)) = some x) (h : v.length ≤ 100) : x.length ≤ 100 := by
  unfold encOf at e
  dsimp only at e
  split at e
  · cases e; exact h
  · cases e
theorem enc_small {its : List Value} {bs : Lb} {o : Option (Str × Str)} {x : Str} (_ : AtB its bs o) (hv : ∀ q, o = some q → q.2.length ≤ 100) (e : encOf o = some x) : x.length ≤ 100 := by
  cases o with
  | none => cases e
  | some q => exact enc_len e (hv q rfl)
set_option maxRecDepth 100000 in
theorem v_html (w : WG) (A : TA) (T : Ld) (sp nm : List Str) (at' ch : List Value) (k : Nat) (hT : TreeAt w A sp nm at' ch k T) (i : Int) (ti : Tok) (h0 : 0 ≤ i) (h1 : i < (sp.length : Int)) (hl : sp.length ≤ 900) (D : Addr) (its : List Value) (cD : Nat) (bs : Lb) (o : Option (Str × Str)) (hD : at'[i.toNat]? = some (.ref D)) (hA : AtB its bs o) (hv : ∀ q, o = some q → q.2.length ≤ 100) :
    TrOk w 4 12 98 [.ref A.t, .int i ti] (T :: lst D its cD :: bs) (fun v => v = .bool (htmlP (gS sp i) (gS nm i) o)) := by
  obtain ⟨O, rfl, hO⟩ := hT
  have l3 := hO.l3
  refine' CallOk.ofF (binds := [(Str.ofString "tree", .ref A.t), (Str.ofString "node", .int i ti)]) w.ok.f98 ?k1 ?k3 ?k4 ?k5 ?k6 ?k7 ?k8 ?k9 ?_
  case k1 => exact rfl
  case k3 => exact fun s _ _ _ _ _ _ _ _ _ _ X => BindsTo.of_eq rfl
  case k4 => exact rfl
  case k5 => exact rfl
  case k6 => exact rfl
  case k7 => exact rfl
  case k8 => exact rfl
  case k9 => exact rfl
  intro c hf _ R tk
  refine WE.cut (l' := TL A O ++ (lst D its cD :: (bs ++ R))) rfl ?_
  refine (vcs_ok c hf [] 60).S ?_
  show WE _ _ _ _ _ _ _
  refine w_get 0 rfl rfl hO.e.e2 rfl ?_
  show WE _ _ _ _ _ _ _
  refine w_itemS 2 rfl rfl hO.s2 h0 h1 (by omega) fun t1 => ?_
  refine BR.mk (fun hb1 => ?_) fun hb1 => ?_
  · show WE _ _ _ _ _ _ _
    refine w_get 0 rfl rfl hO.e.e3 rfl ?_
    show WE _ _ _ _ _ _ _
    refine w_itemS 3 rfl rfl hO.s3 h0 (by omega) (by omega) fun t2 => ?_
    show WE _ _ _ _ _ _ _
    refine w_tupS rfl rfl fun D' its' tk' hS => ?_
    show WE _ _ _ _ _ _ _
    refine w_inT 0 rfl hS ?_
    show Ends _ _ _ _ _ _ _
    exact Ends.mk (post := _ :: lst D its cD :: bs) [1, 2, 3, 4, 5, 6, 7, 8, 9, 10] 11 rfl rfl ⟨html_svg hb1, rfl⟩
  show WE _ _ _ _ _ _ _
  refine w_get 0 rfl rfl hO.e.e2 rfl ?_
  show WE _ _ _ _ _ _ _
  refine w_itemS 2 rfl rfl hO.s2 h0 h1 (by omega) fun t2 => ?_
  refine BR.mk (fun hb2 => BR.t rfl ?_) fun hb2 => ?_
  · show Ends _ _ _ _ _ _ _
    exact Ends.mk (post := _ :: lst D its cD :: bs) [0, 1, 2, 3, 4, 5, 6, 7, 8, 9] 10 rfl rfl ⟨html_1 hb1 hb2, rfl⟩
  show WE _ _ _ _ _ _ _
  refine w_get 0 rfl rfl hO.e.e3 rfl ?_
  show WE _ _ _ _ _ _ _
  refine w_itemS 3 rfl rfl hO.s3 h0 (by omega) (by omega) fun t3 => ?_
  refine BR.mk (fun hb3 => BR.t rfl ?_) fun hb3 => BR.f rfl ?_
  · show Ends _ _ _ _ _ _ _
    exact Ends.mk (post := _ :: lst D its cD :: bs) [0, 1, 2, 3, 4, 5, 6, 7, 8, 9] 10 rfl rfl ⟨html_2 hb1 hb2 hb3, rfl⟩
  show WM _ _ _ _ _ _ _ _
  refine w_meth 0 rfl rfl hO.e.m3 ?_
  show WE _ _ _ _ _ _ _
  refine w_callF (v_value w A _ sp nm at' ch k ⟨O, rfl, hO⟩ i ti h0 h1 hl _ D its cD bs o hD hA) R rfl rfl trivial [0, 1, 2, 3, 4, 5, 6, 7, 8, 9] 10 rfl rfl ?_
  rintro v _ tk4 ⟨hval, rfl⟩
  rcases val_cases hval with ⟨he, rfl⟩ | ⟨x, tx, he, rfl⟩
  · refine BR.f rfl ?_
    show Ends _ _ _ _ _ _ _
    exact Ends.mk (post := _ :: lst D its cD :: bs) [0, 1] 2 rfl rfl ⟨html_3 hb1 hb2 hb3 he, rfl⟩
  · refine BR.t rfl ?_
    show WE _ _ _ _ _ _ _
    refine w_callF (v_lowers w x tx (enc_small hA hv he)) (_ :: lst D its cD :: (bs ++ R)) rfl rfl trivial [0, 1] 2 rfl rfl ?_
    rintro _ _ tk5 ⟨⟨u5, rfl⟩, rfl⟩
    intro D'
    show WE _ _ _ _ _ _ _
    refine w_inT 0 rfl (.cons _ _ (.cons _ _ .nil)) ?_
    show Ends _ _ _ _ _ _ _
    exact Ends.mk (post := _ :: lst D its cD :: bs) [1, 2] 3 rfl rfl ⟨html_4 hb1 hb2 hb3 he, rfl⟩
end
section
open PySem PySem.W PyProof.Rows PySem.Spec PySem.Calls PyProof.V
open V
set_option maxRecDepth 4000
section
variable {w : WG} {S : Scope} {r u : Nat} {c : Ct w S r u} {m cv : Lo} {l : Lb} {tk : Nat} {h : Heap}
theorem WhK.less (hf : FnFrame c) {test : Expr} {body : List Stmt} {K : Flow → KU} {m' cv' : Lo} (h1 : LoSub m' m) (h2 : LoSub cv' cv) (k : WhK c test body K m' cv' l tk) : WhK c test body K m cv l tk := .mk fun h hh => k.run (Holds.less hf h1 h2 hh)
theorem WhK.cut {test : Expr} {body : List Stmt} {K : Flow → KU} {l' : Lb} (e : l.flatten = l'.flatten) (k : WhK c test body K m cv l' tk) : WhK c test body K m cv l tk := .mk fun h hh => k.run (hh.sub (fun _ hp => e ▸ hp) (e ▸ hh.apart))
theorem ints_get : ∀ {vs : List Value} {ns : List Int}, IntsAre vs ns → ∀ (i : Nat) (x : Int), ns[i]? = some x → ∃ t, vs[i]? = some (.int x t)
  | _, _, .nil, _, _, h => by simp at h
  | _, _, .cons z t _, 0, x, h => ⟨t, by simp at h ⊢; exact h⟩
  | _, _, .cons _ _ r, i + 1, x, h => by
    obtain ⟨t, e⟩ := ints_get r i x (by simpa using h)
    exact ⟨t, by simpa using e⟩
end
noncomputable def wd (sp nm : List Str) (i : Int) : Str × Str := (sp.getD i.toNat Str.empty, nm.getD i.toNat Str.empty)
noncomputable def isW (p : Str × Str) (x : Str) : Bool := p.1 == Str.ofString "html" && p.2 == x
noncomputable def selM : List (Str × Str) → Str
  | [] => Str.ofString "in select"
  | p :: r => if isW p (Str.ofString "template") then Str.ofString "in select" else if isW p (Str.ofString "table") then Str.ofString "in select in table" else selM r
theorem sel_t {p : Str × Str} {r : List (Str × Str)} (h : isW p (Str.ofString "template") = true) : selM (p :: r) = Str.ofString "in select" := by unfold selM; rw [if_pos h]
theorem sel_b {p : Str × Str} {r : List (Str × Str)} (h : isW p (Str.ofString "template") = false) (h2 : isW p (Str.ofString "table") = true) : selM (p :: r) = Str.ofString "in select in table" := by unfold selM; rw [if_neg (by rw [h]; decide), if_pos h2]
theorem sel_n {p : Str × Str} {r : List (Str × Str)} (h : isW p (Str.ofString "template") = false) (h2 : isW p (Str.ofString "table") = false) : selM (p :: r) = selM r := by rw [show selM (p :: r) = (if isW p (Str.ofString "template") then Str.ofString "in select" else if isW p (Str.ofString "table") then Str.ofString "in select in table" else selM r) from rfl, if_neg (by rw [h]; decide), if_neg (by rw [h2]; decide)]
theorem str_of {x y : Str} {t : Tok} (h : y = x) : ∃ u, Value.str x t = .str y u := ⟨t, by rw [h]⟩
theorem BuildE.put {es : List DictEntry} {t st er : Addr} (H : BuildE es t st er) {name : Str} {hs : Int} {tk : Tok} {v x : Value} (hx : getL name es = some (some x)) (h1 : name ≠ Str.ofString "tree") (h2 : name ≠ Str.ofString "stack") (h3 : name ≠ Str.ofString "errors") (h4 : name ≠ Str.ofString "to") : BuildE (putL name hs (.str name tk) v es) t st er := by
  obtain ⟨d, a1, a2, a3, a4, ⟨x1, a5⟩, ⟨x2, a6⟩, ⟨x3, a7⟩, ⟨x4, a8⟩⟩ := H
  have g : ∀ {a : Str} {y : Value}, getL a es = some (some y) → ∃ y, getL a (putL name hs (.str name tk) v es) = some (some y) := fun {a y} e => by
    by_cases q : name = a
    · subst q; exact ⟨v, get_put d⟩
    · exact ⟨y, get_put_ne d q e⟩
  exact ⟨DOk.re d hx, get_put_ne d h1 a1, get_put_ne d h2 a2, get_put_ne d h3 a3, get_put_ne d h4 a4, g a5, g a6, g a7, g a8⟩
set_option genInjectivity false in
set_option genSizeOf false in
/-- a builder that stands to be reset -/
structure BP where
  (b bd st sd si md er : Addr)
  (es ses : List DictEntry)
  (n sn ks km : Nat)
  its : List Value
  ids : List Int
  (tm tn th tc : Tok)
  top : Str
  (hv cv : Int)
noncomputable abbrev BB (P : BP) : Lb := [ins P.b 524 P.bd P.es P.n, ins P.st 329 P.sd P.ses P.sn, lst P.si P.its P.ks, lst P.md [.str (Str.ofString "in table") P.tm, .str P.top P.tn] P.km]
structure BOk (A : TA) (sp : List Str) (P : BP) : Prop where
  e : BuildE P.es A.t P.st P.er
  s : StackE P.ses
  i : at_ "items" P.ses P.si
  m : at_ "modes" P.es P.md
  h : getL (Str.ofString "head") P.es = some (some (.int P.hv P.th))
  c : getL (Str.ofString "context") P.es = some (some (.int P.cv P.tc))
  v : IntsAre P.its P.ids
  r : ∀ i ∈ P.ids, 0 ≤ i ∧ i < (sp.length : Int)
  z : P.ids.length ≤ 100
noncomputable abbrev words (sp nm : List Str) (P : BP) : List (Str × Str) := P.ids.map (wd sp nm)
theorem words_take {sp nm : List Str} {P : BP} {j : Nat} {i : Int} (h : P.ids[j]? = some i) : ((words sp nm P).take (j + 1)).reverse = wd sp nm i :: ((words sp nm P).take j).reverse := by
  rw [List.take_add_one, List.getElem?_map, h]
  simp
set_option maxRecDepth 100000 in
theorem v_many (w : WG) (st sd si : Addr) (ses : List DictEntry) (sn ks : Nat) (its : List Value) (hi : at_ "items" ses si) (hz : its.length ≤ 900) : TrOk w 1 3 270 [.ref st] [ins st 329 sd ses sn, lst si its ks] (fun v => ∃ t, v = .int (its.length : Nat) t) := by
  refine' CallOk.ofF (binds := [(Str.ofString "self", .ref st)]) w.ok.f270 ?k1 ?k3 ?k4 ?k5 ?k6 ?k7 ?k8 ?k9 ?_
  case k1 => exact rfl
  case k3 => exact fun s _ _ _ _ _ _ _ _ _ _ X => BindsTo.of_eq rfl
  case k4 => exact rfl
  case k5 => exact rfl
  case k6 => exact rfl
  case k7 => exact rfl
  case k8 => exact rfl
  case k9 => exact rfl
  intro c hf _ R tk
  refine (vcs_ok c hf [] 60).S ?_
  show WE _ _ _ _ _ _ _
  refine w_get 0 rfl rfl hi rfl ?_
  show WE _ _ _ _ _ _ _
  refine w_len 1 rfl (by omega) ?_
  show Ends _ _ _ _ _ _ _
  exact Ends.mk (post := [_, _]) [0, 1] 2 rfl rfl ⟨⟨_, rfl⟩, rfl⟩
set_option maxRecDepth 100000 in
theorem v_to (w : WG) (b bd : Addr) (es : List DictEntry) (n : Nat) (t st er : Addr) (hB : BuildE es t st er) (x : Value) : CallOk w 1 3 (fun _ => True) 486 [.ref b, x] [ins b 524 bd es n] (fun v post => v = .none ∧ ∃ tk n', post = [ins b 524 bd (putE w (Str.ofString "mode") tk x es) n']) := by
  refine' CallOk.ofF (binds := [(Str.ofString "self", .ref b), (Str.ofString "mode", x)]) w.ok.f486 ?k1 ?k3 ?k4 ?k5 ?k6 ?k7 ?k8 ?k9 ?_
  case k1 => exact rfl
  case k3 => exact fun s _ _ _ _ _ _ _ _ _ _ X => BindsTo.of_eq rfl
  case k4 => exact rfl
  case k5 => exact rfl
  case k6 => exact rfl
  case k7 => exact rfl
  case k8 => exact rfl
  case k9 => exact rfl
  intro c hf _ R tk
  refine (vcs_ok c hf [] 60).S ?_
  show WE _ _ _ _ _ _ _
  refine w_set 0 rfl rfl hB.d rfl ?_
  show Ends _ _ _ _ _ _ _
  exact Ends.mk (post := [_]) [0] 1 rfl rfl ⟨rfl, _, _, rfl⟩
set_option maxRecDepth 100000 in
theorem v_select (w : WG) (A : TA) (T : Ld) (sp nm : List Str) (at' ch : List Value) (k : Nat) (hT : TreeAt w A sp nm at' ch k T) (hl : sp.length ≤ 900) (P : BP) (hP : BOk A sp P) (j : Nat) (hj : j ≤ P.ids.length) (tj : Tok) :
    TrOk w 2 6 542 [.ref P.b, .int (j : Nat) tj] (BB P ++ [T]) (fun v => ∃ u, v = .str (selM (((words sp nm P).take j).reverse)) u) := by
  obtain ⟨O, rfl, hO⟩ := hT
  generalize hx : selM (((words sp nm P).take j).reverse) = x
  refine' CallOk.ofF (binds := [(Str.ofString "builder", .ref P.b), (Str.ofString "at", .int (j : Nat) tj)]) w.ok.f542 ?k1 ?k3 ?k4 ?k5 ?k6 ?k7 ?k8 ?k9 ?_
  case k1 => exact rfl
  case k3 => exact fun s _ _ _ _ _ _ _ _ _ _ X => BindsTo.of_eq rfl
  case k4 => exact rfl
  case k5 => exact rfl
  case k6 => exact rfl
  case k7 => exact rfl
  case k8 => exact rfl
  case k9 => exact rfl
  intro c hf _ R tk
  refine (vcs_ok c hf [] 60).S ?_
  show WE _ _ _ _ _ _ _
  refine w_while ?_
  refine WhK.cut (l' := BB P ++ (TL A O ++ R)) rfl ?_
  refine WhK.less hf (m' := [(Str.ofString "builder", .ref P.b), (Str.ofString "at", .int (j : Nat) tj)]) (cv' := []) ⟨rfl, rfl, trivial⟩ trivial ?_
  induction j generalizing tj tk with
  | zero =>
    refine w_turn hf ((vce_ok c [] 20).T ?_)
    refine BR.f rfl ?_
    show Ends _ _ _ _ _ _ _
    exact Ends.mk (post := [_, _, _, _, _]) [0, 1, 2, 3, 4, 5, 6, 7, 8, 9, 10, 11, 12] 13 rfl rfl ⟨str_of hx.symm, rfl⟩
  | succ j ih =>
    obtain ⟨i, hi⟩ : ∃ i, P.ids[j]? = some i := ⟨_, List.getElem?_eq_getElem hj⟩
    obtain ⟨ti, hit⟩ := ints_get hP.v j i hi
    obtain ⟨r0, r1⟩ := hP.r i (List.mem_of_getElem? hi)
    have hz := hP.z
    have hzl := ints_len hP.v
    rw [words_take hi] at hx
    refine w_turn hf ((vce_ok c [] 20).T ?_)
    refine BR.t (decide_eq_true (by omega)) ((vcs_ok c hf [] 40).S ?_)
    show WE _ _ _ _ _ _ _
    refine w_get 0 rfl rfl hP.e.s rfl ?_
    show WE _ _ _ _ _ _ _
    refine w_get 1 rfl rfl hP.i rfl ?_
    show WE _ _ _ _ _ _ _
    refine w_item 2 rfl rfl (by omega) (by omega) (show P.its[((j + 1 : Nat) - 1 : Int).toNat]? = _ by rw [show ((j + 1 : Nat) - 1 : Int).toNat = j by omega]; exact hit) ?_
    show WE _ _ _ _ _ _ _
    refine w_get 0 rfl rfl hP.e.t rfl ?_
    show WM _ _ _ _ _ _ _ _
    refine w_meth 4 rfl rfl hO.e.m4 ?_
    show WE _ _ _ _ _ _ _
    refine w_callR (v_ishtml w A _ sp nm at' ch k ⟨O, rfl, hO⟩ i ti r0 r1 hl _ _) (BB P ++ R) rfl rfl [4, 5, 6, 7, 8, 9, 10, 11, 12, 0, 1, 2, 3] 13 rfl rfl rfl ?_
    rintro _ tk1 rfl
    refine BR.mk (fun hb1 => ?_) fun hb1 => ?_
    · show Ends _ _ _ _ _ _ _
      exact Ends.mk (post := [_, _, _, _, _]) [0, 1, 2, 3, 4, 5, 6, 7, 8, 9, 10, 11, 12] 13 rfl rfl ⟨str_of (hx.symm.trans (sel_t hb1)), rfl⟩
    show WE _ _ _ _ _ _ _
    refine w_get 0 rfl rfl hP.e.t rfl ?_
    show WM _ _ _ _ _ _ _ _
    refine w_meth 4 rfl rfl hO.e.m4 ?_
    show WE _ _ _ _ _ _ _
    refine w_callR (v_ishtml w A _ sp nm at' ch k ⟨O, rfl, hO⟩ i ti r0 r1 hl _ _) (BB P ++ R) rfl rfl [4, 5, 6, 7, 8, 9, 10, 11, 12, 0, 1, 2, 3] 13 rfl rfl rfl ?_
    rintro _ tk2 rfl
    refine BR.mk (fun hb2 => ?_) fun hb2 => ?_
    · show Ends _ _ _ _ _ _ _
      exact Ends.mk (post := [_, _, _, _, _]) [0, 1, 2, 3, 4, 5, 6, 7, 8, 9, 10, 11, 12] 13 rfl rfl ⟨str_of (hx.symm.trans (sel_b hb1 hb2)), rfl⟩
    exact WhK.less hf (m' := [(Str.ofString "builder", .ref P.b), (Str.ofString "at", .int (j : Nat) _)]) (cv' := []) ⟨rfl, congrArg some (V.int_eq (by omega)), trivial⟩ trivial (ih (by omega) _ ((sel_n (p := wd sp nm i) hb1 hb2).symm.trans hx) _)
end
section
open PySem PySem.W PyProof.Rows PySem.Spec PySem.Calls PyProof.V
open V
set_option maxRecDepth 4000
theorem w_itemNeg {w : WG} {S : Scope} {r u : Nat} {c : Ct w S r u} {m cv : Lo} {l : Lb} {tk : Nat} {D : Addr} {its : List Value} {n : Nat} {K : KV} {value slice : Expr} {k : Int} {t : Tok} {x : Value} {j : Nat} (i : Nat) (hi : atB l i = lst D its n) (hs : notSlice slice = true) (h0 : k < 0) (h1 : -2 ^ 63 ≤ k) (hj : seqIndex? k its.length = some j) (hx : its[j]? = some x) (kk : K x m cv l tk) :
    WE c (subscriptTail value slice (.ref D) (.int k t)) K m cv l tk := .mk fun _ hh => kde_neg (hh.list i hi) h0 h1 hj hx (Out.mk hh kk) (sub_not hs _ _)
noncomputable def modeF (p : Str × Str) (sel top : Str) (hd z : Bool) : Str :=
  if p.1 != Str.ofString "html" then Str.ofString "" else if p.2 == Str.ofString "select" then sel else if p.2 == Str.ofString "template" then top else if p.2 == Str.ofString "html" then (if hd then Str.ofString "before head" else Str.ofString "after head")
  else if z && has ["td", "th", "head"] p.2 then Str.ofString "" else sget cModes p.2
section
variable {p : Str × Str} {sel top : Str} {hd z : Bool}
theorem mf1 (h : (p.1 != Str.ofString "html") = true) : modeF p sel top hd z = Str.ofString "" := by unfold modeF; rw [if_pos h]
theorem mf2 (h : (p.1 != Str.ofString "html") = false) (h2 : (p.2 == Str.ofString "select") = true) : modeF p sel top hd z = sel := by unfold modeF; rw [if_neg (by rw [h]; decide), if_pos h2]
theorem mf3 (h : (p.1 != Str.ofString "html") = false) (h2 : (p.2 == Str.ofString "select") = false) (h3 : (p.2 == Str.ofString "template") = true) : modeF p sel top hd z = top := by unfold modeF; rw [if_neg (by rw [h]; decide), if_neg (by rw [h2]; decide), if_pos h3]
theorem mf4 (h : (p.1 != Str.ofString "html") = false) (h2 : (p.2 == Str.ofString "select") = false) (h3 : (p.2 == Str.ofString "template") = false) (h4 : (p.2 == Str.ofString "html") = true) (h5 : hd = true) : modeF p sel top hd z = Str.ofString "before head" := by unfold modeF; rw [if_neg (by rw [h]; decide), if_neg (by rw [h2]; decide), if_neg (by rw [h3]; decide), if_pos h4, if_pos h5]
theorem mf5 (h : (p.1 != Str.ofString "html") = false) (h2 : (p.2 == Str.ofString "select") = false) (h3 : (p.2 == Str.ofString "template") = false) (h4 : (p.2 == Str.ofString "html") = true) (h5 : hd = false) : modeF p sel top hd z = Str.ofString "after head" := by unfold modeF; rw [if_neg (by rw [h]; decide), if_neg (by rw [h2]; decide), if_neg (by rw [h3]; decide), if_pos h4, if_neg (by rw [h5]; decide)]
theorem mf6 (h : (p.1 != Str.ofString "html") = false) (h2 : (p.2 == Str.ofString "select") = false) (h3 : (p.2 == Str.ofString "template") = false) (h4 : (p.2 == Str.ofString "html") = false) (h5 : has ["td", "th", "head"] p.2 = true) : modeF p sel top hd true = Str.ofString "" := by unfold modeF; rw [if_neg (by rw [h]; decide), if_neg (by rw [h2]; decide), if_neg (by rw [h3]; decide), if_neg (by rw [h4]; decide), h5]; rfl
theorem mf7 (h : (p.1 != Str.ofString "html") = false) (h2 : (p.2 == Str.ofString "select") = false) (h3 : (p.2 == Str.ofString "template") = false) (h4 : (p.2 == Str.ofString "html") = false) (h5 : (z && has ["td", "th", "head"] p.2) = false) : modeF p sel top hd z = sget cModes p.2 := by unfold modeF; rw [if_neg (by rw [h]; decide), if_neg (by rw [h2]; decide), if_neg (by rw [h3]; decide), if_neg (by rw [h4]; decide), h5]; rfl
end
set_option maxRecDepth 100000 in
theorem v_modefor (w : WG) (A : TA) (T : Ld) (sp nm : List Str) (at' ch : List Value) (k : Nat) (hT : TreeAt w A sp nm at' ch k T) (hl : sp.length ≤ 900) (P : BP) (hP : BOk A sp P) (j : Nat) (hj : j ≤ P.ids.length) (tj : Tok) (i : Int) (ti : Tok) (r0 : 0 ≤ i) (r1 : i < (sp.length : Int)) :
    TrOk w 3 9 549 [.ref P.b, .int i ti, .int (j : Nat) tj] (BB P ++ [T]) (fun v => ∃ u, v = .str (modeF (wd sp nm i) (selM (((words sp nm P).take j).reverse)) P.top (P.hv == -1) ((j : Int) == 0)) u) := by
  obtain ⟨O, rfl, hO⟩ := hT
  have l3 := hO.l3
  refine' CallOk.ofF (binds := [(Str.ofString "builder", .ref P.b), (Str.ofString "node", .int i ti), (Str.ofString "at", .int (j : Nat) tj)]) w.ok.f549 ?k1 ?k3 ?k4 ?k5 ?k6 ?k7 ?k8 ?k9 ?_
  case k1 => exact rfl
  case k3 => exact fun s _ _ _ _ _ _ _ _ _ _ X => BindsTo.of_eq rfl
  case k4 => exact rfl
  case k5 => exact rfl
  case k6 => exact rfl
  case k7 => exact rfl
  case k8 => exact rfl
  case k9 => exact rfl
  intro c hf _ R tk
  refine WE.cut (l' := BB P ++ (TL A O ++ R)) rfl ?_
  refine (vcs_ok c hf [] 60).S ?_
  show WE _ _ _ _ _ _ _
  refine w_get 0 rfl rfl hP.e.t rfl ?_
  show WE _ _ _ _ _ _ _
  refine w_get 4 rfl rfl hO.e.e2 rfl ?_
  show WE _ _ _ _ _ _ _
  refine w_itemS 6 rfl rfl hO.s2 r0 r1 (by omega) fun t1 => ?_
  refine BR.mk (fun h1 => ?_) fun h1 => ?_
  · show Ends _ _ _ _ _ _ _
    exact Ends.mk (post := [_, _, _, _, _]) [0, 1, 2, 3, 4, 5, 6, 7, 8, 9, 10, 11, 12] 13 rfl rfl ⟨str_of (mf1 (p := wd sp nm i) h1), rfl⟩
  show WE _ _ _ _ _ _ _
  refine w_get 0 rfl rfl hP.e.t rfl ?_
  show WE _ _ _ _ _ _ _
  refine w_get 4 rfl rfl hO.e.e3 rfl ?_
  show WE _ _ _ _ _ _ _
  refine w_itemS 7 rfl rfl hO.s3 r0 (by omega) (by omega) fun t2 => ?_
  refine BR.mk (fun h2 => ?_) fun h2 => ?_
  · show WE _ _ _ _ _ _ _
    refine w_callF (v_select w A _ sp nm at' ch k ⟨O, rfl, hO⟩ hl P hP j hj _) R rfl rfl trivial [0, 1, 2, 3, 4, 5, 6, 7, 8, 9, 10, 11, 12] 13 rfl rfl ?_
    rintro _ _ tk1 ⟨⟨u1, rfl⟩, rfl⟩
    show Ends _ _ _ _ _ _ _
    exact Ends.mk (post := [_, _, _, _, _]) [0, 1, 2, 3, 4] 5 rfl rfl ⟨str_of (mf2 (p := wd sp nm i) h1 h2), rfl⟩
  refine BR.mk (fun h3 => ?_) fun h3 => ?_
  · show WE _ _ _ _ _ _ _
    refine w_get 0 rfl rfl hP.m rfl ?_
    show WE _ _ _ _ _ _ _
    refine w_itemNeg (j := 1) 3 rfl rfl (by decide) (by decide) rfl rfl ?_
    show Ends _ _ _ _ _ _ _
    exact Ends.mk (post := [_, _, _, _, _]) [0, 1, 2, 3, 4, 5, 6, 7, 8, 9, 10, 11, 12] 13 rfl rfl ⟨str_of (mf3 (p := wd sp nm i) h1 h2 h3), rfl⟩
  refine BR.mk (fun h4 => ?_) fun h4 => ?_
  · show WE _ _ _ _ _ _ _
    refine w_get 0 rfl rfl hP.h rfl ?_
    refine BR.mk (fun h5 => ?_) fun h5 => ?_
    · show Ends _ _ _ _ _ _ _
      exact Ends.mk (post := [_, _, _, _, _]) [0, 1, 2, 3, 4, 5, 6, 7, 8, 9, 10, 11, 12] 13 rfl rfl ⟨str_of (mf4 (p := wd sp nm i) h1 h2 h3 h4 h5), rfl⟩
    · show Ends _ _ _ _ _ _ _
      exact Ends.mk (post := [_, _, _, _, _]) [0, 1, 2, 3, 4, 5, 6, 7, 8, 9, 10, 11, 12] 13 rfl rfl ⟨str_of (mf5 (p := wd sp nm i) h1 h2 h3 h4 h5), rfl⟩
  refine BR.mk (fun h5 => ?_) fun h5 => BR.f rfl ?_
  · show WE _ _ _ _ _ _ _
    refine w_tupS rfl rfl fun D its tk' hS => ?_
    show WE _ _ _ _ _ _ _
    refine w_inT 0 rfl hS ?_
    refine BR.mk (fun h6 => BR.t rfl ?_) fun h6 => BR.f rfl ?_
    · show Ends _ _ _ _ _ _ _
      exact Ends.mk (post := [_, _, _, _, _]) [1, 2, 3, 4, 5, 6, 7, 8, 9, 10, 11, 12, 13] 14 rfl rfl ⟨str_of (by rw [h5]; exact mf6 (p := wd sp nm i) h1 h2 h3 h4 h6), rfl⟩
    · show WE _ _ _ _ _ _ _
      refine w_callP (v_mode w _ _) rfl rfl ?_
      rintro _ tk1 ⟨u1, rfl⟩
      show Ends _ _ _ _ _ _ _
      exact Ends.mk (post := [_, _, _, _, _]) [1, 2, 3, 4, 5, 6, 7, 8, 9, 10, 11, 12, 13] 14 rfl rfl ⟨str_of (mf7 (p := wd sp nm i) h1 h2 h3 h4 (by rw [h5]; exact h6)), rfl⟩
  · show WE _ _ _ _ _ _ _
    refine w_callP (v_mode w _ _) rfl rfl ?_
    rintro _ tk1 ⟨u1, rfl⟩
    show Ends _ _ _ _ _ _ _
    exact Ends.mk (post := [_, _, _, _, _]) [0, 1, 2, 3, 4, 5, 6, 7, 8, 9, 10, 11, 12] 13 rfl rfl ⟨str_of (mf7 (p := wd sp nm i) h1 h2 h3 h4 (by rw [h5]; rfl)), rfl⟩
noncomputable def resetS (m2 m1 m0 : Str) : Str := if m2 == Str.ofString "" then (if m1 == Str.ofString "" then (if m0 == Str.ofString "" then Str.ofString "in body" else m0) else m1) else m2
end
section
open PySem PySem.W PyProof.Rows PySem.Spec PySem.Calls PyProof.V
open V
set_option maxRecDepth 4000
/-- the node that is looked at -/
noncomputable def nodeA (P : BP) (j : Nat) (i : Int) : Int := if (((j : Int) == 0) && (P.cv != -1)) then P.cv else i
noncomputable def modeA (sp nm : List Str) (P : BP) (j : Nat) : Str := modeF (wd sp nm (nodeA P j (P.ids.getD j 0))) (selM (((words sp nm P).take j).reverse)) P.top (P.hv == -1) ((j : Int) == 0)
noncomputable def endS (x : Str) : Str := if x == Str.ofString "" then Str.ofString "in body" else x
noncomputable def finR (sp nm : List Str) (P : BP) : Nat → Str → Str
  | 0, x => endS x
  | j + 1, x => if x == Str.ofString "" then finR sp nm P j (modeA sp nm P j) else x
theorem finR_no {sp nm : List Str} {P : BP} {j : Nat} {x : Str} (h : (x == Str.ofString "") = false) : finR sp nm P j x = x := by
  cases j with
  | zero => unfold finR endS; rw [if_neg (by rw [h]; decide)]
  | succ j => unfold finR; rw [if_neg (by rw [h]; decide)]
noncomputable def ResetPost (w : WG) (P : BP) (T : Ld) (y : Str) (v : Value) (post : Lb) : Prop := v = .none ∧ ∃ tk tx n', post = [ins P.b 524 P.bd (putE w (Str.ofString "mode") tk (.str y tx) P.es) n', ins P.st 329 P.sd P.ses P.sn, lst P.si P.its P.ks, lst P.md [.str (Str.ofString "in table") P.tm, .str P.top P.tn] P.km, T]
theorem v_modefor' (w : WG) (A : TA) (T : Ld) (sp nm : List Str) (at' ch : List Value) (k : Nat) (hT : TreeAt w A sp nm at' ch k T) (hl : sp.length ≤ 900) (P : BP) (hP : BOk A sp P) (j : Nat) (hj : j ≤ P.ids.length) (J : Int) (hJ : J = (j : Int)) (tj : Tok) (i : Int) (ti : Tok) (r0 : 0 ≤ i) (r1 : i < (sp.length : Int)) :
    TrOk w 3 9 549 [.ref P.b, .int i ti, .int J tj] (BB P ++ [T]) (fun v => ∃ u, v = .str (modeF (wd sp nm i) (selM (((words sp nm P).take j).reverse)) P.top (P.hv == -1) ((j : Int) == 0)) u) := by
  subst hJ
  exact v_modefor w A T sp nm at' ch k hT hl P hP j hj tj i ti r0 r1
theorem node_a {P : BP} {j : Nat} {i : Int} (h : (((j + 1 : Nat) : Int) - 1 == 0) = false) : nodeA P j i = i := by
  unfold nodeA; rw [show (((j : Nat) : Int) == 0) = (((j + 1 : Nat) : Int) - 1 == 0) by rw [show ((j + 1 : Nat) : Int) - 1 = (j : Int) by omega], h]; rfl
theorem node_b {P : BP} {j : Nat} {i : Int} (h : (P.cv != -1) = false) : nodeA P j i = i := by
  unfold nodeA; rw [h, Bool.and_false]; rfl
theorem node_c {P : BP} {j : Nat} {i : Int} (h : (((j + 1 : Nat) : Int) - 1 == 0) = true) (h1 : (P.cv != -1) = true) : nodeA P j i = P.cv := by
  unfold nodeA; rw [show (((j : Nat) : Int) == 0) = (((j + 1 : Nat) : Int) - 1 == 0) by rw [show ((j + 1 : Nat) : Int) - 1 = (j : Int) by omega], h, h1]; rfl
theorem finR_go {sp nm : List Str} {P : BP} {j : Nat} {i i' : Int} {x : Str} (hx : (x == Str.ofString "") = true) (hi : P.ids[j]? = some i) (hn : nodeA P j i = i') : finR sp nm P (j + 1) x = finR sp nm P j (modeF (wd sp nm i') (selM (((words sp nm P).take j).reverse)) P.top (P.hv == -1) ((j : Int) == 0)) := by
  rw [show finR sp nm P (j + 1) x = (if x == Str.ofString "" then finR sp nm P j (modeA sp nm P j) else x) from rfl, if_pos hx]
  unfold modeA
  rw [show P.ids.getD j 0 = i by rw [List.getD_eq_getElem?_getD, hi]; rfl, hn]
set_option maxRecDepth 100000 in
set_option maxHeartbeats 1000000 in
theorem v_reset (w : WG) (A : TA) (T : Ld) (sp nm : List Str) (at' ch : List Value) (k : Nat) (hT : TreeAt w A sp nm at' ch k T) (hl : sp.length ≤ 900) (P : BP) (hP : BOk A sp P) (hcv : P.cv = -1 ∨ (0 ≤ P.cv ∧ P.cv < (sp.length : Int))) :
    CallOk w 4 12 (fun _ => True) 556 [.ref P.b] (BB P ++ [T]) (ResetPost w P T (finR sp nm P P.ids.length (Str.ofString ""))) := by
  generalize hy : finR sp nm P P.ids.length (Str.ofString "") = y
  refine' CallOk.ofF (binds := [(Str.ofString "builder", .ref P.b)]) w.ok.f556 ?k1 ?k3 ?k4 ?k5 ?k6 ?k7 ?k8 ?k9 ?_
  case k1 => exact rfl
  case k3 => exact fun s _ _ _ _ _ _ _ _ _ _ X => BindsTo.of_eq rfl
  case k4 => exact rfl
  case k5 => exact rfl
  case k6 => exact rfl
  case k7 => exact rfl
  case k8 => exact rfl
  case k9 => exact rfl
  intro c hf _ R tk
  refine WE.cut (l' := BB P ++ (T :: R)) rfl ?_
  refine (vcs_ok c hf [] 60).S ?_
  show WE _ _ _ _ _ _ _
  refine w_get 0 rfl rfl hP.e.s rfl ?_
  show WM _ _ _ _ _ _ _ _
  refine w_meth 1 rfl rfl hP.s.m ?_
  have hzl := ints_len hP.v
  have c0 : (P.cv != -1) = true → 0 ≤ P.cv ∧ P.cv < (sp.length : Int) := fun h => hcv.resolve_left fun e => by rw [e] at h; exact absurd h (by decide)
  have hz := hP.z
  show WE _ _ _ _ _ _ _
  refine w_callR (v_many w P.st P.sd P.si P.ses P.sn P.ks P.its hP.i (by omega)) (ins P.b 524 P.bd P.es P.n :: lst P.md [.str (Str.ofString "in table") P.tm, .str P.top P.tn] P.km :: (T :: R)) rfl rfl [1, 2, 0, 3] 4 rfl rfl rfl ?_
  rintro _ tk1 ⟨t1, rfl⟩
  show WE _ _ _ _ _ _ _
  refine w_while ?_
  refine WhK.cut (l' := BB P ++ (T :: R)) rfl ?_
  obtain ⟨j, hj⟩ : ∃ j, j = P.ids.length := ⟨_, rfl⟩
  rw [← hj] at hy
  refine WhK.less hf (m' := [(Str.ofString "builder", .ref P.b), (Str.ofString "at", .int ((j : Int) - 1) _), (Str.ofString "mode", .str (Str.ofString "") _)]) (cv' := []) ⟨rfl, congrArg some (V.int_eq (by omega)), rfl, trivial⟩ trivial ?_
  refine (?_ : ∀ x ta tx tz, finR sp nm P j x = y → WhK c _ _ _ [(Str.ofString "builder", .ref P.b), (Str.ofString "at", .int ((j : Int) - 1) ta), (Str.ofString "mode", .str x tx)] [] _ tz) _ _ _ _ hy
  have hjl : j ≤ P.ids.length := by omega
  clear hj hy
  induction j with
  | zero =>
    intro x ta tx tz hy
    refine w_turn hf ((vce_ok c [] 20).T ?_)
    refine BR.f rfl (BR.f rfl ?_)
    refine BR.mk (fun hx => ?_) fun hx => ?_
    · show WM _ _ _ _ _ _ _ _
      refine w_meth 0 rfl rfl hP.e.m ?_
      show WE _ _ _ _ _ _ _
      refine w_callF (v_to w P.b P.bd P.es P.n A.t P.st P.er hP.e _) (ins P.st 329 P.sd P.ses P.sn :: lst P.si P.its P.ks :: lst P.md [.str (Str.ofString "in table") P.tm, .str P.top P.tn] P.km :: T :: R) rfl rfl trivial [0, 1, 2, 3, 4] 5 rfl rfl ?_
      rintro _ _ tk1 ⟨rfl, u1, n1, rfl⟩
      show Ends _ _ _ _ _ _ _
      subst hy
      exact Ends.mk (post := [_, _, _, _, _]) [0, 1, 2, 3, 4] 5 rfl rfl ⟨rfl, _, _, _, by rw [show finR sp nm P 0 x = _ from if_pos hx]⟩
    · show WM _ _ _ _ _ _ _ _
      refine w_meth 0 rfl rfl hP.e.m ?_
      show WE _ _ _ _ _ _ _
      refine w_callF (v_to w P.b P.bd P.es P.n A.t P.st P.er hP.e _) (ins P.st 329 P.sd P.ses P.sn :: lst P.si P.its P.ks :: lst P.md [.str (Str.ofString "in table") P.tm, .str P.top P.tn] P.km :: T :: R) rfl rfl trivial [0, 1, 2, 3, 4] 5 rfl rfl ?_
      rintro _ _ tk1 ⟨rfl, u1, n1, rfl⟩
      show Ends _ _ _ _ _ _ _
      subst hy
      exact Ends.mk (post := [_, _, _, _, _]) [0, 1, 2, 3, 4] 5 rfl rfl ⟨rfl, _, _, _, by rw [finR_no hx]⟩
  | succ j ih =>
    intro x ta tx tz hy
    obtain ⟨i, hi⟩ : ∃ i, P.ids[j]? = some i := ⟨_, List.getElem?_eq_getElem hjl⟩
    obtain ⟨ti, hit⟩ := ints_get hP.v j i hi
    obtain ⟨r0, r1⟩ := hP.r i (List.mem_of_getElem? hi)
    refine w_turn hf ((vce_ok c [] 20).T ?_)
    refine BR.t (decide_eq_true (by omega)) ?_
    refine BR.mk (fun hx => BR.t rfl ((vcs_ok c hf [] 40).S ?_)) fun hx => BR.f rfl ?_
    · show WE _ _ _ _ _ _ _
      refine w_get 0 rfl rfl hP.e.s rfl ?_
      show WE _ _ _ _ _ _ _
      refine w_get 1 rfl rfl hP.i rfl ?_
      show WE _ _ _ _ _ _ _
      refine w_item 2 rfl rfl (by omega) (by omega) (show P.its[((j + 1 : Nat) - 1 : Int).toNat]? = _ by rw [show ((j + 1 : Nat) - 1 : Int).toNat = j by omega]; exact hit) ?_
      refine BR.mk (fun h0 => ?_) fun h0 => BR.f rfl ?_
      · show WE _ _ _ _ _ _ _
        refine w_get 0 rfl rfl hP.c rfl ?_
        refine BR.mk (fun h1 => BR.t rfl ?_) fun h1 => BR.f rfl ?_
        · show WE _ _ _ _ _ _ _
          refine w_get 0 rfl rfl hP.c rfl ?_
          show WE _ _ _ _ _ _ _
          refine w_callF (v_modefor' w A T sp nm at' ch k hT hl P hP j (by omega) ((j + 1 : Nat) - 1) (by omega) _ P.cv _ (c0 h1).1 (c0 h1).2) R rfl rfl trivial [0, 1, 2, 3, 4] 5 rfl rfl ?_
          rintro _ _ tk1 ⟨⟨u1, rfl⟩, rfl⟩
          exact WhK.less hf (m' := [(Str.ofString "builder", .ref P.b), (Str.ofString "at", .int ((j : Int) - 1) _), (Str.ofString "mode", .str _ _)]) (cv' := []) ⟨rfl, congrArg some (V.int_eq (by omega)), rfl, trivial⟩ trivial (ih (by omega) _ _ _ _ ((finR_go hx hi (node_c h0 h1)).symm.trans hy))
        · show WE _ _ _ _ _ _ _
          refine w_callF (v_modefor' w A T sp nm at' ch k hT hl P hP j (by omega) ((j + 1 : Nat) - 1) (by omega) _ i _ r0 r1) R rfl rfl trivial [0, 1, 2, 3, 4] 5 rfl rfl ?_
          rintro _ _ tk1 ⟨⟨u1, rfl⟩, rfl⟩
          exact WhK.less hf (m' := [(Str.ofString "builder", .ref P.b), (Str.ofString "at", .int ((j : Int) - 1) _), (Str.ofString "mode", .str _ _)]) (cv' := []) ⟨rfl, congrArg some (V.int_eq (by omega)), rfl, trivial⟩ trivial (ih (by omega) _ _ _ _ ((finR_go hx hi (node_b h1)).symm.trans hy))
      · show WE _ _ _ _ _ _ _
        refine w_callF (v_modefor' w A T sp nm at' ch k hT hl P hP j (by omega) ((j + 1 : Nat) - 1) (by omega) _ i _ r0 r1) R rfl rfl trivial [0, 1, 2, 3, 4] 5 rfl rfl ?_
        rintro _ _ tk1 ⟨⟨u1, rfl⟩, rfl⟩
        exact WhK.less hf (m' := [(Str.ofString "builder", .ref P.b), (Str.ofString "at", .int ((j : Int) - 1) _), (Str.ofString "mode", .str _ _)]) (cv' := []) ⟨rfl, congrArg some (V.int_eq (by omega)), rfl, trivial⟩ trivial (ih (by omega) _ _ _ _ ((finR_go hx hi (node_a h0)).symm.trans hy))
    · refine BR.f hx ?_
      show WM _ _ _ _ _ _ _ _
      refine w_meth 0 rfl rfl hP.e.m ?_
      show WE _ _ _ _ _ _ _
      refine w_callF (v_to w P.b P.bd P.es P.n A.t P.st P.er hP.e _) (ins P.st 329 P.sd P.ses P.sn :: lst P.si P.its P.ks :: lst P.md [.str (Str.ofString "in table") P.tm, .str P.top P.tn] P.km :: T :: R) rfl rfl trivial [0, 1, 2, 3, 4] 5 rfl rfl ?_
      rintro _ _ tk1 ⟨rfl, u1, n1, rfl⟩
      show Ends _ _ _ _ _ _ _
      subst hy
      exact Ends.mk (post := [_, _, _, _, _]) [0, 1, 2, 3, 4] 5 rfl rfl ⟨rfl, _, _, _, by rw [finR_no hx]⟩
end
section
open PySem PySem.W PyProof.Rows PySem.Spec PySem.Calls PyProof.V
open V
section
variable {w : WG} {S : Scope} {r u : Nat} {c : Ct w S r u} {m cv : Lo} {l : Lb} {tk : Nat} {h : Heap}
/-- the scope of a comprehension, as its turns see it -/
noncomputable def relS (sc S : Scope) : Scope := { sc with names := sc.names.map fun (n, k) => if (k == .free && S.kind == .function && S.names.lookup n == some .cell) then (n, .cell) else (n, k) }
theorem FnFrame.rel (hf : FnFrame c) (sc : Scope) : relabel sc c.ev = relS sc S := by
  obtain ⟨_, _, _, _, _, _, he, _⟩ := hf
  rw [he]; rfl
theorem FnFrame.glob (hf : FnFrame c) : c.ev.globals = mainGlobals ∧ c.ev.builtins = builtinsNs := by
  obtain ⟨_, _, _, _, _, _, he, _⟩ := hf
  rw [he]; exact ⟨rfl, rfl⟩
/-- what a comprehension's turn sees -/
structure CFct (c : Ct w S r u) (sc : Scope) (cl : List (Str × Addr)) (co : Ld) (m2 : Str → Option Value) (mb cb : Lo) : Prop where
  k : sc.kind = .function
  db : (relS sc S).names.lookup (Str.ofString "__debug__") = none
  lo : ∀ y v, mb.lookup y = some v → m2 y = some v ∧ (relS sc S).names.lookup y = some .local
  ce : ∀ y v, cb.lookup y = some v → (relS sc S).names.lookup y = some .cell ∧ ∃ a o, cl.lookup y = some a ∧ (a, o) ∈ co ∧ o.data = .cell (some v)
theorem comp_rd (hf : FnFrame c) {sc : Scope} {cl : List (Str × Addr)} {co : Ld} {m2 : Str → Option Value} {mb cb : Lo} (hq : CFct c sc cl co m2 mb cb) {C : Addr} {oC : Obj} {hid : Ld} (hC : (C, oC) ∈ hid) (hN : LCg.NsObj oC m2) {E' : Value → Shared → Prop} {mm : Str → Option Value} {l : Ld} {h : Heap} {tk : Nat} {x : Str} {pos : Pos} {v : Value} {Q : Value → Shared → Prop}
    (F : Fr c.h₀ c.L h mm) (N : News c.h₀ c.L h ((hid ++ co) ++ l)) (hv : see (relS sc S) mb cb x = some v) (k : Q v (c.sh h tk)) : wpAny (model Pr w.w) c.A (eval (.Name x pos) (compEnvC sc cl C c.ev)) Q E' (c.sh h tk) := by
  have hr := hf.rel sc
  have hk : (compEnvC sc cl C c.ev).scope.kind = .function := hq.k
  have kd : ∀ {y k}, (relS sc S).names.lookup y = some k → (compEnvC sc cl C c.ev).kindOf y = some k := fun {y k} e => by
    show (relabel sc c.ev).names.lookup y = some k
    rw [hr]; exact e
  unfold see at hv
  split at hv
  · rename_i v' e
    cases hv
    obtain ⟨h1, h2⟩ := hq.lo _ _ e
    exact LCgL.ld_own (s := c.sh h tk) N (List.mem_append_left _ (List.mem_append_left _ hC)) hN h1 k hk (kd h2) (not_debug hq.db h2)
  · split at hv
    · rename_i v' e
      cases hv
      obtain ⟨h2, a, o, h3, h4, h5⟩ := hq.ce _ _ e
      exact kcf_cell (s := c.sh h tk) N h3 (List.mem_append_left _ (List.mem_append_right _ h4)) h5 k hk (kd h2) (not_debug hq.db h2)
    · split at hv
      · rename_i v' e
        split at hv
        · rename_i h2
          cases hv
          rcases globs_ok w _ _ e with g | ⟨h1, h3, h4⟩
          · exact LCgL.ld_global (s := c.sh h tk) F c.X c.T g k hf.glob.1 hk (kd h2) (not_debug hq.db h2)
          · exact LCgL.ld_built (s := c.sh h tk) F c.X c.T h1 h3 h4 k hf.glob.1 hf.glob.2 hk (kd h2) (not_debug hq.db h2)
        · cases hv
      · cases hv
/-- a turn's frame -/
noncomputable def Ct.comp (c : Ct w S r u) (hf : FnFrame c) {sc : Scope} {cl : List (Str × Addr)} {co : Ld} {m2 : Str → Option Value} {mb cb : Lo} (hq : CFct c sc cl co m2 mb cb) (C : Addr) {oC : Obj} (hid : Ld) (hC : (C, oC) ∈ hid) (hN : LCg.NsObj oC m2) (E' : Value → Shared → Prop) (mm : Str → Option Value) : Ct w (relS sc S) r u :=
  ⟨c.L, compEnvC sc cl C c.ev, c.fe, c.A, c.outer, c.A₀, c.base, c.h₀, E', c.s, c.mean, c.mg, c.mb, fun m cv mm' co' => m = mb ∧ cv = cb ∧ mm' = mm ∧ co' = hid ++ co, c.B, c.X, c.T, by unfold interactive; rw [show (compEnvC sc cl C c.ev).scope.kind = .function from hq.k]; rfl, c.hA, c.hfr, c.hfk, c.hn, c.hd, c.hu,
    fun {m cv mm' co' l h tk x pos v Q} F ⟨e1, e2, e3, e4⟩ N hv k => by
      subst e1; subst e2; subst e3; subst e4
      exact comp_rd hf hq hC hN F N hv k⟩
/-- cells that a comprehension shares -/
noncomputable def CbOk (sc S : Scope) (cl : Addr → List (Str × Addr)) : Lo → Prop
  | [] => True
  | (y, _) :: r => ((relS sc S).names.lookup y = some .cell ∧ ∀ L, (cl L).lookup y = (cellsFrom (L + 1) S.names []).lookup y) ∧ CbOk sc S cl r
theorem CbOk.get {sc : Scope} {cl : Addr → List (Str × Addr)} : ∀ {cb : Lo}, CbOk sc S cl cb → ∀ y v, cb.lookup y = some v → (relS sc S).names.lookup y = some .cell ∧ ∀ L, (cl L).lookup y = (cellsFrom (L + 1) S.names []).lookup y
  | [], _, _, _, h => by cases h
  | (z, t) :: r, ⟨h1, h2⟩, y, v, h => by
    rw [List.lookup_cons] at h
    by_cases e : y = z
    · rw [e]; exact h1
    · rw [beq_eq_false_iff_ne.mpr e] at h
      exact CbOk.get h2 y v h
theorem cells_of (hf : FnFrame c) {sc : Scope} {cl : Addr → List (Str × Addr)} {cb : Lo} {mm : Str → Option Value} {co : Ld} (hi : c.Inv m cv mm co) (h1 : CbOk sc S cl cb) (h2 : LoSub cb cv) : ∀ y v, cb.lookup y = some v → (relS sc S).names.lookup y = some .cell ∧ ∃ a o, (cl c.L).lookup y = some a ∧ (a, o) ∈ co ∧ o.data = .cell (some v) := fun y v e => by
  obtain ⟨_, _, _, _, _, hid, _, ei⟩ := hf
  rw [ei] at hi
  obtain ⟨co1, ec, _, hc⟩ := hi
  obtain ⟨a1, a2⟩ := h1.get y v e
  obtain ⟨_, a, o, b1, b2, b3⟩ := hc.val y v (LoSub.get h2 y v e)
  exact ⟨a1, a, o, (a2 _).trans b1, by rw [ec]; exact List.mem_append_right _ b2, b3⟩
theorem apart3 {I C D : Addr} {oI oC oD : Obj} {l : Ld} (ne : @Ne Nat I C ∧ @Ne Nat I D ∧ @Ne Nat C D) (off : LCg.Off3 I C D l) (a : Apart l) : Apart ((I, oI) :: (C, oC) :: (D, oD) :: l) := by
  have o3 := LCg.Off3.mem off
  refine apart_cons.mpr ⟨fun q hq => ?_, apart_cons.mpr ⟨fun q hq => ?_, apart_cons.mpr ⟨fun q hq => (o3 q hq).2.2, a⟩⟩⟩
  · rcases List.mem_cons.mp hq with rfl | hq
    · exact Ne.symm ne.1
    · rcases List.mem_cons.mp hq with rfl | hq
      · exact Ne.symm ne.2.1
      · exact (o3 q hq).1
  · rcases List.mem_cons.mp hq with rfl | hq
    · exact Ne.symm ne.2.2
    · exact (o3 q hq).2.1
theorem off3_apart {I C D : Addr} {oI oC oD : Obj} {l : Ld} (a : Apart ((I, oI) :: (C, oC) :: (D, oD) :: l)) : LCg.Off3 I C D l ∧ Apart l := by
  obtain ⟨a1, a2⟩ := apart_cons.mp a
  obtain ⟨b1, b2⟩ := apart_cons.mp a2
  obtain ⟨c1, c2⟩ := apart_cons.mp b2
  exact ⟨LCg.Off3.of fun p hp => ⟨a1 p (List.mem_cons_of_mem _ (List.mem_cons_of_mem _ hp)), b1 p (List.mem_cons_of_mem _ hp), c1 p hp⟩, c2⟩
/-- what all turns need -/
structure CpOk (c : Ct w S r u) (sc : Scope) (cl : List (Str × Addr)) (mm : Str → Option Value) (co : Ld) (cb : Lo) (SS : Ld → Prop) (J : Nat → List Value → Lb → Prop) : Prop where
  hf : FnFrame c
  k : sc.kind = .function
  db : (relS sc S).names.lookup (Str.ofString "__debug__") = none
  ce : ∀ y v, cb.lookup y = some v → (relS sc S).names.lookup y = some .cell ∧ ∃ a o, cl.lookup y = some a ∧ (a, o) ∈ co ∧ o.data = .cell (some v)
  src : ∀ i ys l, J i ys l → SS (co ++ l.flatten)
theorem lo_one {S' : Scope} {m2 : Str → Option Value} {x : Str} {v : Value} (h1 : m2 x = some v) (h2 : S'.names.lookup x = some .local) : ∀ y z, List.lookup y [(x, v)] = some z → m2 y = some z ∧ S'.names.lookup y = some .local := fun y z e => by
  rw [List.lookup_cons] at e
  by_cases q : y = x
  · rw [q, beq_self_eq_true] at e
    cases e
    rw [q]; exact ⟨h1, h2⟩
  · rw [beq_eq_false_iff_ne.mpr q] at e
    cases e
/-- one turn, from its walk -/
theorem comp_turn {α : Type} {sc : Scope} {cl : List (Str × Addr)} {mm : Str → Option Value} {co : Ld} {cb mb : Lo} {SS : Ld → Prop} {J : Nat → List Value → Lb → Prop} (H : CpOk c sc cl mm co cb SS J) {I C D : Addr} {oI oC : Obj} {ys : List Value} {m2 : Str → Option Value} {E' : Value → Shared → Prop}
    (hC : LCg.NsObj oC m2) (hlo : ∀ y v, mb.lookup y = some v → m2 y = some v ∧ (relS sc S).names.lookup y = some .local) (F : Fr c.h₀ c.L h mm) (N : News c.h₀ c.L h ((I, oI) :: (C, oC) :: (D, LCg.lst ys) :: (co ++ l.flatten))) (off : LCg.Off3 I C D (co ++ l.flatten)) (ne : @Ne Nat I C ∧ @Ne Nat I D ∧ @Ne Nat C D) (ap : Apart (co ++ l.flatten))
    {t : Env → Sem α} {K : Ct w (relS sc S) r u → α → KU} {Q : α → Shared → Prop} (k : ∀ cc : Ct w (relS sc S) r u, cc.base = c.base → WE cc (t cc.ev) (K cc) mb cb l tk)
    (q : ∀ (cc : Ct w (relS sc S) r u) a m' cv' l' tk' h', cc.ev = compEnvC sc cl C c.ev → cc.E = E' → Holds cc m' cv' l' h' → K cc a m' cv' l' tk' → (∀ (β : Type) (t' : Env → Sem β) (K' : β → KU) (Q' : β → Shared → Prop), WE cc (t' cc.ev) K' m' cv' l' tk' → (∀ b m3 cv3 l3 tk3 h3, Holds cc m3 cv3 l3 h3 → K' b m3 cv3 l3 tk3 → Q' b (c.sh h3 tk3)) → wpAny (model Pr w.w) c.A (t' (compEnvC sc cl C c.ev)) Q' E' (c.sh h' tk')) → (∀ l3 h3 m3 cv3, Holds cc m3 cv3 l3 h3 → Fr c.h₀ c.L h3 mm ∧ News c.h₀ c.L h3 ((I, oI) :: (C, oC) :: (D, LCg.lst ys) :: (co ++ l3.flatten)) ∧ LCg.Off3 I C D (co ++ l3.flatten) ∧ Apart (co ++ l3.flatten)) → Q a (c.sh h' tk')) :
    wpAny (model Pr w.w) c.A (t (compEnvC sc cl C c.ev)) Q E' (c.sh h tk) := by
  let cc := Ct.comp c H.hf (mb := mb) (cb := cb) ⟨H.k, H.db, hlo, H.ce⟩ C [(I, oI), (C, oC), (D, LCg.lst ys)] (List.mem_cons_of_mem _ List.mem_cons_self) hC E' mm
  have hold : Holds cc mb cb l h := ⟨mm, [(I, oI), (C, oC), (D, LCg.lst ys)] ++ co, F, ⟨rfl, rfl, rfl, rfl⟩, N, apart3 ne off ap⟩
  refine (k cc rfl).go hold fun a m' cv' l' tk' h' hh' hk => ?_
  refine q cc a m' cv' l' tk' h' rfl rfl hh' hk (fun β t' K' Q' kk qq => kk.go hh' qq) fun l3 h3 m3 cv3 hh3 => ?_
  obtain ⟨mm', co', F', ⟨_, _, rfl, rfl⟩, N', a'⟩ := hh3
  exact ⟨F', N', off3_apart a'⟩
end
end
section
open PySem PySem.W PyProof.Rows PySem.Spec PySem.Calls PyProof.V
open V
set_option linter.unusedVariables false
section
variable {w : WG} {S : Scope} {r u : Nat} {c : Ct w S r u} {m cv : Lo} {l : Lb} {tk : Nat} {h : Heap}
noncomputable abbrev TurnU (c : Ct w S r u) (sc : Scope) (cb : Lo) (elt : Expr) (x : Str) (n : Nat) (P : Nat → Value → Prop) (J : Nat → List Value → Lb → Prop) : Prop :=
  ∀ i ys l v tk (cc : Ct w (relS sc S) r u), cc.base = c.base → i < n → J i ys l → P i v → WE cc (eval elt cc.ev) (fun y _ _ l' _ => J (i + 1) (ys ++ [y]) l') [(x, v)] cb l tk
theorem rest_U {sc : Scope} {cl : List (Str × Addr)} {mm : Str → Option Value} {co : Ld} {cb : Lo} {SS : Ld → Prop} {J : Nat → List Value → Lb → Prop} (H : CpOk c sc cl mm co cb SS J) {elt : Expr} {x : Str} (hx : (relS sc S).names.lookup x = some .local) {n : Nat} {P : Nat → Value → Prop} (turn : TurnU c sc cb elt x n P J)
    {Fin : List Value → Ld → Prop} (fin : ∀ ys l, J n ys l → Apart (co ++ l.flatten) → Fin ys (co ++ l.flatten)) {g : Heap} {tk0 : Nat} : ∀ (j i : Nat) (ys : List Value) (l : Lb), i + j = n → J i ys l → Apart (co ++ l.flatten) → LCg.CompRest Pr w.w c.A c.h₀ c.L mm c.ev elt x sc cl (c.sh g tk0) SS P Fin j i ys (co ++ l.flatten) := by
  intro j
  induction j with
  | zero =>
    intro i ys l hi hJ ap
    have e : i = n := by omega
    subst e
    exact LCg.CompRest.zero (fin ys l hJ ap)
  | succ j ih =>
    intro i ys l hi hJ ap
    refine LCg.CompRest.succ ?_
    intro v I oI C oC D m2 h tk E' hv hC hx2 F N off ne
    refine comp_turn (t := fun e => eval elt e) H hC (lo_one hx2 hx) F N off ne ap (fun cc hb => turn i ys l v tk cc hb (by omega) hJ hv) ?_
    intro cc y m' cv' l' tk' h' _ _ hh' hj _ out
    obtain ⟨F', N', off', ap'⟩ := out _ _ _ _ hh'
    exact ⟨h', tk', co ++ l'.flatten, rfl, F', N', off', H.src _ _ _ hj, ih (i + 1) _ _ (by omega) hj ap'⟩
noncomputable abbrev TurnT (c : Ct w S r u) (sc : Scope) (cb : Lo) (ct elt : Expr) (x : Str) (n : Nat) (P : Nat → Value → Prop) (J : Nat → List Value → Lb → Prop) : Prop :=
  ∀ i ys l v tk (cc : Ct w (relS sc S) r u), i < n → J i ys l → P i v → WE cc (isTrue ct cc.ev (eval ct cc.ev)) (fun ok => BK ok (WE cc (eval elt cc.ev) fun y _ _ l' _ => J (i + 1) (ys ++ [y]) l') (fun _ _ l' _ => J (i + 1) ys l')) [(x, v)] cb l tk
theorem rest_T {sc : Scope} {cl : List (Str × Addr)} {mm : Str → Option Value} {co : Ld} {cb : Lo} {SS : Ld → Prop} {J : Nat → List Value → Lb → Prop} (H : CpOk c sc cl mm co cb SS J) {ct elt : Expr} {x : Str} (hx : (relS sc S).names.lookup x = some .local) {n : Nat} {P : Nat → Value → Prop} (turn : TurnT c sc cb ct elt x n P J)
    {Fin : List Value → Ld → Prop} (fin : ∀ ys l, J n ys l → Apart (co ++ l.flatten) → Fin ys (co ++ l.flatten)) {g : Heap} {tk0 : Nat} : ∀ (j i : Nat) (ys : List Value) (l : Lb), i + j = n → J i ys l → Apart (co ++ l.flatten) → LCt.CompRestT Pr w.w c.A c.h₀ c.L mm c.ev ct elt x sc cl (c.sh g tk0) SS P Fin j i ys (co ++ l.flatten) := by
  intro j
  induction j with
  | zero =>
    intro i ys l hi hJ ap
    have e : i = n := by omega
    subst e
    exact LCt.CompRestT.zero (fin ys l hJ ap)
  | succ j ih =>
    intro i ys l hi hJ ap
    refine LCt.CompRestT.succ ?_
    intro v I oI C oC D m2 h tk E' hv hC hx2 F N off ne
    refine comp_turn (t := fun e => isTrue ct e (eval ct e)) H hC (lo_one hx2 hx) F N off ne ap (fun cc _ => turn i ys l v tk cc (by omega) hJ hv) ?_
    intro cc ok m' cv' l' tk' h' _ _ hh' hk run out
    have hk := BK_go hk
    cases ok with
    | true =>
      refine run _ (fun e => eval elt e) _ _ hk fun y m3 cv3 l3 tk3 h3 hh3 hj => ?_
      obtain ⟨F', N', off', ap'⟩ := out _ _ _ _ hh3
      exact ⟨h3, tk3, co ++ l3.flatten, rfl, F', N', off', H.src _ _ _ hj, ih (i + 1) _ _ (by omega) hj ap'⟩
    | false =>
      obtain ⟨F', N', off', ap'⟩ := out _ _ _ _ hh'
      exact ⟨h', tk', co ++ l'.flatten, rfl, F', N', off', H.src _ _ _ hk, ih (i + 1) _ _ (by omega) hk ap'⟩
noncomputable abbrev TurnP (c : Ct w S r u) (sc : Scope) (cb : Lo) (elt : Expr) (x x₂ : Str) (n : Nat) (P : Nat → Value → Prop) (J : Nat → List Value → Lb → Prop) : Prop :=
  ∀ i ys l v, i < n → J i ys l → P i v → ∃ (t : Addr) (ot : Obj) (v₁ v₂ : Value) (nt : Nat), v = .ref t ∧ (t, ot) ∈ l.flatten ∧ ot.cls = .type "tuple" ∧ ot.data = .seq #[v₁, v₂] nt ∧
    ∀ tk (cc : Ct w (relS sc S) r u), WE cc (eval elt cc.ev) (fun y _ _ l' _ => J (i + 1) (ys ++ [y]) l') [(x, v₁), (x₂, v₂)] cb l tk
theorem rest_P {sc : Scope} {cl : List (Str × Addr)} {mm : Str → Option Value} {co : Ld} {cb : Lo} {SS : Ld → Prop} {J : Nat → List Value → Lb → Prop} (H : CpOk c sc cl mm co cb SS J) {elt : Expr} {x x₂ : Str} (hx : (relS sc S).names.lookup x = some .local) (hx₂ : (relS sc S).names.lookup x₂ = some .local) {n : Nat} {P : Nat → Value → Prop} (turn : TurnP c sc cb elt x x₂ n P J)
    {Fin : List Value → Ld → Prop} (fin : ∀ ys l, J n ys l → Apart (co ++ l.flatten) → Fin ys (co ++ l.flatten)) {g : Heap} {tk0 : Nat} : ∀ (j i : Nat) (ys : List Value) (l : Lb), i + j = n → J i ys l → Apart (co ++ l.flatten) → LCp.CompRestP Pr w.w c.A c.h₀ c.L mm c.ev elt x x₂ sc cl (c.sh g tk0) SS P Fin j i ys (co ++ l.flatten) := by
  intro j
  induction j with
  | zero =>
    intro i ys l hi hJ ap
    have e : i = n := by omega
    subst e
    exact LCp.CompRestP.zero (fin ys l hJ ap)
  | succ j ih =>
    intro i ys l hi hJ ap
    refine LCp.CompRestP.succ fun v hv => ?_
    obtain ⟨t, ot, v₁, v₂, nt, e1, e2, e3, e4, go⟩ := turn i ys l v (by omega) hJ hv
    refine ⟨t, ot, v₁, v₂, nt, e1, List.mem_append_right _ e2, e3, e4, fun I oI C oC D m2 h tk E' hC hx1 hx2 F N off ne => ?_⟩
    refine comp_turn (t := fun e => eval elt e) (mb := [(x, v₁), (x₂, v₂)]) H hC (fun y z e => ?_) F N off ne ap (fun cc _ => go tk cc) ?_
    · rw [List.lookup_cons] at e
      by_cases q : y = x
      · rw [q, beq_self_eq_true] at e
        cases e
        rw [q]; exact ⟨hx1, hx⟩
      · rw [beq_eq_false_iff_ne.mpr q] at e
        exact lo_one hx2 hx₂ y z e
    intro cc y m' cv' l' tk' h' _ _ hh' hj _ out
    obtain ⟨F', N', off', ap'⟩ := out _ _ _ _ hh'
    exact ⟨h', tk', co ++ l'.flatten, rfl, F', N', off', H.src _ _ _ hj, ih (i + 1) _ _ (by omega) hj ap'⟩
/-- where a comprehension's end goes -/
noncomputable def RROk (c : Ct w S r u) (RR : Value → Addr → Result → Shared → Prop) (KK : KV) : Prop := ∀ D C h tk m' m cv mm co l, c.Inv m cv mm co → Fr c.h₀ c.L h mm → News c.h₀ c.L h (co ++ l.flatten) → Apart (co ++ l.flatten) → h.Ns C m' → c.h₀.get? C = none → C ≠ c.L → (∀ p ∈ co ++ l.flatten, p.1 ≠ C) → KK (.ref D) m cv l tk → RR (.ref D) C (.ok .next) (c.sh h tk)
@[irreducible] noncomputable def CompK (c : Ct w S r u) (e : Expr) (sc : Scope) (cl : List (Str × Addr)) (KK : KV) (xv : Value) : KU := fun m cv l tk => ∀ h, Holds c m cv l h → ∀ RR : Value → Addr → Result → Shared → Prop, RROk c RR KK →
  wpAny (model Pr w.w) c.A (pyIter xv) (fun it s₂ => wpAny (model Pr w.w) c.A (newList []) (fun acc s₃ => wpAny (model Pr w.w) c.A (newFunctionEnv sc c.ev.globals cl [] c.ev.qual none .none (some c.ev)) (fun cenv s₄ =>
    codeAny (model Pr w.w) c.A (.compStart e 0 it acc { cenv with scope := relabel sc c.ev }) (RR acc cenv.locals) s₄) c.E s₃) c.E s₂) c.E (c.sh h tk)
theorem CompK.mk {e : Expr} {sc : Scope} {cl : List (Str × Addr)} {KK : KV} {xv : Value} (H : ∀ h, Holds c m cv l h → ∀ RR : Value → Addr → Result → Shared → Prop, RROk c RR KK →
  wpAny (model Pr w.w) c.A (pyIter xv) (fun it s₂ => wpAny (model Pr w.w) c.A (newList []) (fun acc s₃ => wpAny (model Pr w.w) c.A (newFunctionEnv sc c.ev.globals cl [] c.ev.qual none .none (some c.ev)) (fun cenv s₄ =>
    codeAny (model Pr w.w) c.A (.compStart e 0 it acc { cenv with scope := relabel sc c.ev }) (RR acc cenv.locals) s₄) c.E s₃) c.E s₂) c.E (c.sh h tk)) : CompK c e sc cl KK xv m cv l tk := by delta CompK; exact H
theorem CompK.run {e : Expr} {sc : Scope} {cl : List (Str × Addr)} {KK : KV} {xv : Value} (H : CompK c e sc cl KK xv m cv l tk) (hh : Holds c m cv l h) (RR : Value → Addr → Result → Shared → Prop) (hRR : RROk c RR KK) :
  wpAny (model Pr w.w) c.A (pyIter xv) (fun it s₂ => wpAny (model Pr w.w) c.A (newList []) (fun acc s₃ => wpAny (model Pr w.w) c.A (newFunctionEnv sc c.ev.globals cl [] c.ev.qual none .none (some c.ev)) (fun cenv s₄ =>
    codeAny (model Pr w.w) c.A (.compStart e 0 it acc { cenv with scope := relabel sc c.ev }) (RR acc cenv.locals) s₄) c.E s₃) c.E s₂) c.E (c.sh h tk) := by delta CompK at H; exact H h hh RR hRR
theorem rr_eval {K : KV} : RROk c (fun acc C => compPost (model Pr w.w) c.A c.E none (Out c K) acc C) K := fun D C h tk m' m cv mm co l hi F N ap hn hC₀ hCL offC k =>
  ⟨m', hn, fun h'' hs'' => Out.mk ⟨mm, co, F.change hs'' hCL hC₀, hi, fun p hp => ⟨hs''.extBut _ _ (offC p hp) (N p hp).1, (N p hp).2⟩, ap⟩ k⟩
/-- a comprehension of one clause, as a value -/
theorem w_comp (hf : FnFrame c) {elt tg iter : Expr} {ifs : List Expr} {sc : Scope} {pos : Pos} (cl : Addr → List (Str × Addr)) {K : KV}
    (hclos : ∀ cn a ccd, closureFor sc (envX cn S c.L a ccd (cellsFrom (c.L + 1) S.names [])) = pure (cl c.L)) (hs : ∀ v, foldedSetIterable iter c.ev v = pure v) (hkind : sc.kind = .function) (hnames : ∀ y ∈ sc.names, y.2 = .local → sc.names.lookup y.1 = some .local)
    (k : WE c (eval iter c.ev) (fun xv => CompK c (.ListComp elt [⟨tg, iter, ifs, 0⟩] sc pos) sc (cl c.L) K xv) m cv l tk) : WE c (eval (.ListComp elt [⟨tg, iter, ifs, 0⟩] sc pos) c.ev) K m cv l tk := .mk fun h hh => by
  rw [eval_ListComp]
  refine wpAny_comprehension_free (use := none) rfl hs ?_ hkind hnames (k.go hh fun xv _ _ _ _ _ hh k => k.run hh _ rr_eval)
  obtain ⟨cn, a, ccd, hid, he, _⟩ := hf.e
  rw [he]; exact hclos cn a ccd
theorem rr_assign (hf : FnFrame c) {y : Str} {py : Pos} {K : Flow → KU} (hy : S.names.lookup y = some .local) : RROk c (fun acc C => compPost (model Pr w.w) c.A c.E (some (assign (.Name y py) c.ev)) (fun _ s' => Out c K .next s') acc C) (fun v m cv l tk => K .next (setL y v m) cv l (tk + 1)) := fun D C h tk m' m cv mm co l hi F N ap hn hC₀ hCL offC k => by
  have hi' := hf.setInv (v := .ref D) hy hi
  have hl := hf.locals
  have hk := hf.k
  obtain ⟨cn, a, ccd, hid, he, _⟩ := hf.e
  show wpAny _ c.A (assign (.Name y py) c.ev (.ref D)) _ _ _
  refine wpAny_assign_Name (wpAny_storeName_local (by rw [he]; exact hy) (by rw [hl]; exact F.ns) (fun h₂ hn₂ hs₂ => ?_) (by rw [he]; show (S.kind == .class || (S.kind == .module && _)) = false; rw [hk]; rfl))
  rw [hl] at hn₂ hs₂
  have hL₀ : c.h₀.get? c.L = none := Heap.get?_none_of_le F.above
  have F₂ : Fr c.h₀ c.L h₂ (fun z => if z = y then some (.ref D) else mm z) := ⟨hn₂, fun b o e => hs₂.extBut b o (fun q => by rw [q, hL₀] at e; cases e) (F.keep b o e), F.above⟩
  refine ⟨m', hn.sameBut hs₂ hCL, fun h'' hs'' => Out.mk ⟨_, co, F₂.change hs'' hCL hC₀, hi', fun p hp => ?_, ap⟩ k⟩
  have z : h₂.get? p.1 = some p.2 := hs₂.extBut _ _ (N p hp).2.1 (N p hp).1
  exact ⟨hs''.extBut _ _ (offC p hp) z, (N p hp).2⟩
/-- a comprehension of one clause, kept in a local -/
theorem w_compA (hf : FnFrame c) {elt tg iter : Expr} {ifs : List Expr} {sc : Scope} {pos spos py : Pos} {y : Str} (cl : Addr → List (Str × Addr)) {K : Flow → KU}
    (hy : S.names.lookup y = some .local) (hsw : ∀ cn a ccd, swapsWith (.ListComp elt [⟨tg, iter, ifs, 0⟩] sc pos) (some (.Name y py)) spos.line (envX cn S c.L a ccd (cellsFrom (c.L + 1) S.names [])) = pure true)
    (hclos : ∀ cn a ccd, closureFor sc (envX cn S c.L a ccd (cellsFrom (c.L + 1) S.names [])) = pure (cl c.L)) (hs : ∀ v, foldedSetIterable iter c.ev v = pure v) (hkind : sc.kind = .function) (hnames : ∀ y ∈ sc.names, y.2 = .local → sc.names.lookup y.1 = some .local)
    (k : WE c (eval iter c.ev) (fun xv => CompK c (.ListComp elt [⟨tg, iter, ifs, 0⟩] sc pos) sc (cl c.L) (fun v m cv l tk => K .next (setL y v m) cv l (tk + 1)) xv) m cv l tk) : WE c (exec (.Assign [.Name y py] (.ListComp elt [⟨tg, iter, ifs, 0⟩] sc pos) spos) c.ev) K m cv l tk := .mk fun h hh => by
  have hsw' : swapsWith (.ListComp elt [⟨tg, iter, ifs, 0⟩] sc pos) (some (.Name y py)) spos.line c.ev = pure true := by
    obtain ⟨cn, a, ccd, hid, he, _⟩ := hf.e
    rw [he]; exact hsw cn a ccd
  rw [exec_Assign_Name_used _ _ _ _ hsw']
  refine wpAny_bind (wpAny_standAt (wpAny_bind ?_))
  show wpAny _ c.A (do let _ ← comprehension (.ListComp elt [⟨tg, iter, ifs, 0⟩] sc pos) sc c.ev _ (newList []) false (eval iter c.ev) (some (assign (.Name y py) c.ev))) _ _ _
  refine wpAny_bind (wpAny_mono (wpAny_comprehension_free (use := some (assign (.Name y py) c.ev)) (Q := fun _ s' => Out c K .next s') rfl hs ?_ hkind hnames (k.go hh fun xv _ _ _ _ _ hh k => k.run hh _ (rr_assign hf hy))) (fun _ s' hq => wpAny_pure (wpAny_pure hq)) fun _ _ e => e)
  obtain ⟨cn, a, ccd, hid, he, _⟩ := hf.e
  rw [he]; exact hclos cn a ccd
end
end
section
open PySem PySem.W PyProof.Rows PySem.Spec PySem.Calls PyProof.V
open V
set_option linter.unusedVariables false
section
variable {w : WG} {S : Scope} {r u : Nat} {c : Ct w S r u} {m cv : Lo} {l : Lb} {tk : Nat} {h : Heap}
theorem comp_end {RR : Value → Addr → Result → Shared → Prop} {KK : KV} (hRR : RROk c RR KK) {mm : Str → Option Value} {co : Ld} (hi : c.Inv m cv mm co) {J : List Value → Lb → Prop} (k : ∀ ys l' D' tk', J ys l' → KK (.ref D') m cv (lst D' ys ys.length :: l') tk')
    {D C : Addr} {h : Heap} {tk : Nat} {m' : Str → Option Value} {ys : List Value} {news : Ld} (F : Fr c.h₀ c.L h mm) (N : News c.h₀ c.L h ((D, LCg.lst ys) :: news)) (o1 : LCg.Off1 D news) (hn : h.Ns C m') (hC₀ : c.h₀.get? C = none) (hCL : C ≠ c.L) (hCD : C ≠ D) (offC : ∀ p ∈ news, p.1 ≠ C) (fin : ∃ l' : Lb, news = co ++ l'.flatten ∧ Apart news ∧ J ys l') : RR (.ref D) C (.ok .next) (c.sh h tk) := by
  obtain ⟨l', rfl, ap, hj⟩ := fin
  have o2 : ∀ p ∈ co ++ l'.flatten, p.1 ≠ D := by
    have : ∀ {l : Ld}, LCg.Off1 D l → ∀ p ∈ l, p.1 ≠ D := fun {l} => by
      induction l with
      | nil => intro _ p hp; cases hp
      | cons q r ih =>
        intro o p hp
        rcases List.mem_cons.mp hp with rfl | hp
        · exact o.1
        · exact ih o.2 p hp
    exact this o1
  have mem : ∀ p, p ∈ co ++ (lst D ys ys.length :: l').flatten → p = (D, LCg.lst ys) ∨ p ∈ co ++ l'.flatten := fun p hp => by
    rcases List.mem_append.mp hp with hp | hp
    · exact .inr (List.mem_append_left _ hp)
    · rcases List.mem_cons.mp (show p ∈ (D, LCg.lst ys) :: l'.flatten from hp) with e | hp
      · exact .inl e
      · exact .inr (List.mem_append_right _ hp)
  refine hRR D C h tk m' m cv mm co (lst D ys ys.length :: l') hi F (fun p hp => ?_) ?_ hn hC₀ hCL (fun p hp => ?_) (k ys l' D tk hj)
  · rcases mem p hp with rfl | hp
    · exact N _ List.mem_cons_self
    · exact N _ (List.mem_cons_of_mem _ hp)
  · obtain ⟨a1, a2, a3⟩ := apart_app.mp ap
    refine apart_app.mpr ⟨a1, apart_cons.mpr ⟨fun q hq => o2 q (List.mem_append_right _ hq), a2⟩, fun p hp q hq => ?_⟩
    rcases List.mem_cons.mp (show q ∈ (D, LCg.lst ys) :: l'.flatten from hq) with rfl | hq
    · exact o2 p (List.mem_append_left _ hp)
    · exact a3 p hp q hq
  · rcases mem p hp with rfl | hp
    · exact Ne.symm hCD
    · exact offC p hp
/-- what is known of a comprehension's scope -/
structure ScOk (S sc : Scope) (cl : Addr → List (Str × Addr)) (cb cv : Lo) : Prop where
  cell : ∀ y ∈ sc.names, y.2 ≠ .cell
  k : sc.kind = .function
  db : (relS sc S).names.lookup (Str.ofString "__debug__") = none
  cbs : CbOk sc S cl cb
  sub : LoSub cb cv
theorem src_led {co : Ld} {l' : Lb} {D : Addr} {its : List Value} {n j : Nat} {h₀ : Heap} (hj : atB l' j = lst D its n) : LCg.SrcAt h₀ D its.toArray (co ++ l'.flatten) := .inr ⟨_, List.mem_append_right _ (mem_block (atB_get hj) List.mem_cons_self), rfl, _, rfl⟩
theorem k_listT (hf : FnFrame c) {elt ct iter : Expr} {x : Str} {px pos : Pos} {sc : Scope} {cl : Addr → List (Str × Addr)} (cb : Lo) {D : Addr} {its : List Value} {n0 : Nat} {K : KV} (j : Nat) (hj : atB l j = lst D its n0) (hz : its.length ≤ 1000) (J : Nat → List Value → Lb → Prop)
    (hsc : ScOk S sc cl cb cv) (hx : sc.names.lookup x = some .local) (hx' : (relS sc S).names.lookup x = some .local) (h0 : J 0 [] l) (hsrc : ∀ i ys l', J i ys l' → ∃ j', atB l' j' = lst D its n0)
    (turn : TurnT c sc cb ct elt x its.length (fun i v => its[i]? = some v) J) (k : ∀ ys l' D' tk', J its.length ys l' → K (.ref D') m cv (lst D' ys ys.length :: l') tk') : CompK c (.ListComp elt [⟨.Name x px, iter, [ct], 0⟩] sc pos) sc (cl c.L) K (.ref D) m cv l tk := .mk fun h hh RR hRR => by
  have hl := hh.list j hj
  obtain ⟨mm, co, F, hi, N, ap⟩ := hh
  have hlt : D < h.objs.size := by obtain ⟨_, e, _⟩ := hl; exact Heap.lt_size e
  have hlen : its.toArray.size = its.length := List.size_toArray
  refine wpAny_pyIter_list hl ?_
  have up : ∀ b o, h.get? b = some o → (h.push { cls := .type "list_iterator", data := .fields #[.ref D, .int 0 0] }).get? b = some o := fun b o e => Heap.get?_push_of_some _ e
  have H : CpOk c sc (cl c.L) mm co cb (LCg.SrcAt c.h₀ D its.toArray) J := ⟨hf, hsc.k, hsc.db, cells_of hf hi hsc.cbs hsc.sub, fun i ys l' hJ => src_led (hsrc i ys l' hJ).choose_spec⟩
  refine LCt.block_T (RR := RR) (Fin := fun ys news => ∃ l' : Lb, news = co ++ l'.flatten ∧ Apart news ∧ J its.length ys l') (Walks.list c.hn h.objs.size D (Nat.ne_of_lt hlt) its.toArray) (by rw [hlen, sizeLine_eq]; omega) (fun i h st => by obtain ⟨o, e, _⟩ := st.1; exact ⟨o, e⟩) LCg.list_st hsc.cell hsc.k hx ⟨⟨_, Heap.get?_push_size _ rfl, rfl, rfl⟩, hl.push _⟩ (fun b hb => ?_)
    (F.keeps up) (N.grown up) (Nat.ne_of_lt F.ns.lt) (next_is_new F) (fun p hp => Nat.ne_of_lt (Heap.lt_size (N p hp).1)) (H.src _ _ _ h0) ?_ ?_
  · show b < (h.push _).objs.size
    rw [Heap.size_push]
    rcases List.mem_cons.mp hb with rfl | hb
    · exact Nat.lt_succ_self _
    · rw [List.mem_singleton.mp hb]; exact Nat.lt_succ_of_lt hlt
  · rw [hlen]
    exact rest_T H hx' (P := fun i v => its.toArray[i]? = some v) (fun i ys l v tk cc h1 h2 h3 => turn i ys l v tk cc h1 h2 (by simpa using h3)) (fun ys l hJ a => ⟨l, rfl, a, hJ⟩) its.length 0 [] l (by omega) h0 ap
  · intro D' C h' tk' m' ys news' F' N' o1 hn hC₀ hD₀ hCL hDL hCD offC fin
    exact comp_end hRR hi k F' N' o1 hn hC₀ hCL hCD offC fin
theorem k_listP (hf : FnFrame c) {elt iter : Expr} {x x₂ : Str} {px px₂ tp pos : Pos} {tc} {sc : Scope} {cl : Addr → List (Str × Addr)} (cb : Lo) {D : Addr} {its : List Value} {n0 : Nat} {K : KV} (j : Nat) (hj : atB l j = lst D its n0) (hz : its.length ≤ 1000) (J : Nat → List Value → Lb → Prop)
    (hsc : ScOk S sc cl cb cv) (hx : sc.names.lookup x = some .local) (hx₂ : sc.names.lookup x₂ = some .local) (hxx : x ≠ x₂) (hx' : (relS sc S).names.lookup x = some .local) (hx₂' : (relS sc S).names.lookup x₂ = some .local) (h0 : J 0 [] l) (hsrc : ∀ i ys l', J i ys l' → ∃ j', atB l' j' = lst D its n0)
    (turn : TurnP c sc cb elt x x₂ its.length (fun i v => its[i]? = some v) J) (k : ∀ ys l' D' tk', J its.length ys l' → K (.ref D') m cv (lst D' ys ys.length :: l') tk') : CompK c (.ListComp elt [⟨.Tuple [.Name x px, .Name x₂ px₂] tc tp, iter, [], 0⟩] sc pos) sc (cl c.L) K (.ref D) m cv l tk := .mk fun h hh RR hRR => by
  have hl := hh.list j hj
  obtain ⟨mm, co, F, hi, N, ap⟩ := hh
  have hlt : D < h.objs.size := by obtain ⟨_, e, _⟩ := hl; exact Heap.lt_size e
  have hlen : its.toArray.size = its.length := List.size_toArray
  refine wpAny_pyIter_list hl ?_
  have up : ∀ b o, h.get? b = some o → (h.push { cls := .type "list_iterator", data := .fields #[.ref D, .int 0 0] }).get? b = some o := fun b o e => Heap.get?_push_of_some _ e
  have H : CpOk c sc (cl c.L) mm co cb (LCg.SrcAt c.h₀ D its.toArray) J := ⟨hf, hsc.k, hsc.db, cells_of hf hi hsc.cbs hsc.sub, fun i ys l' hJ => src_led (hsrc i ys l' hJ).choose_spec⟩
  refine LCp.block_P (RR := RR) (Fin := fun ys news => ∃ l' : Lb, news = co ++ l'.flatten ∧ Apart news ∧ J its.length ys l') (Walks.list c.hn h.objs.size D (Nat.ne_of_lt hlt) its.toArray) (by rw [hlen, sizeLine_eq]; omega) (fun i h st => by obtain ⟨o, e, _⟩ := st.1; exact ⟨o, e⟩) LCg.list_st hsc.cell hsc.k hx hx₂ hxx c.hn (fun i h st => ⟨_, _, st.1⟩) ⟨⟨_, Heap.get?_push_size _ rfl, rfl, rfl⟩, hl.push _⟩ (fun b hb => ?_)
    (F.keeps up) (N.grown up) (Nat.ne_of_lt F.ns.lt) (next_is_new F) (fun p hp => Nat.ne_of_lt (Heap.lt_size (N p hp).1)) (H.src _ _ _ h0) ?_ ?_
  · show b < (h.push _).objs.size
    rw [Heap.size_push]
    rcases List.mem_cons.mp hb with rfl | hb
    · exact Nat.lt_succ_self _
    · rw [List.mem_singleton.mp hb]; exact Nat.lt_succ_of_lt hlt
  · rw [hlen]
    exact rest_P H hx' hx₂' (P := fun i v => its.toArray[i]? = some v) (fun i ys l v h1 h2 h3 => turn i ys l v h1 h2 (by simpa using h3)) (fun ys l hJ a => ⟨l, rfl, a, hJ⟩) its.length 0 [] l (by omega) h0 ap
  · intro D' C h' tk' m' ys news' F' N' o1 hn hC₀ hD₀ hCL hDL hCD offC fin
    exact comp_end hRR hi k F' N' o1 hn hC₀ hCL hCD offC fin
theorem k_rangeU (hf : FnFrame c) {elt iter : Expr} {x : Str} {px pos : Pos} {sc : Scope} {cl : Addr → List (Str × Addr)} (cb : Lo) {ra : Addr} {b : Int} {t₁ u₁ v₁ : Tok} (n : Nat) {K : KV} (j : Nat) (hj : atB l j = rng ra 0 b t₁ u₁ v₁) (hb : b = (n : Int)) (hz : n ≤ 1000) (J : Nat → List Value → Lb → Prop)
    (hsc : ScOk S sc cl cb cv) (hx : sc.names.lookup x = some .local) (hx' : (relS sc S).names.lookup x = some .local) (h0 : J 0 [] l)
    (turn : TurnU c sc cb elt x n (fun i v => ∃ t, v = .int (i : Int) t) J) (k : ∀ ys l' D' tk', J n ys l' → K (.ref D') m cv (lst D' ys ys.length :: l') tk') : CompK c (.ListComp elt [⟨.Name x px, iter, [], 0⟩] sc pos) sc (cl c.L) K (.ref ra) m cv l tk := .mk fun h hh RR hRR => by
  subst hb
  obtain ⟨mm, co, F, hi, N, ap⟩ := hh
  have hr : IsRange h ra 0 (n : Int) 1 t₁ u₁ v₁ := (N _ (List.mem_append_right co (mem_block (atB_get hj) List.mem_cons_self))).1
  refine wpAny_pyIter_range hr (small_nat hz) ?_
  have H : CpOk c sc (cl c.L) mm co cb (fun _ => True) J := ⟨hf, hsc.k, hsc.db, cells_of hf hi hsc.cbs hsc.sub, fun _ _ _ _ => trivial⟩
  refine LCg.block_U (RR := RR) (Fin := fun ys news => ∃ l' : Lb, news = co ++ l'.flatten ∧ Apart news ∧ J n ys l') (LCg.range_walks c.hn 0 n) (by rw [sizeLine_eq]; omega) (fun i h st => ⟨_, st⟩) LCg.range_st hsc.cell hsc.k hx (by show IsRangeIter _ _ _ _ _; rw [size_nat]; simpa using Heap.get?_push_size _ rfl) (fun b hb => ?_)
    (F.keeps fun _ _ e => Heap.get?_push_of_some _ e) (N.grown fun _ _ e => Heap.get?_push_of_some _ e) (Nat.ne_of_lt F.ns.lt) (next_is_new F) (fun p hp => Nat.ne_of_lt (Heap.lt_size (N p hp).1)) trivial ?_ ?_
  · rw [List.mem_singleton.mp hb]
    show h.objs.size < (h.push _).objs.size
    rw [Heap.size_push]; exact Nat.lt_succ_self _
  · exact rest_U H hx' (P := fun i v => ∃ t, v = .int (0 + (i : Int)) t) (fun i ys l v tk cc h0 h1 h2 h3 => turn i ys l v tk cc h0 h1 h2 (by obtain ⟨t, e⟩ := h3; exact ⟨t, by rw [e, Int.zero_add]⟩)) (fun ys l hJ a => ⟨l, rfl, a, hJ⟩) n 0 [] l (by omega) h0 ap
  · intro D' C h' tk' m' ys news' F' N' o1 hn hC₀ hD₀ hCL hDL hCD offC fin
    exact comp_end hRR hi k F' N' o1 hn hC₀ hCL hCD offC fin
theorem k_strU (hf : FnFrame c) {elt iter : Expr} {x : Str} {px pos : Pos} {sc : Scope} {cl : Addr → List (Str × Addr)} (cb : Lo) {tx : Str} {t : Tok} {ls : List Str} {K : KV} (hls : tx.cps.toList.map (fun c => (⟨#[c]⟩ : Str)) = ls) (hz : ls.length ≤ 1000) (J : Nat → List Value → Lb → Prop)
    (hsc : ScOk S sc cl cb cv) (hx : sc.names.lookup x = some .local) (hx' : (relS sc S).names.lookup x = some .local) (h0 : J 0 [] l)
    (turn : TurnU c sc cb elt x ls.length (SignIs ls) J) (k : ∀ ys l' D' tk', J ls.length ys l' → K (.ref D') m cv (lst D' ys ys.length :: l') tk') : CompK c (.ListComp elt [⟨.Name x px, iter, [], 0⟩] sc pos) sc (cl c.L) K (.str tx t) m cv l tk := .mk fun h hh RR hRR => by
  obtain ⟨mm, co, F, hi, N, ap⟩ := hh
  have H : CpOk c sc (cl c.L) mm co cb (fun _ => True) J := ⟨hf, hsc.k, hsc.db, cells_of hf hi hsc.cbs hsc.sub, fun _ _ _ _ => trivial⟩
  have hlen : ls.length = tx.cps.size := by rw [← hls, List.length_map, Array.length_toList]
  have go : ∀ (T : String) (o : Obj), Walks Pr w.w c.A h.objs.size [h.objs.size] [h.objs.size] tx.cps.size (SignAt tx) (fun i h' => h'.IsStrIter h.objs.size T tx t i) →
      (h.push o).IsStrIter h.objs.size T tx t 0 → wpAny (model Pr w.w) c.A (newList []) (fun acc s₃ => wpAny (model Pr w.w) c.A (newFunctionEnv sc c.ev.globals (cl c.L) [] c.ev.qual none .none (some c.ev)) (fun cenv s₄ =>
      codeAny (model Pr w.w) c.A (.compStart (.ListComp elt [⟨.Name x px, iter, [], 0⟩] sc pos) 0 (.ref h.objs.size) acc { cenv with scope := relabel sc c.ev }) (RR acc cenv.locals) s₄) c.E s₃) c.E { c.sh h tk with heap := h.push o } := by
    intro T o W hst
    have W' := walks_sign hls W
    rw [← hlen] at W'
    refine LCg.block_U (RR := RR) (Fin := fun ys news => ∃ l' : Lb, news = co ++ l'.flatten ∧ Apart news ∧ J ls.length ys l') W' (by rw [sizeLine_eq]; omega) (fun i h st => by obtain ⟨o, e, _⟩ := st; exact ⟨o, e⟩) striter_st hsc.cell hsc.k hx hst (fun b hb => ?_)
      (F.keeps fun _ _ e => Heap.get?_push_of_some _ e) (N.grown fun _ _ e => Heap.get?_push_of_some _ e) (Nat.ne_of_lt F.ns.lt) (next_is_new F) (fun p hp => Nat.ne_of_lt (Heap.lt_size (N p hp).1)) trivial ?_ ?_
    · rw [List.mem_singleton.mp hb]
      show h.objs.size < (h.push _).objs.size
      rw [Heap.size_push]; exact Nat.lt_succ_self _
    · exact rest_U H hx' turn (fun ys l hJ a => ⟨l, rfl, a, hJ⟩) ls.length 0 [] l (by omega) h0 ap
    · intro D' C h' tk' m' ys news' F' N' o1 hn hC₀ hD₀ hCL hDL hCD offC fin
      exact comp_end hRR hi k F' N' o1 hn hC₀ hCL hCD offC fin
  cases ha : tx.cps.all (· < 128)
  · exact wpAny_pyIter_wide ha (go "str_iterator" _ (Walks.strWide c.hn _ tx t) ⟨_, Heap.get?_push_size _ rfl, rfl, rfl⟩)
  · exact wpAny_pyIter_ascii ha (go "str_ascii_iterator" _ (Walks.strAscii c.hn _ tx t) ⟨_, Heap.get?_push_size _ rfl, rfl, rfl⟩)
end
end
section
open PySem PySem.W PyProof.Rows PySem.Spec PySem.Calls
open V
noncomputable def cTable : List (String × String) := [("area", "sv"), ("base", "sv"), ("br", "sv"), ("col", "sv"), ("embed", "sv"), ("hr", "sv"), ("img", "sv"), ("input", "sv"), ("link", "sv"), ("meta", "sv"), ("source", "sv"), ("track", "sv"), ("wbr", "sv"), ("table", "st"), ("iframe", "sr"), ("noembed", "sr"), ("noframes", "sr"), ("plaintext", "sr"), ("script", "sr"), ("style", "sr"), ("xmp", "sr"), ("tbody", "stj"), ("tfoot", "stj"), ("thead", "stj"), ("tr", "stj"), ("caption", "sj"), ("colgroup", "sj"), ("td", "sj"), ("th", "sj"), ("h1", "sh"), ("h2", "sh"), ("h3", "sh"), ("h4", "sh"), ("h5", "sh"), ("h6", "sh"), ("dd", "si"), ("dt", "si"), ("li", "si"), ("p", "si"), ("optgroup", "i"), ("option", "i"), ("rb", "i"), ("rp", "i"), ("rt", "i"), ("rtc", "i"), ("a", "f"), ("b", "f"), ("big", "f"), ("code", "f"), ("em", "f"), ("font", "f"), ("i", "f"), ("nobr", "f"), ("s", "f"), ("small", "f"), ("strike", "f"), ("strong", "f"), ("tt", "f"), ("u", "f"), ("address", "s"), ("applet", "s"), ("article", "s"), ("aside", "s"), ("basefont", "s"), ("bgsound", "s"), ("blockquote", "s"), ("body", "s"), ("button", "s"), ("center", "s"), ("details", "s"), ("dir", "s"), ("div", "s"), ("dl", "s"), ("fieldset", "s"), ("figcaption", "s"), ("figure", "s"), ("footer", "s"), ("form", "s"), ("frame", "s"), ("frameset", "s"), ("head", "s"), ("header", "s"), ("hgroup", "s"), ("html", "s"), ("keygen", "s"), ("listing", "s"), ("main", "s"), ("marquee", "s"), ("menu", "s"), ("nav", "s"), ("noscript", "s"), ("object", "s"), ("ol", "s"), ("param", "s"), ("pre", "s"), ("search", "s"), ("section", "s"), ("select", "s"), ("summary", "s"), ("template", "s"), ("textarea", "s"), ("title", "s"), ("ul", "s"), ("abbr", ""), ("acronym", ""), ("audio", ""), ("bdi", ""), ("canvas", ""), ("cite", ""), ("datalist", ""), ("del", ""), ("dialog", ""), ("dfn", ""), ("h7", ""), ("image", ""), ("ins", ""), ("kbd", ""), ("label", ""), ("legend", ""), ("map", ""), ("math", ""), ("output", ""), ("q", ""), ("rbc", ""), ("ruby", ""), ("span", ""), ("sub", ""), ("svg", ""), ("video", ""), ("isindex", ""), ("mi", ""), ("mo", ""), ("mn", ""), ("ms", ""), ("mtext", ""), ("annotation-xml", ""), ("mrow", ""), ("foreignObject", ""), ("foreignobject", ""), ("desc", ""), ("malignmark", ""), ("font-face", "")]
noncomputable def cModes2 : List (String × String) := [("frameset", "in frameset"), ("td", "in cell"), ("th", "in cell"), ("tr", "in row"), ("tbody", "in table body"), ("tfoot", "in table body"), ("thead", "in table body"), ("caption", "in caption"), ("colgroup", "in column group"), ("table", "in table"), ("head", "in head"), ("body", "in body")]
noncomputable def cKeys : List Str := cTable.map fun p => Str.ofString p.1
noncomputable def signs6 : List Str := St ["s", "f", "h", "v", "r", "t"]
noncomputable def toldB (x : Str) : List Bool := [has cSpecial x, has cFormat x, has cHead x, has cVoid x, has cRaw x, has cPart x]
noncomputable def askedB (x : Str) : List Bool := signs6.map fun c => inS c (sget cTable x)
theorem sget_none {x : Str} : ∀ {T : List (String × String)}, (∀ p ∈ T, Str.ofString p.1 ≠ x) → sget T x = Str.ofString ""
  | [], _ => rfl
  | p :: r, h => by
    unfold sget
    rw [if_neg (h p (.head _))]
    exact sget_none fun q hq => h q (.tail _ hq)
theorem has_none {x : Str} {l : List String} (h : ∀ s ∈ l, Str.ofString s ≠ x) : has l x = false := by
  unfold has St
  rw [List.any_map]
  exact List.any_eq_false.mpr fun s hs => by simpa using h s hs
noncomputable def okAt (x : Str) : Bool := decide (toldB x = askedB x) && decide (sget cModes2 x = sget cModes x)
theorem ok_keys : cKeys.all okAt = true := by decide +kernel
theorem sub_keys : (cSpecial ++ cFormat ++ cHead ++ cVoid ++ cRaw ++ cPart ++ cModes.map (·.1) ++ cModes2.map (·.1)).all (fun s => cKeys.contains (Str.ofString s)) = true := by decide +kernel
theorem empty6 : (signs6.map fun c => inS c (Str.ofString "")) = [false, false, false, false, false, false] := by decide +kernel
theorem ok_all (x : Str) : toldB x = askedB x ∧ sget cModes2 x = sget cModes x := by
  by_cases h : x ∈ cKeys
  · have := List.all_eq_true.mp ok_keys x h
    unfold okAt at this
    simpa using this
  · have hs := List.all_eq_true.mp sub_keys
    have ne : ∀ s, s ∈ (cSpecial ++ cFormat ++ cHead ++ cVoid ++ cRaw ++ cPart ++ cModes.map (·.1) ++ cModes2.map (·.1)) → Str.ofString s ≠ x := fun s hm e => h (by
      have := hs s hm
      rw [List.contains_iff_mem] at this
      exact e ▸ this)
    simp only [List.mem_append] at ne
    have nt : sget cTable x = Str.ofString "" := sget_none fun p hp e => h (List.mem_map.mpr ⟨p, hp, e⟩)
    have n1 : sget cModes x = Str.ofString "" := sget_none fun p hp => ne p.1 (.inl (.inr (List.mem_map.mpr ⟨p, hp, rfl⟩)))
    have n2 : sget cModes2 x = Str.ofString "" := sget_none fun p hp => ne p.1 (.inr (List.mem_map.mpr ⟨p, hp, rfl⟩))
    refine ⟨?_, n2.trans n1.symm⟩
    unfold toldB askedB
    rw [nt, empty6, has_none fun s hm => ne s (by simp [hm]), has_none fun s hm => ne s (by simp [hm]), has_none fun s hm => ne s (by simp [hm]), has_none fun s hm => ne s (by simp [hm]), has_none fun s hm => ne s (by simp [hm]), has_none fun s hm => ne s (by simp [hm])]
theorem okStr (x : Str) : ∀ T : List (String × String), T.all (fun p => PyData.strOk (Str.ofString p.2)) = true → PyData.strOk (sget T x) = true
  | [], _ => by unfold sget; decide +kernel
  | p :: r, h => by
    rw [List.all_cons, Bool.and_eq_true] at h
    unfold sget
    split
    · exact h.1
    · exact okStr x r h.2
noncomputable def dTold (x : Str) : PyData := .list [.bool (has cSpecial x), .bool (has cFormat x), .bool (has cHead x), .bool (has cVoid x), .bool (has cRaw x), .bool (has cPart x), .str (sget cModes x)]
noncomputable def dAsked (x : Str) : PyData := .list [.bool (inS (Str.ofString "s") (sget cTable x)), .bool (inS (Str.ofString "f") (sget cTable x)), .bool (inS (Str.ofString "h") (sget cTable x)), .bool (inS (Str.ofString "v") (sget cTable x)),
  .bool (inS (Str.ofString "r") (sget cTable x)), .bool (inS (Str.ofString "t") (sget cTable x)), .str (sget cModes2 x)]
theorem shaped_told (x : Str) : PySem.SeqAt.shaped (dTold x) = true := by
  have := okStr x cModes (by decide +kernel)
  simp [dTold, PySem.SeqAt.shaped, PyData.canLay0, PyData.canLayAll0, PyData.depth, PyData.depthAll, this]
theorem shaped_asked (x : Str) : PySem.SeqAt.shaped (dAsked x) = true := by
  have := okStr x cModes2 (by decide +kernel)
  simp [dAsked, PySem.SeqAt.shaped, PyData.canLay0, PyData.canLayAll0, PyData.depth, PyData.depthAll, this]
theorem told_asked (x : Str) : PyData.eqv (dTold x) (dAsked x) = true := by
  obtain ⟨h1, h2⟩ := ok_all x
  unfold toldB askedB signs6 St at h1
  simp only [List.map_cons, List.map_nil, List.cons.injEq, and_true] at h1
  obtain ⟨e1, e2, e3, e4, e5, e6⟩ := h1
  unfold dTold dAsked
  rw [e1, e2, e3, e4, e5, e6, h2]
  simp [PyData.eqv, PyData.eqvAll]
noncomputable def cSvgL : List String := ["desc", "foreignObject", "title"]
noncomputable def cMathL : List String := ["annotation-xml", "mtext", "ms", "mn", "mo", "mi"]
theorem has_perm {l r : List String} (h : ∀ s, s ∈ l ↔ s ∈ r) (x : Str) : has l x = has r x := by
  unfold has St
  rw [Bool.eq_iff_iff, List.any_eq_true, List.any_eq_true]
  constructor
  · rintro ⟨y, hy, e⟩
    obtain ⟨s, hs, rfl⟩ := List.mem_map.mp hy
    exact ⟨_, List.mem_map.mpr ⟨s, (h s).mp hs, rfl⟩, e⟩
  · rintro ⟨y, hy, e⟩
    obtain ⟨s, hs, rfl⟩ := List.mem_map.mp hy
    exact ⟨_, List.mem_map.mpr ⟨s, (h s).mpr hs, rfl⟩, e⟩
theorem svg_same (x : Str) : has cSvg x = has cSvgL x := has_perm (fun s => by simp [cSvg, cSvgL, or_comm, or_left_comm]) x
theorem math_same (x : Str) : has cMath x = has cMathL x := has_perm (fun s => by simp [cMath, cMathL]; grind) x
noncomputable def dTwo (x : Str) : PyData := .list [.bool (has cSvg x), .bool (has cMath x), .bool false]
noncomputable def dTwoL (x : Str) : PyData := .list [.bool (has cSvgL x), .bool (has cMathL x), .bool false]
end
section
open PySem PySem.W PyProof.Rows PySem.Spec PySem.Calls PyProof.V
open V
section
variable {w : WG} {S : Scope} {r u : Nat} {c : Ct w S r u} {m cv : Lo} {l : Lb} {tk : Nat} {h : Heap}
theorem w_addL {a b : Addr} {vs ws : List Value} {n1 n2 : Nat} {K : KV} (i j : Nat) (hi : atB l i = lst a vs n1) (hj : atB l j = lst b ws n2) (hz : vs.length + ws.length ≤ 1000) (k : ∀ D, K (.ref D) m cv (lst D (vs ++ ws) 0 :: l) tk) : WE c (binaryOp .Add (.ref a) (.ref b)) K m cv l tk :=
  .mk fun h hh => by
    have h1 := hh.list i hi
    have h2 := hh.list j hj
    obtain ⟨mm, ns, F, N, hs, fin⟩ := hh.news
    exact add_lists F N h1 h2 (fun h' F' N' => Out.mk (fin _ _ h' F' N' fun p hp => Heap.lt_size (N p hp).1) (k _)) (by rw [sizeLine_eq]; omega)
theorem Holds.readL (hh : Holds c m cv l h) {D : Addr} {its : List Value} {n : Nat} {ds : List PyData} (i : Nat) (hi : atB l i = lst D its n) (ha : ∃ as, ReadsAll h its ds as) : ∃ as, Reads h (.ref D) (.list ds) as := by
  obtain ⟨as, ha⟩ := ha
  obtain ⟨mm, ns, F, N, hs⟩ := hh.at
  exact ⟨_, .list (N.get (hs i _ (atB_get hi) _ List.mem_cons_self)) rfl rfl ha⟩
theorem Holds.readT (hh : Holds c m cv l h) {D : Addr} {its : List Value} {ds : List PyData} (i : Nat) (hi : atB l i = Mine.tup D its) (ha : ∃ as, ReadsAll h its ds as) : ∃ as, Reads h (.ref D) (.tuple ds) as := by
  obtain ⟨as, ha⟩ := ha
  obtain ⟨mm, ns, F, N, hs⟩ := hh.at
  exact ⟨_, .tuple (N.get (hs i _ (atB_get hi) _ List.mem_cons_self)) rfl rfl ha⟩
theorem w_cmpNe {a b : Value} {K : KV} (da db : PyData) (ra : ∀ h, Holds c m cv l h → ∃ as, Reads h a da as) (rb : ∀ h, Holds c m cv l h → ∃ bs, Reads h b db bs) (sa : PySem.SeqAt.shaped da = true) (sb : PySem.SeqAt.shaped db = true) (hu : 64 ≤ u) (k : K (.bool (!PyData.eqv da db)) m cv l tk) : WE c (compareOp .NotEq a b) K m cv l tk :=
  .mk fun h hh => by
    obtain ⟨as, r1⟩ := ra h hh
    obtain ⟨bs, r2⟩ := rb h hh
    exact ne_dataH r1 r2 sa sb (by have := c.hu; omega) (Out.mk hh k)
theorem w_cmpEq {a b : Value} {K : KV} (da db : PyData) (ra : ∀ h, Holds c m cv l h → ∃ as, Reads h a da as) (rb : ∀ h, Holds c m cv l h → ∃ bs, Reads h b db bs) (sa : PySem.SeqAt.shaped da = true) (sb : PySem.SeqAt.shaped db = true) (hu : 64 ≤ u) (k : K (.bool (PyData.eqv da db)) m cv l tk) : WE c (compareOp .Eq a b) K m cv l tk :=
  .mk fun h hh => by
    obtain ⟨as, r1⟩ := ra h hh
    obtain ⟨bs, r2⟩ := rb h hh
    exact eq_dataH r1 r2 sa sb (by have := c.hu; omega) (Out.mk hh k)
end
theorem eq_two (x : Str) : PyData.eqv (dTwo x) (dTwoL x) = true := by
  unfold dTwo dTwoL; rw [svg_same, math_same]; simp only [PyData.eqv, PyData.eqvAll, beq_self_eq_true, Bool.and_true]
theorem sign_at {ls : List Str} {i : Nat} (h : i < ls.length) {β : Type} (f : Str → β) : (ls.take i).map f ++ [f (ls.getD i Str.empty)] = (ls.take (i + 1)).map f := by
  rw [List.take_add_one, List.map_append, List.getD_eq_getElem?_getD, List.getElem?_eq_getElem h]; rfl
set_option maxRecDepth 4000
set_option maxRecDepth 100000 in
set_option maxHeartbeats 1000000 in
theorem v_named (w : WG) (x : Str) (t : Tok) (d1 d2 : Addr) (o1 o2 : Obj) (hT1 : Tab w.w d1 o1 cTable) (hT2 : Tab w.w d2 o2 cModes2) :
    TrOk w 5 120 589 [.ref d1, .ref d2, .str x t] [one d1 o1, one d2 o2] (fun v => v = .bool true) := by
  refine' CallOk.ofCF (binds := [(Str.ofString "table", .ref d1), (Str.ofString "modes", .ref d2), (Str.ofString "name", .str x t)]) w.ok.f589 ?k1 ?k3 ?k4 ?k5 ?k6 ?k7 ?k8 ?k9 ?_
  case k1 => exact rfl
  case k3 => exact fun s _ _ _ _ _ _ _ _ _ _ X => BindsTo.of_eq rfl
  case k4 => exact rfl
  case k5 => exact rfl
  case k6 => exact rfl
  case k7 => exact rfl
  case k8 => decide +kernel
  case k9 => exact rfl
  intro c hf _ R tk
  refine (vcs_ok c hf [] 60).S ?_
  show WE _ _ _ _ _ _ _
  refine w_callP (v_special_html w _ _ _) rfl rfl ?_
  rintro _ tk1 rfl
  show WE _ _ _ _ _ _ _
  refine w_callP (v_formatting1 w _ _) rfl rfl ?_
  rintro _ tk1 rfl
  show WE _ _ _ _ _ _ _
  refine w_callP (v_heading w _ _) rfl rfl ?_
  rintro _ tk1 rfl
  show WE _ _ _ _ _ _ _
  refine w_callP (v_void w _ _) rfl rfl ?_
  rintro _ tk1 rfl
  show WE _ _ _ _ _ _ _
  refine w_callP (v_raw w _ _) rfl rfl ?_
  rintro _ tk1 rfl
  intro D1
  show WE _ _ _ _ _ _ _
  refine w_callP (v_part w _ _) rfl rfl ?_
  rintro _ tk1 rfl
  show WE _ _ _ _ _ _ _
  refine w_callP (v_mode w _ _) rfl rfl ?_
  rintro _ tk1 ⟨u1, rfl⟩
  intro D2
  show WE _ _ _ _ _ _ _
  refine w_addL 1 0 rfl rfl (Nat.le_of_ble_eq_true rfl) fun D3 => ?_
  show WM _ _ _ _ _ _ _ _
  refine w_mget 3 rfl hT1 ?_
  show WE _ _ _ _ _ _ _
  refine w_dget 3 rfl hT1 fun t3 => ?_
  show WE _ _ _ _ _ _ _
  refine w_comp hf (fun L => [(Str.ofString "letters", L + 1)]) (fun _ _ _ => by with_unfolding_all rfl) (fun _ => rfl) rfl (by decide) ?_
  refine (vce_ok c [] 10).E ?_
  show CompK _ _ _ _ _ _ _ _ _ _
  refine k_strU hf [(Str.ofString "letters", .str (sget cTable x) t3)] (ls := signs6) (by with_unfolding_all rfl) (by decide) (fun i ys l' => ys = (signs6.take i).map (fun s => .bool (inS s (sget cTable x))) ∧ l' = [lst D3 _ 0, lst D2 _ 0, lst D1 _ 0, one d1 o1, one d2 o2] ++ R) ⟨by decide, rfl, rfl, ⟨⟨rfl, fun _ => rfl⟩, trivial⟩, ⟨rfl, trivial⟩⟩ rfl rfl ⟨rfl, rfl⟩ ?_ ?_
  · rintro i _ _ _ tk' cc _ hi ⟨rfl, rfl⟩ ⟨tv, rfl⟩
    refine (vce_ok cc [] 10).E ?_
    exact ⟨sign_at hi _, rfl⟩
  rintro _ _ D4 tk4 ⟨rfl, rfl⟩
  show WM _ _ _ _ _ _ _ _
  refine w_mget 5 rfl hT2 ?_
  show WE _ _ _ _ _ _ _
  refine w_dget 5 rfl hT2 fun t5 => ?_
  intro D5
  show WE _ _ _ _ _ _ _
  refine w_addL 1 0 rfl rfl (Nat.le_of_ble_eq_true rfl) fun D6 => ?_
  show WE _ _ _ _ _ _ _
  refine w_cmpNe (dTold x) (dAsked x) (fun h hh => hh.readL 3 rfl ?_) (fun h hh => hh.readL 0 rfl ?_) (shaped_told x) (shaped_asked x) (by decide) ?_
  · exact ⟨_, .cons (.bool _) (.cons (.bool _) (.cons (.bool _) (.cons (.bool _) (.cons (.bool _) (.cons (.bool _) (.cons (.str _ _) .nil))))))⟩
  · exact ⟨_, .cons (.bool _) (.cons (.bool _) (.cons (.bool _) (.cons (.bool _) (.cons (.bool _) (.cons (.bool _) (.cons (.str _ _) .nil))))))⟩
  rw [told_asked]
  refine BR.f rfl ?_
  show WE _ _ _ _ _ _ _
  refine w_lstS rfl rfl fun D7 its7 tk7 hS7 => ?_
  show WE _ _ _ _ _ _ _
  refine w_inL 0 rfl hS7 ?_
  show WE _ _ _ _ _ _ _
  refine w_lstS rfl rfl fun D8 its8 tk8 hS8 => ?_
  show WE _ _ _ _ _ _ _
  refine w_inL 0 rfl hS8 ?_
  show WE _ _ _ _ _ _ _
  refine w_callP (v_special_svg w _ _ _) rfl rfl ?_
  rintro _ tk1 rfl
  show WE _ _ _ _ _ _ _
  refine w_callP (v_special_math w _ _ _) rfl rfl ?_
  rintro _ tk1 rfl
  show WE _ _ _ _ _ _ _
  refine w_callP (v_special_none w _ _ _) rfl rfl ?_
  rintro _ tk1 rfl
  intro D9 D10
  show WE _ _ _ _ _ _ _
  refine w_cmpEq (dTwo x) (dTwoL x) (fun h hh => hh.readL 1 rfl ?_) (fun h hh => hh.readL 0 rfl ?_) rfl rfl (by decide) ?_
  · exact ⟨_, .cons (.bool _) (.cons (.bool _) (.cons (.bool _) .nil))⟩
  · exact ⟨_, .cons (.bool _) (.cons (.bool _) (.cons (.bool _) .nil))⟩
  rw [eq_two]
  show Ends _ _ _ _ _ _ _
  exact Ends.mk (post := [_, _]) [10, 11] 12 rfl rfl ⟨rfl, rfl⟩
end
section
open PySem PySem.W PyProof.Rows PySem.Spec PySem.Calls PyProof.V
open V
set_option maxRecDepth 20000
section
variable {w : WG} {S : Scope} {r u : Nat} {c : Ct w S r u} {m cv : Lo} {l : Lb} {tk : Nat} {h : Heap}
theorem w_mod {a b : Int} {t t2 : Tok} {K : KV} (hb : 0 < b) (k : K (.int (a.fmod b) tk) m cv l (tk + 1)) : WE c (binaryOp .Mod (.int a t) (.int b t2)) K m cv l tk :=
  .mk fun h hh => AutoIntOps.mod_1 (by simp; omega) (Out.mk hh k)
theorem w_fdiv {a b : Int} {t t2 : Tok} {K : KV} (hb : 0 < b) (h2 : b < 1073741824) (k : K (.int (a.fdiv b) tk) m cv l (tk + 1)) : WE c (binaryOp .FloorDiv (.int a t) (.int b t2)) K m cv l tk :=
  .mk fun h hh => AutoIntOps.floordiv_1 (by simp; omega) (by rw [PyProof.noPylong_small (by omega)]; decide) (Out.mk hh k)
theorem w_mul {a b : Int} {t t2 : Tok} {K : KV} (h1 : 0 ≤ b) (h2 : b < 1073741824) (k : K (.int (a * b) tk) m cv l (tk + 1)) : WE c (binaryOp .Mult (.int a t) (.int b t2)) K m cv l tk :=
  .mk fun h hh => P.mul_int (Out.mk hh k) (IntMulOk.of_right (intBits_le_64 (by omega) (by omega)))
theorem w_cat {x y : Str} {t t2 : Tok} {K : KV} (hz : x.length + y.length ≤ 10000) (k : ∀ u tk', K (.str (x ++ y) u) m cv l tk') : WE c (binaryOp .Add (.str x t) (.str y t2)) K m cv l tk :=
  .mk fun h hh => KOpn.add (by omega) fun u tk' _ => Out.mk hh (k u tk')
theorem w_itemL {D : Addr} {its : List Value} {n B : Nat} {ss : List Str} {K : KV} {value slice : Expr} {k : Int} {t : Tok} (i : Nat) (hi : atB l i = lst D its n) (hs : notSlice slice = true) (hS : StrsAre its ss) (hz : ss.length ≤ 1000) (h0 : 0 ≤ k) (h1 : k < (ss.length : Int)) (hB : ∀ y ∈ ss, y.length ≤ B) (kk : ∀ y t, y.length ≤ B → K (.str y t) m cv l tk) :
    WE c (subscriptTail value slice (.ref D) (.int k t)) K m cv l tk := by
  obtain ⟨u, hu⟩ := strs_at hS k.toNat (by omega)
  refine w_item i hi hs (by rw [strs_len hS]; exact hz) h0 hu (kk _ _ (hB _ ?_))
  rw [List.getD_eq_getElem?_getD, List.getElem?_eq_getElem (by omega)]
  exact List.getElem_mem _
theorem w_mupper {x : Str} {t : Tok} {K : Value × List Value → KU} (k : K (.builtin "str.upper", [.str x t]) m cv l tk) : WM c (.str x t) (Str.ofString "upper") K m cv l tk :=
  .mk fun pl => .mk fun h hh => GM.upper (Out.mk hh k)
theorem w_upper {x : Str} {t : Tok} {K : KV} (hz : x.length ≤ 10000) (k : ∀ y u, K (.str y u) m cv l (tk + 1)) : WE c (call (.builtin "str.upper") [.str x t]) K m cv l tk :=
  .mk fun h hh => SCL.upper (by omega) fun _ => Out.mk hh (k _ _)
theorem Holds.push (hh : Holds c m cv l h) (o : Obj) : Holds c m cv l (h.push o) := by
  obtain ⟨mm, co, F, hi, N, a⟩ := hh
  exact ⟨mm, co, F.keeps fun _ _ e => Heap.get?_push_of_some _ e, hi, N.grown fun _ _ e => Heap.get?_push_of_some _ e, a⟩
theorem w_slN {x : Str} {t uj : Tok} {j : Int} {value slice : Expr} {K : KV} (hs : ∀ a, subscripted slice false (.str x t) (.ref a) = operate [.ref a, .str x t] (getItem (.str x t) (.ref a))) (ht : ∀ r, letTemporaryGo value (.str x t) r = pure ()) (hz : x.length ≤ 10000) (k : ∀ u tk', K (.str (Txt.slice x none (some j)) u) m cv l tk') : WSl c value slice (.str x t) .none (.int j uj) K m cv l tk :=
  .mk fun h hh => tail_of_ItemOn (SBH.sliceItem_ns (s := c.sh h tk) (P := Holds c m cv l) (fun h o hh => hh.push o) hh (fun h' t' k' hh' => Out.mk hh' (k t' k')) (by rw [sizeLine_eq]; omega)) (hs _) ht
theorem w_slS {x : Str} {t ui : Tok} {i : Int} {value slice : Expr} {K : KV} (hs : ∀ a, subscripted slice false (.str x t) (.ref a) = operate [.ref a, .str x t] (getItem (.str x t) (.ref a))) (ht : ∀ r, letTemporaryGo value (.str x t) r = pure ()) (hz : x.length ≤ 10000) (k : ∀ u tk', K (.str (Txt.slice x (some i) none) u) m cv l tk') : WSl c value slice (.str x t) (.int i ui) .none K m cv l tk :=
  .mk fun h hh => tail_of_ItemOn (SBH.sliceItem_sn (s := c.sh h tk) (P := Holds c m cv l) (fun h o hh => hh.push o) hh (fun h' t' k' hh' => Out.mk hh' (k t' k')) (by rw [sizeLine_eq]; omega)) (hs _) ht
theorem w_lenStr {x : Str} {t : Tok} {K : KV} (hz : x.length ≤ 10000) (k : K (.int x.length (tk + 1)) m cv l (tk + 1 + 1)) : WE c (call (.builtin "len") [.str x t]) K m cv l tk :=
  .mk fun h hh => len_str (by omega) (Out.mk hh k)
end
set_option maxRecDepth 100000 in
set_option maxHeartbeats 1000000 in
theorem v_spoiled (w : WG) (n k : Int) (t t2 : Tok) (a1 : Addr) (its : List Value) (n0 : Nat) (ss : List Str) (hS : StrsAre its ss) (hss : ss.length = 142) (hlen : ∀ y ∈ ss, y.length ≤ 20) (hk0 : 0 ≤ k) (hk1 : k < 12) :
    TrOk w 5 120 584 [.ref a1, .int n t, .int k t2] [lst a1 its n0] (fun v => ∃ x t, v = .str x t) := by
  have hil := strs_len hS
  refine' CallOk.ofF (binds := [(Str.ofString "names", .ref a1), (Str.ofString "number", .int n t), (Str.ofString "k", .int k t2)]) w.ok.f584 ?k1 ?k3 ?k4 ?k5 ?k6 ?k7 ?k8 ?k9 ?_
  case k1 => exact rfl
  case k3 => exact fun s _ _ _ _ _ _ _ _ _ _ X => BindsTo.of_eq rfl
  case k4 => exact rfl
  case k5 => exact rfl
  case k6 => exact rfl
  case k7 => exact rfl
  case k8 => exact rfl
  case k9 => exact rfl
  intro c hf _ R tk
  refine (vcs_ok c hf [] 60).S ?_
  show WE _ _ _ _ _ _ _
  refine w_mul hk0 (by omega) ?_
  show WE _ _ _ _ _ _ _
  refine w_len 0 rfl (by omega) ?_
  show WE _ _ _ _ _ _ _
  refine w_mod (by omega) ?_
  show WE _ _ _ _ _ _ _
  refine w_itemL 0 rfl rfl hS (by omega) (Int.fmod_nonneg_of_pos _ (by omega)) (by rw [← hil]; exact Int.fmod_lt_of_pos _ (by omega)) hlen fun name tn hn => ?_
  show WE _ _ _ _ _ _ _
  refine w_len 0 rfl (by omega) ?_
  show WE _ _ _ _ _ _ _
  refine w_fdiv (by omega) (by omega) ?_
  show WE _ _ _ _ _ _ _
  refine w_mul hk0 (by omega) ?_
  show WE _ _ _ _ _ _ _
  refine w_len 0 rfl (by omega) ?_
  show WE _ _ _ _ _ _ _
  refine w_mod (by omega) ?_
  show WE _ _ _ _ _ _ _
  refine w_itemL 0 rfl rfl hS (by omega) (Int.fmod_nonneg_of_pos _ (by omega)) (by rw [← hil]; exact Int.fmod_lt_of_pos _ (by omega)) hlen fun other to ho => ?_
  show WE _ _ _ _ _ _ _
  refine w_mod (by omega) ?_
  show WE _ _ _ _ _ _ _
  refine w_fdiv (by omega) (by omega) ?_
  show WE _ _ _ _ _ _ _
  refine w_lenStr (by omega) ?_
  show WE _ _ _ _ _ _ _
  refine w_mod (by omega) ?_
  have hsl := fun (x : Str) (i j : Option Int) => Txt.slice_le x i j
  refine BR.mk (fun h => ?_) fun h => ?_
  · skip
    show WE _ _ _ _ _ _ _
    refine w_cat (by omega) fun _ _ => ?_
    show Ends _ _ _ _ _ _ _
    exact Ends.mk (post := [_]) [0] 1 rfl rfl ⟨⟨_, _, rfl⟩, rfl⟩
  refine BR.mk (fun h => ?_) fun h => ?_
  · skip
    show WM _ _ _ _ _ _ _ _
    refine w_mupper ?_
    show WE _ _ _ _ _ _ _
    refine w_upper (by omega) fun _ _ => ?_
    show Ends _ _ _ _ _ _ _
    exact Ends.mk (post := [_]) [0] 1 rfl rfl ⟨⟨_, _, rfl⟩, rfl⟩
  refine BR.mk (fun h => ?_) fun h => ?_
  · skip
    show WSl _ _ _ _ _ _ _ _ _ _ _
    refine w_slN (fun _ => by with_unfolding_all rfl) (fun _ => by with_unfolding_all rfl) (by omega) fun _ _ => ?_
    show Ends _ _ _ _ _ _ _
    exact Ends.mk (post := [_]) [0] 1 rfl rfl ⟨⟨_, _, rfl⟩, rfl⟩
  refine BR.mk (fun h => ?_) fun h => ?_
  · skip
    show WSl _ _ _ _ _ _ _ _ _ _ _
    refine w_slN (fun _ => by with_unfolding_all rfl) (fun _ => by with_unfolding_all rfl) (by omega) fun _ _ => ?_
    show WSl _ _ _ _ _ _ _ _ _ _ _
    refine w_slS (fun _ => by with_unfolding_all rfl) (fun _ => by with_unfolding_all rfl) (by omega) fun _ _ => ?_
    show WE _ _ _ _ _ _ _
    refine w_cat (Nat.le_trans (Nat.add_le_add (hsl _ _ _) (hsl _ _ _)) (by omega)) fun _ _ => ?_
    show Ends _ _ _ _ _ _ _
    exact Ends.mk (post := [_]) [0] 1 rfl rfl ⟨⟨_, _, rfl⟩, rfl⟩
  refine BR.mk (fun h => ?_) fun h => ?_
  · skip
    show WSl _ _ _ _ _ _ _ _ _ _ _
    refine w_slN (fun _ => by with_unfolding_all rfl) (fun _ => by with_unfolding_all rfl) (by omega) fun _ _ => ?_
    show WE _ _ _ _ _ _ _
    refine w_cat (Nat.le_trans (Nat.add_le_add_right (hsl _ _ _) _) (by rw [show (Str.ofString "1").length = 1 from rfl]; omega)) fun _ _ => ?_
    show WSl _ _ _ _ _ _ _ _ _ _ _
    refine w_slS (fun _ => by with_unfolding_all rfl) (fun _ => by with_unfolding_all rfl) (by omega) fun _ _ => ?_
    show WE _ _ _ _ _ _ _
    refine w_cat (Nat.le_trans (Nat.add_le_add_left (hsl _ _ _) _) (by rw [PySem.Str.length_append, show (Str.ofString "1").length = 1 from rfl]; exact Nat.le_trans (Nat.add_le_add_right (Nat.add_le_add_right (hsl _ _ _) _) _) (by omega))) fun _ _ => ?_
    show Ends _ _ _ _ _ _ _
    exact Ends.mk (post := [_]) [0] 1 rfl rfl ⟨⟨_, _, rfl⟩, rfl⟩
  refine BR.mk (fun h => ?_) fun h => ?_
  · skip
    show WE _ _ _ _ _ _ _
    refine w_cat (by rw [show (Str.ofString " ").length = 1 from rfl]; omega) fun _ _ => ?_
    show Ends _ _ _ _ _ _ _
    exact Ends.mk (post := [_]) [0] 1 rfl rfl ⟨⟨_, _, rfl⟩, rfl⟩
  · skip
    show WSl _ _ _ _ _ _ _ _ _ _ _
    refine w_slN (fun _ => by with_unfolding_all rfl) (fun _ => by with_unfolding_all rfl) (by omega) fun _ _ => ?_
    show WSl _ _ _ _ _ _ _ _ _ _ _
    refine w_slS (fun _ => by with_unfolding_all rfl) (fun _ => by with_unfolding_all rfl) (by omega) fun _ _ => ?_
    show WE _ _ _ _ _ _ _
    refine w_cat (Nat.le_trans (Nat.add_le_add (hsl _ _ _) (hsl _ _ _)) (by omega)) fun _ _ => ?_
    show Ends _ _ _ _ _ _ _
    exact Ends.mk (post := [_]) [0] 1 rfl rfl ⟨⟨_, _, rfl⟩, rfl⟩
end
section
open PySem PySem.W PyProof.Rows PySem.Spec PySem.Calls PyProof.V
open V
set_option maxRecDepth 20000
set_option linter.unusedVariables false
theorem mem_dropB {l X R : Lb} {p : Addr × Obj} (n : Nat) (h : l.drop n = X ++ R) (hp : p ∈ X.flatten) : p ∈ l.flatten := by
  obtain ⟨b, hb, hpb⟩ := List.mem_flatten.mp hp
  exact List.mem_flatten.mpr ⟨b, List.mem_of_mem_drop (h ▸ List.mem_append_left _ hb), hpb⟩
theorem drop_apart {l : Lb} (n : Nat) (h : Apart l.flatten) : Apart (l.drop n).flatten := by
  have e : l.flatten = (l.take n).flatten ++ (l.drop n).flatten := by rw [← List.flatten_append, List.take_append_drop]
  rw [e] at h
  exact (apart_app.mp h).2.1
section
variable {w : WG} {S : Scope} {r u : Nat} {c : Ct w S r u} {m cv : Lo} {l : Lb} {tk : Nat} {h : Heap}
/-- what was made on the way is let go -/
theorem WE.shed {α : Type} {t : Sem α} {K : α → KU} (n : Nat) (H : WE c t (fun a m cv l tk => K a m cv (l.drop n) tk) m cv l tk) : WE c t K m cv l tk :=
  .mk fun _ hh => H.go hh fun _ _ _ l' _ _ hh hk => Out.mk (hh.sub (fun p hp => by
    obtain ⟨b, hb, hpb⟩ := List.mem_flatten.mp hp
    exact List.mem_flatten.mpr ⟨b, List.mem_of_mem_drop hb, hpb⟩) (drop_apart n hh.apart)) hk
theorem Holds.memG (hh : Holds c m cv l h) {p : Addr × Obj} (hp : p ∈ l.flatten) : h.get? p.1 = some p.2 := by
  obtain ⟨mm, co, F, hi, N, a⟩ := hh
  exact (N p (List.mem_append_right _ hp)).1
theorem w_itemTupM {D : Addr} {its : List Value} {K : KV} {value slice : Expr} {k : Int} {t : Tok} {x : Value} {j : Nat} (hm : (D, ({ cls := .type "tuple", data := .seq its.toArray } : Obj)) ∈ l.flatten) (hs : notSlice slice = true) (hj : seqIndex? k its.length = some j) (hx : its[j]? = some x) (h0 : -2 ^ 63 ≤ k) (h1 : k < 2 ^ 63) (kk : K x m cv l tk) :
    WE c (subscriptTail value slice (.ref D) (.int k t)) K m cv l tk :=
  .mk fun _ hh => item_tupleT ⟨_, hh.memG hm, rfl, _, rfl⟩ h0 h1 hj hx (Out.mk hh kk) (sub_not hs _ _)
theorem w_slL {D : Addr} {its ys : List Value} {n : Nat} {vl vu : Value} {lo hi : Option Int} {value slice : Expr} {K : KV} (i : Nat) (hi' : atB l i = lst D its n) (pl : IsPart vl lo) (pu : IsPart vu hi) (hy : slicePick its.toArray lo hi none = ys.toArray) (hz : its.length ≤ 1000)
    (hs : ∀ a, subscripted slice false (.ref D) (.ref a) = operate [.ref a, .ref D] (getItem (.ref D) (.ref a))) (ht : ∀ r, letTemporaryGo value (.ref D) r = pure ()) (k : ∀ D', K (.ref D') m cv (lst D' ys 0 :: l) tk) : WSl c value slice (.ref D) vl vu K m cv l tk :=
  .mk fun h hh => by
    have hl := hh.list i hi'
    obtain ⟨mm, ns, F, N, hm, fin⟩ := hh.news
    refine slice_list (s := c.sh h tk) F N hl pl pu (fun h' F' N' => ?_) (hs _) ht (by rw [List.size_toArray, sizeLine_eq]; omega)
    rw [hy] at N'
    exact Out.mk (fin _ _ h' F' N' fun p hp => Nat.lt_succ_of_lt (Heap.lt_size (N p hp).1)) (k _)
/-- is a pair in a list of two pairs -/
theorem w_inPairs {t l' a b : Addr} {sp nm : Str} {t1 t2 t3 t4 t5 t6 : Tok} {n : Nat} {K : KV} (i j k : Nat) (hm : (t, ({ cls := .type "tuple", data := .seq #[.str sp t1, .str nm t2] } : Obj)) ∈ l.flatten) (hl : atB l i = lst l' [.ref a, .ref b] n) (ha : atB l j = tup a [.str (Str.ofString "html") t3, .str (Str.ofString "table") t4]) (hb : atB l k = tup b [.str (Str.ofString "html") t5, .str (Str.ofString "template") t6])
    (hs : PyData.strOk sp = true) (hn : PyData.strOk nm = true) (hu : 64 ≤ u) (kk : K (.bool (isW (sp, nm) (Str.ofString "table") || isW (sp, nm) (Str.ofString "template"))) m cv l tk) : WE c (compareOp .In (.ref t) (.ref l')) K m cv l tk :=
  .mk fun h hh => by
    obtain ⟨as1, r1⟩ := hh.readT j ha (ds := [.str (Str.ofString "html"), .str (Str.ofString "table")]) ⟨_, .cons (.str _ _) (.cons (.str _ _) .nil)⟩
    obtain ⟨as2, r2⟩ := hh.readT k hb (ds := [.str (Str.ofString "html"), .str (Str.ofString "template")]) ⟨_, .cons (.str _ _) (.cons (.str _ _) .nil)⟩
    obtain ⟨as4, r4⟩ := hh.readL i hl ⟨_, .cons r1 (.cons r2 .nil)⟩
    have r3 : Reads h (.ref t) (.tuple [.str sp, .str nm]) _ := .tuple (hh.memG hm) rfl rfl (.cons (.str _ _) (.cons (.str _ _) .nil))
    refine SeqAt.in_list_reads r4 r3 (by decide +kernel) (by simp [PyData.canLay0, PyData.canLayAll0, hs, hn]) ?_ ?_
    · have : (PyData.depthAll [.tuple [.str (Str.ofString "html"), .str (Str.ofString "table")], .tuple [.str (Str.ofString "html"), .str (Str.ofString "template")]]) ≤ 10 := by decide +kernel
      have := c.hu
      omega
    · have e : ([PyData.tuple [.str (Str.ofString "html"), .str (Str.ofString "table")], .tuple [.str (Str.ofString "html"), .str (Str.ofString "template")]].any fun y => PyData.eqv y (.tuple [.str sp, .str nm])) = (isW (sp, nm) (Str.ofString "table") || isW (sp, nm) (Str.ofString "template")) := by
        simp only [List.any_cons, List.any_nil, Bool.or_false, PyData.eqv, PyData.eqvAll, isW, Bool.and_true]
        rw [Bool.eq_iff_iff]
        simp only [Bool.or_eq_true, Bool.and_eq_true, beq_iff_eq]
        constructor
        · rintro (⟨h1, h2⟩ | ⟨h1, h2⟩)
          · exact .inl ⟨h1.symm, h2.symm⟩
          · exact .inr ⟨h1.symm, h2.symm⟩
        · rintro (⟨h1, h2⟩ | ⟨h1, h2⟩)
          · exact .inl ⟨h1.symm, h2.symm⟩
          · exact .inr ⟨h1.symm, h2.symm⟩
      rw [e]; exact Out.mk hh kk
end
/-- the pairs of words that lie in the ledger -/
noncomputable def WordsAt (F : Ld) (its : List Value) (W : List (Str × Str)) : Prop := its.length = W.length ∧ ∀ (i : Nat) (s n : Str), W[i]? = some (s, n) → ∃ a t1 t2, its[i]? = some (Value.ref a) ∧ (a, ({ cls := .type "tuple", data := .seq #[.str s t1, .str n t2] } : Obj)) ∈ F ∧ PyData.strOk s = true ∧ PyData.strOk n = true
noncomputable def qTT (p : Str × Str) : Bool := isW p (Str.ofString "table") || isW p (Str.ofString "template")
noncomputable def below (W : List (Str × Str)) : List Str := (W.filter qTT).map (·.2)
theorem below_snoc {W : List (Str × Str)} {p : Str × Str} : below (W ++ [p]) = if qTT p then below W ++ [p.2] else below W := by
  unfold below
  rw [List.filter_append, List.map_append]
  cases h : qTT p
  · simp [List.filter_cons, h]
  · simp [List.filter_cons, h]
noncomputable def lastB (W : List (Str × Str)) : List Str := (below W).drop ((below W).length - 1)
theorem sel_last : ∀ (V : List (Str × Str)), selM V = if lastB V.reverse = [Str.ofString "table"] then Str.ofString "in select in table" else Str.ofString "in select"
  | [] => rfl
  | p :: r => by
    have ih := sel_last r
    have e := below_snoc (W := r.reverse) (p := p)
    unfold lastB at ih ⊢
    rw [List.reverse_cons, e]
    cases h : qTT p
    · rw [show (if false = true then below r.reverse ++ [p.2] else below r.reverse) = below r.reverse from if_neg (by decide)]
      unfold qTT at h
      rw [Bool.or_eq_false_iff] at h
      rw [sel_n h.2 h.1]; exact ih
    · rw [show (if true = true then below r.reverse ++ [p.2] else below r.reverse) = below r.reverse ++ [p.2] from if_pos rfl, List.length_append, List.length_singleton, Nat.add_sub_cancel, List.drop_left]
      unfold qTT at h
      by_cases h2 : (p.2 == Str.ofString "table") = true
      · rw [beq_iff_eq.mp h2, if_pos rfl]
        have e : isW p (Str.ofString "template") = false := by unfold isW; rw [beq_iff_eq.mp h2]; rw [show (Str.ofString "table" == Str.ofString "template") = false by decide +kernel, Bool.and_false]
        rw [e, Bool.or_false] at h
        exact sel_b e h
      · have h3 : (p.2 == Str.ofString "table") = false := by simpa using h2
        rw [if_neg (by intro q; rw [List.cons.injEq] at q; rw [q.1] at h2; exact h2 (by decide +kernel))]
        have e : isW p (Str.ofString "table") = false := by unfold isW; rw [h3, Bool.and_false]
        rw [e, Bool.false_or] at h
        exact sel_t h
theorem slice_last (its : List Value) : slicePick its.toArray (some (-1)) none none = (its.drop (its.length - 1)).toArray := by
  rw [slicePick_plain]
  have e : clipAt its.toArray.size (-1) = its.length - 1 := by
    unfold clipAt
    rw [List.size_toArray]
    simp
    omega
  simp only [Option.elim]
  rw [e, List.size_toArray]
  congr 1
  rw [List.take_of_length_le (by simp)]
theorem below_mem {W : List (Str × Str)} {x : Str} (h : x ∈ below W) : x = Str.ofString "table" ∨ x = Str.ofString "template" := by
  unfold below at h
  obtain ⟨p, hp, rfl⟩ := List.mem_map.mp h
  have := (List.mem_filter.mp hp).2
  unfold qTT isW at this
  simp only [Bool.or_eq_true, Bool.and_eq_true, beq_iff_eq] at this
  rcases this with h | h
  · exact .inl h.2
  · exact .inr h.2
theorem lastB_is (W : List (Str × Str)) : lastB W = [] ∨ lastB W = [Str.ofString "table"] ∨ lastB W = [Str.ofString "template"] := by
  have hl : (lastB W).length ≤ 1 := by unfold lastB; rw [List.length_drop]; omega
  have hm : ∀ x ∈ lastB W, x = Str.ofString "table" ∨ x = Str.ofString "template" := fun x hx => below_mem (List.mem_of_mem_drop hx)
  match lastB W, hl, hm with
  | [], _, _ => exact .inl rfl
  | [x], _, hm =>
    rcases hm x List.mem_cons_self with rfl | rfl
    · exact .inr (.inl rfl)
    · exact .inr (.inr rfl)
theorem lastB_ok (W : List (Str × Str)) : PySem.SeqAt.shaped (.list ((lastB W).map .str)) = true := by
  rcases lastB_is W with h | h | h <;> rw [h] <;> decide +kernel
theorem lastB_yes {W : List (Str × Str)} (h : PyData.eqv (.list ((lastB W).map .str)) (.list [.str (Str.ofString "table")]) = true) : selM W.reverse = Str.ofString "in select in table" := by
  rw [sel_last, List.reverse_reverse]
  rcases lastB_is W with e | e | e <;> rw [e] at h ⊢
  · exact absurd h (by decide +kernel)
  · exact if_pos rfl
  · exact absurd h (by decide +kernel)
theorem lastB_no {W : List (Str × Str)} (h : PyData.eqv (.list ((lastB W).map .str)) (.list [.str (Str.ofString "table")]) = false) : selM W.reverse = Str.ofString "in select" := by
  rw [sel_last, List.reverse_reverse]
  rcases lastB_is W with e | e | e <;> rw [e] at h ⊢
  · exact if_neg (by simp)
  · exact absurd h (by decide +kernel)
  · exact if_neg (by intro q; exact absurd q (by decide +kernel))
theorem hd_same (x : Str) : has ["td", "th", "head"] x = has ["head", "td", "th"] x := has_perm (fun s => by simp; grind) x
theorem mf6b {p : Str × Str} {sel top : Str} {hd z : Bool} (h : (p.1 != Str.ofString "html") = false) (h2 : (p.2 == Str.ofString "select") = false) (h3 : (p.2 == Str.ofString "template") = false) (h4 : (p.2 == Str.ofString "html") = false) (hz : z = true) (h5 : has ["head", "td", "th"] p.2 = true) : modeF p sel top hd z = Str.ofString "" := by
  subst hz; exact mf6 h h2 h3 h4 (by rw [hd_same]; exact h5)
theorem mf7a {p : Str × Str} {sel top : Str} {hd z : Bool} (h : (p.1 != Str.ofString "html") = false) (h2 : (p.2 == Str.ofString "select") = false) (h3 : (p.2 == Str.ofString "template") = false) (h4 : (p.2 == Str.ofString "html") = false) (hz : z = false) : modeF p sel top hd z = sget cModes2 p.2 := by
  subst hz; exact (mf7 h h2 h3 h4 rfl).trans (ok_all p.2).2.symm
theorem mf7b {p : Str × Str} {sel top : Str} {hd z : Bool} (h : (p.1 != Str.ofString "html") = false) (h2 : (p.2 == Str.ofString "select") = false) (h3 : (p.2 == Str.ofString "template") = false) (h4 : (p.2 == Str.ofString "html") = false) (hz : z = true) (h5 : has ["head", "td", "th"] p.2 = false) : modeF p sel top hd z = sget cModes2 p.2 := by
  subst hz; exact (mf7 h h2 h3 h4 (by rw [hd_same, h5]; rfl)).trans (ok_all p.2).2.symm
theorem StrsAre.drop : ∀ {vs : List Value} {ss : List Str}, StrsAre vs ss → ∀ k : Nat, StrsAre (vs.drop k) (ss.drop k)
  | _, _, h, 0 => h
  | _, _, .nil, _ + 1 => .nil
  | _, _, .cons _ _ h, k + 1 => StrsAre.drop h k
theorem reads_strs {h : Heap} : ∀ {vs : List Value} {ss : List Str}, StrsAre vs ss → ∃ as, ReadsAll h vs (ss.map .str) as
  | _, _, .nil => ⟨_, .nil⟩
  | _, _, .cons x t r => by
    obtain ⟨as, ha⟩ := reads_strs r
    exact ⟨_, .cons (.str _ _) ha⟩
set_option maxRecDepth 100000 in
set_option maxHeartbeats 1000000 in
theorem v_tells (w : WG) (ws ax md : Addr) (om : Obj) (hT : Tab w.w md om cModes2) (its : List Value) (W : List (Str × Str)) (X : Lb) (hW : WordsAt X.flatten its W) (hl : W.length ≤ 100) (s n : Str) (x6 x7 xj xt : Tok) (hx : (ax, ({ cls := .type "tuple", data := .seq #[.str s x6, .str n x7] } : Obj)) ∈ X.flatten) (y : Nat) (top : Str) (hd' : Bool) (j : Nat) (hj : j < W.length) :
    TrOk w 8 200 601 [.ref ws, .int (j : Int) xj, .ref ax, .str top xt, .bool hd', .ref md] (lst ws its y :: one md om :: X) (fun v => ∃ u, v = .str (modeF (s, n) (selM ((W.take j).reverse)) top (!hd') ((j : Int) == 0)) u) := by
  refine' CallOk.ofF (binds := [(Str.ofString "words", .ref ws), (Str.ofString "at", .int (j : Int) xj), (Str.ofString "word", .ref ax), (Str.ofString "top", .str top xt), (Str.ofString "has_head", .bool hd'), (Str.ofString "modes", .ref md)]) w.ok.f601 ?k1 ?k3 ?k4 ?k5 ?k6 ?k7 ?k8 ?k9 ?_
  case k1 => exact rfl
  case k3 => exact fun s _ _ _ _ _ _ _ _ _ _ X => BindsTo.of_eq rfl
  case k4 => exact rfl
  case k5 => exact rfl
  case k6 => exact rfl
  case k7 => exact rfl
  case k8 => exact rfl
  case k9 => exact rfl
  intro c hf _ R tk
  refine WE.cut (l' := lst ws its y :: one md om :: (X ++ R)) rfl ?_
  refine (vcs_ok c hf [] 60).S ?_
  have hil := hW.1
  have it0 : ∀ {l : Lb} {n0 : Nat}, l.drop n0 = X ++ R → (ax, ({ cls := .type "tuple", data := .seq #[.str s x6, .str n x7] } : Obj)) ∈ l.flatten := fun e => mem_dropB _ e hx
  show WE _ _ _ _ _ _ _
  refine w_itemTupM (its := [.str s x6, .str n x7]) (it0 (n0 := 2) rfl) rfl rfl rfl (by decide) (by decide) ?_
  refine BR.mk (fun h1 => ?_) fun h1 => ?_
  · show Ends _ _ _ _ _ _ _
    exact Ends.mk (post := lst ws its y :: one md om :: X) [0, 1] 2 rfl rfl ⟨str_of (mf1 (p := (s, n)) h1), rfl⟩
  show WE _ _ _ _ _ _ _
  refine w_itemTupM (its := [.str s x6, .str n x7]) (it0 (n0 := 2) rfl) rfl rfl rfl (by decide) (by decide) ?_
  refine BR.mk (fun h2 => ?_) fun h2 => ?_
  · show WE _ _ _ _ _ _ _
    refine w_compA hf (fun L => []) rfl (fun _ _ _ => by with_unfolding_all rfl) (fun _ _ _ => by with_unfolding_all rfl) (fun _ => rfl) rfl (by decide) ?_
    refine (vce_ok c [] 10).E ?_
    show WSl _ _ _ _ _ _ _ _ _ _ _
    refine w_slL 0 rfl .none (.int _ _) (slicePick_upto its.toArray j (by rw [List.size_toArray]; omega)) (by omega) (fun _ => by with_unfolding_all rfl) (fun _ => by with_unfolding_all rfl) fun D1 => ?_
    show CompK _ _ _ _ _ _ _ _ _ _
    refine k_listT (cl := fun _ => []) hf [] 0 rfl (by rw [List.length_take]; omega) (fun i zs l' => StrsAre zs (below ((W.take j).take i)) ∧ l' = lst D1 (its.take j) 0 :: lst ws its y :: one md om :: (X ++ R)) ⟨by decide, rfl, rfl, trivial, trivial⟩ rfl rfl ⟨.nil, rfl⟩ ?_ ?_ ?_
    · rintro i zs l' ⟨_, rfl⟩
      exact ⟨0, rfl⟩
    · rintro i zs _ v tk' cc hi ⟨hS, rfl⟩ hv
      rw [List.length_take] at hi
      have hij : i < j := by omega
      obtain ⟨⟨s', n'⟩, hWi⟩ : ∃ p, W[i]? = some p := ⟨_, List.getElem?_eq_getElem (by omega)⟩
      obtain ⟨a, t1, t2, e1, e2, e3, e4⟩ := hW.2 i s' n' hWi
      rw [List.getElem?_take_of_lt hij, e1] at hv
      cases hv
      have hb : below ((W.take j).take (i + 1)) = if qTT (s', n') then below ((W.take j).take i) ++ [n'] else below ((W.take j).take i) := by
        rw [List.take_add_one, List.getElem?_take_of_lt hij, hWi]
        exact below_snoc
      have it1 : ∀ {l : Lb} {n0 : Nat}, l.drop n0 = X ++ R → (a, ({ cls := .type "tuple", data := .seq #[.str s' t1, .str n' t2] } : Obj)) ∈ l.flatten := fun e => mem_dropB _ e e2
      refine WE.shed 3 ?_
      refine (vce_ok cc [] 20).T ?_
      intro Da Db Dl
      show WE _ _ _ _ _ _ _
      refine w_inPairs 0 2 1 (it1 (n0 := 6) rfl) rfl rfl rfl e3 e4 (by decide) ?_
      refine BR.mk (fun hq => ?_) fun hq => ?_
      · refine (vce_ok cc [] 10).E ?_
        show WE _ _ _ _ _ _ _
        refine w_itemTupM (its := [.str s' t1, .str n' t2]) (it1 (n0 := 3) rfl) rfl rfl rfl (by decide) (by decide) ?_
        exact ⟨by rw [hb, show qTT (s', n') = true from hq, if_pos rfl]; exact strs_snoc hS, rfl⟩
      · exact ⟨by rw [hb, show qTT (s', n') = false from hq]; exact hS, rfl⟩
    rintro zs _ D2 tk2 ⟨hS, rfl⟩
    rw [List.length_take, show min j its.length = j by omega, List.take_take, Nat.min_self] at hS
    have hz : zs.length ≤ 100 := by
      rw [strs_len hS]
      unfold below
      rw [List.length_map]
      exact Nat.le_trans (List.length_filter_le _ _) (by rw [List.length_take]; omega)
    show WSl _ _ _ _ _ _ _ _ _ _ _
    refine w_slL 0 rfl (.int _ _) .none (slice_last zs) (by omega) (fun _ => by with_unfolding_all rfl) (fun _ => by with_unfolding_all rfl) fun D3 => ?_
    intro D4
    show WE _ _ _ _ _ _ _
    have hS2 := StrsAre.drop hS (zs.length - 1)
    rw [strs_len hS] at hS2
    refine w_cmpEq (.list ((lastB (W.take j)).map .str)) (.list [.str (Str.ofString "table")]) (fun h hh => hh.readL 1 rfl ?_) (fun h hh => hh.readL 0 rfl ?_) ?_ (by decide +kernel) (by decide) ?_
    · rw [strs_len hS]
      exact reads_strs hS2
    · exact ⟨_, .cons (.str _ _) .nil⟩
    · exact lastB_ok _
    refine BR.mk (fun h3 => ?_) fun h3 => ?_
    · skip
      show Ends _ _ _ _ _ _ _
      exact Ends.mk (post := lst ws its y :: one md om :: X) [4, 5] 6 rfl rfl ⟨str_of ((mf2 (p := (s, n)) h1 h2).trans (lastB_yes h3)), rfl⟩
    · skip
      show Ends _ _ _ _ _ _ _
      exact Ends.mk (post := lst ws its y :: one md om :: X) [4, 5] 6 rfl rfl ⟨str_of ((mf2 (p := (s, n)) h1 h2).trans (lastB_no h3)), rfl⟩
  show WE _ _ _ _ _ _ _
  refine w_itemTupM (its := [.str s x6, .str n x7]) (it0 (n0 := 2) rfl) rfl rfl rfl (by decide) (by decide) ?_
  refine BR.mk (fun h3 => ?_) fun h3 => ?_
  · skip
    show Ends _ _ _ _ _ _ _
    exact Ends.mk (post := lst ws its y :: one md om :: X) [0, 1] 2 rfl rfl ⟨str_of (mf3 (p := (s, n)) h1 h2 h3), rfl⟩
  show WE _ _ _ _ _ _ _
  refine w_itemTupM (its := [.str s x6, .str n x7]) (it0 (n0 := 2) rfl) rfl rfl rfl (by decide) (by decide) ?_
  refine BR.mk (fun h4 => ?_) fun h4 => ?_
  · refine BR.mk (fun h5 => ?_) fun h5 => ?_
    · skip
      show Ends _ _ _ _ _ _ _
      exact Ends.mk (post := lst ws its y :: one md om :: X) [0, 1] 2 rfl rfl ⟨str_of (mf5 (p := (s, n)) h1 h2 h3 h4 (by rw [h5]; rfl)), rfl⟩
    · skip
      show Ends _ _ _ _ _ _ _
      exact Ends.mk (post := lst ws its y :: one md om :: X) [0, 1] 2 rfl rfl ⟨str_of (mf4 (p := (s, n)) h1 h2 h3 h4 (by rw [h5]; rfl)), rfl⟩
  refine BR.mk (fun h5 => ?_) fun h5 => BR.f rfl ?_
  · show WE _ _ _ _ _ _ _
    refine w_itemTupM (its := [.str s x6, .str n x7]) (it0 (n0 := 2) rfl) rfl rfl rfl (by decide) (by decide) ?_
    show WE _ _ _ _ _ _ _
    refine w_lstS rfl rfl fun D its1 tk' hS => ?_
    show WE _ _ _ _ _ _ _
    refine w_inL 0 rfl hS ?_
    refine BR.mk (fun h6 => BR.t rfl ?_) fun h6 => BR.f rfl ?_
    · skip
      show Ends _ _ _ _ _ _ _
      exact Ends.mk (post := lst ws its y :: one md om :: X) [1, 2] 3 rfl rfl ⟨str_of (mf6b (p := (s, n)) h1 h2 h3 h4 h5 h6), rfl⟩
    · skip
      show WM _ _ _ _ _ _ _ _
      refine w_mget 2 rfl hT ?_
      show WE _ _ _ _ _ _ _
      refine w_itemTupM (its := [.str s x6, .str n x7]) (it0 (n0 := 3) rfl) rfl rfl rfl (by decide) (by decide) ?_
      show WE _ _ _ _ _ _ _
      refine w_dget 2 rfl hT fun t => ?_
      show Ends _ _ _ _ _ _ _
      exact Ends.mk (post := lst ws its y :: one md om :: X) [1, 2] 3 rfl rfl ⟨str_of (mf7b (p := (s, n)) h1 h2 h3 h4 h5 h6), rfl⟩
  · skip
    show WM _ _ _ _ _ _ _ _
    refine w_mget 1 rfl hT ?_
    show WE _ _ _ _ _ _ _
    refine w_itemTupM (its := [.str s x6, .str n x7]) (it0 (n0 := 2) rfl) rfl rfl rfl (by decide) (by decide) ?_
    show WE _ _ _ _ _ _ _
    refine w_dget 1 rfl hT fun t => ?_
    show Ends _ _ _ _ _ _ _
    exact Ends.mk (post := lst ws its y :: one md om :: X) [0, 1] 2 rfl rfl ⟨str_of (mf7a (p := (s, n)) h1 h2 h3 h4 h5), rfl⟩
end
section
open PySem PySem.W PyProof.Rows PySem.Spec PySem.Calls PyProof.V
open V
set_option maxRecDepth 20000
set_option linter.unusedVariables false
section
variable {w : WG} {S : Scope} {r u : Nat} {c : Ct w S r u} {m cv : Lo} {l : Lb} {tk : Nat} {h : Heap}
theorem w_msplit {x : Str} {t : Tok} {K : Value × List Value → KU} (k : K (.builtin "str.split", [.str x t]) m cv l tk) : WM c (.str x t) (Str.ofString "split") K m cv l tk :=
  .mk fun pl => .mk fun h hh => GM.split (Out.mk hh k)
theorem w_split {x : Str} {t : Tok} {K : KV} (hz : x.length ≤ 200) (k : ∀ D its tk', StrsAre its (Txt.words x) → K (.ref D) m cv (lst D its 0 :: l) tk') : WE c (call (.builtin "str.split") [.str x t]) K m cv l tk :=
  .mk fun h hh => by
    obtain ⟨mm, ns, F, N, hm, fin⟩ := hh.news
    exact KSpl.split0 F N (fun D l' h' k' e a F' N' lt => Out.mk (fin D _ h' F' N' lt) (k D _ _ (by rw [← e]; exact a))) (by rw [sizeLine_eq]; omega)
theorem w_putS {d : Addr} {o : Obj} {T : List (Str × Str)} {x v : Str} {t tv : Tok} {K : Unit → KU} (i : Nat) (hi : atB l i = one d o) (hT : TabG w.w d o T) (hl : T.length ≤ 1000) (k : ∀ o', TabG w.w d o' (tput T x v) → K () m cv (setB (one d o') i l) (tk + 1)) : WE c (setItem (.ref d) (.str x t) (.str v tv)) K m cv l tk :=
  .mk fun h hh => by
    obtain ⟨mm, ns, g, F, N, U, fin⟩ := hh.turnedF (atB_get hi) List.mem_cons_self
    refine r_put F N U hT hl fun h' o' F' N' hT' => Out.mk ?_ (k o' hT')
    have e : setK d o' (one d o) = one d o' := by
      show (if d = d then (d, o') else (d, o)) :: [] = _
      rw [if_pos rfl]
    have := fin h' o' F' N'
    rw [e] at this
    exact this
theorem rows_args {pos : Pos} : ∀ (elts : List Expr) (X : Ld) (l : Lb) (tk : Nat) (K : List Value → KU), allRow elts = true → (∀ vs X' tk', RowsAre X' vs (rowsOf elts) → (∀ p ∈ X, p ∈ X') → K vs m cv (X' :: l) tk') → WE c (spliced (backTo pos (starEach elts c.ev))) K m cv (X :: l) tk
  | [], X, l, tk, K, _, k => .mk fun h hh => args_nil (Out.mk hh (k [] X tk .nil fun _ h => h))
  | e :: es, X, l, tk, K, hl, k => .mk fun h hh => by
    have h1 : (rowOf e).isSome = true := (Bool.and_eq_true_iff.mp hl).1
    have h2 : allRow es = true := (Bool.and_eq_true_iff.mp hl).2
    obtain ⟨a, b, k0, p, x, y, rfl, ha, hb, hr⟩ := row_inv h1
    have hrow : rowsOf (.Tuple [a, b] k0 p :: es) = (x, y) :: rowsOf es := by show (rowOf (.Tuple [a, b] k0 p)).getD (Str.empty, Str.empty) :: rowsOf es = _; rw [hr]; rfl
    rw [hrow] at k
    have key : WE c (eval (.Tuple [a, b] k0 p) c.ev) (fun v => WE c (spliced (backTo pos (starEach es c.ev))) fun vs => K (v :: vs)) m cv (X :: l) tk := by
      refine w_tupS (by simp [allStr, ha, hb]) rfl fun D its tk' hS => ?_
      obtain ⟨t, u, rfl⟩ := two_inv (x := x) (y := y) (by simpa [strsOf, ha, hb] using hS)
      refine WE.cut (l' := ((D, _) :: X) :: l) rfl ?_
      exact rows_args es _ l tk' _ h2 fun vs X' tk2 H hs => k _ X' tk2 (.cons (hs _ List.mem_cons_self) H) fun p hp => hs _ (List.mem_cons_of_mem _ hp)
    exact args_cons (key.go hh fun v _ _ _ _ _ hh k => k.go hh fun vs _ _ _ _ _ hh k => Out.mk hh k) (star_row h1 es)
/-- a display of rows: all its tuples lie in one block -/
theorem w_lstR {elts : List Expr} {pos : Pos} {K : KV} (hl : allRow elts = true) (hz : Nat.ble (rowsOf elts).length 1000 = true) (kk : ∀ D its X tk', RowsAre X its (rowsOf elts) → K (.ref D) m cv (lst D its 0 :: X :: l) tk') : WE c (eval (.List elts pos) c.ev) K m cv l tk :=
  .mk fun h hh => by
    have key : WE c (spliced (backTo pos (starEach elts c.ev))) (fun vs m cv l tk => vs.length ≤ 1000 ∧ ∀ D, K (.ref D) m cv (lst D vs 0 :: l) tk) m cv l tk := by
      refine WE.cut (l' := [] :: l) rfl ?_
      exact rows_args elts [] l tk _ hl fun vs X tk' H _ => ⟨by rw [rows_len H]; exact Nat.le_of_ble_eq_true hz, fun D => kk D vs X tk' H⟩
    refine List_ (key.go hh fun vs _ _ _ _ _ hh k => ?_)
    obtain ⟨mm, ns, F, N, hm, fin⟩ := hh.news
    exact newList_N F N (fun h' F' N' => Out.mk (fin _ _ h' F' N' fun p hp => Heap.lt_size (N p hp).1) (k.2 _)) (by rw [sizeLine_eq]; omega)
theorem Holds.thin {l' : Lb} (hh : Holds c m cv l h) (hs : l'.flatten.Sublist l.flatten) : Holds c m cv l' h :=
  hh.sub (fun p hp => hs.subset hp) (List.Sublist.nodup (hs.map _) hh.apart)
theorem WE.thin {α : Type} {t : Sem α} {K K' : α → KU} (H : WE c t K' m cv l tk) (k : ∀ a m cv l tk, K' a m cv l tk → ∃ l', l'.flatten.Sublist l.flatten ∧ K a m cv l' tk) : WE c t K m cv l tk :=
  .mk fun _ hh => H.go hh fun _ _ _ _ _ _ hh hk => by
    obtain ⟨l', hs, hk⟩ := k _ _ _ _ _ hk
    exact Out.mk (hh.thin hs) hk
/-- what holds when some blocks are let go -/
noncomputable def Thin {α : Type} (K : α → KU) : α → KU := fun a m cv l tk => ∃ l', (∀ p ∈ l'.flatten, p ∈ l.flatten) ∧ (Apart l.flatten → Apart l'.flatten) ∧ K a m cv l' tk
theorem Thin.mk {α : Type} {K : α → KU} {a : α} {l' : Lb} (is : List Nat) (n : Nat) (hn : nd is = true) (k : K a m cv l' tk) (e : (Mine.pick is n l).flatten = l'.flatten) : Thin K a m cv l tk :=
  ⟨l', fun _ hp => pick_sub _ (e.symm ▸ hp), fun q => e ▸ pick_apart hn q, k⟩
/-- ways that meet: what P says of the end is all that is known behind -/
theorem WE.joinT {α : Type} {t : Sem α} {K : α → KU} (P : (α → KU) → Prop) (h1 : ∀ KJ, P KJ → WE c t (Thin KJ) m cv l tk) (h2 : P K) : WE c t K m cv l tk :=
  .mk fun _ hh => (h1 K h2).go hh fun _ _ _ _ _ _ hh ⟨_, hs, ha, hk⟩ => Out.mk (hh.sub hs (ha hh.apart)) hk
theorem ForK.pick {x : Str} {body : List Stmt} {K : Flow → KU} {xv : Value} {l' : Lb} (is : List Nat) (n : Nat) (hn : nd is = true) (e : Mine.pick is n l = l') (H : ForK c x body K xv m cv l' tk) : ForK c x body K xv m cv l tk :=
  .mk fun h hh => H.run (e ▸ hh.sub (fun p hp => pick_sub p hp) (pick_apart hn hh.apart))
theorem w_addR {a b : Addr} {i1 i2 : List Value} {n1 n2 : Nat} {X1 X2 : Ld} {r1 r2 : List (Str × Str)} {l0 : Lb} {K : KV} (H1 : RowsAre X1 i1 r1) (H2 : RowsAre X2 i2 r2) (hz : r1.length + r2.length ≤ 1000) (hl : l = lst b i2 n2 :: X2 :: lst a i1 n1 :: X1 :: l0) (k : ∀ D its X, RowsAre X its (r1 ++ r2) → K (.ref D) m cv (lst D its 0 :: X :: l0) tk) : WE c (binaryOp .Add (.ref a) (.ref b)) K m cv l tk := by
  subst hl
  refine WE.thin (K' := fun v m' cv' l' tk' => ∃ D, v = .ref D ∧ m' = m ∧ cv' = cv ∧ tk' = tk ∧ l' = lst D (i1 ++ i2) 0 :: lst b i2 n2 :: X2 :: lst a i1 n1 :: X1 :: l0) (w_addL 2 0 rfl rfl (by rw [rows_len H1, rows_len H2]; exact hz) fun D => ⟨D, rfl, rfl, rfl, rfl, rfl⟩) ?_
  rintro v m' cv' l' tk' ⟨D, rfl, rfl, rfl, rfl, rfl⟩
  refine ⟨lst D (i1 ++ i2) 0 :: (X2 ++ X1) :: l0, ?_, k D _ _ (rows_app (H1.mono fun p hp => List.mem_append_right _ hp) (H2.mono fun p hp => List.mem_append_left _ hp))⟩
  show ((D, W.listOf (i1 ++ i2).toArray 0) :: ((X2 ++ X1) ++ l0.flatten)).Sublist ((D, W.listOf (i1 ++ i2).toArray 0) :: (b, W.listOf i2.toArray n2) :: (X2 ++ ((a, W.listOf i1.toArray n1) :: (X1 ++ l0.flatten))))
  rw [List.append_assoc]
  exact .cons_cons _ (.cons _ (List.Sublist.append (List.Sublist.refl _) (.cons _ (List.Sublist.refl _))))
@[irreducible] noncomputable def ForT (c : Ct w S r u) (target : Expr) (body : List Stmt) (K : Flow → KU) (xv : Value) : KU := fun m cv l tk => ∀ h, Holds c m cv l h →
  wpAny (model Pr w.w) c.A (pyIter xv) (fun it s₂ => TurnsAt Pr w.w c.A c.h₀ c.ev target body (Out c K) c.E it s₂) c.E (c.sh h tk)
theorem ForT.mk {target : Expr} {body : List Stmt} {K : Flow → KU} {xv : Value} (H : ∀ h, Holds c m cv l h →
  wpAny (model Pr w.w) c.A (pyIter xv) (fun it s₂ => TurnsAt Pr w.w c.A c.h₀ c.ev target body (Out c K) c.E it s₂) c.E (c.sh h tk)) : ForT c target body K xv m cv l tk := by delta ForT; exact H
theorem ForT.run {target : Expr} {body : List Stmt} {K : Flow → KU} {xv : Value} (H : ForT c target body K xv m cv l tk) (hh : Holds c m cv l h) : wpAny (model Pr w.w) c.A (pyIter xv) (fun it s₂ => TurnsAt Pr w.w c.A c.h₀ c.ev target body (Out c K) c.E it s₂) c.E (c.sh h tk) := by delta ForT at H; exact H h hh
theorem w_forT (hf : FnFrame c) {target iter : Expr} {pos : Pos} {body : List Stmt} {K : Flow → KU} (hs : ∀ v, foldedSetIterable iter c.ev v = pure v) (k : WE c (eval iter c.ev) (fun xv => ForT c target body K xv) m cv l tk) :
    WE c (exec (.For target iter body [] pos) c.ev) K m cv l tk := .mk fun _ hh => by
  have hh' := hh
  obtain ⟨mm, co, F, hi, N, a⟩ := hh'
  have hl := hf.locals
  exact For_turns (h₀ := c.h₀) (m := mm) (by rw [hl]; exact F) (k.go hh fun xv _ _ _ _ _ hh k => k.run hh) hs hf.po
/-- a loop over a list of pairs -/
theorem w_overP (hf : FnFrame c) {xa xb : Str} {pa pb tp : Pos} {tc} {body : List Stmt} {K : Flow → KU} (hxa : S.names.lookup xa = some .local) (hxb : S.names.lookup xb = some .local) {D : Addr} {its : List Value} {n : Nat} (m0 cv0 : Lo) (j : Nat) (hj : atB l j = lst D its n) (J : Nat → Lb → Prop) (hm : LoSub m0 m) (hv : LoSub cv0 cv) (h0 : J 0 l)
    (keep : ∀ i l, J i l → ∃ j, atB l j = lst D its n)
    (turn : ∀ i v l, its[i]? = some v → J i l → ∃ (t : Addr) (ot : Obj) (v₁ v₂ : Value) (nt : Nat), v = .ref t ∧ (t, ot) ∈ l.flatten ∧ ot.cls = .type "tuple" ∧ ot.data = .seq #[v₁, v₂] nt ∧
      ∀ tk (c2 : Ct w S r u), FnFrame c2 → c2.base = c.base → c2.ev = c.ev → WE c2 (execs body c2.ev) (TurnJ K m0 cv0 (J (i + 1))) (setL xb v₂ (setL xa v₁ m0)) cv0 l tk)
    (done : ∀ l tk, J its.length l → K .next m0 cv0 l tk) : ForT c (.Tuple [.Name xa pa, .Name xb pb] tc tp) body K (.ref D) m cv l tk := .mk fun h hh => by
  have hh := Holds.less hf hm hv hh
  obtain ⟨mm, co, F, hi, N, a⟩ := hh
  have hl := hf.locals
  have mem : ∀ {l : Lb}, (∃ j, atB l j = lst D its n) → (D, W.listOf its.toArray n) ∈ l.flatten := fun ⟨j, hj⟩ => mem_block (atB_get hj) List.mem_cons_self
  have F' : Fr c.h₀ c.ev.locals h mm := by rw [hl]; exact F
  have N' : News c.h₀ c.ev.locals h (co ++ l.flatten) := by rw [hl]; exact N
  refine turns_listJ (s := c.sh h tk) (JOf c m0 cv0 J) c.hn F' N' (List.mem_append_right _ (mem ⟨j, hj⟩)) rfl rfl ⟨co, l, rfl, hi, a, h0⟩ ?_ ?_ ?_
  · rintro i mm ns ⟨co, l, rfl, _, _, hJ⟩
    exact List.mem_append_right _ (mem (keep i l hJ))
  · rintro i v I it mm ns h tk hv ⟨co, l, rfl, hi, ap, hJ⟩ off F N
    obtain ⟨t, ot, v₁, v₂, nt, rfl, hmt, hct, hdt, go⟩ := turn i v l hv hJ
    have ht : IsTup h t #[v₁, v₂] := ⟨ot, (N _ (List.mem_cons_of_mem _ (List.mem_append_right _ hmt))).1, hct, nt, hdt⟩
    have hk : (c.ev.scope.kind == .class || (c.ev.scope.kind == .module && c.ev.locals != c.ev.globals)) = false := by
      obtain ⟨cn, a', ccd, hid, he, _⟩ := hf.e
      rw [he]; show (S.kind == .class || (S.kind == .module && _)) = false; rw [hf.k]; rfl
    have kd : ∀ {y}, S.names.lookup y = some .local → c.ev.kindOf y = some .local := fun {y} e => by
      obtain ⟨cn, a', ccd, hid, he, _⟩ := hf.e
      rw [he]; exact e
    have L₀ : c.h₀.get? c.L = none := by rw [← hl]; exact Heap.get?_none_of_le F.above
    have nL : ∀ p ∈ (I, it) :: (co ++ l.flatten), p.1 ≠ c.L := fun p hp => by rw [← hl]; exact (N p hp).2.1
    refine assign_Tuple_tuple (s := c.sh h tk) c.hn ht rfl rfl fun h₅ he => ?_
    have he' : ∀ b o, h.get? b = some o → h₅.get? b = some o := fun b o e => he b o (Nat.ne_of_lt (Heap.lt_size e)) e
    refine assignInOrder_cons (wpAny_assign_Name (wpAny_storeName_local (kd hxa) (F.ns.at' fun o e => he' _ o e) (fun h₆ hn₆ hs₆ => ?_) hk))
    refine assignInOrder_cons (wpAny_assign_Name (wpAny_storeName_local (kd hxb) hn₆ (fun h₃ hn₃ hs₃ => ?_) hk))
    refine assignInOrder_nil ?_
    rw [hl] at hs₆ hs₃ hn₃ F N ⊢
    have old3 : ∀ b o, b ≠ c.L → h.get? b = some o → h₃.get? b = some o := fun b o hb e => hs₃.extBut b o hb (hs₆.extBut b o hb (he' b o e))
    have F₃ : Fr c.h₀ c.L h₃ (fun y => if y = xb then some v₂ else (fun y => if y = xa then some v₁ else mm y) y) := ⟨hn₃, fun b o e => old3 b o (fun q => by rw [q, L₀] at e; cases e) (F.keep b o e), F.above⟩
    have N₃ : News c.h₀ c.L h₃ ((I, it) :: (co ++ l.flatten)) := fun p hp => ⟨old3 _ _ (nL p hp) (N p hp).1, (N p hp).2⟩
    exact turn_ok hf hxb (fun _ _ _ _ _ _ h1 h2 h3 => ⟨_, _, rfl, hf.less h3.1.get h3.2.1.get h1, h2, h3.2.2⟩) (hf.setInv hxa hi) ap off F₃ N₃ (go _ (Ct.hide c (I, it)) (hf.hide _) rfl rfl)
  · rintro mm ns h tk ⟨co, l, rfl, hi, ap, hJ⟩ F N
    rw [hl] at F N
    exact Out.mk ⟨mm, co, F, hi, N, ap⟩ (done l tk hJ)
end
end
section
open PySem PySem.W PyProof.Rows PySem.Spec PySem.Calls PyProof.V
open V
set_option maxRecDepth 20000
set_option linter.unusedVariables false
noncomputable def rM : List (Str × Str) := [(Str.ofString "in cell", Str.ofString "td th"), (Str.ofString "in row", Str.ofString "tr"), (Str.ofString "in table body", Str.ofString "tbody tfoot thead"), (Str.ofString "in caption", Str.ofString "caption"), (Str.ofString "in column group", Str.ofString "colgroup"), (Str.ofString "in table", Str.ofString "table"), (Str.ofString "in head", Str.ofString "head"), (Str.ofString "in body", Str.ofString "body")]
noncomputable def rT : List (Str × Str) := [(Str.ofString "sv", Str.ofString "area base br col embed hr img input link meta source track wbr"), (Str.ofString "st", Str.ofString "table"), (Str.ofString "sr", Str.ofString "iframe noembed noframes plaintext script style xmp"), (Str.ofString "stj", Str.ofString "tbody tfoot thead tr"), (Str.ofString "sj", Str.ofString "caption colgroup td th"), (Str.ofString "sh", Str.ofString "h1 h2 h3 h4 h5 h6"), (Str.ofString "si", Str.ofString "dd dt li p"), (Str.ofString "i", Str.ofString "optgroup option rb rp rt rtc"), (Str.ofString "f", Str.ofString "a b big code em font i nobr s small strike strong tt u"), (Str.ofString "s", Str.ofString "address applet article aside basefont bgsound blockquote body button center details dir"), (Str.ofString "s", Str.ofString "div dl fieldset figcaption figure footer form frame frameset head header hgroup html"), (Str.ofString "s", Str.ofString "keygen listing main marquee menu nav noscript object ol param pre search section select"), (Str.ofString "s", Str.ofString "summary template textarea title ul"), (Str.ofString "", Str.ofString "abbr acronym audio bdi canvas cite datalist del dialog dfn h7 image ins kbd label legend map"), (Str.ofString "", Str.ofString "math output q rbc ruby span sub svg video isindex mi mo mn ms mtext annotation-xml mrow"), (Str.ofString "", Str.ofString "foreignObject foreignobject desc malignmark font-face")]
noncomputable abbrev filled (rs : List (Str × Str)) (T : List (Str × Str)) : List (Str × Str) := rs.foldl (fun T r => tfill T (Txt.words r.2) r.1) T
theorem filled_next {rs : List (Str × Str)} {i : Nat} {x y : Str} {T : List (Str × Str)} (h : rs[i]? = some (x, y)) : filled (rs.take (i + 1)) T = tfill (filled (rs.take i) T) (Txt.words y) x := by
  unfold filled
  rw [List.take_add_one, h, List.foldl_append]; rfl
theorem tfill_next {T : List (Str × Str)} {ws : List Str} {k : Nat} {x : Str} (h : k < ws.length) : tfill T (ws.take (k + 1)) x = tput (tfill T (ws.take k) x) (ws.getD k Str.empty) x := by
  unfold tfill
  rw [List.take_add_one, List.getD_eq_getElem?_getD, List.getElem?_eq_getElem h, List.foldl_append]; rfl
theorem Tab.toG {w : WG} {d : Addr} {o : Obj} {S : List (String × String)} (h : Tab w.w d o S) : TabG w.w d o (S.map fun p => (Str.ofString p.1, Str.ofString p.2)) := by
  obtain ⟨lo, kvs, h1, h2⟩ := h
  refine ⟨lo, kvs, h1, ?_⟩
  have e2 : dT (S.map fun p => (Str.ofString p.1, Str.ofString p.2)) = dS S := by unfold dT dS; rw [List.map_map]; rfl
  exact e2 ▸ h2
noncomputable def TabPost (w : WG) (T : List (String × String)) (v : Value) (post : Lb) : Prop := ∃ d o, v = .ref d ∧ post = [one d o] ∧ Tab w.w d o T
set_option maxRecDepth 100000 in
set_option maxHeartbeats 2000000 in
theorem v_modes (w : WG) : CallOk w 5 120 (fun _ => True) 577 [] [] (TabPost w cModes2) := by
  refine' CallOk.ofF (binds := []) w.ok.f577 ?k1 ?k3 ?k4 ?k5 ?k6 ?k7 ?k8 ?k9 ?_
  case k1 => exact rfl
  case k3 => exact fun s _ _ _ _ _ _ _ _ _ _ X => BindsTo.of_eq rfl
  case k4 => exact rfl
  case k5 => exact rfl
  case k6 => exact rfl
  case k7 => exact rfl
  case k8 => exact rfl
  case k9 => exact rfl
  intro c hf _ R tk
  refine (vcs_ok c hf [] 60).S ?_
  show WE _ _ _ _ _ _ _
  refine w_lstR rfl rfl fun D1 i1 X1 tk1 H1 => ?_
  show WE _ _ _ _ _ _ _
  refine w_lstR rfl rfl fun D2 i2 X2 tk2 H2 => ?_
  show WE _ _ _ _ _ _ _
  refine w_addR H1 H2 (Nat.le_of_ble_eq_true rfl) rfl fun Dr its X HR => ?_
  show WE _ _ _ _ _ _ _
  refine w_dictS (T := [("frameset", "in frameset")]) rfl rfl (by decide +kernel) rfl rfl (List.cons_ne_nil _ _) (by decide) fun d o tk' hT0 => ?_
  have hT := hT0.toG
  show WE _ _ _ _ _ _ _
  refine w_forT hf (fun _ => rfl) ?_
  refine (vce_ok c [] 10).E ?_
  show ForT _ _ _ _ _ _ _ _ _
  have HR : RowsAre X its rM := HR
  obtain ⟨rs, hrs⟩ : ∃ rs, rM = rs := ⟨_, rfl⟩
  rw [hrs] at HR
  have hw : ∀ r ∈ rs, (Txt.words r.2).length ≤ 40 ∧ r.2.length ≤ 200 := by rw [← hrs]; decide +kernel
  have hn : rs.length ≤ 20 := by rw [← hrs]; decide +kernel
  have hlr := rows_len HR
  refine w_overP hf rfl rfl [(Str.ofString "rows", .ref Dr), (Str.ofString "modes", .ref d)] [] 1 rfl (fun i l' => ∃ o', l' = one d o' :: lst Dr its 0 :: X :: R ∧ TabG w.w d o' (filled (rs.take i) [(Str.ofString "frameset", Str.ofString "in frameset")]) ∧ (filled (rs.take i) [(Str.ofString "frameset", Str.ofString "in frameset")]).length ≤ 20 + 40 * i) ⟨rfl, rfl, trivial⟩ trivial ⟨o, rfl, hT, Nat.le_of_ble_eq_true rfl⟩ ?_ ?_ ?_
  · rintro i l' ⟨o', rfl, _⟩
    exact ⟨1, rfl⟩
  · rintro i v l' hv ⟨o', rfl, hT', hz⟩
    obtain ⟨a, x, y, t, u, n, rfl, hr, hmem⟩ := rows_at HR i v hv
    have hi : i < rs.length := (List.getElem?_eq_some_iff.mp hr).1
    have hw' := hw (x, y) (List.mem_of_getElem? hr)
    have hwl : (Txt.words y).length ≤ 40 := hw'.1
    refine ⟨a, _, .str x t, .str y u, n, rfl, List.mem_flatten.mpr ⟨X, .tail _ (.tail _ (.head _)), hmem⟩, rfl, rfl, fun tk2 c2 hf2 _ _ => ?_⟩
    refine (vcs_ok c2 hf2 [] 20).S ?_
    show WE _ _ _ _ _ _ _
    refine WE.shed 1 ?_
    refine w_for hf2 rfl (fun _ => rfl) ?_
    refine (vce_ok c2 [] 10).E ?_
    show WM _ _ _ _ _ _ _ _
    refine w_msplit ?_
    show WE _ _ _ _ _ _ _
    refine w_split hw'.2 fun Dw ws tkw hS => ?_
    show ForK _ _ _ _ _ _ _ _ _
    have hwsl := strs_len hS
    refine w_overL hf2 rfl [(Str.ofString "rows", .ref Dr), (Str.ofString "modes", .ref d), (Str.ofString "mode", .str x t), (Str.ofString "names", .str y u)] [] 0 rfl (fun k l' => ∃ o2, l' = lst Dw ws 0 :: one d o2 :: lst Dr its 0 :: X :: R ∧ TabG w.w d o2 (tfill (filled (rs.take i) [(Str.ofString "frameset", Str.ofString "in frameset")]) ((Txt.words y).take k) x)) ⟨rfl, rfl, rfl, rfl, trivial⟩ trivial ⟨o', rfl, hT'⟩ ?_ ?_ ?_
    · rintro k l' ⟨o2, rfl, _⟩
      exact ⟨0, rfl⟩
    · rintro k v l' tk3 c3 hf3 _ _ hv3 ⟨o2, rfl, hT2⟩
      have hk : k < (Txt.words y).length := by
        have := (List.getElem?_eq_some_iff.mp hv3).1
        omega
      obtain ⟨tv, hv4⟩ := strs_at hS k hk
      rw [hv4] at hv3
      cases hv3
      refine (vcs_ok c3 hf3 [] 20).S ?_
      show WE _ _ _ _ _ _ _
      refine w_putS 1 rfl hT2 ?_ fun o3 hT3 => ?_
      · have h5 := tfill_len x ((Txt.words y).take k) (filled (rs.take i) [(Str.ofString "frameset", Str.ofString "in frameset")])
        rw [List.length_take] at h5
        omega
      exact ⟨⟨rfl, rfl, rfl, rfl, trivial⟩, trivial, o3, rfl, by rw [tfill_next hk]; exact hT3⟩
    · rintro l' tk3 ⟨o2, rfl, hT2⟩
      rw [hwsl, List.take_length] at hT2
      refine ⟨⟨rfl, rfl, trivial⟩, trivial, o2, rfl, by rw [filled_next hr]; exact hT2, ?_⟩
      rw [filled_next hr]
      have h5 := tfill_len x (Txt.words y) (filled (rs.take i) [(Str.ofString "frameset", Str.ofString "in frameset")])
      omega
  · rintro l' tk3 ⟨o2, rfl, hT2, _⟩
    rw [hlr, List.take_length, ← hrs] at hT2
    show Ends _ _ _ _ _ _ _
    exact Ends.mk (post := [one d o2]) [0] 3 rfl rfl ⟨d, o2, rfl, rfl, TabG.toTab hT2 (by decide +kernel)⟩
set_option maxRecDepth 100000 in
set_option maxHeartbeats 2000000 in
theorem v_table (w : WG) : CallOk w 5 120 (fun _ => True) 570 [] [] (TabPost w cTable) := by
  refine' CallOk.ofF (binds := []) w.ok.f570 ?k1 ?k3 ?k4 ?k5 ?k6 ?k7 ?k8 ?k9 ?_
  case k1 => exact rfl
  case k3 => exact fun s _ _ _ _ _ _ _ _ _ _ X => BindsTo.of_eq rfl
  case k4 => exact rfl
  case k5 => exact rfl
  case k6 => exact rfl
  case k7 => exact rfl
  case k8 => exact rfl
  case k9 => exact rfl
  intro c hf _ R tk
  refine (vcs_ok c hf [] 60).S ?_
  intro Ea0 Eb0 D0
  intro Ea1 Eb1 D1
  show WE _ _ _ _ _ _ _
  refine WE.cut (l' := lst D1 [.ref Ea1, .ref Eb1] 0 :: ([_, _] : Ld) :: lst D0 [.ref Ea0, .ref Eb0] 0 :: ([_, _] : Ld) :: R) rfl ?_
  refine w_addR (.cons (.tail _ (.head _)) (.cons (.head _) .nil)) (.cons (.tail _ (.head _)) (.cons (.head _) .nil)) (Nat.le_of_ble_eq_true rfl) rfl fun Dr1 it1 X_1 HR1 => ?_
  show WE _ _ _ _ _ _ _
  refine w_lstR rfl rfl fun D2 i2 X2 tk2 H2 => ?_
  show WE _ _ _ _ _ _ _
  refine w_addR HR1 H2 (Nat.le_of_ble_eq_true rfl) rfl fun Dr2 it2 X_2 HR2 => ?_
  intro Ea3 D3
  show WE _ _ _ _ _ _ _
  refine w_addR HR2 (.cons (.head _) .nil) (Nat.le_of_ble_eq_true rfl) rfl fun Dr3 it3 X_3 HR3 => ?_
  intro Ea4 D4
  show WE _ _ _ _ _ _ _
  refine w_addR HR3 (.cons (.head _) .nil) (Nat.le_of_ble_eq_true rfl) rfl fun Dr4 it4 X_4 HR4 => ?_
  intro Ea5 D5
  show WE _ _ _ _ _ _ _
  refine w_addR HR4 (.cons (.head _) .nil) (Nat.le_of_ble_eq_true rfl) rfl fun Dr5 it5 X_5 HR5 => ?_
  intro Ea6 D6
  show WE _ _ _ _ _ _ _
  refine w_addR HR5 (.cons (.head _) .nil) (Nat.le_of_ble_eq_true rfl) rfl fun Dr6 it6 X_6 HR6 => ?_
  intro Ea7 D7
  show WE _ _ _ _ _ _ _
  refine w_addR HR6 (.cons (.head _) .nil) (Nat.le_of_ble_eq_true rfl) rfl fun Dr7 it7 X_7 HR7 => ?_
  intro Ea8 D8
  show WE _ _ _ _ _ _ _
  refine w_addR HR7 (.cons (.head _) .nil) (Nat.le_of_ble_eq_true rfl) rfl fun Dr8 it8 X_8 HR8 => ?_
  intro Ea9 D9
  show WE _ _ _ _ _ _ _
  refine w_addR HR8 (.cons (.head _) .nil) (Nat.le_of_ble_eq_true rfl) rfl fun Dr9 it9 X_9 HR9 => ?_
  intro Ea10 D10
  show WE _ _ _ _ _ _ _
  refine w_addR HR9 (.cons (.head _) .nil) (Nat.le_of_ble_eq_true rfl) rfl fun Dr10 it10 X_10 HR10 => ?_
  intro Ea11 D11
  show WE _ _ _ _ _ _ _
  refine w_addR HR10 (.cons (.head _) .nil) (Nat.le_of_ble_eq_true rfl) rfl fun Dr11 it11 X_11 HR11 => ?_
  show WE _ _ _ _ _ _ _
  refine w_dict0 fun d o lo hs _ => ?_
  have hT : TabG w.w d o [] := ⟨lo, [], hs, .nil⟩
  show WE _ _ _ _ _ _ _
  refine w_forT hf (fun _ => rfl) ?_
  refine (vce_ok c [] 10).E ?_
  show ForT _ _ _ _ _ _ _ _ _
  have HR11 : RowsAre X_11 it11 rT := HR11
  obtain ⟨rs, hrs⟩ : ∃ rs, rT = rs := ⟨_, rfl⟩
  rw [hrs] at HR11
  have hw : ∀ r ∈ rs, (Txt.words r.2).length ≤ 40 ∧ r.2.length ≤ 200 := by rw [← hrs]; decide +kernel
  have hn : rs.length ≤ 20 := by rw [← hrs]; decide +kernel
  have hlr := rows_len HR11
  refine w_overP hf rfl rfl [(Str.ofString "rows", .ref Dr11), (Str.ofString "table", .ref d)] [] 1 rfl (fun i l' => ∃ o', l' = one d o' :: lst Dr11 it11 0 :: X_11 :: R ∧ TabG w.w d o' (filled (rs.take i) []) ∧ (filled (rs.take i) []).length ≤ 20 + 40 * i) ⟨rfl, rfl, trivial⟩ trivial ⟨o, rfl, hT, Nat.le_of_ble_eq_true rfl⟩ ?_ ?_ ?_
  · rintro i l' ⟨o', rfl, _⟩
    exact ⟨1, rfl⟩
  · rintro i v l' hv ⟨o', rfl, hT', hz⟩
    obtain ⟨a, x, y, t, u, n, rfl, hr, hmem⟩ := rows_at HR11 i v hv
    have hi : i < rs.length := (List.getElem?_eq_some_iff.mp hr).1
    have hw' := hw (x, y) (List.mem_of_getElem? hr)
    have hwl : (Txt.words y).length ≤ 40 := hw'.1
    refine ⟨a, _, .str x t, .str y u, n, rfl, List.mem_flatten.mpr ⟨X_11, .tail _ (.tail _ (.head _)), hmem⟩, rfl, rfl, fun tk2 c2 hf2 _ _ => ?_⟩
    refine (vcs_ok c2 hf2 [] 20).S ?_
    show WE _ _ _ _ _ _ _
    refine WE.shed 1 ?_
    refine w_for hf2 rfl (fun _ => rfl) ?_
    refine (vce_ok c2 [] 10).E ?_
    show WM _ _ _ _ _ _ _ _
    refine w_msplit ?_
    show WE _ _ _ _ _ _ _
    refine w_split hw'.2 fun Dw ws tkw hS => ?_
    show ForK _ _ _ _ _ _ _ _ _
    have hwsl := strs_len hS
    refine w_overL hf2 rfl [(Str.ofString "rows", .ref Dr11), (Str.ofString "table", .ref d), (Str.ofString "letters", .str x t), (Str.ofString "names", .str y u)] [] 0 rfl (fun k l' => ∃ o2, l' = lst Dw ws 0 :: one d o2 :: lst Dr11 it11 0 :: X_11 :: R ∧ TabG w.w d o2 (tfill (filled (rs.take i) []) ((Txt.words y).take k) x)) ⟨rfl, rfl, rfl, rfl, trivial⟩ trivial ⟨o', rfl, hT'⟩ ?_ ?_ ?_
    · rintro k l' ⟨o2, rfl, _⟩
      exact ⟨0, rfl⟩
    · rintro k v l' tk3 c3 hf3 _ _ hv3 ⟨o2, rfl, hT2⟩
      have hk : k < (Txt.words y).length := by
        have := (List.getElem?_eq_some_iff.mp hv3).1
        omega
      obtain ⟨tv, hv4⟩ := strs_at hS k hk
      rw [hv4] at hv3
      cases hv3
      refine (vcs_ok c3 hf3 [] 20).S ?_
      show WE _ _ _ _ _ _ _
      refine w_putS 1 rfl hT2 ?_ fun o3 hT3 => ?_
      · have h5 := tfill_len x ((Txt.words y).take k) (filled (rs.take i) [])
        rw [List.length_take] at h5
        omega
      exact ⟨⟨rfl, rfl, rfl, rfl, trivial⟩, trivial, o3, rfl, by rw [tfill_next hk]; exact hT3⟩
    · rintro l' tk3 ⟨o2, rfl, hT2⟩
      rw [hwsl, List.take_length] at hT2
      refine ⟨⟨rfl, rfl, trivial⟩, trivial, o2, rfl, by rw [filled_next hr]; exact hT2, ?_⟩
      rw [filled_next hr]
      have h5 := tfill_len x (Txt.words y) (filled (rs.take i) [])
      omega
  · rintro l' tk3 ⟨o2, rfl, hT2, _⟩
    rw [hlr, List.take_length, ← hrs] at hT2
    show Ends _ _ _ _ _ _ _
    exact Ends.mk (post := [one d o2]) [0] 3 rfl rfl ⟨d, o2, rfl, rfl, TabG.toTab hT2 (by decide +kernel)⟩
end
section
open PySem PySem.W PyProof.Rows PySem.Spec PySem.Calls PyProof.V
open V
set_option maxRecDepth 20000
set_option linter.unusedVariables false
noncomputable abbrev cImpl : List String := ["dd", "dt", "li", "optgroup", "option", "p", "rb", "rp", "rt", "rtc"]
noncomputable abbrev cAll : List String := ["dd", "dt", "li", "optgroup", "option", "p", "rb", "rp", "rt", "rtc", "caption", "colgroup", "tbody", "td", "tfoot", "th", "thead", "tr"]
section
variable {w : WG} {S : Scope} {r u : Nat} {c : Ct w S r u} {m cv : Lo} {l : Lb} {tk : Nat} {h : Heap}
theorem w_addT {a b : Addr} {vs ws : List Value} {K : KV} (i j : Nat) (hi : atB l i = tup a vs) (hj : atB l j = tup b ws) (hv : vs ≠ []) (hw : ws ≠ []) (hz : vs.length + ws.length ≤ 1000) (k : ∀ D, K (.ref D) m cv (tup D (vs ++ ws) :: l) tk) : WE c (binaryOp .Add (.ref a) (.ref b)) K m cv l tk :=
  .mk fun h hh => by
    have h1 := hh.tup i hi
    have h2 := hh.tup j hj
    obtain ⟨mm, ns, F, N, hs, fin⟩ := hh.news
    exact kde_addT (its := vs.toArray) (its2 := ws.toArray) (zs := vs ++ ws) (s := c.sh h tk) F N h1 h2 hv hw (by show vs.length + ws.length ≤ 16384; omega) rfl (fun D h' F' N' lt => Out.mk (fin _ _ h' F' N' lt) (k _))
end
noncomputable def StrsPost (ss : List String) (v : Value) (post : Lb) : Prop := ∃ D its, v = .ref D ∧ post = [tup D its] ∧ StrsAre its (St ss)
set_option maxRecDepth 100000 in
theorem v_implied (w : WG) : CallOk w 1 3 (fun _ => True) 105 [] [] (StrsPost cImpl) := by
  refine' CallOk.ofF (binds := []) w.ok.f105 ?k1 ?k3 ?k4 ?k5 ?k6 ?k7 ?k8 ?k9 ?_
  case k1 => exact rfl
  case k3 => exact fun s _ _ _ _ _ _ _ _ _ _ X => BindsTo.of_eq rfl
  case k4 => exact rfl
  case k5 => exact rfl
  case k6 => exact rfl
  case k7 => exact rfl
  case k8 => exact rfl
  case k9 => exact rfl
  intro c hf _ R tk
  refine (vcs_ok c hf [] 60).S ?_
  show WE _ _ _ _ _ _ _
  refine w_tupS rfl rfl fun D its tk' hS => ?_
  show Ends _ _ _ _ _ _ _
  exact Ends.mk (post := [tup D its]) [0] 1 rfl rfl ⟨D, its, rfl, rfl, hS⟩
theorem strs_app : ∀ {vs ws : List Value} {xs ys : List Str}, StrsAre vs xs → StrsAre ws ys → StrsAre (vs ++ ws) (xs ++ ys)
  | _, _, _, _, .nil, h => h
  | _, _, _, _, .cons z u r, h => .cons z u (strs_app r h)
theorem strs_ne {vs : List Value} {x : Str} {xs : List Str} (h : StrsAre vs (x :: xs)) : vs ≠ [] := by cases h; exact List.cons_ne_nil _ _
set_option maxRecDepth 100000 in
theorem v_allImplied (w : WG) : CallOk w 2 6 (fun _ => True) 112 [] [] (StrsPost cAll) := by
  refine' CallOk.ofF (binds := []) w.ok.f112 ?k1 ?k3 ?k4 ?k5 ?k6 ?k7 ?k8 ?k9 ?_
  case k1 => exact rfl
  case k3 => exact fun s _ _ _ _ _ _ _ _ _ _ X => BindsTo.of_eq rfl
  case k4 => exact rfl
  case k5 => exact rfl
  case k6 => exact rfl
  case k7 => exact rfl
  case k8 => exact rfl
  case k9 => exact rfl
  intro c hf _ R tk
  refine (vcs_ok c hf [] 60).S ?_
  show WE _ _ _ _ _ _ _
  refine w_callF (v_implied w) R rfl rfl trivial [] 0 rfl rfl ?_
  rintro _ _ tk1 ⟨D1, i1, rfl, rfl, H1⟩
  show WE _ _ _ _ _ _ _
  refine w_tupS rfl rfl fun D2 i2 tk' H2 => ?_
  show WE _ _ _ _ _ _ _
  refine w_addT 1 0 rfl rfl (strs_ne H1) (strs_ne H2) (by rw [strs_len H1, strs_len H2]; exact Nat.le_of_ble_eq_true rfl) fun D => ?_
  show Ends _ _ _ _ _ _ _
  exact Ends.mk (post := [tup D (i1 ++ i2)]) [0] 3 rfl rfl ⟨D, _, rfl, rfl, strs_app H1 H2⟩
end
section
open PySem PySem.W PyProof.Rows PySem.Spec PySem.Calls PyProof.V
open V
noncomputable def cN : List Str := List.replicate 6 (Str.ofString "annotation-xml") ++ Txt.words (Str.ofString "mi mo mn ms mtext foreignObject desc title")
noncomputable def cNine : List Str := St ["text/html", "TEXT/hTML", "application/xhtml+xml", "Application/XHTML+XML", "text/htm", " text/html", "text/html;", "", "applıcation/xhtml+xml"]
theorem cN_len : cN.length = 14 := by decide +kernel
theorem cNine_len : cNine.length = 9 := by decide +kernel
theorem nine_short : cNine.all (fun y => decide (y.length ≤ 100)) = true := by decide +kernel
theorem cN_facts : (List.range 14).all (fun i => decide (has cMP (cN.getD i Str.empty) = (decide (5 < i) && decide (i < 11))) && decide (has cSvg (cN.getD i Str.empty) = decide (10 < i)) && decide ((cN.getD i Str.empty != Str.ofString "annotation-xml") = !decide (i < 6))) = true := by decide +kernel
theorem cN_at {i : Nat} (hi : i < 14) : has cMP (cN.getD i Str.empty) = (decide (5 < i) && decide (i < 11)) ∧ has cSvg (cN.getD i Str.empty) = decide (10 < i) ∧ (cN.getD i Str.empty != Str.ofString "annotation-xml") = !decide (i < 6) := by
  have := List.all_eq_true.mp cN_facts i (List.mem_range.mpr hi)
  simp only [Bool.and_eq_true, decide_eq_true_eq] at this
  exact ⟨this.1.1, this.1.2, this.2⟩
noncomputable def mathB (s : Str) (k : Int) : Bool := (s == Str.ofString "math") && (decide (5 < k) && decide (k < 11))
noncomputable def rightB (key text : Str) : Bool := (key == Str.ofString "encoding") && has cEnc (lowT text)
noncomputable def htmlB (s : Str) (k : Int) (r : Bool) : Bool := ((s == Str.ofString "svg") && decide (k > 10)) || ((s == Str.ofString "math") && (decide (k < 6) && r))
noncomputable def optOf (key text : Str) : Option (Str × Str) := if key == Str.ofString "" then none else some (key, text)
theorem to_nat {k : Int} (h0 : 0 ≤ k) (h1 : k < 14) : k.toNat < 14 ∧ decide (5 < k.toNat) = decide (5 < k) ∧ decide (k.toNat < 11) = decide (k < 11) ∧ decide (10 < k.toNat) = decide (k > 10) ∧ decide (k.toNat < 6) = decide (k < 6) := by
  refine ⟨by omega, ?_, ?_, ?_, ?_⟩ <;> exact decide_eq_decide.mpr (by omega)
theorem pt_math {s : Str} {k : Int} (h0 : 0 ≤ k) (h1 : k < 14) : ((s == Str.ofString "math") && has cMP (cN.getD k.toNat Str.empty)) = mathB s k := by
  obtain ⟨a, b, c, _, _⟩ := to_nat h0 h1
  unfold mathB
  rw [(cN_at a).1, b, c]
theorem sp_ne : (Str.ofString "html" == Str.ofString "svg") = false ∧ (Str.ofString "html" == Str.ofString "math") = false ∧ (Str.ofString "math" == Str.ofString "svg") = false ∧ (Str.ofString "svg" == Str.ofString "math") = false ∧ (Str.ofString "" == Str.ofString "encoding") = false := by decide +kernel
theorem pt_html {s key text : Str} {k : Int} (hs : s ∈ St ["html", "svg", "math"]) (h0 : 0 ≤ k) (h1 : k < 14) : htmlP s (cN.getD k.toNat Str.empty) (optOf key text) = htmlB s k (rightB key text) := by
  obtain ⟨a, _, _, d, e⟩ := to_nat h0 h1
  obtain ⟨_, c1, c2⟩ := cN_at a
  obtain ⟨n1, n2, n3, n4, n5⟩ := sp_ne
  have en : encB (encOf (optOf key text)) = rightB key text := by
    unfold optOf rightB
    by_cases hk : (key == Str.ofString "") = true
    · rw [if_pos hk, beq_iff_eq.mp hk, n5]; rfl
    · rw [if_neg hk]
      unfold encOf
      dsimp only
      by_cases hq : (key == Str.ofString "encoding") = true
      · rw [if_pos hq, hq]; rfl
      · rw [if_neg hq, Bool.eq_false_iff.mpr hq]; rfl
  simp only [St, List.map_cons, List.map_nil, List.mem_cons, List.not_mem_nil, or_false] at hs
  unfold htmlP htmlB
  rcases hs with rfl | rfl | rfl
  · rw [n1, n2]; simp [bne, n2]
  · rw [if_pos (by simp), c1, d, n4]; simp
  · rw [n3, if_neg (by decide), if_neg (by simp), c2, en, e]
    by_cases h6 : k < 6
    · simp [h6]
    · simp [h6]
theorem getD_end {α : Type} {l r : List α} {x d : α} {n : Int} (h : n = (l.length : Int)) : (l ++ [x] ++ r).getD n.toNat d = x := by
  subst h
  rw [List.getD_eq_getElem?_getD, List.append_assoc, List.getElem?_append_right (by simp)]
  simp
theorem at_end {α : Type} {l r : List α} {x : α} {n : Int} {m : Nat} (h : n = (m : Int)) (hl : l.length = m) : (l ++ [x] ++ r)[n.toNat]? = some x := by
  subst h
  rw [List.append_assoc, List.getElem?_append_right (by simp [hl])]
  simp [hl]
theorem pt_math_at {sp nm sp' nm' : List Str} {s : Str} {n k : Int} (hn : n = (sp.length : Int)) (hl : nm.length = sp.length) (h0 : 0 ≤ k) (h1 : k < 14) :
    (((sp ++ [s] ++ sp').getD n.toNat Str.empty == Str.ofString "math") && has cMP ((nm ++ [cN.getD k.toNat Str.empty] ++ nm').getD n.toNat Str.empty)) = mathB s k := by
  rw [getD_end hn, getD_end (by rw [hl]; exact hn)]
  exact pt_math h0 h1
theorem pt_html_at {sp nm sp' nm' : List Str} {s key text : Str} {n k : Int} {o : Option (Str × Str)} (hn : n = (sp.length : Int)) (hl : nm.length = sp.length) (hs : s ∈ St ["html", "svg", "math"]) (h0 : 0 ≤ k) (h1 : k < 14) (ho : o = optOf key text) :
    htmlP ((sp ++ [s] ++ sp').getD n.toNat Str.empty) ((nm ++ [cN.getD k.toNat Str.empty] ++ nm').getD n.toNat Str.empty) o = htmlB s k (rightB key text) := by
  rw [getD_end hn, getD_end (by rw [hl]; exact hn), ho]
  exact pt_html hs h0 h1
theorem opt_some {key text : Str} (h : (key != Str.ofString "") = true) : some (key, text) = optOf key text := by
  unfold optOf; rw [if_neg (by simpa [bne] using h)]
theorem opt_none {key text : Str} (h : (key != Str.ofString "") = false) : none = optOf key text := by
  unfold optOf; rw [if_pos (by simpa [bne] using h)]
theorem nine_len {x : Str} (h : x ∈ cNine) : x.length ≤ 100 := by
  have := List.all_eq_true.mp nine_short x h
  simpa using this
theorem ne_same {prog : Program} {w : World} {A : Around} {E : Value → Shared → Prop} {s : Shared} {a b : Bool} {Q : Value → Shared → Prop} (e : a = b) (h : Q (.bool false) s) : wpAny (model prog w) A (compareOp .NotEq (.bool a) (.bool b)) Q E s := by
  subst e
  exact ne_bool (by simpa using h)
end
section
open PySem PySem.W PyProof.Rows PySem.Spec PySem.Calls PyProof.V
open V
set_option maxRecDepth 20000
set_option linter.unusedVariables false
section
variable {w : WG} {S : Scope} {r u : Nat} {c : Ct w S r u} {m cv : Lo} {l : Lb} {tk : Nat} {h : Heap}
theorem w_lstI {elts : List Expr} {pos : Pos} {K : KV} (hl : allInt elts = true) (hz : Nat.ble (intsOf elts).length 1000 = true) (kk : ∀ D its tk', IntsAre its (intsOf elts) → K (.ref D) m cv (lst D its 0 :: l) tk') : WE c (eval (.List elts pos) c.ev) K m cv l tk :=
  .mk fun _ hh0 => by
    obtain ⟨mm, ns, F, N, hs, fin⟩ := hh0.news
    exact List_ints F N hl (Nat.le_of_ble_eq_true hz) fun D its h' tk' hS F' N' lt => Out.mk (fin D _ h' F' N' lt) (kk D its tk' hS)
theorem w_mul6 {D : Addr} {x : Str} {t u2 : Tok} {n : Nat} {K : KV} (i : Nat) (hi : atB l i = lst D [.str x t] n) (k : ∀ D' its, StrsAre its (List.replicate 6 x) → K (.ref D') m cv (lst D' its 0 :: l) tk) : WE c (binaryOp .Mult (.ref D) (.int 6 u2)) K m cv l tk :=
  .mk fun h hh => by
    obtain ⟨mm, ns, F, N, hs, fin⟩ := hh.news
    refine mul_list F N (N.get (hs i _ (atB_get hi) _ List.mem_cons_self)) (by decide) (by decide) (by show 1 * 6 ≤ 2 ^ 24; decide) fun h' F' N' => Out.mk (fin _ _ h' F' N' fun p hp => Heap.lt_size (N p hp).1) (k _ (List.replicate 6 (.str x t)) ?_)
    exact .cons _ _ (.cons _ _ (.cons _ _ (.cons _ _ (.cons _ _ (.cons _ _ .nil)))))
theorem w_itemM {D : Addr} {its : List Value} {n : Nat} {ss : List Str} {K : KV} {value slice : Expr} {k : Int} {t : Tok} (i : Nat) (hi : atB l i = lst D its n) (hs : notSlice slice = true) (hS : StrsAre its ss) (hz : ss.length ≤ 1000) (h0 : 0 ≤ k) (h1 : k < (ss.length : Int)) (kk : ∀ t, K (.str (ss.getD k.toNat Str.empty) t) m cv l tk) :
    WE c (subscriptTail value slice (.ref D) (.int k t)) K m cv l tk := by
  obtain ⟨u, hu⟩ := strs_at hS k.toNat (by omega)
  exact w_item i hi hs (by rw [strs_len hS]; exact hz) h0 hu (kk _)
theorem w_itemE {D : Addr} {its : List Value} {n : Nat} {ss : List Str} {K : KV} {value slice : Expr} {k : Int} {t : Tok} (i : Nat) (hi : atB l i = lst D its n) (hs : notSlice slice = true) (hS : StrsAre its ss) (hz : ss.length ≤ 1000) (h0 : 0 ≤ k) (h1 : k < (ss.length : Int)) (kk : ∀ y t, y ∈ ss → K (.str y t) m cv l tk) :
    WE c (subscriptTail value slice (.ref D) (.int k t)) K m cv l tk :=
  w_itemM i hi hs hS hz h0 h1 fun t => kk _ t (by rw [List.getD_eq_getElem?_getD, List.getElem?_eq_getElem (by omega)]; exact List.getElem_mem _)
theorem w_neB {a b : Bool} {K : KV} (e : a = b) (k : K (.bool false) m cv l tk) : WE c (compareOp .NotEq (.bool a) (.bool b)) K m cv l tk :=
  .mk fun h hh => ne_same e (Out.mk hh k)
theorem w_mlower {x : Str} {t : Tok} {K : Value × List Value → KU} (k : K (.builtin "str.lower", [.str x t]) m cv l tk) : WM c (.str x t) (Str.ofString "lower") K m cv l tk :=
  .mk fun pl => .mk fun h hh => GM.lower (Out.mk hh k)
end
theorem getD_mem {ss : List Str} {i : Nat} (h : i < ss.length) : ss.getD i Str.empty ∈ ss := by
  rw [List.getD_eq_getElem?_getD, List.getElem?_eq_getElem h]; exact List.getElem_mem _
noncomputable def cThree : List String := ["text/html", "TEXT/hTML", "application/xhtml+xml"]
theorem nine_lower : cNine.all (fun x => !Builtin.Str.tooLong (Txt.lower x).length && decide (has cThree (Txt.lower x) = has cEnc (lowT x))) = true := by decide +kernel
theorem nine_at {x : Str} (h : x ∈ cNine) : Builtin.Str.tooLong (Txt.lower x).length = false ∧ has cThree (Txt.lower x) = has cEnc (lowT x) := by
  have := List.all_eq_true.mp nine_lower x h
  simpa using this
theorem w_lowerN {w : WG} {S : Scope} {r u : Nat} {c : Ct w S r u} {m cv : Lo} {l : Lb} {tk : Nat} {x : Str} {t : Tok} {K : KV} (hx : x ∈ cNine) (k : K (.str (Txt.lower x) tk) m cv l (tk + 1)) : WE c (call (.builtin "str.lower") [.str x t]) K m cv l tk :=
  .mk fun h hh => SC.lower (nine_at hx).1 (Out.mk hh k)
theorem right_f {key tx : Str} (h : (key == Str.ofString "encoding") = false) : (key == Str.ofString "encoding") = rightB key tx := by unfold rightB; rw [h]; rfl
theorem right_t {key tx : Str} (h : (key == Str.ofString "encoding") = true) (hx : tx ∈ cNine) : has cThree (Txt.lower tx) = rightB key tx := by unfold rightB; rw [h, (nine_at hx).2]; rfl
theorem mb_f {s : Str} {k : Int} (h : (s == Str.ofString "math") = false) : (s == Str.ofString "math") = mathB s k := by unfold mathB; rw [h]; rfl
theorem mb_1 {s : Str} {k : Int} (h : (s == Str.ofString "math") = true) (h5 : decide (5 < k) = false) : decide (5 < k) = mathB s k := by unfold mathB; rw [h, h5]; rfl
theorem mb_2 {s : Str} {k : Int} (h : (s == Str.ofString "math") = true) (h5 : decide (5 < k) = true) : decide (k < 11) = mathB s k := by unfold mathB; rw [h, h5]; rfl
theorem StrsAre.take : ∀ {vs : List Value} {ss : List Str}, StrsAre vs ss → ∀ k : Nat, StrsAre (vs.take k) (ss.take k)
  | _, _, _, 0 => .nil
  | _, _, .nil, _ + 1 => .nil
  | _, _, .cons _ _ h, k + 1 => .cons _ _ (StrsAre.take h k)
theorem binds_el4 (w : WG) : ∀ t z y b, Binds w.K 365 [t, z, y, b] [(Str.ofString "self", t), (Str.ofString "name", z), (Str.ofString "space", y), (Str.ofString "attrs", b)] := w.ok.el4
theorem tupIn_blk {w : WG} {b : Addr} {its : List Value} {bs : Lb} (hm : tup b its ∈ bs) : TupIn w b its bs := fun {S r u} c {m cv l h} hh hb => by
  have : (b, ({ cls := .type "tuple", data := .seq its.toArray } : Obj)) ∈ l.flatten := List.mem_flatten.mpr ⟨_, hb _ hm, List.mem_cons_self⟩
  exact ⟨_, hh.memG this, rfl, _, rfl⟩
/-- what stands between two turns: a tree grown so far -/
inductive QJ (w : WG) (A : TA) (ch : List Value) (a s b t : Nat) (Z : Lb) : Nat → Lb → Prop
  | mk {i : Nat} (T sp nm at' ch' k) : TreeAt w A sp nm at' (ch ++ ch') k T → sp.length ≤ a + s * i → k ≤ b + t * i → QJ w A ch a s b t Z i (T :: Z)
noncomputable def PtsPost (w : WG) (A : TA) (ch : List Value) (v : Value) (post : Lb) : Prop := v = .bool true ∧ ∃ (T' : Ld) (sp' nm' : List Str) (at'' ch' : List Value) (k' : Nat), post = [T'] ∧ TreeAt w A sp' nm' at'' (ch ++ ch') k' T' ∧ sp'.length ≤ 300 ∧ k' ≤ 300
set_option maxRecDepth 100000 in
set_option maxHeartbeats 2000000 in
theorem v_points (w : WG) (a : Addr) (vs : List Value) (ns : List Int) (hi : IntsAre vs ns) (hn : ns.length ≤ 63) (A : TA) (T : Ld) (sp nm : List Str) (at' ch : List Value) (k : Nat) (hT : TreeAt w A sp nm at' ch k T) (hl : sp.length ≤ 100) (hk : k ≤ 100) :
    CallOk w 60 800 (fun b => b.IsList a vs.toArray) 596 [.ref a, .ref A.t] [T] (PtsPost w A ch) := by
  refine' CallOk.ofF (binds := [(Str.ofString "script", .ref a), (Str.ofString "tree", .ref A.t)]) w.ok.f596 ?k1 ?k3 ?k4 ?k5 ?k6 ?k7 ?k8 ?k9 ?_
  case k1 => exact rfl
  case k3 => exact fun s _ _ _ _ _ _ _ _ _ _ X => BindsTo.of_eq rfl
  case k4 => exact rfl
  case k5 => exact rfl
  case k6 => exact rfl
  case k7 => exact rfl
  case k8 => exact rfl
  case k9 => exact rfl
  intro c hf hB R tk
  refine (vcs_ok c hf [] 60).S ?_
  intro D1
  show WE _ _ _ _ _ _ _
  refine w_mul6 0 rfl fun D2 i2 H2 => ?_
  show WM _ _ _ _ _ _ _ _
  refine w_msplit ?_
  show WE _ _ _ _ _ _ _
  refine w_split (by decide +kernel) fun D3 i3 tk3 H3 => ?_
  show WE _ _ _ _ _ _ _
  refine w_addL 1 0 rfl rfl (by rw [strs_len H2, strs_len H3]; decide +kernel) fun Dn => ?_
  show WE _ _ _ _ _ _ _
  refine w_lstI rfl rfl fun Db ib tkb Hb => ?_
  show WE _ _ _ _ _ _ _
  refine w_lstS rfl rfl fun D4 i4 tk4 H4 => ?_
  show WE _ _ _ _ _ _ _
  refine w_lstS rfl rfl fun D5 i5 tk5 H5 => ?_
  show WE _ _ _ _ _ _ _
  refine w_addL 1 0 rfl rfl (by rw [strs_len H4, strs_len H5]; decide +kernel) fun Dt => ?_
  have Hn : StrsAre (i2 ++ i3) cN := strs_app H2 H3
  have Ht : StrsAre (i4 ++ i5) cNine := strs_app H4 H5
  generalize i2 ++ i3 = na at Hn ⊢
  generalize i4 ++ i5 = ta at Ht ⊢
  have Hb : IntsAre ib [0, 1, 11, 3, 20, 4, 0, 9, 2, 0, 1, 0, 2, 0] := Hb
  show WE _ _ _ _ _ _ _
  refine WE.pick (l' := T :: lst Dn na 0 :: lst Dt ta 0 :: lst Db ib 0 :: R) [8, 4, 0, 3] 9 rfl rfl ?_
  refine w_for hf rfl (fun _ => rfl) ?_
  refine (vce_ok c [] 10).E ?_
  show WE _ _ _ _ _ _ _
  refine w_range fun Dr t1 u1 v1 tkr => ?_
  show ForK _ _ _ _ _ _ _ _ _
  refine ForK.pick (l' := T :: lst Dn na 0 :: lst Dt ta 0 :: lst Db ib 0 :: rng Dr 0 14 t1 u1 v1 :: R) [1, 2, 3, 4, 0] 5 rfl rfl ?_
  refine w_overR hf rfl 14 [(Str.ofString "script", .ref a), (Str.ofString "tree", .ref A.t), (Str.ofString "names", .ref Dn), (Str.ofString "base", .ref Db), (Str.ofString "texts", .ref Dt)] [] 4 rfl rfl (by decide) (QJ w A ch 100 6 100 3 (lst Dn na 0 :: lst Dt ta 0 :: lst Db ib 0 :: rng Dr 0 14 t1 u1 v1 :: R)) ⟨rfl, rfl, rfl, rfl, rfl, trivial⟩ trivial (.mk T sp nm at' [] k (by rw [List.append_nil]; exact hT) (by omega) (by omega)) ?_ ?_
  · rintro i t _ tk' c2 hf2 hbase hev hi14 ⟨T1, sp1, nm1, at1, ch1, k1, hT1, hl1, hk1⟩
    refine WE.joinT (fun KJ => ∀ m T sp nm at' ch' k tk, LoSub [(Str.ofString "script", .ref a), (Str.ofString "tree", .ref A.t), (Str.ofString "names", .ref Dn), (Str.ofString "base", .ref Db), (Str.ofString "texts", .ref Dt)] m → TreeAt w A sp nm at' (ch ++ ch') k T → sp.length ≤ 100 + 6 * (i + 1) → k ≤ 100 + 3 * (i + 1) → KJ .next m [] (T :: lst Dn na 0 :: lst Dt ta 0 :: lst Db ib 0 :: rng Dr 0 14 t1 u1 v1 :: R) tk) (fun KF hfin => ?_) (fun m T sp nm at' ch' k tk h1 hT hl hk => ⟨h1, trivial, .mk T sp nm at' ch' k hT hl hk⟩)
    obtain ⟨b0, hb0⟩ : ∃ x, ([0, 1, 11, 3, 20, 4, 0, 9, 2, 0, 1, 0, 2, 0] : List Int)[i]? = some x := ⟨_, List.getElem?_eq_getElem (by simpa using hi14)⟩
    obtain ⟨tb, hib⟩ := ints_get Hb i b0 hb0
    have hlb : ib.length = 14 := ints_len Hb
    have hlt := strs_len Ht
    refine (vcs_ok c2 hf2 [379] 40).S ?_
    show WE _ _ _ _ _ _ _
    refine w_callF (v_digit w a vs ns hi hn _ _ (by omega)) (T1 :: lst Dn na 0 :: lst Dt ta 0 :: lst Db ib 0 :: rng Dr 0 14 t1 u1 v1 :: R) rfl rfl (hbase ▸ hB) [] 0 rfl rfl ?_
    rintro _ _ tk1 ⟨z, tz, rfl, rfl⟩
    show WE _ _ _ _ _ _ _
    refine w_item 3 rfl rfl (by omega) (by omega) (show ib[(0 + (i : Int)).toNat]? = _ by rw [Int.zero_add]; exact hib) ?_
    show WE _ _ _ _ _ _ _
    refine w_mod (by omega) ?_
    show WE _ _ _ _ _ _ _
    refine w_itemE 2 rfl rfl Ht (by rw [cNine_len]; decide) (Int.fmod_nonneg_of_pos _ (by omega)) (by rw [cNine_len]; exact Int.fmod_lt_of_pos _ (by omega)) fun tx tt htx => ?_
    show WE _ _ _ _ _ _ _
    refine w_lstS rfl rfl fun Dk ik tk2 Hk => ?_
    show WE _ _ _ _ _ _ _
    refine w_fdiv (by omega) (by omega) ?_
    show WE _ _ _ _ _ _ _
    refine w_mod (by omega) ?_
    show WE _ _ _ _ _ _ _
    refine w_itemE 0 rfl rfl Hk (by decide) (Int.fmod_nonneg_of_pos _ (by omega)) (Int.fmod_lt_of_pos _ (by decide)) fun key tkk _ => ?_
    show WE _ _ _ _ _ _ _
    refine WE.pick (l' := T1 :: lst Dn na 0 :: lst Dt ta 0 :: lst Db ib 0 :: rng Dr 0 14 t1 u1 v1 :: R) [] 1 rfl rfl ?_
    refine WE.less hf2 (m' := [(Str.ofString "script", .ref a), (Str.ofString "tree", .ref A.t), (Str.ofString "names", .ref Dn), (Str.ofString "base", .ref Db), (Str.ofString "texts", .ref Dt), (Str.ofString "k", .int (0 + (i : Int)) t), (Str.ofString "text", .str tx tt), (Str.ofString "key", .str key tkk)]) (cv' := []) (LoSub.get ⟨rfl, rfl, rfl, rfl, rfl, rfl, rfl, rfl, trivial⟩) (fun _ _ h => h) ?_
    refine WE.joinT (fun KJ => ∀ tk, KJ .next [(Str.ofString "script", .ref a), (Str.ofString "tree", .ref A.t), (Str.ofString "names", .ref Dn), (Str.ofString "base", .ref Db), (Str.ofString "texts", .ref Dt), (Str.ofString "k", .int (0 + (i : Int)) t), (Str.ofString "text", .str tx tt), (Str.ofString "key", .str key tkk), (Str.ofString "is_right", .bool (rightB key tx))] [] (T1 :: lst Dn na 0 :: lst Dt ta 0 :: lst Db ib 0 :: rng Dr 0 14 t1 u1 v1 :: R) tk) (fun KJ hJ => ?_) ?_
    · refine vS0_ok hf2 (vce_ok c2 [] 20) (vcs_ok c2 hf2 [] 20) ?_
      refine BR.mk (fun hq => ?_) fun hq => ?_
      · show WM _ _ _ _ _ _ _ _
        refine w_mlower ?_
        show WE _ _ _ _ _ _ _
        refine w_lowerN htx ?_
        show WSl _ _ _ _ _ _ _ _ _ _ _
        refine w_slL 2 rfl .none (.int _ _) (slicePick_upto ta.toArray 3 (by rw [List.size_toArray, hlt, cNine_len]; decide)) (by rw [hlt, cNine_len]; decide) (fun _ => by with_unfolding_all rfl) (fun _ => by with_unfolding_all rfl) fun D6 => ?_
        show WE _ _ _ _ _ _ _
        refine w_inL 0 rfl (StrsAre.take Ht 3) ?_
        rw [← right_t hq htx] at hJ
        exact Thin.mk [] 1 rfl (hJ _) rfl
      · rw [← right_f hq] at hJ
        exact Thin.mk [] 0 rfl (hJ _) rfl
    intro tk3
    generalize lst Dt ta 0 :: lst Db ib 0 :: rng Dr 0 14 t1 u1 v1 :: R = Z at hfin ⊢
    show WE _ _ _ _ _ _ _
    refine w_for hf2 rfl (fun _ => rfl) ?_
    refine (vce_ok c2 [] 10).E ?_
    show WE _ _ _ _ _ _ _
    refine w_lstS rfl rfl fun Ds is tks Hs => ?_
    show ForK _ _ _ _ _ _ _ _ _
    have Hs : StrsAre is (St ["html", "svg", "math"]) := Hs
    have hsl : is.length = 3 := strs_len Hs
    refine ForK.pick (l' := T1 :: lst Ds is 0 :: lst Dn na 0 :: Z) [1, 0] 2 rfl rfl ?_
    refine w_overL hf2 rfl [(Str.ofString "script", .ref a), (Str.ofString "tree", .ref A.t), (Str.ofString "names", .ref Dn), (Str.ofString "base", .ref Db), (Str.ofString "texts", .ref Dt), (Str.ofString "k", .int (0 + (i : Int)) t), (Str.ofString "text", .str tx tt), (Str.ofString "key", .str key tkk), (Str.ofString "is_right", .bool (rightB key tx))] [] 1 rfl (QJ w A ch (100 + 6 * i) 2 (100 + 3 * i) 1 (lst Ds is 0 :: lst Dn na 0 :: Z)) ⟨rfl, rfl, rfl, rfl, rfl, rfl, rfl, rfl, rfl, trivial⟩ trivial (.mk T1 sp1 nm1 at1 ch1 k1 hT1 (by omega) (by omega)) ?_ ?_ ?_
    · rintro j _ ⟨⟩
      exact ⟨1, rfl⟩
    · rintro j v _ tk4 c3 hf3 _ _ hv ⟨T2, sp2, nm2, at2, ch2, k2, hT2, hl2, hk2⟩
      have hj3 : j < 3 := by
        have := (List.getElem?_eq_some_iff.mp hv).1
        rw [hsl] at this
        exact this
      refine WE.joinT (fun KJ => ∀ m T3 sp3 nm3 at3 ch3 k3 tk, LoSub [(Str.ofString "script", .ref a), (Str.ofString "tree", .ref A.t), (Str.ofString "names", .ref Dn), (Str.ofString "base", .ref Db), (Str.ofString "texts", .ref Dt), (Str.ofString "k", .int (0 + (i : Int)) t), (Str.ofString "text", .str tx tt), (Str.ofString "key", .str key tkk), (Str.ofString "is_right", .bool (rightB key tx))] m → TreeAt w A sp3 nm3 at3 (ch ++ ch3) k3 T3 → sp3.length ≤ 100 + 6 * i + 2 * (j + 1) → k3 ≤ 100 + 3 * i + 1 * (j + 1) → KJ .next m [] (T3 :: lst Ds is 0 :: lst Dn na 0 :: Z) tk) (fun KF hfin2 => ?_) (fun m T3 sp3 nm3 at3 ch3 k3 tk h1 hT3 hl3 hk3 => ⟨h1, trivial, .mk T3 sp3 nm3 at3 ch3 k3 hT3 hl3 hk3⟩)
      obtain ⟨ts, hts⟩ := strs_at Hs j (by exact hj3)
      rw [hts] at hv
      cases hv
      have hsm : (St ["html", "svg", "math"]).getD j Str.empty ∈ St ["html", "svg", "math"] := getD_mem (by exact hj3)
      generalize hs0 : (St ["html", "svg", "math"]).getD j Str.empty = s0 at hsm
      refine (vcs_ok c3 hf3 [381, 382, 383] 40).S ?_
      show WE _ _ _ _ _ _ _
      have hlen : nm2.length = sp2.length ∧ at2.length = sp2.length := by
        obtain ⟨O2, _, hO2⟩ := hT2
        exact ⟨hO2.l3, hO2.l4⟩
      refine WE.joinT (fun KJ => ∀ D its cD bs o T3 tn sp3 nm3 at3 ch3 dl tk, AtB its bs o → o = optOf key tx → at3[(sp2.length : Int).toNat]? = some (.ref D) → TreeAt w A (sp2 ++ [s0] ++ sp3) (nm2 ++ [cN.getD (0 + (i : Int)).toNat Str.empty] ++ nm3) at3 (ch ++ ch2 ++ [.ref dl] ++ ch3) (k2 + 1) T3 → sp3.length ≤ 1 → KJ .next [(Str.ofString "script", .ref a), (Str.ofString "tree", .ref A.t), (Str.ofString "names", .ref Dn), (Str.ofString "base", .ref Db), (Str.ofString "texts", .ref Dt), (Str.ofString "k", .int (0 + (i : Int)) t), (Str.ofString "text", .str tx tt), (Str.ofString "key", .str key tkk), (Str.ofString "is_right", .bool (rightB key tx)), (Str.ofString "space", .str s0 ts), (Str.ofString "node", .int (sp2.length : Int) tn)] [] (lst D its cD :: T3 :: (bs ++ (lst Ds is 0 :: lst Dn na 0 :: Z))) tk) (fun KJ hJ => ?_) ?_
      · obtain ⟨O2, rfl, hO2⟩ := hT2
        refine WE.cut (l' := TL A O2 ++ (lst Ds is 0 :: lst Dn na 0 :: Z)) rfl ?_
        refine vS0_ok hf3 (vce_ok c3 [] 20) (vcs_ok c3 hf3 [] 20) ?_
        show WM _ _ _ _ _ _ _ _
        refine w_meth 0 rfl rfl hO2.e.m2 ?_
        show WE _ _ _ _ _ _ _
        refine w_itemM 10 rfl rfl Hn (by rw [cN_len]; decide) (by omega) (by rw [cN_len]; omega) fun tn => ?_
        refine BR.mk (fun hq => ?_) fun hq => ?_
        · intro p1 p2 p3
          show WE _ _ _ _ _ _ _
          refine w_callF (v_elem w A _ sp2 nm2 at2 (ch ++ ch2) k2 ⟨O2, rfl, hO2⟩ (by omega) (by omega) s0 _ ts tn p3 [.ref p1, .ref p2] [tup p3 [.ref p1, .ref p2], tup p1 [_, _], tup p2 [_, _]] (tupIn_blk (.head _)) (Nat.le_of_ble_eq_true rfl) (binds_el4 w _ _ _ _)) (lst Ds is 0 :: lst Dn na 0 :: Z) rfl rfl trivial [3, 4, 5, 6, 7, 8, 9, 10, 11, 0, 2, 1] 12 rfl rfl ?_
          rintro _ _ tk6 ⟨D, dl, cD, T3, tn2, sp3, nm3, at3, ch3, rfl, rfl, hT3, hsp3⟩
          exact Thin.mk [0, 1] 3 rfl (hJ D _ cD [tup p1 [_, _], tup p2 [_, _]] _ T3 _ sp3 nm3 _ ch3 dl _ .two (opt_some hq) (at_end rfl hlen.2) hT3 hsp3) rfl
        · intro p3
          show WE _ _ _ _ _ _ _
          refine w_callF (v_elem w A _ sp2 nm2 at2 (ch ++ ch2) k2 ⟨O2, rfl, hO2⟩ (by omega) (by omega) s0 _ ts tn p3 [] [tup p3 []] (tupIn_blk (.head _)) (Nat.le_of_ble_eq_true rfl) (binds_el4 w _ _ _ _)) (lst Ds is 0 :: lst Dn na 0 :: Z) rfl rfl trivial [1, 2, 3, 4, 5, 6, 7, 8, 9, 0] 10 rfl rfl ?_
          rintro _ _ tk6 ⟨D, dl, cD, T3, tn2, sp3, nm3, at3, ch3, rfl, rfl, hT3, hsp3⟩
          exact Thin.mk [0, 1] 3 rfl (hJ D _ cD [] _ T3 _ sp3 nm3 _ ch3 dl _ .none (opt_none hq) (at_end rfl hlen.2) hT3 hsp3) rfl
      clear hT2
      intro D its cD bs o T3 tn sp3 nm3 at3 ch3 dl tk6 hA ho hat hT3 hsp3
      show WE _ _ _ _ _ _ _
      refine WE.joinT (fun KJ => ∀ b1 tk, b1 = mathB s0 (0 + (i : Int)) → KJ .next [(Str.ofString "script", .ref a), (Str.ofString "tree", .ref A.t), (Str.ofString "names", .ref Dn), (Str.ofString "base", .ref Db), (Str.ofString "texts", .ref Dt), (Str.ofString "k", .int (0 + (i : Int)) t), (Str.ofString "text", .str tx tt), (Str.ofString "key", .str key tkk), (Str.ofString "is_right", .bool (rightB key tx)), (Str.ofString "space", .str s0 ts), (Str.ofString "node", .int (sp2.length : Int) tn), (Str.ofString "is_text", .bool b1)] [] (lst D its cD :: T3 :: (bs ++ (lst Ds is 0 :: lst Dn na 0 :: Z))) tk) (fun KJ hJ => ?_) ?_
      · refine vS0_ok hf3 (vce_ok c3 [] 20) (vcs_ok c3 hf3 [] 20) ?_
        refine BR.mk (fun h1 => ?_) fun h1 => ?_
        · refine BR.mk (fun h2 => ?_) fun h2 => ?_
          · exact Thin.mk [] 0 rfl (hJ _ _ (mb_2 h1 h2)) rfl
          · exact Thin.mk [] 0 rfl (hJ _ _ (mb_1 h1 h2)) rfl
        · exact Thin.mk [] 0 rfl (hJ _ _ (mb_f h1)) rfl
      intro b1 tk7 hb1
      show WE _ _ _ _ _ _ _
      refine WE.joinT (fun KJ => ∀ b2 tk, b2 = htmlB s0 (0 + (i : Int)) (rightB key tx) → KJ .next [(Str.ofString "script", .ref a), (Str.ofString "tree", .ref A.t), (Str.ofString "names", .ref Dn), (Str.ofString "base", .ref Db), (Str.ofString "texts", .ref Dt), (Str.ofString "k", .int (0 + (i : Int)) t), (Str.ofString "text", .str tx tt), (Str.ofString "key", .str key tkk), (Str.ofString "is_right", .bool (rightB key tx)), (Str.ofString "space", .str s0 ts), (Str.ofString "node", .int (sp2.length : Int) tn), (Str.ofString "is_text", .bool b1), (Str.ofString "is_html", .bool b2)] [] (lst D its cD :: T3 :: (bs ++ (lst Ds is 0 :: lst Dn na 0 :: Z))) tk) (fun KJ hJ => ?_) ?_
      · refine vS0_ok hf3 (vce_ok c3 [] 20) (vcs_ok c3 hf3 [] 20) ?_
        refine BR.mk (fun h1 => ?_) fun h1 => ?_
        · refine BR.mk (fun h2 => ?_) fun h2 => ?_
          · exact Thin.mk [] 0 rfl (hJ _ _ (by unfold htmlB; simp only [*]; first | done | simp)) rfl
          · refine BR.mk (fun h3 => ?_) fun h3 => ?_
            · refine BR.mk (fun h4 => ?_) fun h4 => ?_
              · exact Thin.mk [] 0 rfl (hJ _ _ (by unfold htmlB; simp only [*]; first | done | simp)) rfl
              · exact Thin.mk [] 0 rfl (hJ _ _ (by unfold htmlB; simp only [*]; first | done | simp)) rfl
            · exact Thin.mk [] 0 rfl (hJ _ _ (by unfold htmlB; simp only [*]; first | done | simp)) rfl
        · refine BR.f h1 ?_
          refine BR.mk (fun h3 => ?_) fun h3 => ?_
          · refine BR.mk (fun h4 => ?_) fun h4 => ?_
            · exact Thin.mk [] 0 rfl (hJ _ _ (by unfold htmlB; simp only [*]; first | done | simp)) rfl
            · exact Thin.mk [] 0 rfl (hJ _ _ (by unfold htmlB; simp only [*]; first | done | simp)) rfl
          · exact Thin.mk [] 0 rfl (hJ _ _ (by unfold htmlB; simp only [*]; first | done | simp)) rfl
      intro b2 tk8 hb2
      have hsz : (sp2 ++ [s0] ++ sp3).length ≤ 900 := by simp only [List.length_append, List.length_singleton]; omega
      have hlt2 : (sp2.length : Int) < ((sp2 ++ [s0] ++ sp3).length : Int) := by simp only [List.length_append, List.length_singleton]; omega
      show WE _ _ _ _ _ _ _
      refine w_callR (v_math w A T3 _ _ _ _ _ hT3 _ tn (by omega) hlt2 hsz) (lst D its cD :: (bs ++ (lst Ds is 0 :: lst Dn na 0 :: Z))) rfl rfl [1, 0] 2 rfl rfl rfl ?_
      rintro _ tk9 rfl
      show WE _ _ _ _ _ _ _
      refine w_neB (hb1 ▸ pt_math_at rfl hlen.1 (by omega) (by omega)) ?_
      refine BR.f rfl ?_
      show WE _ _ _ _ _ _ _
      refine w_callR (v_html w A T3 _ _ _ _ _ hT3 _ tn (by omega) hlt2 hsz D its cD bs o hat hA (fun q hq => ?_)) (lst Ds is 0 :: lst Dn na 0 :: Z) rfl rfl [1, 0] 2 rfl rfl rfl ?_
      · rw [ho] at hq
        unfold optOf at hq
        split at hq
        · cases hq
        · cases hq
          exact nine_len htx
      rintro _ tk10 rfl
      show WE _ _ _ _ _ _ _
      refine w_neB (hb2 ▸ pt_html_at rfl hlen.1 hsm (by omega) (by omega) ho) ?_
      refine BR.f rfl (BR.f rfl ?_)
      have hl3 : (sp2 ++ [s0] ++ sp3).length ≤ 100 + 6 * i + 2 * (j + 1) := by simp only [List.length_append, List.length_singleton]; omega
      have hT4 := by
        have := hT3
        rw [List.append_assoc ch ch2, List.append_assoc ch] at this
        exact this
      cases hA with
      | none => exact Thin.mk [1] 2 rfl (hfin2 _ T3 _ _ _ _ _ _ ⟨rfl, rfl, rfl, rfl, rfl, rfl, rfl, rfl, rfl, trivial⟩ hT4 hl3 (by omega)) rfl
      | two => exact Thin.mk [1] 4 rfl (hfin2 _ T3 _ _ _ _ _ _ ⟨rfl, rfl, rfl, rfl, rfl, rfl, rfl, rfl, rfl, trivial⟩ hT4 hl3 (by omega)) rfl
    · rintro _ tk5 ⟨T2, sp2, nm2, at2, ch2, k2, hT2, hl2, hk2⟩
      rw [hsl] at hl2 hk2
      exact Thin.mk [0] 2 rfl (hfin _ T2 sp2 nm2 at2 ch2 k2 _ ⟨rfl, rfl, rfl, rfl, rfl, trivial⟩ hT2 (by omega) (by omega)) rfl
  · rintro _ tk' ⟨T1, sp1, nm1, at1, ch1, k1, hT1, hl1, hk1⟩
    show Ends _ _ _ _ _ _ _
    exact Ends.mk (post := [T1]) [0] 5 rfl rfl ⟨rfl, T1, sp1, nm1, at1, ch1, k1, rfl, hT1, by omega, by omega⟩
end
section
open PySem PySem.W PyProof.Rows PySem.Spec PySem.Calls PyProof.V
open V
set_option maxRecDepth 20000
set_option linter.unusedVariables false
section
variable {w : WG} {S : Scope} {r u : Nat} {c : Ct w S r u} {m cv : Lo} {l : Lb} {tk : Nat} {h : Heap}
theorem trips_args {pos : Pos} : ∀ (elts : List Expr) (X : Ld) (l : Lb) (tk : Nat) (K : List Value → KU), allTrip elts = true → (∀ vs X' tk', TripsAre X' vs (tripsOf elts) → (∀ p ∈ X, p ∈ X') → K vs m cv (X' :: l) tk') → WE c (spliced (backTo pos (starEach elts c.ev))) K m cv (X :: l) tk
  | [], X, l, tk, K, _, k => .mk fun h hh => args_nil (Out.mk hh (k [] X tk .nil fun _ h => h))
  | e :: es, X, l, tk, K, hl, k => .mk fun h hh => by
    have h1 : (tripOf e).isSome = true := (Bool.and_eq_true_iff.mp hl).1
    have h2 : allTrip es = true := (Bool.and_eq_true_iff.mp hl).2
    have key : WE c (eval e c.ev) (fun v => WE c (spliced (backTo pos (starEach es c.ev))) fun vs => K (v :: vs)) m cv (X :: l) tk := .mk fun h hh => by
      obtain ⟨mm, ns, F, N, hs, fin⟩ := hh.news
      refine eval_trip h1 F N fun D t u v h' tk' hD F' N' => Out.mk (fin D _ h' F' N' hD) ?_
      refine WE.cut (l' := ((D, _) :: X) :: l) rfl ?_
      exact trips_args es _ l tk' _ h2 fun vs X' tk2 H hs => k _ X' tk2 (.cons (hs _ List.mem_cons_self) H) fun p hp => hs _ (List.mem_cons_of_mem _ hp)
    exact args_cons (key.go hh fun v _ _ _ _ _ hh k => k.go hh fun vs _ _ _ _ _ hh k => Out.mk hh k) (star_trip h1 es)
/-- a display of triples: all its tuples lie in one block -/
theorem w_lstTr {elts : List Expr} {pos : Pos} {K : KV} (hl : allTrip elts = true) (hz : Nat.ble (tripsOf elts).length 1000 = true) (kk : ∀ D its X tk', TripsAre X its (tripsOf elts) → K (.ref D) m cv (lst D its 0 :: X :: l) tk') : WE c (eval (.List elts pos) c.ev) K m cv l tk :=
  .mk fun h hh => by
    have key : WE c (spliced (backTo pos (starEach elts c.ev))) (fun vs m cv l tk => vs.length ≤ 1000 ∧ ∀ D, K (.ref D) m cv (lst D vs 0 :: l) tk) m cv l tk := by
      refine WE.cut (l' := [] :: l) rfl ?_
      exact trips_args elts [] l tk _ hl fun vs X tk' H _ => ⟨by rw [trips_len H]; exact Nat.le_of_ble_eq_true hz, fun D => kk D vs X tk' H⟩
    refine List_ (key.go hh fun vs _ _ _ _ _ hh k => ?_)
    obtain ⟨mm, ns, F, N, hm, fin⟩ := hh.news
    exact newList_N F N (fun h' F' N' => Out.mk (fin _ _ h' F' N' fun p hp => Heap.lt_size (N p hp).1) (k.2 _)) (by rw [sizeLine_eq]; omega)
theorem w_addTr {a b : Addr} {i1 i2 : List Value} {n1 n2 : Nat} {X1 X2 : Ld} {r1 r2 : List (Int × Int × Int)} {l0 : Lb} {K : KV} (H1 : TripsAre X1 i1 r1) (H2 : TripsAre X2 i2 r2) (hz : r1.length + r2.length ≤ 1000) (hl : l = lst b i2 n2 :: X2 :: lst a i1 n1 :: X1 :: l0) (k : ∀ D its X, TripsAre X its (r1 ++ r2) → K (.ref D) m cv (lst D its 0 :: X :: l0) tk) : WE c (binaryOp .Add (.ref a) (.ref b)) K m cv l tk := by
  subst hl
  refine WE.thin (K' := fun v m' cv' l' tk' => ∃ D, v = .ref D ∧ m' = m ∧ cv' = cv ∧ tk' = tk ∧ l' = lst D (i1 ++ i2) 0 :: lst b i2 n2 :: X2 :: lst a i1 n1 :: X1 :: l0) (w_addL 2 0 rfl rfl (by rw [trips_len H1, trips_len H2]; exact hz) fun D => ⟨D, rfl, rfl, rfl, rfl, rfl⟩) ?_
  rintro v m' cv' l' tk' ⟨D, rfl, rfl, rfl, rfl, rfl⟩
  refine ⟨lst D (i1 ++ i2) 0 :: (X2 ++ X1) :: l0, ?_, k D _ _ (trips_app (H1.mono fun p hp => List.mem_append_right _ hp) (H2.mono fun p hp => List.mem_append_left _ hp))⟩
  show ((D, W.listOf (i1 ++ i2).toArray 0) :: ((X2 ++ X1) ++ l0.flatten)).Sublist ((D, W.listOf (i1 ++ i2).toArray 0) :: (b, W.listOf i2.toArray n2) :: (X2 ++ ((a, W.listOf i1.toArray n1) :: (X1 ++ l0.flatten))))
  rw [List.append_assoc]
  exact .cons_cons _ (.cons _ (List.Sublist.append (List.Sublist.refl _) (.cons _ (List.Sublist.refl _))))
/-- an attribute that takes a comprehension -/
theorem w_attrC {elt o : Expr} {gs : List Comprehension} {sc : Scope} {p0 pos p' : Pos} {attr : Str} {K : Flow → KU} (hsw : swapsWith (.ListComp elt gs sc p0) (some (.Attribute o attr p')) pos.line c.ev = pure false) (k : WE c (eval (.ListComp elt gs sc p0) c.ev) (fun v => WE c (eval o c.ev) fun ov => WE c (setAttr ov attr v) fun _ => K .next) m cv l tk) : WE c (exec (.Assign [.Attribute o attr p'] (.ListComp elt gs sc p0) pos) c.ev) K m cv l tk :=
  .mk fun _ hh => plainObj_wpAny_Assign_Attribute (k.go hh fun _ _ _ _ _ _ hh k => k.go hh fun _ _ _ _ _ _ hh k => k.go hh fun _ _ _ _ _ _ hh k => Out.mk hh k) hsw
/-- the last text of a list -/
theorem w_lastS {D : Addr} {its : List Value} {n : Nat} {ss : List Str} {z : Str} {K : KV} {value slice : Expr} {t : Tok} (i : Nat) (hi : atB l i = lst D its n) (hs : notSlice slice = true) (hS : StrsAre its ss) (hz : ss.getLast? = some z) (kk : ∀ u, K (.str z u) m cv l tk) :
    WE c (subscriptTail value slice (.ref D) (.int (-1) t)) K m cv l tk := by
  have hl := strs_len hS
  have hp : 0 < ss.length := by
    cases ss with
    | nil => cases hz
    | cons _ _ => simp
  obtain ⟨u, hu⟩ := strs_at hS (ss.length - 1) (by omega)
  have e : ss.getD (ss.length - 1) Str.empty = z := by
    rw [List.getLast?_eq_getElem?] at hz
    rw [List.getD_eq_getElem?_getD, hz]; rfl
  rw [e] at hu
  refine w_itemNeg (j := ss.length - 1) i hi hs (by decide) (by decide) ?_ hu (kk u)
  unfold seqIndex?
  rw [hl]
  simp
  omega
/-- an item of a list put anew -/
theorem w_setI {D : Addr} {its q : List Value} {n : Nat} {v : Value} {k : Int} {t : Tok} {K : Unit → KU} (i : Nat) (hi : atB l i = lst D its n) (h0 : 0 ≤ k) (hfit : k < 2 ^ 63) (e : ki_setL its k.toNat v = some q) (kk : K () m cv (setB (lst D q n) i l) tk) : WE c (setItem (.ref D) (.int k t) v) K m cv l tk :=
  .mk fun _ hh0 => by
    obtain ⟨mm, ns, ns', F, N, U, fin⟩ := hh0.turned (o' := W.listOf q.toArray n) (b' := lst D q n) (atB_get hi) (List.mem_cons_self : (D, W.listOf its.toArray n) ∈ _) (by
      show (if D = D then _ else _) :: [] = _
      rw [if_pos rfl]; rfl)
    exact ki_set F N h0 hfit e U fun h' F' N' => Out.mk (fin h' F' N') kk
/-- loops whose turns change locals too: what is known of them is part of the invariant -/
noncomputable def TurnM (K : Flow → KU) (J : Lo → Lo → Lb → Prop) : Flow → KU := TurnK K fun m cv l _ => ∃ m1 cv1, LoSub m1 m ∧ LoSub cv1 cv ∧ J m1 cv1 l
noncomputable def JOfM (c : Ct w S r u) (J : Nat → Lo → Lo → Lb → Prop) (i : Nat) (mm : Str → Option Value) (ns : Ld) : Prop := ∃ m1 cv1 co l, ns = co ++ l.flatten ∧ c.Inv m1 cv1 mm co ∧ Apart ns ∧ J i m1 cv1 l
theorem w_overRM (hf : FnFrame c) {x : Str} {body : List Stmt} {K : Flow → KU} (hx : S.names.lookup x = some .local) {ra : Addr} {b : Int} {t₁ u₁ v₁ : Tok} (n : Nat) (m0 cv0 : Lo) (j : Nat) (hj : atB l j = rng ra 0 b t₁ u₁ v₁) (hb : b = (n : Int)) (hn : n ≤ 1000) (J : Nat → Lo → Lo → Lb → Prop) (hm : LoSub m0 m) (hv : LoSub cv0 cv) (h0 : J 0 m0 cv0 l)
    (turn : ∀ i m1 cv1 t l tk (c2 : Ct w S r u), FnFrame c2 → c2.base = c.base → c2.ev = c.ev → i < n → J i m1 cv1 l → WE c2 (execs body c2.ev) (TurnM K (J (i + 1))) (setL x (.int (0 + (i : Int)) t) m1) cv1 l tk)
    (done : ∀ m1 cv1 l tk, J n m1 cv1 l → K .next m1 cv1 l tk) : ForK c x body K (.ref ra) m cv l tk := .mk fun h hh => by
  have hh := Holds.less hf hm hv hh
  obtain ⟨mm, co, F, hi, N, a⟩ := hh
  have hl := hf.locals
  have F' : Fr c.h₀ c.ev.locals h mm := by rw [hl]; exact F
  have N' : News c.h₀ c.ev.locals h (co ++ l.flatten) := by rw [hl]; exact N
  have hr : IsRange h ra 0 b 1 t₁ u₁ v₁ := N.get (List.mem_append_right _ (mem_block (atB_get hj) List.mem_cons_self))
  refine iter_rangeJ (s := c.sh h tk) (JOfM c J) c.hn hr (by rw [hb]; exact small_nat hn) (by rw [hb]; exact size_nat n) F' N' ⟨m0, cv0, co, l, rfl, hi, a, h0⟩ ?_ ?_
  · rintro i t I it mm ns h tk hi' ⟨m1, cv1, co, l, rfl, hi, ap, hJ⟩ off F N
    rw [hl] at F N ⊢
    exact turn_ok hf hx (fun _ _ _ _ _ _ h1 h2 ⟨m2, cv2, q1, q2, q3⟩ => ⟨m2, cv2, _, _, rfl, hf.less q1.get q2.get h1, h2, q3⟩) hi ap off F N (turn i m1 cv1 t l tk (Ct.hide c (I, it)) (hf.hide _) rfl rfl hi' hJ)
  · rintro mm ns h tk ⟨m1, cv1, co, l, rfl, hi, ap, hJ⟩ F N
    rw [hl] at F N
    exact Out.mk ⟨mm, co, F, hi, N, ap⟩ (done m1 cv1 l tk hJ)
end
end
section
open PySem PySem.W PyProof.Rows PySem.Spec PySem.Calls PyProof.V
open V
set_option maxRecDepth 20000
set_option linter.unusedVariables false
section
variable {w : WG} {S : Scope} {r u : Nat} {c : Ct w S r u} {m cv : Lo} {l : Lb} {tk : Nat} {h : Heap}
theorem w_listL {D : Addr} {its : List Value} {n : Nat} {K : KV} (i : Nat) (hi : atB l i = lst D its n) (hz : its.length ≤ 1000) (k : ∀ D' n', K (.ref D') m cv (lst D' its n' :: l) tk) : WE c (call (.type "list") [.ref D]) K m cv l tk :=
  .mk fun _ hh0 => by
    have ht := hh0.list i hi
    obtain ⟨mm, ns, F, N, hs, fin⟩ := hh0.news
    exact list_copyK F N ht (fun D' n h' F' N' lt => Out.mk (fin D' _ h' F' N' lt) (k D' n)) (by rw [sizeLine_eq, List.size_toArray]; omega)
end
theorem last_reset (m0 m1 m2 : Str) : (Str.ofString "in body" :: ([m0, m1, m2].filter fun c => c != Str.ofString "")).getLast? = some (resetS m2 m1 m0) := by
  have e : ∀ a : Str, (a != Str.ofString "") = !(a == Str.ofString "") := fun _ => rfl
  unfold resetS
  simp only [List.filter_cons, List.filter_nil, e]
  cases h0 : m0 == Str.ofString "" <;> cases h1 : m1 == Str.ofString "" <;> cases h2 : m2 == Str.ofString "" <;> rfl
theorem WordsAt.get {X : Ld} {its : List Value} {W : List (Str × Str)} {i : Nat} {s n : Str} {G : Prop} (h : WordsAt X its W) (e : W[i]? = some (s, n)) (k : ∀ a t1 t2, its[i]? = some (Value.ref a) → (a, ({ cls := .type "tuple", data := .seq #[.str s t1, .str n t2] } : Obj)) ∈ X → PyData.strOk s = true → PyData.strOk n = true → G) : G := by
  obtain ⟨a, t1, t2, e1, e2, e3, e4⟩ := h.2 i s n e
  exact k a t1 t2 e1 e2 e3 e4
theorem three_of {α : Type} {l : List α} (h : l.length = 3) : ∃ a b c, l = [a, b, c] := by
  match l, h with
  | [a, b, c], _ => exact ⟨a, b, c, rfl⟩
theorem V.StackE.put {es : List DictEntry} (H : StackE es) {hs : Int} {tk : Tok} {D : Addr} : StackE (putL (Str.ofString "items") hs (.str (Str.ofString "items") tk) (.ref D) es) ∧ at_ "items" (putL (Str.ofString "items") hs (.str (Str.ofString "items") tk) (.ref D) es) D := by
  obtain ⟨d, m, x, i⟩ := H
  exact ⟨⟨DOk.re d i, get_put_ne d (by decide) m, _, get_put d⟩, get_put d⟩
theorem WordsAt.mono {X Y : Ld} {its : List Value} {W : List (Str × Str)} (h : WordsAt X its W) (hs : ∀ p ∈ X, p ∈ Y) : WordsAt Y its W :=
  ⟨h.1, fun i s n e => by
    obtain ⟨a, t1, t2, e1, e2, e3⟩ := h.2 i s n e
    exact ⟨a, t1, t2, e1, hs _ e2, e3⟩⟩
/-- nodes of a tree that bear these words -/
noncomputable def Ids (sp nm : List Str) (ids : List Int) (W : List (Str × Str)) : Prop := ids.map (wd sp nm) = W ∧ ∀ i ∈ ids, 0 ≤ i ∧ i < (sp.length : Int)
theorem wd_grow {sp nm sp' nm' : List Str} {i : Int} (h0 : 0 ≤ i) (h1 : i < (sp.length : Int)) (hl : nm.length = sp.length) : wd (sp ++ sp') (nm ++ nm') i = wd sp nm i := by
  unfold wd
  rw [List.getD_eq_getElem?_getD, List.getD_eq_getElem?_getD, List.getD_eq_getElem?_getD, List.getD_eq_getElem?_getD, List.getElem?_append_left (by omega), List.getElem?_append_left (by omega)]
theorem wd_new {sp nm sp' nm' : List Str} {y z : Str} (hl : nm.length = sp.length) : wd (sp ++ [y] ++ sp') (nm ++ [z] ++ nm') (sp.length : Int) = (y, z) := by
  unfold wd
  rw [getD_end (l := sp) rfl, getD_end (l := nm) (by rw [hl])]
theorem Ids.grow {sp nm sp' nm' : List Str} {ids : List Int} {W : List (Str × Str)} (h : Ids sp nm ids W) (hl : nm.length = sp.length) : Ids (sp ++ sp') (nm ++ nm') ids W := by
  obtain ⟨h1, h2⟩ := h
  refine ⟨h1 ▸ List.map_congr_left fun i hi => wd_grow (h2 i hi).1 (h2 i hi).2 hl, fun i hi => ⟨(h2 i hi).1, ?_⟩⟩
  have := (h2 i hi).2
  rw [List.length_append]; omega
theorem Ids.add {sp nm sp' nm' : List Str} {ids : List Int} {W : List (Str × Str)} {y z : Str} (h : Ids sp nm ids W) (hl : nm.length = sp.length) : Ids (sp ++ [y] ++ sp') (nm ++ [z] ++ nm') (ids ++ [(sp.length : Int)]) (W ++ [(y, z)]) := by
  obtain ⟨h1, h2⟩ := (h.grow (sp' := [y] ++ sp') (nm' := [z] ++ nm') hl)
  rw [← List.append_assoc, ← List.append_assoc] at h1
  refine ⟨by rw [List.map_append, h1, List.map_cons, List.map_nil, wd_new hl], fun i hi => ?_⟩
  rcases List.mem_append.mp hi with hi | hi
  · have := h2 i hi
    rw [← List.append_assoc] at this; exact this
  · rw [List.mem_singleton.mp hi]
    simp only [List.length_append, List.length_singleton]
    omega
theorem TreeAt.lens {w : WG} {A : TA} {sp nm : List Str} {at' ch : List Value} {k : Nat} {T : Ld} (h : TreeAt w A sp nm at' ch k T) : nm.length = sp.length := by
  obtain ⟨O, _, hO⟩ := h; exact hO.l3
theorem ints_snoc {i : Int} {t : Tok} : ∀ {vs : List Value} {is : List Int}, IntsAre vs is → IntsAre (vs ++ [.int i t]) (is ++ [i])
  | _, _, .nil => .cons _ _ .nil
  | _, _, .cons _ _ r => .cons _ _ (ints_snoc r)
theorem take_next {α : Type} {W : List α} {i : Nat} {p : α} (h : W[i]? = some p) : W.take i ++ [p] = W.take (i + 1) := by
  rw [List.take_add_one, h]; rfl
/-- the word that the context shows -/
noncomputable def CxIs (fb : Bool) (cv : Int) (sp nm : List Str) (p : Str × Str) : Prop := (fb = false ∧ cv = -1) ∨ (fb = true ∧ 0 ≤ cv ∧ cv < (sp.length : Int) ∧ wd sp nm cv = p)
noncomputable def tellM (W : List (Str × Str)) (top : Str) (hd : Bool) (i : Nat) : Str := modeF (W.getD i (Str.empty, Str.empty)) (selM ((W.take i).reverse)) top (!hd) ((i : Int) == 0)
theorem fin_three {sp nm : List Str} {P : BP} {i0 i1 i2 : Int} {q0 q1 q2 p : Str × Str} {hh fb : Bool} (e : P.ids = [i0, i1, i2]) (hI : Ids sp nm [i0, i1, i2] [q0, q1, q2]) (hh' : (P.hv == -1) = !hh) (hc : CxIs fb P.cv sp nm p) :
    finR sp nm P P.ids.length (Str.ofString "") = resetS (tellM [q0, q1, q2] P.top hh 2) (tellM [q0, q1, q2] P.top hh 1) (modeF (if fb then p else q0) (selM []) P.top (!hh) true) := by
  obtain ⟨hw, hr⟩ := hI
  have hw' : words sp nm P = [q0, q1, q2] := by unfold words; rw [e]; exact hw
  simp only [List.map_cons, List.map_nil, List.cons.injEq, and_true] at hw
  obtain ⟨w0, w1, w2⟩ := hw
  have r0 := hr i0 (by simp)
  have a2 : modeA sp nm P 2 = tellM [q0, q1, q2] P.top hh 2 := by
    unfold modeA tellM nodeA
    rw [hw', e, hh']
    show modeF (wd sp nm i2) _ _ _ _ = _
    rw [w2]; rfl
  have a1 : modeA sp nm P 1 = tellM [q0, q1, q2] P.top hh 1 := by
    unfold modeA tellM nodeA
    rw [hw', e, hh']
    show modeF (wd sp nm i1) _ _ _ _ = _
    rw [w1]; rfl
  have a0 : modeA sp nm P 0 = modeF (if fb then p else q0) (selM []) P.top (!hh) true := by
    unfold modeA nodeA
    rw [e, hh']
    rcases hc with ⟨h1, h2⟩ | ⟨h1, h2, h3, h4⟩
    · rw [h2, h1]
      show modeF (wd sp nm i0) _ _ _ _ = _
      rw [w0]; rfl
    · have hn : (P.cv != -1) = true := by
        rw [bne_iff_ne]; omega
      rw [hn, h1]
      show modeF (wd sp nm P.cv) _ _ _ _ = _
      rw [h4]; rfl
  rw [← a2, ← a1, ← a0, e]
  show finR sp nm P 3 (Str.ofString "") = _
  unfold resetS
  rw [show finR sp nm P 3 (Str.ofString "") = finR sp nm P 2 (modeA sp nm P 2) from if_pos (beq_self_eq_true _)]
  by_cases h2 : (modeA sp nm P 2 == Str.ofString "") = true
  · rw [if_pos h2, show finR sp nm P 2 (modeA sp nm P 2) = finR sp nm P 1 (modeA sp nm P 1) from if_pos h2]
    by_cases h1 : (modeA sp nm P 1 == Str.ofString "") = true
    · rw [if_pos h1, show finR sp nm P 1 (modeA sp nm P 1) = finR sp nm P 0 (modeA sp nm P 0) from if_pos h1]
      rfl
    · rw [if_neg h1, finR_no (Bool.eq_false_iff.mpr h1)]
  · rw [if_neg h2, finR_no (Bool.eq_false_iff.mpr h2)]
theorem three_inv {vs : List Value} {x y z : Str} (h : StrsAre vs [x, y, z]) : ∃ t u v, vs = [.str x t, .str y u, .str z v] := by
  cases h with
  | cons _ t h => cases h with
    | cons _ u h => cases h with
      | cons _ v h => cases h; exact ⟨t, u, v, rfl⟩
theorem filter_next {W : List Str} {i : Nat} {x : Str} {f : Str → Bool} (h : W[i]? = some x) : (W.take (i + 1)).filter f = if f x then (W.take i).filter f ++ [x] else (W.take i).filter f := by
  rw [← take_next h, List.filter_append]
  cases hx : f x <;> simp [hx]
theorem tell_eq {W : List (Str × Str)} {top : Str} {hd : Bool} {i : Nat} {p : Str × Str} (h : W[i]? = some p) : modeF p (selM ((W.take i).reverse)) top (!hd) ((i : Int) == 0) = tellM W top hd i := by
  unfold tellM
  rw [List.getD_eq_getElem?_getD, h]; rfl
theorem reads_ints {h : Heap} : ∀ {vs : List Value} {ns : List Int}, IntsAre vs ns → ∃ as, ReadsAll h vs (ns.map .int) as
  | _, _, .nil => ⟨_, .nil⟩
  | _, _, .cons x t r => by
    obtain ⟨as, ha⟩ := reads_ints r
    exact ⟨_, .cons (.int _ _) ha⟩
noncomputable def dSeen (a b d x y : Int) : PyData := .tuple [.list [.int a, .int b, .int d], .int x, .int y]
theorem seen_eq (a b d x y : Int) : (!PyData.eqv (dSeen a b d x y) (dSeen a b d x y)) = false := by
  unfold dSeen; simp [PyData.eqv, PyData.eqvAll]
noncomputable def dTop (x : Str) : PyData := .list [.str (Str.ofString "in table"), .str x]
theorem top_eq (x : Str) : (!PyData.eqv (dTop x) (dTop x)) = false := by
  unfold dTop; simp [PyData.eqv, PyData.eqvAll]
theorem top_ok {x : Str} (h : x ∈ St ["in template", "in row", "in body"]) : PySem.SeqAt.shaped (dTop x) = true := by
  simp only [St, List.map_cons, List.map_nil, List.mem_cons, List.not_mem_nil, or_false] at h
  rcases h with rfl | rfl | rfl <;> decide +kernel
section
variable {w : WG} {S : Scope} {r u : Nat} {c : Ct w S r u} {m cv : Lo} {l : Lb} {tk : Nat} {h : Heap}
/-- the stack's items, put anew -/
theorem w_setSt {x dx D : Addr} {es : List DictEntry} {n : Nat} {K : Unit → KU} (i : Nat) (hi : atB l i = ins x 329 dx es n) (H : StackE es) (k : ∀ es' n', StackE es' → at_ "items" es' D → K () m cv (setB (ins x 329 dx es' n') i l) (tk + 2)) : WE c (setAttr (.ref x) (Str.ofString "items") (.ref D)) K m cv l tk :=
  w_set i hi rfl H.d rfl (k _ _ H.put.1 H.put.2)
/-- what stands in a builder's dict beside one name -/
noncomputable def Keeps (x : Str) (es es' : List DictEntry) : Prop := ∀ a, x ≠ a → ∀ y, getL a es = y → getL a es' = y
theorem V.BuildE.puts {es : List DictEntry} {t st er : Addr} (H : BuildE es t st er) {name : Str} {hs : Int} {tk : Tok} {v : Value} (hx : ∃ x, getL name es = some (some x)) (h1 : name ≠ Str.ofString "tree") (h2 : name ≠ Str.ofString "stack") (h3 : name ≠ Str.ofString "errors") (h4 : name ≠ Str.ofString "to") :
    BuildE (putL name hs (.str name tk) v es) t st er ∧ getL name (putL name hs (.str name tk) v es) = some (some v) ∧ Keeps name es (putL name hs (.str name tk) v es) := by
  obtain ⟨x, hx⟩ := hx
  exact ⟨BuildE.put H hx h1 h2 h3 h4, get_put H.d, fun a ne y hy => get_put_ne H.d ne hy⟩
theorem w_setB {x dx t st er : Addr} {es : List DictEntry} {n : Nat} {name : Str} {v : Value} {K : Unit → KU} (i : Nat) (hi : atB l i = ins x 524 dx es n) (H : BuildE es t st er) (ok : inT 524 name = true) (hx : ∃ x, getL name es = some (some x)) (h1 : name ≠ Str.ofString "tree") (h2 : name ≠ Str.ofString "stack") (h3 : name ≠ Str.ofString "errors") (h4 : name ≠ Str.ofString "to")
    (k : ∀ es' n', BuildE es' t st er → getL name es' = some (some v) → Keeps name es es' → K () m cv (setB (ins x 524 dx es' n') i l) (tk + 2)) : WE c (setAttr (.ref x) name v) K m cv l tk :=
  w_set i hi ok H.d rfl (k _ _ (H.puts hx h1 h2 h3 h4).1 (H.puts hx h1 h2 h3 h4).2.1 (H.puts hx h1 h2 h3 h4).2.2)
end
theorem CallOk.mono {w : WG} {r u : Nat} {B : Heap → Prop} {f : Addr} {args : List Value} {pre : Lb} {P Q : Value → Lb → Prop} (C : CallOk w r u B f args pre P) (h : ∀ v post, P v post → Q v post) : CallOk w r u B f args pre Q :=
  ⟨fun c hr hu hB _ _ _ _ _ k => C.run c hr hu hB fun v post tk hp => k v post tk (h v post hp)⟩
theorem v_toB (w : WG) (b bd : Addr) (es : List DictEntry) (n : Nat) (t st er : Addr) (hB : BuildE es t st er) (x : Value) : CallOk w 1 3 (fun _ => True) 486 [.ref b, x] [ins b 524 bd es n] (fun v post => v = .none ∧ ∃ es' n', post = [ins b 524 bd es' n'] ∧ BuildE es' t st er ∧ Keeps (Str.ofString "mode") es es') :=
  (v_to w b bd es n t st er hB x).mono fun v post ⟨h1, tk, n', h2⟩ => by
    have := hB.puts (name := Str.ofString "mode") (hs := PyData.keyHash w.w.params (Str.ofString "mode")) (tk := tk) (v := x) hB.mo (by decide) (by decide) (by decide) (by decide)
    exact ⟨h1, _, n', h2, this.1, this.2.2⟩
noncomputable def ResetB (P : BP) (t : Addr) (T : Ld) (y : Str) (v : Value) (post : Lb) : Prop := v = .none ∧ ∃ es n tx, post = [ins P.b 524 P.bd es n, ins P.st 329 P.sd P.ses P.sn, lst P.si P.its P.ks, lst P.md [.str (Str.ofString "in table") P.tm, .str P.top P.tn] P.km, T] ∧ BuildE es t P.st P.er ∧ getL (Str.ofString "mode") es = some (some (.str y tx)) ∧ Keeps (Str.ofString "mode") P.es es
theorem v_resetB (w : WG) (A : TA) (T : Ld) (sp nm : List Str) (at' ch : List Value) (k : Nat) (hT : TreeAt w A sp nm at' ch k T) (hl : sp.length ≤ 900) (P : BP) (hP : BOk A sp P) (hcv : P.cv = -1 ∨ (0 ≤ P.cv ∧ P.cv < (sp.length : Int))) (y : Str) (hy : finR sp nm P P.ids.length (Str.ofString "") = y) :
    CallOk w 4 12 (fun _ => True) 556 [.ref P.b] (BB P ++ [T]) (ResetB P A.t T y) :=
  (v_reset w A T sp nm at' ch k hT hl P hP hcv).mono fun v post ⟨h1, tk, tx, n', h2⟩ => by
    subst hy
    have := hP.e.puts (name := Str.ofString "mode") (hs := PyData.keyHash w.w.params (Str.ofString "mode")) (tk := tk) (v := .str (finR sp nm P P.ids.length (Str.ofString "")) tx) hP.e.mo (by decide) (by decide) (by decide) (by decide)
    exact ⟨h1, _, n', tx, h2, this⟩
theorem CxIs.range {fb : Bool} {cv : Int} {sp nm : List Str} {p : Str × Str} (h : CxIs fb cv sp nm p) : cv = -1 ∨ (0 ≤ cv ∧ cv < (sp.length : Int)) := by
  rcases h with ⟨_, h⟩ | ⟨_, h1, h2, _⟩
  · exact .inl h
  · exact .inr ⟨h1, h2⟩
theorem binds_el3 (w : WG) : ∃ b, (∀ t z y, Binds w.K 365 [t, z, y] [(Str.ofString "self", t), (Str.ofString "name", z), (Str.ofString "space", y), (Str.ofString "attrs", .ref b)]) ∧ List.lookup b w.K = some { cls := .type "tuple", data := .seq #[] 0 } := w.ok.el3
end
section
open PySem PySem.W PyProof.Rows PySem.Spec PySem.Calls PyProof.V
open V
set_option maxRecDepth 20000
set_option linter.unusedVariables false
noncomputable def cR : List Str := Txt.words (Str.ofString "html table select template div td tr tbody caption colgroup head body frameset th option thead tfoot form")
noncomputable def cTr : List (Int × Int × Int) := [(1, 2, 4), (0, 1, 2), (2, 14, 17), (1, 3, 2), (0, 4, 17), (5, 4, 17), (13, 4, 14), (10, 17, 4), (0, 5, 4), (0, 6, 14), (0, 9, 4), (0, 12, 4)]
theorem cR_ok : cR.all (fun y => PyData.strOk y) = true := by decide +kernel
theorem WordsAt.snoc {X : Ld} {its : List Value} {W : List (Str × Str)} {D : Addr} {s n : Str} {t1 t2 : Tok} (h : WordsAt X its W) (hs : PyData.strOk s = true) (hn : PyData.strOk n = true) : WordsAt (tup D [.str s t1, .str n t2] ++ X) (its ++ [.ref D]) (W ++ [(s, n)]) := by
  obtain ⟨hl, hw⟩ := h
  refine ⟨by simp [hl], fun i s' n' e => ?_⟩
  by_cases hi : i < W.length
  · rw [List.getElem?_append_left hi] at e
    obtain ⟨a, u1, u2, e1, e2, e3, e4⟩ := hw i s' n' e
    exact ⟨a, u1, u2, by rw [List.getElem?_append_left (by omega)]; exact e1, List.mem_append_right _ e2, e3, e4⟩
  · rw [List.getElem?_append_right (by omega)] at e
    have hz : i - W.length = 0 := by
      have := (List.getElem?_eq_some_iff.mp e).1
      simp at this
      omega
    rw [hz] at e
    cases e
    exact ⟨D, t1, t2, by rw [List.getElem?_append_right (by omega), show i - its.length = 0 by omega]; rfl, List.mem_append_left _ (.head _), hs, hn⟩
theorem WordsAt.two {X : Ld} {i0 i1 i2 : Value} {w0 w1 w2 : Str × Str} {D : Addr} {s n : Str} {t1 t2 : Tok} (h : WordsAt X [i0, i1, i2] [w0, w1, w2]) (hs : PyData.strOk s = true) (hn : PyData.strOk n = true) : WordsAt (tup D [.str s t1, .str n t2] ++ X) [i0, i1, .ref D] [w0, w1, (s, n)] := by
  have h2 : WordsAt X [i0, i1] [w0, w1] := ⟨rfl, fun i s' n' e => by
    match i, e with
    | 0, e => exact h.2 0 s' n' e
    | 1, e => exact h.2 1 s' n' e
    | j + 2, e => simp at e⟩
  exact h2.snoc hs hn
theorem cR_len : cR.length = 18 := by decide +kernel
theorem base_at {Xb : Ld} {ba : List Value} {G : Prop} (Hb : TripsAre Xb ba cTr) {i j : Nat} (hi : i < 12) (hj : j < 3) (k : ∀ ab (its : List Value) xv txv, ba[i]? = some (.ref ab) → (ab, ({ cls := .type "tuple", data := .seq its.toArray } : Obj)) ∈ Xb → its[j]? = some (.int xv txv) → seqIndex? (0 + (j : Int)) its.length = some j → G) : G := by
  obtain ⟨rb, hrb⟩ : ∃ rb, cTr[i]? = some rb := ⟨_, List.getElem?_eq_getElem (by simpa [cTr] using hi)⟩
  obtain ⟨ab, tb1, tb2, tb3, hab, hmb⟩ := trips_at Hb i rb hrb
  match j, hj with
  | 0, _ => exact k ab [.int rb.1 tb1, .int rb.2.1 tb2, .int rb.2.2 tb3] _ _ hab hmb rfl rfl
  | 1, _ => exact k ab [.int rb.1 tb1, .int rb.2.1 tb2, .int rb.2.2 tb3] _ _ hab hmb rfl rfl
  | 2, _ => exact k ab [.int rb.1 tb1, .int rb.2.1 tb2, .int rb.2.2 tb3] _ _ hab hmb rfl rfl
/-- what stands between two turns of _law_resets -/
inductive RJ (w : WG) (A : TA) (b bd st sd er c0 : Addr) (Z : Lb) : Nat → Lb → Prop
  | mk {i : Nat} (es n ses sn T sp nm at' ch k) : BuildE es A.t st er → StackE ses → TreeAt w A sp nm at' (.ref c0 :: ch) k T → sp.length ≤ 300 + 8 * i → k ≤ 300 + 4 * i → RJ w A b bd st sd er c0 Z i (T :: ins b 524 bd es n :: ins st 329 sd ses sn :: Z)
/-- what stands between two words -/
inductive WJ (M : Int → Tok → Lo) (CV : Lo) (Dw : Addr) (r : Ld) (Z : Lb) : Nat → Lo → Lo → Lb → Prop
  | mk {j : Nat} (z tz its W Xw nw) : WordsAt Xw its W → W.length = j → WJ M CV Dw r Z j (M z tz) CV (r :: lst Dw its nw :: Xw :: Z)
/-- what stands between two elements -/
inductive PJ (w : WG) (A : TA) (c0 : Addr) (qs : List (Str × Str)) (a0 k0 : Nat) (Z : Lb) : Nat → List Value → Lb → Prop
  | mk {j : Nat} {ys : List Value} (T sp nm at' ch k ids) : TreeAt w A sp nm at' (.ref c0 :: ch) k T → IntsAre ys ids → Ids sp nm ids (qs.take j) → sp.length ≤ a0 + 2 * j → k ≤ k0 + j → PJ w A c0 qs a0 k0 Z j ys (T :: Z)
set_option maxRecDepth 100000 in
set_option maxHeartbeats 2000000 in
theorem v_resets (w : WG) (a : Addr) (vs : List Value) (ns : List Int) (hi : IntsAre vs ns) (hn : ns.length ≤ 63) (A : TA) (T : Ld) (sp nm : List Str) (at' ch : List Value) (c0 : Addr) (k : Nat) (hT : TreeAt w A sp nm at' (.ref c0 :: ch) k T) (hl : sp.length ≤ 300) (hk : k ≤ 300) (b bd st sd er md : Addr) (es ses : List DictEntry) (n sn : Nat) (om : Obj) (hB : BuildE es A.t st er) (hS : StackE ses) (hM : Tab w.w md om cModes2) :
    CallOk w 60 800 (fun b => b.IsList a vs.toArray) 606 [.ref a, .ref b, .ref md] [ins b 524 bd es n, ins st 329 sd ses sn, lst er [] 0, lst c0 [] 0, T, one md om] (fun v post => v = .bool true ∧ post = []) := by
  refine' CallOk.ofCF (binds := [(Str.ofString "script", .ref a), (Str.ofString "builder", .ref b), (Str.ofString "modes", .ref md)]) w.ok.f606 ?k1 ?k3 ?k4 ?k5 ?k6 ?k7 ?k8 ?k9 ?_
  case k1 => exact rfl
  case k3 => exact fun s _ _ _ _ _ _ _ _ _ _ X => BindsTo.of_eq rfl
  case k4 => exact rfl
  case k5 => exact rfl
  case k6 => exact rfl
  case k7 => exact rfl
  case k8 => decide +kernel
  case k9 => exact rfl
  intro c hf hBase R tk
  refine (vcs_ok c hf [] 60).S ?_
  show WM _ _ _ _ _ _ _ _
  refine w_msplit ?_
  show WE _ _ _ _ _ _ _
  refine w_split (by decide +kernel) fun Dn na tkn Hn => ?_
  have Hn : StrsAre na cR := Hn
  show WE _ _ _ _ _ _ _
  refine w_lstTr rfl rfl fun D1 i1 X1 tk1 H1 => ?_
  show WE _ _ _ _ _ _ _
  refine w_lstTr rfl rfl fun D2 i2 X2 tk2 H2 => ?_
  show WE _ _ _ _ _ _ _
  refine w_addTr H1 H2 (Nat.le_of_ble_eq_true rfl) rfl fun Db ba Xb Hb => ?_
  have Hb : TripsAre Xb ba cTr := Hb
  show WE _ _ _ _ _ _ _
  refine w_for hf rfl (fun _ => rfl) ?_
  refine (vce_ok c [] 10).E ?_
  show WE _ _ _ _ _ _ _
  refine w_range fun Dr t1 u1 v1 tkr => ?_
  show ForK _ _ _ _ _ _ _ _ _
  refine ForK.pick (l' := T :: ins b 524 bd es n :: ins st 329 sd ses sn :: one md om :: lst Db ba 0 :: Xb :: lst Dn na 0 :: rng Dr 0 12 t1 u1 v1 :: lst er [] 0 :: lst c0 [] 0 :: R) [8, 4, 5, 9, 1, 2, 3, 0, 6, 7] 10 rfl rfl ?_
  refine w_overR hf rfl 12 [(Str.ofString "script", .ref a), (Str.ofString "names", .ref Dn), (Str.ofString "bases", .ref Db)] [(Str.ofString "builder", .ref b), (Str.ofString "modes", .ref md)] 7 rfl rfl (by decide) (RJ w A b bd st sd er c0 (one md om :: lst Db ba 0 :: Xb :: lst Dn na 0 :: rng Dr 0 12 t1 u1 v1 :: lst er [] 0 :: lst c0 [] 0 :: R)) ⟨rfl, rfl, rfl, trivial⟩ ⟨rfl, rfl, trivial⟩ (.mk es n ses sn T sp nm at' ch k hB hS hT (by omega) (by omega)) ?_ ?_
  · clear hB hS hT hl hk
    rintro i t _ tk' c2 hf2 hbase hev hi12 ⟨es, n, ses, sn, T, sp, nm, at', ch, k, hB, hS, hT, hl, hk⟩
    refine (fun (H : ∀ KF : Flow → KU, (∀ m cv es n ses sn T sp nm at' ch k tk, LoSub [(Str.ofString "script", .ref a), (Str.ofString "names", .ref Dn), (Str.ofString "bases", .ref Db)] m → LoSub [(Str.ofString "builder", .ref b), (Str.ofString "modes", .ref md)] cv → BuildE es A.t st er → StackE ses → TreeAt w A sp nm at' (.ref c0 :: ch) k T → sp.length ≤ 300 + 8 * (i + 1) → k ≤ 300 + 4 * (i + 1) → KF .next m cv (T :: ins b 524 bd es n :: ins st 329 sd ses sn :: one md om :: lst Db ba 0 :: Xb :: lst Dn na 0 :: rng Dr 0 12 t1 u1 v1 :: lst er [] 0 :: lst c0 [] 0 :: R) tk) → WE c2 (execs _ c2.ev) KF _ _ _ _) => H _ ?_) ?_
    · exact fun m cv es n ses sn T sp nm at' ch k tk h1 h2 hB hS hT hl hk => ⟨h1, h2, .mk es n ses sn T sp nm at' ch k hB hS hT hl hk⟩
    intro KF hfin
    refine (vcs_ok c2 hf2 [412, 415, 418, 419, 420, 425] 60).S ?_
    show WE _ _ _ _ _ _ _
    refine WE.pick (l' := lst Db ba 0 :: Xb :: lst Dn na 0 :: T :: ins b 524 bd es n :: ins st 329 sd ses sn :: one md om :: rng Dr 0 12 t1 u1 v1 :: lst er [] 0 :: lst c0 [] 0 :: R) [4, 5, 6, 0, 1, 2, 3, 7, 8, 9] 10 rfl rfl ?_
    generalize hZ0 : T :: ins b 524 bd es n :: ins st 329 sd ses sn :: one md om :: rng Dr 0 12 t1 u1 v1 :: lst er [] 0 :: lst c0 [] 0 :: R = Z0
    refine w_callF (v_digit w a vs ns hi hn _ _ (by omega)) (lst Db ba 0 :: Xb :: lst Dn na 0 :: Z0) rfl rfl (hbase ▸ hBase) [] 0 rfl rfl ?_
    rintro _ _ tk1 ⟨z, tz, rfl, rfl⟩
    show WE _ _ _ _ _ _ _
    refine w_mod (by omega) ?_
    obtain ⟨hh, ehh⟩ : ∃ hh, hh = ((z + (0 + (i : Int))).fmod 2 == 1) := ⟨_, rfl⟩
    intro Dw
    show WE _ _ _ _ _ _ _
    refine WE.cut (l' := lst Dw [] 0 :: ([] : Ld) :: (lst Db ba 0 :: Xb :: lst Dn na 0 :: Z0)) rfl ?_
    refine WE.shed 1 ?_
    refine w_for hf2 rfl (fun _ => rfl) ?_
    refine (vce_ok c2 [] 10).E ?_
    show WE _ _ _ _ _ _ _
    refine w_range fun D3 t3 u3 v3 tk3 => ?_
    show ForK _ _ _ _ _ _ _ _ _
    refine w_overRM hf2 rfl 3 [(Str.ofString "script", .ref a), (Str.ofString "names", .ref Dn), (Str.ofString "bases", .ref Db), (Str.ofString "k", .int (0 + (i : Int)) t), (Str.ofString "number", .int z tz)] [(Str.ofString "builder", .ref b), (Str.ofString "modes", .ref md), (Str.ofString "has_head", .bool hh), (Str.ofString "words", .ref Dw)] 0 rfl rfl (by decide) (WJ (fun z tz => [(Str.ofString "script", .ref a), (Str.ofString "names", .ref Dn), (Str.ofString "bases", .ref Db), (Str.ofString "k", .int (0 + (i : Int)) t), (Str.ofString "number", .int z tz)]) [(Str.ofString "builder", .ref b), (Str.ofString "modes", .ref md), (Str.ofString "has_head", .bool hh), (Str.ofString "words", .ref Dw)] Dw (rng D3 0 3 t3 u3 v3) (lst Db ba 0 :: Xb :: lst Dn na 0 :: Z0)) ⟨rfl, rfl, rfl, rfl, rfl, trivial⟩ ⟨rfl, rfl, by rw [ehh]; rfl, rfl, trivial⟩ ?_ ?_ ?_
    · exact .mk z tz [] [] [] 0 ⟨rfl, fun _ _ _ h => by simp at h⟩ rfl
    · rintro j _ _ tj _ tk4 c3 hf3 _ _ hj3 ⟨z, tz, its, W, Xw, nw, hW, hWl⟩
      refine base_at Hb hi12 hj3 fun ab it3 xv txv hab hmb hxv hsq => ?_
      have hlba : ba.length = 12 := (trips_len Hb).trans rfl
      refine WE.joinT (fun KJ => ∀ z tz Dt t1' t2' y m' tk, LoSub [(Str.ofString "script", .ref a), (Str.ofString "names", .ref Dn), (Str.ofString "bases", .ref Db), (Str.ofString "k", .int (0 + (i : Int)) t), (Str.ofString "number", .int z tz)] m' → y ∈ cR → KJ .next m' [(Str.ofString "builder", .ref b), (Str.ofString "modes", .ref md), (Str.ofString "has_head", .bool hh), (Str.ofString "words", .ref Dw)] (rng D3 0 3 t3 u3 v3 :: lst Dw (its ++ [.ref Dt]) (nw + 1) :: (tup Dt [.str (Str.ofString "html") t1', .str y t2'] ++ Xw) :: lst Db ba 0 :: Xb :: lst Dn na 0 :: Z0) tk) (fun KJ hJ => ?_) ?_
      · refine (vcs_ok c3 hf3 [] 30).S ?_
        show WM _ _ _ _ _ _ _ _
        refine w_mapp 1 rfl ?_
        show WE _ _ _ _ _ _ _
        refine w_item 3 rfl rfl (by omega) (by omega) (show ba[(0 + (i : Int)).toNat]? = _ by rw [Int.zero_add]; exact hab) ?_
        show WE _ _ _ _ _ _ _
        refine w_itemTupM (its := it3) (List.mem_flatten.mpr ⟨Xb, .tail _ (.tail _ (.tail _ (.tail _ (.head _)))), hmb⟩) rfl hsq hxv (by omega) (by omega) ?_
        show WE _ _ _ _ _ _ _
        refine w_mod (by omega) ?_
        show WE _ _ _ _ _ _ _
        refine w_itemE 5 rfl rfl Hn (by rw [cR_len]; decide) (Int.fmod_nonneg_of_pos _ (by omega)) (by rw [cR_len]; exact Int.fmod_lt_of_pos _ (by omega)) fun y ty hy => ?_
        intro Dt
        show WE _ _ _ _ _ _ _
        refine w_app 2 rfl (by rw [hW.1]; omega) ?_
        show WE _ _ _ _ _ _ _
        refine w_fdiv (by omega) (by omega) ?_
        exact Thin.mk [1, 2, 0, 3] 4 rfl (hJ _ _ _ _ _ y _ _ ⟨rfl, rfl, rfl, rfl, rfl, trivial⟩ hy) rfl
      · intro z tz Dt t1' t2' y m' tk hm' hy
        exact ⟨_, [(Str.ofString "builder", .ref b), (Str.ofString "modes", .ref md), (Str.ofString "has_head", .bool hh), (Str.ofString "words", .ref Dw)], hm', ⟨rfl, rfl, rfl, rfl, trivial⟩, .mk z tz _ (W ++ [(Str.ofString "html", y)]) _ _ (hW.snoc (by decide +kernel) (by simpa using List.all_eq_true.mp cR_ok y hy)) (by simp [hWl])⟩
    · rintro _ _ _ tk5 ⟨z2, tz2, its, W, Xw, nw, hW, hWl⟩
      obtain ⟨w0, w1, w2, rfl⟩ := three_of hWl
      obtain ⟨i0, i1, i2, rfl⟩ := three_of (hW.1.trans hWl)
      show WE _ _ _ _ _ _ _
      refine WE.joinT (fun KJ => ∀ j0 j1 j2 q0 q1 q2 Xv tk, WordsAt Xv [j0, j1, j2] [q0, q1, q2] → KJ .next [(Str.ofString "script", .ref a), (Str.ofString "names", .ref Dn), (Str.ofString "bases", .ref Db), (Str.ofString "k", .int (0 + (i : Int)) t), (Str.ofString "number", .int z2 tz2)] [(Str.ofString "builder", .ref b), (Str.ofString "modes", .ref md), (Str.ofString "has_head", .bool hh), (Str.ofString "words", .ref Dw)] (lst Dw [j0, j1, j2] nw :: Xv :: lst Db ba 0 :: Xb :: lst Dn na 0 :: Z0) tk) (fun KJ hJ => ?_) ?_
      · refine vS0_ok hf2 (vce_ok c2 [] 20) (vcs_ok c2 hf2 [] 20) ?_
        show WE _ _ _ _ _ _ _
        refine w_mod (by omega) ?_
        refine BR.mk (fun hq => ?_) fun hq => ?_
        · refine hW.get (i := 2) (s := w2.1) (n := w2.2) rfl fun a2 p1 p2 e1 e2 e3 e4 => ?_
          cases e1
          show WE _ _ _ _ _ _ _
          refine w_item (its := [i0, i1, .ref a2]) 0 rfl rfl (Nat.le_of_ble_eq_true rfl) (by decide) rfl ?_
          show WE _ _ _ _ _ _ _
          refine w_itemTupM (its := [.str w2.1 p1, .str w2.2 p2]) (List.mem_flatten.mpr ⟨Xw, .tail _ (.head _), e2⟩) rfl rfl rfl (by decide) (by decide) ?_
          intro Dx
          show WE _ _ _ _ _ _ _
          refine w_setI (q := [i0, i1, .ref Dx]) 1 rfl (by decide) (by decide) rfl ?_
          exact Thin.mk [1, 0, 2] 3 rfl (hJ _ _ _ _ _ _ (tup Dx [_, _] ++ Xw) _ (hW.two (by decide +kernel) e4)) rfl
        · exact Thin.mk [] 0 rfl (hJ _ _ _ _ _ _ _ _ hW) rfl
      · clear hW hWl w0 w1 w2 i0 i1 i2 Xw
        intro j0 j1 j2 q0 q1 q2 Xv tk6 hWv
        show WE _ _ _ _ _ _ _
        refine w_fdiv (by omega) (by omega) ?_
        show WE _ _ _ _ _ _ _
        refine w_mod (by omega) ?_
        obtain ⟨fb, efb⟩ : ∃ fb, fb = ((z2.fdiv 4 + (0 + (i : Int))).fmod 3 == 1) := ⟨_, rfl⟩
        show WE _ _ _ _ _ _ _
        refine WE.joinT (fun KJ => ∀ Da s3 n3 p3 p4 m' tk, LoSub [(Str.ofString "script", .ref a), (Str.ofString "names", .ref Dn), (Str.ofString "bases", .ref Db), (Str.ofString "k", .int (0 + (i : Int)) t), (Str.ofString "number", .int z2 tz2), (Str.ofString "is_fragment", .bool fb), (Str.ofString "around", .ref Da)] m' → PyData.strOk s3 = true → KJ .next m' [(Str.ofString "builder", .ref b), (Str.ofString "modes", .ref md), (Str.ofString "has_head", .bool hh), (Str.ofString "words", .ref Dw)] (tup Da [.str s3 p3, .str n3 p4] :: lst Dw [j0, j1, j2] nw :: Xv :: lst Db ba 0 :: Xb :: lst Dn na 0 :: Z0) tk) (fun KJ hJ => ?_) ?_
        · refine vS0_ok hf2 (vce_ok c2 [] 20) (vcs_ok c2 hf2 [] 20) ?_
          show WE _ _ _ _ _ _ _
          refine w_fdiv (by omega) (by omega) ?_
          show WE _ _ _ _ _ _ _
          refine w_mod (by omega) ?_
          refine BR.mk (fun hq => ?_) fun hq => ?_
          · show WE _ _ _ _ _ _ _
            refine w_fdiv (by omega) (by omega) ?_
            show WE _ _ _ _ _ _ _
            refine w_mul (by omega) (by omega) ?_
            show WE _ _ _ _ _ _ _
            refine w_mod (by omega) ?_
            show WE _ _ _ _ _ _ _
            refine w_itemE 4 rfl rfl Hn (by rw [cR_len]; decide) (Int.fmod_nonneg_of_pos _ (by omega)) (by rw [cR_len]; exact Int.fmod_lt_of_pos _ (by omega)) fun y ty hy => ?_
            intro Da
            exact Thin.mk [] 0 rfl (hJ Da _ y _ _ _ _ ⟨rfl, rfl, rfl, rfl, rfl, by rw [efb]; rfl, rfl, trivial⟩ (by decide +kernel)) rfl
          · show WE _ _ _ _ _ _ _
            refine w_fdiv (by omega) (by omega) ?_
            show WE _ _ _ _ _ _ _
            refine w_mul (by omega) (by omega) ?_
            show WE _ _ _ _ _ _ _
            refine w_mod (by omega) ?_
            show WE _ _ _ _ _ _ _
            refine w_itemE 4 rfl rfl Hn (by rw [cR_len]; decide) (Int.fmod_nonneg_of_pos _ (by omega)) (by rw [cR_len]; exact Int.fmod_lt_of_pos _ (by omega)) fun y ty hy => ?_
            intro Da
            exact Thin.mk [] 0 rfl (hJ Da _ y _ _ _ _ ⟨rfl, rfl, rfl, rfl, rfl, by rw [efb]; rfl, rfl, trivial⟩ (by decide +kernel)) rfl
        · intro Da s3 n3 p3 p4 m' tk7 hm' hs3
          subst hZ0
          show WE _ _ _ _ _ _ _
          refine WE.pick (l' := T :: ins b 524 bd es n :: ins st 329 sd ses sn :: one md om :: tup Da [.str s3 p3, .str n3 p4] :: lst Dw [j0, j1, j2] nw :: Xv :: lst Db ba 0 :: Xb :: lst Dn na 0 :: rng Dr 0 12 t1 u1 v1 :: lst er [] 0 :: lst c0 [] 0 :: R) [6, 7, 8, 9, 0, 1, 2, 3, 4, 5] 10 rfl rfl ?_
          generalize lst Db ba 0 :: Xb :: lst Dn na 0 :: rng Dr 0 12 t1 u1 v1 :: lst er [] 0 :: lst c0 [] 0 :: R = ZZ at hfin ⊢
          refine WE.less hf2 (m' := [(Str.ofString "script", .ref a), (Str.ofString "names", .ref Dn), (Str.ofString "bases", .ref Db), (Str.ofString "k", .int (0 + (i : Int)) t), (Str.ofString "number", .int z2 tz2), (Str.ofString "is_fragment", .bool fb), (Str.ofString "around", .ref Da)]) (cv' := [(Str.ofString "builder", .ref b), (Str.ofString "modes", .ref md), (Str.ofString "has_head", .bool hh), (Str.ofString "words", .ref Dw)]) (LoSub.get hm') (fun _ _ h => h) ?_
          refine w_lstS rfl rfl fun Dt it3 tkt Ht => ?_
          show WE _ _ _ _ _ _ _
          refine w_fdiv (by omega) (by omega) ?_
          show WE _ _ _ _ _ _ _
          refine w_mod (by omega) ?_
          show WE _ _ _ _ _ _ _
          refine w_itemE 0 rfl rfl Ht (by decide) (Int.fmod_nonneg_of_pos _ (by omega)) (Int.fmod_lt_of_pos _ (by decide)) fun tp ttp htp => ?_
          show WE _ _ _ _ _ _ _
          refine WE.less hf2 (m' := [(Str.ofString "script", .ref a), (Str.ofString "names", .ref Dn), (Str.ofString "bases", .ref Db), (Str.ofString "is_fragment", .bool fb), (Str.ofString "around", .ref Da)]) (cv' := [(Str.ofString "builder", .ref b), (Str.ofString "modes", .ref md), (Str.ofString "has_head", .bool hh), (Str.ofString "words", .ref Dw), (Str.ofString "top", .str tp ttp)]) (LoSub.get ⟨rfl, rfl, rfl, rfl, rfl, trivial⟩) (fun _ _ h => h) ?_
          refine WE.pick (l' := T :: ins b 524 bd es n :: ins st 329 sd ses sn :: one md om :: tup Da [.str s3 p3, .str n3 p4] :: lst Dw [j0, j1, j2] nw :: Xv :: ZZ) [] 1 rfl rfl ?_
          refine w_attrC rfl ?_
          refine w_comp hf2 (fun L => [(Str.ofString "builder", L + 1)]) (fun _ _ _ => by with_unfolding_all rfl) (fun _ => rfl) rfl (by decide) ?_
          refine (vce_ok c2 [] 10).E ?_
          show CompK _ _ _ _ _ _ _ _ _ _
          refine k_listP (cl := fun L => [(Str.ofString "builder", L + 1)]) hf2 [(Str.ofString "builder", .ref b)] 5 rfl (Nat.le_of_ble_eq_true rfl) (PJ w A c0 [q0, q1, q2] sp.length k (ins b 524 bd es n :: ins st 329 sd ses sn :: one md om :: tup Da [.str s3 p3, .str n3 p4] :: lst Dw [j0, j1, j2] nw :: Xv :: ZZ)) ⟨by decide, rfl, rfl, ⟨⟨rfl, fun _ => rfl⟩, trivial⟩, ⟨rfl, trivial⟩⟩ rfl rfl (by decide) rfl rfl ?_ ?_ ?_ ?_
          · exact .mk T sp nm at' ch k [] hT .nil ⟨rfl, fun _ h => nomatch h⟩ (by omega) (by omega)
          · rintro j ys _ ⟨⟩
            exact ⟨5, rfl⟩
          · rintro j ys _ v hj ⟨T1, sp1, nm1, at1, ch1, k1, ids, hT1, hI1, hid, hl1, hk1⟩ hv
            obtain ⟨⟨s', n'⟩, hq⟩ : ∃ p, [q0, q1, q2][j]? = some p := ⟨_, List.getElem?_eq_getElem (show j < [q0, q1, q2].length from hj)⟩
            have hj3 : j < 3 := hj
            refine hWv.get hq fun a1 x1 x2 e1 e2 e3 e4 => ?_
            rw [e1] at hv
            cases hv
            refine ⟨a1, _, .str s' x1, .str n' x2, _, rfl, List.mem_flatten.mpr ⟨Xv, .tail _ (.tail _ (.tail _ (.tail _ (.tail _ (.tail _ (.head _)))))), e2⟩, rfl, rfl, fun tk8 cc => ?_⟩
            refine WE.joinT (fun KJ => ∀ tk dl T3 tn2 sp3 nm3 at3 ch3, TreeAt w A (sp1 ++ [s'] ++ sp3) (nm1 ++ [n'] ++ nm3) at3 (.ref c0 :: ch1 ++ [.ref dl] ++ ch3) (k1 + 1) T3 → sp3.length ≤ 1 → KJ (.int (sp1.length : Int) tn2) [(Str.ofString "space", .str s' x1), (Str.ofString "name", .str n' x2)] [(Str.ofString "builder", .ref b)] (T3 :: ins b 524 bd es n :: ins st 329 sd ses sn :: one md om :: tup Da [.str s3 p3, .str n3 p4] :: lst Dw [j0, j1, j2] nw :: Xv :: ZZ) tk) (fun KJ hJ => ?_) (fun tk dl T3 tn2 sp3 nm3 at3 ch3 hT3 hsp3 => .mk T3 _ _ _ (ch1 ++ [.ref dl] ++ ch3) _ _ hT3 (ints_snoc hI1) (take_next hq ▸ hid.add (TreeAt.lens hT1)) (by simp only [List.length_append, List.length_singleton]; omega) (by omega))
            obtain ⟨O, rfl, hO⟩ := hT1
            refine WE.cut (l' := TL A O ++ (ins b 524 bd es n :: ins st 329 sd ses sn :: one md om :: tup Da [.str s3 p3, .str n3 p4] :: lst Dw [j0, j1, j2] nw :: Xv :: ZZ)) rfl ?_
            refine (vce_ok cc [] 20).E ?_
            show WE _ _ _ _ _ _ _
            refine w_get 9 rfl rfl hB.t rfl ?_
            show WM _ _ _ _ _ _ _ _
            refine w_meth 0 rfl rfl hO.e.m2 ?_
            show WE _ _ _ _ _ _ _
            obtain ⟨b2, ha3, hb2⟩ := binds_el3 w
            refine w_callF (v_elem w A _ sp1 nm1 at1 (.ref c0 :: ch1) k1 ⟨O, rfl, hO⟩ (by omega) (by omega) s' n' x1 x2 b2 [] [] (tupIn_K hb2) (by decide) (ha3 _ _ _)) (ins b 524 bd es n :: ins st 329 sd ses sn :: one md om :: tup Da [.str s3 p3, .str n3 p4] :: lst Dw [j0, j1, j2] nw :: Xv :: ZZ) rfl rfl trivial [0, 1, 2, 3, 4, 5, 6, 7, 8] 9 rfl rfl ?_
            rintro _ _ tk9 ⟨D, dl, cD, T3, tn2, sp3, nm3, at3, ch3, rfl, rfl, hT3, hsp3⟩
            exact Thin.mk [] 1 rfl (hJ _ dl T3 tn2 sp3 nm3 _ ch3 hT3 hsp3) rfl
          rintro ya _ Di tk8 ⟨T1, sp1, nm1, at1, ch1, k1, ids, hT1, hI1, hid, hl1, hk1⟩
          obtain ⟨x0, x1, x2, rfl⟩ := three_of (show ids.length = 3 by have := congrArg List.length hid.1; simpa using this)
          have hid : Ids sp1 nm1 [x0, x1, x2] [q0, q1, q2] := hid
          have hl1 : sp1.length ≤ sp.length + 6 := hl1
          have hk1 : k1 ≤ k + 3 := hk1
          have hyl : ya.length = 3 := ints_len hI1
          generalize ya.length = yn
          refine (vce_ok c2 [] 10).E ?_
          show WE _ _ _ _ _ _ _
          refine w_get 2 rfl rfl hB.s rfl ?_
          show WE _ _ _ _ _ _ _
          refine w_setSt 3 rfl hS fun ses2 sn2 hS2 hi2 => ?_
          show WE _ _ _ _ _ _ _
          refine WE.pick (l' := T1 :: ins b 524 bd es n :: ins st 329 sd ses2 sn2 :: one md om :: lst Di ya yn :: tup Da [.str s3 p3, .str n3 p4] :: lst Dw [j0, j1, j2] nw :: Xv :: ZZ) [1, 2, 3, 4, 0] 5 rfl rfl ?_
          have hk8 : k ≤ 400 := by omega
          refine WE.joinT (fun KJ => ∀ T2 sp2 nm2 at2 ch2 k2 es2 n2 cx tcx tk, TreeAt w A sp2 nm2 at2 (.ref c0 :: ch2) k2 T2 → BuildE es2 A.t st er → getL (Str.ofString "context") es2 = some (some (.int cx tcx)) → Ids sp2 nm2 [x0, x1, x2] [q0, q1, q2] → CxIs fb cx sp2 nm2 (s3, n3) → sp2.length ≤ sp.length + 8 → k2 ≤ k + 4 → KJ .next [(Str.ofString "script", .ref a), (Str.ofString "names", .ref Dn), (Str.ofString "bases", .ref Db), (Str.ofString "is_fragment", .bool fb), (Str.ofString "around", .ref Da)] [(Str.ofString "builder", .ref b), (Str.ofString "modes", .ref md), (Str.ofString "has_head", .bool hh), (Str.ofString "words", .ref Dw), (Str.ofString "top", .str tp ttp)] (T2 :: ins b 524 bd es2 n2 :: ins st 329 sd ses2 sn2 :: one md om :: lst Di ya yn :: tup Da [.str s3 p3, .str n3 p4] :: lst Dw [j0, j1, j2] nw :: Xv :: ZZ) tk) (fun KJ hJ => ?_) ?_
          · refine vS0_ok hf2 (vce_ok c2 [] 20) (vcs_ok c2 hf2 [] 20) ?_
            refine BR.mk (fun hq => ?_) fun hq => ?_
            · have hlens := TreeAt.lens hT1
              obtain ⟨O, rfl, hO⟩ := hT1
              show WE _ _ _ _ _ _ _
              refine WE.cut (l' := TL A O ++ (ins b 524 bd es n :: ins st 329 sd ses2 sn2 :: one md om :: lst Di ya yn :: tup Da [.str s3 p3, .str n3 p4] :: lst Dw [j0, j1, j2] nw :: Xv :: ZZ)) rfl ?_
              refine w_get 9 rfl rfl hB.t rfl ?_
              show WM _ _ _ _ _ _ _ _
              refine w_meth 0 rfl rfl hO.e.m2 ?_
              show WE _ _ _ _ _ _ _
              refine w_itemTup (j := 1) 13 rfl rfl rfl rfl (by decide) (by decide) ?_
              show WE _ _ _ _ _ _ _
              refine w_itemTup (j := 0) 13 rfl rfl rfl rfl (by decide) (by decide) ?_
              show WE _ _ _ _ _ _ _
              obtain ⟨b2, ha3, hb2⟩ := binds_el3 w
              refine w_callF (v_elem w A _ sp1 nm1 at1 (.ref c0 :: ch1) k1 ⟨O, rfl, hO⟩ (by omega) (by omega) s3 n3 p3 p4 b2 [] [] (tupIn_K hb2) (by decide) (ha3 _ _ _)) (ins b 524 bd es n :: ins st 329 sd ses2 sn2 :: one md om :: lst Di ya yn :: tup Da [.str s3 p3, .str n3 p4] :: lst Dw [j0, j1, j2] nw :: Xv :: ZZ) rfl rfl trivial [0, 1, 2, 3, 4, 5, 6, 7, 8] 9 rfl rfl ?_
              rintro _ _ tk9 ⟨D, dl, cD, T3, tn2, sp3, nm3, at3, ch3, rfl, rfl, hT3, hsp3⟩
              show WE _ _ _ _ _ _ _
              refine w_setB 2 rfl hB rfl hB.cx (by decide) (by decide) (by decide) (by decide) fun es2 n2 hB2 hc2 _ => ?_
              exact Thin.mk [] 1 rfl (hJ T3 _ _ _ (ch1 ++ [.ref dl] ++ ch3) _ es2 n2 _ _ _ hT3 hB2 hc2 (by rw [List.append_assoc, List.append_assoc]; exact hid.grow hlens) (.inr ⟨hq, by omega, by simp only [List.length_append, List.length_singleton]; omega, wd_new hlens⟩) (by simp only [List.length_append, List.length_singleton]; omega) (by omega)) rfl
            · show WE _ _ _ _ _ _ _
              refine w_setB 1 rfl hB rfl hB.cx (by decide) (by decide) (by decide) (by decide) fun es2 n2 hB2 hc2 _ => ?_
              exact Thin.mk [] 0 rfl (hJ T1 sp1 nm1 at1 ch1 k1 es2 n2 _ _ _ hT1 hB2 hc2 hid (.inl ⟨hq, rfl⟩) (by omega) (by omega)) rfl
          clear hid hl1 hk1 hB hT1
          intro T2 sp2 nm2 at2 ch2 k2 es2 n2 cx tcx tk9 hT2 hB2 hcx2 hid2 hCx hl2 hk2
          show WE _ _ _ _ _ _ _
          refine WE.joinT (fun KJ => ∀ es3 n3' hv th tk, BuildE es3 A.t st er → getL (Str.ofString "context") es3 = some (some (.int cx tcx)) → getL (Str.ofString "head") es3 = some (some (.int hv th)) → (hv == -1) = !hh → KJ .next [(Str.ofString "script", .ref a), (Str.ofString "names", .ref Dn), (Str.ofString "bases", .ref Db), (Str.ofString "is_fragment", .bool fb), (Str.ofString "around", .ref Da)] [(Str.ofString "builder", .ref b), (Str.ofString "modes", .ref md), (Str.ofString "has_head", .bool hh), (Str.ofString "words", .ref Dw), (Str.ofString "top", .str tp ttp)] (T2 :: ins b 524 bd es3 n3' :: ins st 329 sd ses2 sn2 :: one md om :: lst Di ya yn :: tup Da [.str s3 p3, .str n3 p4] :: lst Dw [j0, j1, j2] nw :: Xv :: ZZ) tk) (fun KJ hJ => ?_) ?_
          · refine vS0_ok hf2 (vce_ok c2 [] 20) (vcs_ok c2 hf2 [] 20) ?_
            refine BR.mk (fun hq => ?_) fun hq => ?_
            · show WE _ _ _ _ _ _ _
              refine w_setB 1 rfl hB2 rfl hB2.hd (by decide) (by decide) (by decide) (by decide) fun es3 n3' hB3 hh3 hk3 => ?_
              exact Thin.mk [] 0 rfl (hJ es3 n3' _ _ _ hB3 (hk3 _ (by decide) _ hcx2) hh3 (by rw [hq]; rfl)) rfl
            · show WE _ _ _ _ _ _ _
              refine w_setB 1 rfl hB2 rfl hB2.hd (by decide) (by decide) (by decide) (by decide) fun es3 n3' hB3 hh3 hk3 => ?_
              exact Thin.mk [] 0 rfl (hJ es3 n3' _ _ _ hB3 (hk3 _ (by decide) _ hcx2) hh3 (by rw [hq]; rfl)) rfl
          clear hB2 hcx2
          intro es3 n3' hv th tk10 hB3 hcx3 hhd3 hhv
          show WE _ _ _ _ _ _ _
          refine WE.joinT (fun KJ => ∀ es4 n4 Dm tm tk, BuildE es4 A.t st er → getL (Str.ofString "context") es4 = some (some (.int cx tcx)) → getL (Str.ofString "head") es4 = some (some (.int hv th)) → at_ "modes" es4 Dm → KJ .next [(Str.ofString "script", .ref a), (Str.ofString "names", .ref Dn), (Str.ofString "bases", .ref Db), (Str.ofString "is_fragment", .bool fb), (Str.ofString "around", .ref Da)] [(Str.ofString "builder", .ref b), (Str.ofString "modes", .ref md), (Str.ofString "has_head", .bool hh), (Str.ofString "words", .ref Dw), (Str.ofString "top", .str tp ttp)] (lst Dm [.str (Str.ofString "in table") tm, .str tp ttp] 0 :: T2 :: ins b 524 bd es4 n4 :: ins st 329 sd ses2 sn2 :: one md om :: lst Di ya yn :: tup Da [.str s3 p3, .str n3 p4] :: lst Dw [j0, j1, j2] nw :: Xv :: ZZ) tk) (fun KJ hJ => ?_) ?_
          · refine vS0_ok hf2 (vce_ok c2 [] 20) (vcs_ok c2 hf2 [] 20) ?_
            intro Dm
            show WE _ _ _ _ _ _ _
            refine w_setB 2 rfl hB3 rfl hB3.ms (by decide) (by decide) (by decide) (by decide) fun es4 n4 hB4 hm4 hk4 => ?_
            exact Thin.mk [] 0 rfl (hJ es4 n4 Dm _ _ hB4 (hk4 _ (by decide) _ hcx3) (hk4 _ (by decide) _ hhd3) hm4) rfl
          clear hB3 hcx3 hhd3
          intro es4 n4 Dm tm tk11 hB4 hcx4 hhd4 hmd4
          show WM _ _ _ _ _ _ _ _
          refine w_meth 2 rfl rfl hB4.m ?_
          show WE _ _ _ _ _ _ _
          refine w_callF (v_toB w b bd es4 n4 A.t st er hB4 _) (ins st 329 sd ses2 sn2 :: lst Di ya yn :: lst Dm [.str (Str.ofString "in table") tm, .str tp ttp] 0 :: T2 :: one md om :: tup Da [.str s3 p3, .str n3 p4] :: lst Dw [j0, j1, j2] nw :: Xv :: ZZ) rfl rfl trivial [2, 3, 5, 0, 1, 4] 6 rfl rfl ?_
          rintro _ _ tk12 ⟨rfl, es5, n5, rfl, hB5, hk5⟩
          show WE _ _ _ _ _ _ _
          refine w_get 0 rfl rfl hB5.s rfl ?_
          show WE _ _ _ _ _ _ _
          refine w_get 1 rfl rfl hi2 rfl ?_
          show WE _ _ _ _ _ _ _
          refine w_listL 2 rfl (by omega) fun L2 nL => ?_
          show WE _ _ _ _ _ _ _
          refine w_get 1 rfl rfl (hk5 _ (by decide) _ hcx4) rfl ?_
          show WE _ _ _ _ _ _ _
          refine w_get 1 rfl rfl (hk5 _ (by decide) _ hhd4) rfl ?_
          intro Dq
          have hid3 := hid2
          have hfin3 := fin_three (sp := sp2) (nm := nm2) (P := ⟨b, bd, st, sd, Di, Dm, er, es5, ses2, n5, sn2, yn, 0, ya, [x0, x1, x2], tm, ttp, th, tcx, tp, hv, cx⟩) (q0 := q0) (q1 := q1) (q2 := q2) rfl hid2 hhv hCx
          obtain ⟨y, ey⟩ : ∃ y, y = resetS (tellM [q0, q1, q2] tp hh 2) (tellM [q0, q1, q2] tp hh 1) (modeF (if fb then (s3, n3) else q0) (selM []) tp (!hh) true) := ⟨_, rfl⟩
          show WE _ _ _ _ _ _ _
          refine w_callF (v_resetB w A T2 sp2 nm2 at2 _ k2 hT2 (by omega) ⟨b, bd, st, sd, Di, Dm, er, es5, ses2, n5, sn2, yn, 0, ya, [x0, x1, x2], tm, ttp, th, tcx, tp, hv, cx⟩ ⟨hB5, hS2, hi2, hk5 _ (by decide) _ hmd4, hk5 _ (by decide) _ hhd4, hk5 _ (by decide) _ hcx4, hI1, hid2.2, Nat.le_of_ble_eq_true rfl⟩ hCx.range y (hfin3.trans ey.symm)) (tup Dq [.ref L2, .int cx tcx, .int hv th] :: lst L2 ya nL :: one md om :: tup Da [.str s3 p3, .str n3 p4] :: lst Dw [j0, j1, j2] nw :: Xv :: ZZ) rfl rfl trivial [2, 3, 4, 5, 6, 0, 1] 7 rfl rfl ?_
          clear hfin3
          rintro _ _ tk13 ⟨rfl, es6, n6, tx6, rfl, hB6, hmo6, hk6⟩
          show WE _ _ _ _ _ _ _
          refine WE.less hf2 (m' := [(Str.ofString "script", .ref a), (Str.ofString "names", .ref Dn), (Str.ofString "bases", .ref Db), (Str.ofString "is_fragment", .bool fb), (Str.ofString "around", .ref Da), (Str.ofString "seen", .ref Dq)]) (cv' := [(Str.ofString "builder", .ref b), (Str.ofString "modes", .ref md), (Str.ofString "has_head", .bool hh), (Str.ofString "words", .ref Dw), (Str.ofString "top", .str tp ttp)]) (LoSub.get ⟨rfl, rfl, rfl, rfl, rfl, rfl, trivial⟩) (fun _ _ h => h) ?_
          refine WE.pick (l' := lst Di ya yn :: lst Dm [.str (Str.ofString "in table") tm, .str tp ttp] 0 :: tup Dq [.ref L2, .int cx tcx, .int hv th] :: lst L2 ya nL :: tup Da [.str s3 p3, .str n3 p4] :: lst Dw [j0, j1, j2] nw :: Xv :: T2 :: ins b 524 bd es6 n6 :: ins st 329 sd ses2 sn2 :: one md om :: ZZ) [2, 3, 5, 6, 8, 9, 10, 4, 0, 1, 7] 11 rfl rfl ?_
          refine w_compA hf2 (fun L => [(Str.ofString "words", L + 4), (Str.ofString "top", L + 5), (Str.ofString "modes", L + 2), (Str.ofString "has_head", L + 3)]) rfl (fun _ _ _ => by with_unfolding_all rfl) (fun _ _ _ => by with_unfolding_all rfl) (fun _ => rfl) rfl (by decide) ?_
          refine (vce_ok c2 [] 10).E ?_
          show WE _ _ _ _ _ _ _
          refine w_range fun D4 t4 u4 v4 tk14 => ?_
          show CompK _ _ _ _ _ _ _ _ _ _
          have hW2 : WordsAt ([Xv, tup Da [.str s3 p3, .str n3 p4]] : Lb).flatten [j0, j1, j2] [q0, q1, q2] := hWv.mono fun p hp => List.mem_append_left _ hp
          refine k_rangeU (cl := fun L => [(Str.ofString "words", L + 4), (Str.ofString "top", L + 5), (Str.ofString "modes", L + 2), (Str.ofString "has_head", L + 3)]) hf2 [(Str.ofString "words", .ref Dw), (Str.ofString "top", .str tp ttp), (Str.ofString "has_head", .bool hh), (Str.ofString "modes", .ref md)] 3 0 rfl rfl (by decide) (fun j ys l' => StrsAre ys ((List.range j).map (tellM [q0, q1, q2] tp hh)) ∧ l' = rng D4 0 3 t4 u4 v4 :: lst Di ya yn :: lst Dm [.str (Str.ofString "in table") tm, .str tp ttp] 0 :: tup Dq [.ref L2, .int cx tcx, .int hv th] :: lst L2 ya nL :: tup Da [.str s3 p3, .str n3 p4] :: lst Dw [j0, j1, j2] nw :: Xv :: T2 :: ins b 524 bd es6 n6 :: ins st 329 sd ses2 sn2 :: one md om :: ZZ) ⟨by decide, rfl, rfl, ⟨⟨rfl, fun _ => rfl⟩, ⟨rfl, fun _ => rfl⟩, ⟨rfl, fun _ => rfl⟩, ⟨rfl, fun _ => rfl⟩, trivial⟩, ⟨rfl, rfl, rfl, rfl, trivial⟩⟩ rfl rfl ⟨.nil, rfl⟩ ?_ ?_
          · rintro j ys _ v tk15 cc _ hj3 ⟨hys, rfl⟩ ⟨tj, rfl⟩
            obtain ⟨⟨s', n'⟩, hq⟩ : ∃ p, [q0, q1, q2][j]? = some p := ⟨_, List.getElem?_eq_getElem (show j < [q0, q1, q2].length from hj3)⟩
            obtain ⟨a1, y1, y2, e1, e2, e3, e4⟩ := hW2.2 j s' n' hq
            refine (vce_ok cc [] 20).E ?_
            show WE _ _ _ _ _ _ _
            refine w_item 6 rfl rfl (Nat.le_of_ble_eq_true rfl) (by omega) (show [j0, j1, j2][(j : Int).toNat]? = _ from e1) ?_
            show WE _ _ _ _ _ _ _
            refine w_callR (v_tells w Dw a1 md om hM [j0, j1, j2] [q0, q1, q2] [Xv, tup Da [.str s3 p3, .str n3 p4]] hW2 (Nat.le_of_ble_eq_true rfl) s' n' y1 y2 _ ttp e2 nw tp hh j hj3) (rng D4 0 3 t4 u4 v4 :: lst Di ya yn :: lst Dm [.str (Str.ofString "in table") tm, .str tp ttp] 0 :: tup Dq [.ref L2, .int cx tcx, .int hv th] :: lst L2 ya nL :: T2 :: ins b 524 bd es6 n6 :: ins st 329 sd ses2 sn2 :: ZZ) rfl rfl [6, 11, 7, 5, 0, 1, 2, 3, 4, 8, 9, 10] 12 rfl rfl rfl ?_
            rintro _ tk16 ⟨u16, rfl⟩
            exact ⟨by rw [List.range_succ, List.map_append, tell_eq hq]; exact strs_snoc hys, rfl⟩
          rintro ys _ D5 tk15 ⟨hys, rfl⟩
          obtain ⟨m0, em0⟩ : ∃ x, x = tellM [q0, q1, q2] tp hh 0 := ⟨_, rfl⟩
          obtain ⟨m1, em1⟩ : ∃ x, x = tellM [q0, q1, q2] tp hh 1 := ⟨_, rfl⟩
          obtain ⟨m2, em2⟩ : ∃ x, x = tellM [q0, q1, q2] tp hh 2 := ⟨_, rfl⟩
          have hys : StrsAre ys [tellM [q0, q1, q2] tp hh 0, tellM [q0, q1, q2] tp hh 1, tellM [q0, q1, q2] tp hh 2] := hys
          rw [← em0, ← em1, ← em2] at hys
          rw [← em1, ← em2] at ey
          obtain ⟨u0, u1', u2, rfl⟩ := three_inv hys
          show WE _ _ _ _ _ _ _
          refine WE.less hf2 (m' := [(Str.ofString "script", .ref a), (Str.ofString "names", .ref Dn), (Str.ofString "bases", .ref Db), (Str.ofString "is_fragment", .bool fb), (Str.ofString "around", .ref Da), (Str.ofString "seen", .ref Dq), (Str.ofString "told", .ref D5)]) (cv' := [(Str.ofString "builder", .ref b), (Str.ofString "modes", .ref md), (Str.ofString "has_head", .bool hh), (Str.ofString "words", .ref Dw), (Str.ofString "top", .str tp ttp)]) (LoSub.get ⟨rfl, rfl, rfl, rfl, rfl, rfl, rfl, trivial⟩) (fun _ _ h => h) ?_
          refine WE.pick (l' := lst D5 [.str m0 u0, .str m1 u1', .str m2 u2] 3 :: lst Di ya yn :: lst Dm [.str (Str.ofString "in table") tm, .str tp ttp] 0 :: tup Dq [.ref L2, .int cx tcx, .int hv th] :: lst L2 ya nL :: tup Da [.str s3 p3, .str n3 p4] :: lst Dw [j0, j1, j2] nw :: Xv :: T2 :: ins b 524 bd es6 n6 :: ins st 329 sd ses2 sn2 :: one md om :: ZZ) [0] 2 rfl rfl ?_
          refine WE.joinT (fun KJ => ∀ z0 uz tk, y = resetS m2 m1 z0 → KJ .next [(Str.ofString "script", .ref a), (Str.ofString "names", .ref Dn), (Str.ofString "bases", .ref Db), (Str.ofString "is_fragment", .bool fb), (Str.ofString "around", .ref Da), (Str.ofString "seen", .ref Dq), (Str.ofString "told", .ref D5)] [(Str.ofString "builder", .ref b), (Str.ofString "modes", .ref md), (Str.ofString "has_head", .bool hh), (Str.ofString "words", .ref Dw), (Str.ofString "top", .str tp ttp)] (lst D5 [.str z0 uz, .str m1 u1', .str m2 u2] 3 :: lst Di ya yn :: lst Dm [.str (Str.ofString "in table") tm, .str tp ttp] 0 :: tup Dq [.ref L2, .int cx tcx, .int hv th] :: lst L2 ya nL :: tup Da [.str s3 p3, .str n3 p4] :: lst Dw [j0, j1, j2] nw :: Xv :: T2 :: ins b 524 bd es6 n6 :: ins st 329 sd ses2 sn2 :: one md om :: ZZ) tk) (fun KJ hJ => ?_) ?_
          · refine vS0_ok hf2 (vce_ok c2 [] 20) (vcs_ok c2 hf2 [] 20) ?_
            refine BR.mk (fun hq => ?_) fun hq => ?_
            · show WE _ _ _ _ _ _ _
              refine w_callR (v_tells w Dw Da md om hM [j0, j1, j2] [q0, q1, q2] [Xv, tup Da [.str s3 p3, .str n3 p4]] hW2 (Nat.le_of_ble_eq_true rfl) s3 n3 p3 p4 _ ttp (List.mem_append_right _ (.head _)) nw tp hh 0 (Nat.zero_lt_succ _)) (lst D5 [.str m0 u0, .str m1 u1', .str m2 u2] 3 :: lst Di ya yn :: lst Dm [.str (Str.ofString "in table") tm, .str tp ttp] 0 :: tup Dq [.ref L2, .int cx tcx, .int hv th] :: lst L2 ya nL :: T2 :: ins b 524 bd es6 n6 :: ins st 329 sd ses2 sn2 :: ZZ) rfl rfl [6, 11, 7, 5, 0, 1, 2, 3, 4, 8, 9, 10] 12 rfl rfl rfl ?_
              rintro _ tk16 ⟨u16, rfl⟩
              show WE _ _ _ _ _ _ _
              refine w_setI (q := [_, .str m1 u1', .str m2 u2]) 0 rfl (by decide) (by decide) rfl ?_
              exact Thin.mk [] 0 rfl (hJ _ _ _ (by rw [ey, hq]; rfl)) rfl
            · exact Thin.mk [] 0 rfl (hJ m0 u0 _ (by rw [ey, hq, em0]; rfl)) rfl
          intro z0 uz tk16 ey2
          show WE _ _ _ _ _ _ _
          refine w_get 9 rfl rfl hmo6 rfl ?_
          intro Dl
          show WE _ _ _ _ _ _ _
          refine w_comp hf2 (fun _ => []) (fun _ _ _ => by with_unfolding_all rfl) (fun _ => rfl) rfl (by decide) ?_
          refine (vce_ok c2 [] 10).E ?_
          show CompK _ _ _ _ _ _ _ _ _ _
          refine k_listT (cl := fun _ => []) hf2 [] 1 rfl (Nat.le_of_ble_eq_true rfl) (fun j ys l' => StrsAre ys (([z0, m1, m2].take j).filter fun c => c != Str.ofString "") ∧ l' = lst Dl [.str (Str.ofString "in body") _] 0 :: lst D5 [.str z0 uz, .str m1 u1', .str m2 u2] 3 :: lst Di ya yn :: lst Dm [.str (Str.ofString "in table") tm, .str tp ttp] 0 :: tup Dq [.ref L2, .int cx tcx, .int hv th] :: lst L2 ya nL :: tup Da [.str s3 p3, .str n3 p4] :: lst Dw [j0, j1, j2] nw :: Xv :: T2 :: ins b 524 bd es6 n6 :: ins st 329 sd ses2 sn2 :: one md om :: ZZ) ⟨by decide, rfl, rfl, trivial, trivial⟩ rfl rfl ⟨.nil, rfl⟩ ?_ ?_ ?_
          · rintro j ys l' ⟨_, rfl⟩
            exact ⟨1, rfl⟩
          · rintro j ys _ v tk17 cc hj3 ⟨hys2, rfl⟩ hv
            have hS3 : StrsAre [.str z0 uz, .str m1 u1', .str m2 u2] [z0, m1, m2] := .cons _ _ (.cons _ _ (.cons _ _ .nil))
            obtain ⟨x, hq⟩ : ∃ x, [z0, m1, m2][j]? = some x := ⟨_, List.getElem?_eq_getElem (show j < [z0, m1, m2].length from hj3)⟩
            obtain ⟨tx, hx⟩ := strs_at hS3 j hj3
            rw [List.getD_eq_getElem?_getD, hq] at hx
            have hx : ([.str z0 uz, .str m1 u1', .str m2 u2] : List Value)[j]? = some (.str x tx) := hx
            rw [hx] at hv
            cases hv
            refine (vce_ok cc [] 20).T ?_
            refine BR.mk (fun hb => ?_) fun hb => ?_
            · refine (vce_ok cc [] 10).E ?_
              exact ⟨by rw [filter_next hq, if_pos hb]; exact strs_snoc hys2, rfl⟩
            · exact ⟨by rw [filter_next hq, if_neg (by rw [hb]; decide)]; exact hys2, rfl⟩
          rintro ys _ D6 tk17 ⟨hys2, rfl⟩
          have hyl2 : ys.length ≤ 3 := by rw [strs_len hys2]; exact List.length_filter_le _ _
          show WE _ _ _ _ _ _ _
          refine w_addL 1 0 rfl rfl (by simp only [List.length_singleton]; omega) fun D7 => ?_
          show WE _ _ _ _ _ _ _
          refine w_lastS 0 rfl rfl (strs_app (.cons _ _ .nil) hys2) (last_reset z0 m1 m2) fun u7 => ?_
          refine BR.f (by rw [ey2]; exact bne_self_eq_false _) ?_
          show WE _ _ _ _ _ _ _
          refine w_get 12 rfl rfl hB6.s rfl ?_
          show WE _ _ _ _ _ _ _
          refine w_get 13 rfl rfl hi2 rfl ?_
          show WE _ _ _ _ _ _ _
          refine w_get 12 rfl rfl (hk6 _ (by decide) _ (hk5 _ (by decide) _ hcx4)) rfl ?_
          show WE _ _ _ _ _ _ _
          refine w_get 12 rfl rfl (hk6 _ (by decide) _ (hk5 _ (by decide) _ hhd4)) rfl ?_
          intro D8
          show WE _ _ _ _ _ _ _
          refine w_cmpNe (dSeen x0 x1 x2 cx hv) (dSeen x0 x1 x2 cx hv) (fun h hh => ?_) (fun h hh => ?_) rfl rfl (by decide) ?_
          · obtain ⟨as, ha⟩ := hh.readL 5 rfl (reads_ints hI1)
            exact hh.readT 0 rfl ⟨_, .cons ha (.cons (.int _ _) (.cons (.int _ _) .nil))⟩
          · obtain ⟨as, ha⟩ := hh.readL 8 rfl (reads_ints hI1)
            exact hh.readT 7 rfl ⟨_, .cons ha (.cons (.int _ _) (.cons (.int _ _) .nil))⟩
          rw [seen_eq]
          refine BR.f rfl ?_
          show WE _ _ _ _ _ _ _
          refine w_get 13 rfl rfl (hk6 _ (by decide) _ (hk5 _ (by decide) _ hmd4)) rfl ?_
          intro D9
          show WE _ _ _ _ _ _ _
          refine WE.shed 13 ?_
          refine w_cmpNe (dTop tp) (dTop tp) (fun h hh => hh.readL 7 rfl ⟨_, .cons (.str _ _) (.cons (.str _ _) .nil)⟩) (fun h hh => hh.readL 0 rfl ⟨_, .cons (.str _ _) (.cons (.str _ _) .nil)⟩) (top_ok htp) (top_ok htp) (by decide) ?_
          rw [top_eq]
          refine BR.f rfl (BR.f rfl ?_)
          show KF _ _ _ _ _
          exact hfin _ _ _ _ _ _ _ _ _ _ _ _ _ ⟨rfl, rfl, rfl, trivial⟩ ⟨rfl, rfl, trivial⟩ hB6 hS2 hT2 (by omega) (by omega)
  · clear hB hS hT hl hk
    rintro _ tk' ⟨es, n, ses, sn, T, sp, nm, at', ch, k, hB, hS, ⟨O, rfl, hO⟩, hl, hk⟩
    show WE _ _ _ _ _ _ _
    refine w_get 1 rfl rfl hB.e rfl ?_
    intro D1
    show WE _ _ _ _ _ _ _
    refine w_cmpEq (.list []) (.list []) (fun h hh => hh.readL 9 rfl ⟨_, .nil⟩) (fun h hh => hh.readL 0 rfl ⟨_, .nil⟩) rfl rfl (by decide) ?_
    refine BR.t rfl ?_
    show WE _ _ _ _ _ _ _
    refine w_get 2 rfl rfl hB.t rfl ?_
    show WE _ _ _ _ _ _ _
    refine WE.cut (l' := lst D1 [] 0 :: (TL A O ++ (ins b 524 bd es n :: ins st 329 sd ses sn :: one md om :: lst Db ba 0 :: Xb :: lst Dn na 0 :: rng Dr 0 12 t1 u1 v1 :: lst er [] 0 :: lst c0 [] 0 :: R))) rfl ?_
    refine w_get 1 rfl rfl hO.e.e7 rfl ?_
    show WE _ _ _ _ _ _ _
    have h7 := hO.s7
    refine w_item 8 rfl rfl (by rw [h7, hO.l7]; omega) (by decide) (show O.v7[(0 : Int).toNat]? = some (.ref c0) by rw [h7]; rfl) ?_
    intro D2
    show WE _ _ _ _ _ _ _
    refine w_cmpEq (.list []) (.list []) (fun h hh => hh.readL 19 rfl ⟨_, .nil⟩) (fun h hh => hh.readL 0 rfl ⟨_, .nil⟩) rfl rfl (by decide) ?_
    show Ends _ _ _ _ _ _ _
    exact Ends.mk (post := []) [] 20 rfl rfl ⟨rfl, rfl⟩
end
section
open PySem PySem.W PyProof.Rows PySem.Spec PySem.Calls PyProof.V
noncomputable def keysOf (T : List (String × String)) : List Str := T.map fun p => Str.ofString p.1
theorem keys_open : ∀ {T : List (String × String)} {C : List Value → Prop}, (∀ vs, StrsAre vs (keysOf T) → C vs) → KdlKeysD (dS T) C
  | [], _, h => h [] .nil
  | p :: r, C, h => fun v hv => by
    obtain ⟨t, rfl⟩ := PyProof.V.Flat.str_inv (show PyProof.V.Flat v (PyData.str (Str.ofString p.1)) from hv)
    exact keys_open (T := r) fun vs hs => h (.str (Str.ofString p.1) t :: vs) (.cons _ _ hs)
section
variable {w : World} {A : Around} {E : Value → Shared → Prop} {s : Shared} {h₀ : Heap} {L d : Addr} {m : Str → Option Value} {news : Ld} {o : Obj} {T : List (String × String)} {Q : Value → Shared → Prop}
/-- table[x] of a dict of the ledger that has x -/
theorem look_has (x : Str) : ∀ T : List (String × String), x ∈ keysOf T → PySem.Spec.lookup (PyData.str x) (dS T) = some (PyData.str (sget T x))
  | [], h => by simp [keysOf] at h
  | p :: r, h => by
    show (if PySem.Spec.same (PyData.str (Str.ofString p.1)) (PyData.str x) = true then some (PyData.str (Str.ofString p.2)) else PySem.Spec.lookup (PyData.str x) (dS r)) = _
    rw [PyProof.V.same_str]
    unfold sget
    by_cases e : Str.ofString p.1 = x
    · simp [e]
    · simp only [e, decide_false, Bool.false_eq_true, if_false]
      refine look_has x r ?_
      rcases List.mem_cons.mp h with h | h
      · exact absurd h.symm e
      · exact h
theorem r_at {value slice : PySem.Expr} {x : Str} {tx : Tok} (N : News h₀ L s.heap news) (hm : (d, o) ∈ news) (hT : Tab w d o T) (hx : x ∈ keysOf T) (h : ∀ t, Q (.str (sget T x) t) { s with toks := s.toks + 1 })
    (hs : subscripted slice false (.ref d) (.str x tx) = operate [.ref d, .str x tx] (getItem (.ref d) (.str x tx)) := by with_unfolding_all rfl) (hg : ∀ r, letTemporaryGo value (.ref d) r = pure () := by intro _; with_unfolding_all rfl) :
    wpAny (model Challenge.rw_nt0610_01.row.prog w) A (subscriptTail value slice (.ref d) (.str x tx)) Q E s := by
  obtain ⟨lo, kvs, h1, h2⟩ := hT
  refine item_strTab (TabAt.ofNews N hm lo h1 h2) (look_has x T hx) (fun v hv => ?_) hs hg
  obtain ⟨t, rfl⟩ := PyProof.V.Flat.str_inv hv
  exact h t
end
section
variable {prog : Program} {w : World} {A : Around} {E : Value → Shared → Prop} {s : Shared}
theorem collect_tup {l : Addr} {vs : List Value} {Q : List Value → Shared → Prop} (hl : IsTup s.heap l vs.toArray)
    (h : Q vs { s with heap := (s.heap.push (seqObj "list" #[] 0)).update s.heap.objs.size (Obj.mapSeq (· ++ vs.toArray)) }) (hsz : vs.length ≤ sizeLine) :
    wpAny (model prog w) A (collect (.ref l)) Q E s := by
  obtain ⟨o, ho, hc, n, hd⟩ := id hl
  unfold collect
  refine wpAny_bind (wpAny_runValue (codeAny_builtin entry_proto_collect' ?_))
  show wpAny _ _ (do again (.builtin "list.__iadd__" ⟨[← newList [], .ref l], []⟩)) _ _ s
  refine wpAny_bind (wpAny_newList (wpAny_pure ⟨Code.quiet_builtin _ (by decide +kernel), codeAny_builtin entry_list_iadd' ?_⟩))
  show wpAny _ _ (Builtin.List.listExtendWith (.ref s.heap.objs.size) (.ref l) (.ref s.heap.objs.size)) _ _ { s with heap := s.heap.push (seqObj "list" #[] 0) }
  unfold Builtin.List.listExtendWith
  have ho' : (s.heap.push (seqObj "list" #[] 0)).get? l = some o := Heap.get?_push_of_some _ ho
  refine wpAny_bind (wpAny_typeOf (T := "tuple") ⟨o, ho', hc⟩ ?_)
  have ht : (Value.type "tuple" == Value.type "tuple") = true := by rfl
  rw [if_pos (by rw [ht]; simp)]
  refine wpAny_bind (listItems_at ho' hd ?_)
  refine wpAny_bind (listItems_at (xs := #[]) (n := 0) (Heap.get?_push_size _ rfl) rfl ?_)
  rw [if_neg (by simp)]
  refine wpAny_bind (listUpdate_at (xs := #[]) (n := 0) (Heap.get?_push_size _ rfl) rfl ?_ (Nat.zero_le _) (by show (#[] ++ vs.toArray).size ≤ sizeLine + 1; simp only [Array.size_append, List.size_toArray, List.length_nil]; omega))
  refine wpAny_pure ?_
  show wpAny (model prog w) A (do
      let o ← load s.heap.objs.size
      match o.data with
      | .seq xs _ => pure xs.toList
      | _ => unsupported "internal:collect") Q E { s with heap := (s.heap.push (seqObj "list" #[] 0)).update s.heap.objs.size (Obj.mapSeq (· ++ vs.toArray)) }
  refine wpAny_bind (wpAny_load (get?_update_seq (Heap.get?_push_size _ rfl) _) ?_)
  show wpAny _ _ (pure ((#[] : Array Value) ++ vs.toArray).toList) Q E _
  rw [show ((#[] : Array Value) ++ vs.toArray).toList = vs by simp]
  exact wpAny_pure h
theorem sortedT {l : Addr} {vs : List Value} {ss : List Str} {Q : Value → Shared → Prop} (hl : IsTup s.heap l vs.toArray) (hS : StrsAre vs ss) (h64 : vs.length < 64)
    (h : ∀ (out : Array Value) (ss' : List Str), StrsAre out.toList ss' → ss'.Perm ss → sortedS ss' = true → Q (.ref (s.heap.objs.size + 1)) { s with heap := sortedAll s.heap vs out }) :
    wpAny (model prog w) A (call (.builtin "sorted") [.ref l]) Q E s := by
  refine Calls.call_function_entry kind_sorted plain_sorted entry_sorted (args_sorted1 _) ?_
  unfold Builtin.«sorted»
  refine wpAny_bind (m := checkCount "sorted" 1 1 _) (wpAny_pure ?_)
  refine wpAny_bind (collect_tup hl ?_ (by rw [sizeLine_eq]; omega))
  refine wpAny_bind (wpAny_newList ?_)
  have hsz : ((s.heap.push (seqObj "list" #[] 0)).update s.heap.objs.size (Obj.mapSeq (· ++ vs.toArray))).objs.size = s.heap.objs.size + 1 := by
    rw [Heap.size_update, size_push']
  have hoL : (((s.heap.push (seqObj "list" #[] 0)).update s.heap.objs.size (Obj.mapSeq (· ++ vs.toArray))).push (seqObj "list" vs.toArray 0)).get? (s.heap.objs.size + 1) = some (seqObj "list" vs.toArray 0) := by
    rw [← hsz]; exact Heap.get?_push_size _ rfl
  show wpAny _ _ _ _ _ { s with heap := ((s.heap.push (seqObj "list" #[] 0)).update s.heap.objs.size (Obj.mapSeq (· ++ vs.toArray))).push (seqObj "list" vs.toArray 0) }
  rw [hsz]
  refine wpAny_bind (wpAny_holding (wpAny_call_entry slot_list_sort ⟨_, hoL, rfl⟩ entry_list_sort (list_sort_treeK strKind_oneLt hoL hS.keysOf (fun v₁ v₂ rest e => keyKind_strs (by rw [← e]; exact hS)) h64 fun st' a1 a2 => ⟨_, rfl, ?_⟩) (args_list_sort _)))
  obtain ⟨ss', h1, h2, h3⟩ := sorted_out_str hS a1 a2
  exact wpAny_pure ⟨_, rfl, h _ ss' h1 h2 h3⟩
variable {h₀ : Heap} {L a b : Addr} {m : Str → Option Value} {news : Ld} {o ob : Obj} {ss ts : List Str} {Q : Value → Shared → Prop}
theorem news_lt {x : Addr} {p : Addr × Obj} (N : News h₀ L s.heap news) (hp : p ∈ news) (hx : s.heap.objs.size ≤ x) : p.1 < x := Nat.lt_of_lt_of_le (Heap.lt_size (N p hp).1) hx
theorem r_sortedT {vs : Array Value} {n : Nat} (F : Fr h₀ L s.heap m) (N : News h₀ L s.heap news) (hm : (a, ({ cls := .type "tuple", data := .seq vs n } : Obj)) ∈ news) (hS : StrsAre vs.toList ss) (hl : ss.length < 64)
    (h : ∀ B o' h' ss', SL o' ss' → ss'.Perm ss → sortedS ss' = true → Fr h₀ L h' m → News h₀ L h' ((B, o') :: news) → (∀ q ∈ news, q.1 < B) → Q (.ref B) { s with heap := h' }) :
    wpAny (model prog w) A (call (.builtin "sorted") [.ref a]) Q E s := by
  refine sortedT (vs := vs.toList) ⟨_, N.get hm, rfl, n, by simp⟩ hS (by rw [strs_len hS]; exact hl) fun out ss' a1 a2 a3 => ?_
  obtain ⟨e, he⟩ := sortedAll_at s.heap vs.toList out
  exact h _ _ _ ss' ⟨out.toList, e, rfl, by simp, a1⟩ a2 a3 (F.kept fun _ _ => sortedAll_old) (N.kept_cons F (fun _ _ => sortedAll_old) (Nat.le_succ _) he) fun q hq => news_lt N hq (Nat.le_succ _)
theorem r_sortedL (F : Fr h₀ L s.heap m) (N : News h₀ L s.heap news) (hm : (a, o) ∈ news) (S : SL o ss) (hl : ss.length < 64)
    (h : ∀ B o' h' ss', SL o' ss' → ss'.Perm ss → sortedS ss' = true → Fr h₀ L h' m → News h₀ L h' ((B, o') :: news) → (∀ q ∈ news, q.1 < B) → Q (.ref B) { s with heap := h' }) :
    wpAny (model prog w) A (call (.builtin "sorted") [.ref a]) Q E s := by
  obtain ⟨its, hil, hs⟩ := S.list N hm
  refine sorted_N_str F N hil hs (by rw [strs_len hs]; exact hl) fun h' vs' ss' e F' N' a1 a2 a3 => ?_
  exact h _ _ _ ss' ⟨vs', e, rfl, rfl, a1⟩ a2 a3 F' N' fun q hq => news_lt N hq (Nat.le_succ _)
theorem strs_reads {h : Heap} : ∀ {vs : List Value} {ss : List Str}, StrsAre vs ss → ReadsAll h vs (ss.map PyData.str) []
  | _, _, .nil => ReadsAll.nil
  | _, _, .cons _ _ r => ReadsAll.cons (Reads.str _ _) (strs_reads r)
theorem strs_shaped : ∀ ss : List Str, (∀ y ∈ ss, PyData.strOk y = true) → PyData.canLayAll0 (ss.map PyData.str) = true ∧ PyData.depthAll (ss.map PyData.str) = 0
  | [], _ => ⟨rfl, rfl⟩
  | y :: r, h => by
    have := strs_shaped r fun z hz => h z (.tail _ hz)
    simp [PyData.canLayAll0, PyData.canLay0, PyData.depthAll, PyData.depth, this.1, this.2, h y (.head _)]
theorem strs_eqv : ∀ ss : List Str, PyData.eqvAll (ss.map PyData.str) (ss.map PyData.str) = true
  | [] => by simp [PyData.eqvAll]
  | y :: r => by simp [PyData.eqvAll, PyData.eqv, strs_eqv r]
/-- two lists of the same texts are not unequal -/
theorem r_ne_same (N : News h₀ L s.heap news) (ha : (a, o) ∈ news) (hb : (b, ob) ∈ news) (Sa : SL o ss) (Sb : SL ob ts) (e : ss = ts) (hok : ∀ y ∈ ss, PyData.strOk y = true) (hu : A.units + 64 < cLine) (h : Q (.bool false) s) :
    wpAny (model prog w) A (compareOp .NotEq (.ref a) (.ref b)) Q E s := by
  subst e
  obtain ⟨xs, ka, hca, hda, hsa⟩ := Sa
  obtain ⟨ys, kb, hcb, hdb, hsb⟩ := Sb
  have sh : SeqAt.shaped (.list (ss.map PyData.str)) = true := by
    have := strs_shaped ss hok
    simp [SeqAt.shaped, PyData.canLay0, PyData.depth, this.1, this.2]
  refine ne_dataH (reads_list_at (N.get ha) hca hda (by simpa using strs_reads hsa)) (reads_list_at (N.get hb) hcb hdb (by simpa using strs_reads hsb)) sh sh hu ?_
  rw [show PyData.eqv (.list (ss.map PyData.str)) (.list (ss.map PyData.str)) = true by simp [PyData.eqv, strs_eqv]]
  exact h
end
theorem rising_pair : ∀ (l : List Str) (p : Str), risingS p l = true → (∀ a ∈ l, ltCps a.cps.toList p.cps.toList = false) ∧ l.Pairwise (fun a b => ltCps b.cps.toList a.cps.toList = false)
  | [], _, _ => ⟨(fun _ h => by cases h), List.Pairwise.nil⟩
  | x :: r, p, h => by
    unfold risingS at h
    rw [Bool.and_eq_true, Bool.not_eq_true'] at h
    obtain ⟨h1, h2⟩ := rising_pair r x h.2
    refine ⟨fun a ha => ?_, .cons h1 h2⟩
    rcases List.mem_cons.mp ha with rfl | ha
    · exact h.1
    · have q := h1 a ha
      rw [ltCps_eq] at q ⊢
      have e1 := h.1
      rw [ltCps_eq] at e1
      rw [decide_eq_false_iff_not] at q e1 ⊢
      exact List.not_lt.mpr (List.le_trans (List.not_lt.mp e1) (List.not_lt.mp q))
theorem sorted_same {l r : List Str} (h1 : sortedS l = true) (h2 : sortedS r = true) (hp : l.Perm r) : l = r := by
  have pw : ∀ l : List Str, sortedS l = true → l.Pairwise (fun a b => ltCps b.cps.toList a.cps.toList = false)
    | [], _ => .nil
    | x :: r, h => by
      obtain ⟨a, b⟩ := rising_pair r x h
      exact .cons a b
  refine List.Perm.eq_of_pairwise (le := fun a b => ltCps b.cps.toList a.cps.toList = false) (fun a b _ _ h h' => ?_) (pw l h1) (pw r h2) hp
  rw [ltCps_eq, decide_eq_false_iff_not] at h h'
  have e := List.le_antisymm (List.not_lt.mp h) (List.not_lt.mp h')
  cases a; cases b
  simp only at e
  congr 1
  exact Array.ext' e
end
section
open PySem PySem.W PyProof.Rows PySem.Spec PySem.Calls PyProof.V
open V
set_option maxRecDepth 20000
set_option linter.unusedVariables false
section
variable {w : WG} {S : Scope} {r u : Nat} {c : Ct w S r u} {m cv : Lo} {l : Lb} {tk : Nat} {h : Heap}
theorem w_keys {d : Addr} {o : Obj} {T : List (String × String)} {K : KV} (i : Nat) (hi : atB l i = one d o) (hT : Tab w.w d o T) (hl : T.length ≤ 1000) (k : ∀ D vs n tk', StrsAre vs (keysOf T) → K (.ref D) m cv (lst D vs n :: l) tk') : WE c (call (.type "list") [.ref d]) K m cv l tk :=
  .mk fun _ hh => by
    obtain ⟨mm, ns, F, N, hs, fin⟩ := hh.news
    obtain ⟨lo, kvs, h1, h2⟩ := hT
    exact kdl_list_keysD (knd := PySem.strKind _ _) (enc := PyData.str) (fun _ _ => kdl_flat_str) c.hn F N (TabAt.ofNews N (hs i _ (atB_get hi) _ List.mem_cons_self) lo h1 h2) (by unfold dS; rw [List.length_map]; omega) fun B c' h' tk' => keys_open fun vs hv F' N' l1 => Out.mk (fin B _ h' F' N' l1) (k B vs c' tk' hv)
theorem w_at {d : Addr} {o : Obj} {T : List (String × String)} {value slice : PySem.Expr} {x : Str} {tx : Tok} {K : KV} (i : Nat) (hi : atB l i = one d o) (hT : Tab w.w d o T) (hx : x ∈ keysOf T) (hs : notSlice slice = true) (hg : ∀ r, letTemporaryGo value (.ref d) r = pure ()) (k : ∀ t, K (.str (sget T x) t) m cv l (tk + 1)) : WE c (subscriptTail value slice (.ref d) (.str x tx)) K m cv l tk :=
  .mk fun _ hh => by
    obtain ⟨mm, ns, F, N, hm⟩ := hh.at
    exact r_at N (hm i _ (atB_get hi) _ List.mem_cons_self) hT hx (fun t => Out.mk hh (k t)) (sub_not hs _ _) hg
theorem w_sortT {a : Addr} {vs : List Value} {ss : List Str} {K : KV} (i : Nat) (hi : atB l i = tup a vs) (hS : StrsAre vs ss) (hl : ss.length < 64) (k : ∀ B o' ss', SL o' ss' → ss'.Perm ss → sortedS ss' = true → K (.ref B) m cv (one B o' :: l) tk) : WE c (call (.builtin "sorted") [.ref a]) K m cv l tk :=
  .mk fun _ hh => by
    obtain ⟨mm, ns, F, N, hm, fin⟩ := hh.news
    exact r_sortedT F N (hm i _ (atB_get hi) _ List.mem_cons_self) (by simpa using hS) hl fun B o' h' ss' a1 a2 a3 F' N' l1 => Out.mk (fin B _ h' F' N' l1) (k B o' ss' a1 a2 a3)
theorem w_sortL {a : Addr} {vs : List Value} {n : Nat} {ss : List Str} {K : KV} (i : Nat) (hi : atB l i = lst a vs n) (hS : StrsAre vs ss) (hl : ss.length < 64) (k : ∀ B o' ss', SL o' ss' → ss'.Perm ss → sortedS ss' = true → K (.ref B) m cv (one B o' :: l) tk) : WE c (call (.builtin "sorted") [.ref a]) K m cv l tk :=
  .mk fun _ hh => by
    obtain ⟨mm, ns, F, N, hm, fin⟩ := hh.news
    exact r_sortedL F N (hm i _ (atB_get hi) _ List.mem_cons_self) ⟨vs, n, rfl, rfl, hS⟩ hl fun B o' h' ss' a1 a2 a3 F' N' l1 => Out.mk (fin B _ h' F' N' l1) (k B o' ss' a1 a2 a3)
theorem w_neS {a b : Addr} {o ob : Obj} {ss ts : List Str} {K : KV} (i j : Nat) (hi : atB l i = one a o) (hj : atB l j = one b ob) (Sa : SL o ss) (Sb : SL ob ts) (e : ss = ts) (hok : ∀ y ∈ ss, PyData.strOk y = true) (hu : 64 ≤ u) (k : K (.bool false) m cv l tk) : WE c (compareOp .NotEq (.ref a) (.ref b)) K m cv l tk :=
  .mk fun _ hh => by
    obtain ⟨mm, ns, F, N, hm⟩ := hh.at
    exact r_ne_same N (hm i _ (atB_get hi) _ List.mem_cons_self) (hm j _ (atB_get hj) _ List.mem_cons_self) Sa Sb e hok (by have := c.hu; omega) (Out.mk hh k)
end
theorem perm_i : ((keysOf cTable).filter fun c => inS (Str.ofString "i") (sget cTable c)).Perm (St cImpl) := by decide +kernel
theorem perm_ij : ((keysOf cTable).filter fun c => inS (Str.ofString "i") (sget cTable c) || inS (Str.ofString "j") (sget cTable c)).Perm (St cAll) := by decide +kernel
theorem keys_142 : (keysOf cTable).length = 142 := by decide +kernel
theorem keys_20 : (keysOf cTable).all (fun y => y.length ≤ 20) = true := by decide +kernel
theorem all_ok : (St cAll).all (fun y => PyData.strOk y) = true := by decide +kernel
theorem impl_ok : (St cImpl).all (fun y => PyData.strOk y) = true := by decide +kernel
theorem perm_ok {ss : List Str} {T : List String} (h : ss.Perm (St T)) (hT : (St T).all (fun y => PyData.strOk y) = true) : ∀ y ∈ ss, PyData.strOk y = true := fun y hy => List.all_eq_true.mp hT y (h.mem_iff.mp hy)
theorem strs_of : ∀ {ys : List Value}, (∀ y ∈ ys, ∃ x t, y = .str x t) → ∃ ss, StrsAre ys ss
  | [], _ => ⟨[], .nil⟩
  | y :: r, h => by
    obtain ⟨x, t, e⟩ := h y (.head _)
    obtain ⟨ss, hs⟩ := strs_of (ys := r) fun z hz => h z (.tail _ hz)
    exact ⟨x :: ss, e ▸ .cons x t hs⟩
theorem strs_get : ∀ {vs : List Value} {ss : List Str}, StrsAre vs ss → ∀ {i : Nat} {x : Str}, ss[i]? = some x → ∃ t, vs[i]? = some (.str x t)
  | _, _, .nil, _, _, h => by simp at h
  | _, _, .cons z t _, 0, x, h => by cases h; exact ⟨t, rfl⟩
  | _, _, .cons _ _ r, i + 1, x, h => by
    obtain ⟨t, e⟩ := strs_get r (i := i) (by simpa using h)
    exact ⟨t, by simpa using e⟩
theorem strs_some : ∀ {vs : List Value} {ss : List Str}, StrsAre vs ss → ∀ {i : Nat} {v : Value}, vs[i]? = some v → ∃ x t, v = .str x t
  | _, _, .nil, _, _, h => by simp at h
  | _, _, .cons z t _, 0, v, h => by cases h; exact ⟨z, t, rfl⟩
  | _, _, .cons _ _ r, i + 1, v, h => strs_some r (i := i) (by simpa using h)
theorem sh3 {G : Prop} {α : Type} {b a : α} (h : b = a) (g : b = a → G) : G := g h
set_option maxRecDepth 100000 in
set_option maxHeartbeats 2000000 in
theorem v_law (w : WG) (a : Addr) (vs : List Value) (ns : List Int) (hi : IntsAre vs ns) (hn : ns.length ≤ 63) {n : Str} {ps : Arguments} {body : List Stmt} {dc : List Expr} {rr : Option Expr} {tp : List TypeParam} {S : Scope} {ts : Option Scope} {bi : Str} {p : Pos}
    (hst : stTop 42 = .FunctionDef n ps body dc rr tp S ts bi p) (c : Ct w S 100 1000) (hf : FnFrame c) (hB : c.base.IsList a vs.toArray) (tk : Nat) :
    WE c (execs body c.ev) (fun fl _ _ _ _ => fl = .ret (.bool true)) [] [(Str.ofString "script", .ref a)] [] tk := by
  refine' sh3 (b := stTop 42) (a := .FunctionDef ?q1 ?q2 ?q3 ?q4 ?q5 ?q6 ?q7 ?q8 ?q9 ?q10) ?k1 (fun e => ?_)
  case k1 => exact rfl
  rw [e] at hst
  cases hst
  clear e
  refine (vcs_ok c hf [] 60).S ?_
  show WE _ _ _ _ _ _ _
  refine w_callF (v_table w) [] rfl rfl trivial [] 0 rfl rfl ?_
  rintro _ _ tk1 ⟨d1, o1, rfl, rfl, hT⟩
  show WE _ _ _ _ _ _ _
  refine w_callF (v_modes w) [one d1 o1] rfl rfl trivial [0] 1 rfl rfl ?_
  rintro _ _ tk2 ⟨d2, o2, rfl, rfl, hM⟩
  show WE _ _ _ _ _ _ _
  refine w_keys 1 rfl hT (Nat.le_of_ble_eq_true rfl) fun Dn na nn tk3 Hn => ?_
  show WE _ _ _ _ _ _ _
  refine WE.pick (l' := lst Dn na nn :: one d2 o2 :: one d1 o1 :: []) [0, 1, 2] 3 rfl rfl ?_
  refine w_callF (v_implied w) (lst Dn na nn :: one d2 o2 :: one d1 o1 :: []) rfl rfl trivial [] 0 rfl rfl ?_
  rintro _ _ tk4 ⟨D1, i1, rfl, rfl, H1⟩
  show WE _ _ _ _ _ _ _
  refine w_sortT 0 rfl H1 (by decide) fun B1 b1 s1 S1 P1 O1 => ?_
  show WE _ _ _ _ _ _ _
  refine w_comp hf (fun L => [(Str.ofString "table", L + 2)]) (fun _ _ _ => by with_unfolding_all rfl) (fun _ => rfl) rfl (by decide) ?_
  refine (vce_ok c [] 10).E ?_
  show CompK _ _ _ _ _ _ _ _ _ _
  have hnl : na.length = 142 := (strs_len Hn).trans keys_142
  refine k_listT (cl := fun L => [(Str.ofString "table", L + 2)]) hf [(Str.ofString "table", .ref d1)] 2 rfl (by omega) (fun j ys l' => StrsAre ys (((keysOf cTable).take j).filter fun c => inS (Str.ofString "i") (sget cTable c)) ∧ l' = one B1 b1 :: tup D1 i1 :: lst Dn na nn :: one d2 o2 :: one d1 o1 :: []) ⟨by decide, rfl, rfl, ⟨⟨rfl, fun _ => rfl⟩, trivial⟩, ⟨rfl, trivial⟩⟩ rfl rfl ⟨.nil, rfl⟩ ?_ ?_ ?_
  · rintro j ys l' ⟨_, rfl⟩
    exact ⟨2, rfl⟩
  · rintro j ys _ v tk5 cc hj ⟨hys, rfl⟩ hv
    obtain ⟨x, hq⟩ : ∃ x, (keysOf cTable)[j]? = some x := ⟨_, List.getElem?_eq_getElem (by rw [keys_142, ← hnl]; exact hj)⟩
    obtain ⟨tx, hx⟩ := strs_get Hn hq
    rw [hx] at hv
    cases hv
    refine (vce_ok cc [] 20).T ?_
    show WE _ _ _ _ _ _ _
    refine w_at 4 rfl hT (List.mem_of_getElem? hq) rfl (fun _ => by with_unfolding_all rfl) fun t => ?_
    refine BR.mk (fun hb => ?_) fun hb => ?_
    · refine (vce_ok cc [] 10).E ?_
      exact ⟨by rw [filter_next hq, if_pos hb]; exact strs_snoc hys, rfl⟩
    · exact ⟨by rw [filter_next hq, if_neg (by rw [hb]; decide)]; exact hys, rfl⟩
  rintro ys _ D2 tk5 ⟨hys, rfl⟩
  rw [hnl, ← keys_142, List.take_length] at hys
  have pI := perm_i
  generalize ((keysOf cTable).filter fun c => inS (Str.ofString "i") (sget cTable c)) = sI at hys pI
  show WE _ _ _ _ _ _ _
  refine w_sortL 0 rfl hys (by rw [pI.length_eq]; decide) fun B2 b2 s2 S2 P2 O2 => ?_
  show WE _ _ _ _ _ _ _
  refine w_neS 2 0 rfl rfl S1 S2 (sorted_same O1 O2 (P1.trans (P2.trans pI).symm)) (perm_ok P1 impl_ok) (by decide) ?_
  refine BR.f rfl ?_
  show WE _ _ _ _ _ _ _
  refine WE.pick (l' := lst Dn na nn :: one d2 o2 :: one d1 o1 :: []) [4, 5, 6] 7 rfl rfl ?_
  clear hys pI S1 P1 O1 S2 P2 O2 H1
  refine w_callF (v_allImplied w) (lst Dn na nn :: one d2 o2 :: one d1 o1 :: []) rfl rfl trivial [] 0 rfl rfl ?_
  rintro _ _ tk6 ⟨D1, i1, rfl, rfl, H1⟩
  show WE _ _ _ _ _ _ _
  refine w_sortT 0 rfl H1 (by decide) fun B1 b1 s1 S1 P1 O1 => ?_
  show WE _ _ _ _ _ _ _
  refine w_comp hf (fun L => [(Str.ofString "table", L + 2)]) (fun _ _ _ => by with_unfolding_all rfl) (fun _ => rfl) rfl (by decide) ?_
  refine (vce_ok c [] 10).E ?_
  show CompK _ _ _ _ _ _ _ _ _ _
  refine k_listT (cl := fun L => [(Str.ofString "table", L + 2)]) hf [(Str.ofString "table", .ref d1)] 2 rfl (by omega) (fun j ys l' => StrsAre ys (((keysOf cTable).take j).filter fun c => inS (Str.ofString "i") (sget cTable c) || inS (Str.ofString "j") (sget cTable c)) ∧ l' = one B1 b1 :: tup D1 i1 :: lst Dn na nn :: one d2 o2 :: one d1 o1 :: []) ⟨by decide, rfl, rfl, ⟨⟨rfl, fun _ => rfl⟩, trivial⟩, ⟨rfl, trivial⟩⟩ rfl rfl ⟨.nil, rfl⟩ ?_ ?_ ?_
  · rintro j ys l' ⟨_, rfl⟩
    exact ⟨2, rfl⟩
  · rintro j ys _ v tk5 cc hj ⟨hys, rfl⟩ hv
    obtain ⟨x, hq⟩ : ∃ x, (keysOf cTable)[j]? = some x := ⟨_, List.getElem?_eq_getElem (by rw [keys_142, ← hnl]; exact hj)⟩
    obtain ⟨tx, hx⟩ := strs_get Hn hq
    rw [hx] at hv
    cases hv
    refine (vce_ok cc [] 20).T ?_
    show WE _ _ _ _ _ _ _
    refine w_at 4 rfl hT (List.mem_of_getElem? hq) rfl (fun _ => by with_unfolding_all rfl) fun t => ?_
    refine BR.mk (fun hb => BR.t rfl ?_) fun hb => ?_
    · refine (vce_ok cc [] 10).E ?_
      exact ⟨by rw [filter_next hq, if_pos (by rw [hb]; rfl)]; exact strs_snoc hys, rfl⟩
    show WE _ _ _ _ _ _ _
    refine w_at 4 rfl hT (List.mem_of_getElem? hq) rfl (fun _ => by with_unfolding_all rfl) fun t => ?_
    refine BR.mk (fun hb2 => BR.t rfl ?_) fun hb2 => BR.f rfl ?_
    · refine (vce_ok cc [] 10).E ?_
      exact ⟨by rw [filter_next hq, if_pos (by rw [hb2, Bool.or_true])]; exact strs_snoc hys, rfl⟩
    · exact ⟨by rw [filter_next hq, if_neg (by rw [hb, hb2]; decide)]; exact hys, rfl⟩
  rintro ys _ D2 tk5 ⟨hys, rfl⟩
  rw [hnl, ← keys_142, List.take_length] at hys
  have pI := perm_ij
  generalize ((keysOf cTable).filter fun c => inS (Str.ofString "i") (sget cTable c) || inS (Str.ofString "j") (sget cTable c)) = sI at hys pI
  show WE _ _ _ _ _ _ _
  refine w_sortL 0 rfl hys (by rw [pI.length_eq]; decide) fun B2 b2 s2 S2 P2 O2 => ?_
  show WE _ _ _ _ _ _ _
  refine w_neS 2 0 rfl rfl S1 S2 (sorted_same O1 O2 (P1.trans (P2.trans pI).symm)) (perm_ok P1 all_ok) (by decide) ?_
  refine BR.f rfl ?_
  show WE _ _ _ _ _ _ _
  refine WE.pick (l' := lst Dn na nn :: one d2 o2 :: one d1 o1 :: []) [4, 5, 6] 7 rfl rfl ?_
  clear hys pI S1 P1 O1 S2 P2 O2 H1
  refine w_for hf rfl (fun _ => rfl) ?_
  refine (vce_ok c [] 20).E ?_
  show WE _ _ _ _ _ _ _
  refine w_comp hf (fun L => [(Str.ofString "script", L + 1), (Str.ofString "names", L + 3)]) (fun _ _ _ => by with_unfolding_all rfl) (fun _ => rfl) rfl (by decide) ?_
  refine (vce_ok c [] 10).E ?_
  show WE _ _ _ _ _ _ _
  refine w_range fun D4 t4 u4 v4 tk7 => ?_
  show CompK _ _ _ _ _ _ _ _ _ _
  refine k_rangeU (cl := fun L => [(Str.ofString "script", L + 1), (Str.ofString "names", L + 3)]) hf [(Str.ofString "script", .ref a), (Str.ofString "names", .ref Dn)] 12 0 rfl rfl (by decide) (fun j ys l' => (ys.length = j ∧ ∀ y ∈ ys, ∃ x t, y = .str x t) ∧ l' = rng D4 0 12 t4 u4 v4 :: lst Dn na nn :: one d2 o2 :: one d1 o1 :: []) ⟨by decide, rfl, rfl, ⟨⟨rfl, fun _ => rfl⟩, ⟨rfl, fun _ => rfl⟩, trivial⟩, ⟨rfl, rfl, trivial⟩⟩ rfl rfl ⟨⟨rfl, fun _ h => nomatch h⟩, rfl⟩ ?_ ?_
  · rintro j ys _ v tk8 cc hbase hj ⟨⟨hyl, hys⟩, rfl⟩ ⟨tj, rfl⟩
    refine (vce_ok cc [] 20).E ?_
    show WE _ _ _ _ _ _ _
    refine w_callF (v_digit w a vs ns hi hn _ _ (by omega)) (rng D4 0 12 t4 u4 v4 :: lst Dn na nn :: one d2 o2 :: one d1 o1 :: []) rfl rfl (hbase ▸ hB) [] 0 rfl rfl ?_
    rintro _ _ tk9 ⟨z, tz, rfl, rfl⟩
    show WE _ _ _ _ _ _ _
    refine w_callR (v_spoiled w z (j : Int) _ _ Dn na nn (keysOf cTable) Hn keys_142 (fun y hy => by simpa using List.all_eq_true.mp keys_20 y hy) (by omega) (by omega)) (rng D4 0 12 t4 u4 v4 :: one d2 o2 :: one d1 o1 :: []) rfl rfl [1, 0] 2 rfl rfl rfl ?_
    rintro _ tk10 ⟨x, t, rfl⟩
    refine ⟨⟨by rw [List.length_append, hyl]; rfl, fun y hy => ?_⟩, rfl⟩
    rcases List.mem_append.mp hy with hy | hy
    · exact hys y hy
    · exact ⟨x, t, List.mem_singleton.mp hy⟩
  rintro ys _ D5 tk8 ⟨⟨hyl, hys⟩, rfl⟩
  obtain ⟨ss, hss⟩ := strs_of hys
  show WE _ _ _ _ _ _ _
  refine w_addL 2 0 rfl rfl (by omega) fun D6 => ?_
  show ForK _ _ _ _ _ _ _ _ _
  have H6 := strs_app Hn hss
  generalize na ++ ys = n6 at H6
  refine ForK.pick (l' := lst D6 n6 0 :: one d2 o2 :: one d1 o1 :: []) [0, 4, 5] 6 rfl rfl ?_
  refine w_overL hf rfl [(Str.ofString "modes", .ref d2)] [(Str.ofString "script", .ref a), (Str.ofString "table", .ref d1), (Str.ofString "names", .ref Dn)] 0 rfl (fun _ l' => l' = lst D6 n6 0 :: one d2 o2 :: one d1 o1 :: []) ⟨rfl, trivial⟩ ⟨rfl, rfl, rfl, trivial⟩ rfl ?_ ?_ ?_
  · rintro j l' rfl
    exact ⟨0, rfl⟩
  · rintro j v _ tk9 c2 hf2 _ _ hv rfl
    obtain ⟨x, t, rfl⟩ := strs_some H6 hv
    refine (vcs_ok c2 hf2 [] 20).S ?_
    show WE _ _ _ _ _ _ _
    refine w_callR (v_named w x t d1 d2 o1 o2 hT hM) (lst D6 n6 0 :: []) rfl rfl [2, 1, 0] 3 rfl rfl rfl ?_
    rintro _ tk10 rfl
    refine BR.f rfl ?_
    exact ⟨⟨rfl, trivial⟩, ⟨rfl, rfl, rfl, trivial⟩, rfl⟩
  rintro _ tk9 rfl
  show WE _ _ _ _ _ _ _
  refine w_dict0 fun d0 o0 _ _ _ => ?_
  show WE _ _ _ _ _ _ _
  refine w_callF (v_builder w _) (one d2 o2 :: []) rfl rfl trivial [2] 4 rfl rfl ?_
  rintro _ _ tk10 ⟨A, T, c0, at', b, bd, es, n, st, sd, ses, sn, er, rfl, rfl, hBE, hSE, hTr⟩
  show WE _ _ _ _ _ _ _
  refine w_get 0 rfl rfl hBE.t rfl ?_
  show WE _ _ _ _ _ _ _
  refine w_callF (v_points w a vs ns hi hn A T _ _ at' [.ref c0] 0 hTr (by decide) (by decide)) (ins b 524 bd es n :: ins st 329 sd ses sn :: lst er [] 0 :: lst c0 [] 0 :: one d2 o2 :: []) rfl rfl hB [4, 0, 1, 2, 3] 5 rfl rfl ?_
  rintro _ _ tk11 ⟨rfl, T2, sp2, nm2, at2, ch2, k2, rfl, hT2, hl2, hk2⟩
  refine BR.t rfl ?_
  show WE _ _ _ _ _ _ _
  refine w_callF (v_resets w a vs ns hi hn A T2 sp2 nm2 at2 ch2 c0 k2 hT2 hl2 hk2 b bd st sd er d2 es ses n sn o2 hBE hSE hM) [] rfl rfl hB [1, 2, 3, 4, 0, 5] 6 rfl rfl ?_
  rintro _ _ tk12 ⟨rfl, rfl⟩
  exact rfl
end
section
open PySem PySem.W PyProof.Rows PySem.Spec PySem.Calls PyProof.V
open V
set_option maxRecDepth 20000
set_option linter.unusedVariables false
theorem law_run (w : WG) (mean : ExcName → Option Value) (mg mb : Str → Option Value) {vs : List Value} {l L : Addr} {h h₁ : Heap} {o1 o2 o3 : Obj} {tk : Nat} {s : Shared} {Q : Flow → Shared → Prop} {qual : Str} {body : List Stmt} {S : Scope} {fa : Addr} {cc : Value}
    (hv : ∀ (c : Ct w S 100 1000), FnFrame c → c.base.IsList l vs.toArray → ∀ tk, WE c (execs body c.ev) (fun fl _ _ _ _ => fl = .ret (.bool true)) [] [(Str.ofString "script", .ref l)] [] tk)
    (T : Top w.vw (looseW w.vw [Str.ofString "Tree"]) mean mg mb h) (X : (KF w).In h) (K0 : Below callerA h [] h) (hl : h.IsList l vs.toArray)
    (F : Fr h L h₁ (fun _ => none)) (N : News h L h₁ [(L + 1 + 1 + 1, o3), (L + 1 + 1, o2), (L + 1, o1)]) (d1 : o1.data = .cell (some (.ref l))) (d2 : o2.data = .cell none) (d3 : o3.data = .cell none)
    (hk : S.kind = .function) (hdb : S.names.lookup (Str.ofString "__debug__") = none) (hsc : S.names.lookup (Str.ofString "script") = some .cell) (hcl : cellsFrom (L + 1) S.names [] = [(Str.ofString "names", L + 1 + 1 + 1), (Str.ofString "table", L + 1 + 1), (Str.ofString "script", L + 1)])
    (hret : ∀ h' tk' m', Fr h L h' m' → Q (.ret (.bool true)) { s with heap := h', toks := tk' }) :
    wpAny (model Pr w.w) (callerA.deeper (envOfC qual S L fa cc)) (execs body (envOfC qual S L fa cc)) Q (fun _ _ => False) { s with heap := h₁, toks := tk } := by
  refine (fun (E' : Value → Shared → Prop) (hE : PassesOwn (model Pr w.w) (callerA.deeper (envOfC qual S L fa cc)) (envOfC qual S L fa cc) E') => ?_ : ∀ E', PassesOwn (model Pr w.w) (callerA.deeper (envOfC qual S L fa cc)) (envOfC qual S L fa cc) E' → wpAny _ _ _ _ E' _) _ (by passes_own)
  let cl := cellsFrom (L + 1) S.names []
  let c : Ct w S 100 1000 := ⟨L, envOfC qual S L fa cc, envOfC qual S L fa cc, callerA.deeper (envOfC qual S L fa cc), [], callerA, h, h, E', s, mean, mg, mb, fun m cv mm co => ∃ co1, co = [] ++ co1 ∧ LoOk S m mm ∧ CellOk S cl cv co1, K0, X, T, (by show (S.kind == .module && _) = false; rw [hk]; rfl), Around.frames_deeper rfl, rfl, hk, rfl, (by show callerA.depth + 1 + 100 < _; decide), (by units_room), fun F ⟨co1, e, hi⟩ N hv k => by subst e; exact fn_rd (cl := cl) (hid := []) hdb hk X T F hi N hv k⟩
  have hf : FnFrame c := ⟨hk, hE, qual, fa, cc, [], rfl, rfl⟩
  have kc : ∀ x, S.names.lookup x = some .cell → ∃ a, cl.lookup x = some a := fun x hx => Option.isSome_iff_exists.mp (cellsFrom_some S.names (L + 1) [] (.inl hx))
  have hcl' : cl = [(Str.ofString "names", L + 1 + 1 + 1), (Str.ofString "table", L + 1 + 1), (Str.ofString "script", L + 1)] := hcl
  have hold : Holds c [] [(Str.ofString "script", .ref l)] [] h₁ := ⟨_, [(L + 1 + 1 + 1, o3), (L + 1 + 1, o2), (L + 1, o1)], F, ⟨_, rfl, (fun _ _ e => nomatch e), by rw [hcl']; rfl, kc, fun p hp => ?_, fun x v e => ?_⟩, N, ?_⟩
  · exact (hv c hf hl tk).go hold fun fl m' cv' l' tk' h' hh k => by
      subst k
      obtain ⟨mm, co, F, _⟩ := hh
      exact hret _ _ _ F
  · simp only [List.mem_cons, List.not_mem_nil, or_false] at hp
    rcases hp with rfl | rfl | rfl
    · exact ⟨_, d3⟩
    · exact ⟨_, d2⟩
    · exact ⟨_, d1⟩
  · rw [List.lookup_cons] at e
    by_cases q : x = Str.ofString "script"
    · rw [q, beq_self_eq_true] at e
      cases e
      rw [q]
      exact ⟨hsc, L + 1, o1, by rw [hcl']; rfl, .tail _ (.tail _ (.head _)), d1⟩
    · rw [beq_eq_false_iff_ne.mpr q] at e
      cases e
  · show ([L + 1 + 1 + 1, L + 1 + 1, L + 1] : List Nat).Nodup
    simp only [List.nodup_cons, List.mem_cons, List.not_mem_nil, or_false, not_false_eq_true, List.nodup_nil, and_true, not_or]
    refine ⟨⟨?_, ?_⟩, ?_⟩ <;> exact Nat.ne_of_gt (by first | exact Nat.lt_succ_self _ | exact Nat.lt_succ_of_lt (Nat.lt_succ_self _))
theorem law_core (w : World) (K : Frag) (vw : Program) (ok : KOk K) (mean : ExcName → Option Value) (mg mb : Str → Option Value) (ns : List Int) (vs : List Value) (l L : Addr) (h h₁ : Heap) (o1 o2 o3 : Obj) (tk : Nat) (s : Shared) (Q : Flow → Shared → Prop)
    (n qual : Str) (ps : Arguments) (body : List Stmt) (dc : List Expr) (rr : Option Expr) (tp : List TypeParam) (scope : Scope) (ts : Option Scope) (bi : Str) (p : Pos) (fa : Addr) (cc : Value)
    (hst : stTop 42 = .FunctionDef n ps body dc rr tp scope ts bi p)
    (T : Top vw (looseW vw [Str.ofString "Tree"]) mean mg mb h) (X : K.In h) (K0 : Below callerA h [] h) (hl : h.IsList l vs.toArray) (hi : IntsAre vs ns) (hlen : ns.length ≤ 63)
    (F : Fr h L h₁ (fun _ => none)) (N : News h L h₁ [(L + 1 + 1 + 1, o3), (L + 1 + 1, o2), (L + 1, o1)]) (d1 : o1.data = .cell (some (.ref l))) (d2 : o2.data = .cell none) (d3 : o3.data = .cell none)
    (hk : scope.kind = .function) (hdb : scope.names.lookup (Str.ofString "__debug__") = none) (hsc : scope.names.lookup (Str.ofString "script") = some .cell) (hcl : cellsFrom (L + 1) scope.names [] = [(Str.ofString "names", L + 1 + 1 + 1), (Str.ofString "table", L + 1 + 1), (Str.ofString "script", L + 1)])
    (hret : ∀ h' tk' m', Fr h L h' m' → Q (.ret (.bool true)) { s with heap := h', toks := tk' }) :
    wpAny (model Challenge.rw_nt0610_01.row.prog w) (callerA.deeper (envOfC qual scope L fa cc)) (execs body (envOfC qual scope L fa cc)) Q (fun _ _ => False) { s with heap := h₁, toks := tk } :=
  law_run ⟨w, K, vw, ok⟩ mean mg mb (v_law ⟨w, K, vw, ok⟩ l vs ns hi hlen hst) T X K0 hl F N d1 d2 d3 hk hdb hsc hcl hret
end
section
open PySem PySem.W PyProof.Rows PySem.Spec PySem.Calls PyProof.V
open V
set_option maxRecDepth 100000
theorem globs_of {K : Frag} (b0 : nsIn K mainGlobals (Str.ofString "len") = some none) (c0 : bootBuiltins (Str.ofString "len") = some (.builtin "len")) (b1 : nsIn K mainGlobals (Str.ofString "sorted") = some none) (c1 : bootBuiltins (Str.ofString "sorted") = some (.builtin "sorted")) (b2 : nsIn K mainGlobals (Str.ofString "chr") = some none) (c2 : bootBuiltins (Str.ofString "chr") = some (.builtin "chr")) (b3 : nsIn K mainGlobals (Str.ofString "ord") = some none) (c3 : bootBuiltins (Str.ofString "ord") = some (.builtin "ord")) (b4 : nsIn K mainGlobals (Str.ofString "list") = some none) (c4 : bootBuiltins (Str.ofString "list") = some (.type "list")) (b5 : nsIn K mainGlobals (Str.ofString "range") = some none) (c5 : bootBuiltins (Str.ofString "range") = some (.type "range")) (k0 : nsIn K mainGlobals (Str.ofString "is_upper") = some (some (.ref 28))) (k1 : nsIn K mainGlobals (Str.ofString "lower") = some (some (.ref 35))) (k2 : nsIn K mainGlobals (Str.ofString "lower_text") = some (some (.ref 42))) (k3 : nsIn K mainGlobals (Str.ofString "is_special") = some (some (.ref 49))) (k4 : nsIn K mainGlobals (Str.ofString "is_formatting") = some (some (.ref 56))) (k5 : nsIn K mainGlobals (Str.ofString "is_heading") = some (some (.ref 63))) (k6 : nsIn K mainGlobals (Str.ofString "is_void") = some (some (.ref 70))) (k7 : nsIn K mainGlobals (Str.ofString "is_raw") = some (some (.ref 77))) (k8 : nsIn K mainGlobals (Str.ofString "is_table_part") = some (some (.ref 84))) (k9 : nsIn K mainGlobals (Str.ofString "is_math_point") = some (some (.ref 91))) (k10 : nsIn K mainGlobals (Str.ofString "is_html_point") = some (some (.ref 98))) (k11 : nsIn K mainGlobals (Str.ofString "implied_names") = some (some (.ref 105))) (k12 : nsIn K mainGlobals (Str.ofString "all_implied_names") = some (some (.ref 112))) (k13 : nsIn K mainGlobals (Str.ofString "Formatting") = some (some (.ref 224))) (k14 : nsIn K mainGlobals (Str.ofString "OpenStack") = some (some (.ref 329))) (k15 : nsIn K mainGlobals (Str.ofString "Tree") = some (some (.ref 446))) (k16 : nsIn K mainGlobals (Str.ofString "Builder") = some (some (.ref 524))) (k17 : nsIn K mainGlobals (Str.ofString "mode_of") = some (some (.ref 535))) (k18 : nsIn K mainGlobals (Str.ofString "select_mode") = some (some (.ref 542))) (k19 : nsIn K mainGlobals (Str.ofString "mode_for") = some (some (.ref 549))) (k20 : nsIn K mainGlobals (Str.ofString "reset_mode") = some (some (.ref 556))) (k21 : nsIn K mainGlobals (Str.ofString "_law_digit") = some (some (.ref 563))) (k22 : nsIn K mainGlobals (Str.ofString "_law_table") = some (some (.ref 570))) (k23 : nsIn K mainGlobals (Str.ofString "_law_modes") = some (some (.ref 577))) (k24 : nsIn K mainGlobals (Str.ofString "_law_spoiled") = some (some (.ref 584))) (k25 : nsIn K mainGlobals (Str.ofString "_law_named") = some (some (.ref 589))) (k26 : nsIn K mainGlobals (Str.ofString "_law_points") = some (some (.ref 596))) (k27 : nsIn K mainGlobals (Str.ofString "_law_tells") = some (some (.ref 601))) (k28 : nsIn K mainGlobals (Str.ofString "_law_resets") = some (some (.ref 606))) : ∀ x v, globs.lookup x = some v → GlobIs K x v := by
  refine lookup_all ?_
  show ∀ p ∈ globs, nsIn K mainGlobals p.1 = some (some p.2) ∨ (nsIn K mainGlobals p.1 = some none ∧ bootBuiltins p.1 = some p.2 ∧ p.1 ≠ Str.ofString "__name__")
  simp only [globs, globsB, globsK, List.map_cons, List.map_nil, List.cons_append, List.nil_append, List.forall_mem_cons]
  exact ⟨.inr ⟨b0, c0, by decide⟩, .inr ⟨b1, c1, by decide⟩, .inr ⟨b2, c2, by decide⟩, .inr ⟨b3, c3, by decide⟩, .inr ⟨b4, c4, by decide⟩, .inr ⟨b5, c5, by decide⟩, .inl k0, .inl k1, .inl k2, .inl k3, .inl k4, .inl k5, .inl k6, .inl k7, .inl k8, .inl k9, .inl k10, .inl k11, .inl k12, .inl k13, .inl k14, .inl k15, .inl k16, .inl k17, .inl k18, .inl k19, .inl k20, .inl k21, .inl k22, .inl k23, .inl k24, .inl k25, .inl k26, .inl k27, .inl k28, fun _ h => nomatch h⟩
theorem keep_of {K : Frag} (k0 : keepIn K (.ref 28) = true) (k1 : keepIn K (.ref 35) = true) (k2 : keepIn K (.ref 42) = true) (k3 : keepIn K (.ref 49) = true) (k4 : keepIn K (.ref 56) = true) (k5 : keepIn K (.ref 63) = true) (k6 : keepIn K (.ref 70) = true) (k7 : keepIn K (.ref 77) = true) (k8 : keepIn K (.ref 84) = true) (k9 : keepIn K (.ref 91) = true) (k10 : keepIn K (.ref 98) = true) (k11 : keepIn K (.ref 105) = true) (k12 : keepIn K (.ref 112) = true) (k13 : keepIn K (.ref 270) = true) (k14 : keepIn K (.ref 356) = true) (k15 : keepIn K (.ref 365) = true) (k16 : keepIn K (.ref 436) = true) (k17 : keepIn K (.ref 443) = true) (k18 : keepIn K (.ref 486) = true) (k19 : keepIn K (.ref 224) = true) (k20 : keepIn K (.ref 329) = true) (k21 : keepIn K (.ref 446) = true) (k22 : keepIn K (.ref 524) = true) (k23 : keepIn K (.ref 535) = true) (k24 : keepIn K (.ref 542) = true) (k25 : keepIn K (.ref 549) = true) (k26 : keepIn K (.ref 556) = true) (k27 : keepIn K (.ref 563) = true) (k28 : keepIn K (.ref 570) = true) (k29 : keepIn K (.ref 577) = true) (k30 : keepIn K (.ref 584) = true) (k31 : keepIn K (.ref 589) = true) (k32 : keepIn K (.ref 596) = true) (k33 : keepIn K (.ref 601) = true) (k34 : keepIn K (.ref 606) = true) : ∀ a, fnsK.contains a = true → keepIn K (.ref a) = true := by
  refine fun a ha => (?_ : ∀ a ∈ fnsK, keepIn K (.ref a) = true) a (List.contains_iff_mem.mp ha)
  simp only [fnsK, List.forall_mem_cons]
  exact ⟨k0, k1, k2, k3, k4, k5, k6, k7, k8, k9, k10, k11, k12, k13, k14, k15, k16, k17, k18, k19, k20, k21, k22, k23, k24, k25, k26, k27, k28, k29, k30, k31, k32, k33, k34, fun _ h => nomatch h⟩
theorem attr_of {K : Frag} (d446 : hasDictIn K 446 = true) (s446 : findIn K (.ref 446) (Str.ofString "__setattr__") = some (some (.builtin "object.__setattr__"))) (o446 : plainOver K 446 = true) (g446 : plainGet K 446 (Str.ofString "tree") = true) (a446_0 : findIn K (.ref 446) (Str.ofString "kinds") = some none) (a446_1 : findIn K (.ref 446) (Str.ofString "spaces") = some none) (a446_2 : findIn K (.ref 446) (Str.ofString "names") = some none) (a446_3 : findIn K (.ref 446) (Str.ofString "attrs") = some none) (a446_4 : findIn K (.ref 446) (Str.ofString "texts") = some none) (a446_5 : findIn K (.ref 446) (Str.ofString "parents") = some none) (a446_6 : findIn K (.ref 446) (Str.ofString "children") = some none) (a446_7 : findIn K (.ref 446) (Str.ofString "contents") = some none) (d329 : hasDictIn K 329 = true) (s329 : findIn K (.ref 329) (Str.ofString "__setattr__") = some (some (.builtin "object.__setattr__"))) (o329 : plainOver K 329 = true) (g329 : plainGet K 329 (Str.ofString "tree") = true) (a329_0 : findIn K (.ref 329) (Str.ofString "tree") = some none) (a329_1 : findIn K (.ref 329) (Str.ofString "items") = some none) (d224 : hasDictIn K 224 = true) (s224 : findIn K (.ref 224) (Str.ofString "__setattr__") = some (some (.builtin "object.__setattr__"))) (o224 : plainOver K 224 = true) (g224 : plainGet K 224 (Str.ofString "tree") = true) (a224_0 : findIn K (.ref 224) (Str.ofString "tree") = some none) (a224_1 : findIn K (.ref 224) (Str.ofString "items") = some none) (d524 : hasDictIn K 524 = true) (s524 : findIn K (.ref 524) (Str.ofString "__setattr__") = some (some (.builtin "object.__setattr__"))) (o524 : plainOver K 524 = true) (g524 : plainGet K 524 (Str.ofString "tree") = true) (a524_0 : findIn K (.ref 524) (Str.ofString "rules") = some none) (a524_1 : findIn K (.ref 524) (Str.ofString "tree") = some none) (a524_2 : findIn K (.ref 524) (Str.ofString "stack") = some none) (a524_3 : findIn K (.ref 524) (Str.ofString "formatting") = some none) (a524_4 : findIn K (.ref 524) (Str.ofString "mode") = some none) (a524_5 : findIn K (.ref 524) (Str.ofString "original") = some none) (a524_6 : findIn K (.ref 524) (Str.ofString "modes") = some none) (a524_7 : findIn K (.ref 524) (Str.ofString "head") = some none) (a524_8 : findIn K (.ref 524) (Str.ofString "form") = some none) (a524_9 : findIn K (.ref 524) (Str.ofString "owners") = some none) (a524_10 : findIn K (.ref 524) (Str.ofString "is_frameset_ok") = some none) (a524_11 : findIn K (.ref 524) (Str.ofString "is_scripting") = some none) (a524_12 : findIn K (.ref 524) (Str.ofString "is_foster") = some none) (a524_13 : findIn K (.ref 524) (Str.ofString "context") = some none) (a524_14 : findIn K (.ref 524) (Str.ofString "quirks") = some none) (a524_15 : findIn K (.ref 524) (Str.ofString "errors") = some none) (a524_16 : findIn K (.ref 524) (Str.ofString "pending") = some none) (a524_17 : findIn K (.ref 524) (Str.ofString "wish") = some none) (a524_18 : findIn K (.ref 524) (Str.ofString "is_skipping") = some none) (a524_19 : findIn K (.ref 524) (Str.ofString "is_acknowledged") = some none) (a524_20 : findIn K (.ref 524) (Str.ofString "is_done") = some none) : ∀ {C name}, inT C name = true → AttrOk K C name := by
  refine fun {C name} h => attr_all (P := fun C name => AttrOk K C name) (T := attrT) ?_ h
  simp only [attrT, List.forall_mem_cons]
  exact ⟨⟨⟨g446, d446, a446_0, s446, o446⟩, ⟨g446, d446, a446_1, s446, o446⟩, ⟨g446, d446, a446_2, s446, o446⟩, ⟨g446, d446, a446_3, s446, o446⟩, ⟨g446, d446, a446_4, s446, o446⟩, ⟨g446, d446, a446_5, s446, o446⟩, ⟨g446, d446, a446_6, s446, o446⟩, ⟨g446, d446, a446_7, s446, o446⟩, fun _ h => nomatch h⟩, ⟨⟨g329, d329, a329_0, s329, o329⟩, ⟨g329, d329, a329_1, s329, o329⟩, fun _ h => nomatch h⟩, ⟨⟨g224, d224, a224_0, s224, o224⟩, ⟨g224, d224, a224_1, s224, o224⟩, fun _ h => nomatch h⟩, ⟨⟨g524, d524, a524_0, s524, o524⟩, ⟨g524, d524, a524_1, s524, o524⟩, ⟨g524, d524, a524_2, s524, o524⟩, ⟨g524, d524, a524_3, s524, o524⟩, ⟨g524, d524, a524_4, s524, o524⟩, ⟨g524, d524, a524_5, s524, o524⟩, ⟨g524, d524, a524_6, s524, o524⟩, ⟨g524, d524, a524_7, s524, o524⟩, ⟨g524, d524, a524_8, s524, o524⟩, ⟨g524, d524, a524_9, s524, o524⟩, ⟨g524, d524, a524_10, s524, o524⟩, ⟨g524, d524, a524_11, s524, o524⟩, ⟨g524, d524, a524_12, s524, o524⟩, ⟨g524, d524, a524_13, s524, o524⟩, ⟨g524, d524, a524_14, s524, o524⟩, ⟨g524, d524, a524_15, s524, o524⟩, ⟨g524, d524, a524_16, s524, o524⟩, ⟨g524, d524, a524_17, s524, o524⟩, ⟨g524, d524, a524_18, s524, o524⟩, ⟨g524, d524, a524_19, s524, o524⟩, ⟨g524, d524, a524_20, s524, o524⟩, fun _ h => nomatch h⟩, fun _ h => nomatch h⟩
theorem meth_of {K : Frag} (g0 : plainGet K 446 (Str.ofString "add") = true) (a0 : findIn K (.ref 446) (Str.ofString "add") = some (some (.ref 356))) (i0 : isFn K (.ref 356) = true) (g1 : plainGet K 446 (Str.ofString "element") = true) (a1 : findIn K (.ref 446) (Str.ofString "element") = some (some (.ref 365))) (i1 : isFn K (.ref 365) = true) (g2 : plainGet K 446 (Str.ofString "value") = true) (a2 : findIn K (.ref 446) (Str.ofString "value") = some (some (.ref 436))) (i2 : isFn K (.ref 436) = true) (g3 : plainGet K 446 (Str.ofString "is_html") = true) (a3 : findIn K (.ref 446) (Str.ofString "is_html") = some (some (.ref 443))) (i3 : isFn K (.ref 443) = true) (g4 : plainGet K 329 (Str.ofString "many") = true) (a4 : findIn K (.ref 329) (Str.ofString "many") = some (some (.ref 270))) (i4 : isFn K (.ref 270) = true) (g5 : plainGet K 524 (Str.ofString "to") = true) (a5 : findIn K (.ref 524) (Str.ofString "to") = some (some (.ref 486))) (i5 : isFn K (.ref 486) = true) : ∀ {C name f}, methOf C name = some f → MethOk K C name f := by
  intro C name f h
  obtain ⟨p, hp, h2⟩ := Option.map_eq_some_iff.mp h
  have hq : (p.1 == C && Str.ofString p.2.1 == name) = true := by have := List.find?_some hp; exact this
  obtain ⟨h1, h3⟩ := Bool.and_eq_true_iff.mp hq
  have h1 := beq_iff_eq.mp h1
  have h3 := beq_iff_eq.mp h3
  refine h1 ▸ h2 ▸ h3 ▸ ((?_ : ∀ p ∈ methT, MethOk K p.1 (Str.ofString p.2.1) p.2.2) p (List.mem_of_find?_eq_some hp))
  simp only [methT, List.forall_mem_cons]
  exact ⟨⟨g0, a0, i0⟩, ⟨g1, a1, i1⟩, ⟨g2, a2, i2⟩, ⟨g3, a3, i3⟩, ⟨g4, a4, i4⟩, ⟨g5, a5, i5⟩, fun _ h => nomatch h⟩
end
theorem law_holds.tw10007947361888340627 : True := trivial
theorem law_holds.tw10024239376800412576 : True := trivial
theorem law_holds.tw10079444305495103266 : True := trivial
theorem law_holds.tw10093380194815717143 : True := trivial
theorem law_holds.tw10188763426450519768 : True := trivial
theorem law_holds.tw10189704592693192966 : True := trivial
theorem law_holds.tw10222300733896627045 : True := trivial
theorem law_holds.tw10242277825702978295 : True := trivial
theorem law_holds.tw10264638600885302300 : True := trivial
theorem law_holds.tw10283916278828761575 : True := trivial
theorem law_holds.tw10296202853966499060 : True := trivial
theorem law_holds.tw10301956948240465243 : True := trivial
theorem law_holds.tw1031057903888850656 : True := trivial
theorem law_holds.tw10347473876665178769 : True := trivial
theorem law_holds.tw10350734228115807855 : True := trivial
theorem law_holds.tw1035469204868569938 : True := trivial
theorem law_holds.tw10362271348294423435 : True := trivial
theorem law_holds.tw10368410895845634921 : True := trivial
theorem law_holds.tw10371022188087798493 : True := trivial
theorem law_holds.tw10441050188594101415 : True := trivial
theorem law_holds.tw10458381655096516384 : True := trivial
theorem law_holds.tw10486713781251687710 : True := trivial
theorem law_holds.tw10516828495840041881 : True := trivial
theorem law_holds.tw10517181812226103804 : True := trivial
theorem law_holds.tw10566571302883470556 : True := trivial
theorem law_holds.tw10609929442622069884 : True := trivial
theorem law_holds.tw10666784280354678857 : True := trivial
theorem law_holds.tw10764383469273456548 : True := trivial
theorem law_holds.tw10767655046202684341 : True := trivial
theorem law_holds.tw10803361673654935901 : True := trivial
theorem law_holds.tw10812634152524527747 : True := trivial
theorem law_holds.tw10817052189556005596 : True := trivial
theorem law_holds.tw10954758410522031216 : True := trivial
theorem law_holds.tw10958410103948607464 : True := trivial
theorem law_holds.tw10968802771074238664 : True := trivial
theorem law_holds.tw1096898596823417342 : True := trivial
theorem law_holds.tw10983241140555628109 : True := trivial
theorem law_holds.tw1099259369241382048 : True := trivial
theorem law_holds.tw11017292853192552079 : True := trivial
theorem law_holds.tw11046636381182338224 : True := trivial
theorem law_holds.tw11067727234611919522 : True := trivial
theorem law_holds.tw11097158420108258118 : True := trivial
theorem law_holds.tw11097350217990362986 : True := trivial
theorem law_holds.tw11098625913536864229 : True := trivial
theorem law_holds.tw11100686419730198450 : True := trivial
theorem law_holds.tw11126432536435168541 : True := trivial
theorem law_holds.tw11133525997344109421 : True := trivial
theorem law_holds.tw11182679623053108816 : True := trivial
theorem law_holds.tw11185980776385928813 : True := trivial
theorem law_holds.tw11223184984439025696 : True := trivial
theorem law_holds.tw11289095316329951393 : True := trivial
theorem law_holds.tw11297062200503488469 : True := trivial
theorem law_holds.tw11303081109005220762 : True := trivial
theorem law_holds.tw11344935688947580663 : True := trivial
theorem law_holds.tw11347954631545130290 : True := trivial
theorem law_holds.tw11404014056486942332 : True := trivial
theorem law_holds.tw11426015686315989412 : True := trivial
theorem law_holds.tw11463670642173560981 : True := trivial
theorem law_holds.tw11470271118054631628 : True := trivial
theorem law_holds.tw11484002064277903863 : True := trivial
theorem law_holds.tw11532970265236058100 : True := trivial
theorem law_holds.tw11544315989524547432 : True := trivial
theorem law_holds.tw11549812205736272646 : True := trivial
theorem law_holds.tw11576900812866516365 : True := trivial
theorem law_holds.tw11583271856484122956 : True := trivial
theorem law_holds.tw11625900857008200698 : True := trivial
theorem law_holds.tw11666318101497114028 : True := trivial
theorem law_holds.tw11677100312832694166 : True := trivial
theorem law_holds.tw11690447701083486646 : True := trivial
theorem law_holds.tw11714151634956498000 : True := trivial
theorem law_holds.tw1172607208729018732 : True := trivial
theorem law_holds.tw11795792742502079742 : True := trivial
theorem law_holds.tw11803358882649189518 : True := trivial
theorem law_holds.tw11846676642670509255 : True := trivial
theorem law_holds.tw1186782194237197914 : True := trivial
theorem law_holds.tw11881114122080957857 : True := trivial
theorem law_holds.tw11918526154901971515 : True := trivial
theorem law_holds.tw11924911360389889469 : True := trivial
theorem law_holds.tw11946022803392826334 : True := trivial
theorem law_holds.tw11956458263131016624 : True := trivial
theorem law_holds.tw11966672015165255308 : True := trivial
theorem law_holds.tw11977050620070087417 : True := trivial
theorem law_holds.tw12001131798957381970 : True := trivial
theorem law_holds.tw12029126673135917974 : True := trivial
theorem law_holds.tw12115171985352901274 : True := trivial
theorem law_holds.tw12116493165278983582 : True := trivial
theorem law_holds.tw12134408205421670959 : True := trivial
theorem law_holds.tw12149405283708829123 : True := trivial
theorem law_holds.tw12153922251378674784 : True := trivial
theorem law_holds.tw12218498018843733332 : True := trivial
theorem law_holds.tw12223724995276690173 : True := trivial
theorem law_holds.tw12253411696296436870 : True := trivial
theorem law_holds.tw12256559969785099955 : True := trivial
theorem law_holds.tw12275847060699157868 : True := trivial
theorem law_holds.tw12291295341487003417 : True := trivial
theorem law_holds.tw12294597709558488554 : True := trivial
theorem law_holds.tw12296726922439171297 : True := trivial
theorem law_holds.tw12303009252429188658 : True := trivial
theorem law_holds.tw1232645469590886286 : True := trivial
theorem law_holds.tw123295346585929383 : True := trivial
theorem law_holds.tw12394330538082041428 : True := trivial
theorem law_holds.tw1242418559920758562 : True := trivial
theorem law_holds.tw12456547296908542839 : True := trivial
theorem law_holds.tw12459966957829302596 : True := trivial
theorem law_holds.tw12476058986133298565 : True := trivial
theorem law_holds.tw12481875629721207810 : True := trivial
theorem law_holds.tw12503156628232749375 : True := trivial
theorem law_holds.tw12597187120891498251 : True := trivial
theorem law_holds.tw12622292602297523153 : True := trivial
theorem law_holds.tw12626328134170644701 : True := trivial
theorem law_holds.tw12634321019024901981 : True := trivial
theorem law_holds.tw12663309570017281627 : True := trivial
theorem law_holds.tw12668044768207566790 : True := trivial
theorem law_holds.tw12684681026606017882 : True := trivial
theorem law_holds.tw12687621791434340054 : True := trivial
theorem law_holds.tw12731736397290755891 : True := trivial
theorem law_holds.tw12732824653754844360 : True := trivial
theorem law_holds.tw12780804625047726367 : True := trivial
theorem law_holds.tw12800644894191811977 : True := trivial
theorem law_holds.tw12831907817818079685 : True := trivial
theorem law_holds.tw12847567107135931479 : True := trivial
theorem law_holds.tw1285599515219305098 : True := trivial
theorem law_holds.tw12874571214893485439 : True := trivial
theorem law_holds.tw12889056044993165476 : True := trivial
theorem law_holds.tw12889673554181485818 : True := trivial
theorem law_holds.tw12949845418750544790 : True := trivial
theorem law_holds.tw12977093529070104392 : True := trivial
theorem law_holds.tw13028658284911697911 : True := trivial
theorem law_holds.tw13055523775352357715 : True := trivial
theorem law_holds.tw13087128984098923117 : True := trivial
theorem law_holds.tw13092103797297032270 : True := trivial
theorem law_holds.tw13154458805202713791 : True := trivial
theorem law_holds.tw13182730311906835528 : True := trivial
theorem law_holds.tw13190408463805328480 : True := trivial
theorem law_holds.tw13190703287169160282 : True := trivial
theorem law_holds.tw13250372474279835810 : True := trivial
theorem law_holds.tw13257055565626018733 : True := trivial
theorem law_holds.tw13280740594461564331 : True := trivial
theorem law_holds.tw13281950902743806629 : True := trivial
theorem law_holds.tw13294052699122959228 : True := trivial
theorem law_holds.tw13301187468288870568 : True := trivial
theorem law_holds.tw13336368349410954346 : True := trivial
theorem law_holds.tw13342137609418717338 : True := trivial
theorem law_holds.tw13342518741750886279 : True := trivial
theorem law_holds.tw13392613628428298086 : True := trivial
theorem law_holds.tw13397297893571687751 : True := trivial
theorem law_holds.tw13402424001964919149 : True := trivial
theorem law_holds.tw1341266762083198811 : True := trivial
theorem law_holds.tw13429453918920967058 : True := trivial
theorem law_holds.tw13431030151845061361 : True := trivial
theorem law_holds.tw13454136545276886934 : True := trivial
theorem law_holds.tw13473346800597213533 : True := trivial
theorem law_holds.tw13478230802861573701 : True := trivial
theorem law_holds.tw13482675847692870326 : True := trivial
theorem law_holds.tw13528896222378765290 : True := trivial
theorem law_holds.tw13590972695719381181 : True := trivial
theorem law_holds.tw13642005409729077643 : True := trivial
theorem law_holds.tw13650905803964671038 : True := trivial
theorem law_holds.tw13656764964264320472 : True := trivial
theorem law_holds.tw13667737974841707781 : True := trivial
theorem law_holds.tw13709617746848070560 : True := trivial
theorem law_holds.tw13766487248619392586 : True := trivial
theorem law_holds.tw1376783240425437725 : True := trivial
theorem law_holds.tw1377309892636839040 : True := trivial
theorem law_holds.tw13800329570527188203 : True := trivial
theorem law_holds.tw13800757232730249582 : True := trivial
theorem law_holds.tw1382677567924326555 : True := trivial
theorem law_holds.tw13840902789983287329 : True := trivial
theorem law_holds.tw1385162719727133579 : True := trivial
theorem law_holds.tw13882729330811710610 : True := trivial
theorem law_holds.tw13902218012105463410 : True := trivial
theorem law_holds.tw13958071646730322851 : True := trivial
theorem law_holds.tw1397840308431242919 : True := trivial
theorem law_holds.tw13983371404066579822 : True := trivial
theorem law_holds.tw14051398506283589457 : True := trivial
theorem law_holds.tw14064573792008682920 : True := trivial
theorem law_holds.tw1414043511812021011 : True := trivial
theorem law_holds.tw14160533322030094474 : True := trivial
theorem law_holds.tw14252543395802736299 : True := trivial
theorem law_holds.tw14256885231504787865 : True := trivial
theorem law_holds.tw14281342344845405768 : True := trivial
theorem law_holds.tw14289194402921355359 : True := trivial
theorem law_holds.tw14326059299131336239 : True := trivial
theorem law_holds.tw14351635765420936899 : True := trivial
theorem law_holds.tw14354538779393863138 : True := trivial
theorem law_holds.tw14358080080312658767 : True := trivial
theorem law_holds.tw14377833709258309704 : True := trivial
theorem law_holds.tw14390095281932903014 : True := trivial
theorem law_holds.tw14390602165704524457 : True := trivial
theorem law_holds.tw14497384708736915567 : True := trivial
theorem law_holds.tw14498155544194170393 : True := trivial
theorem law_holds.tw14499810825090155391 : True := trivial
theorem law_holds.tw14521376392698553312 : True := trivial
theorem law_holds.tw14531881819706719225 : True := trivial
theorem law_holds.tw14545874151571354728 : True := trivial
theorem law_holds.tw14571795756577361901 : True := trivial
theorem law_holds.tw14596297492920191028 : True := trivial
theorem law_holds.tw14646867148444618371 : True := trivial
theorem law_holds.tw14677013365202126530 : True := trivial
theorem law_holds.tw14746732674962391887 : True := trivial
theorem law_holds.tw14774650325386425613 : True := trivial
theorem law_holds.tw14789792462180790578 : True := trivial
theorem law_holds.tw14828999820898988419 : True := trivial
theorem law_holds.tw14872900085578418628 : True := trivial
theorem law_holds.tw14883556706271630602 : True := trivial
theorem law_holds.tw14904137174637212347 : True := trivial
theorem law_holds.tw14908662282237933112 : True := trivial
theorem law_holds.tw1496123403401453975 : True := trivial
theorem law_holds.tw14988988175077273356 : True := trivial
theorem law_holds.tw14997073306097389879 : True := trivial
theorem law_holds.tw15006436103509636135 : True := trivial
theorem law_holds.tw15014403891855920072 : True := trivial
theorem law_holds.tw15031514592837009168 : True := trivial
theorem law_holds.tw15123554796541802991 : True := trivial
theorem law_holds.tw15140378357190847165 : True := trivial
theorem law_holds.tw15150646450996357022 : True := trivial
theorem law_holds.tw15154110283740273250 : True := trivial
theorem law_holds.tw15162217921772873613 : True := trivial
theorem law_holds.tw15242022910975006910 : True := trivial
theorem law_holds.tw15272395603832836080 : True := trivial
theorem law_holds.tw15274831704391544125 : True := trivial
theorem law_holds.tw15293083901398250104 : True := trivial
theorem law_holds.tw15333956030411951890 : True := trivial
theorem law_holds.tw15341342317828512493 : True := trivial
theorem law_holds.tw15352218221683021774 : True := trivial
theorem law_holds.tw15352839923633478061 : True := trivial
theorem law_holds.tw15448297888555860652 : True := trivial
theorem law_holds.tw15472126771306010800 : True := trivial
theorem law_holds.tw15522444059895599089 : True := trivial
theorem law_holds.tw15526298677375409021 : True := trivial
theorem law_holds.tw15527639110640922598 : True := trivial
theorem law_holds.tw15533563059666576871 : True := trivial
theorem law_holds.tw1556451293825771818 : True := trivial
theorem law_holds.tw15567558954438479688 : True := trivial
theorem law_holds.tw15607887362523206001 : True := trivial
theorem law_holds.tw15617896438947887921 : True := trivial
theorem law_holds.tw15644819842384902770 : True := trivial
theorem law_holds.tw15661869461025623997 : True := trivial
theorem law_holds.tw15694993059591697976 : True := trivial
theorem law_holds.tw15695062497276918967 : True := trivial
theorem law_holds.tw15726739188670627701 : True := trivial
theorem law_holds.tw15732109348078318572 : True := trivial
theorem law_holds.tw15741379261994504178 : True := trivial
theorem law_holds.tw15759456685926392790 : True := trivial
theorem law_holds.tw15802469936163623734 : True := trivial
theorem law_holds.tw15829985883664642994 : True := trivial
theorem law_holds.tw15837452725152343555 : True := trivial
theorem law_holds.tw15837584211629593338 : True := trivial
theorem law_holds.tw15883345262158282383 : True := trivial
theorem law_holds.tw15985198200807964356 : True := trivial
theorem law_holds.tw1599026117119855824 : True := trivial
theorem law_holds.tw16009327648451700120 : True := trivial
theorem law_holds.tw16057390660189216267 : True := trivial
theorem law_holds.tw16074064945343616743 : True := trivial
theorem law_holds.tw160851071654074740 : True := trivial
theorem law_holds.tw16092355726972411579 : True := trivial
theorem law_holds.tw16098122237329998606 : True := trivial
theorem law_holds.tw16099233806120587224 : True := trivial
theorem law_holds.tw16119735762098673306 : True := trivial
theorem law_holds.tw16174998905534648557 : True := trivial
theorem law_holds.tw16190678330180157336 : True := trivial
theorem law_holds.tw1622690429015379626 : True := trivial
theorem law_holds.tw16245577235439221107 : True := trivial
theorem law_holds.tw16307713440670912930 : True := trivial
theorem law_holds.tw16381176275627223697 : True := trivial
theorem law_holds.tw16406091861079842607 : True := trivial
theorem law_holds.tw16461882675039125421 : True := trivial
theorem law_holds.tw16462895619179043833 : True := trivial
theorem law_holds.tw16470317323979864763 : True := trivial
theorem law_holds.tw16482278838752557086 : True := trivial
theorem law_holds.tw16563099163409725306 : True := trivial
theorem law_holds.tw16606368319796509530 : True := trivial
theorem law_holds.tw16625653849559256525 : True := trivial
theorem law_holds.tw16641252976520058099 : True := trivial
theorem law_holds.tw16691439815215545270 : True := trivial
theorem law_holds.tw1670043908289496885 : True := trivial
theorem law_holds.tw16708887144172644987 : True := trivial
theorem law_holds.tw16760957895259694429 : True := trivial
theorem law_holds.tw16765433158599729185 : True := trivial
theorem law_holds.tw16771549258648962210 : True := trivial
theorem law_holds.tw16805829885119392726 : True := trivial
theorem law_holds.tw16827775902095551856 : True := trivial
theorem law_holds.tw16836969012518115619 : True := trivial
theorem law_holds.tw1685627985566243432 : True := trivial
theorem law_holds.tw16873695467490121585 : True := trivial
theorem law_holds.tw16883458599210261866 : True := trivial
theorem law_holds.tw16893121556090616931 : True := trivial
theorem law_holds.tw1689763614830377041 : True := trivial
theorem law_holds.tw16914220770136414715 : True := trivial
theorem law_holds.tw16935243356766158856 : True := trivial
theorem law_holds.tw16947615914383616782 : True := trivial
theorem law_holds.tw16963379459963715452 : True := trivial
theorem law_holds.tw16978406815995349258 : True := trivial
theorem law_holds.tw16983987102403535770 : True := trivial
theorem law_holds.tw17027635718292003107 : True := trivial
theorem law_holds.tw17046799393618780204 : True := trivial
theorem law_holds.tw17089861810051081540 : True := trivial
theorem law_holds.tw1710076424337546998 : True := trivial
theorem law_holds.tw17137235678499792623 : True := trivial
theorem law_holds.tw17156363617357476176 : True := trivial
theorem law_holds.tw17180001009569633970 : True := trivial
theorem law_holds.tw17183477848116922584 : True := trivial
theorem law_holds.tw1722738952054099684 : True := trivial
theorem law_holds.tw17237755526102222789 : True := trivial
theorem law_holds.tw17249539165995611551 : True := trivial
theorem law_holds.tw17253691774821329096 : True := trivial
theorem law_holds.tw17253903310271361901 : True := trivial
theorem law_holds.tw17255088995462705879 : True := trivial
theorem law_holds.tw17264387287909652857 : True := trivial
theorem law_holds.tw17274716441693411508 : True := trivial
theorem law_holds.tw17305254018735503138 : True := trivial
theorem law_holds.tw17364227736987735495 : True := trivial
theorem law_holds.tw17371252989657294990 : True := trivial
theorem law_holds.tw17389434848343332794 : True := trivial
theorem law_holds.tw17419225075052043924 : True := trivial
theorem law_holds.tw17458534234597298029 : True := trivial
theorem law_holds.tw17470365217354309832 : True := trivial
theorem law_holds.tw17499823404086765753 : True := trivial
theorem law_holds.tw17529362906406652863 : True := trivial
theorem law_holds.tw17545576798567701639 : True := trivial
theorem law_holds.tw17553930602362091883 : True := trivial
theorem law_holds.tw17580165497215679439 : True := trivial
theorem law_holds.tw17598101756349436640 : True := trivial
theorem law_holds.tw17607630403765710837 : True := trivial
theorem law_holds.tw1762888911704233025 : True := trivial
theorem law_holds.tw17629927091676212179 : True := trivial
theorem law_holds.tw17635003217326761883 : True := trivial
theorem law_holds.tw1767730674963353768 : True := trivial
theorem law_holds.tw17758146289354676595 : True := trivial
theorem law_holds.tw1778412455037948541 : True := trivial
theorem law_holds.tw17792525830624384078 : True := trivial
theorem law_holds.tw17830944117370523080 : True := trivial
theorem law_holds.tw17865009358878524859 : True := trivial
theorem law_holds.tw17884844454425935293 : True := trivial
theorem law_holds.tw17899081815984039989 : True := trivial
theorem law_holds.tw1791086108937442324 : True := trivial
theorem law_holds.tw17923851452625207687 : True := trivial
theorem law_holds.tw17942709131360195518 : True := trivial
theorem law_holds.tw179590077315354965 : True := trivial
theorem law_holds.tw17974257514489008736 : True := trivial
theorem law_holds.tw17993387198741990920 : True := trivial
theorem law_holds.tw18006792725990754497 : True := trivial
theorem law_holds.tw18051328159682125866 : True := trivial
theorem law_holds.tw18088736630749135056 : True := trivial
theorem law_holds.tw18090433342136740992 : True := trivial
theorem law_holds.tw18116031599527039140 : True := trivial
theorem law_holds.tw18135211599370774712 : True := trivial
theorem law_holds.tw18153520721480276881 : True := trivial
theorem law_holds.tw18197852217732850983 : True := trivial
theorem law_holds.tw1819975233463548508 : True := trivial
theorem law_holds.tw18203989763732354715 : True := trivial
theorem law_holds.tw18221428039690301666 : True := trivial
theorem law_holds.tw18221580467831097590 : True := trivial
theorem law_holds.tw18234560199702728603 : True := trivial
theorem law_holds.tw18254337876149969668 : True := trivial
theorem law_holds.tw18326849912455186884 : True := trivial
theorem law_holds.tw1832781179975386347 : True := trivial
theorem law_holds.tw18340385619391811705 : True := trivial
theorem law_holds.tw18388893480867403737 : True := trivial
theorem law_holds.tw18430954121086234272 : True := trivial
theorem law_holds.tw1905533677188600702 : True := trivial
theorem law_holds.tw1929443778124869092 : True := trivial
theorem law_holds.tw194939583717160490 : True := trivial
theorem law_holds.tw1973129929022764952 : True := trivial
theorem law_holds.tw1989176631692091739 : True := trivial
theorem law_holds.tw1995169965324791860 : True := trivial
theorem law_holds.tw1997475870405608531 : True := trivial
theorem law_holds.tw2006301483956418059 : True := trivial
theorem law_holds.tw2008241840959921210 : True := trivial
theorem law_holds.tw2016121425191149895 : True := trivial
theorem law_holds.tw2017991025062827469 : True := trivial
theorem law_holds.tw2043166853727251185 : True := trivial
theorem law_holds.tw2055734563569237896 : True := trivial
theorem law_holds.tw2075624079617657780 : True := trivial
theorem law_holds.tw2078624436916829710 : True := trivial
theorem law_holds.tw2088057726675268939 : True := trivial
theorem law_holds.tw2090888555730037645 : True := trivial
theorem law_holds.tw2096525686368166746 : True := trivial
theorem law_holds.tw2102315897755806987 : True := trivial
theorem law_holds.tw2124134355350193313 : True := trivial
theorem law_holds.tw2127001594154878533 : True := trivial
theorem law_holds.tw2136269947727277649 : True := trivial
theorem law_holds.tw2139843940965253949 : True := trivial
theorem law_holds.tw2142710703020379005 : True := trivial
theorem law_holds.tw2175471002772951711 : True := trivial
theorem law_holds.tw2211468639325271704 : True := trivial
theorem law_holds.tw2269544990204364226 : True := trivial
theorem law_holds.tw228058311090241170 : True := trivial
theorem law_holds.tw2295933128562542503 : True := trivial
theorem law_holds.tw2303879751551577860 : True := trivial
theorem law_holds.tw2322801206320994539 : True := trivial
theorem law_holds.tw2325693721150917532 : True := trivial
theorem law_holds.tw2376695672464595844 : True := trivial
theorem law_holds.tw2382714987290314120 : True := trivial
theorem law_holds.tw2387193687640843687 : True := trivial
theorem law_holds.tw2414074194907454277 : True := trivial
theorem law_holds.tw2414130084998747865 : True := trivial
theorem law_holds.tw2470889107711209942 : True := trivial
theorem law_holds.tw2503670479209048990 : True := trivial
theorem law_holds.tw2557128651999224082 : True := trivial
theorem law_holds.tw2558664710541493025 : True := trivial
theorem law_holds.tw2578278018795888234 : True := trivial
theorem law_holds.tw2602977815382960713 : True := trivial
theorem law_holds.tw2618386414584295968 : True := trivial
theorem law_holds.tw2643271747718453845 : True := trivial
theorem law_holds.tw2644310842459337959 : True := trivial
theorem law_holds.tw2667362832866536986 : True := trivial
theorem law_holds.tw2695550118857162214 : True := trivial
theorem law_holds.tw270554467692517631 : True := trivial
theorem law_holds.tw2731376850318366449 : True := trivial
theorem law_holds.tw2782419253953178936 : True := trivial
theorem law_holds.tw2782584491509435139 : True := trivial
theorem law_holds.tw2788888992717563140 : True := trivial
theorem law_holds.tw2842810181116790245 : True := trivial
theorem law_holds.tw2856731137302751260 : True := trivial
theorem law_holds.tw2887050238494874643 : True := trivial
theorem law_holds.tw2887994833065977647 : True := trivial
theorem law_holds.tw2903333896348957400 : True := trivial
theorem law_holds.tw2907507879108658156 : True := trivial
theorem law_holds.tw2907883995040033537 : True := trivial
theorem law_holds.tw2924946361707170262 : True := trivial
theorem law_holds.tw293627430662643474 : True := trivial
theorem law_holds.tw2958513421000086783 : True := trivial
theorem law_holds.tw3005452535816212104 : True := trivial
theorem law_holds.tw3012480247710183994 : True := trivial
theorem law_holds.tw302768837105346163 : True := trivial
theorem law_holds.tw3028213030429885723 : True := trivial
theorem law_holds.tw3035144380315620824 : True := trivial
theorem law_holds.tw3046938939346580660 : True := trivial
theorem law_holds.tw3078253882079729682 : True := trivial
theorem law_holds.tw3110860835449505704 : True := trivial
theorem law_holds.tw3127913417769977931 : True := trivial
theorem law_holds.tw312863333873483875 : True := trivial
theorem law_holds.tw3136910860242942599 : True := trivial
theorem law_holds.tw3158129796062787159 : True := trivial
theorem law_holds.tw3186734533307500241 : True := trivial
theorem law_holds.tw3253568177066640346 : True := trivial
theorem law_holds.tw3253820488102484341 : True := trivial
theorem law_holds.tw3258674603298201628 : True := trivial
theorem law_holds.tw3329330481660614911 : True := trivial
theorem law_holds.tw3399313773586836486 : True := trivial
theorem law_holds.tw3416923247095428876 : True := trivial
theorem law_holds.tw3426384778480675251 : True := trivial
theorem law_holds.tw3438298445031660282 : True := trivial
theorem law_holds.tw3494445600050047599 : True := trivial
theorem law_holds.tw3551631022101015893 : True := trivial
theorem law_holds.tw3572487005457819259 : True := trivial
theorem law_holds.tw3586223124089845285 : True := trivial
theorem law_holds.tw3595789414353437717 : True := trivial
theorem law_holds.tw3612332870262773283 : True := trivial
theorem law_holds.tw3663427449441712954 : True := trivial
theorem law_holds.tw3672438013989251361 : True := trivial
theorem law_holds.tw3674665740742831893 : True := trivial
theorem law_holds.tw367903286550418209 : True := trivial
theorem law_holds.tw3682559726232862161 : True := trivial
theorem law_holds.tw3692103080737180250 : True := trivial
theorem law_holds.tw3723989083033111307 : True := trivial
theorem law_holds.tw3756308257209627903 : True := trivial
theorem law_holds.tw3756957479349018193 : True := trivial
theorem law_holds.tw3776956092104397036 : True := trivial
theorem law_holds.tw3808703085821546077 : True := trivial
theorem law_holds.tw3809755536050820187 : True := trivial
theorem law_holds.tw3850334171643177529 : True := trivial
theorem law_holds.tw3850404396616230974 : True := trivial
theorem law_holds.tw3882201998751590657 : True := trivial
theorem law_holds.tw3882250662718909693 : True := trivial
theorem law_holds.tw3896150654470677357 : True := trivial
theorem law_holds.tw3910120701321347557 : True := trivial
theorem law_holds.tw3927331946688356228 : True := trivial
theorem law_holds.tw3943354718410532717 : True := trivial
theorem law_holds.tw3955097671198598788 : True := trivial
theorem law_holds.tw3956099054510807996 : True := trivial
theorem law_holds.tw3959601488294255719 : True := trivial
theorem law_holds.tw3973856790486539637 : True := trivial
theorem law_holds.tw3974387499553966400 : True := trivial
theorem law_holds.tw3979707639553702691 : True := trivial
theorem law_holds.tw3996538145585541282 : True := trivial
theorem law_holds.tw4008084134468147086 : True := trivial
theorem law_holds.tw4030767218360268280 : True := trivial
theorem law_holds.tw4037582482628031876 : True := trivial
theorem law_holds.tw4072507727158212662 : True := trivial
theorem law_holds.tw4143738569270334224 : True := trivial
theorem law_holds.tw4146061822495498468 : True := trivial
theorem law_holds.tw415365407113419659 : True := trivial
theorem law_holds.tw41732636909640268 : True := trivial
theorem law_holds.tw4211113817173803656 : True := trivial
theorem law_holds.tw4273555757443719353 : True := trivial
theorem law_holds.tw4329158554759489670 : True := trivial
theorem law_holds.tw4360515638614775343 : True := trivial
theorem law_holds.tw4370086069003782432 : True := trivial
theorem law_holds.tw4439653461905209652 : True := trivial
theorem law_holds.tw4441770287765753910 : True := trivial
theorem law_holds.tw445335354869643106 : True := trivial
theorem law_holds.tw447027507633508388 : True := trivial
theorem law_holds.tw4492043994082249198 : True := trivial
theorem law_holds.tw4503035019201841076 : True := trivial
theorem law_holds.tw4515466672771955728 : True := trivial
theorem law_holds.tw4517222822008671029 : True := trivial
theorem law_holds.tw4568741812840581045 : True := trivial
theorem law_holds.tw4581845663705801772 : True := trivial
theorem law_holds.tw4593294709026258786 : True := trivial
theorem law_holds.tw4614512636035447770 : True := trivial
theorem law_holds.tw462603977267732627 : True := trivial
theorem law_holds.tw4635674611617693574 : True := trivial
theorem law_holds.tw4643041051132140158 : True := trivial
theorem law_holds.tw4741859662064258567 : True := trivial
theorem law_holds.tw4818577856007422655 : True := trivial
theorem law_holds.tw4886312948824227682 : True := trivial
theorem law_holds.tw4889031023730116350 : True := trivial
theorem law_holds.tw4916342969005030805 : True := trivial
theorem law_holds.tw4963573110770748834 : True := trivial
theorem law_holds.tw498061464947678834 : True := trivial
theorem law_holds.tw4991859449750346478 : True := trivial
theorem law_holds.tw4995542688137877417 : True := trivial
theorem law_holds.tw5037970770195530229 : True := trivial
theorem law_holds.tw5044595872519035376 : True := trivial
theorem law_holds.tw5045712524691215523 : True := trivial
theorem law_holds.tw5062152199769849712 : True := trivial
theorem law_holds.tw5087963091746180759 : True := trivial
theorem law_holds.tw5112083995522966620 : True := trivial
theorem law_holds.tw5117662029339320154 : True := trivial
theorem law_holds.tw5212653520564569363 : True := trivial
theorem law_holds.tw5222685764011923507 : True := trivial
theorem law_holds.tw5274592661964301406 : True := trivial
theorem law_holds.tw5277994541964179845 : True := trivial
theorem law_holds.tw5389484754426515990 : True := trivial
theorem law_holds.tw5451054884063135654 : True := trivial
theorem law_holds.tw545109181885906688 : True := trivial
theorem law_holds.tw5455921660152230842 : True := trivial
theorem law_holds.tw548770620660146353 : True := trivial
theorem law_holds.tw5488932636959071455 : True := trivial
theorem law_holds.tw5506821171919863439 : True := trivial
theorem law_holds.tw5542243279508502960 : True := trivial
theorem law_holds.tw5640673133297012132 : True := trivial
theorem law_holds.tw5647190250986860303 : True := trivial
theorem law_holds.tw5681604512368388349 : True := trivial
theorem law_holds.tw5698644340446977077 : True := trivial
theorem law_holds.tw5731563423909890137 : True := trivial
theorem law_holds.tw576407869801174206 : True := trivial
theorem law_holds.tw5769158387606399586 : True := trivial
theorem law_holds.tw5791418645094131800 : True := trivial
theorem law_holds.tw5842969613912506279 : True := trivial
theorem law_holds.tw5858263632927829637 : True := trivial
theorem law_holds.tw5898729028444588960 : True := trivial
theorem law_holds.tw5907203647135998699 : True := trivial
theorem law_holds.tw5920216800500632969 : True := trivial
theorem law_holds.tw5950301352895977177 : True := trivial
theorem law_holds.tw5981114437932730796 : True := trivial
theorem law_holds.tw59864651932915081 : True := trivial
theorem law_holds.tw602461330855297101 : True := trivial
theorem law_holds.tw6041440012092600215 : True := trivial
theorem law_holds.tw607667584577438428 : True := trivial
theorem law_holds.tw6116483010803129801 : True := trivial
theorem law_holds.tw6159533029260741167 : True := trivial
theorem law_holds.tw6177970194926469781 : True := trivial
theorem law_holds.tw6189876280036216102 : True := trivial
theorem law_holds.tw6260460797876433568 : True := trivial
theorem law_holds.tw6265907326580845545 : True := trivial
theorem law_holds.tw631266038723830076 : True := trivial
theorem law_holds.tw6317479115527610633 : True := trivial
theorem law_holds.tw6333624483447246961 : True := trivial
theorem law_holds.tw6345391036791879355 : True := trivial
theorem law_holds.tw6346621912233149993 : True := trivial
theorem law_holds.tw6381524096760519305 : True := trivial
theorem law_holds.tw6499956759230125245 : True := trivial
theorem law_holds.tw653560878884961445 : True := trivial
theorem law_holds.tw6553333263825352884 : True := trivial
theorem law_holds.tw6564709946809587534 : True := trivial
theorem law_holds.tw6580623548314892615 : True := trivial
theorem law_holds.tw6667284449218939238 : True := trivial
theorem law_holds.tw6677821561840896501 : True := trivial
theorem law_holds.tw6709271908398517637 : True := trivial
theorem law_holds.tw6719018230134327050 : True := trivial
theorem law_holds.tw6723812968561706957 : True := trivial
theorem law_holds.tw6727219029552735585 : True := trivial
theorem law_holds.tw6746360682218282392 : True := trivial
theorem law_holds.tw6751701741844952029 : True := trivial
theorem law_holds.tw6765152471904792315 : True := trivial
theorem law_holds.tw6861490101519172755 : True := trivial
theorem law_holds.tw6869992995446874880 : True := trivial
theorem law_holds.tw687851300278632918 : True := trivial
theorem law_holds.tw6881874429007886204 : True := trivial
theorem law_holds.tw6882020374766023752 : True := trivial
theorem law_holds.tw6883334084387585222 : True := trivial
theorem law_holds.tw6911747868599837429 : True := trivial
theorem law_holds.tw6934448944433832347 : True := trivial
theorem law_holds.tw699380112222796084 : True := trivial
theorem law_holds.tw7014720503175028613 : True := trivial
theorem law_holds.tw7120836010843673076 : True := trivial
theorem law_holds.tw7169296243666066974 : True := trivial
theorem law_holds.tw718173064312146323 : True := trivial
theorem law_holds.tw7185456241796803578 : True := trivial
theorem law_holds.tw7221428835167493151 : True := trivial
theorem law_holds.tw723553956927101924 : True := trivial
theorem law_holds.tw724200737284857819 : True := trivial
theorem law_holds.tw7304591109411159013 : True := trivial
theorem law_holds.tw7311554392007033315 : True := trivial
theorem law_holds.tw733571504165245281 : True := trivial
theorem law_holds.tw7345768897557615242 : True := trivial
theorem law_holds.tw7346270606818648071 : True := trivial
theorem law_holds.tw7351129398174139865 : True := trivial
theorem law_holds.tw7404543985812422374 : True := trivial
theorem law_holds.tw7407239408455114201 : True := trivial
theorem law_holds.tw7408322871517469003 : True := trivial
theorem law_holds.tw745255978533919091 : True := trivial
theorem law_holds.tw7472407996622490835 : True := trivial
theorem law_holds.tw7479968899032947501 : True := trivial
theorem law_holds.tw7480714314260584917 : True := trivial
theorem law_holds.tw7484302960587174374 : True := trivial
theorem law_holds.tw7495221243884187115 : True := trivial
theorem law_holds.tw7497986649931050792 : True := trivial
theorem law_holds.tw7556614973213307419 : True := trivial
theorem law_holds.tw7566432030715092817 : True := trivial
theorem law_holds.tw7604666192120794032 : True := trivial
theorem law_holds.tw7636989558263936852 : True := trivial
theorem law_holds.tw7700724859824829329 : True := trivial
theorem law_holds.tw7743764779111840046 : True := trivial
theorem law_holds.tw7767266014307106701 : True := trivial
theorem law_holds.tw7769649832755249146 : True := trivial
theorem law_holds.tw7775064044895347852 : True := trivial
theorem law_holds.tw7820799176418779761 : True := trivial
theorem law_holds.tw784011647948385275 : True := trivial
theorem law_holds.tw7917754353467396125 : True := trivial
theorem law_holds.tw7983211939772527470 : True := trivial
theorem law_holds.tw8035577848987061507 : True := trivial
theorem law_holds.tw8045378594462670225 : True := trivial
theorem law_holds.tw8061732933902216757 : True := trivial
theorem law_holds.tw808278469055374699 : True := trivial
theorem law_holds.tw811035903429128223 : True := trivial
theorem law_holds.tw8176227357466254829 : True := trivial
theorem law_holds.tw8191475993861738794 : True := trivial
theorem law_holds.tw8210953160692291510 : True := trivial
theorem law_holds.tw8249079356659094474 : True := trivial
theorem law_holds.tw8266603773606604290 : True := trivial
theorem law_holds.tw8283681822388582728 : True := trivial
theorem law_holds.tw8285764192309689115 : True := trivial
theorem law_holds.tw8297313697389066934 : True := trivial
theorem law_holds.tw8312275703017117140 : True := trivial
theorem law_holds.tw8312341600987523519 : True := trivial
theorem law_holds.tw8369274380968253667 : True := trivial
theorem law_holds.tw8373494401650393898 : True := trivial
theorem law_holds.tw8413839820570837369 : True := trivial
theorem law_holds.tw8417186165934385351 : True := trivial
theorem law_holds.tw8441880690091102137 : True := trivial
theorem law_holds.tw8472228645029834797 : True := trivial
theorem law_holds.tw8481075993509181622 : True := trivial
theorem law_holds.tw850272041215511910 : True := trivial
theorem law_holds.tw8549365171731915398 : True := trivial
theorem law_holds.tw8553002610548859549 : True := trivial
theorem law_holds.tw8570087061310353148 : True := trivial
theorem law_holds.tw8591876402714022951 : True := trivial
theorem law_holds.tw863230966790177721 : True := trivial
theorem law_holds.tw8634839017697508684 : True := trivial
theorem law_holds.tw8652346329174877282 : True := trivial
theorem law_holds.tw8666519363043736892 : True := trivial
theorem law_holds.tw8712014163911447464 : True := trivial
theorem law_holds.tw8715444014776630742 : True := trivial
theorem law_holds.tw8720880381367431298 : True := trivial
theorem law_holds.tw8742431003238096665 : True := trivial
theorem law_holds.tw8785698371604719795 : True := trivial
theorem law_holds.tw8804120190785687885 : True := trivial
theorem law_holds.tw8806649888931605024 : True := trivial
theorem law_holds.tw881140697980615281 : True := trivial
theorem law_holds.tw8829074647290719032 : True := trivial
theorem law_holds.tw8835965917227929528 : True := trivial
theorem law_holds.tw8854015012368427407 : True := trivial
theorem law_holds.tw8857742495270377987 : True := trivial
theorem law_holds.tw8860054118572591635 : True := trivial
theorem law_holds.tw8890443458166856008 : True := trivial
theorem law_holds.tw8909828626151137519 : True := trivial
theorem law_holds.tw8922897050441119698 : True := trivial
theorem law_holds.tw8939018918628865471 : True := trivial
theorem law_holds.tw8957123355933967898 : True := trivial
theorem law_holds.tw8970147916757833333 : True := trivial
theorem law_holds.tw8982592368679156308 : True := trivial
theorem law_holds.tw8984152853971343422 : True := trivial
theorem law_holds.tw8984712037535005518 : True := trivial
theorem law_holds.tw9009705080361974123 : True := trivial
theorem law_holds.tw9032369906271771983 : True := trivial
theorem law_holds.tw9069877914133315304 : True := trivial
theorem law_holds.tw907578622648922086 : True := trivial
theorem law_holds.tw908389787484368193 : True := trivial
theorem law_holds.tw9168033884955339765 : True := trivial
theorem law_holds.tw9184033795430018204 : True := trivial
theorem law_holds.tw9187647767651647856 : True := trivial
theorem law_holds.tw9220624806794609946 : True := trivial
theorem law_holds.tw9255152265573255198 : True := trivial
theorem law_holds.tw9288214680346807717 : True := trivial
theorem law_holds.tw9423440377400516374 : True := trivial
theorem law_holds.tw9483915327669328748 : True := trivial
theorem law_holds.tw9502071092897418529 : True := trivial
theorem law_holds.tw9524400087533092186 : True := trivial
theorem law_holds.tw9525127294725463027 : True := trivial
theorem law_holds.tw9529696498207198238 : True := trivial
theorem law_holds.tw9552830710289189752 : True := trivial
theorem law_holds.tw9606376775287448836 : True := trivial
theorem law_holds.tw9634471323475708679 : True := trivial
theorem law_holds.tw972601921857779769 : True := trivial
theorem law_holds.tw9746213474893016414 : True := trivial
theorem law_holds.tw9758047768218912823 : True := trivial
theorem law_holds.tw9779807473162285230 : True := trivial
theorem law_holds.tw981846192996546977 : True := trivial
theorem law_holds.tw9843604407834444796 : True := trivial
theorem law_holds.tw9849722394096787677 : True := trivial
theorem law_holds.tw9871626496009991038 : True := trivial
theorem law_holds.tw9887912731928775018 : True := trivial
theorem law_holds.tw9889521400790421688 : True := trivial
theorem law_holds.tw9897484093202304508 : True := trivial
theorem law_holds.tw9975692261777386857 : True := trivial
theorem law_holds.tw9989359697036934923 : True := trivial
theorem law_holds.tw9992725586745946429 : True := trivial
section
open PySem PySem.W PyProof.Rows PySem.Spec PySem.Calls PyProof.V
open V
set_option Elab.async true
set_option maxRecDepth 100000 in
set_option maxHeartbeats 8000000 in
theorem law_holds : PySem.Challenge.rw_nt0610_01.Holds := by
  w_on
  o_law
  k_head
  case hw => w_witness2
  w_strict (k_go0; (all_goals try k_fold))
  rename PySem.World => w9
  dsimp only
  refine wpAny_noRaise ?_
  refine' law_core w9 _ _ ?ok _ _ _ _ _ _ _ _ _ _ _ _ _ _ _ _ _ _ _ _ _ _ _ _ _ _ _ _ ?a1 ?a2 ?a3 ?a4 ?a5 ?a6 ?a7 ?a8 ?a9 ?a10 ?a11 ?a12 ?b1 ?b2 ?b3 ?b4 ?a13
  case a3 => assumption
  case a2 => assumption
  case a1 => exact rfl
  case a4 => assumption
  case a5 => assumption
  case a6 => assumption
  case a7 => omega
  case a9 => assumption
  case a8 => with_unfolding_all assumption
  case a10 => with_unfolding_all assumption
  case a11 => with_unfolding_all assumption
  case a12 => with_unfolding_all assumption
  case b1 => exact rfl
  case b2 => exact rfl
  case b3 => exact rfl
  case b4 => exact rfl
  case a13 =>
    intro h' tk' m' F'
    k_steps
  case ok =>
    refine' KOk.mk ?globs ?keep ?attr ?meth ?f28 ?f35 ?f42 ?f49 ?f56 ?f63 ?f70 ?f77 ?f84 ?f91 ?f98 ?f105 ?f112 ?f158 ?f242 ?f270 ?f347 ?f356 ?f365 ?f436 ?f443 ?f472 ?f486 ?f535 ?f542 ?f549 ?f556 ?f563 ?f570 ?f577 ?f584 ?f589 ?f596 ?f601 ?f606 ?c446 ?c329 ?c224 ?c524 ?add5 ?add2 ?el4 ?el3 ?ini
    case globs => exact globs_of (by k_is) (by boot_fast) (by k_is) (by boot_fast) (by k_is) (by boot_fast) (by k_is) (by boot_fast) (by k_is) (by boot_fast) (by k_is) (by boot_fast) (by k_is) (by k_is) (by k_is) (by k_is) (by k_is) (by k_is) (by k_is) (by k_is) (by k_is) (by k_is) (by k_is) (by k_is) (by k_is) (by k_is) (by k_is) (by k_is) (by k_is) (by k_is) (by k_is) (by k_is) (by k_is) (by k_is) (by k_is) (by k_is) (by k_is) (by k_is) (by k_is) (by k_is) (by k_is)
    case keep => exact keep_of (by k_is) (by k_is) (by k_is) (by k_is) (by k_is) (by k_is) (by k_is) (by k_is) (by k_is) (by k_is) (by k_is) (by k_is) (by k_is) (by k_is) (by k_is) (by k_is) (by k_is) (by k_is) (by k_is) (by k_is) (by k_is) (by k_is) (by k_is) (by k_is) (by k_is) (by k_is) (by k_is) (by k_is) (by k_is) (by k_is) (by k_is) (by k_is) (by k_is) (by k_is) (by k_is)
    case attr => exact attr_of (by k_is) (by k_is) (by k_is) (by k_is) (by k_is) (by k_is) (by k_is) (by k_is) (by k_is) (by k_is) (by k_is) (by k_is) (by k_is) (by k_is) (by k_is) (by k_is) (by k_is) (by k_is) (by k_is) (by k_is) (by k_is) (by k_is) (by k_is) (by k_is) (by k_is) (by k_is) (by k_is) (by k_is) (by k_is) (by k_is) (by k_is) (by k_is) (by k_is) (by k_is) (by k_is) (by k_is) (by k_is) (by k_is) (by k_is) (by k_is) (by k_is) (by k_is) (by k_is) (by k_is) (by k_is) (by k_is) (by k_is) (by k_is) (by k_is)
    case meth => exact meth_of (by k_is) (by k_is) (by k_is) (by k_is) (by k_is) (by k_is) (by k_is) (by k_is) (by k_is) (by k_is) (by k_is) (by k_is) (by k_is) (by k_is) (by k_is) (by k_is) (by k_is) (by k_is)
    case f28 => exact ⟨_, _, _, _, _, _, _, _, _, by k_is, by k_is⟩
    case f35 => exact ⟨_, _, _, _, _, _, _, _, _, by k_is, by k_is⟩
    case f42 => exact ⟨_, _, _, _, _, _, _, _, _, by k_is, by k_is⟩
    case f49 => exact ⟨_, _, _, _, _, _, _, _, _, by k_is, by k_is⟩
    case f56 => exact ⟨_, _, _, _, _, _, _, _, _, by k_is, by k_is⟩
    case f63 => exact ⟨_, _, _, _, _, _, _, _, _, by k_is, by k_is⟩
    case f70 => exact ⟨_, _, _, _, _, _, _, _, _, by k_is, by k_is⟩
    case f77 => exact ⟨_, _, _, _, _, _, _, _, _, by k_is, by k_is⟩
    case f84 => exact ⟨_, _, _, _, _, _, _, _, _, by k_is, by k_is⟩
    case f91 => exact ⟨_, _, _, _, _, _, _, _, _, by k_is, by k_is⟩
    case f98 => exact ⟨_, _, _, _, _, _, _, _, _, by k_is, by k_is⟩
    case f105 => exact ⟨_, _, _, _, _, _, _, _, _, by k_is, by k_is⟩
    case f112 => exact ⟨_, _, _, _, _, _, _, _, _, by k_is, by k_is⟩
    case f158 => exact ⟨_, _, _, _, _, _, _, _, _, by k_is, by k_is⟩
    case f242 => exact ⟨_, _, _, _, _, _, _, _, _, by k_is, by k_is⟩
    case f270 => exact ⟨_, _, _, _, _, _, _, _, _, by k_is, by k_is⟩
    case f347 => exact ⟨_, _, _, _, _, _, _, _, _, by k_is, by k_is⟩
    case f356 => exact ⟨_, _, _, _, _, _, _, _, _, by k_is, by k_is⟩
    case f365 => exact ⟨_, _, _, _, _, _, _, _, _, by k_is, by k_is⟩
    case f436 => exact ⟨_, _, _, _, _, _, _, _, _, by k_is, by k_is⟩
    case f443 => exact ⟨_, _, _, _, _, _, _, _, _, by k_is, by k_is⟩
    case f472 => exact ⟨_, _, _, _, _, _, _, _, _, by k_is, by k_is⟩
    case f486 => exact ⟨_, _, _, _, _, _, _, _, _, by k_is, by k_is⟩
    case f535 => exact ⟨_, _, _, _, _, _, _, _, _, by k_is, by k_is⟩
    case f542 => exact ⟨_, _, _, _, _, _, _, _, _, by k_is, by k_is⟩
    case f549 => exact ⟨_, _, _, _, _, _, _, _, _, by k_is, by k_is⟩
    case f556 => exact ⟨_, _, _, _, _, _, _, _, _, by k_is, by k_is⟩
    case f563 => exact ⟨_, _, _, _, _, _, _, _, _, by k_is, by k_is⟩
    case f570 => exact ⟨_, _, _, _, _, _, _, _, _, by k_is, by k_is⟩
    case f577 => exact ⟨_, _, _, _, _, _, _, _, _, by k_is, by k_is⟩
    case f584 => exact ⟨_, _, _, _, _, _, _, _, _, by k_is, by k_is⟩
    case f589 => exact ⟨_, _, _, _, _, _, _, _, _, by k_is, by k_is⟩
    case f596 => exact ⟨_, _, _, _, _, _, _, _, _, by k_is, by k_is⟩
    case f601 => exact ⟨_, _, _, _, _, _, _, _, _, by k_is, by k_is⟩
    case f606 => exact ⟨_, _, _, _, _, _, _, _, _, by k_is, by k_is⟩
    case c446 => exact ⟨by k_is, by k_is, by k_is⟩
    case c329 => exact ⟨by k_is, by k_is, by k_is⟩
    case c224 => exact ⟨by k_is, by k_is, by k_is⟩
    case c524 => exact ⟨by k_is, by k_is, by k_is⟩
    case add5 =>
      refine ⟨.str (Str.ofString "") 593, fun t x y z b => ?_⟩
      refine' Binds.mk' ?k1 ?k2 ?k3
      case k1 => k_is
      case k2 => exact rfl
      case k3 => exact fun s X => binds_K X rfl (by k_is) rfl rfl rfl
    case add2 =>
      refine ⟨591, 592, 348, .str (Str.ofString "") 593, ?h, ?g⟩
      case h =>
        intro t x
        refine' Binds.mk' ?k1 ?k2 ?k3
        case k1 => k_is
        case k2 => exact rfl
        case k3 => exact fun s X => binds_K X rfl (by k_is) rfl rfl rfl
      case g => k_is
    case el4 =>
      intro t z y b
      refine' Binds.mk' ?k1 ?k2 ?k3
      case k1 => k_is
      case k2 => exact rfl
      case k3 => exact fun s X => binds_K X rfl (by k_is) rfl rfl rfl
    case el3 =>
      refine ⟨357, ?h, ?g⟩
      case h =>
        intro t z y
        refine' Binds.mk' ?k1 ?k2 ?k3
        case k1 => k_is
        case k2 => exact rfl
        case k3 => exact fun s X => binds_K X rfl (by k_is) rfl rfl rfl
      case g => k_is
    case ini =>
      intro x ru
      refine' Binds.mk' ?k1 ?k2 ?k3
      case k1 => k_is
      case k2 => exact rfl
      case k3 => exact fun s X => binds_K X rfl (by k_is) rfl rfl rfl
set_option Elab.async false
end
end Mine
theorem PySem.Challenge.cw_nt0610_01_holds : PySem.Challenge.rw_nt0610_01.Holds := by
  exact Mine.law_holds
