import PyProof.Rows.All
import Wide.All
import OpenK.AllK
import Wide.FinOn
import PySem.Challenge.RW_ok0008_01
set_option Elab.async false
section
open PySem PySem.W PyProof.Rows
namespace Mine
set_option maxRecDepth 100000 in
set_option maxHeartbeats 8000000 in
open_top hd for PySem.Challenge.rw_ok0008_01
end Mine

end
section
open PySem PySem.W PyProof.Rows
namespace Mine

noncomputable def SpecB (prog : Program) (w : World) (Bs : Heap → Prop) (f : Addr) (args : List Value) (n u : Nat) (news : List (Addr × Obj)) (R : Value → List (Addr × Obj) → Prop) : Prop :=
  ∀ (p : Program) (loose : List Str) (mean : ExcName → Option Value) (mg mb : Str → Option Value) (dp un : Nat) (gd : Option (List Code)) (cn : Str) (cs : Scope) (a : Addr) (ccd : Value) (cl : List (Str × Addr)) (outer : List Env) (A₀ : Around) (base h₀ : Heap) (L : Addr) (m : Str → Option Value) (s : Shared)
    (Q E : Value → Shared → Prop),
    Below A₀ base outer h₀ → Fr h₀ L s.heap m → (Mine.hd.heap_39 w.params).In h₀ → News h₀ L s.heap news → Top p loose mean mg mb h₀ → CodeAll [(49, 45), (42, 38)] base → Bs base → cs.kind = .function → dp + n < recursionLimit → un + u < cLine →
    (∀ r news' h' tk', Fr h₀ L h' m → News h₀ L h' news' → R r news' → Q r { s with heap := h', toks := tk' }) →
    wpAny (model prog w) (ktrTop dp un gd cn cs L a ccd cl outer) (call (.ref f) args) Q E s
noncomputable abbrev FSpec (prog : Program) (w : World) := SpecB prog w (fun _ => True)

theorem SpecB.use {prog : Program} {w : World} {Bs : Heap → Prop} {f : Addr} {args : List Value} {n u : Nat} {news : List (Addr × Obj)} {R : Value → List (Addr × Obj) → Prop}
    {p : Program} {loose : List Str} {mean : ExcName → Option Value} {mg mb : Str → Option Value} {dp un : Nat} {gd : Option (List Code)} {cn : Str} {cs : Scope} {a : Addr} {ccd : Value} {cl : List (Str × Addr)} {outer : List Env} {A₀ : Around} {base h₀ : Heap} {L : Addr} {m : Str → Option Value} {s : Shared} {Q E : Value → Shared → Prop}
    (S : SpecB prog w Bs f args n u news R) (B : Below A₀ base outer h₀) (F : Fr h₀ L s.heap m) (X : (Mine.hd.heap_39 w.params).In h₀) (N : News h₀ L s.heap news) (T : Top p loose mean mg mb h₀) (C : CodeAll [(49, 45), (42, 38)] base) (hB : Bs base) (hcs : cs.kind = .function) (hd : dp + n < recursionLimit) (hu : un + u < cLine)
    (ret : ∀ r news' h' tk', Fr h₀ L h' m → News h₀ L h' news' → R r news' → Q r { s with heap := h', toks := tk' }) :
    wpAny (model prog w) (ktrTop dp un gd cn cs L a ccd cl outer) (call (.ref f) args) Q E s :=
  S _ _ _ _ _ _ _ _ _ _ _ _ _ _ _ _ _ _ _ _ _ _ B F X N T C hB hcs hd hu ret

noncomputable def Stop (P : Prop) : Prop := P
theorem stop_of {P : Prop} (h : Stop P) : P := h
inductive T where
  | v (k : Int)
  | c (g : Bool) (k : Int)
  | s (f : Int) (l : List T)

mutual
noncomputable def T.dat : T → Dat
  | .v k => .tuple [.str (Str.ofString "v"), .int k]
  | .c true k => .tuple [.str (Str.ofString "i"), .int k]
  | .c false k => .tuple [.str (Str.ofString "a"), .int k]
  | .s f l => .tuple [.str (Str.ofString "s"), .int f, .tuple (datsT l)]
noncomputable def datsT : List T → List Dat
  | [] => []
  | t :: r => t.dat :: datsT r
end
noncomputable abbrev TIn (im : List (Addr × Obj)) (v : Value) (t : T) : Prop := DatIn im v t.dat
noncomputable abbrev TAll (im : List (Addr × Obj)) (vs : List Value) (l : List T) : Prop := DatAll im vs (datsT l)
noncomputable abbrev tupN (vs : List Value) (n : Nat) : Obj := { cls := .type "tuple", data := .seq vs.toArray n }

section
variable {im : List (Addr × Obj)} {v : Value} {k f : Int} {l : List T} {vs : List Value} {t : T}
theorem in_v (h : TIn im v (.v k)) : ∃ a t1 t2 n, v = .ref a ∧ (a, tupN [.str (Str.ofString "v") t1, .int k t2] n) ∈ im := by
  unfold TIn T.dat at h
  cases h with
  | tuple hm hr => cases hr with | cons h1 hr => cases hr with | cons h2 hr => cases hr; cases h1; cases h2; exact ⟨_, _, _, _, rfl, hm⟩
theorem in_i (h : TIn im v (.c true k)) : ∃ a t1 t2 n, v = .ref a ∧ (a, tupN [.str (Str.ofString "i") t1, .int k t2] n) ∈ im := by
  unfold TIn T.dat at h
  cases h with
  | tuple hm hr => cases hr with | cons h1 hr => cases hr with | cons h2 hr => cases hr; cases h1; cases h2; exact ⟨_, _, _, _, rfl, hm⟩
theorem in_a (h : TIn im v (.c false k)) : ∃ a t1 t2 n, v = .ref a ∧ (a, tupN [.str (Str.ofString "a") t1, .int k t2] n) ∈ im := by
  unfold TIn T.dat at h
  cases h with
  | tuple hm hr => cases hr with | cons h1 hr => cases hr with | cons h2 hr => cases hr; cases h1; cases h2; exact ⟨_, _, _, _, rfl, hm⟩
theorem in_s (h : TIn im v (.s f l)) : ∃ a t1 t2 n b vs n', v = .ref a ∧ (a, tupN [.str (Str.ofString "s") t1, .int f t2, .ref b] n) ∈ im ∧ (b, tupN vs n') ∈ im ∧ TAll im vs l := by
  unfold TIn T.dat at h
  cases h with
  | tuple hm hr => cases hr with | cons h1 hr => cases hr with | cons h2 hr => cases hr with | cons h3 hr => cases hr; cases h1; cases h2; cases h3 with | tuple hm' hr' => exact ⟨_, _, _, _, _, _, _, rfl, hm, hm', hr'⟩
theorem v_in {a : Addr} {t1 t2 : Tok} {n : Nat} (h : (a, tupN [.str (Str.ofString "v") t1, .int k t2] n) ∈ im) : TIn im (.ref a) (.v k) := by
  unfold TIn T.dat; exact .tuple h (.cons (.str _ _) (.cons (.int _ _) .nil))
theorem i_in {a : Addr} {t1 t2 : Tok} {n : Nat} (h : (a, tupN [.str (Str.ofString "i") t1, .int k t2] n) ∈ im) : TIn im (.ref a) (.c true k) := by
  unfold TIn T.dat; exact .tuple h (.cons (.str _ _) (.cons (.int _ _) .nil))
theorem a_in {a : Addr} {t1 t2 : Tok} {n : Nat} (h : (a, tupN [.str (Str.ofString "a") t1, .int k t2] n) ∈ im) : TIn im (.ref a) (.c false k) := by
  unfold TIn T.dat; exact .tuple h (.cons (.str _ _) (.cons (.int _ _) .nil))
theorem s_in {a b : Addr} {t1 t2 : Tok} {n n' : Nat} (h : (a, tupN [.str (Str.ofString "s") t1, .int f t2, .ref b] n) ∈ im) (hb : (b, tupN vs n') ∈ im) (hr : TAll im vs l) : TIn im (.ref a) (.s f l) := by
  unfold TIn T.dat; exact .tuple h (.cons (.str _ _) (.cons (.int _ _) (.cons (.tuple hb hr) .nil)))
theorem datsT_length : ∀ l : List T, (datsT l).length = l.length
  | [] => rfl
  | _ :: r => by rw [datsT, List.length_cons, List.length_cons, datsT_length r]
theorem TAll.len (h : TAll im vs l) : vs.length = l.length := by rw [DatAll.length h, datsT_length]
theorem all_nil (h : TAll im vs []) : vs = [] := by unfold TAll datsT at h; cases h; rfl
theorem all_cons {r : List T} (h : TAll im vs (t :: r)) : ∃ v vs', vs = v :: vs' ∧ TIn im v t ∧ TAll im vs' r := by unfold TAll datsT at h; cases h with | cons h1 h2 => exact ⟨_, _, rfl, h1, h2⟩
theorem datsT_append : ∀ l r : List T, datsT (l ++ r) = datsT l ++ datsT r
  | [], _ => rfl
  | _ :: l, r => by rw [List.cons_append, datsT, datsT_append l r, datsT, List.cons_append]
end
theorem news_sub {h₀ h : Heap} {L : Addr} {A B : List (Addr × Obj)} (N : News h₀ L h A) (hs : ∀ p ∈ B, p ∈ A) : News h₀ L h B := fun p hp => N p (hs p hp)
end Mine

end
section
open PySem PySem.Spec PySem.Calls PySem.W PyProof.Rows
open PyProof.Rows.LCg
namespace Mine
section
variable {prog : Program} {w : World} {A : Around} {E : Value → Shared → Prop} {s : Shared} {h₀ : Heap} {L : Addr} {m : Str → Option Value} {env : Env}
theorem tup_of_news {h : Heap} {ax : Addr} {vs : List Value} {n : Nat} {news : List (Addr × Obj)} (N : News h₀ L h news) (hm : (ax, tupN vs n) ∈ news) : h.IsTuple ax vs.toArray := ⟨_, (N _ hm).1, rfl, n, rfl⟩
theorem tup_st {ax I : Addr} {vs : List Value} {n : Nat} : ∀ i (h h' : Heap) (o : Obj) (nw : List (Addr × Obj)), (h.IsTupleIter I ax i ∧ h.IsTuple ax vs.toArray) → h.get? I = some o → h'.get? I = some o → (∀ b o, h₀.get? b = some o → h'.get? b = some o) → News h₀ L h' nw → (ax, tupN vs n) ∈ nw →
    (h'.IsTupleIter I ax i ∧ h'.IsTuple ax vs.toArray) :=
  fun i h h' o nw st e e' _ N S => ⟨by obtain ⟨o', q, r⟩ := st.1; rw [e] at q; cases q; exact ⟨o, e', r⟩, tup_of_news N S⟩

noncomputable def TupSrc (prog : Program) (w : World) (A : Around) (h₀ : Heap) (L : Addr) (m : Str → Option Value) (env : Env) (elt : Expr) (x : Str) (scope : Scope) (cl : List (Str × Addr)) (Q : Value → Shared → Prop) (xv : Value) (s₁ : Shared) : Prop :=
  ∃ ax vs n news, xv = .ref ax ∧ Fr h₀ L s₁.heap m ∧ News h₀ L s₁.heap news ∧ (ax, tupN vs n) ∈ news ∧ vs.length ≤ 1000 ∧
      ∀ s₂ : Shared, (∃ h, s₂ = { s₁ with heap := h }) → CompRest prog w A h₀ L m env elt x scope cl s₂ (fun nw => (ax, tupN vs n) ∈ nw) (fun i v => vs[i]? = some v) (FinE h₀ L m s₂ Q) vs.length 0 [] news
theorem comp_tup {elt iter : Expr} {x : Str} {px : Pos} {scope : Scope} {cl : List (Str × Addr)} {pos : Pos} {Q : Value → Shared → Prop} (F₀ : Fr h₀ L s.heap m)
    (hclos : closureFor scope env = pure cl) (hcell : ∀ y ∈ scope.names, y.2 ≠ .cell) (hkind : scope.kind = .function)
    (hnames : ∀ y ∈ scope.names, y.2 = .local → scope.names.lookup y.1 = some .local) (hx : scope.names.lookup x = some .local) (hh : A.handled = none)
    (h : wpAny (model prog w) A (eval iter env) (TupSrc prog w A h₀ L m env elt x scope cl Q) E s)
    (hs : ∀ x, foldedSetIterable iter env x = pure x := by intro _; rfl) :
    wpAny (model prog w) A (eval (.ListComp elt [⟨.Name x px, iter, [], 0⟩] scope pos) env) Q E s := by
  rw [eval_ListComp]
  refine wpAny_comprehension_free (use := none) rfl hs hclos hkind hnames (wpAny_mono h (fun xv s₁ h₁ => ?_) fun _ _ e => e)
  obtain ⟨ax, vs, n, news, rfl, F, N, hm, hsz, R⟩ := h₁
  have hl := tup_of_news N hm
  have hlt : ax < s₁.heap.objs.size := by obtain ⟨_, e, _⟩ := hl; exact Heap.lt_size e
  refine wpAny_pyIter_tuple hl ?_
  have up : ∀ b o, s₁.heap.get? b = some o → (s₁.heap.push { cls := .type "tuple_iterator", data := .fields #[.ref ax, .int 0 0] }).get? b = some o := fun b o e => Heap.get?_push_of_some _ e
  have W := Walks.tuple (prog := prog) (w := w) hh s₁.heap.objs.size ax (Nat.ne_of_lt hlt) vs.toArray
  have W' : Walks prog w A s₁.heap.objs.size [s₁.heap.objs.size, ax] [s₁.heap.objs.size] vs.length (fun i v => vs[i]? = some v) (fun i h => h.IsTupleIter s₁.heap.objs.size ax i ∧ h.IsTuple ax vs.toArray) := by
    simpa using W
  refine block_U W' (Nat.le_trans hsz (by rw [sizeLine_eq]; decide)) (fun i h st => by obtain ⟨o, e, _⟩ := st.1; exact ⟨o, e⟩) tup_st hcell hkind hx ⟨⟨_, Heap.get?_push_size _ rfl, rfl, rfl⟩, hl.at fun o e => up _ _ e⟩ (fun b hb => ?_)
    (F.keeps up) (N.grown up) (Nat.ne_of_lt F.ns.lt) (next_is_new F) (fun p hp => Nat.ne_of_lt (Heap.lt_size (N p hp).1)) hm (R _ ⟨_, rfl⟩) ?_
  · show b < (s₁.heap.push _).objs.size
    rw [Heap.size_push]
    rcases List.mem_cons.mp hb with rfl | hb
    · exact Nat.lt_succ_self _
    · rw [List.mem_singleton.mp hb]; exact Nat.lt_succ_of_lt hlt
  · intro D C h tk m' ys news' F' N' o1 hn hC₀ hD₀ hCL hDL hCD offC fin
    refine ⟨m', hn, fun h'' hs'' => fin D h'' tk (F'.change hs'' hCL hC₀) (fun p hp => ?_) o1⟩
    refine ⟨hs''.extBut _ _ ?_ (N' p hp).1, (N' p hp).2⟩
    rcases List.mem_cons.mp hp with rfl | hp
    · exact Ne.symm hCD
    · exact offC p hp

theorem CompEnd.mono {I C D : Addr} {s₁ : Shared} {oI oC oD : Obj} {S : List (Addr × Obj) → Prop} {r r' : Value → List (Addr × Obj) → Prop} (hr : ∀ y nw, r y nw → r' y nw) {y : Value} {s₂ : Shared} (h : CompEnd h₀ L m s₁ I oI C oC D oD S r y s₂) : CompEnd h₀ L m s₁ I oI C oC D oD S r' y s₂ := by
  obtain ⟨h', tk, nw, e, F, N, off, hS, hr'⟩ := h
  exact ⟨h', tk, nw, e, F, N, off, hS, hr _ _ hr'⟩
theorem rest_ind {elt : Expr} {x : Str} {scope : Scope} {cl : List (Str × Addr)} {S : List (Addr × Obj) → Prop} {P : Nat → Value → Prop} {Fin : List Value → List (Addr × Obj) → Prop} (Inv : Nat → List Value → List (Addr × Obj) → Prop) (n : Nat)
    (step : ∀ i ys nw, i < n → Inv i ys nw → ∀ v I oI C oC D m₂ h tk (E' : Value → Shared → Prop), P i v → NsObj oC m₂ → m₂ x = some v → Fr h₀ L h m → News h₀ L h ((I, oI) :: (C, oC) :: (D, lst ys) :: nw) → Off3 I C D nw → ((@Ne Nat I C) ∧ (@Ne Nat I D) ∧ (@Ne Nat C D)) →
      wpAny (model prog w) A (eval elt (compEnvC scope cl C env)) (CompEnd h₀ L m { s with heap := h, toks := tk } I oI C oC D (lst ys) S (fun y nw' => Inv (i + 1) (ys ++ [y]) nw')) E' { s with heap := h, toks := tk })
    (done : ∀ ys nw, Inv n ys nw → Fin ys nw) :
    ∀ k i ys nw, k + i = n → Inv i ys nw → CompRest prog w A h₀ L m env elt x scope cl s S P Fin k i ys nw := by
  intro k
  induction k with
  | zero => intro i ys nw hi h; exact CompRest.zero (done ys nw ((Nat.zero_add i).symm.trans hi ▸ h))
  | succ k ih =>
    intro i ys nw hi h
    refine CompRest.succ fun v I oI C oC D m₂ h' tk E' hP hC hx F N off ne => ?_
    exact wpAny_mono (step i ys nw (by omega) h v I oI C oC D m₂ h' tk E' hP hC hx F N off ne) (fun y s₂ r => CompEnd.mono (fun y nw hr => ih (i + 1) _ _ (by omega) hr) r) fun _ _ e => e

theorem sub3 {α : Type} {A B C : α} {tl nw : List α} : ∀ p ∈ A :: B :: C :: (tl ++ nw), p ∈ tl ++ (A :: B :: C :: nw) := by
  intro p hp
  simp only [List.mem_cons, List.mem_append] at hp ⊢
  rcases hp with h | h | h | h | h <;> simp [h]
end
end Mine

end
section
open PySem PySem.W PyProof.Rows
namespace Mine
mutual
noncomputable def T.map (g : Int → Int) : T → T
  | .v k => .v (g k)
  | .c b k => .c b k
  | .s f l => .s f (mapT g l)
noncomputable def mapT (g : Int → Int) : List T → List T
  | [] => []
  | t :: r => t.map g :: mapT g r
end
mutual
noncomputable def T.dep : T → Nat
  | .v _ => 0
  | .c _ _ => 0
  | .s _ l => depT l + 1
noncomputable def depT : List T → Nat
  | [] => 0
  | t :: r => max t.dep (depT r)
end
mutual
noncomputable def T.ok : T → Prop
  | .v _ => True
  | .c _ _ => True
  | .s _ l => 1 ≤ l.length ∧ l.length ≤ 3 ∧ okT l
noncomputable def okT : List T → Prop
  | [] => True
  | t :: r => t.ok ∧ okT r
end
theorem dep_mem {t : T} : ∀ {l : List T}, t ∈ l → t.dep ≤ depT l
  | x :: r, h => by
    rw [depT]
    rcases List.mem_cons.mp h with rfl | h
    · exact Nat.le_max_left _ _
    · exact Nat.le_trans (dep_mem h) (Nat.le_max_right _ _)
theorem ok_mem {t : T} : ∀ {l : List T}, t ∈ l → okT l → t.ok
  | x :: r, h, k => by
    rw [okT] at k
    rcases List.mem_cons.mp h with rfl | h
    · exact k.1
    · exact ok_mem h k.2
theorem okT_append : ∀ {l r : List T}, okT l → okT r → okT (l ++ r)
  | [], _, _, h => h
  | t :: l, r, h, k => by rw [okT] at h; rw [List.cons_append, okT]; exact ⟨h.1, okT_append h.2 k⟩
theorem depT_append : ∀ (l r : List T), depT (l ++ r) = max (depT l) (depT r)
  | [], r => by rw [List.nil_append, depT, Nat.zero_max]
  | t :: l, r => by rw [List.cons_append, depT, depT, depT_append l r, Nat.max_assoc]
theorem mapT_eq (g : Int → Int) : ∀ l : List T, mapT g l = l.map (T.map g)
  | [] => rfl
  | t :: r => by rw [mapT, mapT_eq g r, List.map_cons]
theorem TAll.get {im : List (Addr × Obj)} : ∀ {vs : List Value} {l : List T} {i : Nat} {v : Value}, TAll im vs l → vs[i]? = some v → ∃ t, l[i]? = some t ∧ TIn im v t
  | _, [], i, v, h, e => by rw [all_nil h] at e; simp at e
  | _, t :: r, i, v, h, e => by
    obtain ⟨v₀, vs', rfl, h1, h2⟩ := all_cons h
    cases i with
    | zero => simp at e; subst e; exact ⟨t, rfl, h1⟩
    | succ i => simp at e; obtain ⟨t', e', h'⟩ := TAll.get h2 e; exact ⟨t', by simpa using e', h'⟩
theorem TAll.snoc {im : List (Addr × Obj)} {vs : List Value} {l : List T} {v : Value} {t : T} (h : TAll im vs l) (k : TIn im v t) : TAll im (vs ++ [v]) (l ++ [t]) := by
  unfold TAll; rw [datsT_append]; exact DatAll.append h (.cons k .nil)

/-- what a call lays above a ledger: tuples alone, all newer -/
noncomputable def Ext (news tl : List (Addr × Obj)) : Prop := (∀ p ∈ tl, p.2.cls = .type "tuple") ∧ ∀ q ∈ news, ∀ p ∈ tl, q.1 < p.1
theorem Ext.nil {news : List (Addr × Obj)} : Ext news [] := ⟨fun _ h => (nomatch h), fun _ _ _ h => (nomatch h)⟩
theorem Ext.append {news tl tl' : List (Addr × Obj)} (a : Ext news tl) (b : Ext (tl ++ news) tl') : Ext news (tl' ++ tl) :=
  ⟨fun p hp => (List.mem_append.mp hp).elim (b.1 p) (a.1 p), fun q hq p hp => (List.mem_append.mp hp).elim (b.2 q (List.mem_append_right _ hq) p) (a.2 q hq p)⟩
theorem Ext.sub {A B tl : List (Addr × Obj)} (a : Ext A tl) (h : ∀ p ∈ B, p ∈ A) : Ext B tl := ⟨a.1, fun q hq => a.2 q (h q hq)⟩
theorem Ext.adr {A B tl : List (Addr × Obj)} (a : Ext A tl) (h : ∀ p ∈ B, ∃ q ∈ A, q.1 = p.1) : Ext B tl := ⟨a.1, fun q hq p hp => by obtain ⟨q', h1, h2⟩ := h q hq; rw [← h2]; exact a.2 q' h1 p hp⟩
theorem Ext.cons {news tl : List (Addr × Obj)} {a : Addr} {o : Obj} (x : Ext news tl) (hc : o.cls = .type "tuple") (hl : ∀ q ∈ news, q.1 < a) : Ext news ((a, o) :: tl) :=
  ⟨fun p hp => by rcases List.mem_cons.mp hp with rfl | hp; exact hc; exact x.1 p hp, fun q hq p hp => by rcases List.mem_cons.mp hp with rfl | hp; exact hl q hq; exact x.2 q hq p hp⟩
theorem Ext.off {news tl : List (Addr × Obj)} {a : Addr} {o : Obj} (x : Ext news tl) (h : (a, o) ∈ news) : ∀ p ∈ tl, p.1 ≠ a := fun p hp => Nat.ne_of_gt (x.2 _ h p hp)

/-- a dict of ints by ints -/
noncomputable def DictIs (prog : Program) (w : World) (o : Obj) (ps : List (Int × Int)) : Prop := ∃ kvs, o.IsDictOf (PySem.intKind prog w) kvs ∧ PyProof.V.FlatPairs PyData.int kvs (ps.map fun p => (PyData.int p.1, PyData.int p.2))
end Mine

end
section
open PySem PySem.Spec PySem.Calls PySem.W PyProof.Rows PyProof.V
namespace Mine
noncomputable abbrev enc2 (ps : List (Int × Int)) : List (PyData × PyData) := ps.map fun p => (PyData.int p.1, PyData.int p.2)
noncomputable def put (k v : Int) (ps : List (Int × Int)) : List (Int × Int) :=
  if ps.any (fun p => decide (p.1 = k)) then ps.map (fun p => if p.1 = k then (p.1, v) else p) else ps ++ [(k, v)]
theorem lookup_enc (k : Int) : ∀ ps : List (Int × Int), lookup (.int k) (enc2 ps) = (ps.lookup k).map PyData.int
  | [] => rfl
  | (a, b) :: r => by
    have ih := lookup_enc k r
    show (if PySem.Spec.same (PyData.int a) (PyData.int k) then some (PyData.int b) else lookup (.int k) (enc2 r)) = _
    rw [same_int, List.lookup_cons]
    by_cases h : a = k
    · subst h; simp
    · have h' : (k == a) = false := by simpa using fun e => h e.symm
      rw [h', if_neg (by simpa using h), ih]
theorem putD_enc (k v : Int) (ps : List (Int × Int)) : putD (.int k) (.int v) (enc2 ps) = enc2 (put k v ps) := by
  unfold putD put enc2
  have e : (ps.map fun p => (PyData.int p.1, PyData.int p.2)).any (fun p => PySem.Spec.same p.1 (PyData.int k)) = ps.any (fun p => decide (p.1 = k)) := by
    rw [List.any_map]; exact congrArg (fun f => List.any ps f) (funext fun p => same_int p.1 k)
  rw [e]
  cases h : ps.any (fun p => decide (p.1 = k)) with
  | false => simp
  | true =>
    simp only [if_true, List.map_map]
    congr 1
    funext p
    show (if PySem.Spec.same (PyData.int p.1) (PyData.int k) = true then (PyData.int p.1, PyData.int v) else (PyData.int p.1, PyData.int p.2)) = _
    rw [same_int]
    by_cases hp : p.1 = k <;> simp [hp]
section
variable {prog : Program} {w : World} {A : Around} {E : Value → Shared → Prop} {s : Shared} {h₀ : Heap} {L d : Addr} {m : Str → Option Value} {news : List (Addr × Obj)} {g : Obj → List (Addr × Obj)} {o : Obj} {ps : List (Int × Int)} {k j : Int} {t t2 : Tok}
theorem DictIs.tab {h : Heap} (N : News h₀ L h news) (hm : (d, o) ∈ news) (lo : (d == sysModules) = false) (ho : DictIs prog w o ps) : IntTab prog w h d (enc2 ps) :=
  let ⟨_, a, b⟩ := ho; TabAt.ofNews N hm lo a b
theorem t_item {value slice : Expr} {a : Addr} {vs : List Value} {n : Nat} {k : Int} {u : Tok} {j : Nat} {v : Value} {Q : Value → Shared → Prop} (N : News h₀ L s.heap news) (hm : (a, tupN vs n) ∈ news) (hlo : -(2 ^ 63) ≤ k) (hhi : k < 2 ^ 63) (hj : seqIndex? k vs.length = some j) (hx : vs[j]? = some v) (h : Q v s)
    (hs : subscripted slice false (.ref a) (.int k u) = operate [.ref a, .int k u] (getItem (.ref a) (.int k u)) := by with_unfolding_all rfl) :
    wpAny (model prog w) A (subscriptTail value slice (.ref a) (.int k u)) Q E s := item_tupleT (News.isTup N hm) hlo hhi (by simpa using hj) (by simpa using hx) h hs
theorem t_tupleOf {l : Addr} {ys : List Value} {n : Nat} {Q : Value → Shared → Prop} (F : Fr h₀ L s.heap m) (N : News h₀ L s.heap news) (hm : (l, listOf ys.toArray n) ∈ news) (hz : ys.length ≤ 1000)
    (h : ∀ D h', Fr h₀ L h' m → News h₀ L h' ((D, tupN ys 0) :: news) → (∀ p ∈ news, p.1 < D) → Q (.ref D) { s with heap := h' }) : wpAny (model prog w) A (call (.type "tuple") [.ref l]) Q E s :=
  kde_tupleOf F N (News.isList N hm) (by rw [List.size_toArray]; omega) rfl h
theorem news_v {h : Heap} {x y : Addr × Obj} {r : List (Addr × Obj)} (N : News h₀ L h (x :: y :: r)) : News h₀ L h (x :: r) := fun p hp => N p (by
  rcases List.mem_cons.mp hp with h | h
  · subst h; exact .head _
  · exact .tail _ (.tail _ h))
theorem news_s {h : Heap} {x y z c : Addr × Obj} {r tl : List (Addr × Obj)} (N : News h₀ L h (x :: y :: z :: (tl ++ c :: r))) : News h₀ L h (x :: y :: (tl ++ r)) := fun p hp => N p (by
  simp only [List.mem_cons, List.mem_append] at hp ⊢
  rcases hp with h | h | h | h <;> simp [h])
theorem t_newTuple {vs : List Value} {Q : Value → Shared → Prop} (F : Fr h₀ L s.heap m) (N : News h₀ L s.heap news) (hz : vs.length ≤ 1000)
    (h : ∀ D h', Fr h₀ L h' m → News h₀ L h' ((D, tupN vs 0) :: news) → (∀ p ∈ news, p.1 < D) → Q (.ref D) { s with heap := h' }) : wpAny (model prog w) A (newTuple vs) Q E s :=
  newTuple_N F N (fun h' F' N' => h _ h' F' N' fun p hp => Heap.lt_size (N p hp).1) (by rw [sizeLine_eq]; omega)
theorem t_newList {vs : List Value} {Q : Value → Shared → Prop} (F : Fr h₀ L s.heap m) (N : News h₀ L s.heap news) (hz : vs.length ≤ 1000)
    (h : ∀ D h', Fr h₀ L h' m → News h₀ L h' ((D, listOf vs.toArray 0) :: news) → (∀ p ∈ news, p.1 < D) → Q (.ref D) { s with heap := h' }) : wpAny (model prog w) A (newList vs) Q E s :=
  newList_N F N (fun h' F' N' => h _ h' F' N' fun p hp => Heap.lt_size (N p hp).1) (by rw [sizeLine_eq]; omega)
theorem d_meth {pl : Sem Bool} {Q : Value × List Value → Shared → Prop} (N : News h₀ L s.heap news) (hm : (d, o) ∈ news) (lo : (d == sysModules) = false) (ho : DictIs prog w o ps)
    (h : Q (.builtin "dict.get", [.ref d]) s) : wpAny (model prog w) A (getMethod (.ref d) "get" pl) Q E s := getMethod_intTab_get (ho.tab N hm lo) h
theorem d_get2 {Q : Value → Shared → Prop} (N : News h₀ L s.heap news) (hm : (d, o) ∈ news) (lo : (d == sysModules) = false) (ho : DictIs prog w o ps)
    (h : ∀ t', Q (.int ((ps.lookup k).getD j) t') { s with toks := s.toks + 1 }) : wpAny (model prog w) A (call (.builtin "dict.get") [.ref d, .int k t, .int j t2]) Q E s :=
  call_get2_intTab (ho.tab N hm lo) (Flat.int j t2) fun v hv => by
    rw [lookup_enc] at hv
    have e : ((ps.lookup k).map PyData.int).getD (.int j) = .int ((ps.lookup k).getD j) := by cases ps.lookup k <;> rfl
    rw [e] at hv
    obtain ⟨t', rfl⟩ := hv.int_inv
    exact h t'
theorem d_notin {Q : Value → Shared → Prop} (N : News h₀ L s.heap news) (hm : (d, o) ∈ news) (lo : (d == sysModules) = false) (ho : DictIs prog w o ps)
    (h : Q (.bool (!(ps.lookup k).isSome)) { s with toks := s.toks + 1 }) : wpAny (model prog w) A (compareOp .NotIn (.int k t) (.ref d)) Q E s :=
  notin_intTab (ho.tab N hm lo) (by rw [lookup_enc, Option.isSome_map]; exact h)
theorem d_item {value slice : Expr} {Q : Value → Shared → Prop} (N : News h₀ L s.heap news) (hm : (d, o) ∈ news) (lo : (d == sysModules) = false) (ho : DictIs prog w o ps) (hl : ps.lookup k = some j)
    (h : ∀ t', Q (.int j t') { s with toks := s.toks + 1 })
    (hs : subscripted slice false (.ref d) (.int k t) = operate [.ref d, .int k t] (getItem (.ref d) (.int k t)) := by with_unfolding_all rfl) (hg : ∀ r, letTemporaryGo value (.ref d) r = pure () := by intro _; with_unfolding_all rfl) :
    wpAny (model prog w) A (subscriptTail value slice (.ref d) (.int k t)) Q E s :=
  item_intTab (ho.tab N hm lo) (dv := .int j) (by rw [lookup_enc, hl]; rfl) (fun v hv => by obtain ⟨t', rfl⟩ := hv.int_inv; exact h t') hs hg
theorem d_len {Q : Value → Shared → Prop} (N : News h₀ L s.heap news) (hm : (d, o) ∈ news) (lo : (d == sysModules) = false) (ho : DictIs prog w o ps) (hz : ps.length ≤ 1000)
    (h : Q (.int ps.length (s.toks + 1)) { s with toks := s.toks + 1 + 1 }) : wpAny (model prog w) A (call (.builtin "len") [.ref d]) Q E s :=
  len_tab (ho.tab N hm lo) (by rw [List.length_map]; omega) (by rw [List.length_map]; exact h)
theorem d_set {Q : Unit → Shared → Prop} (F : Fr h₀ L s.heap m) (N : News h₀ L s.heap news) (U : UpdF d o news g) (ho : DictIs prog w o ps) (hz : ps.length ≤ 1000)
    (h : ∀ h' o', Fr h₀ L h' m → News h₀ L h' (g o') → DictIs prog w o' (put k j ps) → Q () { s with heap := h', toks := s.toks + 1 }) :
    wpAny (model prog w) A (setItem (.ref d) (.int k t) (.int j t2)) Q E s := by
  obtain ⟨kvs, a, b⟩ := ho
  refine setItem_K same_int (intKind_is prog w k t) (Flat.int j t2) F N U a b (fun h' o' F' N' a' b' => h h' o' F' N' ⟨_, a', ?_⟩) (by rw [List.length_map, sizeLine_eq]; omega)
  rw [putD_enc] at b'
  exact b'
end
end Mine

end
section
open PySem PySem.Spec PySem.Calls PySem.W PyProof.Rows
namespace Mine
section
variable {prog : Program} {w : World} {A : Around} {E : Value → Shared → Prop} {s : Shared} {env : Env} {h₀ : Heap} {x : Str} {body : List Stmt} {Q : Flow → Shared → Prop}

noncomputable def ItEnd (h₀ : Heap) (L : Addr) (J : (Str → Option Value) → List (Addr × Obj) → Prop) (I : Addr) (oI : Obj) (s₁ s₂ : Shared) : Prop :=
  ∃ h' tk m' nx, s₂ = { s₁ with heap := h', toks := tk } ∧ Fr h₀ L h' m' ∧ News h₀ L h' ((I, oI) :: nx) ∧ (∀ p ∈ nx, p.1 ≠ I) ∧ J m' nx
noncomputable def ItPost (h₀ : Heap) (L : Addr) (J : (Str → Option Value) → List (Addr × Obj) → Prop) (I : Addr) (oI : Obj) (s₁ : Shared) (Q : Flow → Shared → Prop) (f : Flow) (s₂ : Shared) : Prop :=
  match f with
  | .ret v => Q (.ret v) s₂
  | .brk => Q .next s₂
  | _ => ItEnd h₀ L J I oI s₁ s₂
theorem ItEnd.intro {L : Addr} {J : (Str → Option Value) → List (Addr × Obj) → Prop} {I : Addr} {oI : Obj} {s₁ : Shared} {h' : Heap} {tk : Nat} {m' : Str → Option Value} {all nx : List (Addr × Obj)} (F : Fr h₀ L h' m') (N : News h₀ L h' all) (sub : ∀ p ∈ (I, oI) :: nx, p ∈ all) (off : ∀ p ∈ nx, p.1 ≠ I) (hJ : J m' nx) :
    ItEnd h₀ L J I oI s₁ { s₁ with heap := h', toks := tk } := ⟨h', tk, m', nx, rfl, F, fun p hp => N p (sub p hp), off, hJ⟩

theorem iter_core {I : Addr} {src news : List (Addr × Obj)} {n : Nat} {P : Nat → Value → Prop} {St : Nat → Heap → Prop} {m₀ : Str → Option Value} (J : Nat → (Str → Option Value) → List (Addr × Obj) → Prop)
    (W : Walks prog w A I (I :: src.map (·.1)) [I] n P St) (hI₀ : h₀.get? I = none) (hIL : env.locals ≠ I) (hIo : ∀ i h, St i h → ∃ o, h.get? I = some o) (hst : St 0 s.heap)
    (F : Fr h₀ env.locals s.heap m₀) (N : News h₀ env.locals s.heap news) (off : ∀ p ∈ news, p.1 ≠ I) (hJm : ∀ i m nx, J i m nx → ∀ p ∈ src, p ∈ nx) (hj : J 0 m₀ news)
    (turn : ∀ i v m₁ nx h tk oI, i < n → P i v → J i m₁ nx → (∀ p ∈ nx, p.1 ≠ I) → Fr h₀ env.locals h (fun y => if y = x then some v else m₁ y) → News h₀ env.locals h ((I, oI) :: nx) →
      wpAny (model prog w) A (execs body env) (ItPost h₀ env.locals (J (i + 1)) I oI { s with heap := h, toks := tk } Q) E { s with heap := h, toks := tk })
    (done : ∀ m₁ nx h tk, J n m₁ nx → Fr h₀ env.locals h m₁ → News h₀ env.locals h nx → Q .next { s with heap := h, toks := tk }) :
    LoopAtV prog w A h₀ env x body Q E (.ref I) s := by
  refine ⟨I, I :: src.map (·.1), [I], n, P, St, m₀, news, J, rfl, W, ?_, ?_, ?_, hst, F, N, hj, ?_, ?_⟩
  · intro hm
    rcases List.mem_cons.mp hm with e | hm
    · exact hIL e
    · obtain ⟨p, hp, e⟩ := List.mem_map.mp hm
      exact (N p (hJm _ _ _ hj p hp)).2.1 e
  · intro b hb; rw [List.mem_singleton.mp hb]; exact hI₀
  · intro p hp hb; exact off p hp (List.mem_singleton.mp hb)
  · rintro i v m₁ news₁ s₁ own ⟨hh', tk', rfl⟩ hin hP hJ hoff hown hget hfp hst₁ F₁ N₁
    obtain ⟨oI, heI⟩ := hIo _ _ hst₁
    have hoff' : ∀ p ∈ news₁, p.1 ≠ I := fun p hp e => hoff p hp (List.mem_singleton.mpr e)
    have N₂ : News h₀ env.locals hh' ((I, oI) :: news₁) := fun p hp => by
      rcases List.mem_cons.mp hp with rfl | hp
      · exact ⟨heI, Ne.symm hIL, hI₀⟩
      · exact N₁ p (List.mem_append_right _ hp)
    have hsrc₁ := hJm _ _ _ hJ
    refine wpAny_mono (turn i v m₁ news₁ hh' tk' oI hin hP hJ hoff' F₁ N₂) (fun f s₂ p => ?_) fun _ _ e => e
    have fin : ItEnd h₀ env.locals (J (i + 1)) I oI { s with heap := hh', toks := tk' } s₂ → LoopStepU h₀ env.locals [I] own (J (i + 1)) { s with heap := hh', toks := tk' } .next s₂ := by
      rintro ⟨h', tk, m', nx, e, F', N', hn, hm⟩
      refine ⟨rfl, h', tk, m', nx, e, F', fun p hp => ?_, fun p hp hb => hn p hp (List.mem_singleton.mp hb), hm⟩
      rcases List.mem_append.mp hp with hp | hp
      · have hg : hh'.get? p.1 = some p.2 := hget p hp
        rcases List.mem_cons.mp (hown p hp) with h1 | h1
        · rw [h1, heI] at hg
          have : p = (I, oI) := Prod.ext h1 (Option.some.inj hg).symm
          rw [this]; exact N' _ (.head _)
        · obtain ⟨q, hq, e1⟩ := List.mem_map.mp h1
          have hq1 := (N₂ q (.tail _ (hsrc₁ q hq))).1
          rw [e1, hg] at hq1
          have : p = q := Prod.ext e1.symm (Option.some.inj hq1)
          rw [this]; exact N' q (.tail _ (hJm _ _ _ hm q hq))
      · exact N' p (.tail _ hp)
    cases f with
    | ret v => exact .ret p
    | brk => exact .brk p
    | next => exact .next (fin p)
    | cont => exact .cont (fin p)
  · rintro h' tk m' news' F' N' _ hJ
    exact done m' news' h' tk hJ F' N'

theorem iter_tup {ax : Addr} {vs : List Value} {n : Nat} {news : List (Addr × Obj)} {m₀ : Str → Option Value} (J : Nat → (Str → Option Value) → List (Addr × Obj) → Prop) (hh : A.handled = none)
    (F : Fr h₀ env.locals s.heap m₀) (N : News h₀ env.locals s.heap news) (hm : (ax, tupN vs n) ∈ news) (hJm : ∀ i m nx, J i m nx → (ax, tupN vs n) ∈ nx) (hj : J 0 m₀ news)
    (turn : ∀ i v m₁ nx I h tk oI, vs[i]? = some v → J i m₁ nx → (∀ p ∈ nx, p.1 ≠ I) → Fr h₀ env.locals h (fun y => if y = x then some v else m₁ y) → News h₀ env.locals h ((I, oI) :: nx) →
      wpAny (model prog w) A (execs body env) (ItPost h₀ env.locals (J (i + 1)) I oI { s with heap := h, toks := tk } Q) E { s with heap := h, toks := tk })
    (done : ∀ m₁ nx h tk, J vs.length m₁ nx → Fr h₀ env.locals h m₁ → News h₀ env.locals h nx → Q .next { s with heap := h, toks := tk }) :
    wpAny (model prog w) A (pyIter (.ref ax)) (fun it s₂ => LoopAtV prog w A h₀ env x body Q E it s₂) E s := by
  have hl := tup_of_news N hm
  have hlt : ax < s.heap.objs.size := Heap.lt_size (N _ hm).1
  refine wpAny_pyIter_tuple hl ?_
  have up : ∀ b o, s.heap.get? b = some o → (s.heap.push { cls := .type "tuple_iterator", data := .fields #[.ref ax, .int 0 0] }).get? b = some o := fun b o e => Heap.get?_push_of_some _ e
  have W := Walks.tuple (prog := prog) (w := w) hh s.heap.objs.size ax (Nat.ne_of_lt hlt) vs.toArray
  have W' : Walks prog w A s.heap.objs.size (s.heap.objs.size :: [(ax, tupN vs n)].map (·.1)) [s.heap.objs.size] vs.length (fun i v => vs[i]? = some v) (fun i h => h.IsTupleIter s.heap.objs.size ax i ∧ h.IsTuple ax vs.toArray) := by
    simpa using W
  exact iter_core J W' (next_is_new F) (Nat.ne_of_lt F.ns.lt) (fun i h st => by obtain ⟨o, e, _⟩ := st.1; exact ⟨o, e⟩) ⟨⟨_, Heap.get?_push_size _ rfl, rfl, rfl⟩, hl.at fun o e => up _ _ e⟩
    (F.push _) (N.grown up) (fun p hp => Nat.ne_of_lt (Heap.lt_size (N p hp).1)) (fun i m nx hJ p hp => by rw [List.mem_singleton.mp hp]; exact hJm i m nx hJ) hj
    (fun i v m₁ nx h tk oI _ hP hJ ho F' N' => turn i v m₁ nx _ h tk oI hP hJ ho F' N') (fun m₁ nx h tk hJ F' N' => done m₁ nx h tk hJ F' N')

theorem iter_list {ax : Addr} {vs : List Value} {n : Nat} {news : List (Addr × Obj)} {m₀ : Str → Option Value} (J : Nat → (Str → Option Value) → List (Addr × Obj) → Prop) (hh : A.handled = none)
    (F : Fr h₀ env.locals s.heap m₀) (N : News h₀ env.locals s.heap news) (hm : (ax, listOf vs.toArray n) ∈ news) (hJm : ∀ i m nx, J i m nx → (ax, listOf vs.toArray n) ∈ nx) (hj : J 0 m₀ news)
    (turn : ∀ i v m₁ nx I h tk oI, vs[i]? = some v → J i m₁ nx → (∀ p ∈ nx, p.1 ≠ I) → Fr h₀ env.locals h (fun y => if y = x then some v else m₁ y) → News h₀ env.locals h ((I, oI) :: nx) →
      wpAny (model prog w) A (execs body env) (ItPost h₀ env.locals (J (i + 1)) I oI { s with heap := h, toks := tk } Q) E { s with heap := h, toks := tk })
    (done : ∀ m₁ nx h tk, J vs.length m₁ nx → Fr h₀ env.locals h m₁ → News h₀ env.locals h nx → Q .next { s with heap := h, toks := tk }) :
    wpAny (model prog w) A (pyIter (.ref ax)) (fun it s₂ => LoopAtV prog w A h₀ env x body Q E it s₂) E s := by
  have hl : s.heap.IsList ax vs.toArray := News.isList N hm
  have hlt : ax < s.heap.objs.size := Heap.lt_size (N _ hm).1
  refine wpAny_pyIter_list hl ?_
  have up : ∀ b o, s.heap.get? b = some o → (s.heap.push { cls := .type "list_iterator", data := .fields #[.ref ax, .int 0 0] }).get? b = some o := fun b o e => Heap.get?_push_of_some _ e
  have W := Walks.list (prog := prog) (w := w) hh s.heap.objs.size ax (Nat.ne_of_lt hlt) vs.toArray
  have W' : Walks prog w A s.heap.objs.size (s.heap.objs.size :: [(ax, listOf vs.toArray n)].map (·.1)) [s.heap.objs.size] vs.length (fun i v => vs[i]? = some v) (fun i h => h.IsListIter s.heap.objs.size ax i ∧ h.IsList ax vs.toArray) := by
    simpa using W
  exact iter_core J W' (next_is_new F) (Nat.ne_of_lt F.ns.lt) (fun i h st => by obtain ⟨o, e, _⟩ := st.1; exact ⟨o, e⟩) ⟨⟨_, Heap.get?_push_size _ rfl, rfl, rfl⟩, hl.at fun o e => up _ _ e⟩
    (F.push _) (N.grown up) (fun p hp => Nat.ne_of_lt (Heap.lt_size (N p hp).1)) (fun i m nx hJ p hp => by rw [List.mem_singleton.mp hp]; exact hJm i m nx hJ) hj
    (fun i v m₁ nx h tk oI _ hP hJ ho F' N' => turn i v m₁ nx _ h tk oI hP hJ ho F' N') (fun m₁ nx h tk hJ F' N' => done m₁ nx h tk hJ F' N')

theorem iter_range {r : Addr} {b : Int} {t u v' : Tok} {n : Nat} {news : List (Addr × Obj)} {m₀ : Str → Option Value} (J : Nat → (Str → Option Value) → List (Addr × Obj) → Prop) (hh : A.handled = none)
    (F : Fr h₀ env.locals s.heap m₀) (N : News h₀ env.locals s.heap news) (hr : IsRange s.heap r 0 b 1 t u v') (hsm : Builtin.Range.small 0 b 1 = true) (hn : Builtin.Range.rangeSize 0 b 1 = ((n : Nat) : Int)) (hj : J 0 m₀ news)
    (turn : ∀ (i : Nat) t m₁ nx I h tk oI, i < n → J i m₁ nx → (∀ p ∈ nx, p.1 ≠ I) → Fr h₀ env.locals h (fun y => if y = x then some (.int (i : Int) t) else m₁ y) → News h₀ env.locals h ((I, oI) :: nx) →
      wpAny (model prog w) A (execs body env) (ItPost h₀ env.locals (J (i + 1)) I oI { s with heap := h, toks := tk } Q) E { s with heap := h, toks := tk })
    (done : ∀ m₁ nx h tk, J n m₁ nx → Fr h₀ env.locals h m₁ → News h₀ env.locals h nx → Q .next { s with heap := h, toks := tk }) :
    wpAny (model prog w) A (pyIter (.ref r)) (fun it s₂ => LoopAtV prog w A h₀ env x body Q E it s₂) E s := by
  refine wpAny_pyIter_range hr hsm ?_
  have W' : Walks prog w A s.heap.objs.size (s.heap.objs.size :: ([] : List (Addr × Obj)).map (·.1)) [s.heap.objs.size] n (fun i v => ∃ t, v = .int ((0 : Int) + (i : Int)) t) (fun i h => IsRangeIter h s.heap.objs.size ((0 : Int) + (i : Nat) * 1) ((n : Int) - (i : Nat)) 1) := by
    simpa using PyProof.Rows.LCg.range_walks (prog := prog) (w := w) (A := A) (I := s.heap.objs.size) hh 0 n
  exact iter_core J W' (next_is_new F) (Nat.ne_of_lt F.ns.lt) (fun i h st => ⟨_, st⟩) (by show IsRangeIter _ _ _ _ _; rw [hn]; simpa using Heap.get?_push_size _ rfl)
    (F.push _) (N.grown fun _ _ e => Heap.get?_push_of_some _ e) (fun p hp => Nat.ne_of_lt (Heap.lt_size (N p hp).1)) (fun i m nx hJ p hp => nomatch hp) hj
    (fun i v m₁ nx h tk oI hi hP hJ ho F' N' => by obtain ⟨t, rfl⟩ := hP; rw [Int.zero_add] at F'; exact turn i t m₁ nx _ h tk oI hi hJ ho F' N') (fun m₁ nx h tk hJ F' N' => done m₁ nx h tk hJ F' N')
end
end Mine

end
section
open PySem PySem.Spec PySem.Calls PySem.W PyProof.Rows PyProof.V
namespace Mine
mutual
noncomputable def T.occ : T → List Int
  | .v k => [k]
  | .c _ _ => []
  | .s _ l => occT l
noncomputable def occT : List T → List Int
  | [] => []
  | t :: r => t.occ ++ occT r
end
noncomputable def nubL (acc ks : List Int) : List Int := ks.foldl (fun a k => if k ∈ a then a else a ++ [k]) acc
theorem occT_append : ∀ l r : List T, occT (l ++ r) = occT l ++ occT r
  | [], _ => rfl
  | t :: l, r => by rw [List.cons_append, occT, occT, occT_append l r, List.append_assoc]
theorem nubL_append (acc a b : List Int) : nubL acc (a ++ b) = nubL (nubL acc a) b := by unfold nubL; rw [List.foldl_append]
theorem nubL_length : ∀ (ks acc : List Int), (nubL acc ks).length ≤ acc.length + ks.length
  | [], acc => Nat.le_refl _
  | k :: r, acc => by
    show (nubL (if k ∈ acc then acc else acc ++ [k]) r).length ≤ _
    have h := nubL_length r (if k ∈ acc then acc else acc ++ [k])
    refine Nat.le_trans h ?_
    rw [List.length_cons]
    split
    · omega
    · rw [List.length_append, List.length_singleton]; omega
theorem occT_take {l : List T} {i : Nat} {t : T} (h : l[i]? = some t) : occT (l.take (i + 1)) = occT (l.take i) ++ t.occ := by
  rw [List.take_add_one, h, occT_append]; simp [occT]
theorem occT_take_le (l : List T) (i : Nat) : (occT (l.take i)).length ≤ (occT l).length := by
  have e : occT l = occT (l.take i) ++ occT (l.drop i) := by rw [← occT_append, List.take_append_drop]
  rw [e, List.length_append]; omega
section
variable {prog : Program} {w : World} {A : Around} {E : Value → Shared → Prop} {s : Shared} {h₀ : Heap} {L d : Addr} {m : Str → Option Value} {news news' : List (Addr × Obj)} {vs : List Value} {ns : List Int} {n : Nat} {k : Int} {t : Tok}
theorem ints_dat (im : List (Addr × Obj)) : ∀ {vs : List Value} {ns : List Int}, IntsAre vs ns → DatAll im vs (ns.map Dat.int)
  | _, _, .nil => .nil
  | _, _, .cons n t h => .cons (.int n t) (ints_dat im h)
theorem l_notin {Q : Value → Shared → Prop} (N : News h₀ L s.heap news) (hm : (d, listOf vs.toArray n) ∈ news) (hi : IntsAre vs ns) (hu : A.units + 64 < cLine) (h : Q (.bool (!decide (k ∈ ns))) s) :
    wpAny (model prog w) A (compareOp .NotIn (.int k t) (.ref d)) Q E s := by
  refine kqd_notIn (n₁ := []) (n₂ := []) (d := .int k) N hm rfl rfl (ints_dat [] hi) (fun p hp => nomatch hp) (.int k t) (fun p hp => nomatch hp) (fun d hd => by obtain ⟨x, _, rfl⟩ := List.mem_map.mp hd; rfl) rfl hu ?_
  have e : (Dat.int k ∈ ns.map Dat.int) ↔ k ∈ ns := by simp
  have e2 : ∀ b : Bool, (b = true ↔ k ∈ ns) → b = decide (k ∈ ns) := fun b hb => by
    by_cases hk : k ∈ ns
    · rw [decide_eq_true hk]; exact hb.mpr hk
    · rw [decide_eq_false hk]; exact Bool.eq_false_iff.mpr fun q => hk (hb.mp q)
  have e3 : ∀ (P : Prop) (i : Decidable P), (P ↔ k ∈ ns) → @decide P i = decide (k ∈ ns) := fun P i hP => e2 _ ((@decide_eq_true_iff P i).trans hP)
  rw [e3 _ _ e]
  exact h
theorem l_append {x : Value} {Q : Value → Shared → Prop} (F : Fr h₀ L s.heap m) (N : News h₀ L s.heap news) (U : Upd d (listOf vs.toArray n) (listOf (vs ++ [x]).toArray (n + 1)) news news') (hz : vs.length ≤ 1000)
    (h : ∀ h', Fr h₀ L h' m → News h₀ L h' news' → Q .none { s with heap := h' }) : wpAny (model prog w) A (call (.builtin "list.append") [.ref d, x]) Q E s := by
  refine append_K (its := vs.toArray) (n := n) F N ?_ h (by rw [List.size_toArray, sizeLine_eq]; omega)
  rw [show vs.toArray.push x = (vs ++ [x]).toArray from List.push_toArray _ _]
  exact U
end
end Mine

end
section
set_option maxRecDepth 100000
open PySem PySem.Spec PySem.Calls PySem.W PyProof.Rows
namespace Mine
namespace RV
theorem slot_next : Slot "reversed" "__next__" "reversed.__next__" :=
  .of (owner := "reversed") (n := "__next__") (by rw [typeLookup_type, builtinLookup_eq_fast]; kernel_rfl) (by decide +kernel) (by decide +kernel) (by decide +kernel)
    (by first | exact .inl (by decide +kernel) | exact .inr (by decide +kernel)) (by rw [isSubtype_type]; kernel_rfl)
theorem entry_next : entryFor table "reversed.__next__" = some Builtin.«reversed.__next__» := entryFor_of_tree (by kernel_rfl)
theorem owner_rv : Manifest.owners.lookup (String.ofList ['d', 'e', 's', 'r', 'e', 'v', 'e', 'r'].reverse) = some Manifest.sig_reversed := by kernel_rfl
theorem args_next_1 (a : Value) : argsOk "reversed.__next__" ⟨[a], []⟩ := by
  unfold argsOk; rw [signature?_of (id := "reversed.__next__") (n := ['_', '_', 't', 'x', 'e', 'n', '_', '_']) (o := ['d', 'e', 's', 'r', 'e', 'v', 'e', 'r']) (by kernel_rfl) owner_rv]; kernel_rfl
theorem slot_iter : Slot "reversed" "__iter__" "reversed.__iter__" :=
  .of (owner := "reversed") (n := "__iter__") (by rw [typeLookup_type, builtinLookup_eq_fast]; kernel_rfl) (by decide +kernel) (by decide +kernel) (by decide +kernel)
    (by first | exact .inl (by decide +kernel) | exact .inr (by decide +kernel)) (by rw [isSubtype_type]; kernel_rfl)
theorem args_iter_1 (a : Value) : argsOk "reversed.__iter__" ⟨[a], []⟩ := by
  unfold argsOk; rw [signature?_of (id := "reversed.__iter__") (n := ['_', '_', 'r', 'e', 't', 'i', '_', '_']) (o := ['d', 'e', 's', 'r', 'e', 'v', 'e', 'r']) (by kernel_rfl) owner_rv]; kernel_rfl
theorem entry_iter : entryFor table "reversed.__iter__" = some Builtin.«dict_keyiterator.__iter__» :=
  entryFor_alias (id' := "dict_keyiterator.__iter__") (by kernel_rfl) (by first | rfl | decide +kernel | (unfold String.splitOn; simp +decide [String.splitOnAux])) (by decide +kernel) (by kernel_rfl)
theorem slot_hint : Slot "reversed" "__length_hint__" "reversed.__length_hint__" :=
  .of (owner := "reversed") (n := "__length_hint__") (by rw [typeLookup_type, builtinLookup_eq_fast]; kernel_rfl) (by decide +kernel) (by decide +kernel) (by decide +kernel)
    (by first | exact .inl (by decide +kernel) | exact .inr (by decide +kernel)) (by rw [isSubtype_type]; kernel_rfl)
theorem entry_hint : entryFor table "reversed.__length_hint__" = some Builtin.«reversed.__length_hint__» := entryFor_of_tree (by kernel_rfl)
theorem args_hint_1 (a : Value) : argsOk "reversed.__length_hint__" ⟨[a], []⟩ := by
  unfold argsOk; rw [signature?_of (id := "reversed.__length_hint__") (n := ['_', '_', 't', 'n', 'i', 'h', '_', 'h', 't', 'g', 'n', 'e', 'l', '_', '_']) (o := ['d', 'e', 's', 'r', 'e', 'v', 'e', 'r']) (by kernel_rfl) owner_rv]; kernel_rfl
theorem slot_init : Slot "reversed" "__init__" "object.__init__" :=
  .of (owner := "object") (n := "__init__") (by rw [typeLookup_type, builtinLookup_eq_fast]; kernel_rfl) (by decide +kernel) (by decide +kernel) (by decide +kernel)
    (by first | exact .inl (by decide +kernel) | exact .inr (by decide +kernel)) (by rw [isSubtype_type]; kernel_rfl)
theorem no_len : typeLookup (.type "reversed") "__len__" = pure none := by rw [typeLookup_type, builtinLookup_eq_fast]; kernel_rfl
theorem no_rev : typeLookup (.type "tuple") "__reversed__" = pure none := by rw [typeLookup_type, builtinLookup_eq_fast]; kernel_rfl
theorem called : TypeCalled "reversed" "reversed.__new__" "object.__init__" :=
  ⟨by decide +kernel, by decide +kernel, ⟨_, _, PySem.F.mro_reversed⟩, PySem.F.made_reversed, by decide +kernel, PySem.F.sub_reversed_self, slot_init⟩
theorem sub_tuple_dict : isSubtype (.type "tuple") (.type "dict") = pure false := by rw [isSubtype_type]; kernel_rfl
theorem lri_no_len : typeLookup (.type "list_reverseiterator") "__len__" = pure none := by rw [typeLookup_type, builtinLookup_eq_fast]; kernel_rfl
theorem lri_hint : typeLookup (.type "list_reverseiterator") "__length_hint__" = pure (some (.builtin "list_reverseiterator.__length_hint__")) := by rw [typeLookup_type, builtinLookup_eq_fast]; kernel_rfl
theorem sub_lri_self : isSubtype (.type "list_reverseiterator") (.type "list_reverseiterator") = pure true := by rw [isSubtype_type]; kernel_rfl
end RV

end Mine

end
section
set_option maxRecDepth 100000
open PySem PySem.Spec PySem.Calls PySem.W PyProof.Rows
namespace Mine
noncomputable def rvObj (l : Addr) (i : Int) : Obj := { cls := .type "reversed", data := .fields #[.ref l, rawInt i] }
noncomputable def IsRv (h : Heap) (a l : Addr) (i : Int) : Prop := ∃ o, h.get? a = some o ∧ o.cls = .type "reversed" ∧ o.data = .fields #[.ref l, rawInt i]
section
variable {prog : Program} {w : World} {A : Around} {E : Value → Shared → Prop} {s : Shared}
theorem IsRv.typeIs {a l : Addr} {i : Int} (x : IsRv s.heap a l i) : s.TypeIs (.ref a) "reversed" := let ⟨o, ho, hc, _⟩ := x; ⟨o, ho, hc⟩
theorem IsRv.at {h h' : Heap} {a l : Addr} {i : Int} (x : IsRv h a l i) (e : ∀ o, h.get? a = some o → h'.get? a = some o) : IsRv h' a l i := let ⟨o, ho, r⟩ := x; ⟨o, e _ ho, r⟩

theorem rv_new_meets (l : Addr) (items : Array Value) :
    Meets (Builtin.«reversed.__new__» ⟨[.type "reversed", .ref l], []⟩) (fun _ R s => s.heap.IsTuple l items ∧ (items.size : Int) < 2 ^ 63 ∧
      ∀ tk, R (.ok (.ret (.ref s.heap.objs.size))) { s with heap := s.heap.push (rvObj l ((items.size : Int) - 1)), toks := tk }) :=
  .of_wp fun prog w A R s h => by
    obtain ⟨hl, hz, h⟩ := h
    unfold Builtin.«reversed.__new__»
    refine wpAny_bind (wpAny_of_eq (newClass_reversed _) ?_)
    try dsimp only
    refine wpAny_bind (wpAny_of_eq (a := ()) (by first | rfl | kernel_rfl) ?_)
    refine wpAny_bind (wpAny_of_eq (a := ()) (by first | rfl | kernel_rfl) ?_)
    try dsimp only
    refine wpAny_bind (wpAny_specialOf hl.typeIs RV.no_rev ?_)
    try dsimp only
    refine wpAny_bind ?_
    wp_delta
    refine wpAny_bind (wpAny_isInstance (T := "tuple") (b := false) hl.typeIs RV.sub_tuple_dict ?_)
    try dsimp only
    simp only [Bool.false_eq_true, if_false]
    refine wpAny_bind (wpAny_specialOf hl.typeIs PySem.F.slot_tuple_getitem.lookup ?_)
    try dsimp only
    rw [if_pos (by decide +kernel)]
    refine wpAny_pure ?_
    rw [if_neg (by decide)]
    have hl' : IsTup s.heap l items := hl
    refine wpAny_bind (len_tuple hl' hz ?_)
    refine wpAny_bind (m := asInt? _) (wpAny_pure ?_)
    dsimp only
    refine wpAny_bind ?_
    show wpAny _ A.in1 (newObj (.type "reversed") (.fields #[.ref l, rawInt ((items.size : Int) - 1)])) _ _ _
    refine wpAny_newObj_type ?_ (by size_fits)
    exact wpAny_pure ⟨_, rfl, h _⟩
theorem call_reversed_tuple {l : Addr} {items : Array Value} {Q : Value → Shared → Prop} (hl : s.heap.IsTuple l items) (hz : (items.size : Int) < 2 ^ 63)
    (h : ∀ tk, Q (.ref s.heap.objs.size) { s with heap := s.heap.push (rvObj l ((items.size : Int) - 1)), toks := tk }) : wpAny (model prog w) A (call (.type "reversed") [.ref l]) Q E s :=
  callType_new RV.called (by decide) (PySem.F.typeCall_reversed_1 _) (PySem.F.newCall_reversed_1 _) (fun obj => PySem.F.args_object_init_2 obj _) PySem.F.entry_reversed_new (rv_new_meets l items)
    ⟨hl, hz, fun tk => ⟨⟨_, Heap.get?_push_size _ rfl, rfl⟩, h tk⟩⟩

theorem rv_next_item {it l : Addr} {i : Nat} {items : Array Value} {x : Value} {Q : Option Value → Shared → Prop} (hit : IsRv s.heap it l (i : Int)) (hl : s.heap.IsTuple l items) (hz : (items.size : Int) < 2 ^ 63) (hx : items[i]? = some x)
    (hQ : ∀ h' tk, IsRv h' it l ((i : Int) - 1) → Heap.SameBut it s.heap h' → Q (some x) { s with heap := h', toks := tk }) : wpAny (model prog w) A (pyNext (.ref it)) Q E s := by
  obtain ⟨o, ho, hc, hd⟩ := id hit
  unfold pyNext
  refine wpAny_bind (wpAny_attempt (wpAny_callSpecial?_slot (name := Str.ofString "__next__") hit.typeIs RV.slot_next
    (wpAny_call_entry RV.slot_next hit.typeIs RV.entry_next ?_ (RV.args_next_1 _))))
  unfold Builtin.«reversed.__next__»
  refine wpAny_bind (wpAny_of_eq (a := (Value.ref it, [])) rfl ?_)
  try dsimp only
  refine wpAny_bind (wpAny_field ho hd (x := .ref l) rfl ?_)
  refine wpAny_bind (wpAny_field ho hd (x := rawInt (i : Int)) rfl ?_)
  show wpAny _ _ (if (i : Int) < 0 then _ else _) _ _ s
  rw [if_neg (by omega)]
  show wpAny _ _ (specialOf (.ref l) (Str.ofString "__getitem__") >>= _) _ _ s
  refine wpAny_bind (wpAny_specialOf hl.typeIs PySem.F.slot_tuple_getitem.lookup ?_)
  try dsimp only
  rw [if_neg (by decide)]
  have hi : i < items.size := by
    rcases Nat.lt_or_ge i items.size with h | h
    · exact h
    · rw [Array.getElem?_eq_none h] at hx; cases hx
  have hl' : IsTup s.heap l items := hl
  refine wpAny_bind (wpAny_mkInt ?_)
  refine wpAny_bind (wpAny_attempt (getItem_tuple (j := i) (x := x) hl' (by omega) (by omega) (by simp only [seqIndex?]; rw [if_neg (show ¬ ((i : Int) < 0) by omega)]; simp [hi]) hx ?_))
  try dsimp only
  refine wpAny_bind (wpAny_field (s := { s with toks := s.toks + 1 }) ho hd (x := rawInt (i : Int)) rfl ?_)
  try dsimp only
  refine wpAny_bind (wpAny_setField (s := { s with toks := s.toks + 1 }) ho hd (by simp) ?_)
  refine wpAny_pure ⟨x, rfl, wpAny_pure (hQ _ _ ?_ (Heap.SameBut.update ..))⟩
  exact ⟨_, Heap.get?_update_self _ ho (Obj.isFreed_of_fields (Obj.data_mapFields hd _)), (Obj.cls_mapFields ..).trans hc, by
    rw [Obj.data_mapFields hd]; simp⟩

theorem rv_next_end {it l : Addr} {Q : Option Value → Shared → Prop} (hh : A.handled = none) (hit : IsRv s.heap it l (-1))
    (hQ : ∀ h' tk, Heap.ExtBut it s.heap h' → Q none { s with heap := h', toks := tk }) : wpAny (model prog w) A (pyNext (.ref it)) Q E s := by
  obtain ⟨o, ho, hc, hd⟩ := id hit
  unfold pyNext
  refine wpAny_bind (wpAny_attempt (wpAny_callSpecial?_slot (name := Str.ofString "__next__") hit.typeIs RV.slot_next
    (wpAny_call_entry RV.slot_next hit.typeIs RV.entry_next ?_ (RV.args_next_1 _))))
  unfold Builtin.«reversed.__next__»
  refine wpAny_bind (wpAny_of_eq (a := (Value.ref it, [])) rfl ?_)
  try dsimp only
  refine wpAny_bind (wpAny_field ho hd (x := .ref l) rfl ?_)
  refine wpAny_bind (wpAny_field ho hd (x := rawInt (-1)) rfl ?_)
  show wpAny _ _ (if (-1 : Int) < 0 then _ else _) _ _ s
  rw [if_pos (by decide)]
  refine wpAny_bind (wpAny_rule ?_)
  refine wpAny_bind ?_
  wp_delta
  refine wpAny_bind (wpAny_setField ho hd (by simp) ?_)
  have ho2 := Heap.get?_update_self (Obj.mapFields (·.setIfInBounds 1 (rawInt (-1)))) ho (Obj.isFreed_of_fields (Obj.data_mapFields hd _))
  have hd2 : (Obj.mapFields (fun x => x.setIfInBounds 1 (rawInt (-1))) o).data = .fields ((#[Value.ref l, rawInt (-1)] : Array Value).setIfInBounds 1 (rawInt (-1))) := by rw [Obj.data_mapFields hd]
  have e1 : Heap.ExtBut it s.heap (s.heap.update it (Obj.mapFields fun x => x.setIfInBounds 1 (rawInt (-1)))) := (Heap.SameBut.update ..).extBut
  refine wpAny_setField ho2 hd2 (by simp) ?_
  have e2 := Heap.ExtBut.trans e1 ((Heap.SameBut.update (a := it) (f := Obj.mapFields (fun x => x.setIfInBounds 0 Value.none)) (h := s.heap.update it (Obj.mapFields fun x => x.setIfInBounds 1 (rawInt (-1))))).extBut)
  refine wpAny_bind ?_
  wp_delta
  refine wpAny_bind ?_
  simp only [newExc, newTuple]
  refine wpAny_bind (wpAny_newObj_type ?_ (by size_fits))
  refine wpAny_bind (m := firstArgMember _ _) (wpAny_of_eq (a := Value.none) (by first | rfl | (simp only [firstArgMember]; rfl)) ?_)
  refine wpAny_newObj_type ?_ (by size_fits)
  simp only [raiseNew]
  refine wpAny_bind (wpAny_handled ?_)
  first | rw [show A.in1.handled = none from hh] | rw [hh]
  refine wpAny_bind (wpAny_pure (wpAny_throw ?_))
  refine wpAny_bind (wpAny_isInstance (T := "StopIteration") (b := true) ⟨_, Heap.get?_push_size _ rfl, rfl⟩ isSubtype_stop ?_)
  exact wpAny_pure (hQ _ _ ((e2.push _).push _))

theorem rv_iter {it l : Addr} {i : Int} {Q : Value → Shared → Prop} (hit : IsRv s.heap it l i) (h : Q (.ref it) s) : wpAny (model prog w) A (pyIter (.ref it)) Q E s := by
  refine wpAny_pyIter_slot hit.typeIs RV.slot_iter (wpAny_call_entry RV.slot_iter hit.typeIs RV.entry_iter ?_ (RV.args_iter_1 _))
  show wpAny _ _ (ret (.ref it)) _ _ s
  exact wpAny_pure ⟨_, rfl, "reversed", _, hit.typeIs, RV.slot_next.lookup, h⟩
end
theorem rv_walks {prog : Program} {w : World} {A : Around} (hh : A.handled = none) (I l : Addr) (hne : l ≠ I) (items : Array Value) (hz : (items.size : Int) < 2 ^ 63) :
    Walks prog w A I [I, l] [I] items.size (fun i v => items[items.size - 1 - i]? = some v) (fun i h => i ≤ items.size ∧ IsRv h I l ((items.size : Int) - 1 - (i : Int)) ∧ h.IsTuple l items) where
  sub := fun b hb => by simp at hb; simp [hb]
  frame := fun _ _ _ x hk => ⟨x.1, x.2.1.at fun o e => hk I (by simp) o e, x.2.2.at fun o e => hk l (by simp) o e⟩
  item := fun i s Q E hi x hQ => by
    have e : (items.size : Int) - 1 - (i : Int) = ((items.size - 1 - i : Nat) : Int) := by omega
    have hit := x.2.1
    rw [e] at hit
    have hx : items[items.size - 1 - i]? = some (items[items.size - 1 - i]'(by omega)) := Array.getElem?_eq_getElem (by omega)
    refine rv_next_item hit x.2.2 hz hx fun h' tk hit' hs' => ?_
    have e2 : ((items.size - 1 - i : Nat) : Int) - 1 = (items.size : Int) - 1 - ((i + 1 : Nat) : Int) := by omega
    rw [e2] at hit'
    exact hQ _ h' tk hx ⟨hi, hit', x.2.2.at fun o eo => (hs'.2 l hne).trans eo⟩ fun b o hb eo => hs'.extBut b o (fun h => hb (by simp [h])) eo
  done := fun s Q E x hQ => by
    have e : (items.size : Int) - 1 - (items.size : Int) = -1 := by omega
    have hit := x.2.1
    rw [e] at hit
    exact rv_next_end hh hit fun h' tk he' => hQ h' tk fun b o hb eo => he' b o (fun h => hb (by simp [h])) eo
  self := fun _ _ _ _ x hQ => rv_iter x.2.1 hQ
end Mine

end
section
set_option maxRecDepth 100000
open PySem PySem.Spec PySem.Calls PySem.W PyProof.Rows
namespace Mine
theorem walksS_shift {prog : Program} {w : World} {A : Around} {I : Addr} {fp wr : List Addr} {G : Array GenState → Array GenState → Prop} {n : Nat} {P : Nat → Value → Prop} {St : Nat → Shared → Prop} (W : WalksS prog w A I fp wr G n P St) (acc : Array Value) :
    WalksS prog w A I fp wr G (acc.size + n) (fun j v => acc[j]? = some v ∨ (acc.size ≤ j ∧ P (j - acc.size) v)) (fun i s => acc.size ≤ i ∧ St (i - acc.size) s) where
  sub := W.sub
  grefl := W.grefl
  gtrans := W.gtrans
  frame := fun i s h' tk st htk hk => ⟨st.1, W.frame _ s h' tk st.2 htk hk⟩
  item := fun i s Q E hi st hQ => W.item _ s Q E (by have := st.1; omega) st.2 fun v s' hP hst hm => hQ v s' (.inr ⟨st.1, hP⟩) ⟨by have := st.1; omega, by
    have e : i + 1 - acc.size = i - acc.size + 1 := by have := st.1; omega
    rw [e]; exact hst⟩ hm
  done := fun s Q E st hQ => W.done s Q E (by
    have e : acc.size + n - acc.size = n := by omega
    have := st.2
    rw [e] at this; exact this) hQ
  self := fun i s Q E st hQ => W.self _ s Q E st.2 hQ
theorem shift_result {acc acc' : Array Value} {n : Nat} {vs : List Value} {P : Nat → Value → Prop} (hn : vs.length = n) (hP : ∀ i v, i < n → P i v → vs[i]? = some v) (h : ItemsOf (fun j v => acc[j]? = some v ∨ (acc.size ≤ j ∧ P (j - acc.size) v)) acc' (acc.size + n)) :
    acc' = (acc.toList ++ vs).toArray := by
  apply Array.toList_inj.mp
  apply List.ext_getElem?
  intro j
  rw [Array.getElem?_toList]
  show _ = (acc.toList ++ vs)[j]?
  rcases Nat.lt_or_ge j acc'.size with hj | hj
  · have e := Array.getElem?_eq_getElem hj
    rw [e]
    rcases h.2 j _ e with h1 | ⟨h1, h2⟩
    · have hlt : j < acc.size := by
        rcases Nat.lt_or_ge j acc.size with q | q
        · exact q
        · rw [Array.getElem?_eq_none q] at h1; cases h1
      rw [List.getElem?_append_left (by simpa using hlt), Array.getElem?_toList]
      exact h1.symm
    · rw [List.getElem?_append_right (by simpa using h1)]
      have := hP (j - acc.size) _ (by have := h.1; omega) h2
      rw [Array.length_toList]
      exact this.symm
  · rw [Array.getElem?_eq_none hj, List.getElem?_eq_none]
    rw [List.length_append, Array.length_toList, hn]
    have := h.1
    omega
theorem rev_get (ks : List Value) (i : Nat) (v : Value) (hi : i < ks.length) (h : ks.toArray[ks.toArray.size - 1 - i]? = some v) : ks.reverse[i]? = some v := by
  rw [List.getElem?_reverse hi]
  simpa using h

section
variable {prog : Program} {w : World} {A : Around} {E : Value → Shared → Prop} {s : Shared}
theorem fits_small {n : Nat} (h : n ≤ 1000) : Builtin.List.listFitsIndex (n : Int) = true := by
  unfold Builtin.List.listFitsIndex
  rw [Bool.and_eq_true]
  exact ⟨decide_eq_true (by omega), decide_eq_true (by omega)⟩
theorem short_small {n : Nat} (h : n ≤ 1000) : Builtin.List.listTooLong (n : Int).toNat = false := by
  unfold Builtin.List.listTooLong
  rw [sizeLine_eq]
  exact decide_eq_false (by omega)
theorem rv_hint {I l : Addr} {items : Array Value} {Q : Bool → Shared → Prop} (hit : IsRv s.heap I l ((items.size : Int) - 1)) (hl : s.heap.IsTuple l items) (hz : items.size ≤ 1000)
    (h : ∀ tk, s.toks ≤ tk → Q ((items.size : Int) != 0) { s with toks := tk }) : wpAny (model prog w) A (Builtin.List.listLengthHint (.ref I)) Q E s := by
  obtain ⟨o, ho, hc, hd⟩ := id hit
  unfold Builtin.List.listLengthHint
  refine wpAny_bind (wpAny_specialOf hit.typeIs RV.no_len ?_)
  show wpAny _ A (specialOf (Value.ref I) (Str.ofString "__length_hint__") >>= _) _ _ _
  refine wpAny_bind (wpAny_specialOf hit.typeIs RV.slot_hint.lookup ?_)
  (generalize hid : ("reversed.__length_hint__" : String) = id0; (fail_if_success (clear hid id0)); wp_delta; rw [show splitId id0 = some ("reversed", "__length_hint__") from by subst hid; decide +kernel]; subst hid)
  refine wpAny_bind (wpAny_isInstance (b := true) hit.typeIs (by rw [isSubtype_type]; kernel_rfl) ?_)
  refine wpAny_ite_split (fun hab => absurd hab (by decide)) (fun _ => ?_)
  refine wpAny_ite_split (fun hab => absurd hab (by decide +kernel)) (fun _ => ?_)
  refine wpAny_bind (wpAny_rule ?_)
  refine wpAny_bind (wpAny_of_eq (RV.slot_hint.bind _) ?_)
  try dsimp only
  refine wpAny_bind (wpAny_attempt (wpAny_call_entry RV.slot_hint hit.typeIs RV.entry_hint ?_ (RV.args_hint_1 _)))
  unfold Builtin.«reversed.__length_hint__»
  refine wpAny_bind (wpAny_of_eq (a := Value.ref I) rfl ?_)
  try dsimp only
  refine wpAny_bind (wpAny_field ho hd (x := .ref l) rfl ?_)
  rw [if_neg (show ¬ ((Value.ref l == Value.none) = true) from Bool.false_ne_true)]
  have hl' : IsTup s.heap l items := hl
  refine wpAny_bind (len_tuple hl' (by omega) ?_)
  refine wpAny_bind (m := asInt? _) (wpAny_pure ?_)
  try dsimp only
  refine wpAny_bind (wpAny_field (s := { s with toks := s.toks + 1 + 1 }) ho hd (x := rawInt ((items.size : Int) - 1)) rfl ?_)
  try dsimp only
  show wpAny _ _ (if (items.size : Int) < (items.size : Int) - 1 + 1 then _ else _) _ _ _
  rw [if_neg (by omega)]
  unfold retInt
  refine wpAny_bind (wpAny_mkInt ?_)
  refine wpAny_pure ⟨_, rfl, ?_⟩
  try dsimp only
  refine wpAny_bind (m := asInt? _) (wpAny_pure ?_)
  try dsimp only
  have e1 : (items.size : Int) - 1 + 1 = (items.size : Int) := by omega
  rw [e1]
  have f1 := fits_small hz
  have f2 := short_small hz
  generalize hb1 : Builtin.List.listFitsIndex (items.size : Int) = b1 at f1 ⊢
  generalize hb2 : Builtin.List.listTooLong (items.size : Int).toNat = b2 at f2 ⊢
  cases f1
  cases f2
  refine wpAny_ite_split (fun hab => absurd hab (by decide)) (fun _ => ?_)
  refine wpAny_ite_split (fun hab => by omega) (fun _ => ?_)
  refine wpAny_ite_split (fun hab => absurd hab (by decide)) (fun _ => ?_)
  exact wpAny_pure (h _ (by omega))

theorem touch_seq (acc : Array Value) (c : Nat) : ∃ cc, Obj.mapSeq (·.pop) (Obj.mapSeq (·.push Value.none) { cls := .type "list", data := .seq acc c }) = { cls := .type "list", data := .seq acc cc } := by
  unfold Obj.mapSeq
  dsimp only
  rw [Array.pop_push]
  exact ⟨_, rfl⟩
theorem ext_rev {R : Result → Shared → Prop} {I l : Addr} {items acc : Array Value} {c₀ : Nat} (hh : A.handled = none) (hit : IsRv s.heap I l ((items.size : Int) - 1)) (hl : s.heap.IsTuple l items) (hz : items.size ≤ 1000) (ha : acc.size ≤ 1000000)
    (S : Addr) (res : Value) (hS : s.heap.get? S = some { cls := .type "list", data := .seq acc c₀ })
    (hR : ∀ h' tk c', s.toks ≤ tk → (∀ b o, b ≠ S → b ≠ I → s.heap.get? b = some o → h'.get? b = some o) → h'.get? S = some { cls := .type "list", data := .seq (acc.toList ++ items.toList.reverse).toArray c' } → R (.ok (.ret res)) { s with heap := h', toks := tk }) :
    wpAny (model prog w) A.in1 (Builtin.List.listExtendWith (.ref S) (.ref I) res)
      (fun fin s' => match fin with | .done f => R (.ok f) s' | .again c' => c'.quiet = true ∧ codeAny (model prog w) A c' R s') (fun e s' => R (.error e) s') s := by
  obtain ⟨oI, hoI, hIc, hId⟩ := id hit
  obtain ⟨ol, hol, hlc, hld⟩ := id hl
  have hSI : S ≠ I := fun e => by rw [e, hoI] at hS; injection hS with hS; rw [hS] at hIc; injection hIc with q; exact absurd q (by decide)
  have hlI : l ≠ I := fun e => by
    rw [e, hoI] at hol; injection hol with hol; rw [← hol, hIc] at hlc; injection hlc with q; exact absurd q (by decide)
  have hlS : l ≠ S := fun e => by
    rw [e, hS] at hol; injection hol with hol; rw [← hol] at hlc; injection hlc with q; exact absurd q (by decide)
  have hSf : S ∉ [I, l] := fun hm => by
    rcases List.mem_cons.mp hm with e | hm
    · exact hSI e
    · exact hlS (List.mem_singleton.mp hm).symm
  have W := walksS_shift ((rv_walks (prog := prog) (w := w) (A := A.in1) hh I l hlI items (by omega)).toS) acc
  have key : ∀ (h : Heap) (c₁ tk : Nat), s.toks ≤ tk → IsRv h I l ((items.size : Int) - 1) → h.IsTuple l items → (∀ b o, b ≠ S → s.heap.get? b = some o → h.get? b = some o) →
      h.get? S = some { cls := .type "list", data := .seq acc c₁ } → codeAny (model prog w) A (.builtin "list.extend.loop" ⟨[.ref S, .ref I, res], []⟩) R { s with heap := h, toks := tk } := by
    intro h c₁ tk htk hit hl hk hS₁
    refine codeAny_extend_loopS W (by rw [sizeLine_eq]; omega) S hSf res (acc.size + items.size - acc.size) acc.size _ acc c₁ rfl (Nat.le_add_right _ _) ?_ hS₁ ?_ fun s' acc' c' hm hS' hacc => ?_
    · refine ⟨Nat.le_refl _, ?_⟩
      rw [Nat.sub_self]
      exact ⟨Nat.zero_le _, by simpa using hit, hl⟩
    · refine ⟨rfl, fun i v hv => .inl hv⟩
    · rw [Moved.eq_with hm]
      have e := shift_result (n := items.size) (vs := items.toList.reverse) (by simp) (fun i v hi hv => rev_get _ _ _ (by simpa using hi) (by simpa using hv)) hacc
      rw [e] at hS'
      refine hR s'.heap s'.toks c' (Nat.le_trans htk hm.toks) (fun b o hb hb2 e => hm.heap b o (fun hmem => ?_) (hk b o hb e)) hS'
      rcases List.mem_cons.mp hmem with e' | hmem
      · exact hb e'
      · exact hb2 (List.mem_singleton.mp hmem)
  unfold Builtin.List.listExtendWith
  refine wpAny_bind (wpAny_typeOf hit.typeIs ?_)
  have h1 : Builtin.List.listSameRef (.ref S) (.ref I) = false := by simp [Builtin.List.listSameRef, hSI]
  have h2 : (Value.type "reversed" == Value.type "list") = false := by decide
  have h3 : (Value.type "reversed" == Value.type "tuple") = false := by decide
  simp only [h1, h2, h3, Bool.or_false, Bool.false_eq_true, if_false]
  refine wpAny_bind (rv_iter hit ?_)
  refine wpAny_bind (wpAny_holding (rv_hint hit hl hz fun tk htk => ?_))
  refine wpAny_ite_split (fun _ => ?_) (fun _ => wpAny_pure ⟨plainId_quiet F.plain_extend_loop _, key _ c₀ _ htk hit hl (fun b o _ e => e) hS⟩)
  refine wpAny_bind (wpAny_rule ?_)
  refine wpAny_bind ?_
  show wpAny _ _ (updateSeq S (·.push .none) >>= fun _ => updateSeq S (·.pop)) _ _ _
  refine wpAny_bind (wpAny_updateSeq hS rfl ?_)
  have hS₂ := Heap.get?_update_self (Obj.mapSeq (·.push Value.none)) hS rfl
  refine wpAny_updateSeq (hz := by seq_fits) hS₂ rfl ?_
  have hS₃ := Heap.get?_update_self (Obj.mapSeq (·.pop)) hS₂ rfl
  have oth : ∀ b o, b ≠ S → s.heap.get? b = some o → ((s.heap.update S (Obj.mapSeq (·.push Value.none))).update S (Obj.mapSeq (·.pop))).get? b = some o :=
    fun b o hb e => (Heap.get?_update_other _ _ (Ne.symm hb)).trans ((Heap.get?_update_other _ _ (Ne.symm hb)).trans e)
  obtain ⟨cc, hcc⟩ : ∃ cc, ((s.heap.update S (Obj.mapSeq (·.push Value.none))).update S (Obj.mapSeq (·.pop))).get? S = some { cls := .type "list", data := .seq acc cc } := by
    obtain ⟨cc, q⟩ := touch_seq acc c₀
    exact ⟨cc, hS₃.trans (congrArg some q)⟩
  refine wpAny_pure ⟨plainId_quiet F.plain_extend_loop _, key _ cc _ htk (hit.at fun o e => oth I o (Ne.symm hSI) e) (Heap.IsTuple.at hl fun o e => oth l o hlS e) (fun b o hb e => oth b o hb e) hcc⟩
theorem call_extend_rev {Q : Value → Shared → Prop} {I l : Addr} {items acc : Array Value} {c₀ : Nat} (hh : A.handled = none) (hit : IsRv s.heap I l ((items.size : Int) - 1)) (hl : s.heap.IsTuple l items) (hz : items.size ≤ 1000) (ha : acc.size ≤ 1000000)
    (S : Addr) (hS : s.heap.get? S = some { cls := .type "list", data := .seq acc c₀ })
    (hQ : ∀ h' tk c', s.toks ≤ tk → (∀ b o, b ≠ S → b ≠ I → s.heap.get? b = some o → h'.get? b = some o) → h'.get? S = some { cls := .type "list", data := .seq (acc.toList ++ items.toList.reverse).toArray c' } → Q .none { s with heap := h', toks := tk }) :
    wpAny (model prog w) A (call (.builtin "list.extend") [.ref S, .ref I]) Q E s := by
  refine wpAny_call (codeAny_call_builtin F.slot_list_extend.plain F.entry_list_extend (F.slot_list_extend.check _ _ _ _ _ _ _ _ ⟨_, hS, rfl⟩ (F.args_list_extend_2 _ _) ?_))
  show wpAny _ A.in1 (Builtin.List.listExtendWith (.ref S) (.ref I) .none) _ _ s
  exact ext_rev (R := wants Q E) hh hit hl hz ha S .none hS fun h' tk c' q1 q2 q3 => hQ h' tk c' q1 q2 q3
end
end Mine

end
section
set_option maxRecDepth 100000
open PySem PySem.Spec PySem.Calls PySem.W PyProof.Rows
namespace Mine
section
variable {prog : Program} {w : World} {A : Around} {E : Value → Shared → Prop} {s : Shared}
theorem lri_silent {I l : Addr} {i : Int} {Q : Bool → Shared → Prop} (hit : s.heap.IsRevIter I l i)
    (h : Q false s) : wpAny (model prog w) A (Builtin.List.listLengthHint (.ref I)) Q E s := by
  unfold Builtin.List.listLengthHint
  refine wpAny_bind (wpAny_specialOf hit.typeIs RV.lri_no_len ?_)
  show wpAny _ A (specialOf (Value.ref I) (Str.ofString "__length_hint__") >>= _) _ _ _
  refine wpAny_bind (wpAny_specialOf hit.typeIs RV.lri_hint ?_)
  (generalize hid : ("list_reverseiterator.__length_hint__" : String) = id0; (fail_if_success (clear hid id0)); wp_delta; rw [show splitId id0 = some ("list_reverseiterator", "__length_hint__") from by subst hid; decide +kernel]; subst hid)
  refine wpAny_bind (wpAny_isInstance (b := true) hit.typeIs RV.sub_lri_self ?_)
  refine wpAny_ite_split (fun hab => absurd hab (by decide)) (fun _ => ?_)
  refine wpAny_ite_split (fun _ => ?_) (fun hab => absurd (by decide +kernel) hab)
  refine wpAny_ite_split (fun hab => absurd hab (by decide +kernel)) (fun _ => ?_)
  exact wpAny_pure h
variable {R : Result → Shared → Prop}
theorem ext_lri {I l : Addr} {items : Array Value} {c₀ : Nat} (hh : A.handled = none) (hit : s.heap.IsRevIter I l ((items.size : Int) - 1)) (hl : s.heap.IsList l items) (hz : items.size ≤ 1000)
    (S : Addr) (hlS : l ≠ S) (res : Value) (hS : s.heap.get? S = some { cls := .type "list", data := .seq #[] c₀ })
    (hR : ∀ h' tk c', s.toks ≤ tk → (∀ b o, b ≠ S → b ≠ I → s.heap.get? b = some o → h'.get? b = some o) → h'.get? S = some { cls := .type "list", data := .seq items.toList.reverse.toArray c' } → R (.ok (.ret res)) { s with heap := h', toks := tk }) :
    wpAny (model prog w) A.in1 (Builtin.List.listExtendWith (.ref S) (.ref I) res)
      (fun fin s' => match fin with | .done f => R (.ok f) s' | .again c' => c'.quiet = true ∧ codeAny (model prog w) A c' R s') (fun e s' => R (.error e) s') s := by
  obtain ⟨oI, hoI, hIc, hId⟩ := id hit
  obtain ⟨ol, hol, hlc, hld⟩ := id hl
  have hSI : S ≠ I := fun e => by rw [e, hoI] at hS; injection hS with hS; rw [hS] at hIc; injection hIc with q; exact absurd q (by decide)
  have hlI : l ≠ I := fun e => by
    rw [e, hoI] at hol; injection hol with hol; rw [← hol, hIc] at hlc; injection hlc with q; exact absurd q (by decide)
  have hSf : S ∉ [I, l] := fun hm => by
    rcases List.mem_cons.mp hm with e | hm
    · exact hSI e
    · exact hlS (List.mem_singleton.mp hm).symm
  have W := (Walks.listRev (prog := prog) (w := w) (A := A.in1) hh I l hlI items).toS
  unfold Builtin.List.listExtendWith
  refine wpAny_bind (wpAny_typeOf hit.typeIs ?_)
  have h1 : Builtin.List.listSameRef (.ref S) (.ref I) = false := by simp [Builtin.List.listSameRef, hSI]
  have h2 : (Value.type "list_reverseiterator" == Value.type "list") = false := by decide
  have h3 : (Value.type "list_reverseiterator" == Value.type "tuple") = false := by decide
  simp only [h1, h2, h3, Bool.or_false, Bool.false_eq_true, if_false]
  refine wpAny_bind (W.self 0 _ _ _ ⟨Nat.zero_le _, by simpa using hit, hl⟩ ?_)
  refine wpAny_bind (wpAny_holding (lri_silent hit ?_))
  refine wpAny_ite_split (fun hab => absurd hab (by decide +kernel)) (fun _ => ?_)
  refine wpAny_pure ⟨plainId_quiet F.plain_extend_loop _, codeAny_extend_loopS W (by rw [sizeLine_eq]; omega) S hSf res _ 0 _ #[] c₀ rfl (Nat.zero_le _) ⟨Nat.zero_le _, by simpa using hit, hl⟩ hS (ItemsOf.nil _) fun s' acc' c' hm hS' hacc => ?_⟩
  rw [Moved.eq_with hm]
  have e := shift_result (acc := #[]) (n := items.size) (vs := items.toList.reverse) (by simp) (fun i v hi hv => rev_get _ _ _ (by simpa using hi) (by simpa using hv)) (P := fun i v => items[items.size - 1 - i]? = some v) (acc' := acc')
    ⟨by simpa using hacc.1, fun j v hv => .inr ⟨Nat.zero_le _, by simpa using hacc.2 j v hv⟩⟩
  rw [e] at hS'
  refine hR s'.heap s'.toks c' hm.toks (fun b o hb hb2 e => hm.heap b o (fun hmem => ?_) e) (by simpa using hS')
  rcases List.mem_cons.mp hmem with e' | hmem
  · exact hb e'
  · exact hb2 (List.mem_singleton.mp hmem)
theorem init_lri {I l : Addr} {items : Array Value} (hh : A.handled = none) (hit : s.heap.IsRevIter I l ((items.size : Int) - 1)) (hl : s.heap.IsList l items) (hz : items.size ≤ 1000)
    (S : Addr) (hlS : l ≠ S) (hS : s.heap.get? S = some { cls := .type "list", data := .seq #[] })
    (hR : ∀ h' tk c', s.toks ≤ tk → (∀ b o, b ≠ S → b ≠ I → s.heap.get? b = some o → h'.get? b = some o) → h'.get? S = some { cls := .type "list", data := .seq items.toList.reverse.toArray c' } → R (.ok (.ret .none)) { s with heap := h', toks := tk }) :
    wpAny (model prog w) A.in1 (Builtin.«list.__init__» ⟨[.ref S, .ref I], []⟩)
      (fun fin s' => match fin with | .done f => R (.ok f) s' | .again c' => c'.quiet = true ∧ codeAny (model prog w) A c' R s') (fun e s' => R (.error e) s') s := by
  obtain ⟨oI, hoI, hIc, hId⟩ := id hit
  have hSI : I ≠ S := fun e => by rw [← e, hoI] at hS; injection hS with hS; rw [hS] at hIc; injection hIc with q; exact absurd q (by decide)
  show wpAny _ A.in1 (do let old ← Builtin.List.listItems (.ref S); Builtin.List.listUpdate (.ref S) (fun _ => #[]); letGo old.toList.reverse; Builtin.List.listExtendWith (.ref S) (.ref I) .none) _ _ s
  refine wpAny_bind ?_
  unfold Builtin.List.listItems
  refine wpAny_bind (wpAny_seqItems hS rfl (wpAny_pure ?_))
  show wpAny _ A.in1 (updateSeq S (fun _ => #[]) >>= fun _ => letGo (#[] : Array Value).toList.reverse >>= fun _ => Builtin.List.listExtendWith (.ref S) (.ref I) .none) _ _ s
  refine wpAny_bind (wpAny_updateSeq hS rfl ?_)
  have hS₂ := Heap.get?_update_self (Obj.mapSeq (fun _ => (#[] : Array Value))) hS rfl
  have oth : ∀ b o, b ≠ S → s.heap.get? b = some o → (s.heap.update S (Obj.mapSeq (fun _ => (#[] : Array Value)))).get? b = some o :=
    fun b o hb e => (Heap.get?_update_other _ _ (Ne.symm hb)).trans e
  refine wpAny_bind (wpAny_letGo ?_)
  refine ext_lri hh (hit.at fun o e => oth I o hSI e) (Heap.IsList.at hl fun o e => oth l o hlS e) hz S hlS .none hS₂ fun h' tk c' q1 q2 q3 => ?_
  exact hR h' tk c' q1 (fun b o hb hb2 e => q2 b o hb hb2 (oth b o hb e)) q3
theorem call_list_lri {Q : Value → Shared → Prop} {I l : Addr} {items : Array Value} (hh : A.handled = none) (hit : s.heap.IsRevIter I l ((items.size : Int) - 1)) (hl : s.heap.IsList l items) (hz : items.size ≤ 1000)
    (hQ : ∀ h' tk c', s.toks ≤ tk → (∀ b o, b ≠ I → s.heap.get? b = some o → h'.get? b = some o) → h'.get? s.heap.objs.size = some { cls := .type "list", data := .seq items.toList.reverse.toArray c' } → Q (.ref s.heap.objs.size) { s with heap := h', toks := tk }) :
    wpAny (model prog w) A (call (.type "list") [.ref I]) Q E s := by
  obtain ⟨ol, hol, hlc, hld⟩ := id hl
  refine callType_codes (Q₁ := fun obj s₁ => obj = .ref s.heap.objs.size ∧ s₁ = { s with heap := s.heap.push { cls := .type "list", data := .seq #[] } }) F.called_list (F.typeCall_list_1 _) F.entry_list_init
    (code_list_new _ ⟨rfl, rfl⟩) fun obj s₁ h₁ => ?_
  obtain ⟨rfl, rfl⟩ := h₁
  have hS : (s.heap.push { cls := .type "list", data := .seq #[] }).get? s.heap.objs.size = some { cls := .type "list", data := .seq #[] } := Heap.get?_push_size _ rfl
  refine ⟨⟨_, hS, rfl⟩, F.args_list_init_2 _ _, init_lri (A := A.in1) hh (hit.at fun o e => Heap.get?_push_of_some _ e) (Heap.IsList.at hl fun o e => Heap.get?_push_of_some _ e) hz _ (Nat.ne_of_lt (Heap.lt_size hol)) hS fun h' tk c' q1 q2 q3 => ?_⟩
  exact ⟨rfl, hQ h' tk c' q1 (fun b o hb e => q2 b o (Nat.ne_of_lt (Heap.lt_size e)) hb (Heap.get?_push_of_some _ e)) q3⟩
variable {h₀ : Heap} {L I l S : Addr} {m : Str → Option Value} {news : List (Addr × Obj)} {vs acc : List Value} {n n2 : Nat}
theorem x_reversed {Q : Value → Shared → Prop} (F : Fr h₀ L s.heap m) (N : News h₀ L s.heap news) (hm : (l, tupN vs n) ∈ news) (hz : vs.length ≤ 1000)
    (h : ∀ D h' tk, Fr h₀ L h' m → News h₀ L h' ((D, rvObj l ((vs.length : Int) - 1)) :: news) → (∀ p ∈ news, p.1 < D) → Q (.ref D) { s with heap := h', toks := tk }) : wpAny (model prog w) A (call (.type "reversed") [.ref l]) Q E s := by
  refine call_reversed_tuple (tup_of_news N hm) (by rw [List.size_toArray]; omega) fun tk => ?_
  rw [List.size_toArray]
  exact h _ _ tk (F.push _) (News.push F N _) fun p hp => Heap.lt_size (N p hp).1
theorem fr_two {h h' : Heap} {D : Addr} (F : Fr h₀ L h m) (hk : ∀ b o, b ≠ D → b ≠ I → h.get? b = some o → h'.get? b = some o) (d1 : h₀.get? D = none) (d2 : h₀.get? I = none) (e1 : D ≠ L) (e2 : I ≠ L) : Fr h₀ L h' m := by
  obtain ⟨oL, a1, a2, hL, a3⟩ := F.ns
  exact ⟨⟨oL, a1, a2, hk _ _ (Ne.symm e1) (Ne.symm e2) hL, a3⟩, fun b o e => hk b o (fun q => by rw [q, d1] at e; cases e) (fun q => by rw [q, d2] at e; cases e) (F.keep b o e), F.above⟩
theorem x_extend {Q : Value → Shared → Prop} (hh : A.handled = none) (F : Fr h₀ L s.heap m) (N : News h₀ L s.heap ((I, rvObj l ((vs.length : Int) - 1)) :: (S, listOf acc.toArray n) :: news)) (hm : (l, tupN vs n2) ∈ news) (hz : vs.length ≤ 1000) (ha : acc.length ≤ 1000000)
    (hoS : ∀ p ∈ news, p.1 ≠ S) (hoI : ∀ p ∈ news, p.1 < I)
    (h : ∀ c' h' tk, Fr h₀ L h' m → News h₀ L h' ((S, listOf (acc ++ vs.reverse).toArray c') :: news) → Q .none { s with heap := h', toks := tk }) : wpAny (model prog w) A (call (.builtin "list.extend") [.ref S, .ref I]) Q E s := by
  have nI := N _ (.head _)
  have nS := N _ (.tail _ (.head _))
  refine call_extend_rev hh ⟨_, nI.1, rfl, by rw [List.size_toArray]; rfl⟩ (tup_of_news N (.tail _ (.tail _ hm))) (by rw [List.size_toArray]; exact hz) (by rw [List.size_toArray]; exact ha) S nS.1 fun h' tk c' _ q2 q3 => ?_
  refine h c' h' tk (fr_two F q2 nS.2.2 nI.2.2 nS.2.1 nI.2.1) fun p hp => ?_
  rcases List.mem_cons.mp hp with rfl | hp
  · exact ⟨q3, nS.2⟩
  · have np := N p (.tail _ (.tail _ hp))
    exact ⟨q2 _ _ (hoS p hp) (Nat.ne_of_lt (hoI p hp)) np.1, np.2⟩
theorem x_listrev {Q : Value → Shared → Prop} (hh : A.handled = none) (F : Fr h₀ L s.heap m) (N : News h₀ L s.heap ((I, revObj l ((vs.length : Int) - 1)) :: news)) (hm : (l, listOf vs.toArray n) ∈ news) (hz : vs.length ≤ 1000)
    (hoI : ∀ p ∈ news, p.1 < I)
    (h : ∀ D c' h' tk, Fr h₀ L h' m → News h₀ L h' ((D, listOf vs.reverse.toArray c') :: news) → (∀ p ∈ news, p.1 < D) → Q (.ref D) { s with heap := h', toks := tk }) : wpAny (model prog w) A (call (.type "list") [.ref I]) Q E s := by
  have nI := N _ (.head _)
  refine call_list_lri (items := vs.toArray) hh ⟨_, nI.1, rfl, by rw [List.size_toArray]; rfl⟩ ⟨_, (N _ (.tail _ hm)).1, rfl, n, rfl⟩ (by rw [List.size_toArray]; exact hz) fun h' tk c' _ q2 q3 => ?_
  refine h _ c' h' tk (fr_two F (D := I) (fun b o a _ e => q2 b o a e) nI.2.2 nI.2.2 nI.2.1 nI.2.1) (fun p hp => ?_) fun p hp => Heap.lt_size (N p (.tail _ hp)).1
  rcases List.mem_cons.mp hp with rfl | hp
  · exact ⟨q3, Nat.ne_of_gt F.ns.lt, next_is_new F⟩
  · have np := N p (.tail _ hp)
    exact ⟨q2 _ _ (Nat.ne_of_lt (hoI p hp)) np.1, np.2⟩
theorem x_truthy0 {Q : Bool → Shared → Prop} {D : Addr} (N : News h₀ L s.heap news) (hm : (D, listOf ([] : List Value).toArray n) ∈ news) (h : ∀ tk, Q false { s with toks := tk }) : wpAny (model prog w) A (truthy (.ref D)) Q E s :=
  wpAny_truthy_list (News.isList N hm) (by decide) (h _)
theorem x_truthy1 {y : Value} {Q : Bool → Shared → Prop} {D : Addr} (N : News h₀ L s.heap news) (hm : (D, listOf (vs ++ [y]).toArray n) ∈ news) (hz : vs.length ≤ 1000000) (h : ∀ tk, Q true { s with toks := tk }) : wpAny (model prog w) A (truthy (.ref D)) Q E s :=
  wpAny_truthy_list (News.isList N hm) (by rw [List.size_toArray, List.length_append]; simp; omega) (by
    have e : (!(vs ++ [y]).toArray.isEmpty) = true := by simp
    rw [e]; exact h _)
theorem x_pop {y : Value} {Q : Value → Shared → Prop} {news' : List (Addr × Obj)} {D : Addr} (F : Fr h₀ L s.heap m) (N : News h₀ L s.heap news) (U : Upd D (listOf (vs ++ [y]).toArray n) (listOf vs.toArray (n + 1)) news news') (hz : vs.length ≤ 1000000)
    (h : ∀ h', Fr h₀ L h' m → News h₀ L h' news' → Q y { s with heap := h' }) : wpAny (model prog w) A (call (.builtin "list.pop") [.ref D]) Q E s :=
  kl_pop F N (kpa_last y vs) U (by rw [sizeLine_eq]; simp; omega) h
end
end Mine

end
section
open PySem PySem.Spec PySem.Calls PySem.W PyProof.Rows PyProof.V
namespace Mine
noncomputable abbrev encT (ks : List Int) : List (PyData × PyData) := ks.map fun k => (PyData.int k, PyData.bool true)
/-- a dict that holds True under ints -/
noncomputable def DictT (prog : Program) (w : World) (o : Obj) (ks : List Int) : Prop := ∃ kvs, o.IsDictOf (PySem.intKind prog w) kvs ∧ PyProof.V.FlatPairs PyData.int kvs (encT ks)
theorem lookup_encT (k : Int) : ∀ ks : List Int, (lookup (.int k) (encT ks)).isSome = decide (k ∈ ks)
  | [] => rfl
  | a :: r => by
    have ih := lookup_encT k r
    show (if PySem.Spec.same (PyData.int a) (PyData.int k) then some (PyData.bool true) else lookup (.int k) (encT r)).isSome = _
    rw [same_int]
    by_cases h : a = k
    · subst h; simp
    · have h' : ¬ k = a := fun e => h e.symm
      rw [if_neg (by simpa using h), ih]
      simp [h']
theorem putD_encT (k : Int) (ks : List Int) (hk : k ∉ ks) : putD (.int k) (.bool true) (encT ks) = encT (ks ++ [k]) := by
  unfold putD encT
  have e : (ks.map fun k => (PyData.int k, PyData.bool true)).any (fun p => PySem.Spec.same p.1 (PyData.int k)) = false := by
    rw [List.any_map, List.any_eq_false]
    intro x hx
    show ¬ PySem.Spec.same (PyData.int x) (PyData.int k) = true
    rw [same_int]
    simp
    rintro rfl
    exact hk hx
  rw [e]
  simp
mutual
noncomputable def T.sz : T → Nat
  | .v _ => 1
  | .c _ _ => 1
  | .s _ l => szT l + 1
noncomputable def szT : List T → Nat
  | [] => 0
  | t :: r => t.sz + szT r
end
theorem T.sz_pos (t : T) : 0 < t.sz := by cases t <;> simp [T.sz]
theorem szT_append : ∀ l r : List T, szT (l ++ r) = szT l + szT r
  | [], r => by simp [szT]
  | t :: l, r => by rw [List.cons_append, szT, szT, szT_append l r, Nat.add_assoc]
theorem okT_split {l r : List T} (h : okT (l ++ r)) : okT l ∧ okT r := by
  induction l with
  | nil => exact ⟨by rw [okT]; trivial, h⟩
  | cons t l ih =>
    rw [List.cons_append, okT] at h
    rw [okT]
    exact ⟨⟨h.1, (ih h.2).1⟩, (ih h.2).2⟩
theorem okT_one {t : T} (h : okT [t]) : t.ok := by rw [okT] at h; exact h.1
theorem szT_reverse : ∀ l : List T, szT l.reverse = szT l
  | [] => rfl
  | t :: l => by rw [List.reverse_cons, szT_append, szT_reverse l, szT, szT, szT]; omega
theorem szT_len : ∀ l : List T, l.length ≤ szT l
  | [] => Nat.le_refl _
  | t :: l => by have := szT_len l; have := t.sz_pos; rw [List.length_cons, szT]; omega
theorem okT_reverse : ∀ {l : List T}, okT l → okT l.reverse
  | [], h => h
  | t :: l, h => by rw [okT] at h; rw [List.reverse_cons]; exact okT_append (okT_reverse h.2) (by rw [okT]; exact ⟨h.1, by rw [okT]; trivial⟩)
theorem tall_reverse {im : List (Addr × Obj)} : ∀ {l : List T} {vs : List Value}, TAll im vs l → TAll im vs.reverse l.reverse
  | [], vs, h => by have e := all_nil h; subst e; exact h
  | t :: l, vs, h => by
    obtain ⟨v, vs', rfl, h1, h2⟩ := all_cons h
    rw [List.reverse_cons, List.reverse_cons]
    exact TAll.snoc (tall_reverse h2) h1
theorem tall_append {im : List (Addr × Obj)} {l r : List T} {vs us : List Value} (h : TAll im vs l) (k : TAll im us r) : TAll im (vs ++ us) (l ++ r) := by
  unfold TAll; rw [datsT_append]; exact DatAll.append h k
theorem tall_last {im : List (Addr × Obj)} : ∀ {l : List T} {vs : List Value} {y : Value}, TAll im (vs ++ [y]) l → ∃ l' t, l = l' ++ [t] ∧ TAll im vs l' ∧ TIn im y t
  | l, [], y, h => by
    have e := h.len
    cases l with
    | nil => cases e
    | cons t r =>
      obtain ⟨v, vs', q, h1, h2⟩ := all_cons h
      cases q
      have e2 := h2.len
      cases r with
      | nil => exact ⟨[], t, rfl, h2, h1⟩
      | cons _ _ => cases e2
  | l, v :: vs, y, h => by
    cases l with
    | nil => have e := h.len; cases e
    | cons t r =>
      obtain ⟨v', vs', q, h1, h2⟩ := all_cons h
      cases q
      obtain ⟨l', t', rfl, h3, h4⟩ := tall_last h2
      exact ⟨t :: l', t', rfl, .cons h1 h3, h4⟩
section
variable {prog : Program} {w : World} {A : Around} {E : Value → Shared → Prop} {s : Shared} {h₀ : Heap} {L d : Addr} {m : Str → Option Value} {news : List (Addr × Obj)} {g : Obj → List (Addr × Obj)} {o : Obj} {ks : List Int} {k j : Int} {t t2 : Tok}
theorem DictT.tab {h : Heap} (N : News h₀ L h news) (hm : (d, o) ∈ news) (lo : (d == sysModules) = false) (ho : DictT prog w o ks) : IntTab prog w h d (encT ks) :=
  let ⟨_, a, b⟩ := ho; TabAt.ofNews N hm lo a b
theorem s_notin {Q : Value → Shared → Prop} (N : News h₀ L s.heap news) (hm : (d, o) ∈ news) (lo : (d == sysModules) = false) (ho : DictT prog w o ks)
    (h : Q (.bool (!decide (k ∈ ks))) { s with toks := s.toks + 1 }) : wpAny (model prog w) A (compareOp .NotIn (.int k t) (.ref d)) Q E s :=
  notin_intTab (ho.tab N hm lo) (by rw [lookup_encT]; exact h)
theorem s_set {Q : Unit → Shared → Prop} (F : Fr h₀ L s.heap m) (N : News h₀ L s.heap news) (U : UpdF d o news g) (ho : DictT prog w o ks) (hk : ¬ k ∈ ks) (hz : ks.length ≤ 1000)
    (h : ∀ h' o', Fr h₀ L h' m → News h₀ L h' (g o') → DictT prog w o' (ks ++ [k]) → Q () { s with heap := h', toks := s.toks + 1 }) :
    wpAny (model prog w) A (setItem (.ref d) (.int k t) (.bool true)) Q E s := by
  obtain ⟨kvs, a, b⟩ := ho
  refine setItem_K same_int (intKind_is prog w k t) (Flat.bool true) F N U a b (fun h' o' F' N' a' b' => h h' o' F' N' ⟨_, a', ?_⟩) (by rw [List.length_map, sizeLine_eq]; omega)
  rw [putD_encT k ks hk] at b'
  exact b'
end
end Mine

end
section
open PySem PySem.Spec PySem.Calls PySem.W PyProof.Rows PyProof.V
namespace Mine
section
variable {σ : Type} (val : σ → Int → Int) (nxt : σ → Int → σ)
mutual
noncomputable def T.mapS : σ → T → T × σ
  | s, .v k => (.v (val s k), nxt s k)
  | s, .c g k => (.c g k, s)
  | s, .s f l => (.s f (mapST s l).1, (mapST s l).2)
noncomputable def mapST : σ → List T → List T × σ
  | s, [] => ([], s)
  | s, t :: r => ((T.mapS s t).1 :: (mapST (T.mapS s t).2 r).1, (mapST (T.mapS s t).2 r).2)
end
end
structure FR where
  d : Addr
  fa : Addr
  a : Addr
  b : Addr
  f : Int
  vs : List Value
  ds : List Value
  dn : List T
  rest : List T
  n1 : Nat
  n2 : Nat
noncomputable def flat : List FR → List (Addr × Obj)
  | [] => []
  | fr :: r => (fr.d, listOf fr.ds.toArray fr.n1) :: (fr.fa, tupN [.ref fr.a, .ref fr.d] fr.n2) :: flat r
noncomputable def FOk (tps im : List (Addr × Obj)) (j : Nat) (fr : FR) : Prop :=
  (∃ t1 t2 nq, (fr.a, tupN [.str (Str.ofString "s") t1, .int fr.f t2, .ref fr.b] nq) ∈ im) ∧ (∃ n', (fr.b, tupN fr.vs n') ∈ im) ∧ TAll im (fr.vs.drop (fr.ds.length + j)) fr.rest ∧ okT fr.rest ∧ TAll tps fr.ds fr.dn ∧ fr.vs.length ≤ 3 ∧ fr.ds.length + j + fr.rest.length = fr.vs.length
theorem FOk.mono {A B im : List (Addr × Obj)} {j : Nat} {fr : FR} (h : ∀ p ∈ A, p ∈ B) (x : FOk A im j fr) : FOk B im j fr :=
  ⟨x.1, x.2.1, x.2.2.1, x.2.2.2.1, DatAll.mono h x.2.2.2.2.1, x.2.2.2.2.2⟩
noncomputable def msr : List FR → Nat
  | [] => 0
  | fr :: r => 1 + 2 * szT fr.rest + msr r
theorem msr_len : ∀ fs : List FR, fs.length ≤ msr fs
  | [] => Nat.le_refl _
  | fr :: r => by have := msr_len r; rw [msr, List.length_cons]; omega
section
variable {σ : Type} (val : σ → Int → Int) (nxt : σ → Int → σ)
noncomputable def unwind : σ → T → List FR → T × σ
  | s, t, [] => (t, s)
  | s, t, fr :: r => unwind (mapST val nxt s fr.rest).2 (.s fr.f (fr.dn ++ t :: (mapST val nxt s fr.rest).1)) r
noncomputable def finish (s : σ) (fr : FR) (r : List FR) : T × σ := unwind val nxt (mapST val nxt s fr.rest).2 (.s fr.f (fr.dn ++ (mapST val nxt s fr.rest).1)) r
end
theorem upd0 {d : Addr} {o o' : Obj} {r : List (Addr × Obj)} {as : List Addr} (e : r.map Prod.fst = as) (nd : (d :: as).Nodup) : Upd d o o' ((d, o) :: r) ((d, o') :: r) :=
  .head fun p hp q => (List.nodup_cons.mp nd).1 (e ▸ q ▸ List.mem_map_of_mem hp)
theorem upd1 {d : Addr} {x : Addr × Obj} {o o' : Obj} {r : List (Addr × Obj)} {as : List Addr} (e : r.map Prod.fst = as) (nd : (x.1 :: d :: as).Nodup) : Upd d o o' (x :: (d, o) :: r) (x :: (d, o') :: r) :=
  .tail (fun q => (List.nodup_cons.mp nd).1 (q ▸ List.mem_cons_self)) (upd0 e (List.nodup_cons.mp nd).2)
section
variable {prog : Program} {w : World} {A : Around} {E : Value → Shared → Prop} {s : Shared} {h₀ : Heap} {L D : Addr} {m : Str → Option Value} {news : List (Addr × Obj)} {vs : List Value} {n : Nat}
theorem x_last {value slice : PySem.Expr} {y : Value} {u : Tok} {Q : Value → Shared → Prop} (N : News h₀ L s.heap news) (hm : (D, listOf (vs ++ [y]).toArray n) ∈ news) (h : Q y s)
    (hs : subscripted slice false (.ref D) (.int (-1) u) = operate [.ref D, .int (-1) u] (getItem (.ref D) (.int (-1) u)) := by with_unfolding_all rfl) :
    wpAny (model prog w) A (subscriptTail value slice (.ref D) (.int (-1) u)) Q E s :=
  kde_neg (j := vs.length) (News.isList N hm) (by decide) (by decide) (by
    unfold seqIndex?
    rw [List.length_append]
    simp
    omega) (by simp) h hs
theorem x_lenL {Q : Value → Shared → Prop} (N : News h₀ L s.heap news) (hm : (D, listOf vs.toArray n) ∈ news) (hz : vs.length ≤ 1000) (h : ∀ t tk, Q (.int vs.length t) { s with toks := tk }) : wpAny (model prog w) A (call (.builtin "len") [.ref D]) Q E s :=
  len_list (News.isList N hm) (by rw [List.size_toArray]; omega) (by rw [List.size_toArray]; exact h _ _)
theorem x_lenT {Q : Value → Shared → Prop} (N : News h₀ L s.heap news) (hm : (D, tupN vs n) ∈ news) (hz : vs.length ≤ 1000) (h : ∀ t tk, Q (.int vs.length t) { s with toks := tk }) : wpAny (model prog w) A (call (.builtin "len") [.ref D]) Q E s :=
  len_tuple (News.isTup N hm) (by rw [List.size_toArray]; omega) (by rw [List.size_toArray]; exact h _ _)
theorem x_itemT {value slice : PySem.Expr} {k : Nat} {y : Value} {u : Tok} {Q : Value → Shared → Prop} (N : News h₀ L s.heap news) (hm : (D, tupN vs n) ∈ news) (hz : vs.length ≤ 1000) (hy : vs[k]? = some y) (h : Q y s)
    (hs : subscripted slice false (.ref D) (.int (k : Int) u) = operate [.ref D, .int (k : Int) u] (getItem (.ref D) (.int (k : Int) u)) := by with_unfolding_all rfl) :
    wpAny (model prog w) A (subscriptTail value slice (.ref D) (.int (k : Int) u)) Q E s := by
  have hk : k < vs.length := by
    rcases Nat.lt_or_ge k vs.length with q | q
    · exact q
    · rw [List.getElem?_eq_none q] at hy; cases hy
  exact t_item (j := k) N hm (by omega) (by omega) (by
    unfold seqIndex?
    have e1 : ¬ ((k : Int) < 0) := by omega
    have e2 : (decide (0 ≤ (k : Int)) && decide ((k : Int) < (vs.length : Int))) = true := by
      rw [Bool.and_eq_true]; exact ⟨decide_eq_true (by omega), decide_eq_true (by omega)⟩
    simp only [if_neg e1, e2, if_true, Int.toNat_natCast]) hy h hs
end
theorem nd_push {st d f : Addr} {R : List Addr} (nd : (st :: R).Nodup) (h1 : ∀ a ∈ st :: R, a < d) (h2 : ∀ a ∈ st :: R, a < f) (h3 : d < f) : (st :: d :: f :: R).Nodup := by
  rw [List.nodup_cons] at nd ⊢
  rw [List.nodup_cons, List.nodup_cons]
  refine ⟨fun hm => ?_, fun hm => ?_, fun hm => ?_, nd.2⟩
  · rcases List.mem_cons.mp hm with e | hm
    · exact absurd (h1 st (.head _)) (by rw [e]; exact Nat.lt_irrefl _)
    · rcases List.mem_cons.mp hm with e | hm
      · exact absurd (h2 st (.head _)) (by rw [e]; exact Nat.lt_irrefl _)
      · exact nd.1 hm
  · rcases List.mem_cons.mp hm with e | hm
    · exact absurd h3 (by rw [e]; exact Nat.lt_irrefl _)
    · exact absurd (h1 d (.tail _ hm)) (Nat.lt_irrefl _)
  · exact absurd (h2 f (.tail _ hm)) (Nat.lt_irrefl _)
theorem nd_mid {st x : Addr} {F R : List Addr} (nd : (st :: (F ++ R)).Nodup) (h : ∀ a ∈ st :: (F ++ R), a < x) : (st :: (F ++ x :: R)).Nodup := by
  have p : (st :: (F ++ x :: R)).Perm (x :: st :: (F ++ R)) := by
    refine (List.Perm.cons st List.perm_middle).trans ?_
    exact List.Perm.swap _ _ _
  rw [p.nodup_iff, List.nodup_cons]
  exact ⟨fun hm => absurd (h x hm) (Nat.lt_irrefl _), nd⟩
theorem mv_fin {α : Type} {x d f d2 f2 a b : α} {F T : List α} : ∀ p ∈ x :: d2 :: f2 :: (F ++ (b :: a :: T)), p ∈ b :: a :: x :: d :: f :: d2 :: f2 :: (F ++ T) := by
  intro p hp
  simp only [List.mem_cons, List.mem_append] at hp ⊢
  rcases hp with h | h | h | h | h | h | h <;> simp [h]
theorem mv_var {α : Type} {x d f a : α} {F T S I : List α} : ∀ p ∈ x :: d :: f :: (F ++ (a :: T ++ (S ++ I))), p ∈ a :: (S ++ (x :: d :: f :: (F ++ (T ++ I)))) := by
  intro p hp
  simp only [List.mem_cons, List.mem_append] at hp ⊢
  rcases hp with h | h | h | h | (h | h) | h | h <;> simp [h]
theorem mv_pre {α : Type} {x d f : α} {F T S I : List α} : ∀ p ∈ S ++ (x :: d :: f :: (F ++ (T ++ I))), p ∈ x :: d :: f :: (F ++ (T ++ (S ++ I))) := by
  intro p hp
  simp only [List.mem_cons, List.mem_append] at hp ⊢
  rcases hp with h | h | h | h | h | h | h <;> simp [h]
theorem mv_push {α : Type} {x a b : α} {T : List α} : ∀ p ∈ x :: a :: b :: T, p ∈ b :: a :: x :: T := by
  intro p hp
  simp only [List.mem_cons] at hp ⊢
  rcases hp with h | h | h | h <;> simp [h]
theorem mem_ins {α : Type} {x y a : α} {F R : List α} (h : y ∈ x :: (F ++ a :: R)) : y = a ∨ y ∈ x :: (F ++ R) := by
  simp only [List.mem_cons, List.mem_append] at h ⊢
  rcases h with h | h | h | h <;> simp [h]
theorem nd_drop {α : Type} {x d f : α} {R : List α} (h : (x :: d :: f :: R).Nodup) : (x :: R).Nodup := by
  simp only [List.nodup_cons, List.mem_cons, not_or] at h ⊢
  exact ⟨h.1.2.2, h.2.2.2⟩
theorem nd_pre {x d f : Addr} {F T S I : List Addr} (h : (x :: d :: f :: (F ++ (T ++ (S ++ I)))).Nodup) : (S ++ (x :: d :: f :: (F ++ (T ++ I)))).Nodup := by
  have e : (S ++ (x :: d :: f :: (F ++ (T ++ I)))).Perm (x :: d :: f :: (F ++ (T ++ (S ++ I)))) := by
    refine List.perm_append_comm.trans ?_
    simp only [List.cons_append]
    refine .cons _ (.cons _ (.cons _ ?_))
    rw [List.append_assoc]
    refine List.Perm.append_left _ ?_
    rw [List.append_assoc]
    exact List.Perm.append_left _ List.perm_append_comm
  exact e.nodup_iff.mpr h
noncomputable def RInv {σ : Type} (val : σ → Int → Int) (nxt : σ → Int → σ) (tps im : List (Addr × Obj)) (res : Option Value) (G : T × σ) (s1 : σ) : List FR → Prop
  | [] => ∃ rv tr, res = some rv ∧ TIn tps rv tr ∧ (tr, s1) = G
  | fr :: r => FOk tps im 0 fr ∧ (∀ fr' ∈ r, FOk tps im 1 fr') ∧ finish val nxt s1 fr r = G
theorem nd_start {st d f : Addr} {R : List Addr} (nd : R.Nodup) (h1 : ∀ a ∈ R, a < d) (h2 : d < f) (h3 : f < st) : (st :: d :: f :: R).Nodup := by
  rw [List.nodup_cons, List.nodup_cons, List.nodup_cons]
  have a1 : ∀ x ∈ R, x < f := fun x hx => Nat.lt_trans (h1 x hx) h2
  refine ⟨fun hm => ?_, fun hm => ?_, fun hm => ?_, nd⟩
  · rcases List.mem_cons.mp hm with e | hm
    · exact absurd (Nat.lt_trans h2 h3) (by rw [e]; exact Nat.lt_irrefl _)
    · rcases List.mem_cons.mp hm with e | hm
      · exact absurd h3 (by rw [e]; exact Nat.lt_irrefl _)
      · exact absurd (Nat.lt_trans (a1 _ hm) h3) (Nat.lt_irrefl _)
  · rcases List.mem_cons.mp hm with e | hm
    · exact absurd h2 (by rw [e]; exact Nat.lt_irrefl _)
    · exact absurd (h1 d hm) (Nat.lt_irrefl _)
  · exact absurd (a1 f hm) (Nat.lt_irrefl _)
theorem nd_fresh {x : Addr × Obj} {sl sl' im : List (Addr × Obj)} (e : sl'.map Prod.fst = sl.map Prod.fst) (nd : ((sl ++ im).map Prod.fst).Nodup) (h : ∀ p ∈ sl ++ im, p.1 < x.1) : ((x :: (sl' ++ im)).map Prod.fst).Nodup := by
  rw [List.map_cons, List.map_append, e, ← List.map_append, List.nodup_cons]
  refine ⟨fun hm => ?_, nd⟩
  obtain ⟨p, hp, q⟩ := List.mem_map.mp hm
  exact absurd (h p hp) (by rw [q]; exact Nat.lt_irrefl _)
/-- what a closure does with an int, over a ledger of its own -/
noncomputable def Chg (prog : Program) (w : World) (ca : Addr) {σ : Type} (St : σ → List (Addr × Obj) → Prop) (val : σ → Int → Int) (nxt : σ → Int → σ) (bd : σ → Nat) (n u : Nat) : Prop :=
  (∀ s sl, St s sl → ∃ oc od fd slt, (ca, (⟨oc, od, .func fd, slt⟩ : Obj)) ∈ sl) ∧ (∀ s k, bd (nxt s k) ≤ bd s + 1) ∧
  ∀ s k t sl im, St s sl → bd s ≤ 900 → ((sl ++ im).map Prod.fst).Nodup → FSpec prog w ca [.int k t] n u (sl ++ im) (fun r news' => ∃ ta n' t1 t2 sl', r = .ref ta ∧ news' = (ta, tupN [.str (Str.ofString "v") t1, .int (val s k) t2] n') :: (sl' ++ im) ∧
    St (nxt s k) sl' ∧ sl'.map Prod.fst = sl.map Prod.fst ∧ ∀ p ∈ sl ++ im, p.1 < ta)
/-- what rebuild does, for any closure -/
noncomputable def RebStmt (prog : Program) (w : World) : Prop :=
  ∀ {ca : Addr} {σ : Type} {St : σ → List (Addr × Obj) → Prop} {val : σ → Int → Int} {nxt : σ → Int → σ} {bd : σ → Nat} {cn' cu : Nat}, Chg prog w ca St val nxt bd cn' cu →
    ∀ {t : T} {v : Value} {sl im : List (Addr × Obj)} {s₀ : σ}, t.ok → TIn im v t → St s₀ sl → bd s₀ + 2 * t.sz ≤ 900 → ((sl ++ im).map Prod.fst).Nodup →
    FSpec prog w 35 [v, .ref ca, .bool false] (cn' + 10) (cu + 200) (sl ++ im)
      (fun r news' => ∃ tl sl', news' = tl ++ (sl' ++ im) ∧ Ext (sl ++ im) tl ∧ TIn (tl ++ im) r (T.mapS val nxt s₀ t).1 ∧ St (T.mapS val nxt s₀ t).2 sl' ∧ sl'.map Prod.fst = sl.map Prod.fst ∧ ((tl ++ (sl' ++ im)).map Prod.fst).Nodup)
end Mine

end
section
open PySem PySem.Spec PySem.Calls PySem.W PyProof.Rows PyProof.V
namespace Mine
theorem hideQ {M : Model} {A : Around} {α : Type} {t : Sem α} {Q : α → Shared → Prop} {E : Value → Shared → Prop} {s : Shared} (h : ∀ Q', Q' = Q → wpAny M A t Q' E s) : wpAny M A t Q E s := h Q rfl
theorem hideE {M : Model} {A : Around} {env : Env} {α : Type} {t : Sem α} {Q : α → Shared → Prop} {E : Value → Shared → Prop} {s : Shared} (hp : PassesOwn M A env E) (h : ∀ E', PassesOwn M A env E' → wpAny M A t Q E' s) : wpAny M A t Q E s := h E hp
section
variable {prog : Program} {w : World} {A : Around} {E : Value → Shared → Prop} {s : Shared} {a b : Int} {t u : Tok} {Q : Value → Shared → Prop}
theorem eq_int_no (h : ¬ a = b) (hq : Q (.bool false) s) : wpAny (model prog w) A (compareOp .Eq (.int a t) (.int b u)) Q E s := eq_int (by rw [show (a == b) = false from beq_false_of_ne h]; exact hq)
theorem eq_int_yes (h : a = b) (hq : Q (.bool true) s) : wpAny (model prog w) A (compareOp .Eq (.int a t) (.int b u)) Q E s := eq_int (by rw [show (a == b) = true from beq_iff_eq.mpr h]; exact hq)
theorem ne_int_same (hq : Q (.bool false) s) : wpAny (model prog w) A (compareOp .NotEq (.int a t) (.int a u)) Q E s := ne_int (by rw [show (a != a) = false from bne_self_eq_false a]; exact hq)
theorem eq_bool_same {c : Bool} (hq : Q (.bool true) s) : wpAny (model prog w) A (compareOp .Eq (.bool c) (.bool c)) Q E s := eq_bool (by rw [beq_self_eq_true]; exact hq)
end
end Mine

end
section
open PySem PySem.Spec PySem.Calls PySem.W PyProof.Rows PyProof.V
namespace Mine
theorem news_fun {h₀ h : Heap} {L : Addr} {news : List (Addr × Obj)} (N : News h₀ L h news) {p q : Addr × Obj} (hp : p ∈ news) (hq : q ∈ news) (e : p.1 = q.1) : p = q := by
  have a := (N p hp).1
  have b := (N q hq).1
  rw [e, b] at a
  exact Prod.ext e (Option.some.inj a).symm
theorem news_norm {h₀ h : Heap} {L : Addr} : ∀ {news : List (Addr × Obj)}, News h₀ L h news → ∃ nw : List (Addr × Obj), (∀ p, p ∈ nw ↔ p ∈ news) ∧ (nw.map Prod.fst).Nodup
  | [], _ => ⟨[], fun _ => Iff.rfl, List.nodup_nil⟩
  | x :: r, N => by
    obtain ⟨nw, h1, h2⟩ := news_norm (fun p hp => N p (.tail _ hp) : News h₀ L h r)
    by_cases hx : x.1 ∈ nw.map Prod.fst
    · obtain ⟨q, hq, e⟩ := List.mem_map.mp hx
      have hq' := (h1 q).mp hq
      have e2 := news_fun N (.tail _ hq') (.head _) e
      refine ⟨nw, fun p => ⟨fun hp => .tail _ ((h1 p).mp hp), fun hp => ?_⟩, h2⟩
      rcases List.mem_cons.mp hp with rfl | hp
      · exact e2 ▸ hq
      · exact (h1 p).mpr hp
    · refine ⟨x :: nw, fun p => ?_, List.nodup_cons.mpr ⟨hx, h2⟩⟩
      rw [List.mem_cons, List.mem_cons, h1 p]
theorem news_split {h₀ h : Heap} {L : Addr} {news : List (Addr × Obj)} (N : News h₀ L h news) {x : Addr × Obj} (hx : x ∈ news) :
    ∃ nw : List (Addr × Obj), (∀ p, p ∈ x :: nw ↔ p ∈ news) ∧ ((x :: nw).map Prod.fst).Nodup ∧ News h₀ L h (x :: nw) := by
  obtain ⟨nw, h1, h2⟩ := news_norm N
  obtain ⟨l1, l2, rfl⟩ := List.append_of_mem ((h1 x).mpr hx)
  have hm : ∀ p, p ∈ x :: (l1 ++ l2) ↔ p ∈ l1 ++ x :: l2 := fun p => by
    simp only [List.mem_cons, List.mem_append]; grind
  refine ⟨l1 ++ l2, fun p => (hm p).trans (h1 p), ?_, fun p hp => N p ((h1 p).mp ((hm p).mp hp))⟩
  have pm : (x :: (l1 ++ l2)).Perm (l1 ++ x :: l2) := List.perm_middle.symm
  exact ((pm.map Prod.fst).nodup_iff).mpr h2
noncomputable def IsTp (o : Obj) : Prop := ∃ vs n, o = tupN vs n
mutual
theorem TIn.tup {A B : List (Addr × Obj)} (hs : ∀ p ∈ A, IsTp p.2 → p ∈ B) : ∀ {t : T} {v : Value}, TIn A v t → TIn B v t
  | .v k, v, h => by obtain ⟨a, t1, t2, n, rfl, hm⟩ := in_v h; exact v_in (hs _ hm ⟨_, _, rfl⟩)
  | .c true k, v, h => by obtain ⟨a, t1, t2, n, rfl, hm⟩ := in_i h; exact i_in (hs _ hm ⟨_, _, rfl⟩)
  | .c false k, v, h => by obtain ⟨a, t1, t2, n, rfl, hm⟩ := in_a h; exact a_in (hs _ hm ⟨_, _, rfl⟩)
  | .s f l, v, h => by obtain ⟨a, t1, t2, n, b, vs, n', rfl, hm, hb, hr⟩ := in_s h; exact s_in (hs _ hm ⟨_, _, rfl⟩) (hs _ hb ⟨_, _, rfl⟩) (TAll.tup hs hr)
theorem TAll.tup {A B : List (Addr × Obj)} (hs : ∀ p ∈ A, IsTp p.2 → p ∈ B) : ∀ {l : List T} {vs : List Value}, TAll A vs l → TAll B vs l
  | [], vs, h => by have e := all_nil h; subst e; exact .nil
  | t :: l, vs, h => by
    obtain ⟨v, vs', rfl, h1, h2⟩ := all_cons h
    exact .cons (TIn.tup hs h1) (TAll.tup hs h2)
end
theorem TIn.ref {A : List (Addr × Obj)} {v : Value} {t : T} (h : TIn A v t) : ∃ x, v = .ref x := by
  cases t with
  | v k => obtain ⟨a, _, _, _, rfl, _⟩ := in_v h; exact ⟨_, rfl⟩
  | c g k => cases g with
    | true => obtain ⟨a, _, _, _, rfl, _⟩ := in_i h; exact ⟨_, rfl⟩
    | false => obtain ⟨a, _, _, _, rfl, _⟩ := in_a h; exact ⟨_, rfl⟩
  | s f l => obtain ⟨a, _, _, _, _, _, _, rfl, _⟩ := in_s h; exact ⟨_, rfl⟩
theorem not_tp_fields {o : Obj} {vs : Array Value} (h : o.data = .fields vs) : ¬ IsTp o := by
  rintro ⟨v, n, rfl⟩; cases h
theorem not_tp_list {vs : Array Value} {n : Nat} : ¬ IsTp (PySem.W.listOf vs n) := by
  rintro ⟨v, k, e⟩
  have := congrArg Obj.cls e
  simp at this
theorem not_tp_tab {ps : Array Value} : ¬ IsTp (tabObj ps) := by
  rintro ⟨v, k, e⟩
  have := congrArg Obj.cls e
  simp at this
theorem not_tp_dict {prog : Program} {w : World} {o : Obj} {ps : List (Int × Int)} (h : DictIs prog w o ps) : ¬ IsTp o := by
  rintro ⟨v, k, rfl⟩
  obtain ⟨kvs, ⟨es, ep, _, e, _⟩, b⟩ := h
  cases e
end Mine

end
section
open PySem PySem.Spec PySem.Calls PySem.W PyProof.Rows PyProof.V
namespace Mine
theorem lookup_none_any (k : Int) : ∀ ps : List (Int × Int), ps.lookup k = none → ps.any (fun p => decide (p.1 = k)) = false
  | [], _ => rfl
  | (a, b) :: r, h => by
    rw [List.lookup_cons] at h
    by_cases e : k = a
    · subst e; simp at h
    · have e' : (k == a) = false := by simpa using e
      rw [e'] at h
      rw [List.any_cons, lookup_none_any k r h, decide_eq_false (fun q => e q.symm)]
      rfl
theorem put_new {k v : Int} {ps : List (Int × Int)} (h : ps.lookup k = none) : put k v ps = ps ++ [(k, v)] := by
  unfold put; rw [lookup_none_any k ps h]; rfl
theorem lookup_snoc {k v : Int} : ∀ {ps : List (Int × Int)}, ps.lookup k = none → (ps ++ [(k, v)]).lookup k = some v
  | [], _ => by simp
  | (a, b) :: r, h => by
    rw [List.lookup_cons] at h
    rw [List.cons_append, List.lookup_cons]
    by_cases e : k = a
    · subst e; simp at h
    · have e' : (k == a) = false := by simpa using e
      rw [e'] at h ⊢
      exact lookup_snoc h
noncomputable def nval (ps : List (Int × Int)) (k : Int) : Int := (ps.lookup k).getD ps.length
noncomputable def nnxt (ps : List (Int × Int)) (k : Int) : List (Int × Int) := if (ps.lookup k).isSome then ps else ps ++ [(k, (ps.length : Int))]
theorem nnxt_len (ps : List (Int × Int)) (k : Int) : (nnxt ps k).length ≤ ps.length + 1 := by
  unfold nnxt; split
  · omega
  · simp
section
variable {prog : Program} {w : World} {A : Around} {E : Value → Shared → Prop} {s : Shared} {h₀ : Heap} {L d : Addr} {m : Str → Option Value} {news : List (Addr × Obj)} {g : Obj → List (Addr × Obj)} {o : Obj} {ps : List (Int × Int)} {k j : Int} {t t2 : Tok}
theorem d_notin1 {Q : Value → Shared → Prop} (N : News h₀ L s.heap news) (hm : (d, o) ∈ news) (lo : (d == sysModules) = false) (ho : DictIs prog w o ps) (hl : ps.lookup k = some j)
    (h : Q (.bool false) { s with toks := s.toks + 1 }) : wpAny (model prog w) A (compareOp .NotIn (.int k t) (.ref d)) Q E s :=
  d_notin N hm lo ho (by rw [hl]; exact h)
theorem d_notin0 {Q : Value → Shared → Prop} (N : News h₀ L s.heap news) (hm : (d, o) ∈ news) (lo : (d == sysModules) = false) (ho : DictIs prog w o ps) (hl : ps.lookup k = none)
    (h : Q (.bool true) { s with toks := s.toks + 1 }) : wpAny (model prog w) A (compareOp .NotIn (.int k t) (.ref d)) Q E s :=
  d_notin N hm lo ho (by rw [hl]; exact h)
end
end Mine

end
section
open PySem PySem.Spec PySem.Calls PySem.W PyProof.Rows PyProof.V
namespace Mine
theorem lookup_append_none {α β : Type} [BEq α] {k : α} : ∀ {A B : List (α × β)}, A.lookup k = none → (A ++ B).lookup k = B.lookup k
  | [], _, _ => rfl
  | (a, b) :: r, B, h => by
    rw [List.lookup_cons] at h
    rw [List.cons_append, List.lookup_cons]
    cases hk : k == a with
    | true => rw [hk] at h; cases h
    | false => rw [hk] at h; exact lookup_append_none h
theorem lookup_append_some {α β : Type} [BEq α] {k : α} {v : β} : ∀ {A B : List (α × β)}, A.lookup k = some v → (A ++ B).lookup k = some v
  | (a, b) :: r, B, h => by
    rw [List.lookup_cons] at h
    rw [List.cons_append, List.lookup_cons]
    cases hk : k == a with
    | true => rw [hk] at h; exact h
    | false => rw [hk] at h; exact lookup_append_some h
theorem lookup_mapput (k v j : Int) : ∀ ps : List (Int × Int), (ps.map (fun p => if p.1 = k then (p.1, v) else p)).lookup j = if j = k then (ps.lookup j).map (fun _ => v) else ps.lookup j
  | [] => by simp
  | (a, b) :: r => by
    have ih := lookup_mapput k v j r
    rw [List.map_cons]
    by_cases h1 : a = k
    · subst h1
      simp only [if_true, List.lookup_cons]
      by_cases h2 : j = a
      · subst h2; simp
      · have e : (j == a) = false := by simpa using h2
        rw [e, if_neg h2]
        rw [if_neg h2] at ih
        exact ih
    · simp only [if_neg h1, List.lookup_cons]
      by_cases h2 : j = a
      · subst h2; simp [h1]
      · have e : (j == a) = false := by simpa using h2
        rw [e]
        exact ih
theorem any_lookup (k : Int) : ∀ ps : List (Int × Int), ps.any (fun p => decide (p.1 = k)) = (ps.lookup k).isSome
  | [] => rfl
  | (a, b) :: r => by
    rw [List.any_cons, List.lookup_cons, any_lookup k r]
    by_cases h : k = a
    · subst h; simp
    · have e : (k == a) = false := by simpa using h
      rw [e, decide_eq_false (fun q => h q.symm)]; rfl
theorem lookup_put (k v j : Int) (ps : List (Int × Int)) : (put k v ps).lookup j = if j = k then some v else ps.lookup j := by
  unfold put
  rw [any_lookup]
  cases h : ps.lookup k with
  | some b =>
    rw [Option.isSome_some, if_pos rfl, lookup_mapput]
    by_cases e : j = k
    · subst e; rw [if_pos rfl, if_pos rfl, h]; rfl
    · rw [if_neg e, if_neg e]
  | none =>
    rw [Option.isSome_none, if_neg (by decide)]
    by_cases e : j = k
    · subst e; rw [lookup_append_none h, if_pos rfl]; simp
    · rw [if_neg e]
      cases h2 : ps.lookup j with
      | some b => exact lookup_append_some h2
      | none =>
        rw [lookup_append_none h2]
        have e2 : (j == k) = false := by simpa using e
        rw [List.lookup_cons, e2]; rfl
theorem put_length (k v : Int) (ps : List (Int × Int)) : (put k v ps).length ≤ ps.length + 1 := by
  unfold put; split
  · rw [List.length_map]; omega
  · simp
noncomputable def Cons (f g : Int → Int) (ks : List Int) : Prop := ∀ x ∈ ks, ∀ y ∈ ks, f x = f y ↔ g x = g y
structure VInv (f g : Int → Int) (ps1 ps2 : List (Int × Int)) (xs : List Int) : Prop where
  h1 : ∀ a b, ps1.lookup a = some b ↔ ∃ x ∈ xs, f x = a ∧ g x = b
  h2 : ∀ a b, ps2.lookup b = some a ↔ ∃ x ∈ xs, f x = a ∧ g x = b
section
variable {f g : Int → Int} {ps1 ps2 : List (Int × Int)} {xs ks : List Int} {k : Int}
theorem VInv.nil : VInv f g [] [] [] := ⟨fun a b => by simp, fun a b => by simp⟩
theorem getD_some {o : Option Int} {b c : Int} (h : o.getD b = b) (e : o = some c) : c = b := by subst e; exact h
theorem VInv.step (h : VInv f g ps1 ps2 xs) (c1 : (ps1.lookup (f k)).getD (g k) = g k) (c2 : (ps2.lookup (g k)).getD (f k) = f k) : VInv f g (put (f k) (g k) ps1) (put (g k) (f k) ps2) (k :: xs) := by
  refine ⟨fun a b => ?_, fun a b => ?_⟩
  · rw [lookup_put]
    by_cases e : a = f k
    · subst e
      rw [if_pos rfl]
      refine ⟨fun q => ⟨k, .head _, rfl, Option.some.inj q⟩, ?_⟩
      rintro ⟨x, hx, e1, e2⟩
      rcases List.mem_cons.mp hx with rfl | hx
      · rw [e2]
      · have := (h.h1 (f k) b).mpr ⟨x, hx, e1, e2⟩
        rw [getD_some c1 this]
    · rw [if_neg e, h.h1]
      refine ⟨fun ⟨x, hx, q⟩ => ⟨x, .tail _ hx, q⟩, ?_⟩
      rintro ⟨x, hx, e1, e2⟩
      rcases List.mem_cons.mp hx with rfl | hx
      · exact absurd e1.symm e
      · exact ⟨x, hx, e1, e2⟩
  · rw [lookup_put]
    by_cases e : b = g k
    · subst e
      rw [if_pos rfl]
      refine ⟨fun q => ⟨k, .head _, Option.some.inj q, rfl⟩, ?_⟩
      rintro ⟨x, hx, e1, e2⟩
      rcases List.mem_cons.mp hx with rfl | hx
      · rw [e1]
      · have := (h.h2 a (g k)).mpr ⟨x, hx, e1, e2⟩
        rw [getD_some c2 this]
    · rw [if_neg e, h.h2]
      refine ⟨fun ⟨x, hx, q⟩ => ⟨x, .tail _ hx, q⟩, ?_⟩
      rintro ⟨x, hx, e1, e2⟩
      rcases List.mem_cons.mp hx with rfl | hx
      · exact absurd e2.symm e
      · exact ⟨x, hx, e1, e2⟩
theorem VInv.bad1 (h : VInv f g ps1 ps2 xs) (c : ¬ (ps1.lookup (f k)).getD (g k) = g k) (hk : k ∈ ks) (hx : ∀ x ∈ xs, x ∈ ks) : ¬ Cons f g ks := fun hc => by
  cases e : ps1.lookup (f k) with
  | none => rw [e] at c; exact c rfl
  | some b =>
    obtain ⟨x, hm, e1, e2⟩ := (h.h1 _ _).mp e
    rw [e] at c
    exact c (by show b = g k; rw [← e2]; exact (hc x (hx x hm) k hk).mp e1)
theorem VInv.bad2 (h : VInv f g ps1 ps2 xs) (c : ¬ (ps2.lookup (g k)).getD (f k) = f k) (hk : k ∈ ks) (hx : ∀ x ∈ xs, x ∈ ks) : ¬ Cons f g ks := fun hc => by
  cases e : ps2.lookup (g k) with
  | none => rw [e] at c; exact c rfl
  | some b =>
    obtain ⟨x, hm, e1, e2⟩ := (h.h2 _ _).mp e
    rw [e] at c
    exact c (by show b = f k; rw [← e1]; exact (hc x (hx x hm) k hk).mpr e2)
theorem VInv.cons (h : VInv f g ps1 ps2 xs) : Cons f g xs := fun x hx y hy => by
  have a := (h.h1 (f x) (g x)).mpr ⟨x, hx, rfl, rfl⟩
  have b := (h.h1 (f y) (g y)).mpr ⟨y, hy, rfl, rfl⟩
  have c := (h.h2 (f x) (g x)).mpr ⟨x, hx, rfl, rfl⟩
  have d := (h.h2 (f y) (g y)).mpr ⟨y, hy, rfl, rfl⟩
  constructor
  · intro e; rw [e, b] at a; exact (Option.some.inj a).symm
  · intro e; rw [e, d] at c; exact (Option.some.inj c).symm
end
noncomputable def PIn (f g : Int → Int) (im : List (Addr × Obj)) (v : Value) (u : T) : Prop := ∃ P x y n, v = .ref P ∧ (P, tupN [x, y] n) ∈ im ∧ TIn im x (u.map f) ∧ TIn im y (u.map g)
inductive PAll (f g : Int → Int) (im : List (Addr × Obj)) : List Value → List T → Prop
  | nil : PAll f g im [] []
  | snoc {vs us v u} : PAll f g im vs us → PIn f g im v u → PAll f g im (vs ++ [v]) (us ++ [u])
section
variable {f g : Int → Int} {im im' : List (Addr × Obj)}
theorem PIn.mono (h : ∀ p ∈ im, p ∈ im') {v : Value} {u : T} : PIn f g im v u → PIn f g im' v u :=
  fun ⟨P, x, y, n, e, hm, hx, hy⟩ => ⟨P, x, y, n, e, h _ hm, DatIn.mono h hx, DatIn.mono h hy⟩
theorem PAll.mono (h : ∀ p ∈ im, p ∈ im') {vs : List Value} {us : List T} (k : PAll f g im vs us) : PAll f g im' vs us := by
  induction k with
  | nil => exact .nil
  | snoc _ b ih => exact .snoc ih (b.mono h)
theorem PAll.len {vs : List Value} {us : List T} (k : PAll f g im vs us) : vs.length = us.length := by
  induction k with
  | nil => rfl
  | snoc _ b ih => rw [List.length_append, List.length_append, ih]; rfl
theorem PAll.inv {vs : List Value} {us : List T} (k : PAll f g im vs us) : (vs = [] ∧ us = []) ∨ ∃ vs' v us' u, vs = vs' ++ [v] ∧ us = us' ++ [u] ∧ PAll f g im vs' us' ∧ PIn f g im v u := by
  cases k with
  | nil => exact .inl ⟨rfl, rfl⟩
  | snoc a b => exact .inr ⟨_, _, _, _, rfl, rfl, a, b⟩
end
end Mine

end
section
open PySem PySem.Spec PySem.Calls PySem.W PyProof.Rows PyProof.V
namespace Mine
mutual
theorem T.dat_inj : ∀ {t u : T}, t.dat = u.dat → t = u
  | .v a, .v b, h => by simp [T.dat] at h; rw [h]
  | .v a, .c true b, h => by simp [T.dat] at h; exact absurd h.1 (by decide)
  | .v a, .c false b, h => by simp [T.dat] at h; exact absurd h.1 (by decide)
  | .v a, .s f l, h => by simp [T.dat] at h
  | .c true a, .v b, h => by simp [T.dat] at h; exact absurd h.1 (by decide)
  | .c true a, .c true b, h => by simp [T.dat] at h; rw [h]
  | .c true a, .c false b, h => by simp [T.dat] at h; exact absurd h.1 (by decide)
  | .c true a, .s f l, h => by simp [T.dat] at h
  | .c false a, .v b, h => by simp [T.dat] at h; exact absurd h.1 (by decide)
  | .c false a, .c true b, h => by simp [T.dat] at h; exact absurd h.1 (by decide)
  | .c false a, .c false b, h => by simp [T.dat] at h; rw [h]
  | .c false a, .s f l, h => by simp [T.dat] at h
  | .s f l, .v b, h => by simp [T.dat] at h
  | .s f l, .c true b, h => by simp [T.dat] at h
  | .s f l, .c false b, h => by simp [T.dat] at h
  | .s f l, .s g r, h => by
    simp [T.dat] at h
    rw [h.1, datsT_inj h.2]
theorem datsT_inj : ∀ {l r : List T}, datsT l = datsT r → l = r
  | [], [], _ => rfl
  | [], _ :: _, h => by simp [datsT] at h
  | _ :: _, [], h => by simp [datsT] at h
  | t :: l, u :: r, h => by
    rw [datsT, datsT, List.cons.injEq] at h
    rw [T.dat_inj h.1, datsT_inj h.2]
end
mutual
theorem dat_ok : ∀ (n : Nat) (t : T), t.dep ≤ n → kqdOk (2 * n + 2) t.dat = true
  | n, .v a, _ => by rw [T.dat]; simp [kqdOk]; decide +kernel
  | n, .c true a, _ => by rw [T.dat]; simp [kqdOk]; decide +kernel
  | n, .c false a, _ => by rw [T.dat]; simp [kqdOk]; decide +kernel
  | n, .s f l, h => by
    rw [T.dep] at h
    obtain ⟨k, rfl⟩ : ∃ k, n = k + 1 := ⟨n - 1, by omega⟩
    rw [T.dat]
    have q := dats_ok k l (by omega)
    have e : 2 * (k + 1) + 2 = ((2 * k + 2) + 1) + 1 := by omega
    rw [e]
    simp only [kqdOk, List.all_cons, List.all_nil, Bool.and_true, Bool.and_eq_true, List.all_eq_true]
    exact ⟨by decide +kernel, trivial, q⟩
theorem dats_ok : ∀ (n : Nat) (l : List T), depT l ≤ n → ∀ d ∈ datsT l, kqdOk (2 * n + 2) d = true
  | _, [], _, _, h => by simp [datsT] at h
  | n, t :: l, h, d, hd => by
    rw [depT] at h
    rw [datsT] at hd
    rcases List.mem_cons.mp hd with rfl | hd
    · exact dat_ok n t (by omega)
    · exact dats_ok n l (by omega) d hd
end
section
variable {prog : Program} {w : World} {A : Around} {E : Value → Shared → Prop} {s : Shared} {h₀ : Heap} {L : Addr} {m : Str → Option Value} {news : List (Addr × Obj)} {t u : T} {x y : Value}
theorem t_eqv (ht : t.dep ≤ 3) (hu : u.dep ≤ 3) : PyData.eqv (kqdP t.dat) (kqdP u.dat) = true ↔ t = u :=
  (kqd_eqv 8 t.dat u.dat 8 (dat_ok 3 t ht) (dat_ok 3 u hu)).trans ⟨T.dat_inj, fun e => by rw [e]⟩
theorem t_shaped (ht : t.dep ≤ 3) : SeqAt.shaped (kqdP t.dat) = true := by
  have la := kqd_lay 8 t.dat (dat_ok 3 t ht)
  unfold SeqAt.shaped; rw [la.1, Bool.true_and]; exact decide_eq_true (Nat.le_trans la.2 (by decide))
theorem t_ne_same {Q : Value → Shared → Prop} (N : News h₀ L s.heap news) (hx : TIn news x t) (hy : TIn news y t) (ht : t.dep ≤ 3) (hu : A.units + 64 < cLine) (h : Q (.bool false) s) :
    wpAny (model prog w) A (compareOp .NotEq x y) Q E s := by
  obtain ⟨as, ra⟩ := kqd_in N 8 hx (dat_ok 3 t ht)
  obtain ⟨bs, rb⟩ := kqd_in N 8 hy (dat_ok 3 t ht)
  refine ne_dataH ra rb (t_shaped ht) (t_shaped ht) hu ?_
  rw [(t_eqv ht ht).mpr rfl]
  exact h
theorem t_eq {Q : Value → Shared → Prop} (N : News h₀ L s.heap news) (hx : TIn news x t) (hy : TIn news y u) (ht : t.dep ≤ 3) (hd : u.dep ≤ 3) (hu : A.units + 64 < cLine) (h : ∀ b : Bool, (b = true ↔ t = u) → Q (.bool b) s) :
    wpAny (model prog w) A (compareOp .Eq x y) Q E s := by
  obtain ⟨as, ra⟩ := kqd_in N 8 hx (dat_ok 3 t ht)
  obtain ⟨bs, rb⟩ := kqd_in N 8 hy (dat_ok 3 u hd)
  exact eq_dataH ra rb (t_shaped ht) (t_shaped hd) hu (h _ (t_eqv ht hd))
theorem l_ne_same {Q : Value → Shared → Prop} {a b : Addr} {vs us : List Value} {n k : Nat} {ns : List Int} (N : News h₀ L s.heap news) (ha : (a, listOf vs.toArray n) ∈ news) (hb : (b, listOf us.toArray k) ∈ news) (hi : IntsAre vs ns) (hj : IntsAre us ns) (hu : A.units + 64 < cLine) (h : Q (.bool false) s) :
    wpAny (model prog w) A (compareOp .NotEq (.ref a) (.ref b)) Q E s :=
  ke_ne_ints (News.isList N ha) (News.isList N hb) hi hj hu (by rw [decide_eq_true rfl]; exact h)
theorem d_rows : ∀ (qs ps : List (Int × Int)), (∀ p ∈ qs, ps.lookup p.1 = some p.2) → KeqRows (enc2 ps) (enc2 qs) true
  | [], _, _ => .nil
  | p :: r, ps, h => by
    have e : (PyData.eqv (.int p.2) (.int p.2) && true) = true := by simp [PyData.eqv]
    have q : KeqRows (enc2 ps) ((PyData.int p.1, PyData.int p.2) :: enc2 r) (PyData.eqv (.int p.2) (.int p.2) && true) :=
      .hit (by rw [lookup_enc, h p (.head _)]; rfl) (d_rows r ps fun x hx => h x (.tail _ hx))
    rw [e] at q
    exact q
theorem lookup_mem : ∀ {ps : List (Int × Int)}, (ps.map Prod.fst).Nodup → ∀ p ∈ ps, ps.lookup p.1 = some p.2
  | [], _, _, h => nomatch h
  | (a, b) :: r, nd, p, hp => by
    rw [List.map_cons, List.nodup_cons] at nd
    rw [List.lookup_cons]
    rcases List.mem_cons.mp hp with rfl | hp
    · simp
    · have e : (p.1 == a) = false := by
        simp only [beq_eq_false_iff_ne, ne_eq]
        intro e
        exact nd.1 (List.mem_map.mpr ⟨p, hp, e⟩)
      rw [e]
      exact lookup_mem nd.2 p hp
theorem d_ne_same {Q : Value → Shared → Prop} {a b : Addr} {oa ob : Obj} {ps : List (Int × Int)} (N : News h₀ L s.heap news) (ha : (a, oa) ∈ news) (hb : (b, ob) ∈ news) (la : (a == sysModules) = false) (lb : (b == sysModules) = false) (ia : DictIs prog w oa ps) (ib : DictIs prog w ob ps) (nd : (ps.map Prod.fst).Nodup) (hu : A.units < cLine) (h : Q (.bool false) s) :
    wpAny (model prog w) A (compareOp .NotEq (.ref a) (.ref b)) Q E s :=
  kne_tabs same_int (ia.tab N ha la) (ib.tab N hb lb) rfl hu (d_rows ps ps (lookup_mem nd)) h
end
end Mine

end
section
open PySem PySem.Spec PySem.Calls PySem.W PyProof.Rows PyProof.V
namespace Mine
mutual
theorem map_occ (f : Int → Int) : ∀ t : T, (t.map f).occ = t.occ.map f
  | .v k => rfl
  | .c g k => rfl
  | .s n l => by rw [T.map, T.occ, T.occ, mapT_occ f l]
theorem mapT_occ (f : Int → Int) : ∀ l : List T, occT (mapT f l) = (occT l).map f
  | [] => rfl
  | t :: r => by rw [mapT, occT, occT, List.map_append, map_occ f t, mapT_occ f r]
end
mutual
theorem map_dep (f : Int → Int) : ∀ t : T, (t.map f).dep = t.dep
  | .v k => rfl
  | .c g k => rfl
  | .s n l => by rw [T.map, T.dep, T.dep, mapT_dep f l]
theorem mapT_dep (f : Int → Int) : ∀ l : List T, depT (mapT f l) = depT l
  | [] => rfl
  | t :: r => by rw [mapT, depT, depT, map_dep f t, mapT_dep f r]
end
mutual
theorem map_sz (f : Int → Int) : ∀ t : T, (t.map f).sz = t.sz
  | .v k => rfl
  | .c g k => rfl
  | .s n l => by rw [T.map, T.sz, T.sz, mapT_sz f l]
theorem mapT_sz (f : Int → Int) : ∀ l : List T, szT (mapT f l) = szT l
  | [] => rfl
  | t :: r => by rw [mapT, szT, szT, map_sz f t, mapT_sz f r]
end
mutual
theorem map_ok (f : Int → Int) : ∀ t : T, t.ok → (t.map f).ok
  | .v k, _ => by rw [T.map, T.ok]; trivial
  | .c g k, _ => by rw [T.map, T.ok]; trivial
  | .s n l, h => by
    rw [T.ok] at h
    rw [T.map, T.ok, mapT_eq, List.length_map, ← mapT_eq]
    exact ⟨h.1, h.2.1, mapT_ok f l h.2.2⟩
theorem mapT_ok (f : Int → Int) : ∀ l : List T, okT l → okT (mapT f l)
  | [], _ => by rw [mapT, okT]; trivial
  | t :: r, h => by
    rw [okT] at h
    rw [mapT, okT]
    exact ⟨map_ok f t h.1, mapT_ok f r h.2⟩
end
mutual
theorem map_map (f g : Int → Int) : ∀ t : T, (t.map f).map g = t.map (fun k => g (f k))
  | .v k => rfl
  | .c b k => rfl
  | .s n l => by rw [T.map, T.map, T.map, mapT_map f g l]
theorem mapT_map (f g : Int → Int) : ∀ l : List T, mapT g (mapT f l) = mapT (fun k => g (f k)) l
  | [] => rfl
  | t :: r => by rw [mapT, mapT, mapT, map_map f g t, mapT_map f g r]
end
mutual
theorem map_congr {f g : Int → Int} : ∀ {t : T}, (∀ k ∈ t.occ, f k = g k) → t.map f = t.map g
  | .v k, h => by rw [T.map, T.map, h k (by rw [T.occ]; exact .head _)]
  | .c b k, _ => by rw [T.map, T.map]
  | .s n l, h => by
    rw [T.occ] at h
    rw [T.map, T.map, mapT_congr h]
theorem mapT_congr {f g : Int → Int} : ∀ {l : List T}, (∀ k ∈ occT l, f k = g k) → mapT f l = mapT g l
  | [], _ => rfl
  | t :: r, h => by
    rw [occT] at h
    rw [mapT, mapT, map_congr fun k hk => h k (List.mem_append_left _ hk), mapT_congr fun k hk => h k (List.mem_append_right _ hk)]
end
mutual
theorem map_point {f g : Int → Int} : ∀ {t : T}, t.map f = t.map g → ∀ k ∈ t.occ, f k = g k
  | .v k, h, j, hj => by
    rw [T.map, T.map, T.v.injEq] at h
    rw [T.occ, List.mem_singleton] at hj
    rw [hj]; exact h
  | .c b k, _, j, hj => by rw [T.occ] at hj; cases hj
  | .s n l, h, j, hj => by
    rw [T.map, T.map, T.s.injEq] at h
    rw [T.occ] at hj
    exact mapT_point h.2 j hj
theorem mapT_point {f g : Int → Int} : ∀ {l : List T}, mapT f l = mapT g l → ∀ k ∈ occT l, f k = g k
  | [], _, j, hj => by rw [occT] at hj; cases hj
  | t :: r, h, j, hj => by
    rw [mapT, mapT, List.cons.injEq] at h
    rw [occT] at hj
    rcases List.mem_append.mp hj with hj | hj
    · exact map_point h.1 j hj
    · exact mapT_point h.2 j hj
end
mutual
theorem map_id : ∀ t : T, t.map (fun k => k) = t
  | .v k => rfl
  | .c b k => rfl
  | .s n l => by rw [T.map, mapT_id l]
theorem mapT_id : ∀ l : List T, mapT (fun k => k) l = l
  | [] => rfl
  | t :: r => by rw [mapT, map_id t, mapT_id r]
end
noncomputable def bnd : Nat → Nat
  | 0 => 1
  | n + 1 => 3 * bnd n + 1
theorem bnd_pos : ∀ n, 1 ≤ bnd n
  | 0 => Nat.le_refl _
  | n + 1 => by rw [bnd]; omega
mutual
theorem sz_bnd : ∀ (n : Nat) (t : T), t.ok → t.dep ≤ n → t.sz ≤ bnd n
  | n, .v k, _, _ => by rw [T.sz]; exact bnd_pos n
  | n, .c g k, _, _ => by rw [T.sz]; exact bnd_pos n
  | n, .s f l, h, d => by
    rw [T.ok] at h
    rw [T.dep] at d
    obtain ⟨k, rfl⟩ : ∃ k, n = k + 1 := ⟨n - 1, by omega⟩
    have q := szT_bnd k l h.2.2 (by omega)
    rw [T.sz, bnd]
    have q2 : l.length * bnd k ≤ 3 * bnd k := Nat.mul_le_mul_right _ h.2.1
    omega
theorem szT_bnd : ∀ (n : Nat) (l : List T), okT l → depT l ≤ n → szT l ≤ l.length * bnd n
  | _, [], _, _ => by rw [szT]; omega
  | n, t :: l, h, d => by
    rw [okT] at h
    rw [depT] at d
    have a := sz_bnd n t h.1 (by omega)
    have b := szT_bnd n l h.2 (by omega)
    rw [szT, List.length_cons, Nat.succ_mul]
    omega
end
/-! numbering -/
noncomputable def nfold (ps : List (Int × Int)) (ks : List Int) : List (Int × Int) := ks.foldl nnxt ps
theorem nfold_append (ps : List (Int × Int)) (a b : List Int) : nfold ps (a ++ b) = nfold (nfold ps a) b := by unfold nfold; rw [List.foldl_append]
theorem nfold_snoc (ps : List (Int × Int)) (a : List Int) (k : Int) : nfold ps (a ++ [k]) = nnxt (nfold ps a) k := nfold_append ps a [k]
theorem nnxt_keep {ps : List (Int × Int)} {k j v : Int} (h : ps.lookup j = some v) : (nnxt ps k).lookup j = some v := by
  unfold nnxt; split
  · exact h
  · exact lookup_append_some h
theorem nfold_keep {j v : Int} : ∀ (ks : List Int) {ps : List (Int × Int)}, ps.lookup j = some v → (nfold ps ks).lookup j = some v
  | [], _, h => h
  | k :: r, _, h => nfold_keep r (nnxt_keep h)
theorem nnxt_val (ps : List (Int × Int)) (k : Int) : (nnxt ps k).lookup k = some (nval ps k) := by
  unfold nnxt nval
  cases h : ps.lookup k with
  | some v => simp [h]
  | none => simp [lookup_snoc h]
theorem nnxt_hit {ps : List (Int × Int)} {k : Int} (h : (ps.lookup k).isSome) : nnxt ps k = ps := by unfold nnxt; rw [if_pos h]
theorem nnxt_miss {ps : List (Int × Int)} {k : Int} (h : ps.lookup k = none) : nnxt ps k = put k ps.length ps := by unfold nnxt; rw [h, put_new h]; rfl
theorem nfold_some {k : Int} : ∀ (ks : List Int) (ps : List (Int × Int)), k ∈ ks → ((nfold ps ks).lookup k).isSome
  | j :: r, ps, h => by
    rcases List.mem_cons.mp h with rfl | h
    · have := nfold_keep r (nnxt_val ps k)
      rw [show nfold ps (k :: r) = nfold (nnxt ps k) r from rfl, this]; rfl
    · exact nfold_some r (nnxt ps j) h
theorem nfold_nub (ps : List (Int × Int)) : ∀ (ks acc : List Int), nfold ps (nubL acc ks) = nfold (nfold ps acc) ks
  | [], acc => rfl
  | k :: r, acc => by
    show nfold ps (nubL (if k ∈ acc then acc else acc ++ [k]) r) = nfold (nnxt (nfold ps acc) k) r
    rw [nfold_nub ps r]
    by_cases h : k ∈ acc
    · rw [if_pos h, nnxt_hit (nfold_some acc ps h)]
    · rw [if_neg h, nfold_snoc]
mutual
theorem mapS_num : ∀ (t : T) (ps : List (Int × Int)), (T.mapS nval nnxt ps t).2 = nfold ps t.occ ∧ ∀ F : List (Int × Int), (∀ k v, (nfold ps t.occ).lookup k = some v → F.lookup k = some v) → (T.mapS nval nnxt ps t).1 = t.map (fun k => (F.lookup k).getD k)
  | .v k, ps => ⟨rfl, fun F h => by
      have e := h k _ (nnxt_val ps k)
      rw [T.mapS, T.map, e]; rfl⟩
  | .c g k, ps => ⟨rfl, fun F h => rfl⟩
  | .s f l, ps => by
    have q := mapST_num l ps
    refine ⟨q.1, fun F h => ?_⟩
    rw [T.mapS, T.map]
    exact congrArg (T.s f) (q.2 F h)
theorem mapST_num : ∀ (l : List T) (ps : List (Int × Int)), (mapST nval nnxt ps l).2 = nfold ps (occT l) ∧ ∀ F : List (Int × Int), (∀ k v, (nfold ps (occT l)).lookup k = some v → F.lookup k = some v) → (mapST nval nnxt ps l).1 = mapT (fun k => (F.lookup k).getD k) l
  | [], ps => ⟨rfl, fun F h => rfl⟩
  | t :: r, ps => by
    have q := mapS_num t ps
    have p := mapST_num r (T.mapS nval nnxt ps t).2
    rw [q.1] at p
    refine ⟨?_, fun F h => ?_⟩
    · rw [mapST, q.1, p.1, occT, nfold_append]
    · rw [occT, nfold_append] at h
      rw [mapST, mapT, q.1, q.2 F fun k v e => h k v (nfold_keep _ e), p.2 F h]
end
noncomputable def app (F : List (Int × Int)) (k : Int) : Int := (F.lookup k).getD k
theorem num_snd (t : T) (ps : List (Int × Int)) : (T.mapS nval nnxt ps t).2 = nfold ps t.occ := (mapS_num t ps).1
theorem num_fst (t : T) (ps : List (Int × Int)) : (T.mapS nval nnxt ps t).1 = t.map (fun k => ((nfold ps t.occ).lookup k).getD k) := (mapS_num t ps).2 _ fun _ _ e => e
theorem num_nub (t : T) (ps : List (Int × Int)) : nfold ps (nubL [] t.occ) = nfold ps t.occ := nfold_nub ps t.occ []
/-- numbers are places -/
noncomputable def Plc (ps : List (Int × Int)) : Prop := (∀ k v, ps.lookup k = some v → 0 ≤ v ∧ v < ps.length) ∧ ∀ x y v, ps.lookup x = some v → ps.lookup y = some v → x = y
theorem Plc.nil : Plc [] := ⟨fun k v h => by simp at h, fun x y v h => by simp at h⟩
theorem lookup_snoc_iff {ps : List (Int × Int)} {k n x v : Int} (hk : ps.lookup k = none) (h : (ps ++ [(k, n)]).lookup x = some v) : ps.lookup x = some v ∨ (x = k ∧ v = n) := by
  cases e : ps.lookup x with
  | some u => rw [lookup_append_some e] at h; exact .inl h
  | none =>
    rw [lookup_append_none e, List.lookup_cons] at h
    by_cases q : x = k
    · subst q; simp at h; exact .inr ⟨rfl, h.symm⟩
    · have q' : (x == k) = false := by simpa using q
      rw [q'] at h; simp at h
theorem Plc.next {ps : List (Int × Int)} (h : Plc ps) (k : Int) : Plc (nnxt ps k) := by
  unfold nnxt
  split
  · exact h
  · rename_i hn
    have hk : ps.lookup k = none := by
      cases e : ps.lookup k with
      | none => rfl
      | some v => rw [e] at hn; exact absurd rfl hn
    refine ⟨fun x v hx => ?_, fun x y v hx hy => ?_⟩
    · rw [List.length_append, List.length_singleton]
      rcases lookup_snoc_iff hk hx with hx | ⟨_, rfl⟩
      · have := h.1 x v hx; omega
      · omega
    · rcases lookup_snoc_iff hk hx with hx1 | ⟨e0, e1⟩
      · rcases lookup_snoc_iff hk hy with hy1 | ⟨e3, e2⟩
        · exact h.2 x y v hx1 hy1
        · have := h.1 x v hx1; omega
      · rcases lookup_snoc_iff hk hy with hy1 | ⟨e3, e2⟩
        · have := h.1 y v hy1; omega
        · rw [e0, e3]
theorem Plc.fold : ∀ (ks : List Int) {ps : List (Int × Int)}, Plc ps → Plc (nfold ps ks)
  | [], _, h => h
  | k :: r, _, h => Plc.fold r (h.next k)
theorem app_inj {ks : List Int} {x y : Int} (hx : x ∈ ks) (hy : y ∈ ks) (e : ((nfold [] ks).lookup x).getD x = ((nfold [] ks).lookup y).getD y) : x = y := by
  have a := nfold_some ks [] hx
  have b := nfold_some ks [] hy
  obtain ⟨u, hu⟩ := Option.isSome_iff_exists.mp a
  obtain ⟨v, hv⟩ := Option.isSome_iff_exists.mp b
  rw [hu, hv] at e
  have e' : u = v := e
  subst e'
  exact (Plc.fold ks Plc.nil).2 x y u hu hv
theorem sim {f : Int → Int} {S : List Int} (inj : ∀ x ∈ S, ∀ y ∈ S, f x = f y → x = y) : ∀ (ks : List Int) (ps qs : List (Int × Int)), (∀ k ∈ ks, k ∈ S) → ps.length = qs.length → (∀ x ∈ S, qs.lookup (f x) = ps.lookup x) → ∀ x ∈ S, (nfold qs (ks.map f)).lookup (f x) = (nfold ps ks).lookup x
  | [], _, _, _, _, h => h
  | k :: r, ps, qs, hs, hl, h => by
    have hk := hs k (.head _)
    refine sim inj r (nnxt ps k) (nnxt qs (f k)) (fun j hj => hs j (.tail _ hj)) ?_ ?_
    · unfold nnxt
      rw [h k hk]
      split
      · exact hl
      · simp [hl]
    · intro x hx
      unfold nnxt
      rw [h k hk]
      cases e : ps.lookup k with
      | some v => simp only [Option.isSome_some, if_true]; exact h x hx
      | none =>
        simp only [Option.isSome_none, Bool.false_eq_true, if_false]
        have e2 : qs.lookup (f k) = none := (h k hk).trans e
        by_cases q : x = k
        · subst q; rw [lookup_snoc e, lookup_snoc e2, hl]
        · have q2 : f x ≠ f k := fun w => q (inj x hx k hk w)
          have b1 : (x == k) = false := by simpa using q
          have b2 : (f x == f k) = false := by simpa using q2
          cases e3 : ps.lookup x with
          | some u => rw [lookup_append_some e3, lookup_append_some ((h x hx).trans e3)]
          | none => rw [lookup_append_none e3, lookup_append_none ((h x hx).trans e3), List.lookup_cons, List.lookup_cons, b1, b2]; rfl
/-- the numbered term -/
noncomputable abbrev num (t : T) : T := (T.mapS nval nnxt [] t).1
theorem num_map {f : Int → Int} {t : T} (inj : ∀ x ∈ t.occ, ∀ y ∈ t.occ, f x = f y → x = y) : num (t.map f) = num t := by
  unfold num
  rw [num_fst, num_fst, map_map, map_occ]
  refine map_congr fun k hk => ?_
  rw [sim inj t.occ [] [] (fun _ h => h) rfl (fun _ _ => rfl) k hk]
  obtain ⟨u, hu⟩ := Option.isSome_iff_exists.mp (nfold_some t.occ [] hk)
  rw [hu]; rfl
theorem num_shift (t : T) (o : Int) : num (t.map (· + o)) = num t := num_map fun x _ y _ e => by (try dsimp only at e); omega
theorem num_num (t : T) : num (num t) = num t := by
  have e : num t = t.map (fun k => ((nfold [] t.occ).lookup k).getD k) := num_fst t []
  rw [e, num_map (fun x hx y hy q => app_inj hx hy q), ← e]
theorem num_iff {g : Int → Int} {t : T} : num (t.map g) = num t ↔ ∀ x ∈ t.occ, ∀ y ∈ t.occ, g x = g y → x = y := by
  refine ⟨fun h x hx y hy e => ?_, num_map⟩
  unfold num at h
  rw [num_fst, num_fst, map_map] at h
  have a := map_point h x hx
  have b := map_point h y hy
  rw [e] at a
  exact app_inj hx hy (a.symm.trans b)
theorem cons_id {g : Int → Int} {ks : List Int} : Cons (fun k => k) g ks ↔ ∀ x ∈ ks, ∀ y ∈ ks, g x = g y → x = y :=
  ⟨fun h x hx y hy e => (h x hx y hy).mpr e, fun h x hx y hy => ⟨fun e => by rw [show x = y from e], h x hx y hy⟩⟩
theorem cons_id' {g : Int → Int} {ks : List Int} : Cons g (fun k => k) ks ↔ ∀ x ∈ ks, ∀ y ∈ ks, g x = g y → x = y :=
  ⟨fun h x hx y hy e => (h x hx y hy).mp e, fun h x hx y hy => ⟨h x hx y hy, fun e => by rw [show x = y from e]⟩⟩
theorem bool_same {a b : Bool} {P : Prop} (h : a = true ↔ P) (k : b = true ↔ P) : a = b := by
  cases a <;> cases b <;> simp_all
/-! names in order -/
theorem nub_map {f : Int → Int} (inj : ∀ x y, f x = f y → x = y) : ∀ (ks acc : List Int), nubL (acc.map f) (ks.map f) = (nubL acc ks).map f
  | [], acc => rfl
  | k :: r, acc => by
    have ih := nub_map inj r
    show nubL (if f k ∈ acc.map f then acc.map f else acc.map f ++ [f k]) (r.map f) = (nubL (if k ∈ acc then acc else acc ++ [k]) r).map f
    by_cases h : k ∈ acc
    · rw [if_pos h, if_pos (List.mem_map_of_mem h), ih]
    · have h2 : f k ∉ acc.map f := fun q => by
        obtain ⟨x, hx, e⟩ := List.mem_map.mp q
        exact h (inj x k e ▸ hx)
      rw [if_neg h, if_neg h2, ← ih, List.map_append]; rfl
theorem nub_shift (t : T) (o : Int) : nubL [] (t.map (· + o)).occ = (nubL [] t.occ).map (· + o) := by
  rw [map_occ]; exact nub_map (fun x y e => by (try dsimp only at e); omega) t.occ []
theorem nub_nodup : ∀ (ks acc : List Int), acc.Nodup → (nubL acc ks).Nodup
  | [], _, h => h
  | k :: r, acc, h => by
    show (nubL (if k ∈ acc then acc else acc ++ [k]) r).Nodup
    by_cases q : k ∈ acc
    · rw [if_pos q]; exact nub_nodup r acc h
    · rw [if_neg q]
      refine nub_nodup r _ ?_
      rw [List.nodup_append]
      exact ⟨h, by simp, fun x hx y hy e => by rw [List.mem_singleton] at hy; subst hy; subst e; exact q hx⟩
theorem lookup_some_iff (k : Int) : ∀ ps : List (Int × Int), (ps.lookup k).isSome ↔ k ∈ ps.map Prod.fst
  | [] => by simp
  | (a, b) :: r => by
    rw [List.lookup_cons, List.map_cons, List.mem_cons]
    by_cases h : k = a
    · subst h; simp
    · have e : (k == a) = false := by simpa using h
      rw [e, lookup_some_iff k r]; simp [h]
theorem nfold_keys : ∀ (ks : List Int) (ps : List (Int × Int)), (nfold ps ks).map Prod.fst = nubL (ps.map Prod.fst) ks
  | [], _ => rfl
  | k :: r, ps => by
    show (nfold (nnxt ps k) r).map Prod.fst = nubL (if k ∈ ps.map Prod.fst then ps.map Prod.fst else ps.map Prod.fst ++ [k]) r
    rw [nfold_keys r]
    unfold nnxt
    by_cases h : k ∈ ps.map Prod.fst
    · rw [if_pos h, if_pos ((lookup_some_iff k ps).mpr h)]
    · rw [if_neg h, if_neg (fun q => h ((lookup_some_iff k ps).mp q)), List.map_append]; rfl
theorem nub_self : ∀ (ks acc : List Int), (acc ++ ks).Nodup → nubL acc ks = acc ++ ks
  | [], acc, _ => by rw [List.append_nil]; rfl
  | k :: r, acc, h => by
    have hk : k ∉ acc := fun q => by
      rw [List.nodup_append] at h
      exact h.2.2 k q k (.head _) rfl
    show nubL (if k ∈ acc then acc else acc ++ [k]) r = _
    rw [if_neg hk, nub_self r (acc ++ [k]) (by rw [List.append_assoc]; exact h), List.append_assoc]; rfl
theorem due_keys {ns : List Int} (nd : ns.Nodup) (i : Nat) : (nfold [] (ns.take i)).map Prod.fst = ns.take i := by
  rw [nfold_keys]
  exact nub_self _ [] (by rw [List.nil_append]; exact nd.sublist (List.take_sublist i ns))
theorem due_step {ns : List Int} (nd : ns.Nodup) {i : Nat} {k : Int} (h : ns[i]? = some k) : put k (i : Int) (nfold [] (ns.take i)) = nfold [] (ns.take (i + 1)) := by
  have hk : (nfold [] (ns.take i)).lookup k = none := by
    cases e : (nfold [] (ns.take i)).lookup k with
    | none => rfl
    | some v =>
      have q : ((nfold [] (ns.take i)).lookup k).isSome := by rw [e]; rfl
      rw [lookup_some_iff, due_keys nd] at q
      have e1 : ns.take (i + 1) = ns.take i ++ [k] := by rw [List.take_add_one, h]; rfl
      have nd2 : (ns.take (i + 1)).Nodup := nd.sublist (List.take_sublist _ _)
      rw [e1, List.nodup_append] at nd2
      exact absurd rfl (nd2.2.2 k q k (.head _))
  have hl : (nfold [] (ns.take i)).length = i := by
    have q := congrArg List.length (due_keys nd i)
    rw [List.length_map, List.length_take] at q
    have : i < ns.length := (List.getElem?_eq_some_iff.mp h).1
    omega
  rw [List.take_add_one, h]
  show _ = nfold [] (ns.take i ++ [k])
  rw [nfold_snoc, nnxt_miss hk, hl]
theorem nfold_nodup {ps : List (Int × Int)} (h : (ps.map Prod.fst).Nodup) (ks : List Int) : ((nfold ps ks).map Prod.fst).Nodup := by
  rw [nfold_keys]; exact nub_nodup ks _ h
theorem nfold_len (ps : List (Int × Int)) (ks : List Int) : (nfold ps ks).length ≤ ps.length + ks.length := by
  have q := congrArg List.length (nfold_keys ks ps)
  have r := nubL_length ks (ps.map Prod.fst)
  rw [List.length_map] at q r
  omega
end Mine

end
set_option Elab.async false
open PySem PySem.W PyProof.Rows
namespace Mine
set_option maxRecDepth 100000
set_option maxHeartbeats 4000000
local macro_rules | `(tactic| k_all) => `(tactic| (with_reducible assumption))
local macro_rules | `(tactic| k_mem) => `(tactic| k_extra "mem")
local macro_rules | `(tactic| walk_at $s:str) => `(tactic| k_extra $s)
section
theorem draw_spec {prog : Program} {w : World} {st : Addr} {vs : List Value} {ns : List Int} {n : Nat} {k : Int} {tk : Tok} {rest : List (Addr × Obj)}
    (hi : IntsAre vs ns) (hb : ∀ x ∈ ns, 0 ≤ x ∧ x < 60) (hlen : ns.length ≤ 1000) (hk0 : 0 < k) (off : ∀ p ∈ rest, p.1 ≠ st) :
    FSpec prog w 71 [.ref st, .int k tk] 10 100 ((st, listOf vs.toArray n) :: rest)
      (fun r news' => ∃ i t vs' ns' n', r = .int i t ∧ 0 ≤ i ∧ i < k ∧ IntsAre vs' ns' ∧ (∀ x ∈ ns', 0 ≤ x ∧ x < 60) ∧ ns'.length ≤ 1000 ∧ news' = (st, listOf vs'.toArray n') :: rest) := by
  unfold FSpec SpecB
  intro p loose mean mg mb dp un gd cn cs a ccd cl outer A₀ base h₀ L m s Q E B F X N T C hBs hcs hroom hun ret
  w_top off
  k_with_none
  (have hfill : PySem.Challenge.rw_ok0008_01 = PySem.Challenge.rw_ok0008_01 ∧ (fun w : World => Mine.hd.heap_39 w.params) = fun w : World => Mine.hd.heap_39 w.params := by (k_fill; exact ⟨rfl, rfl⟩)); clear hfill
  k_with "mem" => (first | (with_reducible assumption) | exact List.Mem.head _ | (refine' List.mem_cons_of_mem _ ?_; k_mem) | (refine' List.mem_append_right _ ?_; k_mem) | (refine' List.mem_append_left _ ?_; k_mem))
  k_with "getMethod ref" => ((k_here; (with_reducible show wpAny _ _ (getMethod (Value.ref _) (PySem.Str.ofString "get") _) _ _ _); k_dflt (refine' d_meth (by (k_asm)) (by (k_mem)) (by (assumption)) (by (assumption)) ?_)))
  k_with "call builtin:dict.get" => ((k_here; k_dflt (refine' d_get2 (by (k_asm)) (by (k_mem)) (by (assumption)) (by (assumption)) ?_); intro _))
  k_with "compareOp NotIn int ref" => ((k_here; k_dflt (refine' d_notin (by (k_asm)) (by (k_mem)) (by (assumption)) (by (assumption)) ?_)))
  k_with "subscriptTail" => ((k_here; (with_reducible show wpAny _ _ (subscriptTail _ _ (Value.ref _) (Value.int _ _)) _ _ _); k_dflt (refine' t_item (by (k_asm)) (by (k_mem)) (by (decide)) (by (decide)) (by (rfl)) (by (rfl)) ?_; k_whole)))
  k_with "call type:tuple" => ((k_here; (with_reducible show wpAny _ _ (call (Value.type _) [Value.ref _]) _ _ _); k_dflt (refine' t_tupleOf (by (k_asm)) (by (k_asm)) (by (k_mem)) (by (assumption)) ?_); intro _ _ _ _ _; (try k_sweep)))
  k_with "newTuple" => ((k_here; k_dflt (refine' t_newTuple (by (k_asm)) (by (k_asm)) (by (first | exact Nat.le_of_ble_eq_true rfl | assumption)) ?_); intro _ _ _ _ _; (try k_sweep)))
  k_with "newList" => ((k_here; k_dflt (refine' t_newList (by (k_asm)) (by (k_asm)) (by (first | exact Nat.le_of_ble_eq_true rfl | assumption)) ?_); intro _ _ _ _ _; (try k_sweep)))
  k_with "compareOp NotIn int ref" => ((k_here; k_dflt (refine' l_notin (by (k_asm)) (by (k_mem)) (by (assumption)) (by (ktr_units)) ?_)))
  k_with "call builtin:list.append" => ((k_here; (with_reducible show wpAny _ _ (call (Value.builtin _) [Value.ref _, _]) _ _ _); k_dflt (refine' l_append (by (k_asm)) (by (k_asm)) (by (k_upd)) (by (assumption)) ?_); intro _ _ _; (try k_sweep)))
  k_with "exec For" => ((k_here; (with_unfolding_all refine' For_invVF (by (k_asm)) (by (exact rfl)) (by (exact rfl)) ?_; k_whole)))
  k_with "eval Name" => ((k_here; (with_reducible show wpAny _ _ (eval (Expr.Name _ _) (envOf _ _ _ _ _)) _ _ _); name_kind "local"; k_dflt (refine' ld (by (k_asm)) (by (assumption)) ?_; k_whole)))
  k_with "eval Name" => ((k_here; (with_reducible show wpAny _ _ (eval (Expr.Name _ _) (envOfC _ _ _ _ _)) _ _ _); name_kind "local"; k_dflt (refine' nameX_L (by (k_asm)) (by (assumption)) ?_ (by (rfl)) (by (rfl)); k_whole)))
  k_with "exec While" => ((k_here; (with_reducible show wpAny _ _ (exec (Stmt.While _ _ _ _) _) _ _ _); refine' stop_of ?_))
  k_with "last exec While" => ((k_here; (with_reducible show wpAny _ _ (exec (Stmt.While _ _ _ _) _) _ _ _); refine' stop_of ?_))
  have hvl : vs.length ≤ 1000 := by rw [hi.length]; exact hlen
  refine wpAny_call ?_
  k_dflt cell_enter
  k_steps
  · exact ret _ _ _ _ (by assumption) (by assumption) ⟨0, _, vs, ns, n, rfl, by omega, by omega, hi, hb, hlen, rfl⟩
  · exact ret _ _ _ _ (by assumption) (by assumption) ⟨_, _, _, _, _, rfl, Int.fmod_nonneg_of_pos _ hk0, Int.fmod_lt_of_pos _ hk0, by assumption,
      fun x hx => hb x (List.dropLast_subset _ hx), by rw [List.length_dropLast]; omega, rfl⟩

noncomputable def Stk (vs : List Value) (ns : List Int) : Prop := IntsAre vs ns ∧ (∀ x ∈ ns, 0 ≤ x ∧ x < 60) ∧ ns.length ≤ 1000
theorem draw_u {prog : Program} {w : World} {st : Addr} {vs : List Value} {ns : List Int} {n : Nat} {k : Int} {tk : Tok} {news : List (Addr × Obj)} {g : Obj → List (Addr × Obj)}
    (hs : Stk vs ns) (hk0 : 0 < k) (U : UpdF st (listOf vs.toArray n) news g) :
    FSpec prog w 71 [.ref st, .int k tk] 10 100 news
      (fun r news' => ∃ i t vs' ns' n', r = .int i t ∧ 0 ≤ i ∧ i < k ∧ Stk vs' ns' ∧ news' = g (listOf vs'.toArray n')) := by
  obtain ⟨pre, post, rfl, hg, h1, h2⟩ := U.split
  intro p loose mean mg mb dp un gd cn cs a ccd cl outer A₀ base h₀ L m s Q E B F X N T C hBs hcs hroom hun ret
  have sub1 : ∀ (o : Obj), ∀ p ∈ (st, o) :: (pre ++ post), p ∈ pre ++ (st, o) :: post := by
    intro o p hp
    simp only [List.mem_cons, List.mem_append] at hp ⊢
    rcases hp with h | h | h <;> simp [h]
  have sub2 : ∀ (o : Obj), ∀ p ∈ pre ++ (st, o) :: post, p ∈ (st, o) :: (pre ++ post) := by
    intro o p hp
    simp only [List.mem_cons, List.mem_append] at hp ⊢
    rcases hp with h | h | h <;> simp [h]
  refine SpecB.use (draw_spec (rest := pre ++ post) hs.1 hs.2.1 hs.2.2 hk0 (fun p hp => (List.mem_append.mp hp).elim (h1 p) (h2 p))) B F X (news_sub N (sub1 _)) T C hBs hcs hroom hun ?_
  rintro r news' h' tk' F' N' ⟨i, t, vs', ns', n', rfl, h0, h1', hi', hb', hl', rfl⟩
  exact ret _ _ _ _ F' (news_sub N' (sub2 _)) ⟨i, t, vs', ns', n', rfl, h0, h1', ⟨hi', hb', hl'⟩, (hg _).symm⟩

end
section
theorem digit_mem {s : List Int} {b : Int} (h : ∀ x ∈ s, 0 ≤ x ∧ x < 60) : ∀ x ∈ s ++ [b.fmod 60], 0 ≤ x ∧ x < 60 := by
  intro x hx
  rcases List.mem_append.mp hx with hx | hx
  · exact h x hx
  · rw [List.mem_singleton.mp hx]
    have := Int.fmod_nonneg_of_pos b (show (0:Int) < 60 by decide)
    have := Int.fmod_lt_of_pos b (show (0:Int) < 60 by decide)
    omega
theorem fdiv60_nonneg {b : Int} (h : 0 ≤ b) : 0 ≤ b.fdiv 60 := Int.fdiv_nonneg h (by decide)
theorem digits_spec {prog : Program} {w : World} {l : Addr} {vs : List Value} {ns : List Int} {rest : List (Addr × Obj)}
    (hi : IntsAre vs ns) (hlen : ns.length ≤ 63) (hlay : (PyData.list (List.map PyData.int ns)).layable0 = true) :
    SpecB prog w (fun h => h.IsList l vs.toArray) 64 [.ref l] 10 100 rest
      (fun r news' => ∃ st vs' ns' n', r = .ref st ∧ IntsAre vs' ns' ∧ (∀ x ∈ ns', 0 ≤ x ∧ x < 60) ∧ ns'.length ≤ 1000 ∧ news' = (st, listOf vs'.toArray n') :: rest ∧ (∀ p ∈ rest, p.1 < st)) := by
  unfold SpecB
  intro p loose mean mg mb dp un gd cn cs a ccd cl outer A₀ base h₀ L m s Q E B F X N T C hBs hcs hroom hun ret
  w_top off
  k_with_none
  (have hfill : PySem.Challenge.rw_ok0008_01 = PySem.Challenge.rw_ok0008_01 ∧ (fun w : World => Mine.hd.heap_39 w.params) = fun w : World => Mine.hd.heap_39 w.params := by (k_fill; exact ⟨rfl, rfl⟩)); clear hfill
  k_with "mem" => (first | (with_reducible assumption) | exact List.Mem.head _ | (refine' List.mem_cons_of_mem _ ?_; k_mem) | (refine' List.mem_append_right _ ?_; k_mem) | (refine' List.mem_append_left _ ?_; k_mem))
  k_with "getMethod ref" => ((k_here; (with_reducible show wpAny _ _ (getMethod (Value.ref _) (PySem.Str.ofString "get") _) _ _ _); k_dflt (refine' d_meth (by (k_asm)) (by (k_mem)) (by (assumption)) (by (assumption)) ?_)))
  k_with "call builtin:dict.get" => ((k_here; k_dflt (refine' d_get2 (by (k_asm)) (by (k_mem)) (by (assumption)) (by (assumption)) ?_); intro _))
  k_with "compareOp NotIn int ref" => ((k_here; k_dflt (refine' d_notin (by (k_asm)) (by (k_mem)) (by (assumption)) (by (assumption)) ?_)))
  k_with "subscriptTail" => ((k_here; (with_reducible show wpAny _ _ (subscriptTail _ _ (Value.ref _) (Value.int _ _)) _ _ _); k_dflt (refine' t_item (by (k_asm)) (by (k_mem)) (by (decide)) (by (decide)) (by (rfl)) (by (rfl)) ?_; k_whole)))
  k_with "call type:tuple" => ((k_here; (with_reducible show wpAny _ _ (call (Value.type _) [Value.ref _]) _ _ _); k_dflt (refine' t_tupleOf (by (k_asm)) (by (k_asm)) (by (k_mem)) (by (assumption)) ?_); intro _ _ _ _ _; (try k_sweep)))
  k_with "newTuple" => ((k_here; k_dflt (refine' t_newTuple (by (k_asm)) (by (k_asm)) (by (first | exact Nat.le_of_ble_eq_true rfl | assumption)) ?_); intro _ _ _ _ _; (try k_sweep)))
  k_with "newList" => ((k_here; k_dflt (refine' t_newList (by (k_asm)) (by (k_asm)) (by (first | exact Nat.le_of_ble_eq_true rfl | assumption)) ?_); intro _ _ _ _ _; (try k_sweep)))
  k_with "compareOp NotIn int ref" => ((k_here; k_dflt (refine' l_notin (by (k_asm)) (by (k_mem)) (by (assumption)) (by (ktr_units)) ?_)))
  k_with "call builtin:list.append" => ((k_here; (with_reducible show wpAny _ _ (call (Value.builtin _) [Value.ref _, _]) _ _ _); k_dflt (refine' l_append (by (k_asm)) (by (k_asm)) (by (k_upd)) (by (assumption)) ?_); intro _ _ _; (try k_sweep)))
  k_with "exec For" => ((k_here; (with_unfolding_all refine' For_invVF (by (k_asm)) (by (exact rfl)) (by (exact rfl)) ?_; k_whole)))
  k_with "eval Name" => ((k_here; (with_reducible show wpAny _ _ (eval (Expr.Name _ _) (envOf _ _ _ _ _)) _ _ _); name_kind "local"; k_dflt (refine' ld (by (k_asm)) (by (assumption)) ?_; k_whole)))
  k_with "eval Name" => ((k_here; (with_reducible show wpAny _ _ (eval (Expr.Name _ _) (envOfC _ _ _ _ _)) _ _ _); name_kind "local"; k_dflt (refine' nameX_L (by (k_asm)) (by (assumption)) ?_ (by (rfl)) (by (rfl)); k_whole)))
  k_with "exec While" => ((k_here; (with_reducible show wpAny _ _ (exec (Stmt.While _ _ _ _) _) _ _ _); refine' stop_of ?_))
  k_with "last exec While" => ((k_here; (with_reducible show wpAny _ _ (exec (Stmt.While _ _ _ _) _) _ _ _); refine' stop_of ?_))
  k_with "call builtin:list.reverse" => ((k_here; (with_reducible show wpAny _ _ (call (Value.builtin _) [Value.ref _]) _ _ _); k_dflt (refine' kl_reverse (by (k_asm)) (by (k_asm)) (by (exact rfl)) (by (k_upd)) (by (((rename IntsAre _ _ => hI9); (have hb9 := IntsAre.length hI9); (simp only [rangeKs_length, List.length_take] at *); rw [PySem.sizeLine_eq]; omega))) ?_); kl_rest))
  have hvl : vs.length ≤ 63 := by rw [hi.length]; exact hlen
  refine wpAny_call ?_
  k_dflt cell_enter
  k_with "pyIter ref" => (k_of "cell" => k_state (fun pre (stock : List Int) => stock.length ≤ 12 * pre.length ∧ ∀ x ∈ stock, 0 ≤ x ∧ x < 60) "stock")
  k_with "pyIter ref" => (k_of "lap" => k_state_given ["stock!"] (fun stock0 pre stock big => stock.length ≤ stock0.length + pre.length ∧ (∀ x ∈ stock, 0 ≤ x ∧ x < 60) ∧ 0 ≤ big) "stock" "big")
  k_with "state" => ((repeat' refine And.intro ?_ ?_) <;> first | assumption | exact digit_mem (by assumption) | exact fdiv60_nonneg (by assumption) | (intro x hx; exact absurd hx List.not_mem_nil) | omega | ((simp only [rangeKs_length, List.length_append, List.length_cons, List.length_nil] at *); omega) | (split <;> omega) | (trace_state; fail))
  k_steps
  (rename News h₀ L _ _ => kN9)
  (rename (_ ≤ 12 * _) => q1)
  (rename (∀ x ∈ _, 0 ≤ x ∧ x < 60) => q2)
  (rename (∀ p ∈ rest, p.1 < _) => q3)
  rw [List.length_take] at q1
  refine ret _ _ _ _ (by assumption) (news_sub kN9 (fun p hp => List.mem_cons_of_mem _ hp)) ⟨_, _, _, _, rfl, IntsAre.reverse (by assumption), fun x hx => q2 x (List.mem_reverse.mp hx), by rw [List.length_reverse]; omega, rfl, q3⟩

end
section

section
theorem news_c2 {h₀ h : Heap} {L : Addr} {x c1 c2 : Addr × Obj} {r : List (Addr × Obj)} (N : News h₀ L h (x :: c1 :: c2 :: r)) : News h₀ L h (x :: r) := fun p hp => N p (by
  rcases List.mem_cons.mp hp with h | h
  · subst h; exact .head _
  · exact .tail _ (.tail _ (.tail _ h)))
theorem news_t {h₀ h : Heap} {L : Addr} {x y z c1 c2 : Addr × Obj} {tl r : List (Addr × Obj)} (N : News h₀ L h (x :: y :: z :: (tl ++ c1 :: c2 :: r))) : News h₀ L h (x :: y :: (tl ++ r)) := fun p hp => N p (by
  simp only [List.mem_cons, List.mem_append] at hp ⊢
  rcases hp with h | h | h | h <;> simp [h])
noncomputable def cStr (g : Bool) : Str := if g then Str.ofString "i" else Str.ofString "a"
theorem ai_item {i : Int} (h : i ≠ 0) (h0 : 0 ≤ i) (h1 : i < 3) : ∃ g, Txt.item (Str.ofString "ai") (i - 1) = cStr g := by
  rcases (by omega : i = 1 ∨ i = 2) with rfl | rfl
  · exact ⟨false, by decide +kernel⟩
  · exact ⟨true, by decide +kernel⟩
theorem c_in {im : List (Addr × Obj)} {g : Bool} {k : Int} {a : Addr} {t1 t2 : Tok} {n : Nat} (h : (a, tupN [.str (cStr g) t1, .int k t2] n) ∈ im) : TIn im (.ref a) (.c g k) := by
  cases g
  · exact a_in h
  · exact i_in h
theorem range_n {i : Int} (h0 : 0 ≤ i) (h1 : i < 3) : Builtin.Range.small 0 (1 + i) 1 = true ∧ Builtin.Range.rangeSize 0 (1 + i) 1 = (((1 + i).toNat : Nat) : Int) := by
  rcases (by omega : i = 0 ∨ i = 1 ∨ i = 2) with rfl | rfl | rfl <;> exact ⟨by decide +kernel, by decide +kernel⟩
theorem term_all {prog : Program} {w : World} {st : Addr} :
    ∀ (d : Nat) (vs : List Value) (ns : List Int) (n : Nat) (tk : Tok) (rest : List (Addr × Obj)), d ≤ 3 → Stk vs ns → (∀ p ∈ rest, p.1 ≠ st) →
    FSpec prog w 76 [.ref st, .int (d : Int) tk] (20 * d + 30) (200 * d + 400) ((st, listOf vs.toArray n) :: rest)
      (fun r news' => ∃ tl vs' ns' n' t, news' = tl ++ (st, listOf vs'.toArray n') :: rest ∧ Ext ((st, listOf vs.toArray n) :: rest) tl ∧ Stk vs' ns' ∧ TIn tl r t ∧ t.ok ∧ t.dep ≤ d ∧ (∀ k ∈ t.occ, 0 ≤ k ∧ k < 5) ∧ t.occ.length ≤ 3 ^ d) := by
  intro d
  induction d with
  | zero =>
    intro vs ns n tk rest hd hs hoff
    unfold FSpec SpecB
    intro p loose mean mg mb dp un gd cn cs a ccd cl outer A₀ base h₀ L m s Q E B F X N TP C hBs hcs hroom hun ret
    w_top off
    k_with_none
    (have hfill : PySem.Challenge.rw_ok0008_01 = PySem.Challenge.rw_ok0008_01 ∧ (fun w : World => Mine.hd.heap_39 w.params) = fun w : World => Mine.hd.heap_39 w.params := by (k_fill; exact ⟨rfl, rfl⟩)); clear hfill
    k_with "mem" => (first | (with_reducible assumption) | exact List.Mem.head _ | (refine' List.mem_cons_of_mem _ ?_; k_mem) | (refine' List.mem_append_right _ ?_; k_mem) | (refine' List.mem_append_left _ ?_; k_mem))
    k_with "getMethod ref" => ((k_here; (with_reducible show wpAny _ _ (getMethod (Value.ref _) (PySem.Str.ofString "get") _) _ _ _); k_dflt (refine' d_meth (by (k_asm)) (by (k_mem)) (by (assumption)) (by (assumption)) ?_)))
    k_with "call builtin:dict.get" => ((k_here; k_dflt (refine' d_get2 (by (k_asm)) (by (k_mem)) (by (assumption)) (by (assumption)) ?_); intro _))
    k_with "compareOp NotIn int ref" => ((k_here; k_dflt (refine' d_notin (by (k_asm)) (by (k_mem)) (by (assumption)) (by (assumption)) ?_)))
    k_with "subscriptTail" => ((k_here; (with_reducible show wpAny _ _ (subscriptTail _ _ (Value.ref _) (Value.int _ _)) _ _ _); k_dflt (refine' t_item (by (k_asm)) (by (k_mem)) (by (decide)) (by (decide)) (by (rfl)) (by (rfl)) ?_; k_whole)))
    k_with "call type:tuple" => ((k_here; (with_reducible show wpAny _ _ (call (Value.type _) [Value.ref _]) _ _ _); k_dflt (refine' t_tupleOf (by (k_asm)) (by (k_asm)) (by (k_mem)) (by (assumption)) ?_); intro _ _ _ _ _; (try k_sweep)))
    k_with "newTuple" => ((k_here; k_dflt (refine' t_newTuple (by (k_asm)) (by (k_asm)) (by (first | exact Nat.le_of_ble_eq_true rfl | assumption)) ?_); intro _ _ _ _ _; (try k_sweep)))
    k_with "newList" => ((k_here; k_dflt (refine' t_newList (by (k_asm)) (by (k_asm)) (by (first | exact Nat.le_of_ble_eq_true rfl | assumption)) ?_); intro _ _ _ _ _; (try k_sweep)))
    k_with "compareOp NotIn int ref" => ((k_here; k_dflt (refine' l_notin (by (k_asm)) (by (k_mem)) (by (assumption)) (by (ktr_units)) ?_)))
    k_with "call builtin:list.append" => ((k_here; (with_reducible show wpAny _ _ (call (Value.builtin _) [Value.ref _, _]) _ _ _); k_dflt (refine' l_append (by (k_asm)) (by (k_asm)) (by (k_upd)) (by (assumption)) ?_); intro _ _ _; (try k_sweep)))
    k_with "exec For" => ((k_here; (with_unfolding_all refine' For_invVF (by (k_asm)) (by (exact rfl)) (by (exact rfl)) ?_; k_whole)))
    k_with "eval Name" => ((k_here; (with_reducible show wpAny _ _ (eval (Expr.Name _ _) (envOf _ _ _ _ _)) _ _ _); name_kind "local"; k_dflt (refine' ld (by (k_asm)) (by (assumption)) ?_; k_whole)))
    k_with "eval Name" => ((k_here; (with_reducible show wpAny _ _ (eval (Expr.Name _ _) (envOfC _ _ _ _ _)) _ _ _); name_kind "local"; k_dflt (refine' nameX_L (by (k_asm)) (by (assumption)) ?_ (by (rfl)) (by (rfl)); k_whole)))
    k_with "exec While" => ((k_here; (with_reducible show wpAny _ _ (exec (Stmt.While _ _ _ _) _) _ _ _); refine' stop_of ?_))
    k_with "last exec While" => ((k_here; (with_reducible show wpAny _ _ (exec (Stmt.While _ _ _ _) _) _ _ _); refine' stop_of ?_))
    k_with "call ref" => ((k_here; (with_reducible show wpAny _ _ (call (Value.ref 71) [Value.ref _, Value.int _ _]) _ _ _); k_dflt (refine' SpecB.use (draw_u ?hi ?hk ?U) ?B ?F ?X ?N ?T ?C trivial ?cs ?hd ?hu ?_; (case B => k_asm); (case F => k_asm); (case X => k_asm); (case N => k_asm); (case T => k_asm); (case C => assumption); (case cs => first | exact rfl | assumption); (case U => k_updF); (case hi => assumption); (case hk => decide); (case hd => ktr_room); (case hu => ktr_units)); rintro r1 news1 h1' tk1' F' N' ⟨i', t', vs1, ns1, n1, hr1, h0', h1', hs', hn'⟩; subst hr1; subst hn'; (try dsimp only at N'); (try k_sweep); (try dsimp only)))
    k_with "eval ListComp" => ((k_here; k_dflt (refine LCg.ListComp_U (F₀ := by k_asm) (by with_unfolding_all rfl) (by decide) (by rfl) (by decide) (by rfl) ?_)))
    k_with "CompSrc" => ((k_here; refine stop_of ?_))
    refine wpAny_call ?_
    k_dflt (refine' code_defC ?k1x1 ?k2x1 ?k3x1 ?k4x1 ?k5x1 ?kAx1 ?kFx1 ?kKx1 ?k6x1 ?k7x1 ?k8x1 ?k9x1 ?kBx1 ?kDx1 ?_ ?c2x1 ?c3x1 ?c4x1; (case kAx1 => exact rfl); (case kFx1 => exact rfl); (case kKx1 => assumption); (case k1x1 => k_asm); (case k2x1 => k_asm); (case k3x1 => k_asm); (case k4x1 => k_asm); (case k5x1 => k_asm); (case k6x1 => k_is); (case k7x1 => k_is); (case k8x1 => ktr_room); (case k9x1 => exact BindsTo.of_eq rfl); (case kBx1 => exact rfl); (case kDx1 => decide +kernel); (case c2x1 => exact rfl); (case c3x1 => exact rfl); (case c4x1 => exact rfl); k_whole; intro g1 L1 h1 tk1 cells1 FG1 F1 N1 Y1 B1 X1 T1 l11; k_cells Y1; (try simp only [List.cons_append, List.nil_append] at N1); (try dsimp only); (try k_lift B1); (try k_fold))
    refine hideE PassesOwn.leaving ?_
    intro EE hPE
    rename_i o1 o2 d11 d12
    replace d12 : o2.data = .cell (some (.ref st)) := d12
    have hst := ltN (l11 (st, _) (.head _))
    have l12 : ∀ p ∈ rest, p.1 < L1 := fun p hp => l11 p (.tail _ hp)
    k_steps
    · (rename News h₀ L _ _ => kN9); (rename (∀ p : Addr × Obj, p ∈ _ → p.1 < _) => q1); (rename Stk _ _ => hs9)
      refine ret _ _ _ _ (by assumption) (news_c2 kN9) ⟨[_], _, _, _, .v _, rfl, Ext.nil.cons rfl ?x1, hs9, v_in (.head _), by rw [T.ok]; trivial, by rw [T.dep]; omega, ?x2, ?x3⟩
      case x1 => intro q hq; rcases List.mem_cons.mp hq with rfl | hq; exact (show @LT.lt Addr _ st _ from q1 (st, _) (by k_mem)); exact q1 q (by k_mem)
      case x2 => intro k hk; rw [T.occ] at hk; rw [List.mem_singleton.mp hk]; exact ⟨by assumption, by assumption⟩
      case x3 => rw [T.occ]; exact Nat.one_le_pow _ _ (by decide)
    · (rename News h₀ L _ _ => kN9); (rename (∀ p : Addr × Obj, p ∈ _ → p.1 < _) => q1); (rename Stk _ _ => hs9)
      (rename (_ : Int) ≠ 0 => hne)
      obtain ⟨gb, hgb⟩ := ai_item hne (by assumption) (by assumption)
      rw [hgb] at kN9
      refine ret _ _ _ _ (by assumption) (news_c2 kN9) ⟨[_], _, _, _, .c gb _, rfl, Ext.nil.cons rfl ?x1, hs9, c_in (.head _), by rw [T.ok]; trivial, by rw [T.dep]; omega, ?x2, ?x3⟩
      case x1 => intro q hq; rcases List.mem_cons.mp hq with rfl | hq; exact (show @LT.lt Addr _ st _ from q1 (st, _) (by k_mem)); exact q1 q (by k_mem)
      case x2 => intro k hk; rw [T.occ] at hk; exact absurd hk List.not_mem_nil
      case x3 => rw [T.occ]; exact Nat.zero_le _
  | succ d IH =>
    intro vs ns n tk rest hd hs hoff
    unfold FSpec SpecB
    intro p loose mean mg mb dp un gd cn cs a ccd cl outer A₀ base h₀ L m s Q E B F X N TP C hBs hcs hroom hun ret
    w_top off
    k_with_none
    (have hfill : PySem.Challenge.rw_ok0008_01 = PySem.Challenge.rw_ok0008_01 ∧ (fun w : World => Mine.hd.heap_39 w.params) = fun w : World => Mine.hd.heap_39 w.params := by (k_fill; exact ⟨rfl, rfl⟩)); clear hfill
    k_with "mem" => (first | (with_reducible assumption) | exact List.Mem.head _ | (refine' List.mem_cons_of_mem _ ?_; k_mem) | (refine' List.mem_append_right _ ?_; k_mem) | (refine' List.mem_append_left _ ?_; k_mem))
    k_with "getMethod ref" => ((k_here; (with_reducible show wpAny _ _ (getMethod (Value.ref _) (PySem.Str.ofString "get") _) _ _ _); k_dflt (refine' d_meth (by (k_asm)) (by (k_mem)) (by (assumption)) (by (assumption)) ?_)))
    k_with "call builtin:dict.get" => ((k_here; k_dflt (refine' d_get2 (by (k_asm)) (by (k_mem)) (by (assumption)) (by (assumption)) ?_); intro _))
    k_with "compareOp NotIn int ref" => ((k_here; k_dflt (refine' d_notin (by (k_asm)) (by (k_mem)) (by (assumption)) (by (assumption)) ?_)))
    k_with "subscriptTail" => ((k_here; (with_reducible show wpAny _ _ (subscriptTail _ _ (Value.ref _) (Value.int _ _)) _ _ _); k_dflt (refine' t_item (by (k_asm)) (by (k_mem)) (by (decide)) (by (decide)) (by (rfl)) (by (rfl)) ?_; k_whole)))
    k_with "call type:tuple" => ((k_here; (with_reducible show wpAny _ _ (call (Value.type _) [Value.ref _]) _ _ _); k_dflt (refine' t_tupleOf (by (k_asm)) (by (k_asm)) (by (k_mem)) (by (assumption)) ?_); intro _ _ _ _ _; (try k_sweep)))
    k_with "newTuple" => ((k_here; k_dflt (refine' t_newTuple (by (k_asm)) (by (k_asm)) (by (first | exact Nat.le_of_ble_eq_true rfl | assumption)) ?_); intro _ _ _ _ _; (try k_sweep)))
    k_with "newList" => ((k_here; k_dflt (refine' t_newList (by (k_asm)) (by (k_asm)) (by (first | exact Nat.le_of_ble_eq_true rfl | assumption)) ?_); intro _ _ _ _ _; (try k_sweep)))
    k_with "compareOp NotIn int ref" => ((k_here; k_dflt (refine' l_notin (by (k_asm)) (by (k_mem)) (by (assumption)) (by (ktr_units)) ?_)))
    k_with "call builtin:list.append" => ((k_here; (with_reducible show wpAny _ _ (call (Value.builtin _) [Value.ref _, _]) _ _ _); k_dflt (refine' l_append (by (k_asm)) (by (k_asm)) (by (k_upd)) (by (assumption)) ?_); intro _ _ _; (try k_sweep)))
    k_with "exec For" => ((k_here; (with_unfolding_all refine' For_invVF (by (k_asm)) (by (exact rfl)) (by (exact rfl)) ?_; k_whole)))
    k_with "eval Name" => ((k_here; (with_reducible show wpAny _ _ (eval (Expr.Name _ _) (envOf _ _ _ _ _)) _ _ _); name_kind "local"; k_dflt (refine' ld (by (k_asm)) (by (assumption)) ?_; k_whole)))
    k_with "eval Name" => ((k_here; (with_reducible show wpAny _ _ (eval (Expr.Name _ _) (envOfC _ _ _ _ _)) _ _ _); name_kind "local"; k_dflt (refine' nameX_L (by (k_asm)) (by (assumption)) ?_ (by (rfl)) (by (rfl)); k_whole)))
    k_with "exec While" => ((k_here; (with_reducible show wpAny _ _ (exec (Stmt.While _ _ _ _) _) _ _ _); refine' stop_of ?_))
    k_with "last exec While" => ((k_here; (with_reducible show wpAny _ _ (exec (Stmt.While _ _ _ _) _) _ _ _); refine' stop_of ?_))
    k_with "call ref" => ((k_here; (with_reducible show wpAny _ _ (call (Value.ref 71) [Value.ref _, Value.int _ _]) _ _ _); k_dflt (refine' SpecB.use (draw_u ?hi ?hk ?U) ?B ?F ?X ?N ?T ?C trivial ?cs ?hd ?hu ?_; (case B => k_asm); (case F => k_asm); (case X => k_asm); (case N => k_asm); (case T => k_asm); (case C => assumption); (case cs => first | exact rfl | assumption); (case U => k_updF); (case hi => assumption); (case hk => decide); (case hd => ktr_room); (case hu => ktr_units)); rintro r1 news1 h1' tk1' F' N' ⟨i', t', vs1, ns1, n1, hr1, h0', h1', hs', hn'⟩; subst hr1; subst hn'; (try dsimp only at N'); (try k_sweep); (try dsimp only)))
    k_with "eval ListComp" => ((k_here; k_dflt (refine LCg.ListComp_U (F₀ := by k_asm) (by with_unfolding_all rfl) (by decide) (by rfl) (by decide) (by rfl) ?_)))
    k_with "CompSrc" => ((k_here; refine stop_of ?_))
    refine wpAny_call ?_
    k_dflt (refine' code_defC ?k1x2 ?k2x2 ?k3x2 ?k4x2 ?k5x2 ?kAx2 ?kFx2 ?kKx2 ?k6x2 ?k7x2 ?k8x2 ?k9x2 ?kBx2 ?kDx2 ?_ ?c2x2 ?c3x2 ?c4x2; (case kAx2 => exact rfl); (case kFx2 => exact rfl); (case kKx2 => assumption); (case k1x2 => k_asm); (case k2x2 => k_asm); (case k3x2 => k_asm); (case k4x2 => k_asm); (case k5x2 => k_asm); (case k6x2 => k_is); (case k7x2 => k_is); (case k8x2 => ktr_room); (case k9x2 => exact BindsTo.of_eq rfl); (case kBx2 => exact rfl); (case kDx2 => decide +kernel); (case c2x2 => exact rfl); (case c3x2 => exact rfl); (case c4x2 => exact rfl); k_whole; intro g1 L1 h1 tk1 cells1 FG1 F1 N1 Y1 B1 X1 T1 l11; k_cells Y1; (try simp only [List.cons_append, List.nil_append] at N1); (try dsimp only); (try k_lift B1); (try k_fold))
    refine hideE PassesOwn.leaving ?_
    intro EE hPE
    rename_i o1 o2 d11 d12
    replace d11 : o1.data = .cell (some (.int (((d + 1 : Nat) : Int)) tk)) := d11
    replace d12 : o2.data = .cell (some (.ref st)) := d12
    have hst := ltN (l11 (st, _) (.head _))
    have l12 : ∀ p ∈ rest, p.1 < L1 := fun p hp => l11 p (.tail _ hp)
    have hpos : 0 < ((d + 1 : Nat) : Int) := by omega
    k_steps
    · (rename News h₀ L _ _ => kN9); (rename (∀ p : Addr × Obj, p ∈ _ → p.1 < _) => q1); (rename Stk _ _ => hs9)
      refine ret _ _ _ _ (by assumption) (news_c2 kN9) ⟨[_], _, _, _, .v _, rfl, Ext.nil.cons rfl ?x1, hs9, v_in (.head _), by rw [T.ok]; trivial, by rw [T.dep]; omega, ?x2, ?x3⟩
      case x1 => intro q hq; rcases List.mem_cons.mp hq with rfl | hq; exact (show @LT.lt Addr _ st _ from q1 (st, _) (by k_mem)); exact q1 q (by k_mem)
      case x2 => intro k hk; rw [T.occ] at hk; rw [List.mem_singleton.mp hk]; exact ⟨by assumption, by assumption⟩
      case x3 => rw [T.occ]; exact Nat.one_le_pow _ _ (by decide)
    · (rename News h₀ L _ _ => kN9); (rename (∀ p : Addr × Obj, p ∈ _ → p.1 < _) => q1); (rename Stk _ _ => hs9)
      (rename (_ : Int) ≠ 0 => hne)
      obtain ⟨gb, hgb⟩ := ai_item hne (by assumption) (by assumption)
      rw [hgb] at kN9
      refine ret _ _ _ _ (by assumption) (news_c2 kN9) ⟨[_], _, _, _, .c gb _, rfl, Ext.nil.cons rfl ?x1, hs9, c_in (.head _), by rw [T.ok]; trivial, by rw [T.dep]; omega, ?x2, ?x3⟩
      case x1 => intro q hq; rcases List.mem_cons.mp hq with rfl | hq; exact (show @LT.lt Addr _ st _ from q1 (st, _) (by k_mem)); exact q1 q (by k_mem)
      case x2 => intro k hk; rw [T.occ] at hk; exact absurd hk List.not_mem_nil
      case x3 => rw [T.occ]; exact Nat.zero_le _
    · show Stop _
      unfold Stop
      (rename News g1 L1 _ _ => N9); (rename Stk _ _ => hs9)
      (rename IsRange _ _ _ _ _ _ _ _ => hR)
      obtain ⟨hr1, hr2⟩ := range_n (by assumption) (by assumption)
      (rename 0 ≤ (_ : Int) => hi0)
      (rename (_ : Int) < 3 => hi3)
      have hcnt : ∀ i : Int, 0 ≤ i → i < 3 → (1 + i).toNat ≤ 3 ∧ 1 ≤ (1 + i).toNat := fun i h0 h1 => by omega
      obtain ⟨hc3, hc1⟩ := hcnt _ hi0 hi3
      refine LCg.CompSrc.range rfl (by k_asm) N9 hR hr1 hr2 (by rw [sizeLine_eq]; omega) ?_
      intro g
      refine rest_ind (fun i ys nw => ∃ tl vs' ns' n' l, nw = tl ++ ((L1 + 1 + 1, o1) :: (L1 + 1, o2) :: (st, listOf vs'.toArray n') :: rest) ∧ Ext ((st, listOf vs.toArray n) :: rest) tl ∧ Stk vs' ns' ∧ TAll tl ys l ∧ l.length = i ∧ okT l ∧ depT l ≤ d ∧ (∀ k ∈ occT l, 0 ≤ k ∧ k < 5) ∧ (occT l).length ≤ i * 3 ^ d) _ ?step ?done _ 0 [] _ rfl ⟨[], _, _, _, [], rfl, Ext.nil, hs9, DatAll.nil, rfl, trivial, Nat.zero_le _, fun k hk => absurd hk List.not_mem_nil, Nat.zero_le _⟩
      case step =>
        rintro i ys nw hi ⟨tl, vs', ns', n', l, rfl, hx, hs', hys, hll, hokl, hdl, hol, hcl⟩ v' I oI C' oC D m₂ h' tk' E' hv' hC' hm₂ F' N' off' ne'
        clear ret N
        dsimp only
        (try k_unmd); (try k_fold)
        k_steps
        have e1 : (((d + 1 : Nat) : Int) - 1) = (d : Int) := by omega
        rw [e1]
        have offm := off'.mem
        have hst' := offm (st, _) (List.mem_append_right _ (.tail _ (.tail _ (.head _))))
        refine SpecB.use (IH vs' ns' n' _ ((I, oI) :: (C', oC) :: (D, LCg.lst ys) :: (tl ++ ((L1 + 1 + 1, o1) :: (L1 + 1, o2) :: rest))) (by omega) hs' ?o1) B1 F' X1 (news_sub N' ?s1) T1 C trivial rfl ?r1 ?r2 ?r3
        case o1 =>
          intro p hp
          simp only [List.mem_cons, List.mem_append] at hp
          rcases hp with rfl | rfl | rfl | hp | rfl | rfl | hp
          · exact Ne.symm hst'.1
          · exact Ne.symm hst'.2.1
          · exact Ne.symm hst'.2.2
          · exact hx.off (.head _) p hp
          · exact neN (by (try dsimp only at hst ⊢); omega)
          · exact neN (by (try dsimp only at hst ⊢); omega)
          · exact hoff p hp
        case s1 =>
          intro p hp
          simp only [List.mem_cons, List.mem_append] at hp ⊢
          rcases hp with h | h | h | h | h | h | h | h <;> simp [h]
        case r1 => dsimp only [ktrTop] at *; omega
        case r2 => dsimp only [ktrTop] at *; omega
        case r3 =>
        rintro r news' h'' tk'' F'' N'' ⟨tl2, vs2, ns2, n2, t2, rfl, hx2, hs2, ht2, hok2, hd2, ho2, hc2⟩
        refine LCg.CompEnd.intro F'' N'' (tl2 ++ (tl ++ ((L1 + 1 + 1, o1) :: (L1 + 1, o2) :: (st, listOf vs2.toArray n2) :: rest))) ?c1 ?c2 trivial ⟨tl2 ++ tl, vs2, ns2, n2, l ++ [t2], by rw [List.append_assoc], ?c3, hs2, ?c4, by rw [List.length_append, hll]; rfl, okT_append hokl (by rw [okT, okT]; exact ⟨hok2, trivial⟩), ?c5, ?c6, ?c7⟩
        case c1 =>
          intro p hp
          simp only [List.mem_cons, List.mem_append] at hp ⊢
          rcases hp with h | h | h | h | h | h | h | h | h <;> simp [h]
        case c2 =>
          refine LCg.Off3.of fun p hp => ?_
          simp only [List.mem_cons, List.mem_append] at hp
          rcases hp with hp | hp | rfl | rfl | rfl | hp
          · exact ⟨hx2.off (.tail _ (.head _)) p hp, hx2.off (.tail _ (.tail _ (.head _))) p hp, hx2.off (.tail _ (.tail _ (.tail _ (.head _)))) p hp⟩
          · exact offm p (by k_mem)
          · exact offm _ (by k_mem)
          · exact offm _ (by k_mem)
          · exact hst'
          · exact offm p (by k_mem)
        case c3 =>
          refine hx.append (hx2.adr fun p hp => ?_)
          simp only [List.mem_cons, List.mem_append] at hp
          rcases hp with hp | rfl | hp
          · exact ⟨p, by k_mem, rfl⟩
          · exact ⟨_, .head _, rfl⟩
          · exact ⟨p, by k_mem, rfl⟩
        case c4 => exact TAll.snoc (DatAll.mono (fun p hp => by k_mem) hys) (DatIn.mono (fun p hp => by k_mem) ht2)
        case c5 => rw [depT_append, depT, depT]; omega
        case c6 =>
          intro k hk
          rw [occT_append, occT, occT, List.append_nil] at hk
          exact (List.mem_append.mp hk).elim (hol k) (ho2 k)
        case c7 =>
          rw [occT_append, occT, occT, List.append_nil, List.length_append, Nat.add_mul, Nat.one_mul]
          omega
      case done =>
        rintro ys nw ⟨tl, vs', ns', n', l, rfl, hx, hs', hys, hll, hokl, hdl, hol, hcl⟩
        have hyl : ys.length ≤ 1000 := by rw [hys.len, hll]; omega
        unfold LCg.FinE
        intro D h' tk' F' N' off'
        dsimp only
        (try k_unmd); (try k_fold)
        k_steps
        (rename News h₀ L _ _ => kN9); (rename (∀ p : Addr × Obj, p ∈ _ → p.1 < _) => q2)
        (rename (∀ p : Addr × Obj, p ∈ (_, LCg.lst _) :: _ → p.1 < _) => q1)
        refine ret _ _ _ _ (by assumption) (news_t kN9) ⟨_ :: _ :: tl, _, _, _, .s _ l, rfl, (hx.cons rfl ?x1).cons rfl ?x2, hs', s_in (.head _) (.tail _ (.head _)) (DatAll.mono (fun p hp => by k_mem) hys), ?x3, ?x4, ?x5, ?x6⟩
        case x1 => intro q hq; rcases List.mem_cons.mp hq with rfl | hq; exact (show @LT.lt Addr _ st _ from q1 (st, _) (by k_mem)); exact q1 q (by k_mem)
        case x2 => intro q hq; rcases List.mem_cons.mp hq with rfl | hq; exact (show @LT.lt Addr _ st _ from q2 (st, _) (by k_mem)); exact q2 q (by k_mem)
        case x3 => rw [T.ok]; exact ⟨by omega, by omega, hokl⟩
        case x4 => rw [T.dep]; omega
        case x5 => intro k hk; rw [T.occ] at hk; exact hol k hk
        case x6 =>
          rw [T.occ, Nat.pow_succ, Nat.mul_comm (3 ^ d) 3]
          exact Nat.le_trans hcl (Nat.mul_le_mul_right _ (by omega))
theorem term_spec {prog : Program} {w : World} {st : Addr} {vs : List Value} {ns : List Int} {n : Nat} {tk : Tok} {rest : List (Addr × Obj)} (hs : Stk vs ns) (hoff : ∀ p ∈ rest, p.1 ≠ st) :
    FSpec prog w 76 [.ref st, .int 3 tk] 90 1000 ((st, listOf vs.toArray n) :: rest)
      (fun r news' => ∃ tl vs' ns' n' t, news' = tl ++ (st, listOf vs'.toArray n') :: rest ∧ Ext ((st, listOf vs.toArray n) :: rest) tl ∧ Stk vs' ns' ∧ TIn tl r t ∧ t.ok ∧ t.dep ≤ 3 ∧ (∀ k ∈ t.occ, 0 ≤ k ∧ k < 5) ∧ t.occ.length ≤ 27) :=
  term_all 3 vs ns n tk rest (Nat.le_refl _) hs hoff
end

end
section

section
theorem changed_all {prog : Program} {w : World} {d : Addr} {o : Obj} {ps : List (Int × Int)} (hd : (d == sysModules) = false) (ho : DictIs prog w o ps) : 
    ∀ (N : Nat) (t : T) (v : Value) (im news : List (Addr × Obj)), t.dep < N → t.ok → TIn im v t → (∀ p ∈ im, p ∈ news) → (d, o) ∈ news →
    FSpec prog w 81 [v, .ref d] (10 * t.dep + 10) (100 * t.dep + 100) news
      (fun r news' => ∃ tl, news' = tl ++ news ∧ Ext news tl ∧ TIn (tl ++ im) r (t.map fun k => (ps.lookup k).getD k)) := by
  intro N
  induction N with
  | zero => intro t v im news h; exact absurd h (Nat.not_lt_zero _)
  | succ N IH =>
  intro t v im news hdep hok ht him hdn
  unfold FSpec SpecB
  intro p loose mean mg mb dp un gd cn cs a ccd cl outer A₀ base h₀ L m s Q E B F X N TP C hBs hcs hroom hun ret
  w_top off
  k_with_none
  (have hfill : PySem.Challenge.rw_ok0008_01 = PySem.Challenge.rw_ok0008_01 ∧ (fun w : World => Mine.hd.heap_39 w.params) = fun w : World => Mine.hd.heap_39 w.params := by (k_fill; exact ⟨rfl, rfl⟩)); clear hfill
  k_with "mem" => (first | (with_reducible assumption) | exact List.Mem.head _ | (refine' List.mem_cons_of_mem _ ?_; k_mem) | (refine' List.mem_append_right _ ?_; k_mem) | (refine' List.mem_append_left _ ?_; k_mem))
  k_with "getMethod ref" => ((k_here; (with_reducible show wpAny _ _ (getMethod (Value.ref _) (PySem.Str.ofString "get") _) _ _ _); k_dflt (refine' d_meth (by (k_asm)) (by (k_mem)) (by (assumption)) (by (assumption)) ?_)))
  k_with "call builtin:dict.get" => ((k_here; k_dflt (refine' d_get2 (by (k_asm)) (by (k_mem)) (by (assumption)) (by (assumption)) ?_); intro _))
  k_with "compareOp NotIn int ref" => ((k_here; k_dflt (refine' d_notin (by (k_asm)) (by (k_mem)) (by (assumption)) (by (assumption)) ?_)))
  k_with "subscriptTail" => ((k_here; (with_reducible show wpAny _ _ (subscriptTail _ _ (Value.ref _) (Value.int _ _)) _ _ _); k_dflt (refine' t_item (by (k_asm)) (by (k_mem)) (by (decide)) (by (decide)) (by (rfl)) (by (rfl)) ?_; k_whole)))
  k_with "call type:tuple" => ((k_here; (with_reducible show wpAny _ _ (call (Value.type _) [Value.ref _]) _ _ _); k_dflt (refine' t_tupleOf (by (k_asm)) (by (k_asm)) (by (k_mem)) (by (assumption)) ?_); intro _ _ _ _ _; (try k_sweep)))
  k_with "newTuple" => ((k_here; k_dflt (refine' t_newTuple (by (k_asm)) (by (k_asm)) (by (first | exact Nat.le_of_ble_eq_true rfl | assumption)) ?_); intro _ _ _ _ _; (try k_sweep)))
  k_with "newList" => ((k_here; k_dflt (refine' t_newList (by (k_asm)) (by (k_asm)) (by (first | exact Nat.le_of_ble_eq_true rfl | assumption)) ?_); intro _ _ _ _ _; (try k_sweep)))
  k_with "compareOp NotIn int ref" => ((k_here; k_dflt (refine' l_notin (by (k_asm)) (by (k_mem)) (by (assumption)) (by (ktr_units)) ?_)))
  k_with "call builtin:list.append" => ((k_here; (with_reducible show wpAny _ _ (call (Value.builtin _) [Value.ref _, _]) _ _ _); k_dflt (refine' l_append (by (k_asm)) (by (k_asm)) (by (k_upd)) (by (assumption)) ?_); intro _ _ _; (try k_sweep)))
  k_with "exec For" => ((k_here; (with_unfolding_all refine' For_invVF (by (k_asm)) (by (exact rfl)) (by (exact rfl)) ?_; k_whole)))
  k_with "eval Name" => ((k_here; (with_reducible show wpAny _ _ (eval (Expr.Name _ _) (envOf _ _ _ _ _)) _ _ _); name_kind "local"; k_dflt (refine' ld (by (k_asm)) (by (assumption)) ?_; k_whole)))
  k_with "eval Name" => ((k_here; (with_reducible show wpAny _ _ (eval (Expr.Name _ _) (envOfC _ _ _ _ _)) _ _ _); name_kind "local"; k_dflt (refine' nameX_L (by (k_asm)) (by (assumption)) ?_ (by (rfl)) (by (rfl)); k_whole)))
  k_with "exec While" => ((k_here; (with_reducible show wpAny _ _ (exec (Stmt.While _ _ _ _) _) _ _ _); refine' stop_of ?_))
  k_with "last exec While" => ((k_here; (with_reducible show wpAny _ _ (exec (Stmt.While _ _ _ _) _) _ _ _); refine' stop_of ?_))
  k_with "eval ListComp" => ((k_here; k_dflt (refine comp_tup (by k_asm) (by rfl) (by decide) (by rfl) (by decide) (by rfl) (by rfl) ?_)))
  cases t with
  | v k =>
    obtain ⟨a, t1, t2, n, rfl, hm⟩ := in_v ht
    have hm' := him _ hm
    refine wpAny_call ?_
    k_dflt (refine' code_defC ?k1x3 ?k2x3 ?k3x3 ?k4x3 ?k5x3 ?kAx3 ?kFx3 ?kKx3 ?k6x3 ?k7x3 ?k8x3 ?k9x3 ?kBx3 ?kDx3 ?_ ?c2x3 ?c3x3 ?c4x3; (case kAx3 => exact rfl); (case kFx3 => exact rfl); (case kKx3 => assumption); (case k1x3 => k_asm); (case k2x3 => k_asm); (case k3x3 => k_asm); (case k4x3 => k_asm); (case k5x3 => k_asm); (case k6x3 => k_is); (case k7x3 => k_is); (case k8x3 => ktr_room); (case k9x3 => exact BindsTo.of_eq rfl); (case kBx3 => exact rfl); (case kDx3 => decide +kernel); (case c2x3 => exact rfl); (case c3x3 => exact rfl); (case c4x3 => exact rfl); k_whole; intro _ _ _ _ _ _ _ hN9 hY9 hB9 _ _ _; k_cells hY9; (try simp only [List.cons_append, List.nil_append] at hN9); (try dsimp only); (try k_lift hB9); (try k_fold))
    refine hideE PassesOwn.leaving ?_
    intro EE hPE
    k_steps
    rename News h₀ L _ _ => kN9
    rename (∀ p : Addr × Obj, p ∈ _ → p.1 < _) => q1
    exact ret _ _ _ _ (by assumption) (news_v kN9) ⟨[_], rfl, Ext.nil.cons rfl (fun q hq => q1 q (by k_mem)), by rw [T.map]; exact v_in (.head _)⟩
  | c g k =>
    cases g with
    | true =>
      obtain ⟨a, t1, t2, n, rfl, hm⟩ := in_i ht
      have hm' := him _ hm
      refine wpAny_call ?_
      k_dflt (refine' code_defC ?k1x4 ?k2x4 ?k3x4 ?k4x4 ?k5x4 ?kAx4 ?kFx4 ?kKx4 ?k6x4 ?k7x4 ?k8x4 ?k9x4 ?kBx4 ?kDx4 ?_ ?c2x4 ?c3x4 ?c4x4; (case kAx4 => exact rfl); (case kFx4 => exact rfl); (case kKx4 => assumption); (case k1x4 => k_asm); (case k2x4 => k_asm); (case k3x4 => k_asm); (case k4x4 => k_asm); (case k5x4 => k_asm); (case k6x4 => k_is); (case k7x4 => k_is); (case k8x4 => ktr_room); (case k9x4 => exact BindsTo.of_eq rfl); (case kBx4 => exact rfl); (case kDx4 => decide +kernel); (case c2x4 => exact rfl); (case c3x4 => exact rfl); (case c4x4 => exact rfl); k_whole; intro _ _ _ _ _ _ _ hN9 hY9 hB9 _ _ _; k_cells hY9; (try simp only [List.cons_append, List.nil_append] at hN9); (try dsimp only); (try k_lift hB9); (try k_fold))
      refine hideE PassesOwn.leaving ?_
      intro EE hPE
      k_steps
      exact ret _ _ _ _ (by assumption) (news_sub (by assumption) (fun p hp => List.mem_cons_of_mem _ hp)) ⟨[], rfl, Ext.nil, ht⟩
    | false =>
      obtain ⟨a, t1, t2, n, rfl, hm⟩ := in_a ht
      have hm' := him _ hm
      refine wpAny_call ?_
      k_dflt (refine' code_defC ?k1x5 ?k2x5 ?k3x5 ?k4x5 ?k5x5 ?kAx5 ?kFx5 ?kKx5 ?k6x5 ?k7x5 ?k8x5 ?k9x5 ?kBx5 ?kDx5 ?_ ?c2x5 ?c3x5 ?c4x5; (case kAx5 => exact rfl); (case kFx5 => exact rfl); (case kKx5 => assumption); (case k1x5 => k_asm); (case k2x5 => k_asm); (case k3x5 => k_asm); (case k4x5 => k_asm); (case k5x5 => k_asm); (case k6x5 => k_is); (case k7x5 => k_is); (case k8x5 => ktr_room); (case k9x5 => exact BindsTo.of_eq rfl); (case kBx5 => exact rfl); (case kDx5 => decide +kernel); (case c2x5 => exact rfl); (case c3x5 => exact rfl); (case c4x5 => exact rfl); k_whole; intro _ _ _ _ _ _ _ hN9 hY9 hB9 _ _ _; k_cells hY9; (try simp only [List.cons_append, List.nil_append] at hN9); (try dsimp only); (try k_lift hB9); (try k_fold))
      refine hideE PassesOwn.leaving ?_
      intro EE hPE
      k_steps
      exact ret _ _ _ _ (by assumption) (news_sub (by assumption) (fun p hp => List.mem_cons_of_mem _ hp)) ⟨[], rfl, Ext.nil, ht⟩
  | s f l =>
    obtain ⟨a, t1, t2, n, b, vs, n', rfl, hm, hmb, hr⟩ := in_s ht
    have hm' := him _ hm
    have hmb' := him _ hmb
    refine wpAny_call ?_
    k_dflt (refine' code_defC ?k1x6 ?k2x6 ?k3x6 ?k4x6 ?k5x6 ?kAx6 ?kFx6 ?kKx6 ?k6x6 ?k7x6 ?k8x6 ?k9x6 ?kBx6 ?kDx6 ?_ ?c2x6 ?c3x6 ?c4x6; (case kAx6 => exact rfl); (case kFx6 => exact rfl); (case kKx6 => assumption); (case k1x6 => k_asm); (case k2x6 => k_asm); (case k3x6 => k_asm); (case k4x6 => k_asm); (case k5x6 => k_asm); (case k6x6 => k_is); (case k7x6 => k_is); (case k8x6 => ktr_room); (case k9x6 => exact BindsTo.of_eq rfl); (case kBx6 => exact rfl); (case kDx6 => decide +kernel); (case c2x6 => exact rfl); (case c3x6 => exact rfl); (case c4x6 => exact rfl); k_whole; intro g1 L1 h1 tk1 cells1 FG1 F1 N1 Y1 B1 X1 T1 l11; k_cells Y1; (try simp only [List.cons_append, List.nil_append] at N1); (try dsimp only); (try k_lift B1); (try k_fold))
    refine hideE PassesOwn.leaving ?_
    intro EE hPE
    rename_i o1 d11
    replace d11 : o1.data = .cell (some (.ref d)) := d11
    k_steps
    unfold TupSrc
    rw [T.ok] at hok
    have hvl : vs.length = l.length := hr.len
    rename News _ _ _ _ => N9
    refine ⟨b, vs, n', _, rfl, by k_asm, N9, by k_mem, by omega, ?_⟩
    rintro s₂ ⟨g, rfl⟩
    refine rest_ind (fun i ys nw => ∃ tl, nw = tl ++ ((L1 + 1, o1) :: news) ∧ Ext news tl ∧ TAll (tl ++ im) ys (mapT (fun k => (ps.lookup k).getD k) (l.take i))) vs.length ?step ?done vs.length 0 [] _ rfl ?init
    case step =>
      rintro i ys nw hi ⟨tl, rfl, hx, hys⟩ v' I oI C' oC D m₂ h' tk' E' hv' hC' hm₂ F' N' off' ne'
      obtain ⟨t', ht', htin⟩ := TAll.get hr hv'
      have hdn2 : (d, o) ∈ tl ++ ((L1 + 1, o1) :: news) := by k_mem
      clear ret ht hm hmb N
      dsimp only
      (try k_unmd); (try k_fold)
      k_steps
      have hd1 : t'.dep ≤ depT l := dep_mem (List.mem_of_getElem? ht')
      have hd2 : (T.s f l).dep = depT l + 1 := by simp only [T.dep]
      refine SpecB.use (IH t' v' im _ (by omega) (ok_mem (List.mem_of_getElem? ht') hok.2.2) htin ?s1 ?s2) B1 F' X1 N' T1 C trivial rfl ?r1 ?r2 ?r3
      case s1 => intro p hp; have := him p hp; k_mem
      case s2 => k_mem
      case r1 => dsimp only [ktrTop] at *; omega
      case r2 => dsimp only [ktrTop] at *; omega
      case r3 =>
      rintro r news' h'' tk'' F'' N'' ⟨tl', rfl, hx', htr⟩
      refine LCg.CompEnd.intro F'' N'' (tl' ++ (tl ++ ((L1 + 1, o1) :: news))) sub3 ?off (by k_mem) ⟨tl' ++ tl, by rw [List.append_assoc], ?e1, ?e2⟩
      case off =>
        refine LCg.Off3.of fun p hp => ?_
        rcases List.mem_append.mp hp with hp | hp
        · exact ⟨hx'.off (.head _) p hp, hx'.off (.tail _ (.head _)) p hp, hx'.off (.tail _ (.tail _ (.head _))) p hp⟩
        · exact off'.mem p hp
      case e1 => exact hx.append (hx'.sub fun p hp => by rcases List.mem_append.mp hp with hp | hp <;> k_mem)
      case e2 =>
        rw [List.take_add_one, ht', mapT_eq, List.map_append, ← mapT_eq]
        exact TAll.snoc (DatAll.mono (fun p hp => by rcases List.mem_append.mp hp with hp | hp <;> k_mem) hys) (DatIn.mono (fun p hp => by rcases List.mem_append.mp hp with hp | hp <;> k_mem) htr)
    case done =>
      rintro ys nw ⟨tl, rfl, hx, hys⟩
      unfold LCg.FinE
      intro D h' tk' F' N' off'
      dsimp only
      rw [hvl, List.take_length] at hys
      have hyl : ys.length ≤ 1000 := by rw [hys.len, mapT_eq, List.length_map]; omega
      (try k_unmd); (try k_fold)
      k_steps
      rename News h₀ L _ _ => kN9
      rename (∀ p : Addr × Obj, p ∈ _ → p.1 < _) => q2
      rename (∀ p : Addr × Obj, p ∈ (_, LCg.lst _) :: _ → p.1 < _) => q1
      refine ret _ _ _ _ (by assumption) (news_s kN9) ⟨_ :: _ :: tl, rfl, ?n2, ?n3⟩
      case n2 =>
        exact (hx.cons rfl fun q hq => q1 q (by k_mem)).cons rfl fun q hq => q2 q (by k_mem)
      case n3 =>
        rw [T.map]
        exact s_in (.head _) (.tail _ (.head _)) (DatAll.mono (fun p hp => by rcases List.mem_append.mp hp with hp | hp <;> k_mem) hys)
    case init => exact ⟨[], rfl, Ext.nil, by rw [List.take_zero, mapT]; exact DatAll.nil⟩
theorem changed_spec {prog : Program} {w : World} {d : Addr} {o : Obj} {ps : List (Int × Int)} (hd : (d == sysModules) = false) (ho : DictIs prog w o ps) {t : T} {v : Value} {im news : List (Addr × Obj)} (hok : t.ok) (ht : TIn im v t) (him : ∀ p ∈ im, p ∈ news) (hm : (d, o) ∈ news) :
    FSpec prog w 81 [v, .ref d] (10 * t.dep + 10) (100 * t.dep + 100) news
      (fun r news' => ∃ tl, news' = tl ++ news ∧ Ext news tl ∧ TIn (tl ++ im) r (t.map fun k => (ps.lookup k).getD k)) :=
  changed_all hd ho (t.dep + 1) t v im news (Nat.lt_succ_self _) hok ht him hm
end

end
section

section
theorem names_all {prog : Program} {w : World} {fd : Addr} :
    ∀ (N : Nat) (t : T) (v : Value) (im : List (Addr × Obj)) (vs : List Value) (ns : List Int) (n : Nat), t.dep < N → t.ok → TIn im v t → IntsAre vs ns → ns.length + t.occ.length ≤ 1000 → (∀ p ∈ im, p.1 ≠ fd) →
    FSpec prog w 88 [v, .ref fd] (10 * t.dep + 10) (100 * t.dep + 200) ((fd, listOf vs.toArray n) :: im)
      (fun r news' => ∃ vs' n', r = .ref fd ∧ IntsAre vs' (nubL ns t.occ) ∧ news' = (fd, listOf vs'.toArray n') :: im) := by
  intro N
  induction N with
  | zero => intro t v im vs ns n h; exact absurd h (Nat.not_lt_zero _)
  | succ N IH =>
  intro t v im vs ns n hdep hok ht hi hlen hoff
  unfold FSpec SpecB
  intro p loose mean mg mb dp un gd cn cs a ccd cl outer A₀ base h₀ L m s Q E B F X N TP C hBs hcs hroom hun ret
  w_top off
  k_with_none
  (have hfill : PySem.Challenge.rw_ok0008_01 = PySem.Challenge.rw_ok0008_01 ∧ (fun w : World => Mine.hd.heap_39 w.params) = fun w : World => Mine.hd.heap_39 w.params := by (k_fill; exact ⟨rfl, rfl⟩)); clear hfill
  k_with "mem" => (first | (with_reducible assumption) | exact List.Mem.head _ | (refine' List.mem_cons_of_mem _ ?_; k_mem) | (refine' List.mem_append_right _ ?_; k_mem) | (refine' List.mem_append_left _ ?_; k_mem))
  k_with "getMethod ref" => ((k_here; (with_reducible show wpAny _ _ (getMethod (Value.ref _) (PySem.Str.ofString "get") _) _ _ _); k_dflt (refine' d_meth (by (k_asm)) (by (k_mem)) (by (assumption)) (by (assumption)) ?_)))
  k_with "call builtin:dict.get" => ((k_here; k_dflt (refine' d_get2 (by (k_asm)) (by (k_mem)) (by (assumption)) (by (assumption)) ?_); intro _))
  k_with "compareOp NotIn int ref" => ((k_here; k_dflt (refine' d_notin (by (k_asm)) (by (k_mem)) (by (assumption)) (by (assumption)) ?_)))
  k_with "subscriptTail" => ((k_here; (with_reducible show wpAny _ _ (subscriptTail _ _ (Value.ref _) (Value.int _ _)) _ _ _); k_dflt (refine' t_item (by (k_asm)) (by (k_mem)) (by (decide)) (by (decide)) (by (rfl)) (by (rfl)) ?_; k_whole)))
  k_with "call type:tuple" => ((k_here; (with_reducible show wpAny _ _ (call (Value.type _) [Value.ref _]) _ _ _); k_dflt (refine' t_tupleOf (by (k_asm)) (by (k_asm)) (by (k_mem)) (by (assumption)) ?_); intro _ _ _ _ _; (try k_sweep)))
  k_with "newTuple" => ((k_here; k_dflt (refine' t_newTuple (by (k_asm)) (by (k_asm)) (by (first | exact Nat.le_of_ble_eq_true rfl | assumption)) ?_); intro _ _ _ _ _; (try k_sweep)))
  k_with "newList" => ((k_here; k_dflt (refine' t_newList (by (k_asm)) (by (k_asm)) (by (first | exact Nat.le_of_ble_eq_true rfl | assumption)) ?_); intro _ _ _ _ _; (try k_sweep)))
  k_with "compareOp NotIn int ref" => ((k_here; k_dflt (refine' l_notin (by (k_asm)) (by (k_mem)) (by (assumption)) (by (ktr_units)) ?_)))
  k_with "call builtin:list.append" => ((k_here; (with_reducible show wpAny _ _ (call (Value.builtin _) [Value.ref _, _]) _ _ _); k_dflt (refine' l_append (by (k_asm)) (by (k_asm)) (by (k_upd)) (by (assumption)) ?_); intro _ _ _; (try k_sweep)))
  k_with "exec For" => ((k_here; (with_unfolding_all refine' For_invVF (by (k_asm)) (by (exact rfl)) (by (exact rfl)) ?_; k_whole)))
  k_with "eval Name" => ((k_here; (with_reducible show wpAny _ _ (eval (Expr.Name _ _) (envOf _ _ _ _ _)) _ _ _); name_kind "local"; k_dflt (refine' ld (by (k_asm)) (by (assumption)) ?_; k_whole)))
  k_with "eval Name" => ((k_here; (with_reducible show wpAny _ _ (eval (Expr.Name _ _) (envOfC _ _ _ _ _)) _ _ _); name_kind "local"; k_dflt (refine' nameX_L (by (k_asm)) (by (assumption)) ?_ (by (rfl)) (by (rfl)); k_whole)))
  k_with "exec While" => ((k_here; (with_reducible show wpAny _ _ (exec (Stmt.While _ _ _ _) _) _ _ _); refine' stop_of ?_))
  k_with "last exec While" => ((k_here; (with_reducible show wpAny _ _ (exec (Stmt.While _ _ _ _) _) _ _ _); refine' stop_of ?_))
  have hvl : vs.length ≤ 1000 := by rw [hi.length]; omega
  cases t with
  | v k =>
    obtain ⟨a, t1, t2, n, rfl, hm⟩ := in_v ht
    refine wpAny_call ?_
    k_dflt cell_enter
    k_steps
    · exact ret _ _ _ _ (by assumption) (by assumption) ⟨vs, _, rfl, by (rename k ∈ ns => hk); simpa [T.occ, nubL, hk] using hi, rfl⟩
    · exact ret _ _ _ _ (by assumption) (by assumption) ⟨_, _, rfl, by (rename ¬ k ∈ ns => hk); simpa [T.occ, nubL, hk] using hi.append (.cons k t2 .nil), rfl⟩
  | c g k =>
    cases g with
    | true =>
      obtain ⟨a, t1, t2, n, rfl, hm⟩ := in_i ht
      refine wpAny_call ?_
      k_dflt cell_enter
      k_steps
      exact ret _ _ _ _ (by assumption) (by assumption) ⟨vs, _, rfl, hi, rfl⟩
    | false =>
      obtain ⟨a, t1, t2, n, rfl, hm⟩ := in_a ht
      refine wpAny_call ?_
      k_dflt cell_enter
      k_steps
      exact ret _ _ _ _ (by assumption) (by assumption) ⟨vs, _, rfl, hi, rfl⟩
  | s f l =>
    obtain ⟨a, t1, t2, nq, b, ks, n', rfl, hm, hmb, hr⟩ := in_s ht
    refine wpAny_call ?_
    k_dflt cell_enter
    rename_i g1 L1 h1 FG1 F1 N1 B1 X1 T1
    k_steps
    simp only [T.ok] at hok
    simp only [T.occ] at hlen
    have hd2 : (T.s f l).dep = depT l + 1 := by simp only [T.dep]
    have hkl : ks.length = l.length := hr.len
    rename News _ _ _ _ => N9
    rename Fr g1 L1 _ _ => F9
    refine iter_tup (fun i m' nx => (∃ vs' n', IntsAre vs' (nubL ns (occT (l.take i))) ∧ nx = (fd, listOf vs'.toArray n') :: im) ∧ m' (Str.ofString "found") = some (.ref fd)) rfl F9 N9 (.tail _ hmb) ?j1 ⟨⟨vs, _, by rw [List.take_zero]; exact hi, rfl⟩, rfl⟩ ?turn ?done
    case j1 => rintro i m' nx ⟨⟨vs', n', _, rfl⟩, _⟩; exact .tail _ hmb
    case turn =>
      rintro i v' m₁ nx I h' tk' oI hv' ⟨⟨vs', n', hi', rfl⟩, hfound⟩ hoffI F' N'
      obtain ⟨t', ht', htin⟩ := TAll.get hr hv'
      have hd1 : t'.dep ≤ depT l := dep_mem (List.mem_of_getElem? ht')
      (try k_unmd); (try k_fold)
      clear ret ht hm N
      have hIf : fd ≠ I := hoffI (fd, listOf vs'.toArray n') (.head _)
      have hl1 := nubL_length (occT (l.take i)) ns
      have hl2 := occT_take_le l (i + 1)
      rw [occT_take ht', List.length_append] at hl2
      k_steps
      refine SpecB.use (IH t' v' ((I, oI) :: im) vs' _ n' (by omega) (ok_mem (List.mem_of_getElem? ht') hok.2.2) (DatIn.mono (fun p hp => .tail _ hp) htin) hi' (by omega) ?o1) B1 F' X1 (news_sub N' ?s1) T1 C trivial rfl ?r1 ?r2 ?r3
      case o1 =>
        intro p hp
        rcases List.mem_cons.mp hp with rfl | hp
        · exact Ne.symm hIf
        · exact hoff p hp
      case s1 =>
        intro p hp
        simp only [List.mem_cons] at hp ⊢
        rcases hp with h | h | h <;> simp [h]
      case r1 => dsimp only [ktrTop] at *; omega
      case r2 => dsimp only [ktrTop] at *; omega
      case r3 =>
      rintro r news' h'' tk'' F'' N'' ⟨vs2, n2, rfl, hi2, rfl⟩
      (try k_unmd); (try k_fold)
      k_steps
      dsimp only [ItPost]
      refine ItEnd.intro F'' N'' ?e1 ?e2 ⟨⟨vs2, n2, ?e3, rfl⟩, hfound⟩
      case e1 =>
        intro p hp
        simp only [List.mem_cons] at hp ⊢
        rcases hp with h | h | h <;> simp [h]
      case e2 =>
        intro p hp
        rcases List.mem_cons.mp hp with rfl | hp
        · exact hIf
        · exact hoffI p (.tail _ hp)
      case e3 => rw [occT_take ht', nubL_append]; exact hi2
    case done =>
      rintro m₁ nx h' tk' ⟨⟨vs', n', hi', rfl⟩, hfound⟩ F' N'
      rw [hkl, List.take_length] at hi'
      dsimp only
      (try k_unmd); (try k_fold)
      k_steps
      exact ret _ _ _ _ (by assumption) (by assumption) ⟨_, _, rfl, by simpa only [T.occ] using hi', rfl⟩
theorem names_spec {prog : Program} {w : World} {fd : Addr} {t : T} {v : Value} {im : List (Addr × Obj)} {vs : List Value} {ns : List Int} {n : Nat} (hok : t.ok) (ht : TIn im v t) (hi : IntsAre vs ns) (hl : ns.length + t.occ.length ≤ 1000) (hoff : ∀ p ∈ im, p.1 ≠ fd) :
    FSpec prog w 88 [v, .ref fd] (10 * t.dep + 10) (100 * t.dep + 200) ((fd, listOf vs.toArray n) :: im)
      (fun r news' => ∃ vs' n', r = .ref fd ∧ IntsAre vs' (nubL ns t.occ) ∧ news' = (fd, listOf vs'.toArray n') :: im) :=
  names_all (t.dep + 1) t v im vs ns n (Nat.lt_succ_self _) hok ht hi hl hoff
end

end
section

section
theorem varsof_spec {prog : Program} {w : World} {tl : Addr} {t : T} {v : Value} {im : List (Addr × Obj)} {n : Nat} (hok : t.ok) (ht : TIn im v t) (hsz : t.sz ≤ 500) (htl : ∀ p ∈ im, p.1 < tl) :
    FSpec prog w 28 [.ref tl] 10 200 ((tl, listOf [v].toArray n) :: im)
      (fun r news' => ∃ D vs' n', r = .ref D ∧ IntsAre vs' (nubL [] t.occ) ∧ news' = (D, listOf vs'.toArray n') :: im ∧ ∀ p ∈ im, p.1 < D) := by
  unfold FSpec SpecB
  intro p loose mean mg mb dp un gd cn cs a ccd cl outer A₀ base h₀ L m s Q E B F X N TP C hBs hcs hroom hun ret
  w_top off
  k_with_none
  (have hfill : PySem.Challenge.rw_ok0008_01 = PySem.Challenge.rw_ok0008_01 ∧ (fun w : World => Mine.hd.heap_39 w.params) = fun w : World => Mine.hd.heap_39 w.params := by (k_fill; exact ⟨rfl, rfl⟩)); clear hfill
  k_with "mem" => (first | (with_reducible assumption) | exact List.Mem.head _ | (refine' List.mem_cons_of_mem _ ?_; k_mem) | (refine' List.mem_append_right _ ?_; k_mem) | (refine' List.mem_append_left _ ?_; k_mem))
  k_with "mm" => (first | (with_reducible assumption) | (with_reducible exact List.mem_cons_self) | (refine' List.mem_cons_of_mem _ ?_; k_extra "mm") | (refine' List.mem_append_right _ ?_; k_extra "mm") | (refine' List.mem_append_left _ ?_; k_extra "mm"))
  k_with "eval Name" => (k_here; (with_reducible show wpAny _ _ (eval (Expr.Name _ _) (envOf _ _ _ _ _)) _ _ _); k_dflt (first
        | (name_kind "local"; refine' ld (by k_asm) (by exact rfl) ?_; k_whole)
        | (name_kind "globalImplicit"; refine' name_K (by k_asm) (by k_asm) (by k_asm) (by k_is) ?_; k_whole)
        | (name_kind "globalImplicit"; refine' name_B (by k_asm) (by k_asm) (by k_asm) (by k_is) (by boot_by_name) (by decide) ?_; k_whole)))
  k_with "getMethod ref" => ((k_here; (with_reducible show wpAny _ _ (getMethod (Value.ref _) (PySem.Str.ofString "get") _) _ _ _); k_dflt (refine' d_meth (by (k_asm)) (by (k_mem)) (by (assumption)) (by (assumption)) ?_)))
  k_with "call builtin:dict.get" => ((k_here; k_dflt (refine' d_get2 (by (k_asm)) (by (k_mem)) (by (assumption)) (by (assumption)) ?_); intro _))
  k_with "compareOp NotIn int ref" => ((k_here; k_dflt (refine' d_notin (by (k_asm)) (by (k_mem)) (by (assumption)) (by (assumption)) ?_)))
  k_with "subscriptTail" => ((k_here; (with_reducible show wpAny _ _ (subscriptTail _ _ (Value.ref _) (Value.int _ _)) _ _ _); k_dflt (refine' t_item (by (k_asm)) (by (k_mem)) (by (decide)) (by (decide)) (by (rfl)) (by (rfl)) ?_; k_whole)))
  k_with "call type:tuple" => ((k_here; (with_reducible show wpAny _ _ (call (Value.type _) [Value.ref _]) _ _ _); k_dflt (refine' t_tupleOf (by (k_asm)) (by (k_asm)) (by (k_mem)) (by (assumption)) ?_); intro _ _ _ _ _; (try k_sweep)))
  k_with "newTuple" => ((k_here; k_dflt (refine' t_newTuple (by (k_asm)) (by (k_asm)) (by (first | exact Nat.le_of_ble_eq_true rfl | assumption)) ?_); intro _ _ _ _ _; (try k_sweep)))
  k_with "newList" => ((k_here; k_dflt (refine' t_newList (by (k_asm)) (by (k_asm)) (by (first | exact Nat.le_of_ble_eq_true rfl | assumption)) ?_); intro _ _ _ _ _; (try k_sweep)))
  k_with "compareOp NotIn int ref" => ((k_here; k_dflt (refine' l_notin (by (k_asm)) (by (k_mem)) (by (assumption)) (by (ktr_units)) ?_)))
  k_with "call builtin:list.append" => ((k_here; (with_reducible show wpAny _ _ (call (Value.builtin _) [Value.ref _, _]) _ _ _); k_dflt (refine' l_append (by (k_asm)) (by (k_asm)) (by (k_upd)) (by (assumption)) ?_); intro _ _ _; (try k_sweep)))
  k_with "exec For" => ((k_here; (with_unfolding_all refine' For_invVF (by (k_asm)) (by (exact rfl)) (by (exact rfl)) ?_; k_whole)))
  k_with "eval Name" => ((k_here; (with_reducible show wpAny _ _ (eval (Expr.Name _ _) (envOf _ _ _ _ _)) _ _ _); name_kind "local"; k_dflt (refine' ld (by (k_asm)) (by (assumption)) ?_; k_whole)))
  k_with "eval Name" => ((k_here; (with_reducible show wpAny _ _ (eval (Expr.Name _ _) (envOfC _ _ _ _ _)) _ _ _); name_kind "local"; k_dflt (refine' nameX_L (by (k_asm)) (by (assumption)) ?_ (by (rfl)) (by (rfl)); k_whole)))
  k_with "exec While" => ((k_here; (with_reducible show wpAny _ _ (exec (Stmt.While _ _ _ _) _) _ _ _); refine' stop_of ?_))
  k_with "last exec While" => ((k_here; (with_reducible show wpAny _ _ (exec (Stmt.While _ _ _ _) _) _ _ _); refine' stop_of ?_))
  k_with "getMethod ref" => (k_here; (with_reducible show wpAny _ _ (getMethod (Value.ref _) (PySem.Str.ofString "pop") _) _ _ _); k_dflt (refine' kl_method (by k_asm) (by k_extra "mm") PySem.F.slot_list_pop PySem.F.type_list_pop ?_))
  k_with "getMethod ref" => (k_here; (with_reducible show wpAny _ _ (getMethod (Value.ref _) (PySem.Str.ofString "extend") _) _ _ _); k_dflt (refine' kl_method (by k_asm) (by k_extra "mm") PySem.F.slot_list_extend PySem.F.type_list_extend ?_))
  k_with "getMethod ref" => (k_here; (with_reducible show wpAny _ _ (getMethod (Value.ref _) (PySem.Str.ofString "append") _) _ _ _); k_dflt (refine' listMethod_K (by k_asm) (by k_extra "mm") PySem.F.slot_list_append PySem.F.type_list_append ?_))
  k_with "call type:list" => ((k_here; (with_reducible show wpAny _ _ (call (Value.type _) [Value.ref _]) _ _ _); k_dflt (refine' x_listrev (by (exact rfl)) (by (k_asm)) (by (k_asm)) (by (k_mem)) (by (exact Nat.le_of_ble_eq_true rfl)) (by (assumption)) ?_); intro _ _ _ _ _ _ _; (try k_sweep)))
  k_with "call type:reversed" => ((k_here; (with_reducible show wpAny _ _ (call (Value.type _) [Value.ref _]) _ _ _); k_dflt (refine' krv_reversed (by (k_asm)) (by (k_asm)) (by (is_list)) ?_); intro _ _ _ _ _))
  k_with "call type:reversed" => ((k_here; (with_reducible show wpAny _ _ (call (Value.type _) [Value.ref _]) _ _ _); k_dflt (refine' x_reversed (by (k_asm)) (by (k_asm)) (by (k_mem)) (by (assumption)) ?_); intro _ _ _ _ _ _))
  k_with "call builtin:list.extend" => (k_here; (with_reducible show wpAny _ _ (call (Value.builtin _) [Value.ref _, Value.ref _]) _ _ _); k_dflt (refine' x_extend (by exact rfl) (by k_asm) (by k_asm) (by k_mem) (by assumption) (by assumption) (by assumption) ?xeo2 ?_; (case xeo2 => exact fun p hp => (by assumption : ∀ p ∈ _ :: _, p.1 < _) p (List.mem_cons_of_mem _ hp))); intro _ _ _ _ _)
  k_with "call builtin:list.pop" => ((k_here; (with_reducible show wpAny _ _ (call (Value.builtin _) [Value.ref _]) _ _ _); k_dflt (refine' x_pop (by (k_asm)) (by (k_asm)) (by (k_upd)) (by (assumption)) ?_); intro _ _ _))
  k_with "truthy ref" => ((k_here; (with_reducible show wpAny _ _ (truthy (Value.ref _)) _ _ _); k_dflt (refine' x_truthy1 (by (k_asm)) (by (k_mem)) (by (assumption)) ?_); intro _))
  k_with "truthy ref" => ((k_here; (with_reducible show wpAny _ _ (truthy (Value.ref _)) _ _ _); k_dflt (refine' x_truthy0 (by (k_asm)) (by (k_mem)) ?_); intro _))
  k_with "compareOp NotIn int ref" => ((k_here; k_dflt (refine' s_notin (by (k_asm)) (by (k_mem)) (by (assumption)) (by (assumption)) ?_)))
  k_with "setItem ref int" => ((k_here; k_dflt (refine' s_set (by (k_asm)) (by (k_asm)) (by (k_updF)) (by (assumption)) (by (assumption)) (by (assumption)) ?_); intro _ _ _ hN9 _; (try dsimp only at hN9); revert hN9; intro _))
  refine wpAny_call ?_
  k_dflt cell_enter
  rename_i g1 L1 h1 FG1 F1 N1 B1 X1 T1
  k_steps
  rename_i sd h6 o lo hs0 fs0 hi0 fi0 q1 h5 rd h4 q2 h3 tk3 I0 h2 q3 st c0 hh1 tk1 q4 hh0 F9 N9
  unfold Stop
  have d0 : DictT prog w o [] := ⟨[], hi0, fi0⟩
  clear hs0 fs0 hi0 fi0 q3
  have hrs : ∀ p ∈ im, p.1 < rd := fun p hp => q2 p (.tail _ (.tail _ hp))
  have hss : ∀ p ∈ im, p.1 < st := fun p hp => q4 p (.tail _ (.tail _ (.tail _ hp)))
  have hrst : rd < st := q4 _ (.head _)
  refine hideQ ?_
  intro QW hQW
  refine While_inv2 (fun k m' nx => (∃ acc ts n1 rvs ns n3 o', nx = (st, listOf acc.toArray n1) :: (rd, listOf rvs.toArray n3) :: (sd, o') :: (tl, listOf #[v] n) :: im ∧ TAll im acc ts ∧ okT ts ∧ IntsAre rvs ns ∧ DictT prog w o' ns ∧ nubL ns (occT ts.reverse) = nubL [] t.occ ∧ ns.length + szT ts ≤ 500 ∧ k = szT ts) ∧
      m' (Str.ofString "todo") = some (.ref st) ∧ m' (Str.ofString "result") = some (.ref rd) ∧ m' (Str.ofString "seen") = some (.ref sd)) (n₀ := t.sz) F9 N9 ⟨⟨_, [t], _, [], [], _, _, rfl, ?i1, ?i2, .nil, d0, ?i3, ?i4, ?i5⟩, rfl, rfl, rfl⟩ ?turn
  case i1 => exact .cons ht .nil
  case i2 => rw [okT]; exact ⟨hok, by rw [okT]; trivial⟩
  case i3 => simp [occT]
  case i4 => simp [szT]; exact hsz
  case i5 => simp [szT]
  case turn =>
  rintro k m₁ nx h' tk' F' N' ⟨⟨acc, ts, n1, rvs, ns, n3, o', rfl, hta, hokt, hri, hdi, heq, hlen, rfl⟩, htodo, hresult, hseen⟩
  have hoff : ∀ p ∈ (rd, listOf rvs.toArray n3) :: (sd, o') :: (tl, listOf #[v] n) :: im, p.1 ≠ st := by
    intro p hp
    rcases List.mem_cons.mp hp with rfl | hp
    · exact Nat.ne_of_lt hrst
    rcases List.mem_cons.mp hp with rfl | hp
    · exact Nat.ne_of_lt (q4 (sd, o) (.tail _ (.head _)))
    · exact Nat.ne_of_lt (q4 p (.tail _ (.tail _ hp)))
  have hrl : rvs.length ≤ 1000 := by rw [hri.length]; omega
  have hnl : ns.length ≤ 1000 := by omega
  have hq2 : @LT.lt Nat _ sd rd ∧ @LT.lt Nat _ tl rd ∧ AllLt rd im := ⟨q2 (sd, o) (.head _), q2 (tl, _) (.tail _ (.head _)), allLt_of fun p hp => q2 p (.tail _ (.tail _ hp))⟩
  have hq4 : @LT.lt Nat _ rd st ∧ @LT.lt Nat _ sd st ∧ @LT.lt Nat _ tl st ∧ AllLt st im := ⟨q4 _ (.head _), q4 (sd, o) (.tail _ (.head _)), q4 (tl, _) (.tail _ (.tail _ (.head _))), allLt_of fun p hp => q4 p (.tail _ (.tail _ (.tail _ hp)))⟩
  clear q2 q4 F N F9 N9
  rcases List.eq_nil_or_concat acc with rfl | ⟨acc', y, rfl⟩
  · have e : ts = [] := by
      have := hta.len
      cases ts with
      | nil => rfl
      | cons _ _ => cases this
    subst e
    subst hQW
    (try k_unmd); (try k_fold)
    k_steps
    rename News h₀ L _ _ => kN9
    refine ret _ _ _ _ (by assumption) (news_sub kN9 ?g1) ⟨rd, rvs, n3, rfl, by rw [← heq]; exact hri, rfl, hrs⟩
    intro p hp
    simp only [List.mem_cons] at hp ⊢
    rcases hp with h | h <;> simp [h]
  · rw [List.concat_eq_append] at *
    obtain ⟨l', t', rfl, hta', ht'⟩ := tall_last hta
    have hal : acc'.length ≤ 1000000 := by rw [hta'.len]; have := szT_len l'; rw [szT_append] at hlen; omega
    clear ret hta
    (try k_unmd); (try k_fold)
    rw [List.reverse_append] at heq
    rw [szT_append] at hlen
    have hokl : okT l' := (okT_split hokt).1
    have hokt' : t'.ok := okT_one (okT_split hokt).2
    cases t' with
    | v k =>
      obtain ⟨a, t1, t2, nq, rfl, hm⟩ := in_v ht'
      have e1 : nubL ns (k :: occT l'.reverse) = nubL [] t.occ := heq
      have e2 : szT [T.v k] = 1 := rfl
      k_steps
      · (rename k ∈ ns => hk)
        rename News g1 L1 _ _ => kN9
        rename Fr g1 L1 _ _ => kF9
        refine ⟨_, _, _, _, szT l', rfl, kF9, kN9, by rw [szT_append]; omega, ⟨acc', l', _, rvs, ns, n3, o', rfl, hta', hokl, hri, hdi, ?_, by omega, rfl⟩, htodo, hresult, hseen⟩
        rw [← e1]; simp [nubL, hk]
      · (rename ¬ k ∈ ns => hk)
        rename News g1 L1 _ _ => kN9
        rename Fr g1 L1 _ _ => kF9
        refine ⟨_, _, _, _, szT l', rfl, kF9, kN9, by rw [szT_append]; omega, ⟨acc', l', _, _, ns ++ [k], _, _, rfl, hta', hokl, hri.append (.cons k t2 .nil), (by assumption), ?_, by rw [List.length_append]; simp; omega, rfl⟩, htodo, hresult, hseen⟩
        rw [← e1]; simp [nubL, hk]
    | c g k =>
      have e2 : szT [T.c g k] = 1 := rfl
      cases g with
      | true =>
        obtain ⟨a, t1, t2, nq, rfl, hm⟩ := in_i ht'
        k_steps
        rename News g1 L1 _ _ => kN9
        rename Fr g1 L1 _ _ => kF9
        exact ⟨_, _, _, _, szT l', rfl, kF9, kN9, by rw [szT_append]; omega, ⟨acc', l', _, rvs, ns, n3, o', rfl, hta', hokl, hri, hdi, heq, by omega, rfl⟩, htodo, hresult, hseen⟩
      | false =>
        obtain ⟨a, t1, t2, nq, rfl, hm⟩ := in_a ht'
        k_steps
        rename News g1 L1 _ _ => kN9
        rename Fr g1 L1 _ _ => kF9
        exact ⟨_, _, _, _, szT l', rfl, kF9, kN9, by rw [szT_append]; omega, ⟨acc', l', _, rvs, ns, n3, o', rfl, hta', hokl, hri, hdi, heq, by omega, rfl⟩, htodo, hresult, hseen⟩
    | s f l =>
      obtain ⟨a, t1, t2, nq, b, ks, n', rfl, hm, hmb, hr⟩ := in_s ht'
      have e2 : szT [T.s f l] = szT l + 1 := rfl
      simp only [T.ok] at hokt'
      have hkl : ks.length ≤ 1000 := by rw [hr.len]; omega
      k_steps
      rename News g1 L1 _ _ => kN9
      rename Fr g1 L1 _ _ => kF9
      refine ⟨_, _, _, _, szT l' + szT l, rfl, kF9, kN9, by rw [szT_append]; omega, ⟨_, l' ++ l.reverse, _, rvs, ns, n3, o', rfl, tall_append hta' (tall_reverse hr), okT_append hokl (okT_reverse hokt'.2.2), hri, hdi, ?_, ?_, ?_⟩, htodo, hresult, hseen⟩
      · rw [← heq, List.reverse_append, List.reverse_reverse, occT_append]
        show _ = nubL ns (occT (T.s f l :: l'.reverse))
        rw [occT]; rfl
      · rw [szT_append, szT_reverse]; omega
      · rw [szT_append, szT_reverse]
end
section
theorem vars_spec {prog : Program} {w : World} {t : T} {v : Value} {im : List (Addr × Obj)} (hok : t.ok) (ht : TIn im v t) (hsz : t.sz ≤ 500) :
    FSpec prog w 21 [v] 12 400 im
      (fun r news' => ∃ D vs' n', r = .ref D ∧ IntsAre vs' (nubL [] t.occ) ∧ news' = (D, listOf vs'.toArray n') :: im ∧ ∀ p ∈ im, p.1 < D) := by
  unfold FSpec SpecB
  intro p loose mean mg mb dp un gd cn cs a ccd cl outer A₀ base h₀ L m s Q E B F X N TP C hBs hcs hroom hun ret
  w_top off
  k_with_none
  (have hfill : PySem.Challenge.rw_ok0008_01 = PySem.Challenge.rw_ok0008_01 ∧ (fun w : World => Mine.hd.heap_39 w.params) = fun w : World => Mine.hd.heap_39 w.params := by (k_fill; exact ⟨rfl, rfl⟩)); clear hfill
  k_with "mem" => (first | (with_reducible assumption) | exact List.Mem.head _ | (refine' List.mem_cons_of_mem _ ?_; k_mem) | (refine' List.mem_append_right _ ?_; k_mem) | (refine' List.mem_append_left _ ?_; k_mem))
  k_with "mm" => (first | (with_reducible assumption) | (with_reducible exact List.mem_cons_self) | (refine' List.mem_cons_of_mem _ ?_; k_extra "mm") | (refine' List.mem_append_right _ ?_; k_extra "mm") | (refine' List.mem_append_left _ ?_; k_extra "mm"))
  k_with "eval Name" => (k_here; (with_reducible show wpAny _ _ (eval (Expr.Name _ _) (envOf _ _ _ _ _)) _ _ _); k_dflt (first
        | (name_kind "local"; refine' ld (by k_asm) (by exact rfl) ?_; k_whole)
        | (name_kind "globalImplicit"; refine' name_K (by k_asm) (by k_asm) (by k_asm) (by k_is) ?_; k_whole)
        | (name_kind "globalImplicit"; refine' name_B (by k_asm) (by k_asm) (by k_asm) (by k_is) (by boot_by_name) (by decide) ?_; k_whole)))
  k_with "getMethod ref" => ((k_here; (with_reducible show wpAny _ _ (getMethod (Value.ref _) (PySem.Str.ofString "get") _) _ _ _); k_dflt (refine' d_meth (by (k_asm)) (by (k_mem)) (by (assumption)) (by (assumption)) ?_)))
  k_with "call builtin:dict.get" => ((k_here; k_dflt (refine' d_get2 (by (k_asm)) (by (k_mem)) (by (assumption)) (by (assumption)) ?_); intro _))
  k_with "compareOp NotIn int ref" => ((k_here; k_dflt (refine' d_notin (by (k_asm)) (by (k_mem)) (by (assumption)) (by (assumption)) ?_)))
  k_with "subscriptTail" => ((k_here; (with_reducible show wpAny _ _ (subscriptTail _ _ (Value.ref _) (Value.int _ _)) _ _ _); k_dflt (refine' t_item (by (k_asm)) (by (k_mem)) (by (decide)) (by (decide)) (by (rfl)) (by (rfl)) ?_; k_whole)))
  k_with "call type:tuple" => ((k_here; (with_reducible show wpAny _ _ (call (Value.type _) [Value.ref _]) _ _ _); k_dflt (refine' t_tupleOf (by (k_asm)) (by (k_asm)) (by (k_mem)) (by (assumption)) ?_); intro _ _ _ _ _; (try k_sweep)))
  k_with "newTuple" => ((k_here; k_dflt (refine' t_newTuple (by (k_asm)) (by (k_asm)) (by (first | exact Nat.le_of_ble_eq_true rfl | assumption)) ?_); intro _ _ _ _ _; (try k_sweep)))
  k_with "newList" => ((k_here; k_dflt (refine' t_newList (by (k_asm)) (by (k_asm)) (by (first | exact Nat.le_of_ble_eq_true rfl | assumption)) ?_); intro _ _ _ _ _; (try k_sweep)))
  k_with "compareOp NotIn int ref" => ((k_here; k_dflt (refine' l_notin (by (k_asm)) (by (k_mem)) (by (assumption)) (by (ktr_units)) ?_)))
  k_with "call builtin:list.append" => ((k_here; (with_reducible show wpAny _ _ (call (Value.builtin _) [Value.ref _, _]) _ _ _); k_dflt (refine' l_append (by (k_asm)) (by (k_asm)) (by (k_upd)) (by (assumption)) ?_); intro _ _ _; (try k_sweep)))
  k_with "exec For" => ((k_here; (with_unfolding_all refine' For_invVF (by (k_asm)) (by (exact rfl)) (by (exact rfl)) ?_; k_whole)))
  k_with "eval Name" => ((k_here; (with_reducible show wpAny _ _ (eval (Expr.Name _ _) (envOf _ _ _ _ _)) _ _ _); name_kind "local"; k_dflt (refine' ld (by (k_asm)) (by (assumption)) ?_; k_whole)))
  k_with "eval Name" => ((k_here; (with_reducible show wpAny _ _ (eval (Expr.Name _ _) (envOfC _ _ _ _ _)) _ _ _); name_kind "local"; k_dflt (refine' nameX_L (by (k_asm)) (by (assumption)) ?_ (by (rfl)) (by (rfl)); k_whole)))
  k_with "exec While" => ((k_here; (with_reducible show wpAny _ _ (exec (Stmt.While _ _ _ _) _) _ _ _); refine' stop_of ?_))
  k_with "last exec While" => ((k_here; (with_reducible show wpAny _ _ (exec (Stmt.While _ _ _ _) _) _ _ _); refine' stop_of ?_))
  k_with "getMethod ref" => (k_here; (with_reducible show wpAny _ _ (getMethod (Value.ref _) (PySem.Str.ofString "pop") _) _ _ _); k_dflt (refine' kl_method (by k_asm) (by k_extra "mm") PySem.F.slot_list_pop PySem.F.type_list_pop ?_))
  k_with "getMethod ref" => (k_here; (with_reducible show wpAny _ _ (getMethod (Value.ref _) (PySem.Str.ofString "extend") _) _ _ _); k_dflt (refine' kl_method (by k_asm) (by k_extra "mm") PySem.F.slot_list_extend PySem.F.type_list_extend ?_))
  k_with "getMethod ref" => (k_here; (with_reducible show wpAny _ _ (getMethod (Value.ref _) (PySem.Str.ofString "append") _) _ _ _); k_dflt (refine' listMethod_K (by k_asm) (by k_extra "mm") PySem.F.slot_list_append PySem.F.type_list_append ?_))
  k_with "call ref" => ((k_here; (with_reducible show wpAny _ _ (call (Value.ref 28) [Value.ref _]) _ _ _); k_dflt (refine' SpecB.use (varsof_spec ?hok ?ht ?hsz ?htl) ?B ?F ?X ?N ?T ?C trivial ?cs ?hd ?hu ?_; (case B => k_asm); (case F => k_asm); (case X => k_asm); (case N => k_asm); (case T => k_asm); (case C => assumption); (case cs => first | exact rfl | assumption); (case hok => assumption); (case ht => assumption); (case hsz => assumption); (case htl => assumption); (case hd => ktr_room); (case hu => ktr_units)); rintro r1 news1 h1' tk1' F' N' ⟨D1, vs1, n1, hr1, hi1, hn', hlt1⟩; subst hr1; subst hn'; (try dsimp only at N'); (try dsimp only)))
  k_with "newList" => ((k_here; k_dflt (refine' t_newList (by (k_asm)) (by (k_asm)) (by (first | exact Nat.le_of_ble_eq_true rfl | assumption)) ?_); intro _ _ _ _ _))
  have hk : ∃ x, v = .ref x := by
    cases t with
    | v k => obtain ⟨a, _, _, _, rfl, _⟩ := in_v ht; exact ⟨_, rfl⟩
    | c g k => cases g with
      | true => obtain ⟨a, _, _, _, rfl, _⟩ := in_i ht; exact ⟨_, rfl⟩
      | false => obtain ⟨a, _, _, _, rfl, _⟩ := in_a ht; exact ⟨_, rfl⟩
    | s f l => obtain ⟨a, _, _, _, _, _, _, rfl, _⟩ := in_s ht; exact ⟨_, rfl⟩
  obtain ⟨va, rfl⟩ := hk
  refine wpAny_call ?_
  k_dflt cell_enter
  rename_i g1 L1 h1 FG1 F1 N1 B1 X1 T1
  k_steps
  exact ret _ _ _ _ (by assumption) (by assumption) ⟨_, _, _, rfl, by assumption, rfl, by assumption⟩
end

end
section

section
set_option maxHeartbeats 40000000 in
theorem rebuild_spec {prog : Program} {w : World} {ca : Addr} {σ : Type} {St : σ → List (Addr × Obj) → Prop} {val : σ → Int → Int} {nxt : σ → Int → σ} {bd : σ → Nat} {cn' cu : Nat} (H : Chg prog w ca St val nxt bd cn' cu)
    {t : T} {v : Value} {sl im : List (Addr × Obj)} {s₀ : σ} (hok : t.ok) (ht : TIn im v t) (hst : St s₀ sl) (hb : bd s₀ + 2 * t.sz ≤ 900) (hnd : ((sl ++ im).map Prod.fst).Nodup) :
    FSpec prog w 35 [v, .ref ca, .bool false] (cn' + 10) (cu + 200) (sl ++ im)
      (fun r news' => ∃ tl sl', news' = tl ++ (sl' ++ im) ∧ Ext (sl ++ im) tl ∧ TIn (tl ++ im) r (T.mapS val nxt s₀ t).1 ∧ St (T.mapS val nxt s₀ t).2 sl' ∧ sl'.map Prod.fst = sl.map Prod.fst ∧ ((tl ++ (sl' ++ im)).map Prod.fst).Nodup) := by
  unfold FSpec SpecB
  intro p loose mean mg mb dp un gd cn cs a ccd cl outer A₀ base h₀ L m s Q E B F X N TP C hBs hcs hroom hun ret
  have hC1 := C.1
  obtain ⟨oc, od, fd, slt, hfn⟩ := H.1 _ _ hst
  w_top off
  k_with_none
  (have hfill : PySem.Challenge.rw_ok0008_01 = PySem.Challenge.rw_ok0008_01 ∧ (fun w : World => Mine.hd.heap_39 w.params) = fun w : World => Mine.hd.heap_39 w.params := by (k_fill; exact ⟨rfl, rfl⟩)); clear hfill
  k_with "mem" => (first | (with_reducible assumption) | exact List.Mem.head _ | (refine' List.mem_cons_of_mem _ ?_; k_mem) | (refine' List.mem_append_right _ ?_; k_mem) | (refine' List.mem_append_left _ ?_; k_mem))
  k_with "mm" => (first | (with_reducible assumption) | (with_reducible exact List.mem_cons_self) | (refine' List.mem_cons_of_mem _ ?_; k_extra "mm") | (refine' List.mem_append_right _ ?_; k_extra "mm") | (refine' List.mem_append_left _ ?_; k_extra "mm"))
  k_with "eval Name" => (k_here; (with_reducible show wpAny _ _ (eval (Expr.Name _ _) (envOf _ _ _ _ _)) _ _ _); k_dflt (first
        | (name_kind "local"; refine' ld (by k_asm) (by exact rfl) ?_; k_whole)
        | (name_kind "globalImplicit"; refine' name_K (by k_asm) (by k_asm) (by k_asm) (by k_is) ?_; k_whole)
        | (name_kind "globalImplicit"; refine' name_B (by k_asm) (by k_asm) (by k_asm) (by k_is) (by boot_by_name) (by decide) ?_; k_whole)))
  k_with "getMethod ref" => ((k_here; (with_reducible show wpAny _ _ (getMethod (Value.ref _) (PySem.Str.ofString "get") _) _ _ _); k_dflt (refine' d_meth (by (k_asm)) (by (k_mem)) (by (assumption)) (by (assumption)) ?_)))
  k_with "call builtin:dict.get" => ((k_here; k_dflt (refine' d_get2 (by (k_asm)) (by (k_mem)) (by (assumption)) (by (assumption)) ?_); intro _))
  k_with "compareOp NotIn int ref" => ((k_here; k_dflt (refine' d_notin (by (k_asm)) (by (k_mem)) (by (assumption)) (by (assumption)) ?_)))
  k_with "subscriptTail" => ((k_here; (with_reducible show wpAny _ _ (subscriptTail _ _ (Value.ref _) (Value.int _ _)) _ _ _); k_dflt (refine' t_item (by (k_asm)) (by (k_mem)) (by (decide)) (by (decide)) (by (rfl)) (by (rfl)) ?_; k_whole)))
  k_with "call type:tuple" => ((k_here; (with_reducible show wpAny _ _ (call (Value.type _) [Value.ref _]) _ _ _); k_dflt (refine' t_tupleOf (by (k_asm)) (by (k_asm)) (by (k_mem)) (by (assumption)) ?_); intro _ _ _ _ _; (try k_sweep)))
  k_with "newTuple" => ((k_here; k_dflt (refine' t_newTuple (by (k_asm)) (by (k_asm)) (by (first | exact Nat.le_of_ble_eq_true rfl | assumption)) ?_); intro _ _ _ _ _; (try k_sweep)))
  k_with "newList" => ((k_here; k_dflt (refine' t_newList (by (k_asm)) (by (k_asm)) (by (first | exact Nat.le_of_ble_eq_true rfl | assumption)) ?_); intro _ _ _ _ _; (try k_sweep)))
  k_with "compareOp NotIn int ref" => ((k_here; k_dflt (refine' l_notin (by (k_asm)) (by (k_mem)) (by (assumption)) (by (ktr_units)) ?_)))
  k_with "call builtin:list.append" => ((k_here; (with_reducible show wpAny _ _ (call (Value.builtin _) [Value.ref _, _]) _ _ _); k_dflt (refine' l_append (by (k_asm)) (by (k_asm)) (by (k_upd)) (by (assumption)) ?_); intro _ _ _; (try k_sweep)))
  k_with "exec For" => ((k_here; (with_unfolding_all refine' For_invVF (by (k_asm)) (by (exact rfl)) (by (exact rfl)) ?_; k_whole)))
  k_with "eval Name" => ((k_here; (with_reducible show wpAny _ _ (eval (Expr.Name _ _) (envOf _ _ _ _ _)) _ _ _); name_kind "local"; k_dflt (refine' ld (by (k_asm)) (by (assumption)) ?_; k_whole)))
  k_with "eval Name" => ((k_here; (with_reducible show wpAny _ _ (eval (Expr.Name _ _) (envOfC _ _ _ _ _)) _ _ _); name_kind "local"; k_dflt (refine' nameX_L (by (k_asm)) (by (assumption)) ?_ (by (rfl)) (by (rfl)); k_whole)))
  k_with "exec While" => ((k_here; (with_reducible show wpAny _ _ (exec (Stmt.While _ _ _ _) _) _ _ _); refine' stop_of ?_))
  k_with "last exec While" => ((k_here; (with_reducible show wpAny _ _ (exec (Stmt.While _ _ _ _) _) _ _ _); refine' stop_of ?_))
  k_with "getMethod ref" => (k_here; (with_reducible show wpAny _ _ (getMethod (Value.ref _) (PySem.Str.ofString "pop") _) _ _ _); k_dflt (refine' kl_method (by k_asm) (by k_extra "mm") PySem.F.slot_list_pop PySem.F.type_list_pop ?_))
  k_with "getMethod ref" => (k_here; (with_reducible show wpAny _ _ (getMethod (Value.ref _) (PySem.Str.ofString "append") _) _ _ _); k_dflt (refine' listMethod_K (by k_asm) (by k_extra "mm") PySem.F.slot_list_append PySem.F.type_list_append ?_))
  k_with "call ref" => ((k_here; (with_reducible show wpAny _ _ (call (Value.ref _) [Value.int _ _]) _ _ _); refine stop_of ?_))
  k_with "compareOp Eq int int" => ((k_here; first | (refine' eq_int_no (by (assumption)) ?_) | (refine' eq_int_yes (by (assumption)) ?_)))
  k_with "truthy ref" => ((k_here; (with_reducible show wpAny _ _ (truthy (Value.ref _)) _ _ _); refine stop_of ?_))
  k_with "truthy ref" => ((k_here; (with_reducible show wpAny _ _ (truthy (Value.ref _)) _ _ _); k_dflt (refine' x_truthy1 (by (k_asm)) (by (k_extra "mm")) (by (assumption)) ?_); intro _))
  k_with "truthy ref" => ((k_here; (with_reducible show wpAny _ _ (truthy (Value.ref _)) _ _ _); k_dflt (refine' x_truthy0 (by (k_asm)) (by (k_extra "mm")) ?_); intro _))
  k_with "call builtin:list.append" => ((k_here; (with_reducible show wpAny _ _ (call (Value.builtin _) [Value.ref _, _]) _ _ _); refine stop_of ?_))
  k_with "call builtin:list.pop" => ((k_here; (with_reducible show wpAny _ _ (call (Value.builtin _) [Value.ref _]) _ _ _); k_dflt (refine' x_pop (by (k_asm)) (by (k_asm)) (by (exact upd0 rfl (by assumption))) (by (assumption)) ?_); intro _ _ _))
  k_with "call builtin:len" => ((k_here; k_dflt (refine' x_lenL (by (k_asm)) (by (k_extra "mm")) (by (assumption)) ?_); intro _ _))
  k_with "call builtin:len cons nil" => ((k_here; k_dflt (refine' x_lenL (by (k_asm)) (by (k_extra "mm")) (by (assumption)) ?_); intro _ _))
  k_with "call builtin:len" => ((k_here; k_dflt (refine' x_lenT (by (k_asm)) (by (k_extra "mm")) (by (assumption)) ?_); intro _ _))
  k_with "call builtin:len cons nil" => ((k_here; k_dflt (refine' x_lenT (by (k_asm)) (by (k_extra "mm")) (by (assumption)) ?_); intro _ _))
  k_with "subscriptTail" => ((k_here; (with_reducible show wpAny _ _ (subscriptTail _ _ (Value.ref _) (Value.int (-1) _)) _ _ _); (with_unfolding_all refine' x_last (by (k_asm)) (by (k_mem)) ?_; k_whole)))
  k_with "subscriptTail Name UnaryOp ref int" => ((k_here; (with_reducible show wpAny _ _ (subscriptTail _ _ (Value.ref _) (Value.int (-1) _)) _ _ _); (with_unfolding_all refine' x_last (by (k_asm)) (by (k_mem)) ?_; k_whole)))
  k_with "subscriptTail" => ((k_here; (with_reducible show wpAny _ _ (subscriptTail _ _ (Value.ref _) (Value.int (Nat.cast _) _)) _ _ _); first | (with_unfolding_all refine' x_itemT (by (k_asm)) (by (k_mem)) (by (assumption)) (by (assumption)) ?_; k_whole) | (refine stop_of ?_)))
  k_with "subscriptTail Name Call" => ((k_here; (with_reducible show wpAny _ _ (subscriptTail _ _ (Value.ref _) (Value.int (Nat.cast _) _)) _ _ _); first | (with_unfolding_all refine' x_itemT (by (k_asm)) (by (k_mem)) (by (assumption)) (by (assumption)) ?_; k_whole) | (refine stop_of ?_)))
  k_with "subscriptTail Name Call ref int" => ((k_here; (with_reducible show wpAny _ _ (subscriptTail _ _ (Value.ref _) (Value.int (Nat.cast _) _)) _ _ _); first | (with_unfolding_all refine' x_itemT (by (k_asm)) (by (k_mem)) (by (assumption)) (by (assumption)) ?_; k_whole) | (refine stop_of ?_)))
  k_with "subscriptTail Name Call Name cons nil ref int" => ((k_here; (with_reducible show wpAny _ _ (subscriptTail _ _ (Value.ref _) (Value.int (Nat.cast _) _)) _ _ _); first | (with_unfolding_all refine' x_itemT (by (k_asm)) (by (k_mem)) (by (assumption)) (by (assumption)) ?_; k_whole) | (refine stop_of ?_)))
  k_with "newTuple" => ((k_here; k_dflt (refine' t_newTuple (by (k_asm)) (by (k_asm)) (by (first | exact Nat.le_of_ble_eq_true rfl | assumption)) ?_); intro _ _ _ _ _))
  k_with "newList" => ((k_here; k_dflt (refine' t_newList (by (k_asm)) (by (k_asm)) (by (first | exact Nat.le_of_ble_eq_true rfl | assumption)) ?_); intro _ _ _ _ _))
  k_with "call type:tuple" => ((k_here; (with_reducible show wpAny _ _ (call (Value.type _) [Value.ref _]) _ _ _); k_dflt (refine' t_tupleOf (by (k_asm)) (by (k_asm)) (by (k_mem)) (by (assumption)) ?_); intro _ _ _ _ _))
  k_with "subscriptTail Name Constant ref int" => ((k_here; (with_reducible show wpAny _ _ (subscriptTail _ _ (Value.ref _) (Value.int _ _)) _ _ _); k_dflt (refine' t_item (by (k_asm)) (by (k_extra "mm")) (by (decide)) (by (decide)) (by (rfl)) (by (rfl)) ?_; k_whole)))
  k_with "subscriptTail Subscript Name UnaryOp Constant ref int" => ((k_here; (with_reducible show wpAny _ _ (subscriptTail _ _ (Value.ref _) (Value.int _ _)) _ _ _); k_dflt (refine' t_item (by (k_asm)) (by (k_extra "mm")) (by (decide)) (by (decide)) (by (rfl)) (by (rfl)) ?_; k_whole)))
  cases t with
  | v k =>
    obtain ⟨a, t1, t2, nq, rfl, hm⟩ := in_v ht
    refine wpAny_call ?_
    k_dflt cell_enter
    rename_i g1 L1 h1 FG1 F1 N1 B1 X1 T1
    k_steps
    unfold Stop
    rename News g1 L1 _ _ => N9
    rename Fr g1 L1 _ _ => F9
    refine SpecB.use (H.2.2 s₀ k _ sl im hst (by omega) hnd) B1 F9 X1 N9 T1 C trivial rfl ?r1 ?r2 ?r3
    case r1 => dsimp only [ktrTop] at *; omega
    case r2 => dsimp only [ktrTop] at *; omega
    case r3 =>
    rintro r news' h' tk' F' N' ⟨ta, n', u1, u2, sl', rfl, rfl, q1, q2, q3⟩
    (try k_unmd); (try k_fold)
    k_steps
    rename News h₀ L _ _ => kN9
    refine ret _ _ _ _ (by assumption) kN9 ⟨[(ta, _)], sl', rfl, Ext.nil.cons rfl q3, v_in (.head _), q1, q2, ?_⟩
    exact nd_fresh (x := (ta, _)) (sl := sl) (sl' := sl') (im := im) q2 hnd q3
  | c g k =>
    cases g with
    | true =>
      obtain ⟨a, t1, t2, n, rfl, hm⟩ := in_i ht
      refine wpAny_call ?_
      k_dflt cell_enter
      k_steps
      exact ret _ _ _ _ (by assumption) (by assumption) ⟨[], sl, rfl, Ext.nil, ht, hst, rfl, hnd⟩
    | false =>
      obtain ⟨a, t1, t2, n, rfl, hm⟩ := in_a ht
      refine wpAny_call ?_
      k_dflt cell_enter
      k_steps
      exact ret _ _ _ _ (by assumption) (by assumption) ⟨[], sl, rfl, Ext.nil, ht, hst, rfl, hnd⟩
  | s f l =>
    obtain ⟨a, t1, t2, nq, b, ks, n', rfl, hm, hmb, hr⟩ := in_s ht
    refine wpAny_call ?_
    k_dflt cell_enter
    rename_i g1 L1 h1 FG1 F1 N1 B1 X1 T1
    k_steps
    rename_i d0 h4 q1 f0 h3 q2 st h2 q3 h11 h00 F9 N9
    unfold Stop
    simp only [T.ok] at hok
    have hkl : ks.length = l.length := hr.len
    have hsz : (T.s f l).sz = szT l + 1 := rfl
    have hq1 : ∀ x ∈ (sl ++ im).map Prod.fst, x < d0 := fun x hx => by obtain ⟨p, hp, rfl⟩ := List.mem_map.mp hx; exact q1 p hp
    obtain ⟨J, hJ⟩ : ∃ J : Nat → (Str → Option Value) → List (Addr × Obj) → Prop, J = (fun k m' nx => ∃ fs tl sl' s1 n1, nx = (st, listOf (fs.map fun fr => Value.ref fr.fa).reverse.toArray n1) :: (flat fs ++ (tl ++ (sl' ++ im))) ∧ St s1 sl' ∧ sl'.map Prod.fst = sl.map Prod.fst ∧ (st :: (flat fs ++ (tl ++ (sl' ++ im))).map Prod.fst).Nodup ∧ Ext (sl ++ im) tl ∧ bd s1 + k ≤ 900 ∧ k = msr fs ∧
        RInv val nxt (tl ++ im) im (m' (Str.ofString "result")) (T.mapS val nxt s₀ (.s f l)) s1 fs ∧
        m' (Str.ofString "frames") = some (.ref st) ∧ m' (Str.ofString "change") = some (.ref ca) ∧ m' (Str.ofString "again") = some (.bool false)) := ⟨_, rfl⟩
    refine hideQ ?_
    intro QW hQW
    refine While_inv2 J
      (news := (st, listOf ([FR.mk d0 f0 a b f ks [] [] l 0 0].map fun fr => Value.ref fr.fa).reverse.toArray 0) :: (flat [FR.mk d0 f0 a b f ks [] [] l 0 0] ++ ([] ++ (sl ++ im)))) (n₀ := msr [FR.mk d0 f0 a b f ks [] [] l 0 0]) F9 (news_sub N9 ?i0) ?j0 ?turn
    case j0 =>
      rw [hJ]
      refine ⟨[FR.mk d0 f0 a b f ks [] [] l 0 0], [], sl, s₀, 0, rfl, hst, rfl, ?i1, Ext.nil, ?i2, rfl, ⟨⟨⟨_, _, _, hm⟩, ⟨_, hmb⟩, hr, hok.2.2, .nil, ?i3, ?i4⟩, (fun _ h => nomatch h), ?i5⟩, rfl, rfl, rfl⟩
      case i1 =>
        simp only [flat, List.nil_append, List.cons_append, List.map_cons]
        exact nd_start hnd hq1 (q2 _ (.head _)) (q3 _ (.head _))
      case i2 => simp [msr, szT]; omega
      case i3 => show ks.length ≤ 3; omega
      case i4 => show 0 + 0 + l.length = ks.length; omega
      case i5 => rfl
    case i0 =>
      intro p hp
      simp only [flat, List.map_cons, List.map_nil, List.reverse_cons, List.reverse_nil, List.nil_append, List.cons_append] at hp
      grind
    case turn =>
    intro k m₁ nx h' tk' F' N' hj
    have hj := hj
    rw [hJ] at hj
    obtain ⟨fs, tl, sl', s1, n1, rfl, hst', has, hnd', hext, hbd, rfl, hinv, hframes, hchange, hagain⟩ := hj
    clear q1 q2 q3 F N F9 N9 hq1 hfn
    obtain ⟨oc, od, fd, slt, hfn⟩ := H.1 _ _ hst'
    have hml := msr_len fs
    have hup : ∀ x : Addr, (∀ y ∈ (sl' ++ im).map Prod.fst, y < x) → ∀ q ∈ sl ++ im, q.1 < x := fun x hx q hq => hx _ (by rw [List.map_append, has, ← List.map_append]; exact List.mem_map_of_mem hq)
    cases fs with
    | nil =>
      subst hQW
      obtain ⟨rv, tr, hres, hrt, hrg⟩ := hinv
      (try k_unmd); (try k_fold)
      simp only [List.map_nil, List.reverse_nil, flat, List.nil_append] at N'
      k_steps
      rename News h₀ L _ _ => kN9
      refine ret _ _ _ _ (by assumption) (news_sub kN9 fun p hp => .tail _ hp) ⟨tl, sl', rfl, hext, ?_, ?_, has, ?_⟩
      · rw [← hrg]; exact hrt
      · rw [← hrg]; exact hst'
      · exact (List.nodup_cons.mp hnd').2
    | cons fr r =>
      obtain ⟨d, fa, a', b', f', vs, ds, dn, rest, m1, m2⟩ := fr
      obtain ⟨⟨⟨t1, t2, nq, hma⟩, ⟨n'', hmb'⟩, hrest, hokr, hdn, hv3, hlen⟩, hlow, hfin⟩ := hinv
      dsimp only at hma hmb' hrest hokr hdn hv3 hlen
      have hdl : ds.length ≤ 1000 := by omega
      have hvl : vs.length ≤ 1000 := by omega
      clear ret
      (try k_unmd); (try k_fold)
      simp only [List.map_cons, List.reverse_cons, flat, List.cons_append] at N' hnd'
      have hrl : (List.map (fun fr => Value.ref fr.fa) r).reverse.length ≤ 1000000 := by simp at hml ⊢; omega
      cases rest with
      | nil =>
        cases r with
        | nil =>
          simp only [List.map_nil, List.reverse_nil] at N' hrl
          simp only [List.length_nil] at hlen
          have heq : ((ds.length : Int) = (vs.length : Int)) := by omega
          k_steps
          · rename_i h3 D1 h2 l1 D2 h11 l2 h0 F8 N8 tk9
            obtain ⟨tks, N8⟩ : ∃ t, News g1 L1 _ ((D2, tupN [Value.str (Str.ofString "s") t, .int f' t2, .ref D1] 0) :: (D1, tupN ds 0) :: (st, _) :: _) := ⟨_, N8⟩
            have hl2 : ∀ x ∈ st :: (tl ++ (sl' ++ im)).map Prod.fst, x < D1 := fun x hx => by
              rcases List.mem_cons.mp hx with rfl | hx
              · exact l1 _ (.head _)
              · obtain ⟨q, hq, rfl⟩ := List.mem_map.mp hx
                exact l1 q (.tail _ (.tail _ (.tail _ hq)))
            have hl3 : D1 < D2 := l2 _ (.head _)
            have hD : ∀ x ∈ st :: (D1 :: (tl ++ (sl' ++ im)).map Prod.fst), x < D2 := fun x hx => by
              rcases List.mem_cons.mp hx with rfl | hx
              · exact Nat.lt_trans (hl2 _ (.head _)) hl3
              rcases List.mem_cons.mp hx with rfl | hx
              · exact hl3
              · exact Nat.lt_trans (hl2 _ (.tail _ hx)) hl3
            have nd0 : (st :: (tl ++ (sl' ++ im)).map Prod.fst).Nodup := by
              exact nd_drop hnd'
            refine ⟨_, _, _, (st, listOf (([] : List FR).map fun fr => Value.ref fr.fa).reverse.toArray (n1 + 1)) :: (flat [] ++ ((D2, tupN [Value.str (Str.ofString "s") tks, .int f' t2, .ref D1] 0) :: (D1, tupN ds 0) :: tl ++ (sl' ++ im))), msr [], rfl, F8, news_sub N8 ?z1, by simp [msr]; omega, ?z2⟩
            case z1 =>
              intro p hp
              simp only [flat, List.map_nil, List.reverse_nil, List.nil_append, List.mem_cons, List.cons_append] at hp ⊢
              rcases hp with h | h | h | h <;> simp [h]
            case z2 =>
              rw [hJ]
              refine ⟨[], (D2, _) :: (D1, _) :: tl, sl', s1, _, rfl, hst', has, ?y1, ?y2, ?y3, rfl, ⟨.ref D2, _, rfl, s_in (.head _) (.tail _ (.head _)) (DatAll.mono (fun p hp => .tail _ (.tail _ hp)) hdn), ?y4⟩, hframes, hchange, hagain⟩
              case y1 => exact nd_mid (F := []) (nd_mid (F := []) nd0 hl2) hD
              case y2 => exact (hext.cons rfl (hup _ fun y hy => hl2 y (by rw [List.map_append]; exact .tail _ (List.mem_append_right _ hy)))).cons rfl (hup _ fun y hy => hD y (by rw [List.map_append]; exact .tail _ (.tail _ (List.mem_append_right _ hy))))
              case y3 => simp [msr] at hbd ⊢; omega
              case y4 => rw [← hfin]; simp [finish, mapST, unwind]
        | cons fr2 r2 =>
          obtain ⟨d2, fa2, a2, b2, f2, vs2, ds2, dn2, rest2, m12, m22⟩ := fr2
          have hlow2 := hlow _ (.head _)
          obtain ⟨⟨u1, u2, uq, hma2⟩, ⟨un', hmb2⟩, hrest2, hokr2, hdn2, hv32, hlen2⟩ := hlow2
          dsimp only at hma2 hmb2 hrest2 hokr2 hdn2 hv32 hlen2
          simp only [List.map_cons, List.reverse_cons, flat, List.cons_append] at N' hnd' hrl
          have hrl2 : (List.map (fun fr => Value.ref fr.fa) r2).reverse.length ≤ 1000000 := by simp at hrl ⊢; omega
          simp only [List.length_nil] at hlen
          have heq : ((ds.length : Int) = (vs.length : Int)) := by omega
          k_steps
          · rename_i D1 h2 l1 D2 h11 l2 h0 F8 N8 tk7
            unfold Stop
            obtain ⟨tks, N8⟩ : ∃ t, News g1 L1 _ ((D2, tupN [Value.str (Str.ofString "s") t, .int f' t2, .ref D1] 0) :: (D1, tupN ds 0) :: (st, _) :: _) := ⟨_, N8⟩
            have hl2 : ∀ x ∈ st :: ((d2 :: fa2 :: (flat r2).map Prod.fst) ++ (tl ++ (sl' ++ im)).map Prod.fst), x < D1 := fun x hx => by
              rcases List.mem_cons.mp hx with rfl | hx
              · exact l1 _ (.head _)
              rcases List.mem_cons.mp hx with rfl | hx
              · exact l1 _ (.tail _ (.tail _ (.tail _ (.head _))))
              rcases List.mem_cons.mp hx with rfl | hx
              · exact l1 _ (.tail _ (.tail _ (.tail _ (.tail _ (.head _)))))
              have hx : x ∈ (flat r2 ++ (tl ++ (sl' ++ im))).map Prod.fst := by rw [List.map_append]; exact hx
              obtain ⟨q, hq, rfl⟩ := List.mem_map.mp hx
              exact l1 q (.tail _ (.tail _ (.tail _ (.tail _ (.tail _ hq)))))
            have hl3 : D1 < D2 := l2 _ (.head _)
            have hl4 : ∀ x ∈ st :: ((d2 :: fa2 :: (flat r2).map Prod.fst) ++ D1 :: (tl ++ (sl' ++ im)).map Prod.fst), x < D2 := fun x hx => by
              rcases mem_ins hx with rfl | hx
              · exact hl3
              · exact Nat.lt_trans (hl2 _ hx) hl3
            have nd0 : (st :: ((d2 :: fa2 :: (flat r2).map Prod.fst) ++ (tl ++ (sl' ++ im)).map Prod.fst)).Nodup := by
              rw [List.map_append] at hnd'
              exact nd_drop hnd'
            have nd2 := nd_mid (nd_mid nd0 hl2) hl4
            have hz2 : ds2.length ≤ 1000 := by omega
            refine l_append (vs := ds2) (n := m12) (news := (st, listOf ((List.map (fun fr => Value.ref fr.fa) r2).reverse ++ [Value.ref fa2]).toArray (n1 + 1)) :: (d2, listOf ds2.toArray m12) :: (fa2, tupN [.ref a2, .ref d2] m22) :: (flat r2 ++ ((D2, tupN [Value.str (Str.ofString "s") tks, .int f' t2, .ref D1] 0) :: (D1, tupN ds 0) :: tl ++ (sl' ++ im)))) F8 (news_sub N8 ?z1) (upd1 (as := fa2 :: ((flat r2).map Prod.fst ++ D2 :: D1 :: (tl ++ (sl' ++ im)).map Prod.fst)) (by simp) nd2) hz2 ?_
            case z1 => exact mv_fin
            intro h9 F9 N9
            dsimp only
            (try k_unmd); (try k_fold)
            k_steps
            have e0 : TIn ((D2, tupN [Value.str (Str.ofString "s") tks, .int f' t2, .ref D1] 0) :: (D1, tupN ds 0) :: tl ++ im) (.ref D2) (.s f' dn) := s_in (.head _) (.tail _ (.head _)) (DatAll.mono (fun p hp => .tail _ (.tail _ hp)) hdn)
            have hsub : ∀ p ∈ tl ++ im, p ∈ (D2, tupN [Value.str (Str.ofString "s") tks, .int f' t2, .ref D1] 0) :: (D1, tupN ds 0) :: tl ++ im := fun p hp => .tail _ (.tail _ hp)
            refine ⟨_, _, _, (st, listOf (((FR.mk d2 fa2 a2 b2 f2 vs2 (ds2 ++ [.ref D2]) (dn2 ++ [.s f' dn]) rest2 (m12 + 1) m22) :: r2).map fun fr => Value.ref fr.fa).reverse.toArray (n1 + 1)) :: (flat ((FR.mk d2 fa2 a2 b2 f2 vs2 (ds2 ++ [.ref D2]) (dn2 ++ [.s f' dn]) rest2 (m12 + 1) m22) :: r2) ++ ((D2, tupN [Value.str (Str.ofString "s") tks, .int f' t2, .ref D1] 0) :: (D1, tupN ds 0) :: tl ++ (sl' ++ im))),
              msr ((FR.mk d2 fa2 a2 b2 f2 vs2 (ds2 ++ [.ref D2]) (dn2 ++ [.s f' dn]) rest2 (m12 + 1) m22) :: r2), rfl, F9, ?z2, by simp only [msr]; omega, ?z3⟩
            case z2 => simpa only [List.map_cons, List.reverse_cons, flat, List.cons_append] using N9
            case z3 =>
              rw [hJ]
              refine ⟨_, (D2, _) :: (D1, _) :: tl, sl', s1, _, rfl, hst', has, ?y1, ?y2, ?y3, rfl, ⟨⟨⟨u1, u2, uq, hma2⟩, ⟨un', hmb2⟩, ?y5, hokr2, TAll.snoc (DatAll.mono hsub hdn2) e0, hv32, ?y6⟩, fun fr' hfr => (hlow fr' (.tail _ hfr)).mono hsub, ?y4⟩, hframes, hchange, hagain⟩
              case y1 => simpa only [flat, List.map_cons, List.map_append, List.cons_append] using nd2
              case y2 => exact (hext.cons rfl (hup _ fun y hy => hl2 y (by rw [List.map_append]; exact .tail _ (List.mem_append_right _ (List.mem_append_right _ hy))))).cons rfl (hup _ fun y hy => hl4 y (by rw [List.map_append]; exact .tail _ (List.mem_append_right _ (.tail _ (List.mem_append_right _ hy)))))
              case y3 => simp only [msr] at hbd ⊢; omega
              case y4 => rw [← hfin]; simp [finish, mapST, unwind]
              case y5 => simpa using hrest2
              case y6 => simp only [List.length_append, List.length_cons, List.length_nil]; omega
      | cons p rest =>
        obtain ⟨y, vs', hdr, hy, hrest'⟩ := all_cons hrest
        have hget : vs[ds.length]? = some y := by
          have e : (vs.drop ds.length)[0]? = some y := by rw [show vs.drop ds.length = y :: vs' from hdr]; rfl
          simpa using e
        have hdr2 : vs.drop (ds.length + 1) = vs' := by
          have e : (vs.drop ds.length).drop 1 = vs' := by rw [show vs.drop ds.length = y :: vs' from hdr]; rfl
          rw [List.drop_drop] at e
          exact e
        rw [okT] at hokr
        simp only [List.length_cons] at hlen
        have hne : ¬ ((ds.length : Int) = (vs.length : Int)) := by omega
        cases p with
        | v k =>
          obtain ⟨ap, u1, u2, uq, rfl, hmp⟩ := in_v hy
          k_steps
          · rename News g1 L1 _ _ => N8
            rename Fr g1 L1 _ _ => F8
            unfold Stop
            have hnd2 := hnd'
            rw [List.map_append, List.map_append, List.map_append] at hnd2
            refine SpecB.use (H.2.2 s1 k _ sl' ((st, listOf ((List.map (fun fr => Value.ref fr.fa) r).reverse ++ [Value.ref fa]).toArray n1) :: (d, listOf ds.toArray m1) :: (fa, tupN [.ref a', .ref d] m2) :: (flat r ++ (tl ++ im))) hst' (by omega) ?n1) B1 F8 X1 (news_sub N8 mv_pre) T1 C trivial rfl ?r1 ?r2 ?r3
            case n1 => simpa only [List.map_append, List.map_cons] using nd_pre hnd2
            case r1 => dsimp only [ktrTop] at *; omega
            case r2 => dsimp only [ktrTop] at *; omega
            case r3 =>
            rintro rr news' h9 tk9 F9 N9 ⟨ta, n9, v1, v2, sl2, rfl, rfl, g1', g2', g3'⟩
            have q4 : ∀ x ∈ ((sl' ++ ((st, listOf ((List.map (fun fr => Value.ref fr.fa) r).reverse ++ [Value.ref fa]).toArray n1) :: (d, listOf ds.toArray m1) :: (fa, tupN [.ref a', .ref d] m2) :: (flat r ++ (tl ++ im)))).map Prod.fst), x < ta := fun x hx => by
              obtain ⟨p, hp, rfl⟩ := List.mem_map.mp hx
              exact g3' p hp
            have hfr : ∀ x ∈ st :: ((d :: fa :: (flat r).map Prod.fst) ++ (tl ++ (sl2 ++ im)).map Prod.fst), x < ta := fun x hx => q4 x (by
              simp only [List.map_append, List.map_cons, List.mem_append, List.mem_cons, g2'] at hx ⊢
              rcases hx with h | (h | h | h) | h | h | h <;> simp [h])
            have nd0 : (st :: ((d :: fa :: (flat r).map Prod.fst) ++ (tl ++ (sl2 ++ im)).map Prod.fst)).Nodup := by
              simp only [List.map_append, g2', List.cons_append]
              exact hnd2
            have nd9 := nd_mid nd0 hfr
            have hb9 := H.2.1 s1 k
            clear g3'
            (try k_unmd); (try k_fold)
            k_steps
            rename News g1 L1 _ _ => N10
            rename Fr g1 L1 _ _ => F10
            unfold Stop
            refine l_append (vs := ds) (n := m1) (news := (st, listOf ((List.map (fun fr => Value.ref fr.fa) r).reverse ++ [Value.ref fa]).toArray n1) :: (d, listOf ds.toArray m1) :: (fa, tupN [.ref a', .ref d] m2) :: (flat r ++ ((ta, tupN [.str (Str.ofString "v") v1, .int (val s1 k) v2] n9) :: tl ++ (sl2 ++ im)))) F10 (news_sub N10 mv_var) (upd1 (as := fa :: ((flat r).map Prod.fst ++ ta :: (tl ++ (sl2 ++ im)).map Prod.fst)) (by simp) nd9) hdl ?_
            intro h11 F11 N11
            dsimp only
            (try k_unmd); (try k_fold)
            k_steps
            refine ⟨_, _, _, (st, listOf (((FR.mk d fa a' b' f' vs (ds ++ [.ref ta]) (dn ++ [.v (val s1 k)]) rest (m1 + 1) m2) :: r).map fun fr => Value.ref fr.fa).reverse.toArray n1) :: (flat ((FR.mk d fa a' b' f' vs (ds ++ [.ref ta]) (dn ++ [.v (val s1 k)]) rest (m1 + 1) m2) :: r) ++ ((ta, tupN [.str (Str.ofString "v") v1, .int (val s1 k) v2] n9) :: tl ++ (sl2 ++ im))),
              msr ((FR.mk d fa a' b' f' vs (ds ++ [.ref ta]) (dn ++ [.v (val s1 k)]) rest (m1 + 1) m2) :: r), rfl, F11, ?z2, by simp only [msr, szT, T.sz]; omega, ?z3⟩
            case z2 => simpa only [List.map_cons, List.reverse_cons, flat, List.cons_append] using N11
            case z3 =>
              rw [hJ]
              refine ⟨_, (ta, _) :: tl, sl2, nxt s1 k, _, rfl, g1', g2'.trans has, ?y1, ?y2, ?y3, rfl, ⟨⟨⟨t1, t2, nq, hma⟩, ⟨n'', hmb'⟩, ?y5, hokr.2, TAll.snoc (DatAll.mono (fun p hp => .tail _ hp) hdn) (v_in (.head _)), hv3, ?y6⟩, fun fr' hfr => (hlow fr' hfr).mono (fun p hp => .tail _ hp), ?y4⟩, hframes, hchange, hagain⟩
              case y1 => simpa only [flat, List.map_cons, List.map_append, List.cons_append] using nd9
              case y2 => exact hext.cons rfl (hup _ fun y hy => q4 y (by
                simp only [List.map_append, List.map_cons, List.mem_append, List.mem_cons] at hy ⊢
                rcases hy with h | h <;> simp [h]))
              case y3 => simp only [msr, szT, T.sz] at hbd ⊢; omega
              case y4 => rw [← hfin]; simp [finish, mapST, T.mapS]
              case y5 => simpa [hdr2] using hrest'
              case y6 => simp only [List.length_append, List.length_cons, List.length_nil]; omega
        | c g k =>
          cases g with
          | true =>
            obtain ⟨ap, u1, u2, uq, rfl, hmp⟩ := in_i hy
            k_steps
            · rename News g1 L1 _ _ => N8
              rename Fr g1 L1 _ _ => F8
              unfold Stop
              refine l_append (vs := ds) (n := m1) F8 N8 (upd1 rfl hnd') hdl ?_
              intro h9 F9 N9
              dsimp only
              (try k_unmd); (try k_fold)
              k_steps
              refine ⟨_, _, _, (st, listOf (((FR.mk d fa a' b' f' vs (ds ++ [.ref ap]) (dn ++ [.c true k]) rest (m1 + 1) m2) :: r).map fun fr => Value.ref fr.fa).reverse.toArray n1) :: (flat ((FR.mk d fa a' b' f' vs (ds ++ [.ref ap]) (dn ++ [.c true k]) rest (m1 + 1) m2) :: r) ++ (tl ++ (sl' ++ im))),
                msr ((FR.mk d fa a' b' f' vs (ds ++ [.ref ap]) (dn ++ [.c true k]) rest (m1 + 1) m2) :: r), rfl, F9, ?z2, by simp only [msr, szT, T.sz]; omega, ?z3⟩
              case z2 => simpa only [List.map_cons, List.reverse_cons, flat, List.cons_append] using N9
              case z3 =>
                rw [hJ]
                refine ⟨_, tl, sl', s1, _, rfl, hst', has, ?y1, hext, ?y3, rfl, ⟨⟨⟨t1, t2, nq, hma⟩, ⟨n'', hmb'⟩, ?y5, hokr.2, TAll.snoc hdn (DatIn.mono (fun p hp => List.mem_append_right _ hp) hy), hv3, ?y6⟩, hlow, ?y4⟩, hframes, hchange, hagain⟩
                case y1 => simpa only [flat, List.map_cons, List.map_append, List.cons_append] using hnd'
                case y3 => simp only [msr, szT, T.sz] at hbd ⊢; omega
                case y4 => rw [← hfin]; simp [finish, mapST, T.mapS]
                case y5 => simpa [hdr2] using hrest'
                case y6 => simp only [List.length_append, List.length_cons, List.length_nil]; omega
          | false =>
            obtain ⟨ap, u1, u2, uq, rfl, hmp⟩ := in_a hy
            k_steps
            · rename News g1 L1 _ _ => N8
              rename Fr g1 L1 _ _ => F8
              unfold Stop
              refine l_append (vs := ds) (n := m1) F8 N8 (upd1 rfl hnd') hdl ?_
              intro h9 F9 N9
              dsimp only
              (try k_unmd); (try k_fold)
              k_steps
              refine ⟨_, _, _, (st, listOf (((FR.mk d fa a' b' f' vs (ds ++ [.ref ap]) (dn ++ [.c false k]) rest (m1 + 1) m2) :: r).map fun fr => Value.ref fr.fa).reverse.toArray n1) :: (flat ((FR.mk d fa a' b' f' vs (ds ++ [.ref ap]) (dn ++ [.c false k]) rest (m1 + 1) m2) :: r) ++ (tl ++ (sl' ++ im))),
                msr ((FR.mk d fa a' b' f' vs (ds ++ [.ref ap]) (dn ++ [.c false k]) rest (m1 + 1) m2) :: r), rfl, F9, ?z2, by simp only [msr, szT, T.sz]; omega, ?z3⟩
              case z2 => simpa only [List.map_cons, List.reverse_cons, flat, List.cons_append] using N9
              case z3 =>
                rw [hJ]
                refine ⟨_, tl, sl', s1, _, rfl, hst', has, ?y1, hext, ?y3, rfl, ⟨⟨⟨t1, t2, nq, hma⟩, ⟨n'', hmb'⟩, ?y5, hokr.2, TAll.snoc hdn (DatIn.mono (fun p hp => List.mem_append_right _ hp) hy), hv3, ?y6⟩, hlow, ?y4⟩, hframes, hchange, hagain⟩
                case y1 => simpa only [flat, List.map_cons, List.map_append, List.cons_append] using hnd'
                case y3 => simp only [msr, szT, T.sz] at hbd ⊢; omega
                case y4 => rw [← hfin]; simp [finish, mapST, T.mapS]
                case y5 => simpa [hdr2] using hrest'
                case y6 => simp only [List.length_append, List.length_cons, List.length_nil]; omega
        | s f'' l'' =>
          obtain ⟨ap, u1, u2, uq, bp, kp, np, rfl, hmp, hmbp, hrp⟩ := in_s hy
          have hokp := hokr.1
          simp only [T.ok] at hokp
          have hkp : kp.length = l''.length := hrp.len
          k_steps
          · rename_i D1 h2 F7 N7 l1 D2 h11 F8 N8 l2
            unfold Stop
            have w1 : ∀ x ∈ st :: (d :: fa :: List.map Prod.fst (flat r ++ (tl ++ (sl' ++ im)))), x < D1 := fun x hx => by
              rcases List.mem_cons.mp hx with rfl | hx
              · exact l1 _ (.head _)
              rcases List.mem_cons.mp hx with rfl | hx
              · exact l1 _ (.tail _ (.head _))
              rcases List.mem_cons.mp hx with rfl | hx
              · exact l1 _ (.tail _ (.tail _ (.head _)))
              obtain ⟨q, hq, rfl⟩ := List.mem_map.mp hx
              exact l1 q (.tail _ (.tail _ (.tail _ hq)))
            have w2 : D1 < D2 := l2 _ (.head _)
            have nd3 := nd_push hnd' w1 (fun x hx => Nat.lt_trans (w1 x hx) w2) w2
            have hz3 : ((List.map (fun fr => Value.ref fr.fa) r).reverse ++ [Value.ref fa]).length ≤ 1000 := by simp at hml ⊢; omega
            refine l_append (vs := (List.map (fun fr => Value.ref fr.fa) r).reverse ++ [Value.ref fa]) (n := n1) (news := (st, listOf ((List.map (fun fr => Value.ref fr.fa) r).reverse ++ [Value.ref fa]).toArray n1) :: (D1, listOf ([] : List Value).toArray 0) :: (D2, tupN [.ref ap, .ref D1] 0) :: (d, listOf ds.toArray m1) :: (fa, tupN [.ref a', .ref d] m2) :: (flat r ++ (tl ++ (sl' ++ im)))) F8 (news_sub N8 mv_push) (upd0 rfl nd3) hz3 ?_
            intro h9 F9 N9
            dsimp only
            (try k_unmd); (try k_fold)
            k_steps
            refine ⟨_, _, _, (st, listOf (((FR.mk D1 D2 ap bp f'' kp [] [] l'' 0 0) :: (FR.mk d fa a' b' f' vs ds dn rest m1 m2) :: r).map fun fr => Value.ref fr.fa).reverse.toArray (n1 + 1)) :: (flat ((FR.mk D1 D2 ap bp f'' kp [] [] l'' 0 0) :: (FR.mk d fa a' b' f' vs ds dn rest m1 m2) :: r) ++ (tl ++ (sl' ++ im))),
              msr ((FR.mk D1 D2 ap bp f'' kp [] [] l'' 0 0) :: (FR.mk d fa a' b' f' vs ds dn rest m1 m2) :: r), rfl, F9, ?z2, by simp only [msr, szT, T.sz]; omega, ?z3⟩
            case z2 => simpa only [List.map_cons, List.reverse_cons, flat, List.cons_append] using N9
            case z3 =>
              rw [hJ]
              refine ⟨_, tl, sl', s1, _, rfl, hst', has, ?y1, hext, ?y3, rfl, ⟨⟨⟨u1, u2, uq, hmp⟩, ⟨np, hmbp⟩, hrp, hokp.2.2, .nil, ?y7, ?y8⟩, ?y9, ?y4⟩, hframes, hchange, hagain⟩
              case y1 => simpa only [flat, List.map_cons, List.map_append, List.cons_append] using nd3
              case y3 => simp only [msr, szT, T.sz] at hbd ⊢; omega
              case y4 => rw [← hfin]; simp [finish, mapST, T.mapS, unwind]
              case y7 => show kp.length ≤ 3; omega
              case y8 => show 0 + 0 + l''.length = kp.length; omega
              case y9 =>
                intro fr' hfr
                rcases List.mem_cons.mp hfr with rfl | hfr
                · exact ⟨⟨t1, t2, nq, hma⟩, ⟨n'', hmb'⟩, by simpa [hdr2] using hrest', hokr.2, hdn, hv3, by dsimp only; omega⟩
                · exact hlow fr' hfr
theorem rebStmt (prog : Program) (w : World) : RebStmt prog w := fun H _ _ _ _ _ hok ht hst hb hnd => rebuild_spec H hok ht hst hb hnd
end

end
section

section
theorem nd_swap {α : Type} {a b c : α} {R : List α} (h : (a :: b :: c :: R).Nodup) : (a :: c :: b :: R).Nodup := by
  have p : (a :: c :: b :: R).Perm (a :: b :: c :: R) := .cons _ (List.Perm.swap _ _ _)
  exact p.nodup_iff.mpr h
theorem pick3 {g h : Heap} {L : Addr} {a b c : Addr × Obj} {r : List (Addr × Obj)} (N : News g L h (a :: b :: c :: r)) : ∃ sl, sl = [a, b, c] ∧ News g L h (sl ++ r) := ⟨_, rfl, N⟩
theorem ren_try {prog : Program} {w : World} {t : T} {v : Value} {o : Int} {u : Tok} {im : List (Addr × Obj)} (hok : t.ok) (ht : TIn im v t) (RB : RebStmt prog w) (hsz : t.sz ≤ 400) (hndi : ((45 : Addr) :: im.map Prod.fst).Nodup) (hoff : ∀ p ∈ im, p.1 ≠ (45 : Nat)) :
    FSpec prog w 50 [v, .int o u] 20 400 ((45, tabObj #[]) :: im) (fun r news' => ∃ tl c' oc vs t', news' = tl ++ ((c', oc) :: (45, tabObj #[rawInt 58, rawInt 4, .ref c']) :: im) ∧ oc.data = .fields vs ∧ vs[1]? = some (.str (Str.ofString "rename.<locals>.change") t') ∧ Ext ((c', oc) :: (45, tabObj #[rawInt 58, rawInt 4, .ref c']) :: im) tl ∧ TIn (tl ++ (45, tabObj #[rawInt 58, rawInt 4, .ref c']) :: im) r (T.mapS (fun _ k => k + o) (fun (u : Unit) _ => u) () t).1 ∧ (∀ p ∈ im, p.1 < c') ∧ (45 : Nat) < c') := by
  unfold FSpec SpecB
  intro p loose mean mg mb dp un gd cn cs a ccd cl outer A₀ base h₀ L m s Q E B F X N TP C hBs hcs hroom hun ret
  have hC1 : CodeHd base 49 45 := C.1
  w_top off
  k_with_none
  (have hfill : PySem.Challenge.rw_ok0008_01 = PySem.Challenge.rw_ok0008_01 ∧ (fun w : World => Mine.hd.heap_39 w.params) = fun w : World => Mine.hd.heap_39 w.params := by (k_fill; exact ⟨rfl, rfl⟩)); clear hfill
  k_with "mem" => (first | (with_reducible assumption) | exact List.Mem.head _ | (refine' List.mem_cons_of_mem _ ?_; k_mem) | (refine' List.mem_append_right _ ?_; k_mem) | (refine' List.mem_append_left _ ?_; k_mem))
  k_with "getMethod ref" => ((k_here; (with_reducible show wpAny _ _ (getMethod (Value.ref _) (PySem.Str.ofString "get") _) _ _ _); k_dflt (refine' d_meth (by (k_asm)) (by (k_mem)) (by (assumption)) (by (assumption)) ?_)))
  k_with "call builtin:dict.get" => ((k_here; k_dflt (refine' d_get2 (by (k_asm)) (by (k_mem)) (by (assumption)) (by (assumption)) ?_); intro _))
  k_with "compareOp NotIn int ref" => ((k_here; k_dflt (refine' d_notin (by (k_asm)) (by (k_mem)) (by (assumption)) (by (assumption)) ?_)))
  k_with "subscriptTail" => ((k_here; (with_reducible show wpAny _ _ (subscriptTail _ _ (Value.ref _) (Value.int _ _)) _ _ _); k_dflt (refine' t_item (by (k_asm)) (by (k_mem)) (by (decide)) (by (decide)) (by (rfl)) (by (rfl)) ?_; k_whole)))
  k_with "call type:tuple" => ((k_here; (with_reducible show wpAny _ _ (call (Value.type _) [Value.ref _]) _ _ _); k_dflt (refine' t_tupleOf (by (k_asm)) (by (k_asm)) (by (k_mem)) (by (assumption)) ?_); intro _ _ _ _ _; (try k_sweep)))
  k_with "newTuple" => ((k_here; k_dflt (refine' t_newTuple (by (k_asm)) (by (k_asm)) (by (first | exact Nat.le_of_ble_eq_true rfl | assumption)) ?_); intro _ _ _ _ _; (try k_sweep)))
  k_with "newList" => ((k_here; k_dflt (refine' t_newList (by (k_asm)) (by (k_asm)) (by (first | exact Nat.le_of_ble_eq_true rfl | assumption)) ?_); intro _ _ _ _ _; (try k_sweep)))
  k_with "compareOp NotIn int ref" => ((k_here; k_dflt (refine' l_notin (by (k_asm)) (by (k_mem)) (by (assumption)) (by (ktr_units)) ?_)))
  k_with "call builtin:list.append" => ((k_here; (with_reducible show wpAny _ _ (call (Value.builtin _) [Value.ref _, _]) _ _ _); k_dflt (refine' l_append (by (k_asm)) (by (k_asm)) (by (k_upd)) (by (assumption)) ?_); intro _ _ _; (try k_sweep)))
  k_with "exec For" => ((k_here; (with_unfolding_all refine' For_invVF (by (k_asm)) (by (exact rfl)) (by (exact rfl)) ?_; k_whole)))
  k_with "eval Name" => ((k_here; (with_reducible show wpAny _ _ (eval (Expr.Name _ _) (envOf _ _ _ _ _)) _ _ _); name_kind "local"; k_dflt (refine' ld (by (k_asm)) (by (assumption)) ?_; k_whole)))
  k_with "eval Name" => ((k_here; (with_reducible show wpAny _ _ (eval (Expr.Name _ _) (envOfC _ _ _ _ _)) _ _ _); name_kind "local"; k_dflt (refine' nameX_L (by (k_asm)) (by (assumption)) ?_ (by (rfl)) (by (rfl)); k_whole)))
  k_with "exec While" => ((k_here; (with_reducible show wpAny _ _ (exec (Stmt.While _ _ _ _) _) _ _ _); refine' stop_of ?_))
  k_with "last exec While" => ((k_here; (with_reducible show wpAny _ _ (exec (Stmt.While _ _ _ _) _) _ _ _); refine' stop_of ?_))
  k_with "newTuple" => ((k_here; k_dflt (refine' t_newTuple (by (k_asm)) (by (k_asm)) (by (first | exact Nat.le_of_ble_eq_true rfl | assumption)) ?_); intro _ _ _ _ _))
  refine wpAny_call ?_
  k_dflt (refine' code_defC ?k1x7 ?k2x7 ?k3x7 ?k4x7 ?k5x7 ?kAx7 ?kFx7 ?kKx7 ?k6x7 ?k7x7 ?k8x7 ?k9x7 ?kBx7 ?kDx7 ?_ ?c2x7 ?c3x7 ?c4x7; (case kAx7 => exact rfl); (case kFx7 => exact rfl); (case kKx7 => assumption); (case k1x7 => k_asm); (case k2x7 => k_asm); (case k3x7 => k_asm); (case k4x7 => k_asm); (case k5x7 => k_asm); (case k6x7 => k_is); (case k7x7 => k_is); (case k8x7 => ktr_room); (case k9x7 => exact BindsTo.of_eq rfl); (case kBx7 => exact rfl); (case kDx7 => decide +kernel); (case c2x7 => exact rfl); (case c3x7 => exact rfl); (case c4x7 => exact rfl); k_whole; intro g1 L1 h1 tk1 cells1 FG1 F1 N1 Y1 B1 X1 T1 l11; k_cells Y1; (try simp only [List.cons_append, List.nil_append] at N1); (try dsimp only); (try k_lift B1); (try k_fold))
  refine hideE PassesOwn.leaving ?_
  intro EE hPE
  rename_i o1 d11
  replace d11 : o1.data = .cell (some (.int o u)) := d11
  have hne : (L1 + 1, o1).1 ≠ (45 : Addr) := fun e => by
    have a1 := (N1 _ (.head _)).1
    have a2 := (N1 _ (.tail _ (.head _))).1
    dsimp only at e a1 a2
    rw [e, a2] at a1
    injection a1 with a1
    rw [← a1] at d11
    cases d11
  have hU : UpdF 45 (tabObj #[]) ((L1 + 1, o1) :: (45, tabObj #[]) :: im) (fun o' => (L1 + 1, o1) :: (45, o') :: im) := .tail hne (.head hoff)
  k_steps
  rename_i f' c' oc' vs' t' ct' dc' h5 tk5 d1 d2 l1 l2 h6 F8 N8
  obtain ⟨sl, hsl, N8⟩ := pick3 N8
  have H : Chg prog w f' (fun (_ : Unit) sl' => sl' = sl) (fun _ k => k + o) (fun u _ => u) (fun _ => 0) 5 100 := by
    refine ⟨?_, fun _ _ => Nat.zero_le _, ?_⟩
    · rintro _ _ rfl
      rw [hsl]
      exact ⟨_, _, _, _, .head _⟩
    · rintro _ k t _ im' rfl hb hnd
      rw [hsl]
      unfold FSpec SpecB
      intro p loose mean mg mb dp un gd cn cs a ccd cl outer A₀ base h₀ L m s Q E B F X N TP C hBs hcs hroom hun ret
      have hC1 : CodeHd base 49 45 := C.1
      refine wpAny_call ?_
      (refine' code_nest ?k1x8 ?k2x8 ?k3x8 ?k4x8 ?k5x8 ?kAx8 ?kFx8 ?kKx8 ?k6x8 ?k7x8 ?k8x8 ?k9x8 ?kBx8 ?_ ?c2x8 ?c3x8 ?c4x8 ?c5x8; (case kAx8 => exact rfl); (case kFx8 => exact rfl); (case kKx8 => assumption); (case k1x8 => k_asm); (case k2x8 => k_asm); (case k3x8 => k_asm); (case k4x8 => k_asm); (case k5x8 => k_asm); (case k6x8 => k_mem); (case k7x8 => exact codeRec_news (by k_asm) (by k_mem) (by assumption) (by assumption)); (case k8x8 => (dsimp only [ktrTop] at *; omega)); (case k9x8 => exact BindsTo.of_eq rfl); (case c5x8 => decide); (case kBx8 => exact locs rfl); (case c2x8 => exact rfl); (case c3x8 => exact rfl); (case c4x8 => exact rfl); k_whole; intro _ _ _ _ _ _ hB9 _ _; (try dsimp only); (try k_lift hB9); (try k_fold))
      k_steps
      rename News h₀ L _ _ => kN9
      rename (∀ p : Addr × Obj, p ∈ _ → p.1 < _) => w9
      exact ret _ _ _ _ (by assumption) kN9 ⟨_, _, _, _, [_, _, _], rfl, rfl, rfl, rfl, w9⟩
  have hB : (0 : Nat) + 2 * t.sz ≤ 900 := by omega
  have hnd9 : ((sl ++ (45, tabObj (#[] ++ #[rawInt ↑58, rawInt ↑4, Value.ref c'])) :: im).map Prod.fst).Nodup := by
    rw [hsl]
    have a1 : ∀ x ∈ (45 : Addr) :: im.map Prod.fst, x < L1 := fun x hx => by
      rcases List.mem_cons.mp hx with rfl | hx
      · exact l11 (45, tabObj #[]) (.head _)
      · obtain ⟨q, hq, rfl⟩ := List.mem_map.mp hx
        exact l11 q (.tail _ hq)
    have a2 : @LT.lt Nat _ (L1 + 1) c' := l1.1
    exact nd_start (st := f') (d := L1 + 1) (f := c') hndi (fun x hx => Nat.lt_succ_of_lt (a1 x hx)) a2 l2 |> nd_swap
  refine SpecB.use (RB (s₀ := ()) H hok (DatIn.mono (fun p hp => .tail _ hp) ht) rfl hB hnd9) B1 F8 X1 N8 T1 C trivial rfl ?r1 ?r2 ?r3
  case r1 => dsimp only [ktrTop] at *; omega
  case r2 => dsimp only [ktrTop] at *; omega
  case r3 =>
  rintro r news' h' tk' F9 N9 ⟨tl, sl', rfl, e1, e2, e3, e4, e5⟩
  (try k_unmd); (try k_fold)
  k_steps
  subst e3
  rename News h₀ L _ _ => kN9
  refine ret _ _ _ _ (by assumption) (news_sub kN9 ?w1) ⟨tl, c', oc', vs', t', rfl, d1, d2, e1.sub ?w2, e2, fun p hp => ?w3, l1.2.1⟩
  case w1 => rw [hsl]; intro p hp; simp only [List.mem_cons, List.mem_append] at hp ⊢; rcases hp with h | h | h | h <;> simp [h]
  case w2 => rw [hsl]; intro p hp; simp only [List.mem_cons, List.mem_append] at hp ⊢; rcases hp with h | h | h <;> simp [h]
  case w3 =>
    have q1 := l11 p (.tail _ hp)
    exact Nat.lt_trans (Nat.lt_succ_of_lt q1) l1.1
end

end
section

section
theorem nd_rot {α : Type} {a b c : α} {R : List α} (h : (a :: b :: c :: R).Nodup) : (b :: a :: c :: R).Nodup := by
  have p : (b :: a :: c :: R).Perm (a :: b :: c :: R) := List.Perm.swap _ _ _
  exact p.nodup_iff.mpr h
theorem pick3' {g h : Heap} {L : Addr} {a b c : Addr × Obj} {r : List (Addr × Obj)} (N : News g L h (a :: b :: c :: r)) : ∃ sl, sl = [a, b, c] ∧ News g L h (sl ++ r) := ⟨_, rfl, N⟩
theorem ren_hit {prog : Program} {w : World} (RB : RebStmt prog w) {t : T} {v : Value} {o : Int} {u : Tok} {im : List (Addr × Obj)} {c' : Addr} {oc' : Obj} {vs' : Array Value} {t' : Tok} (d1 : oc'.data = .fields vs') (d2 : vs'[1]? = some (.str (Str.ofString "rename.<locals>.change") t')) (hok : t.ok) (ht : TIn im v t) (hsz : t.sz ≤ 400) (hndi : (((c', oc') :: im).map Prod.fst).Nodup) (htab : ((45 : Addr), tabObj #[rawInt 58, rawInt 4, .ref c']) ∈ im) :
    FSpec prog w 50 [v, .int o u] 20 400 ((c', oc') :: im) (fun r news' => ∃ tl, news' = tl ++ ((c', oc') :: im) ∧ Ext ((c', oc') :: im) tl ∧ TIn (tl ++ im) r (T.mapS (fun _ k => k + o) (fun (u : Unit) _ => u) () t).1) := by
  unfold FSpec SpecB
  intro p loose mean mg mb dp un gd cn cs a ccd cl outer A₀ base h₀ L m s Q E B F X N TP C hBs hcs hroom hun ret
  have hC1 : CodeHd base 49 45 := C.1
  w_top off
  k_with_none
  (have hfill : PySem.Challenge.rw_ok0008_01 = PySem.Challenge.rw_ok0008_01 ∧ (fun w : World => Mine.hd.heap_39 w.params) = fun w : World => Mine.hd.heap_39 w.params := by (k_fill; exact ⟨rfl, rfl⟩)); clear hfill
  k_with "mem" => (first | (with_reducible assumption) | exact List.Mem.head _ | (refine' List.mem_cons_of_mem _ ?_; k_mem) | (refine' List.mem_append_right _ ?_; k_mem) | (refine' List.mem_append_left _ ?_; k_mem))
  k_with "getMethod ref" => ((k_here; (with_reducible show wpAny _ _ (getMethod (Value.ref _) (PySem.Str.ofString "get") _) _ _ _); k_dflt (refine' d_meth (by (k_asm)) (by (k_mem)) (by (assumption)) (by (assumption)) ?_)))
  k_with "call builtin:dict.get" => ((k_here; k_dflt (refine' d_get2 (by (k_asm)) (by (k_mem)) (by (assumption)) (by (assumption)) ?_); intro _))
  k_with "compareOp NotIn int ref" => ((k_here; k_dflt (refine' d_notin (by (k_asm)) (by (k_mem)) (by (assumption)) (by (assumption)) ?_)))
  k_with "subscriptTail" => ((k_here; (with_reducible show wpAny _ _ (subscriptTail _ _ (Value.ref _) (Value.int _ _)) _ _ _); k_dflt (refine' t_item (by (k_asm)) (by (k_mem)) (by (decide)) (by (decide)) (by (rfl)) (by (rfl)) ?_; k_whole)))
  k_with "call type:tuple" => ((k_here; (with_reducible show wpAny _ _ (call (Value.type _) [Value.ref _]) _ _ _); k_dflt (refine' t_tupleOf (by (k_asm)) (by (k_asm)) (by (k_mem)) (by (assumption)) ?_); intro _ _ _ _ _; (try k_sweep)))
  k_with "newTuple" => ((k_here; k_dflt (refine' t_newTuple (by (k_asm)) (by (k_asm)) (by (first | exact Nat.le_of_ble_eq_true rfl | assumption)) ?_); intro _ _ _ _ _; (try k_sweep)))
  k_with "newList" => ((k_here; k_dflt (refine' t_newList (by (k_asm)) (by (k_asm)) (by (first | exact Nat.le_of_ble_eq_true rfl | assumption)) ?_); intro _ _ _ _ _; (try k_sweep)))
  k_with "compareOp NotIn int ref" => ((k_here; k_dflt (refine' l_notin (by (k_asm)) (by (k_mem)) (by (assumption)) (by (ktr_units)) ?_)))
  k_with "call builtin:list.append" => ((k_here; (with_reducible show wpAny _ _ (call (Value.builtin _) [Value.ref _, _]) _ _ _); k_dflt (refine' l_append (by (k_asm)) (by (k_asm)) (by (k_upd)) (by (assumption)) ?_); intro _ _ _; (try k_sweep)))
  k_with "exec For" => ((k_here; (with_unfolding_all refine' For_invVF (by (k_asm)) (by (exact rfl)) (by (exact rfl)) ?_; k_whole)))
  k_with "eval Name" => ((k_here; (with_reducible show wpAny _ _ (eval (Expr.Name _ _) (envOf _ _ _ _ _)) _ _ _); name_kind "local"; k_dflt (refine' ld (by (k_asm)) (by (assumption)) ?_; k_whole)))
  k_with "eval Name" => ((k_here; (with_reducible show wpAny _ _ (eval (Expr.Name _ _) (envOfC _ _ _ _ _)) _ _ _); name_kind "local"; k_dflt (refine' nameX_L (by (k_asm)) (by (assumption)) ?_ (by (rfl)) (by (rfl)); k_whole)))
  k_with "exec While" => ((k_here; (with_reducible show wpAny _ _ (exec (Stmt.While _ _ _ _) _) _ _ _); refine' stop_of ?_))
  k_with "last exec While" => ((k_here; (with_reducible show wpAny _ _ (exec (Stmt.While _ _ _ _) _) _ _ _); refine' stop_of ?_))
  k_with "newTuple" => ((k_here; k_dflt (refine' t_newTuple (by (k_asm)) (by (k_asm)) (by (first | exact Nat.le_of_ble_eq_true rfl | assumption)) ?_); intro _ _ _ _ _))
  refine wpAny_call ?_
  k_dflt (refine' code_defC ?k1x9 ?k2x9 ?k3x9 ?k4x9 ?k5x9 ?kAx9 ?kFx9 ?kKx9 ?k6x9 ?k7x9 ?k8x9 ?k9x9 ?kBx9 ?kDx9 ?_ ?c2x9 ?c3x9 ?c4x9; (case kAx9 => exact rfl); (case kFx9 => exact rfl); (case kKx9 => assumption); (case k1x9 => k_asm); (case k2x9 => k_asm); (case k3x9 => k_asm); (case k4x9 => k_asm); (case k5x9 => k_asm); (case k6x9 => k_is); (case k7x9 => k_is); (case k8x9 => ktr_room); (case k9x9 => exact BindsTo.of_eq rfl); (case kBx9 => exact rfl); (case kDx9 => decide +kernel); (case c2x9 => exact rfl); (case c3x9 => exact rfl); (case c4x9 => exact rfl); k_whole; intro g1 L1 h1 tk1 cells1 FG1 F1 N1 Y1 B1 X1 T1 l11; k_cells Y1; (try simp only [List.cons_append, List.nil_append] at N1); (try dsimp only); (try k_lift B1); (try k_fold))
  refine hideE PassesOwn.leaving ?_
  intro EE hPE
  rename_i o1 d11
  replace d11 : o1.data = .cell (some (.int o u)) := d11
  k_steps
  rename_i f' ct' dc' h5 tk5 hl1 h6 F8 N8
  obtain ⟨sl, hsl, N8⟩ := pick3' N8
  have H : Chg prog w f' (fun (_ : Unit) sl' => sl' = sl) (fun _ k => k + o) (fun u _ => u) (fun _ => 0) 5 100 := by
    refine ⟨?_, fun _ _ => Nat.zero_le _, ?_⟩
    · rintro _ _ rfl
      rw [hsl]
      exact ⟨_, _, _, _, .head _⟩
    · rintro _ k t _ im' rfl hb hnd
      rw [hsl]
      unfold FSpec SpecB
      intro p loose mean mg mb dp un gd cn cs a ccd cl outer A₀ base h₀ L m s Q E B F X N TP C hBs hcs hroom hun ret
      have hC1 : CodeHd base 49 45 := C.1
      refine wpAny_call ?_
      (refine' code_nest ?k1x10 ?k2x10 ?k3x10 ?k4x10 ?k5x10 ?kAx10 ?kFx10 ?kKx10 ?k6x10 ?k7x10 ?k8x10 ?k9x10 ?kBx10 ?_ ?c2x10 ?c3x10 ?c4x10 ?c5x10; (case kAx10 => exact rfl); (case kFx10 => exact rfl); (case kKx10 => assumption); (case k1x10 => k_asm); (case k2x10 => k_asm); (case k3x10 => k_asm); (case k4x10 => k_asm); (case k5x10 => k_asm); (case k6x10 => k_mem); (case k7x10 => exact codeRec_news (by k_asm) (by k_mem) (by assumption) (by assumption)); (case k8x10 => (dsimp only [ktrTop] at *; omega)); (case k9x10 => exact BindsTo.of_eq rfl); (case c5x10 => decide); (case kBx10 => exact locs rfl); (case c2x10 => exact rfl); (case c3x10 => exact rfl); (case c4x10 => exact rfl); k_whole; intro _ _ _ _ _ _ hB9 _ _; (try dsimp only); (try k_lift hB9); (try k_fold))
      k_steps
      rename News h₀ L _ _ => kN9
      rename (∀ p : Addr × Obj, p ∈ _ → p.1 < _) => w9
      exact ret _ _ _ _ (by assumption) kN9 ⟨_, _, _, _, [_, _, _], rfl, rfl, rfl, rfl, w9⟩
  have hB : (0 : Nat) + 2 * t.sz ≤ 900 := by omega
  have hnd9 : ((sl ++ im).map Prod.fst).Nodup := by
    rw [hsl]
    have a1 : ∀ x ∈ ((c', oc') :: im).map Prod.fst, x < L1 + 1 := fun x hx => by
      obtain ⟨q, hq, rfl⟩ := List.mem_map.mp hx
      exact Nat.lt_succ_of_lt (l11 q hq)
    have a2 : @LT.lt Nat _ (L1 + 1) f' := hl1.1
    show (f' :: (L1 + 1) :: ((c', oc') :: im).map Prod.fst).Nodup
    rw [List.nodup_cons, List.nodup_cons]
    refine ⟨fun hm => ?_, fun hm => absurd (a1 _ hm) (Nat.lt_irrefl _), hndi⟩
    rcases List.mem_cons.mp hm with e | hm
    · rw [e] at a2; exact absurd a2 (Nat.lt_irrefl _)
    · exact absurd (Nat.lt_trans (a1 _ hm) a2) (Nat.lt_irrefl _)
  refine SpecB.use (RB (s₀ := ()) H hok ht rfl hB hnd9) B1 F8 X1 N8 T1 C trivial rfl ?r1 ?r2 ?r3
  case r1 => dsimp only [ktrTop] at *; omega
  case r2 => dsimp only [ktrTop] at *; omega
  case r3 =>
  rintro r news' h' tk' F9 N9 ⟨tl, sl', rfl, e1, e2, e3, e4, e5⟩
  (try k_unmd); (try k_fold)
  k_steps
  subst e3
  rename News h₀ L _ _ => kN9
  refine ret _ _ _ _ (by assumption) (news_sub kN9 ?w1) ⟨tl, rfl, e1.sub ?w2, e2⟩
  case w1 => rw [hsl]; intro p hp; simp only [List.mem_cons, List.mem_append] at hp ⊢; rcases hp with h | h | h <;> simp [h]
  case w2 => rw [hsl]; intro p hp; simp only [List.mem_cons, List.mem_append] at hp ⊢; rcases hp with h | h <;> simp [h]
end
theorem ren_shift (o : Int) : ∀ t : T, (T.mapS (fun (_ : Unit) k => k + o) (fun u _ => u) () t).1 = t.map (· + o)
  | .v k => rfl
  | .c g k => rfl
  | .s f l => by rw [T.mapS, T.map]; exact congrArg (T.s f) (go l)
where go : ∀ l : List T, (mapST (fun (_ : Unit) k => k + o) (fun u _ => u) () l).1 = mapT (· + o) l
  | [] => rfl
  | t :: r => by
    rw [mapST, mapT]
    exact congr (congrArg List.cons (ren_shift o t)) (go r)
/-- rename, once its inner code is in the table -/
theorem ren_spec {prog : Program} {w : World} (RB : RebStmt prog w) {t : T} {v : Value} {o : Int} {u : Tok} {news : List (Addr × Obj)} {c' : Addr} {oc' : Obj} {vs' : Array Value} {t' : Tok} (d1 : oc'.data = .fields vs') (d2 : vs'[1]? = some (.str (Str.ofString "rename.<locals>.change") t')) (hok : t.ok) (ht : TIn news v t) (hsz : t.sz ≤ 400) (hc : (c', oc') ∈ news) (htab : ((45 : Addr), tabObj #[rawInt 58, rawInt 4, .ref c']) ∈ news) :
    FSpec prog w 50 [v, .int o u] 20 400 news (fun r news' => ∃ tl, news' = tl ++ news ∧ Ext news tl ∧ TIn (tl ++ news) r (t.map (· + o))) := by
  intro p loose mean mg mb dp un gd cn cs a ccd cl outer A₀ base h₀ L m s Q E B F X N TP C hBs hcs hroom hun ret
  obtain ⟨im, hmem, hnd, N'⟩ := news_split N hc
  have hne : ((45 : Addr), tabObj #[rawInt 58, rawInt 4, .ref c']) ≠ (c', oc') := fun e => by
    have e2 : tabObj #[rawInt 58, rawInt 4, .ref c'] = oc' := congrArg Prod.snd e
    subst e2
    cases d1
    cases d2
  have htab' : ((45 : Addr), tabObj #[rawInt 58, rawInt 4, .ref c']) ∈ im := by
    rcases List.mem_cons.mp ((hmem _).mpr htab) with e | h
    · exact absurd e hne
    · exact h
  have ht' : TIn im v t := ht.tup fun q hq htp => by
    rcases List.mem_cons.mp ((hmem _).mpr hq) with e | h
    · subst e; exact absurd htp (not_tp_fields d1)
    · exact h
  refine SpecB.use (ren_hit RB d1 d2 hok ht' hsz hnd htab') B F X N' TP C hBs hcs hroom hun ?_
  rintro r news' h' tk' F' N' ⟨tl, rfl, e1, e2⟩
  have hs : ∀ q ∈ tl ++ news, q ∈ tl ++ ((c', oc') :: im) := fun q hq => by
    rcases List.mem_append.mp hq with h | h
    · exact List.mem_append_left _ h
    · exact List.mem_append_right _ ((hmem q).mpr h)
  refine ret _ _ _ _ F' (news_sub N' hs) ⟨tl, rfl, e1.sub fun q hq => (hmem q).mpr hq, ?_⟩
  rw [← ren_shift]
  exact DatIn.mono (fun q hq => by
    rcases List.mem_append.mp hq with h | h
    · exact List.mem_append_left _ h
    · exact List.mem_append_right _ ((hmem q).mp (.tail _ h))) e2

end
section

section

theorem pick4 {g h : Heap} {L : Addr} {a b c e : Addr × Obj} {d : Addr} {o : Obj} {r : List (Addr × Obj)} (N : News g L h (a :: b :: (d, o) :: c :: e :: r)) : ∃ sl, sl = (fun o => [a, b, (d, o), c]) ∧ News g L h (sl o ++ e :: r) := ⟨_, rfl, N⟩
theorem all_upd {d x : Addr} {o o' : Obj} {a b : Addr × Obj} {r : List (Addr × Obj)} (h : ∀ p ∈ a :: b :: (d, o') :: r, p.1 < x) : ∀ p ∈ a :: b :: (d, o) :: r, p.1 < x := fun p hp => by
  rcases List.mem_cons.mp hp with e | hp
  · exact h p (e ▸ .head _)
  rcases List.mem_cons.mp hp with e | hp
  · exact h p (e ▸ .tail _ (.head _))
  rcases List.mem_cons.mp hp with e | hp
  · rw [e]; exact h (d, o') (.tail _ (.tail _ (.head _)))
  · exact h p (.tail _ (.tail _ (.tail _ hp)))
theorem rnm_sub {α : Type} {x a b d e : α} {tl r : List α} (h : x ∈ tl ++ d :: b :: r) : x ∈ tl ++ a :: b :: d :: e :: r := by
  simp only [List.mem_append, List.mem_cons] at h ⊢
  rcases h with h | h | h | h <;> simp [h]
theorem nd_cell {f' c' d5 x : Addr} {R : List Addr} (hx : (x :: R).Nodup) (h1 : ∀ y ∈ x :: R, y < d5) (h2 : d5 < c') (h3 : c' < f') : (f' :: c' :: d5 :: x :: R).Nodup := by
  have a1 : ∀ y ∈ d5 :: x :: R, y < c' := fun y hy => by
    rcases List.mem_cons.mp hy with rfl | hy
    · exact h2
    · exact Nat.lt_trans (h1 y hy) h2
  have a2 : ∀ y ∈ c' :: d5 :: x :: R, y < f' := fun y hy => by
    rcases List.mem_cons.mp hy with rfl | hy
    · exact h3
    · exact Nat.lt_trans (a1 y hy) h3
  exact List.nodup_cons.mpr ⟨fun hm => absurd (a2 _ hm) (Nat.lt_irrefl _), List.nodup_cons.mpr ⟨fun hm => absurd (a1 _ hm) (Nat.lt_irrefl _), List.nodup_cons.mpr ⟨fun hm => absurd (h1 _ hm) (Nat.lt_irrefl _), hx⟩⟩⟩
theorem rnm_try {prog : Program} {w : World} (RB : RebStmt prog w) {t : T} {v : Value} {im : List (Addr × Obj)} (hok : t.ok) (ht : TIn im v t) (hsz : t.sz ≤ 400) (hndi : ((38 : Addr) :: im.map Prod.fst).Nodup) :
    FSpec prog w 43 [v] 25 500 ((38, tabObj #[]) :: im) (fun r news' => ∃ tl R r' d5 o' c' oc vs t', r = .ref R ∧ news' = (R, tupN [r', .ref d5] 0) :: (tl ++ ((d5, o') :: (c', oc) :: (38, tabObj #[rawInt 51, rawInt 4, .ref c']) :: im)) ∧
      oc.data = .fields vs ∧ vs[1]? = some (.str (Str.ofString "renumber.<locals>.change") t') ∧ (d5 == sysModules) = false ∧ DictIs prog w o' (T.mapS nval nnxt [] t).2 ∧ TIn (tl ++ (38, tabObj #[rawInt 51, rawInt 4, .ref c']) :: im) r' (T.mapS nval nnxt [] t).1 ∧
      Ext ((d5, o') :: (c', oc) :: (38, tabObj #[rawInt 51, rawInt 4, .ref c']) :: im) tl ∧ (∀ p ∈ (38, tabObj #[]) :: im, p.1 < d5) ∧ d5 < c' ∧ ∀ p ∈ tl ++ ((d5, o') :: (c', oc) :: (38, tabObj #[rawInt 51, rawInt 4, .ref c']) :: im), p.1 < R) := by
  unfold FSpec SpecB
  intro p loose mean mg mb dp un gd cn cs a ccd cl outer A₀ base h₀ L m s Q E B F X N TP C hBs hcs hroom hun ret
  have hC1 : CodeHd base 42 38 := C.2.1
  have hoff : ∀ p ∈ im, p.1 ≠ (38 : Nat) := fun p hp e => (List.nodup_cons.mp hndi).1 (e ▸ List.mem_map_of_mem hp)
  w_top off
  k_with_none
  (have hfill : PySem.Challenge.rw_ok0008_01 = PySem.Challenge.rw_ok0008_01 ∧ (fun w : World => Mine.hd.heap_39 w.params) = fun w : World => Mine.hd.heap_39 w.params := by (k_fill; exact ⟨rfl, rfl⟩)); clear hfill
  k_with "mem" => (first | (with_reducible assumption) | exact List.Mem.head _ | (refine' List.mem_cons_of_mem _ ?_; k_mem) | (refine' List.mem_append_right _ ?_; k_mem) | (refine' List.mem_append_left _ ?_; k_mem))
  k_with "getMethod ref" => ((k_here; (with_reducible show wpAny _ _ (getMethod (Value.ref _) (PySem.Str.ofString "get") _) _ _ _); k_dflt (refine' d_meth (by (k_asm)) (by (k_mem)) (by (assumption)) (by (assumption)) ?_)))
  k_with "call builtin:dict.get" => ((k_here; k_dflt (refine' d_get2 (by (k_asm)) (by (k_mem)) (by (assumption)) (by (assumption)) ?_); intro _))
  k_with "compareOp NotIn int ref" => ((k_here; k_dflt (refine' d_notin (by (k_asm)) (by (k_mem)) (by (assumption)) (by (assumption)) ?_)))
  k_with "subscriptTail" => ((k_here; (with_reducible show wpAny _ _ (subscriptTail _ _ (Value.ref _) (Value.int _ _)) _ _ _); k_dflt (refine' t_item (by (k_asm)) (by (k_mem)) (by (decide)) (by (decide)) (by (rfl)) (by (rfl)) ?_; k_whole)))
  k_with "call type:tuple" => ((k_here; (with_reducible show wpAny _ _ (call (Value.type _) [Value.ref _]) _ _ _); k_dflt (refine' t_tupleOf (by (k_asm)) (by (k_asm)) (by (k_mem)) (by (assumption)) ?_); intro _ _ _ _ _; (try k_sweep)))
  k_with "newTuple" => ((k_here; k_dflt (refine' t_newTuple (by (k_asm)) (by (k_asm)) (by (first | exact Nat.le_of_ble_eq_true rfl | assumption)) ?_); intro _ _ _ _ _; (try k_sweep)))
  k_with "newList" => ((k_here; k_dflt (refine' t_newList (by (k_asm)) (by (k_asm)) (by (first | exact Nat.le_of_ble_eq_true rfl | assumption)) ?_); intro _ _ _ _ _; (try k_sweep)))
  k_with "compareOp NotIn int ref" => ((k_here; k_dflt (refine' l_notin (by (k_asm)) (by (k_mem)) (by (assumption)) (by (ktr_units)) ?_)))
  k_with "call builtin:list.append" => ((k_here; (with_reducible show wpAny _ _ (call (Value.builtin _) [Value.ref _, _]) _ _ _); k_dflt (refine' l_append (by (k_asm)) (by (k_asm)) (by (k_upd)) (by (assumption)) ?_); intro _ _ _; (try k_sweep)))
  k_with "exec For" => ((k_here; (with_unfolding_all refine' For_invVF (by (k_asm)) (by (exact rfl)) (by (exact rfl)) ?_; k_whole)))
  k_with "eval Name" => ((k_here; (with_reducible show wpAny _ _ (eval (Expr.Name _ _) (envOf _ _ _ _ _)) _ _ _); name_kind "local"; k_dflt (refine' ld (by (k_asm)) (by (assumption)) ?_; k_whole)))
  k_with "eval Name" => ((k_here; (with_reducible show wpAny _ _ (eval (Expr.Name _ _) (envOfC _ _ _ _ _)) _ _ _); name_kind "local"; k_dflt (refine' nameX_L (by (k_asm)) (by (assumption)) ?_ (by (rfl)) (by (rfl)); k_whole)))
  k_with "exec While" => ((k_here; (with_reducible show wpAny _ _ (exec (Stmt.While _ _ _ _) _) _ _ _); refine' stop_of ?_))
  k_with "last exec While" => ((k_here; (with_reducible show wpAny _ _ (exec (Stmt.While _ _ _ _) _) _ _ _); refine' stop_of ?_))
  k_with "newTuple" => ((k_here; k_dflt (refine' t_newTuple (by (k_asm)) (by (k_asm)) (by (first | exact Nat.le_of_ble_eq_true rfl | assumption)) ?_); intro _ _ _ _ _))
  k_with "compareOp NotIn int ref" => ((k_here; k_dflt (first
        | (refine' d_notin1 (by (k_asm)) (by (k_mem)) (by (assumption)) (by (assumption)) (by (assumption)) ?_)
        | (refine' d_notin0 (by (k_asm)) (by (k_mem)) (by (assumption)) (by (assumption)) (by (assumption)) ?_))))
  k_with "call builtin:len" => ((k_here; k_dflt (refine' d_len (by (k_asm)) (by (k_mem)) (by (assumption)) (by (assumption)) (by (assumption)) ?_)))
  k_with "setItem ref int" => ((k_here; k_dflt (refine' d_set (by (k_asm)) (by (k_asm)) (by (k_updF)) (by (assumption)) (by (assumption)) ?_); intro _ _ _ hN9 _; (try dsimp only at hN9); revert hN9; intro _))
  k_with "subscriptTail Name Name ref int" => ((k_here; (with_reducible show wpAny _ _ (subscriptTail _ _ (Value.ref _) (Value.int _ _)) _ _ _); k_dflt (refine' d_item (by (k_asm)) (by (k_mem)) (by (assumption)) (by (assumption)) (by (assumption)) ?_); intro _))
  refine wpAny_call ?_
  k_dflt (refine' code_defC ?k1x11 ?k2x11 ?k3x11 ?k4x11 ?k5x11 ?kAx11 ?kFx11 ?kKx11 ?k6x11 ?k7x11 ?k8x11 ?k9x11 ?kBx11 ?kDx11 ?_ ?c2x11 ?c3x11 ?c4x11; (case kAx11 => exact rfl); (case kFx11 => exact rfl); (case kKx11 => assumption); (case k1x11 => k_asm); (case k2x11 => k_asm); (case k3x11 => k_asm); (case k4x11 => k_asm); (case k5x11 => k_asm); (case k6x11 => k_is); (case k7x11 => k_is); (case k8x11 => ktr_room); (case k9x11 => exact binds_K (by k_in) rfl (by k_is) rfl rfl rfl); (case kBx11 => exact rfl); (case kDx11 => decide +kernel); (case c2x11 => exact rfl); (case c3x11 => exact rfl); (case c4x11 => exact rfl); k_whole; intro g1 L1 h1 tk1 cells1 FG1 F1 N1 Y1 B1 X1 T1 l11; k_cells Y1; (try simp only [List.cons_append, List.nil_append] at N1); (try dsimp only); (try k_lift B1); (try k_fold))
  refine hideE PassesOwn.leaving ?_
  intro EE hPE
  rename_i o1 d11
  replace d11 : o1.data = .cell none := d11
  have hlt38 : @LT.lt Nat _ 38 L1 := l11 (38, tabObj #[]) (.head _)
  have hoffc : ∀ p ∈ im, p.1 ≠ L1 + 1 := fun p hp => Nat.ne_of_lt (Nat.lt_succ_of_lt (l11 p (.tail _ hp)))
  k_steps
  rename_i d5 h3 o5 lo5 hs5 fs5 hi5 fi5 l5 h2 oc5 dc5 f' c' oc' vs' t' ct' dc' h5 tk5 d1 d2 l1 l2 h6 F8 N8
  have hd0 : DictIs prog w o5 [] := ⟨[], hi5, fi5⟩
  clear hs5 fs5 hi5 fi5
  have q5 : ∀ x ∈ (38 : Addr) :: im.map Prod.fst, x < d5 := fun x hx => by
    have a0 : @LT.lt Nat _ (L1 + 1) d5 := l5.1
    have a1 : x < L1 := by
      rcases List.mem_cons.mp hx with rfl | hx
      · exact hlt38
      · obtain ⟨q, hq, rfl⟩ := List.mem_map.mp hx
        exact l11 q (.tail _ hq)
    exact Nat.lt_trans (Nat.lt_succ_of_lt a1) a0
  have hnd9 : (f' :: c' :: d5 :: (L1 + 1) :: (38 : Addr) :: im.map Prod.fst).Nodup := by
    refine nd_cell (List.nodup_cons.mpr ⟨fun hm => ?_, hndi⟩) (fun y hy => ?_) l1.1 l2
    · have a1 : (L1 + 1 : Nat) < L1 := by
        rcases List.mem_cons.mp hm with e | hx
        · rw [← e] at hlt38; exact hlt38
        · obtain ⟨q, hq, e⟩ := List.mem_map.mp hx
          exact e ▸ l11 q (.tail _ hq)
      exact absurd a1 (Nat.not_lt.mpr (Nat.le_succ _))
    · rcases List.mem_cons.mp hy with rfl | hy
      · exact l5.1
      · exact q5 y hy
  have hd5 : @LT.lt Nat _ d5 c' := l1.1
  have hc5 : @LT.lt Nat _ (L1 + 1) d5 := l5.1
  clear l1 l5
  obtain ⟨sl, hsl, N8⟩ := pick4 N8
  have H : Chg prog w f' (fun ps sl' => ∃ o, sl' = sl o ∧ DictIs prog w o ps) nval nnxt List.length 6 100 := by
    refine ⟨?_, nnxt_len, ?_⟩
    · rintro _ _ ⟨o, rfl, _⟩
      rw [hsl]
      exact ⟨_, _, _, _, .head _⟩
    · rintro ps k t _ im' ⟨o, rfl, ho⟩ hb hnd
      rw [hsl] at hnd ⊢
      dsimp only [List.cons_append, List.nil_append, List.map_cons] at hnd ⊢
      have hoffd : ∀ p ∈ im', p.1 ≠ d5 := fun p hp e => (List.nodup_cons.mp (List.nodup_cons.mp (List.nodup_cons.mp hnd).2).2).1 (.tail _ (List.mem_map.mpr ⟨p, hp, e⟩))
      unfold FSpec SpecB
      intro p loose mean mg mb dp un gd cn cs a ccd cl outer A₀ base h₀ L m s Q E B F X N TP C hBs hcs hroom hun ret
      have hC1 : CodeHd base 42 38 := C.2.1
      have hz : ps.length ≤ 1000 := by omega
      refine wpAny_call ?_
      (refine' code_nest ?k1x12 ?k2x12 ?k3x12 ?k4x12 ?k5x12 ?kAx12 ?kFx12 ?kKx12 ?k6x12 ?k7x12 ?k8x12 ?k9x12 ?kBx12 ?_ ?c2x12 ?c3x12 ?c4x12 ?c5x12; (case kAx12 => exact rfl); (case kFx12 => exact rfl); (case kKx12 => assumption); (case k1x12 => k_asm); (case k2x12 => k_asm); (case k3x12 => k_asm); (case k4x12 => k_asm); (case k5x12 => k_asm); (case k6x12 => k_mem); (case k7x12 => exact codeRec_news (by k_asm) (by k_mem) (by assumption) (by assumption)); (case k8x12 => (dsimp only [ktrTop] at *; omega)); (case k9x12 => exact BindsTo.of_eq rfl); (case c5x12 => decide); (case kBx12 => exact locs rfl); (case c2x12 => exact rfl); (case c3x12 => exact rfl); (case c4x12 => exact rfl); k_whole; intro _ _ _ _ _ _ hB9 _ _; (try dsimp only); (try k_lift hB9); (try k_fold))
      cases hlk : ps.lookup k with
      | some j =>
        k_steps
        rename News h₀ L _ _ => kN9
        rename (∀ p : Addr × Obj, p ∈ _ → p.1 < _) => w9
        have hv : nval ps k = j := by unfold nval; rw [hlk]; rfl
        have hn : nnxt ps k = ps := by unfold nnxt; rw [hlk]; rfl
        rw [hv, hn] at ret
        exact ret _ _ _ _ (by assumption) kN9 ⟨_, _, _, _, [_, _, _, _], rfl, rfl, ⟨o, rfl, ho⟩, rfl, w9⟩
      | none =>
        have hlk2 := lookup_snoc (v := ps.length) hlk
        rw [← put_new hlk] at hlk2
        k_steps
        rename News h₀ L _ _ => kN9
        rename (∀ p : Addr × Obj, p ∈ _ → p.1 < _) => w9
        rename DictIs prog w _ (put _ _ _) => ho9
        have hv : nval ps k = ps.length := by unfold nval; rw [hlk]; rfl
        have hn : nnxt ps k = put k ps.length ps := by unfold nnxt; rw [hlk, put_new hlk]; rfl
        rw [hv, hn] at ret
        exact ret _ _ _ _ (by assumption) kN9 ⟨_, _, _, _, [_, _, _, _], rfl, rfl, ⟨_, rfl, ho9⟩, rfl, all_upd w9⟩
  have hnd8 : ((sl o5 ++ (38, tabObj (#[] ++ #[rawInt ↑51, rawInt ↑4, Value.ref c'])) :: im).map Prod.fst).Nodup := by rw [hsl]; exact hnd9
  refine SpecB.use (RB (s₀ := []) H hok (DatIn.mono (fun p hp => .tail _ hp) ht) ⟨o5, rfl, hd0⟩ (by show 0 + 2 * t.sz ≤ 900; omega) hnd8) B1 F8 X1 N8 T1 C trivial rfl ?r1 ?r2 ?r3
  case r1 => dsimp only [ktrTop] at *; omega
  case r2 => dsimp only [ktrTop] at *; omega
  case r3 =>
  rintro r news' h' tk' F9 N9 ⟨tl, sl', rfl, e1, e2, ⟨o9, rfl, ho9⟩, e4, e5⟩
  rw [hsl] at N9 e1 e4 e5
  dsimp only [List.cons_append, List.nil_append] at N9 e1 e4 e5
  (try k_unmd); (try k_fold)
  k_steps
  rename News h₀ L _ _ => kN9
  rename (∀ p : Addr × Obj, p ∈ _ → p.1 < _) => w9
  refine ret _ _ _ _ (by assumption) (news_sub kN9 ?w1) ⟨tl, _, r, d5, o9, c', oc', vs', t', rfl, rfl, d1, d2, lo5, ho9, e2, e1.adr ?w2, ?w3, hd5, fun p hp => w9 p (rnm_sub hp)⟩
  case w1 =>
    intro p hp
    rcases List.mem_cons.mp hp with e | hp
    · exact e ▸ .head _
    · exact .tail _ (rnm_sub hp)
  case w2 =>
    intro p hp
    rcases List.mem_cons.mp hp with rfl | hp
    · exact ⟨(d5, o5), .tail _ (.tail _ (.head _)), rfl⟩
    rcases List.mem_cons.mp hp with rfl | hp
    · exact ⟨_, .tail _ (.head _), rfl⟩
    · exact ⟨p, .tail _ (.tail _ (.tail _ (.tail _ hp))), rfl⟩
  case w3 =>
    intro p hp
    exact q5 p.1 (by
      rcases List.mem_cons.mp hp with rfl | hp
      · exact .head _
      · exact .tail _ (List.mem_map_of_mem hp))
end

end
section

section

theorem pickA {g h : Heap} {L : Addr} {a c e : Addr × Obj} {d : Addr} {o : Obj} {r : List (Addr × Obj)} (N : News g L h (a :: (d, o) :: c :: e :: r)) : ∃ sl, sl = (fun o => [a, (d, o), c, e]) ∧ News g L h (sl o ++ r) := ⟨_, rfl, N⟩
theorem all_updA {d x : Addr} {o o' : Obj} {a : Addr × Obj} {r : List (Addr × Obj)} (h : ∀ p ∈ a :: (d, o') :: r, p.1 < x) : ∀ p ∈ a :: (d, o) :: r, p.1 < x := fun p hp => by
  rcases List.mem_cons.mp hp with e | hp
  · exact h p (e ▸ .head _)
  rcases List.mem_cons.mp hp with e | hp
  · rw [e]; exact h (d, o') (.tail _ (.head _))
  · exact h p (.tail _ (.tail _ hp))
theorem rnm_subA {α : Type} {x a d e : α} {tl r : List α} (h : x ∈ tl ++ d :: r) : x ∈ tl ++ a :: d :: e :: r := by
  simp only [List.mem_append, List.mem_cons] at h ⊢
  rcases h with h | h | h <;> simp [h]
theorem rnm_hitA {prog : Program} {w : World} (RB : RebStmt prog w) {t : T} {v : Value} {im : List (Addr × Obj)} {c' : Addr} {oc' : Obj} {vs' : Array Value} {t' : Tok} (d1 : oc'.data = .fields vs') (d2 : vs'[1]? = some (.str (Str.ofString "renumber.<locals>.change") t')) (hok : t.ok) (ht : TIn im v t) (hsz : t.sz ≤ 400) (hndi : (((c', oc') :: im).map Prod.fst).Nodup) (htab : ((38 : Addr), tabObj #[rawInt 51, rawInt 4, .ref c']) ∈ im) :
    FSpec prog w 43 [v] 25 500 ((c', oc') :: im) (fun r news' => ∃ tl R r' d5 o', r = .ref R ∧ news' = (R, tupN [r', .ref d5] 0) :: (tl ++ ((d5, o') :: (c', oc') :: im)) ∧
      (d5 == sysModules) = false ∧ DictIs prog w o' (T.mapS nval nnxt [] t).2 ∧ TIn (tl ++ im) r' (T.mapS nval nnxt [] t).1 ∧
      Ext ((d5, o') :: (c', oc') :: im) tl ∧ (∀ p ∈ (c', oc') :: im, p.1 < d5) ∧ ∀ p ∈ tl ++ ((d5, o') :: (c', oc') :: im), p.1 < R) := by
  unfold FSpec SpecB
  intro p loose mean mg mb dp un gd cn cs a ccd cl outer A₀ base h₀ L m s Q E B F X N TP C hBs hcs hroom hun ret
  have hC1 : CodeHd base 42 38 := C.2.1
  w_top off
  k_with_none
  (have hfill : PySem.Challenge.rw_ok0008_01 = PySem.Challenge.rw_ok0008_01 ∧ (fun w : World => Mine.hd.heap_39 w.params) = fun w : World => Mine.hd.heap_39 w.params := by (k_fill; exact ⟨rfl, rfl⟩)); clear hfill
  k_with "mem" => (first | (with_reducible assumption) | exact List.Mem.head _ | (refine' List.mem_cons_of_mem _ ?_; k_mem) | (refine' List.mem_append_right _ ?_; k_mem) | (refine' List.mem_append_left _ ?_; k_mem))
  k_with "getMethod ref" => ((k_here; (with_reducible show wpAny _ _ (getMethod (Value.ref _) (PySem.Str.ofString "get") _) _ _ _); k_dflt (refine' d_meth (by (k_asm)) (by (k_mem)) (by (assumption)) (by (assumption)) ?_)))
  k_with "call builtin:dict.get" => ((k_here; k_dflt (refine' d_get2 (by (k_asm)) (by (k_mem)) (by (assumption)) (by (assumption)) ?_); intro _))
  k_with "compareOp NotIn int ref" => ((k_here; k_dflt (refine' d_notin (by (k_asm)) (by (k_mem)) (by (assumption)) (by (assumption)) ?_)))
  k_with "subscriptTail" => ((k_here; (with_reducible show wpAny _ _ (subscriptTail _ _ (Value.ref _) (Value.int _ _)) _ _ _); k_dflt (refine' t_item (by (k_asm)) (by (k_mem)) (by (decide)) (by (decide)) (by (rfl)) (by (rfl)) ?_; k_whole)))
  k_with "call type:tuple" => ((k_here; (with_reducible show wpAny _ _ (call (Value.type _) [Value.ref _]) _ _ _); k_dflt (refine' t_tupleOf (by (k_asm)) (by (k_asm)) (by (k_mem)) (by (assumption)) ?_); intro _ _ _ _ _; (try k_sweep)))
  k_with "newTuple" => ((k_here; k_dflt (refine' t_newTuple (by (k_asm)) (by (k_asm)) (by (first | exact Nat.le_of_ble_eq_true rfl | assumption)) ?_); intro _ _ _ _ _; (try k_sweep)))
  k_with "newList" => ((k_here; k_dflt (refine' t_newList (by (k_asm)) (by (k_asm)) (by (first | exact Nat.le_of_ble_eq_true rfl | assumption)) ?_); intro _ _ _ _ _; (try k_sweep)))
  k_with "compareOp NotIn int ref" => ((k_here; k_dflt (refine' l_notin (by (k_asm)) (by (k_mem)) (by (assumption)) (by (ktr_units)) ?_)))
  k_with "call builtin:list.append" => ((k_here; (with_reducible show wpAny _ _ (call (Value.builtin _) [Value.ref _, _]) _ _ _); k_dflt (refine' l_append (by (k_asm)) (by (k_asm)) (by (k_upd)) (by (assumption)) ?_); intro _ _ _; (try k_sweep)))
  k_with "exec For" => ((k_here; (with_unfolding_all refine' For_invVF (by (k_asm)) (by (exact rfl)) (by (exact rfl)) ?_; k_whole)))
  k_with "eval Name" => ((k_here; (with_reducible show wpAny _ _ (eval (Expr.Name _ _) (envOf _ _ _ _ _)) _ _ _); name_kind "local"; k_dflt (refine' ld (by (k_asm)) (by (assumption)) ?_; k_whole)))
  k_with "eval Name" => ((k_here; (with_reducible show wpAny _ _ (eval (Expr.Name _ _) (envOfC _ _ _ _ _)) _ _ _); name_kind "local"; k_dflt (refine' nameX_L (by (k_asm)) (by (assumption)) ?_ (by (rfl)) (by (rfl)); k_whole)))
  k_with "exec While" => ((k_here; (with_reducible show wpAny _ _ (exec (Stmt.While _ _ _ _) _) _ _ _); refine' stop_of ?_))
  k_with "last exec While" => ((k_here; (with_reducible show wpAny _ _ (exec (Stmt.While _ _ _ _) _) _ _ _); refine' stop_of ?_))
  k_with "newTuple" => ((k_here; k_dflt (refine' t_newTuple (by (k_asm)) (by (k_asm)) (by (first | exact Nat.le_of_ble_eq_true rfl | assumption)) ?_); intro _ _ _ _ _))
  k_with "compareOp NotIn int ref" => ((k_here; k_dflt (first
        | (refine' d_notin1 (by (k_asm)) (by (k_mem)) (by (assumption)) (by (assumption)) (by (assumption)) ?_)
        | (refine' d_notin0 (by (k_asm)) (by (k_mem)) (by (assumption)) (by (assumption)) (by (assumption)) ?_))))
  k_with "call builtin:len" => ((k_here; k_dflt (refine' d_len (by (k_asm)) (by (k_mem)) (by (assumption)) (by (assumption)) (by (assumption)) ?_)))
  k_with "setItem ref int" => ((k_here; k_dflt (refine' d_set (by (k_asm)) (by (k_asm)) (by (k_updF)) (by (assumption)) (by (assumption)) ?_); intro _ _ _ hN9 _; (try dsimp only at hN9); revert hN9; intro _))
  k_with "subscriptTail Name Name ref int" => ((k_here; (with_reducible show wpAny _ _ (subscriptTail _ _ (Value.ref _) (Value.int _ _)) _ _ _); k_dflt (refine' d_item (by (k_asm)) (by (k_mem)) (by (assumption)) (by (assumption)) (by (assumption)) ?_); intro _))
  refine wpAny_call ?_
  k_dflt (refine' code_defC ?k1x13 ?k2x13 ?k3x13 ?k4x13 ?k5x13 ?kAx13 ?kFx13 ?kKx13 ?k6x13 ?k7x13 ?k8x13 ?k9x13 ?kBx13 ?kDx13 ?_ ?c2x13 ?c3x13 ?c4x13; (case kAx13 => exact rfl); (case kFx13 => exact rfl); (case kKx13 => assumption); (case k1x13 => k_asm); (case k2x13 => k_asm); (case k3x13 => k_asm); (case k4x13 => k_asm); (case k5x13 => k_asm); (case k6x13 => k_is); (case k7x13 => k_is); (case k8x13 => ktr_room); (case k9x13 => exact binds_K (by k_in) rfl (by k_is) rfl rfl rfl); (case kBx13 => exact rfl); (case kDx13 => decide +kernel); (case c2x13 => exact rfl); (case c3x13 => exact rfl); (case c4x13 => exact rfl); k_whole; intro g1 L1 h1 tk1 cells1 FG1 F1 N1 Y1 B1 X1 T1 l11; k_cells Y1; (try simp only [List.cons_append, List.nil_append] at N1); (try dsimp only); (try k_lift B1); (try k_fold))
  refine hideE PassesOwn.leaving ?_
  intro EE hPE
  rename_i o1 d11
  replace d11 : o1.data = .cell none := d11
  have hltc : @LT.lt Nat _ c' L1 := l11 (c', oc') (.head _)
  have hoffc : ∀ p ∈ im, p.1 ≠ L1 + 1 := fun p hp => Nat.ne_of_lt (Nat.lt_succ_of_lt (l11 p (.tail _ hp)))
  k_steps
  rename_i d5 h3 o5 lo5 hs5 fs5 hi5 fi5 l5 h2 oc5 dc5 f' ct' dc' h5 tk5 lf h6 F8 N8
  have hd0 : DictIs prog w o5 [] := ⟨[], hi5, fi5⟩
  clear hs5 fs5 hi5 fi5
  have hc5 : @LT.lt Nat _ (L1 + 1) d5 := l5.1
  have hcd : @LT.lt Nat _ c' d5 := l5.2.1
  have hdf : @LT.lt Nat _ d5 f' := lf.1
  have q5 : ∀ x ∈ ((c', oc') :: im).map Prod.fst, x < L1 + 1 := fun x hx => by
    obtain ⟨q, hq, rfl⟩ := List.mem_map.mp hx
    exact Nat.lt_succ_of_lt (l11 q hq)
  have hnd9 : (f' :: d5 :: (L1 + 1) :: ((c', oc') :: im).map Prod.fst).Nodup := by
    have a1 : ∀ y ∈ (L1 + 1) :: ((c', oc') :: im).map Prod.fst, y < d5 := fun y hy => by
      rcases List.mem_cons.mp hy with rfl | hy
      · exact hc5
      · exact Nat.lt_trans (q5 y hy) hc5
    refine List.nodup_cons.mpr ⟨fun hm => ?_, List.nodup_cons.mpr ⟨fun hm => absurd (a1 _ hm) (Nat.lt_irrefl _), List.nodup_cons.mpr ⟨fun hm => absurd (q5 _ hm) (Nat.lt_irrefl _), hndi⟩⟩⟩
    have a2 : f' < f' := by
      rcases List.mem_cons.mp hm with e | hm
      · exact Nat.lt_of_le_of_lt (Nat.le_of_eq e) hdf
      · exact Nat.lt_trans (a1 _ hm) hdf
    exact absurd a2 (Nat.lt_irrefl _)
  clear l5 lf
  obtain ⟨sl, hsl, N8⟩ := pickA N8
  have H : Chg prog w f' (fun ps sl' => ∃ o, sl' = sl o ∧ DictIs prog w o ps) nval nnxt List.length 6 100 := by
    refine ⟨?_, nnxt_len, ?_⟩
    · rintro _ _ ⟨o, rfl, _⟩
      rw [hsl]
      exact ⟨_, _, _, _, .head _⟩
    · rintro ps k t _ im' ⟨o, rfl, ho⟩ hb hnd
      rw [hsl] at hnd ⊢
      dsimp only [List.cons_append, List.nil_append, List.map_cons] at hnd ⊢
      have hoffd : ∀ p ∈ im', p.1 ≠ d5 := fun p hp e => (List.nodup_cons.mp (List.nodup_cons.mp hnd).2).1 (.tail _ (.tail _ (List.mem_map.mpr ⟨p, hp, e⟩)))
      unfold FSpec SpecB
      intro p loose mean mg mb dp un gd cn cs a ccd cl outer A₀ base h₀ L m s Q E B F X N TP C hBs hcs hroom hun ret
      have hC1 : CodeHd base 42 38 := C.2.1
      have hz : ps.length ≤ 1000 := by omega
      refine wpAny_call ?_
      (refine' code_nest ?k1x14 ?k2x14 ?k3x14 ?k4x14 ?k5x14 ?kAx14 ?kFx14 ?kKx14 ?k6x14 ?k7x14 ?k8x14 ?k9x14 ?kBx14 ?_ ?c2x14 ?c3x14 ?c4x14 ?c5x14; (case kAx14 => exact rfl); (case kFx14 => exact rfl); (case kKx14 => assumption); (case k1x14 => k_asm); (case k2x14 => k_asm); (case k3x14 => k_asm); (case k4x14 => k_asm); (case k5x14 => k_asm); (case k6x14 => k_mem); (case k7x14 => exact codeRec_news (by k_asm) (by k_mem) (by assumption) (by assumption)); (case k8x14 => (dsimp only [ktrTop] at *; omega)); (case k9x14 => exact BindsTo.of_eq rfl); (case c5x14 => decide); (case kBx14 => exact locs rfl); (case c2x14 => exact rfl); (case c3x14 => exact rfl); (case c4x14 => exact rfl); k_whole; intro _ _ _ _ _ _ hB9 _ _; (try dsimp only); (try k_lift hB9); (try k_fold))
      cases hlk : ps.lookup k with
      | some j =>
        k_steps
        rename News h₀ L _ _ => kN9
        rename (∀ p : Addr × Obj, p ∈ _ → p.1 < _) => w9
        have hv : nval ps k = j := by unfold nval; rw [hlk]; rfl
        have hn : nnxt ps k = ps := by unfold nnxt; rw [hlk]; rfl
        rw [hv, hn] at ret
        exact ret _ _ _ _ (by assumption) kN9 ⟨_, _, _, _, [_, _, _, _], rfl, rfl, ⟨o, rfl, ho⟩, rfl, w9⟩
      | none =>
        have hlk2 := lookup_snoc (v := ps.length) hlk
        rw [← put_new hlk] at hlk2
        k_steps
        rename News h₀ L _ _ => kN9
        rename (∀ p : Addr × Obj, p ∈ _ → p.1 < _) => w9
        rename DictIs prog w _ (put _ _ _) => ho9
        have hv : nval ps k = ps.length := by unfold nval; rw [hlk]; rfl
        have hn : nnxt ps k = put k ps.length ps := by unfold nnxt; rw [hlk, put_new hlk]; rfl
        rw [hv, hn] at ret
        exact ret _ _ _ _ (by assumption) kN9 ⟨_, _, _, _, [_, _, _, _], rfl, rfl, ⟨_, rfl, ho9⟩, rfl, all_updA w9⟩
  have hnd8 : ((sl o5 ++ im).map Prod.fst).Nodup := by rw [hsl]; exact hnd9
  refine SpecB.use (RB (s₀ := []) H hok ht ⟨o5, rfl, hd0⟩ (by show 0 + 2 * t.sz ≤ 900; omega) hnd8) B1 F8 X1 N8 T1 C trivial rfl ?r1 ?r2 ?r3
  case r1 => dsimp only [ktrTop] at *; omega
  case r2 => dsimp only [ktrTop] at *; omega
  case r3 =>
  rintro r news' h' tk' F9 N9 ⟨tl, sl', rfl, e1, e2, ⟨o9, rfl, ho9⟩, e4, e5⟩
  rw [hsl] at N9 e1 e4 e5
  dsimp only [List.cons_append, List.nil_append] at N9 e1 e4 e5
  (try k_unmd); (try k_fold)
  k_steps
  rename News h₀ L _ _ => kN9
  rename (∀ p : Addr × Obj, p ∈ _ → p.1 < _) => w9
  refine ret _ _ _ _ (by assumption) (news_sub kN9 ?w1) ⟨tl, _, r, d5, o9, rfl, rfl, lo5, ho9, e2, e1.adr ?w2, fun p hp => Nat.lt_trans (q5 p.1 (List.mem_map_of_mem hp)) hc5, fun p hp => w9 p (rnm_subA hp)⟩
  case w1 =>
    intro p hp
    rcases List.mem_cons.mp hp with e | hp
    · exact e ▸ .head _
    · exact .tail _ (rnm_subA hp)
  case w2 =>
    intro p hp
    rcases List.mem_cons.mp hp with rfl | hp
    · exact ⟨(d5, o5), .tail _ (.head _), rfl⟩
    · exact ⟨p, .tail _ (.tail _ (.tail _ hp)), rfl⟩
end

end
section

section

theorem pickB {g h : Heap} {L : Addr} {a c e : Addr × Obj} {d : Addr} {o : Obj} {r : List (Addr × Obj)} (N : News g L h (a :: c :: (d, o) :: e :: r)) : ∃ sl, sl = (fun o => [a, c, (d, o), e]) ∧ News g L h (sl o ++ r) := ⟨_, rfl, N⟩
theorem all_updB {d x : Addr} {o o' : Obj} {a b : Addr × Obj} {r : List (Addr × Obj)} (h : ∀ p ∈ a :: b :: (d, o') :: r, p.1 < x) : ∀ p ∈ a :: b :: (d, o) :: r, p.1 < x := fun p hp => by
  rcases List.mem_cons.mp hp with e | hp
  · exact h p (e ▸ .head _)
  rcases List.mem_cons.mp hp with e | hp
  · exact h p (e ▸ .tail _ (.head _))
  rcases List.mem_cons.mp hp with e | hp
  · rw [e]; exact h (d, o') (.tail _ (.tail _ (.head _)))
  · exact h p (.tail _ (.tail _ (.tail _ hp)))
theorem rnm_subB {α : Type} {x a b : α} {tl r : List α} (h : x ∈ tl ++ r) : x ∈ tl ++ a :: b :: r := by
  simp only [List.mem_append, List.mem_cons] at h ⊢
  rcases h with h | h <;> simp [h]
theorem rnm_hitB {prog : Program} {w : World} (RB : RebStmt prog w) {t : T} {v : Value} {im : List (Addr × Obj)} {c' d5 : Addr} {oc' o5 : Obj} {vs' : Array Value} {t' : Tok} {ps0 : List (Int × Int)} (d1 : oc'.data = .fields vs') (d2 : vs'[1]? = some (.str (Str.ofString "renumber.<locals>.change") t')) (hok : t.ok) (ht : TIn im v t) (hsz : ps0.length + 2 * t.sz ≤ 900) (lo5 : (d5 == sysModules) = false) (hd0 : DictIs prog w o5 ps0) (hndi : (((d5, o5) :: (c', oc') :: im).map Prod.fst).Nodup) (htab : ((38 : Addr), tabObj #[rawInt 51, rawInt 4, .ref c']) ∈ im) :
    FSpec prog w 43 [v, .ref d5] 25 500 ((d5, o5) :: (c', oc') :: im) (fun r news' => ∃ tl R r' o', r = .ref R ∧ news' = (R, tupN [r', .ref d5] 0) :: (tl ++ ((d5, o') :: (c', oc') :: im)) ∧
      DictIs prog w o' (T.mapS nval nnxt ps0 t).2 ∧ TIn (tl ++ im) r' (T.mapS nval nnxt ps0 t).1 ∧
      Ext ((d5, o5) :: (c', oc') :: im) tl ∧ ∀ p ∈ tl ++ ((d5, o') :: (c', oc') :: im), p.1 < R) := by
  unfold FSpec SpecB
  intro p loose mean mg mb dp un gd cn cs a ccd cl outer A₀ base h₀ L m s Q E B F X N TP C hBs hcs hroom hun ret
  have hC1 : CodeHd base 42 38 := C.2.1
  w_top off
  k_with_none
  (have hfill : PySem.Challenge.rw_ok0008_01 = PySem.Challenge.rw_ok0008_01 ∧ (fun w : World => Mine.hd.heap_39 w.params) = fun w : World => Mine.hd.heap_39 w.params := by (k_fill; exact ⟨rfl, rfl⟩)); clear hfill
  k_with "mem" => (first | (with_reducible assumption) | exact List.Mem.head _ | (refine' List.mem_cons_of_mem _ ?_; k_mem) | (refine' List.mem_append_right _ ?_; k_mem) | (refine' List.mem_append_left _ ?_; k_mem))
  k_with "getMethod ref" => ((k_here; (with_reducible show wpAny _ _ (getMethod (Value.ref _) (PySem.Str.ofString "get") _) _ _ _); k_dflt (refine' d_meth (by (k_asm)) (by (k_mem)) (by (assumption)) (by (assumption)) ?_)))
  k_with "call builtin:dict.get" => ((k_here; k_dflt (refine' d_get2 (by (k_asm)) (by (k_mem)) (by (assumption)) (by (assumption)) ?_); intro _))
  k_with "compareOp NotIn int ref" => ((k_here; k_dflt (refine' d_notin (by (k_asm)) (by (k_mem)) (by (assumption)) (by (assumption)) ?_)))
  k_with "subscriptTail" => ((k_here; (with_reducible show wpAny _ _ (subscriptTail _ _ (Value.ref _) (Value.int _ _)) _ _ _); k_dflt (refine' t_item (by (k_asm)) (by (k_mem)) (by (decide)) (by (decide)) (by (rfl)) (by (rfl)) ?_; k_whole)))
  k_with "call type:tuple" => ((k_here; (with_reducible show wpAny _ _ (call (Value.type _) [Value.ref _]) _ _ _); k_dflt (refine' t_tupleOf (by (k_asm)) (by (k_asm)) (by (k_mem)) (by (assumption)) ?_); intro _ _ _ _ _; (try k_sweep)))
  k_with "newTuple" => ((k_here; k_dflt (refine' t_newTuple (by (k_asm)) (by (k_asm)) (by (first | exact Nat.le_of_ble_eq_true rfl | assumption)) ?_); intro _ _ _ _ _; (try k_sweep)))
  k_with "newList" => ((k_here; k_dflt (refine' t_newList (by (k_asm)) (by (k_asm)) (by (first | exact Nat.le_of_ble_eq_true rfl | assumption)) ?_); intro _ _ _ _ _; (try k_sweep)))
  k_with "compareOp NotIn int ref" => ((k_here; k_dflt (refine' l_notin (by (k_asm)) (by (k_mem)) (by (assumption)) (by (ktr_units)) ?_)))
  k_with "call builtin:list.append" => ((k_here; (with_reducible show wpAny _ _ (call (Value.builtin _) [Value.ref _, _]) _ _ _); k_dflt (refine' l_append (by (k_asm)) (by (k_asm)) (by (k_upd)) (by (assumption)) ?_); intro _ _ _; (try k_sweep)))
  k_with "exec For" => ((k_here; (with_unfolding_all refine' For_invVF (by (k_asm)) (by (exact rfl)) (by (exact rfl)) ?_; k_whole)))
  k_with "eval Name" => ((k_here; (with_reducible show wpAny _ _ (eval (Expr.Name _ _) (envOf _ _ _ _ _)) _ _ _); name_kind "local"; k_dflt (refine' ld (by (k_asm)) (by (assumption)) ?_; k_whole)))
  k_with "eval Name" => ((k_here; (with_reducible show wpAny _ _ (eval (Expr.Name _ _) (envOfC _ _ _ _ _)) _ _ _); name_kind "local"; k_dflt (refine' nameX_L (by (k_asm)) (by (assumption)) ?_ (by (rfl)) (by (rfl)); k_whole)))
  k_with "exec While" => ((k_here; (with_reducible show wpAny _ _ (exec (Stmt.While _ _ _ _) _) _ _ _); refine' stop_of ?_))
  k_with "last exec While" => ((k_here; (with_reducible show wpAny _ _ (exec (Stmt.While _ _ _ _) _) _ _ _); refine' stop_of ?_))
  k_with "newTuple" => ((k_here; k_dflt (refine' t_newTuple (by (k_asm)) (by (k_asm)) (by (first | exact Nat.le_of_ble_eq_true rfl | assumption)) ?_); intro _ _ _ _ _))
  k_with "compareOp NotIn int ref" => ((k_here; k_dflt (first
        | (refine' d_notin1 (by (k_asm)) (by (k_mem)) (by (assumption)) (by (assumption)) (by (assumption)) ?_)
        | (refine' d_notin0 (by (k_asm)) (by (k_mem)) (by (assumption)) (by (assumption)) (by (assumption)) ?_))))
  k_with "call builtin:len" => ((k_here; k_dflt (refine' d_len (by (k_asm)) (by (k_mem)) (by (assumption)) (by (assumption)) (by (assumption)) ?_)))
  k_with "setItem ref int" => ((k_here; k_dflt (refine' d_set (by (k_asm)) (by (k_asm)) (by (k_updF)) (by (assumption)) (by (assumption)) ?_); intro _ _ _ hN9 _; (try dsimp only at hN9); revert hN9; intro _))
  k_with "subscriptTail Name Name ref int" => ((k_here; (with_reducible show wpAny _ _ (subscriptTail _ _ (Value.ref _) (Value.int _ _)) _ _ _); k_dflt (refine' d_item (by (k_asm)) (by (k_mem)) (by (assumption)) (by (assumption)) (by (assumption)) ?_); intro _))
  refine wpAny_call ?_
  k_dflt (refine' code_defC ?k1x15 ?k2x15 ?k3x15 ?k4x15 ?k5x15 ?kAx15 ?kFx15 ?kKx15 ?k6x15 ?k7x15 ?k8x15 ?k9x15 ?kBx15 ?kDx15 ?_ ?c2x15 ?c3x15 ?c4x15; (case kAx15 => exact rfl); (case kFx15 => exact rfl); (case kKx15 => assumption); (case k1x15 => k_asm); (case k2x15 => k_asm); (case k3x15 => k_asm); (case k4x15 => k_asm); (case k5x15 => k_asm); (case k6x15 => k_is); (case k7x15 => k_is); (case k8x15 => ktr_room); (case k9x15 => exact binds_K (by k_in) rfl (by k_is) rfl rfl rfl); (case kBx15 => exact rfl); (case kDx15 => decide +kernel); (case c2x15 => exact rfl); (case c3x15 => exact rfl); (case c4x15 => exact rfl); k_whole; intro g1 L1 h1 tk1 cells1 FG1 F1 N1 Y1 B1 X1 T1 l11; k_cells Y1; (try simp only [List.cons_append, List.nil_append] at N1); (try dsimp only); (try k_lift B1); (try k_fold))
  refine hideE PassesOwn.leaving ?_
  intro EE hPE
  rename_i o1 d11
  replace d11 : o1.data = .cell none := d11
  have hltd : @LT.lt Nat _ d5 L1 := l11 (d5, o5) (.head _)
  have hltc : @LT.lt Nat _ c' L1 := l11 (c', oc') (.tail _ (.head _))
  have hoffc : ∀ p ∈ im, p.1 ≠ L1 + 1 := fun p hp => Nat.ne_of_lt (Nat.lt_succ_of_lt (l11 p (.tail _ (.tail _ hp))))
  k_steps
  rename_i h2 oc5 dc5 f' ct' dc' h5 tk5 lf h6 F8 N8
  have hdf : @LT.lt Nat _ (L1 + 1) f' := lf.1
  have hcd : ¬ ((c' : Nat) = (d5 : Nat)) := fun e => (List.nodup_cons.mp hndi).1 (e ▸ .head _)
  have q5 : ∀ x ∈ ((d5, o5) :: (c', oc') :: im).map Prod.fst, x < L1 + 1 := fun x hx => by
    obtain ⟨q, hq, rfl⟩ := List.mem_map.mp hx
    exact Nat.lt_succ_of_lt (l11 q hq)
  have hnd9 : (f' :: (L1 + 1) :: ((d5, o5) :: (c', oc') :: im).map Prod.fst).Nodup := by
    refine List.nodup_cons.mpr ⟨fun hm => ?_, List.nodup_cons.mpr ⟨fun hm => absurd (q5 _ hm) (Nat.lt_irrefl _), hndi⟩⟩
    have a2 : f' < f' := by
      rcases List.mem_cons.mp hm with e | hm
      · exact Nat.lt_of_le_of_lt (Nat.le_of_eq e) hdf
      · exact Nat.lt_trans (q5 _ hm) hdf
    exact absurd a2 (Nat.lt_irrefl _)
  clear lf
  obtain ⟨sl, hsl, N8⟩ := pickB N8
  have H : Chg prog w f' (fun ps sl' => ∃ o, sl' = sl o ∧ DictIs prog w o ps) nval nnxt List.length 6 100 := by
    refine ⟨?_, nnxt_len, ?_⟩
    · rintro _ _ ⟨o, rfl, _⟩
      rw [hsl]
      exact ⟨_, _, _, _, .head _⟩
    · rintro ps k t _ im' ⟨o, rfl, ho⟩ hb hnd
      rw [hsl] at hnd ⊢
      dsimp only [List.cons_append, List.nil_append, List.map_cons] at hnd ⊢
      have hoffd : ∀ p ∈ im', p.1 ≠ d5 := fun p hp e => (List.nodup_cons.mp (List.nodup_cons.mp (List.nodup_cons.mp hnd).2).2).1 (.tail _ (List.mem_map.mpr ⟨p, hp, e⟩))
      unfold FSpec SpecB
      intro p loose mean mg mb dp un gd cn cs a ccd cl outer A₀ base h₀ L m s Q E B F X N TP C hBs hcs hroom hun ret
      have hC1 : CodeHd base 42 38 := C.2.1
      have hz : ps.length ≤ 1000 := by omega
      refine wpAny_call ?_
      (refine' code_nest ?k1x16 ?k2x16 ?k3x16 ?k4x16 ?k5x16 ?kAx16 ?kFx16 ?kKx16 ?k6x16 ?k7x16 ?k8x16 ?k9x16 ?kBx16 ?_ ?c2x16 ?c3x16 ?c4x16 ?c5x16; (case kAx16 => exact rfl); (case kFx16 => exact rfl); (case kKx16 => assumption); (case k1x16 => k_asm); (case k2x16 => k_asm); (case k3x16 => k_asm); (case k4x16 => k_asm); (case k5x16 => k_asm); (case k6x16 => k_mem); (case k7x16 => exact codeRec_news (by k_asm) (by k_mem) (by assumption) (by assumption)); (case k8x16 => (dsimp only [ktrTop] at *; omega)); (case k9x16 => exact BindsTo.of_eq rfl); (case c5x16 => decide); (case kBx16 => exact locs rfl); (case c2x16 => exact rfl); (case c3x16 => exact rfl); (case c4x16 => exact rfl); k_whole; intro _ _ _ _ _ _ hB9 _ _; (try dsimp only); (try k_lift hB9); (try k_fold))
      cases hlk : ps.lookup k with
      | some j =>
        k_steps
        rename News h₀ L _ _ => kN9
        rename (∀ p : Addr × Obj, p ∈ _ → p.1 < _) => w9
        have hv : nval ps k = j := by unfold nval; rw [hlk]; rfl
        have hn : nnxt ps k = ps := by unfold nnxt; rw [hlk]; rfl
        rw [hv, hn] at ret
        exact ret _ _ _ _ (by assumption) kN9 ⟨_, _, _, _, [_, _, _, _], rfl, rfl, ⟨o, rfl, ho⟩, rfl, w9⟩
      | none =>
        have hlk2 := lookup_snoc (v := ps.length) hlk
        rw [← put_new hlk] at hlk2
        k_steps
        rename News h₀ L _ _ => kN9
        rename (∀ p : Addr × Obj, p ∈ _ → p.1 < _) => w9
        rename DictIs prog w _ (put _ _ _) => ho9
        have hv : nval ps k = ps.length := by unfold nval; rw [hlk]; rfl
        have hn : nnxt ps k = put k ps.length ps := by unfold nnxt; rw [hlk, put_new hlk]; rfl
        rw [hv, hn] at ret
        exact ret _ _ _ _ (by assumption) kN9 ⟨_, _, _, _, [_, _, _, _], rfl, rfl, ⟨_, rfl, ho9⟩, rfl, all_updB w9⟩
  have hnd8 : ((sl o5 ++ im).map Prod.fst).Nodup := by rw [hsl]; exact hnd9
  refine SpecB.use (RB (s₀ := ps0) H hok ht ⟨o5, rfl, hd0⟩ hsz hnd8) B1 F8 X1 N8 T1 C trivial rfl ?r1 ?r2 ?r3
  case r1 => dsimp only [ktrTop] at *; omega
  case r2 => dsimp only [ktrTop] at *; omega
  case r3 =>
  rintro r news' h' tk' F9 N9 ⟨tl, sl', rfl, e1, e2, ⟨o9, rfl, ho9⟩, e4, e5⟩
  rw [hsl] at N9 e1 e4 e5
  dsimp only [List.cons_append, List.nil_append] at N9 e1 e4 e5
  (try k_unmd); (try k_fold)
  k_steps
  rename News h₀ L _ _ => kN9
  rename (∀ p : Addr × Obj, p ∈ _ → p.1 < _) => w9
  refine ret _ _ _ _ (by assumption) (news_sub kN9 ?w1) ⟨tl, _, r, o9, rfl, rfl, ho9, e2, e1.sub fun p hp => .tail _ (.tail _ hp), fun p hp => w9 p (rnm_subB hp)⟩
  case w1 =>
    intro p hp
    rcases List.mem_cons.mp hp with e | hp
    · exact e ▸ .head _
    · exact .tail _ (rnm_subB hp)
end

end
section
open PySem PySem.Spec PySem.Calls PySem.W PyProof.Rows PyProof.V
section
variable {prog : Program} {w : World}
theorem app_mem {α : Type} {tl A B : List α} (h : ∀ p ∈ A, p ∈ B) : ∀ p ∈ tl ++ A, p ∈ tl ++ B := fun p hp => by
  rcases List.mem_append.mp hp with q | q
  · exact List.mem_append_left _ q
  · exact List.mem_append_right _ (h p q)
theorem cons_mem {α : Type} {a : α} {A B : List α} (h : ∀ p ∈ A, p ∈ B) : ∀ p ∈ a :: A, p ∈ a :: B := fun p hp => by
  rcases List.mem_cons.mp hp with q | q
  · exact q ▸ .head _
  · exact .tail _ (h p q)
theorem TIn.drop {tl A : List (Addr × Obj)} {x : Addr × Obj} {v : Value} {t : T} (hx : ¬ IsTp x.2) (h : TIn (tl ++ x :: A) v t) : TIn (tl ++ A) v t :=
  h.tup fun p hp q => by
    rcases List.mem_append.mp hp with k | k
    · exact List.mem_append_left _ k
    · rcases List.mem_cons.mp k with e | k
      · subst e; exact absurd q hx
      · exact List.mem_append_right _ k
/-- rename's first call: it lays its inner code in the table -/
theorem ren_first (RB : RebStmt prog w) {t : T} {v : Value} {o : Int} {u : Tok} {im : List (Addr × Obj)} (hok : t.ok) (ht : TIn im v t) (hsz : t.sz ≤ 400) (hoff : ∀ p ∈ im, p.1 ≠ (45 : Nat)) :
    FSpec prog w 50 [v, .int o u] 20 400 ((45, tabObj #[]) :: im) (fun r news' => ∃ tl c' oc vs t', news' = tl ++ ((c', oc) :: (45, tabObj #[rawInt 58, rawInt 4, .ref c']) :: im) ∧ oc.data = .fields vs ∧ vs[1]? = some (.str (Str.ofString "rename.<locals>.change") t') ∧
      Ext ((c', oc) :: (45, tabObj #[rawInt 58, rawInt 4, .ref c']) :: im) tl ∧ TIn (tl ++ im) r (t.map (· + o)) ∧ (∀ p ∈ im, p.1 < c') ∧ (45 : Nat) < c') := by
  intro p loose mean mg mb dp un gd cn cs a ccd cl outer A₀ base h₀ L m s Q E B F X N TP C hBs hcs hroom hun ret
  obtain ⟨im2, hm, hnd⟩ := news_norm (fun p hp => N p (.tail _ hp) : News h₀ L s.heap im)
  have hoff2 : ∀ p ∈ im2, p.1 ≠ (45 : Nat) := fun p hp => hoff p ((hm p).mp hp)
  have hnd2 : ((45 : Addr) :: im2.map Prod.fst).Nodup := List.nodup_cons.mpr ⟨fun q => by obtain ⟨x, hx, e⟩ := List.mem_map.mp q; exact hoff2 x hx e, hnd⟩
  refine SpecB.use (ren_try hok (DatIn.mono (fun p hp => (hm p).mpr hp) ht) RB hsz hnd2 hoff2) B F X (news_sub N (cons_mem fun p hp => (hm p).mp hp)) TP C hBs hcs hroom hun ?_
  rintro r news' h' tk' F' N' ⟨tl, c', oc, vs, t', rfl, e1, e2, e3, e4, e5, e6⟩
  have hs := cons_mem (a := (c', oc)) (cons_mem (a := ((45 : Addr), tabObj #[rawInt 58, rawInt 4, .ref c'])) fun p hp => (hm p).mpr hp)
  refine ret _ _ _ _ F' (news_sub N' (app_mem hs)) ⟨tl, c', oc, vs, t', rfl, e1, e2, e3.sub hs, ?_, fun p hp => e5 p ((hm p).mpr hp), e6⟩
  rw [← ren_shift]
  exact DatIn.mono (app_mem fun p hp => (hm p).mp hp) (e4.drop not_tp_tab)
theorem rnm_first (RB : RebStmt prog w) {t : T} {v : Value} {im : List (Addr × Obj)} (hok : t.ok) (ht : TIn im v t) (hsz : t.sz ≤ 400) (hoff : ∀ p ∈ im, p.1 ≠ (38 : Nat)) :
    FSpec prog w 43 [v] 25 500 ((38, tabObj #[]) :: im) (fun r news' => ∃ tl R r' d5 o' c' oc vs t', r = .ref R ∧ news' = (R, tupN [r', .ref d5] 0) :: (tl ++ ((d5, o') :: (c', oc) :: (38, tabObj #[rawInt 51, rawInt 4, .ref c']) :: im)) ∧
      oc.data = .fields vs ∧ vs[1]? = some (.str (Str.ofString "renumber.<locals>.change") t') ∧ (d5 == sysModules) = false ∧ DictIs prog w o' (T.mapS nval nnxt [] t).2 ∧ TIn (tl ++ im) r' (T.mapS nval nnxt [] t).1 ∧
      Ext ((d5, o') :: (c', oc) :: (38, tabObj #[rawInt 51, rawInt 4, .ref c']) :: im) tl ∧ (∀ p ∈ (38, tabObj #[]) :: im, p.1 < d5) ∧ d5 < c' ∧ ∀ p ∈ tl ++ ((d5, o') :: (c', oc) :: (38, tabObj #[rawInt 51, rawInt 4, .ref c']) :: im), p.1 < R) := by
  intro p loose mean mg mb dp un gd cn cs a ccd cl outer A₀ base h₀ L m s Q E B F X N TP C hBs hcs hroom hun ret
  obtain ⟨im2, hm, hnd⟩ := news_norm (fun p hp => N p (.tail _ hp) : News h₀ L s.heap im)
  have hoff2 : ∀ p ∈ im2, p.1 ≠ (38 : Nat) := fun p hp => hoff p ((hm p).mp hp)
  have hnd2 : ((38 : Addr) :: im2.map Prod.fst).Nodup := List.nodup_cons.mpr ⟨fun q => by obtain ⟨x, hx, e⟩ := List.mem_map.mp q; exact hoff2 x hx e, hnd⟩
  refine SpecB.use (rnm_try RB hok (DatIn.mono (fun p hp => (hm p).mpr hp) ht) hsz hnd2) B F X (news_sub N (cons_mem fun p hp => (hm p).mp hp)) TP C hBs hcs hroom hun ?_
  rintro r news' h' tk' F' N' ⟨tl, R, r', d5, o', c', oc, vs, t', rfl, rfl, e1, e2, e3, e4, e5, e6, e7, e8, e9⟩
  have hs := cons_mem (a := (d5, o')) (cons_mem (a := (c', oc)) (cons_mem (a := ((38 : Addr), tabObj #[rawInt 51, rawInt 4, .ref c'])) fun p hp => (hm p).mpr hp))
  exact ret _ _ _ _ F' (news_sub N' (cons_mem (app_mem hs))) ⟨tl, R, r', d5, o', c', oc, vs, t', rfl, rfl, e1, e2, e3, e4, DatIn.mono (app_mem fun p hp => (hm p).mp hp) (e5.drop not_tp_tab), e6.sub hs, fun p hp => e7 p (cons_mem (fun p hp => (hm p).mpr hp) p hp), e8, fun p hp => e9 p (app_mem hs p hp)⟩
theorem tab_ne {c' : Addr} {oc' : Obj} {vs' : Array Value} {t' : Tok} {q : Str} {b : Addr} {i j : Int} (d1 : oc'.data = .fields vs') (d2 : vs'[1]? = some (.str q t')) : (b, tabObj #[rawInt i, rawInt j, .ref c']) ≠ (c', oc') := fun e => by
  have e2 : tabObj #[rawInt i, rawInt j, .ref c'] = oc' := congrArg Prod.snd e
  subst e2
  cases d1
  cases d2
/-- renumber without a table, once its inner code is laid -/
theorem rnm_spec (RB : RebStmt prog w) {t : T} {v : Value} {news : List (Addr × Obj)} {c' : Addr} {oc' : Obj} {vs' : Array Value} {t' : Tok} (d1 : oc'.data = .fields vs') (d2 : vs'[1]? = some (.str (Str.ofString "renumber.<locals>.change") t')) (hok : t.ok) (ht : TIn news v t) (hsz : t.sz ≤ 400) (hc : (c', oc') ∈ news) (htab : ((38 : Addr), tabObj #[rawInt 51, rawInt 4, .ref c']) ∈ news) :
    FSpec prog w 43 [v] 25 500 news (fun r news' => ∃ tl R r' d5 o', r = .ref R ∧ news' = (R, tupN [r', .ref d5] 0) :: (tl ++ ((d5, o') :: news)) ∧
      (d5 == sysModules) = false ∧ DictIs prog w o' (T.mapS nval nnxt [] t).2 ∧ TIn (tl ++ news) r' (T.mapS nval nnxt [] t).1 ∧
      Ext ((d5, o') :: news) tl ∧ (∀ p ∈ news, p.1 < d5) ∧ ∀ p ∈ tl ++ ((d5, o') :: news), p.1 < R) := by
  intro p loose mean mg mb dp un gd cn cs a ccd cl outer A₀ base h₀ L m s Q E B F X N TP C hBs hcs hroom hun ret
  obtain ⟨im, hmem, hnd, N'⟩ := news_split N hc
  have htab' : ((38 : Addr), tabObj #[rawInt 51, rawInt 4, .ref c']) ∈ im := by
    rcases List.mem_cons.mp ((hmem _).mpr htab) with e | h
    · exact absurd e (tab_ne d1 d2)
    · exact h
  have ht' : TIn im v t := ht.tup fun q hq htp => by
    rcases List.mem_cons.mp ((hmem _).mpr hq) with e | h
    · subst e; exact absurd htp (not_tp_fields d1)
    · exact h
  refine SpecB.use (rnm_hitA RB d1 d2 hok ht' hsz hnd htab') B F X N' TP C hBs hcs hroom hun ?_
  rintro r news' h' tk' F' N' ⟨tl, R, r', d5, o', rfl, rfl, e3, e4, e5, e6, e7, e9⟩
  have hs : ∀ q ∈ news, q ∈ (c', oc') :: im := fun q hq => (hmem q).mpr hq
  exact ret _ _ _ _ F' (news_sub N' (cons_mem (app_mem (cons_mem hs)))) ⟨tl, R, r', d5, o', rfl, rfl, e3, e4, DatIn.mono (app_mem fun q hq => (hmem q).mp (.tail _ hq)) e5, e6.sub (cons_mem hs), fun p hp => e7 p (hs p hp), fun p hp => e9 p (app_mem (cons_mem hs) p hp)⟩
/-- renumber with a table -/
theorem rnm_specT (RB : RebStmt prog w) {t : T} {v : Value} {im : List (Addr × Obj)} {c' d5 : Addr} {oc' o5 : Obj} {vs' : Array Value} {t' : Tok} {ps0 : List (Int × Int)} (d1 : oc'.data = .fields vs') (d2 : vs'[1]? = some (.str (Str.ofString "renumber.<locals>.change") t')) (hok : t.ok) (ht : TIn im v t) (hsz : ps0.length + 2 * t.sz ≤ 900) (lo5 : (d5 == sysModules) = false) (hd0 : DictIs prog w o5 ps0) (hoff : ∀ p ∈ im, p.1 ≠ d5) (hc : (c', oc') ∈ im) (htab : ((38 : Addr), tabObj #[rawInt 51, rawInt 4, .ref c']) ∈ im) :
    FSpec prog w 43 [v, .ref d5] 25 500 ((d5, o5) :: im) (fun r news' => ∃ tl R r' o', r = .ref R ∧ news' = (R, tupN [r', .ref d5] 0) :: (tl ++ ((d5, o') :: im)) ∧
      DictIs prog w o' (T.mapS nval nnxt ps0 t).2 ∧ TIn (tl ++ im) r' (T.mapS nval nnxt ps0 t).1 ∧
      Ext ((d5, o5) :: im) tl ∧ ∀ p ∈ tl ++ ((d5, o') :: im), p.1 < R) := by
  intro p loose mean mg mb dp un gd cn cs a ccd cl outer A₀ base h₀ L m s Q E B F X N TP C hBs hcs hroom hun ret
  obtain ⟨im2, hmem, hnd, N'⟩ := news_split (fun p hp => N p (.tail _ hp) : News h₀ L s.heap im) hc
  have htab' : ((38 : Addr), tabObj #[rawInt 51, rawInt 4, .ref c']) ∈ im2 := by
    rcases List.mem_cons.mp ((hmem _).mpr htab) with e | h
    · exact absurd e (tab_ne d1 d2)
    · exact h
  have ht' : TIn im2 v t := ht.tup fun q hq htp => by
    rcases List.mem_cons.mp ((hmem _).mpr hq) with e | h
    · subst e; exact absurd htp (not_tp_fields d1)
    · exact h
  have hnd2 : (((d5, o5) :: (c', oc') :: im2).map Prod.fst).Nodup := List.nodup_cons.mpr ⟨fun q => by obtain ⟨x, hx, e⟩ := List.mem_map.mp q; exact hoff x ((hmem x).mp hx) e, hnd⟩
  have hs : ∀ q ∈ im, q ∈ (c', oc') :: im2 := fun q hq => (hmem q).mpr hq
  refine SpecB.use (rnm_hitB RB d1 d2 hok ht' hsz lo5 hd0 hnd2 htab') B F X (news_sub N (cons_mem fun q hq => (hmem q).mp hq)) TP C hBs hcs hroom hun ?_
  rintro r news' h' tk' F' N' ⟨tl, R, r', o', rfl, rfl, e4, e5, e6, e9⟩
  exact ret _ _ _ _ F' (news_sub N' (cons_mem (app_mem (cons_mem hs)))) ⟨tl, R, r', o', rfl, rfl, e4, DatIn.mono (app_mem fun q hq => (hmem q).mp (.tail _ hq)) e5, e6.sub (cons_mem hs), fun p hp => e9 p (app_mem (cons_mem hs) p hp)⟩
end

end
section

section

set_option maxHeartbeats 40000000 in
theorem var_spec {prog : Program} {w : World} {f g : Int → Int} {u : T} {va vb : Value} {im : List (Addr × Obj)} (hok : u.ok) (hta : TIn im va (u.map f)) (htb : TIn im vb (u.map g)) (hsz : u.sz ≤ 400) :
    FSpec prog w 57 [va, vb] 10 200 im (fun r news' => ∃ b, r = .bool b ∧ news' = im ∧ (b = true ↔ Cons f g u.occ)) := by
  unfold FSpec SpecB
  intro p loose mean mg mb dp un gd cn cs a ccd cl outer A₀ base h₀ L m s Q E B F X N TP C hBs hcs hroom hun ret
  w_top off
  k_with_none
  (have hfill : PySem.Challenge.rw_ok0008_01 = PySem.Challenge.rw_ok0008_01 ∧ (fun w : World => Mine.hd.heap_39 w.params) = fun w : World => Mine.hd.heap_39 w.params := by (k_fill; exact ⟨rfl, rfl⟩)); clear hfill
  k_with "mem" => (first | (with_reducible assumption) | exact List.Mem.head _ | (refine' List.mem_cons_of_mem _ ?_; k_mem) | (refine' List.mem_append_right _ ?_; k_mem) | (refine' List.mem_append_left _ ?_; k_mem))
  k_with "mm" => (first | (with_reducible assumption) | (with_reducible exact List.mem_cons_self) | (refine' List.mem_cons_of_mem _ ?_; k_extra "mm") | (refine' List.mem_append_right _ ?_; k_extra "mm") | (refine' List.mem_append_left _ ?_; k_extra "mm"))
  k_with "eval Name" => (k_here; (with_reducible show wpAny _ _ (eval (Expr.Name _ _) (envOf _ _ _ _ _)) _ _ _); k_dflt (first
        | (name_kind "local"; refine' ld (by k_asm) (by exact rfl) ?_; k_whole)
        | (name_kind "globalImplicit"; refine' name_K (by k_asm) (by k_asm) (by k_asm) (by k_is) ?_; k_whole)
        | (name_kind "globalImplicit"; refine' name_B (by k_asm) (by k_asm) (by k_asm) (by k_is) (by boot_by_name) (by decide) ?_; k_whole)))
  k_with "getMethod ref" => ((k_here; (with_reducible show wpAny _ _ (getMethod (Value.ref _) (PySem.Str.ofString "get") _) _ _ _); k_dflt (refine' d_meth (by (k_asm)) (by (k_mem)) (by (assumption)) (by (assumption)) ?_)))
  k_with "call builtin:dict.get" => ((k_here; k_dflt (refine' d_get2 (by (k_asm)) (by (k_mem)) (by (assumption)) (by (assumption)) ?_); intro _))
  k_with "compareOp NotIn int ref" => ((k_here; k_dflt (refine' d_notin (by (k_asm)) (by (k_mem)) (by (assumption)) (by (assumption)) ?_)))
  k_with "subscriptTail" => ((k_here; (with_reducible show wpAny _ _ (subscriptTail _ _ (Value.ref _) (Value.int _ _)) _ _ _); k_dflt (refine' t_item (by (k_asm)) (by (k_mem)) (by (decide)) (by (decide)) (by (rfl)) (by (rfl)) ?_; k_whole)))
  k_with "call type:tuple" => ((k_here; (with_reducible show wpAny _ _ (call (Value.type _) [Value.ref _]) _ _ _); k_dflt (refine' t_tupleOf (by (k_asm)) (by (k_asm)) (by (k_mem)) (by (assumption)) ?_); intro _ _ _ _ _; (try k_sweep)))
  k_with "newTuple" => ((k_here; k_dflt (refine' t_newTuple (by (k_asm)) (by (k_asm)) (by (first | exact Nat.le_of_ble_eq_true rfl | assumption)) ?_); intro _ _ _ _ _; (try k_sweep)))
  k_with "newList" => ((k_here; k_dflt (refine' t_newList (by (k_asm)) (by (k_asm)) (by (first | exact Nat.le_of_ble_eq_true rfl | assumption)) ?_); intro _ _ _ _ _; (try k_sweep)))
  k_with "compareOp NotIn int ref" => ((k_here; k_dflt (refine' l_notin (by (k_asm)) (by (k_mem)) (by (assumption)) (by (ktr_units)) ?_)))
  k_with "call builtin:list.append" => ((k_here; (with_reducible show wpAny _ _ (call (Value.builtin _) [Value.ref _, _]) _ _ _); k_dflt (refine' l_append (by (k_asm)) (by (k_asm)) (by (k_upd)) (by (assumption)) ?_); intro _ _ _; (try k_sweep)))
  k_with "exec For" => ((k_here; (with_unfolding_all refine' For_invVF (by (k_asm)) (by (exact rfl)) (by (exact rfl)) ?_; k_whole)))
  k_with "eval Name" => ((k_here; (with_reducible show wpAny _ _ (eval (Expr.Name _ _) (envOf _ _ _ _ _)) _ _ _); name_kind "local"; k_dflt (refine' ld (by (k_asm)) (by (assumption)) ?_; k_whole)))
  k_with "eval Name" => ((k_here; (with_reducible show wpAny _ _ (eval (Expr.Name _ _) (envOfC _ _ _ _ _)) _ _ _); name_kind "local"; k_dflt (refine' nameX_L (by (k_asm)) (by (assumption)) ?_ (by (rfl)) (by (rfl)); k_whole)))
  k_with "exec While" => ((k_here; (with_reducible show wpAny _ _ (exec (Stmt.While _ _ _ _) _) _ _ _); refine' stop_of ?_))
  k_with "last exec While" => ((k_here; (with_reducible show wpAny _ _ (exec (Stmt.While _ _ _ _) _) _ _ _); refine' stop_of ?_))
  k_with "getMethod ref" => (k_here; (with_reducible show wpAny _ _ (getMethod (Value.ref _) (PySem.Str.ofString "pop") _) _ _ _); k_dflt (refine' kl_method (by k_asm) (by k_extra "mm") PySem.F.slot_list_pop PySem.F.type_list_pop ?_))
  k_with "getMethod ref" => (k_here; (with_reducible show wpAny _ _ (getMethod (Value.ref _) (PySem.Str.ofString "append") _) _ _ _); k_dflt (refine' listMethod_K (by k_asm) (by k_extra "mm") PySem.F.slot_list_append PySem.F.type_list_append ?_))
  k_with "pyIter ref" => ((k_here; refine' stop_of ?_))
  k_with "truthy ref" => ((k_here; (with_reducible show wpAny _ _ (truthy (Value.ref _)) _ _ _); k_dflt (refine' x_truthy1 (by (k_asm)) (by (k_mem)) (by (assumption)) ?_); intro _))
  k_with "truthy ref" => ((k_here; (with_reducible show wpAny _ _ (truthy (Value.ref _)) _ _ _); k_dflt (refine' x_truthy0 (by (k_asm)) (by (k_mem)) ?_); intro _))
  k_with "call builtin:list.pop" => ((k_here; (with_reducible show wpAny _ _ (call (Value.builtin _) [Value.ref _]) _ _ _); k_dflt (refine' x_pop (by (k_asm)) (by (k_asm)) (by (k_upd)) (by (assumption)) ?_); intro _ _ _))
  k_with "call builtin:len" => ((k_here; k_dflt (refine' x_lenT (by (k_asm)) (by (k_mem)) (by (assumption)) ?_); intro _ _))
  k_with "newTuple" => ((k_here; k_dflt (refine' t_newTuple (by (k_asm)) (by (k_asm)) (by (first | exact Nat.le_of_ble_eq_true rfl | assumption)) ?_); intro _ _ _ _ _))
  k_with "newList" => ((k_here; k_dflt (refine' t_newList (by (k_asm)) (by (k_asm)) (by (first | exact Nat.le_of_ble_eq_true rfl | assumption)) ?_); intro _ _ _ _ _))
  k_with "setItem ref int" => ((k_here; k_dflt (refine' d_set (by (k_asm)) (by (k_asm)) (by (k_updF)) (by (assumption)) (by (assumption)) ?_); intro _ _ _ hN9 _; (try dsimp only at hN9); revert hN9; intro _))
  k_with "subscriptTail" => ((k_here; (with_reducible show wpAny _ _ (subscriptTail _ _ (Value.ref _) (Value.int (Nat.cast _) _)) _ _ _); (with_unfolding_all refine' x_itemT (by (k_asm)) (by (k_mem)) (by (assumption)) (by (assumption)) ?_; k_whole)))
  obtain ⟨xa, rfl⟩ := hta.ref
  obtain ⟨xb, rfl⟩ := htb.ref
  refine wpAny_call ?_
  k_dflt cell_enter
  rename_i g1 L1 h1 FG1 F1 N1 B1 X1 T1
  k_steps
  rename_i tk0 th h6 o1 l0 lo1 hs1 fs1 hi1 fi1 h5 bk h4 o2 lo2 hs2 fs2 hi2 fi2 l2 h3 P0 h2 l3 st h1' l4 h0 F9 N9
  unfold Stop
  have hd1 : DictIs prog w o1 [] := ⟨[], hi1, fi1⟩
  have hd2 : DictIs prog w o2 [] := ⟨[], hi2, fi2⟩
  clear hs1 fs1 hi1 fi1 hs2 fs2 hi2 fi2
  have q12 : @LT.lt Nat _ th bk := l2.1
  have q2s : @LT.lt Nat _ bk st := l4 (bk, o2) (.tail _ (.head _))
  have q1s : @LT.lt Nat _ th st := l4 (th, o1) (.tail _ (.tail _ (.head _)))
  have q2P : @LT.lt Nat _ bk P0 := l3 (bk, o2) (.head _)
  have q1P : @LT.lt Nat _ th P0 := l3 (th, o1) (.tail _ (.head _))
  have qPs : @LT.lt Nat _ P0 st := l4 (P0, _) (.head _)
  have qi1 : ∀ p ∈ im, p.1 < th := l0
  have hoff0 : ∀ p ∈ (P0, tupN [Value.ref xa, Value.ref xb] 0) :: im, p.1 ≠ st ∧ p.1 ≠ th ∧ p.1 ≠ bk := by
    intro p hp
    rcases List.mem_cons.mp hp with rfl | hp
    · exact ⟨Nat.ne_of_lt qPs, Nat.ne_of_gt q1P, Nat.ne_of_gt q2P⟩
    · have a0 := qi1 p hp
      exact ⟨Nat.ne_of_lt (Nat.lt_trans a0 q1s), Nat.ne_of_lt a0, Nat.ne_of_lt (Nat.lt_trans a0 q12)⟩
  clear l0 l2 l3 l4 F N
  obtain ⟨J, hJ⟩ : ∃ J : Nat → (Str → Option Value) → List (Addr × Obj) → Prop, J = (fun k m' nx => ∃ acc us n1 o1' o2' ps1 ps2 xs im', nx = (st, listOf acc.toArray n1) :: (th, o1') :: (bk, o2') :: im' ∧ PAll f g im' acc us ∧ okT us ∧ DictIs prog w o1' ps1 ∧ DictIs prog w o2' ps2 ∧ VInv f g ps1 ps2 xs ∧
      (∀ x, x ∈ u.occ ↔ x ∈ xs ∨ x ∈ occT us) ∧ ps1.length + szT us ≤ 400 ∧ ps2.length + szT us ≤ 400 ∧ k = szT us ∧ (∀ p ∈ im, p ∈ im') ∧ (∀ p ∈ im', p.1 ≠ st ∧ p.1 ≠ th ∧ p.1 ≠ bk) ∧
      m' (Str.ofString "todo") = some (.ref st) ∧ m' (Str.ofString "there") = some (.ref th) ∧ m' (Str.ofString "back") = some (.ref bk)) := ⟨_, rfl⟩
  refine hideQ ?_
  intro QW hQW
  refine While_inv2 J (news := (st, listOf [Value.ref P0].toArray 0) :: (th, o1) :: (bk, o2) :: (P0, tupN [Value.ref xa, Value.ref xb] 0) :: im) (n₀ := u.sz) F9 (news_sub N9 ?i0) ?j0 ?turn
  case i0 =>
    intro p hp
    simp only [List.mem_cons] at hp ⊢
    rcases hp with h | h | h | h | h <;> simp [h]
  case j0 =>
    rw [hJ]
    refine ⟨[.ref P0], [u], 0, o1, o2, [], [], [], _, rfl, ?_, ?_, hd1, hd2, .nil, ?_, ?_, ?_, ?_, fun p hp => .tail _ hp, hoff0, rfl, rfl, rfl⟩
    · exact PAll.snoc .nil ⟨P0, _, _, _, rfl, .head _, DatIn.mono (fun p hp => .tail _ hp) hta, DatIn.mono (fun p hp => .tail _ hp) htb⟩
    · rw [okT]; exact ⟨hok, by rw [okT]; trivial⟩
    · intro x; simp [occT]
    · simp [szT]; exact hsz
    · simp [szT]; exact hsz
    · simp [szT]
  case turn =>
  intro k m₁ nx h' tk' F' N' hj
  rw [hJ] at hj
  obtain ⟨acc, us, n1, o1', o2', ps1, ps2, xs, im', rfl, hpa, hoku, hd1', hd2', hv, hcov, hz1, hz2, rfl, him, hoff, htodo, hthere, hback⟩ := hj
  have hoffs : ∀ p ∈ im', p.1 ≠ st := fun p hp => (hoff p hp).1
  have hoff1 : ∀ p ∈ im', p.1 ≠ th := fun p hp => (hoff p hp).2.1
  have hoff2 : ∀ p ∈ im', p.1 ≠ bk := fun p hp => (hoff p hp).2.2
  clear hd1 hd2 hoff0 q2P q1P qPs N9 F9
  have hp1 : ps1.length ≤ 1000 := by omega
  have hp2 : ps2.length ≤ 1000 := by omega
  rcases hpa.inv with ⟨rfl, rfl⟩ | ⟨acc', v, us', u', rfl, rfl, hpa', ⟨P, x, y, nP, rfl, hmP, hx, hy⟩⟩
  · subst hQW
    (try k_unmd); (try k_fold)
    k_steps
    rename News h₀ L _ _ => kN9
    refine ret _ _ _ _ (by assumption) (news_sub kN9 fun p hp => .tail _ (.tail _ (.tail _ (him p hp)))) ⟨true, rfl, rfl, fun _ x hx y hy => ?_, fun _ => rfl⟩
    have c1 := (hcov x).mp hx
    have c2 := (hcov y).mp hy
    simp only [occT, List.not_mem_nil, or_false] at c1 c2
    exact hv.cons x c1 y c2
  · have hal : acc'.length ≤ 1000000 := by
      have e1 := hpa'.len
      have e2 := szT_len us'
      rw [szT_append] at hz1
      omega
    rw [szT_append] at hz1 hz2
    have hoku' := (okT_split hoku).1
    have hok' : u'.ok := okT_one (okT_split hoku).2
    have hcov' : ∀ x, x ∈ u.occ ↔ x ∈ xs ∨ x ∈ occT us' ∨ x ∈ u'.occ := fun x => by
      rw [hcov x, occT_append, List.mem_append]; simp [occT]
    have hxs : ∀ x ∈ xs, x ∈ u.occ := fun x hx => (hcov x).mpr (.inl hx)
    cases u' with
    | v k =>
      have e2 : szT [T.v k] = 1 := rfl
      have hku : k ∈ u.occ := (hcov' k).mpr (.inr (.inr (.head _)))
      simp only [T.map] at hx hy
      obtain ⟨ax, t1, t2, nq, rfl, hmx⟩ := in_v hx
      obtain ⟨ay, u1, u2, uq, rfl, hmy⟩ := in_v hy
      (try k_unmd); (try k_fold)
      k_steps
      · subst hQW
        dsimp only [WhileStep2]
        k_steps
        rename News h₀ L _ _ => kN9
        rename ((List.lookup (f k) ps1).getD (g k) ≠ g k) => hc
        exact ret _ _ _ _ (by assumption) (news_sub kN9 fun p hp => .tail _ (.tail _ (.tail _ (him p hp)))) ⟨false, rfl, rfl, fun q => (nomatch q), fun q => absurd q (hv.bad1 hc hku hxs)⟩
      · subst hQW
        dsimp only [WhileStep2]
        k_steps
        rename News h₀ L _ _ => kN9
        rename ((List.lookup (g k) ps2).getD (f k) ≠ f k) => hc
        exact ret _ _ _ _ (by assumption) (news_sub kN9 fun p hp => .tail _ (.tail _ (.tail _ (him p hp)))) ⟨false, rfl, rfl, fun q => (nomatch q), fun q => absurd q (hv.bad2 hc hku hxs)⟩
      · rename News g1 L1 _ _ => kN9
        rename Fr g1 L1 _ _ => kF9
        rename ((List.lookup (f k) ps1).getD (g k) = g k) => hc1
        rename ((List.lookup (g k) ps2).getD (f k) = f k) => hc2
        rename DictIs prog w _ (put (f k) _ _) => hD1
        rename DictIs prog w _ (put (g k) _ _) => hD2
        have e3 := put_length (f k) (g k) ps1
        have e4 := put_length (g k) (f k) ps2
        refine ⟨_, _, _, _, szT us', rfl, kF9, kN9, by rw [szT_append]; omega, ?_⟩
        rw [hJ]
        refine ⟨acc', us', _, _, _, _, _, k :: xs, im', rfl, hpa', hoku', hD1, hD2, hv.step hc1 hc2, fun x => ?_, by omega, by omega, rfl, him, hoff, htodo, hthere, hback⟩
        rw [hcov' x]
        simp only [T.occ, List.mem_cons, List.not_mem_nil, or_false]
        grind
    | c b k =>
      have e2 : szT [T.c b k] = 1 := rfl
      simp only [T.map] at hx hy
      have hcov2 : ∀ x, x ∈ u.occ ↔ x ∈ xs ∨ x ∈ occT us' := fun x => by rw [hcov' x]; simp [T.occ]
      cases b with
      | true =>
        obtain ⟨ax, t1, t2, nq, rfl, hmx⟩ := in_i hx
        obtain ⟨ay, u1, u2, uq, rfl, hmy⟩ := in_i hy
        (try k_unmd); (try k_fold)
        k_steps
        · exfalso; rename (k ≠ k) => hk; exact hk rfl
        rename News g1 L1 _ _ => kN9
        rename Fr g1 L1 _ _ => kF9
        refine ⟨_, _, _, _, szT us', rfl, kF9, kN9, by rw [szT_append]; omega, ?_⟩
        rw [hJ]
        exact ⟨acc', us', _, _, _, _, _, xs, im', rfl, hpa', hoku', hd1', hd2', hv, hcov2, by omega, by omega, rfl, him, hoff, htodo, hthere, hback⟩
      | false =>
        obtain ⟨ax, t1, t2, nq, rfl, hmx⟩ := in_a hx
        obtain ⟨ay, u1, u2, uq, rfl, hmy⟩ := in_a hy
        (try k_unmd); (try k_fold)
        k_steps
        · exfalso; rename (k ≠ k) => hk; exact hk rfl
        rename News g1 L1 _ _ => kN9
        rename Fr g1 L1 _ _ => kF9
        refine ⟨_, _, _, _, szT us', rfl, kF9, kN9, by rw [szT_append]; omega, ?_⟩
        rw [hJ]
        exact ⟨acc', us', _, _, _, _, _, xs, im', rfl, hpa', hoku', hd1', hd2', hv, hcov2, by omega, by omega, rfl, him, hoff, htodo, hthere, hback⟩
    | s fn l =>
      have e2 : szT [T.s fn l] = szT l + 1 := rfl
      simp only [T.map] at hx hy
      obtain ⟨ax, t1, t2, nq, bx, kx, nx', rfl, hmx, hmbx, hrx⟩ := in_s hx
      obtain ⟨ay, u1, u2, uq, b_y, ky, ny', rfl, hmy, hmby, hry⟩ := in_s hy
      have hlx : kx.length = l.length := by rw [hrx.len, mapT_eq, List.length_map]
      have hly : ky.length = l.length := by rw [hry.len, mapT_eq, List.length_map]
      simp only [T.ok] at hok'
      have hzx : kx.length ≤ 1000 := by omega
      have hzy : ky.length ≤ 1000 := by omega
      have hokl := hok'.2.2
      clear hok' hok hoku ret
      (try k_unmd); (try k_fold)
      k_steps
      · exfalso; rename (fn ≠ fn) => hk; exact hk rfl
      unfold Stop
      rename IsRange _ _ _ _ _ _ _ _ => hR
      rename News g1 L1 _ _ => N9
      rename Fr g1 L1 _ _ => F9
      have hsm : Builtin.Range.small 0 (kx.length : Int) 1 = true := small_one (by omega) (by omega) (by omega) (by omega)
      have hrs : Builtin.Range.rangeSize 0 (kx.length : Int) 1 = ((kx.length : Nat) : Int) := by have q := rangeSize_nat 0 kx.length; simpa using q
      refine iter_range (fun i m' nx => (∃ acc2 n2 im2, nx = (st, listOf acc2.toArray n2) :: (th, o1') :: (bk, o2') :: im2 ∧ PAll f g im2 acc2 (us' ++ l.take i) ∧ (∀ p ∈ im', p ∈ im2) ∧ (∀ p ∈ im2, p.1 ≠ st ∧ p.1 ≠ th ∧ p.1 ≠ bk)) ∧
        m' (Str.ofString "todo") = some (.ref st) ∧ m' (Str.ofString "there") = some (.ref th) ∧ m' (Str.ofString "back") = some (.ref bk) ∧ m' (Str.ofString "one") = some (.ref ax) ∧ m' (Str.ofString "other") = some (.ref ay)) rfl F9 N9 hR hsm hrs ⟨⟨acc', _, im', rfl, by rw [List.take_zero, List.append_nil]; exact hpa', fun p hp => hp, hoff⟩, htodo, hthere, hback, rfl, rfl⟩ ?turn2 ?done2
      case turn2 =>
        rintro i ti m₂ nx I h'' tk'' oI hi ⟨⟨acc2, n2, im2, rfl, hpa2, him2, hoffn⟩, e1, e3, e4, e5, e6⟩ hoffI F' N'
        have hoffs2 : ∀ p ∈ im2, p.1 ≠ st := fun p hp => (hoffn p hp).1
        have hIst : st ≠ I := hoffI _ (.head _)
        have hmx2 := him2 _ hmx
        have hmy2 := him2 _ hmy
        have hmbx2 := him2 _ hmbx
        have hmby2 := him2 _ hmby
        obtain ⟨vx, hvx⟩ : ∃ v, kx[i]? = some v := ⟨_, List.getElem?_eq_getElem hi⟩
        obtain ⟨vy, hvy⟩ : ∃ v, ky[i]? = some v := ⟨_, List.getElem?_eq_getElem (by omega)⟩
        obtain ⟨tx, htx, hxin⟩ := TAll.get hrx hvx
        obtain ⟨ty, hty, hyin⟩ := TAll.get hry hvy
        obtain ⟨u0, hu0⟩ : ∃ u0, l[i]? = some u0 := ⟨_, List.getElem?_eq_getElem (by omega)⟩
        rw [mapT_eq, List.getElem?_map, hu0] at htx hty
        cases htx
        cases hty
        have hal2 : acc2.length ≤ 1000 := by
          have w1 := hpa2.len
          have w2 := szT_len us'
          have w3 := szT_len l
          rw [List.length_append, List.length_take] at w1
          omega
        clear hmx hmy hmbx hmby hoff hoffs hoff1 hoff2
        (try k_unmd); (try k_fold)
        k_steps
        rename_i D2 h2 F8 N8 l9
        have hst : (st, listOf acc2.toArray n2) ∈ (I, oI) :: (st, listOf acc2.toArray n2) :: (th, o1') :: (bk, o2') :: im2 := .tail _ (.head _)
        refine l_append (vs := acc2) (n := n2) F8 N8 (.tail (Nat.ne_of_gt (l9 _ hst)) (.tail (Ne.symm hIst) (.head ?c1))) hal2 ?_
        case c1 =>
          intro p hp
          rcases List.mem_cons.mp hp with rfl | hp
          · exact Nat.ne_of_lt q1s
          rcases List.mem_cons.mp hp with rfl | hp
          · exact Nat.ne_of_lt q2s
          · exact hoffs2 p hp
        intro h9 F9 N9
        dsimp only
        (try k_unmd); (try k_fold)
        k_steps
        dsimp only [ItPost]
        refine ItEnd.intro F9 N9 ?g1 ?g2 ⟨⟨acc2 ++ [.ref D2], n2 + 1, (D2, tupN [vx, vy] 0) :: im2, rfl, ?g3, fun p hp => .tail _ (him2 p hp), ?g4⟩, e1, e3, e4, e5, e6⟩
        case g1 =>
          intro p hp
          simp only [List.mem_cons] at hp ⊢
          rcases hp with h | h | h | h | h | h <;> simp [h]
        case g2 =>
          intro p hp
          rcases List.mem_cons.mp hp with e | hp
          · rw [e]; exact hIst
          rcases List.mem_cons.mp hp with e | hp
          · rw [e]; exact hoffI (th, o1') (.tail _ (.head _))
          rcases List.mem_cons.mp hp with e | hp
          · rw [e]; exact hoffI (bk, o2') (.tail _ (.tail _ (.head _)))
          rcases List.mem_cons.mp hp with e | hp
          · rw [e]; exact Nat.ne_of_gt (l9 (I, oI) (.head _))
          · exact hoffI p (.tail _ (.tail _ (.tail _ hp)))
        case g3 =>
          rw [List.take_add_one, hu0, ← List.append_assoc]
          exact (hpa2.mono fun p hp => .tail _ hp).snoc ⟨D2, vx, vy, 0, rfl, .head _, DatIn.mono (fun p hp => .tail _ (him2 p hp)) hxin, DatIn.mono (fun p hp => .tail _ (him2 p hp)) hyin⟩
        case g4 =>
          intro p hp
          rcases List.mem_cons.mp hp with e | hp
          · rw [e]
            exact ⟨Nat.ne_of_gt (l9 (st, _) (.tail _ (.head _))), Nat.ne_of_gt (l9 (th, o1') (.tail _ (.tail _ (.head _)))), Nat.ne_of_gt (l9 (bk, o2') (.tail _ (.tail _ (.tail _ (.head _)))))⟩
          · exact hoffn p hp
      case done2 =>
        rintro m₂ nx h'' tk'' ⟨⟨acc2, n2, im2, rfl, hpa2, him2, hoffn⟩, e1, e3, e4, e5, e6⟩ F' N'
        rw [hlx, List.take_length] at hpa2
        dsimp only
        (try k_unmd); (try k_fold)
        k_steps
        rename News g1 L1 _ _ => kN9
        rename Fr g1 L1 _ _ => kF9
        refine ⟨_, _, _, _, szT us' + szT l, rfl, kF9, kN9, by rw [szT_append]; omega, ?_⟩
        rw [hJ]
        refine ⟨acc2, us' ++ l, _, _, _, _, _, xs, im2, rfl, hpa2, okT_append hoku' hokl, hd1', hd2', hv, fun x => ?_, by rw [szT_append]; omega, by rw [szT_append]; omega, by rw [szT_append], fun p hp => him2 p (him p hp), hoffn, e1, e3, e4⟩
        rw [hcov' x, occT_append, List.mem_append, T.occ]
end

end
section
open PySem PySem.Spec PySem.Calls PySem.W PyProof.Rows PyProof.V
theorem tin_grow {A B : List (Addr × Obj)} {tl : List (Addr × Obj)} (h : ∀ p ∈ A, IsTp p.2 → p ∈ B) : ∀ v t, TIn (tl ++ A) v t → TIn (tl ++ B) v t := fun v t k => k.tup fun p hp q => by
  rcases List.mem_append.mp hp with e | e
  · exact List.mem_append_left _ e
  · exact List.mem_append_right _ (h p e q)
theorem grow2 {g h : Heap} {L : Addr} {a b : Addr × Obj} {IM tl : List (Addr × Obj)} (N : News g L h (tl ++ a :: b :: IM)) (ha : ¬ IsTp a.2) (hb : ¬ IsTp b.2) (ext : Ext (a :: b :: IM) tl) (oa : ∀ p ∈ IM, p.1 ≠ a.1) (ob : ∀ p ∈ IM, p.1 ≠ b.1) :
    ∃ IM', News g L h (a :: b :: IM') ∧ (∀ p ∈ IM, p ∈ IM') ∧ (∀ p ∈ IM', p.1 ≠ a.1) ∧ (∀ p ∈ IM', p.1 ≠ b.1) ∧ ∀ v t, TIn (tl ++ a :: b :: IM) v t → TIn IM' v t := by
  refine ⟨tl ++ IM, news_sub N fun p hp => ?_, fun p hp => List.mem_append_right _ hp, fun p hp => ?_, fun p hp => ?_, tin_grow fun p hp q => ?_⟩
  · simp only [List.mem_cons, List.mem_append] at hp ⊢
    rcases hp with h | h | h | h <;> simp [h]
  · rcases List.mem_append.mp hp with e | e
    · exact Nat.ne_of_gt (ext.2 a (.head _) p e)
    · exact oa p e
  · rcases List.mem_append.mp hp with e | e
    · exact Nat.ne_of_gt (ext.2 b (.tail _ (.head _)) p e)
    · exact ob p e
  · rcases List.mem_cons.mp hp with e | hp
    · subst e; exact absurd q ha
    rcases List.mem_cons.mp hp with e | hp
    · subst e; exact absurd q hb
    · exact hp
theorem grow1 {g h : Heap} {L : Addr} {a : Addr × Obj} {IM tl : List (Addr × Obj)} (N : News g L h (tl ++ a :: IM)) (ha : ¬ IsTp a.2) (ext : Ext (a :: IM) tl) (oa : ∀ p ∈ IM, p.1 ≠ a.1) :
    ∃ IM', News g L h (a :: IM') ∧ (∀ p ∈ IM, p ∈ IM') ∧ (∀ p ∈ IM', p.1 ≠ a.1) ∧ ∀ v t, TIn (tl ++ a :: IM) v t → TIn IM' v t := by
  refine ⟨tl ++ IM, news_sub N fun p hp => ?_, fun p hp => List.mem_append_right _ hp, fun p hp => ?_, tin_grow fun p hp q => ?_⟩
  · simp only [List.mem_cons, List.mem_append] at hp ⊢
    rcases hp with h | h | h <;> simp [h]
  · rcases List.mem_append.mp hp with e | e
    · exact Nat.ne_of_gt (ext.2 a (.head _) p e)
    · exact oa p e
  · rcases List.mem_cons.mp hp with e | hp
    · subst e; exact absurd q ha
    · exact hp
theorem freeze1 {g h : Heap} {L : Addr} {a b : Addr × Obj} {IM : List (Addr × Obj)} (N : News g L h (a :: b :: IM)) (hb : ∀ p ∈ IM, p.1 ≠ b.1) (ne : a.1 ≠ b.1) :
    ∃ IM', News g L h (b :: IM') ∧ (∀ p ∈ IM, p ∈ IM') ∧ a ∈ IM' ∧ ∀ p ∈ IM', p.1 ≠ b.1 := by
  refine ⟨a :: IM, news_sub N fun p hp => ?_, fun p hp => .tail _ hp, .head _, fun p hp => ?_⟩
  · simp only [List.mem_cons] at hp ⊢
    rcases hp with h | h | h <;> simp [h]
  · rcases List.mem_cons.mp hp with e | hp
    · rw [e]; exact ne
    · exact hb p hp
theorem growN {g h : Heap} {L R d : Addr} {a : Addr × Obj} {o o' : Obj} {IM tl : List (Addr × Obj)} (N : News g L h ((R, o) :: (tl ++ ((d, o') :: a :: IM)))) (ha : ¬ IsTp a.2) (ext : Ext ((d, o') :: a :: IM) tl) (hd : ∀ p ∈ a :: IM, p.1 < d) (hR : ∀ p ∈ tl ++ ((d, o') :: a :: IM), p.1 < R) (oa : ∀ p ∈ IM, p.1 ≠ a.1) :
    ∃ IM', News g L h (a :: IM') ∧ (∀ p ∈ IM, p ∈ IM') ∧ (R, o) ∈ IM' ∧ (d, o') ∈ IM' ∧ (∀ p ∈ IM', p.1 ≠ a.1) ∧ ∀ v t, TIn (tl ++ a :: IM) v t → TIn IM' v t := by
  refine ⟨(R, o) :: (d, o') :: (tl ++ IM), news_sub N fun p hp => ?_, fun p hp => .tail _ (.tail _ (List.mem_append_right _ hp)), .head _, .tail _ (.head _), fun p hp => ?_, fun v t k => k.tup fun p hp q => .tail _ (.tail _ ?_)⟩
  · simp only [List.mem_cons, List.mem_append] at hp ⊢
    rcases hp with h | h | h | h | h <;> simp [h]
  · rcases List.mem_cons.mp hp with e | hp
    · rw [e]; exact Nat.ne_of_gt (hR a (List.mem_append_right _ (.tail _ (.head _))))
    rcases List.mem_cons.mp hp with e | hp
    · rw [e]; exact Nat.ne_of_gt (hd a (.head _))
    rcases List.mem_append.mp hp with e | e
    · exact Nat.ne_of_gt (ext.2 a (.tail _ (.head _)) p e)
    · exact oa p e
  · rcases List.mem_append.mp hp with e | hp
    · exact List.mem_append_left _ e
    rcases List.mem_cons.mp hp with e | hp
    · subst e; exact absurd q ha
    · exact List.mem_append_right _ hp
theorem num_ok {t : T} (h : t.ok) : (num t).ok := by unfold num; rw [num_fst]; exact map_ok _ t h
theorem num_sz (t : T) : (num t).sz = t.sz := by unfold num; rw [num_fst, map_sz]
theorem num_dep (t : T) : (num t).dep = t.dep := by unfold num; rw [num_fst, map_dep]
theorem flat_keys : ∀ {kvs : List (Int × Value)} {ps : List (Int × Int)}, FlatPairs PyData.int kvs (enc2 ps) → kvs.map Prod.fst = ps.map Prod.fst
  | [], [], _ => rfl
  | [], _ :: _, h => by cases h
  | _ :: _, [], h => by cases h
  | _ :: _, _ :: _, h => by
    cases h with
    | cons a b => rw [List.map_cons, List.map_cons, flat_keys b]
theorem DictIs.nodup {prog : Program} {w : World} {o : Obj} {ps : List (Int × Int)} (h : DictIs prog w o ps) : (ps.map Prod.fst).Nodup := by
  obtain ⟨kvs, ⟨_, _, _, _, _, _, nd⟩, b⟩ := h
  rw [← flat_keys b]; exact nd
theorem hide {g h : Heap} {L : Addr} {A : List (Addr × Obj)} (N : News g L h A) : ∃ B, B = A ∧ News g L h B := ⟨A, rfl, N⟩
theorem fr_hide {g h : Heap} {L : Addr} {m : Str → Option Value} (F : Fr g L h m) : ∃ m', m' = m ∧ Fr g L h m' := ⟨m, rfl, F⟩
theorem allLt_mem {d : Addr} : ∀ {l : List (Addr × Obj)}, AllLt d l → ∀ p ∈ l, p.1 < d
  | [], _, p, hp => nomatch hp
  | q :: r, h, p, hp => by
    rcases List.mem_cons.mp hp with rfl | hp
    · exact h.1
    · exact allLt_mem h.2 p hp
theorem ints_get : ∀ {vs : List Value} {ns : List Int}, IntsAre vs ns → ∀ {i : Nat} {k : Int}, ns[i]? = some k → ∃ t, vs[i]? = some (.int k t)
  | _, _, .nil, i, k, h => by simp at h
  | _, _, .cons n t r, 0, k, h => by simp at h; subst h; exact ⟨t, rfl⟩
  | _, _, .cons n t r, i + 1, k, h => by
    simp at h
    obtain ⟨u, e⟩ := ints_get r h
    exact ⟨u, by simpa using e⟩
section
variable {prog : Program} {w : World} {A : Around} {E : Value → Shared → Prop} {s : Shared} {h₀ : Heap} {L D : Addr} {m : Str → Option Value} {news : List (Addr × Obj)} {vs : List Value} {n : Nat}
theorem x_itemL {value slice : PySem.Expr} {k : Nat} {y : Value} {u : Tok} {Q : Value → Shared → Prop} (N : News h₀ L s.heap news) (hm : (D, listOf vs.toArray n) ∈ news) (hz : vs.length ≤ 1000) (hy : vs[k]? = some y) (h : Q y s)
    (hs : subscripted slice false (.ref D) (.int (k : Int) u) = operate [.ref D, .int (k : Int) u] (getItem (.ref D) (.int (k : Int) u)) := by with_unfolding_all rfl) :
    wpAny (model prog w) A (subscriptTail value slice (.ref D) (.int (k : Int) u)) Q E s := by
  have hk : k < vs.length := by
    rcases Nat.lt_or_ge k vs.length with q | q
    · exact q
    · rw [List.getElem?_eq_none q] at hy; cases hy
  have hl := News.isList N hm
  exact tail_any hl.typeIs slot_list_getitem.lookup (wpAny_getItem_list hl (by omega) (by omega) (by simpa using hy) h) hs
theorem d_copy {Q : Value → Shared → Prop} {d : Addr} {o : Obj} {ps : List (Int × Int)} (F : Fr h₀ L s.heap m) (N : News h₀ L s.heap news) (hbig : h₀.NoLimit) (hm : (d, o) ∈ news) (lo : (d == sysModules) = false) (ho : DictIs prog w o ps) (hz : ps.length ≤ 1000)
    (h : ∀ d' h' o', Fr h₀ L h' m → News h₀ L h' ((d', o') :: news) → (∀ p ∈ news, p.1 < d') → (d' == sysModules) = false → DictIs prog w o' ps → Q (.ref d') { s with heap := h' }) :
    wpAny (model prog w) A (call (.type "dict") [.ref d]) Q E s :=
  kt_dict_K F N hbig (ho.tab N hm lo) (by rw [List.length_map, sizeLine_eq]; omega) fun d' h' o' kvs F' N' l lo' a b => h d' h' o' F' N' l lo' ⟨kvs, a, b⟩
end

end
section

section

set_option maxHeartbeats 40000000 in
theorem law_walk : PySem.Challenge.rw_ok0008_01.Holds := hd (by
  w_top off
  k_with_none
  k_with "mem" => (first | (with_reducible assumption) | exact List.Mem.head _ | (refine' List.mem_cons_of_mem _ ?_; k_mem) | (refine' List.mem_append_right _ ?_; k_mem) | (refine' List.mem_append_left _ ?_; k_mem))
  k_with "callWith ref" => (k_here; k_dflt (refine' callWith_K (by k_asm) (by k_is) ?_; k_whole))
  k_with "eval Name" => (k_here; (with_reducible show wpAny _ _ (eval (Expr.Name _ _) (envOfC _ _ _ _ _)) _ _ _); k_dflt (first
        | (name_kind "local"; refine' nameX_L (by k_asm) (by rfl) ?_ (by rfl) (by rfl); k_whole)
        | (name_kind "globalImplicit"; refine' nameX_K (by k_asm) (by k_asm) (by k_asm) (by k_is) ?_ (by rfl) (by rfl); k_whole)
        | (name_kind "globalImplicit"; refine' nameX_B (by k_asm) (by k_asm) (by k_asm) (by k_is) (by boot_fast) (by decide) ?_ (by rfl) (by rfl); k_whole)))
  k_with "getMethod ref" => ((k_here; (with_reducible show wpAny _ _ (getMethod (Value.ref _) (PySem.Str.ofString "get") _) _ _ _); k_dflt (refine' d_meth (by (k_asm)) (by (k_mem)) (by (assumption)) (by (assumption)) ?_)))
  k_with "call builtin:dict.get" => ((k_here; k_dflt (refine' d_get2 (by (k_asm)) (by (k_mem)) (by (assumption)) (by (assumption)) ?_); intro _))
  k_with "compareOp NotIn int ref" => ((k_here; k_dflt (refine' d_notin (by (k_asm)) (by (k_mem)) (by (assumption)) (by (assumption)) ?_)))
  k_with "subscriptTail" => ((k_here; (with_reducible show wpAny _ _ (subscriptTail _ _ (Value.ref _) (Value.int _ _)) _ _ _); k_dflt (refine' t_item (by (k_asm)) (by (k_mem)) (by (decide)) (by (decide)) (by (rfl)) (by (rfl)) ?_; k_whole)))
  k_with "call type:tuple" => ((k_here; (with_reducible show wpAny _ _ (call (Value.type _) [Value.ref _]) _ _ _); k_dflt (refine' t_tupleOf (by (k_asm)) (by (k_asm)) (by (k_mem)) (by (assumption)) ?_); intro _ _ _ _ _; (try k_sweep)))
  k_with "newTuple" => ((k_here; k_dflt (refine' t_newTuple (by (k_asm)) (by (k_asm)) (by (first | exact Nat.le_of_ble_eq_true rfl | assumption)) ?_); intro _ _ _ _ _; (try k_sweep)))
  k_with "newList" => ((k_here; k_dflt (refine' t_newList (by (k_asm)) (by (k_asm)) (by (first | exact Nat.le_of_ble_eq_true rfl | assumption)) ?_); intro _ _ _ _ _; (try k_sweep)))
  k_with "compareOp NotIn int ref" => ((k_here; k_dflt (refine' l_notin (by (k_asm)) (by (k_mem)) (by (assumption)) (by (ktr_units)) ?_)))
  k_with "call builtin:list.append" => ((k_here; (with_reducible show wpAny _ _ (call (Value.builtin _) [Value.ref _, _]) _ _ _); k_dflt (refine' l_append (by (k_asm)) (by (k_asm)) (by (k_upd)) (by (assumption)) ?_); intro _ _ _; (try k_sweep)))
  k_with "exec For" => ((k_here; (with_unfolding_all refine' For_invVF (by (k_asm)) (by (exact rfl)) (by (exact rfl)) ?_; k_whole)))
  k_with "eval Name" => ((k_here; (with_reducible show wpAny _ _ (eval (Expr.Name _ _) (envOf _ _ _ _ _)) _ _ _); name_kind "local"; k_dflt (refine' ld (by (k_asm)) (by (assumption)) ?_; k_whole)))
  k_with "eval Name" => ((k_here; (with_reducible show wpAny _ _ (eval (Expr.Name _ _) (envOfC _ _ _ _ _)) _ _ _); name_kind "local"; k_dflt (refine' nameX_L (by (k_asm)) (by (assumption)) ?_ (by (rfl)) (by (rfl)); k_whole)))
  k_with "exec While" => ((k_here; (with_reducible show wpAny _ _ (exec (Stmt.While _ _ _ _) _) _ _ _); refine' stop_of ?_))
  k_with "last exec While" => ((k_here; (with_reducible show wpAny _ _ (exec (Stmt.While _ _ _ _) _) _ _ _); refine' stop_of ?_))
  k_with "call ref" => ((k_here; refine' stop_of ?_))
  k_with "compareOp NotEq ref ref" => ((k_here; refine' stop_of ?_))
  k_with "compareOp Eq ref ref" => ((k_here; refine' stop_of ?_))
  k_with "newList" => ((k_here; k_dflt (refine' t_newList (by (k_asm)) (by (k_asm)) (by (first | exact Nat.le_of_ble_eq_true rfl | assumption)) ?_); intro _ _ _ _ _))
  k_with "compareOp Eq bool bool" => ((k_here; with_reducible refine' eq_bool_same ?_))
  k_with "pyIter ref" => ((k_here; refine' stop_of ?_))
  k_with "call builtin:len" => ((k_here; k_dflt (refine' x_lenL (by (k_asm)) (by (k_mem)) (by (assumption)) ?_); intro _ _))
  k_with "setItem ref int" => ((k_here; k_dflt (refine' d_set (by (k_asm)) (by (k_asm)) (by (k_updF)) (by (assumption)) (by (assumption)) ?_); intro _ _ _ hN9 _; (try dsimp only at hN9); revert hN9; intro _))
  k_with "subscriptTail Name Name ref int" => ((k_here; (with_reducible show wpAny _ _ (subscriptTail _ _ (Value.ref _) (Value.int (Nat.cast _) _)) _ _ _); (with_unfolding_all refine' x_itemL (by (k_asm)) (by (k_mem)) (by (assumption)) (by (assumption)) ?_; k_whole)))
  k_with "exec For Name List cons nil" => ((k_here; (with_unfolding_all refine' For_invVF (by (k_asm)) (by (exact rfl)) (by (exact rfl)) ?_; k_whole)))
  k_with "exec For Name Name cons nil" => ((k_here; (with_unfolding_all refine' For_invVF (by (k_asm)) (by (exact rfl)) (by (exact rfl)) ?_; k_whole)))
  k_with "exec For Name Call cons nil" => ((k_here; (with_unfolding_all refine' For_invVF (by (k_asm)) (by (exact rfl)) (by (exact rfl)) ?_; k_whole)))
  k_with "call builtin:len" => ((k_here; k_dflt (refine' d_len (by (k_asm)) (by (k_mem)) (by (assumption)) (by (assumption)) (by (assumption)) ?_)))
  k_with "call type:dict" => ((k_here; (with_reducible show wpAny _ _ (call (Value.type "dict") [Value.ref _]) _ _ _); k_dflt (refine' d_copy (by (k_asm)) (by (k_asm)) (by (exact Top.nolimit (by k_asm))) (by (k_mem)) (by (assumption)) (by (assumption)) (by (assumption)) ?_); intro _ _ _ _ _ _ _ _))
  k_with "compareOp NotIn int ref" => ((k_here; k_dflt (first
        | (refine' d_notin1 (by (k_asm)) (by (k_mem)) (by (assumption)) (by (assumption)) (by (assumption)) ?_)
        | (refine' d_notin0 (by (k_asm)) (by (k_mem)) (by (assumption)) (by (assumption)) (by (assumption)) ?_))))
  k_go0
  refine hideE PassesOwn.leaving ?_
  intro EE hPE
  refine hideQ ?_
  intro QQ hQQ
  (all_goals try k_fold)
  k_steps
  unfold Stop
  rename_i w s0 s1 mg mb G0 Y0 fa o0 pm cd doc ho0 hcd0 hg0 X00 V0 T0 B0 TE0 TW0 ws hs0 hlay0 hL1 hr1 hl2 w5 w4 w3 vs0 w1 hL ra0 w10 r00 hI hr0 hlen hTrue hD0 h1 tk1 ofar dfar X01 X1 T1 K1 F1 ch1 N1 l01
  (try clear ho0); (try clear hcd0); (try clear hD0); (try clear X00); (try clear V0); (try clear B0); (try clear TE0); (try clear TW0); (try clear hs0); (try clear hlay0); (try clear hr1); (try clear hl2); (try clear ra0); (try clear w10); (try clear r00); (try clear hr0); (try clear hTrue); (try clear X01)
  have C0 : CodeAll [(49, 45), (42, 38)] (ghostOf s1.heap [(49, 45), (42, 38)]) := ghost_code hT9
  replace dfar : ofar.data = .cell none := dfar
  have HU : ∀ {e : Env}, (callerA.deeper e).units + 64 < cLine := by intro e; rw [units_deeper, units_caller, cLine_is]; decide
  have q45 : @LT.lt Nat _ 45 s1.heap.objs.size := l01.1
  have q38 : @LT.lt Nat _ 38 s1.heap.objs.size := l01.2
  refine SpecB.use (digits_spec hI (by omega) hL1) K1 F1 X1 N1 T1 C0 lifted rfl ?r1 ?r2 ?r3
  case r1 => decide
  case r2 => decide
  case r3 =>
  rintro r news' h2 tk2 F2 N2 ⟨st, vs1, ns1, n1, rfl, hi1, hb1, hl1, rfl, hst1⟩
  have hstk1 : Stk vs1 ns1 := ⟨hi1, hb1, hl1⟩
  (try clear hb1); (try clear hi1); (try clear hl1); (try clear N1); (try clear F1); (try clear hI); (try clear hlen); (try clear hL1)
  (try k_unmd); (try k_fold)
  k_steps
  unfold Stop
  have qLs : @LT.lt Nat _ (s1.heap.objs.size + 1) st := hst1 _ (.head _)
  have q45s : @LT.lt Nat _ 45 st := hst1 (45, tabObj #[]) (.tail _ (.head _))
  have q38s : @LT.lt Nat _ 38 st := hst1 (38, tabObj #[]) (.tail _ (.tail _ (.head _)))
  rename News _ _ _ _ => N3
  rename Fr _ _ _ _ => F3
  refine SpecB.use (term_spec (rest := [(s1.heap.objs.size + 1, ofar), (45, tabObj #[]), (38, tabObj #[])]) hstk1 (fun p hp => Nat.ne_of_lt (hst1 p hp))) K1 F3 X1 N3 T1 C0 trivial rfl ?r1 ?r2 ?r3
  case r1 => decide
  case r2 => decide
  case r3 =>
  rintro r news' h4 tk4 F4 N4 ⟨tl, vs2, ns2, n2, t, rfl, hext, hstk2, htin, htok, htdep, htocc, htlen⟩
  have hoffs : ∀ p ∈ tl, p.1 ≠ st := fun p hp => Nat.ne_of_gt (hext.2 _ (.head _) p hp)
  have hoffL : ∀ p ∈ tl, p.1 ≠ s1.heap.objs.size + 1 := fun p hp => Nat.ne_of_gt (hext.2 _ (.tail _ (.head _)) p hp)
  have hoff45 : ∀ p ∈ tl, p.1 ≠ (45 : Nat) := fun p hp => Nat.ne_of_gt (hext.2 (45, tabObj #[]) (.tail _ (.tail _ (.head _))) p hp)
  have hoff38 : ∀ p ∈ tl, p.1 ≠ (38 : Nat) := fun p hp => Nat.ne_of_gt (hext.2 (38, tabObj #[]) (.tail _ (.tail _ (.tail _ (.head _)))) p hp)
  have N5 := news_sub (B := (st, listOf vs2.toArray n2) :: (s1.heap.objs.size + 1, ofar) :: (45, tabObj #[]) :: (38, tabObj #[]) :: tl) N4 (fun p hp => by
    simp only [List.mem_cons, List.mem_append] at hp ⊢
    rcases hp with h | h | h | h | h <;> simp [h])
  have htsz : t.sz ≤ 40 := sz_bnd 3 t htok htdep
  (try clear hext); (try clear N4); (try clear N3); (try clear F3); (try clear hst1); (try clear hstk1)
  (try k_unmd); (try k_fold)
  k_steps
  unfold Stop
  have hoffS : ∀ p ∈ (s1.heap.objs.size + 1, ofar) :: (45, tabObj #[]) :: (38, tabObj #[]) :: tl, p.1 ≠ st := by
    intro p hp
    rcases List.mem_cons.mp hp with rfl | hp
    · exact Nat.ne_of_lt qLs
    rcases List.mem_cons.mp hp with rfl | hp
    · exact Nat.ne_of_lt q45s
    rcases List.mem_cons.mp hp with rfl | hp
    · exact Nat.ne_of_lt q38s
    · exact hoffs p hp
  rename News _ _ _ _ => N6
  rename Fr _ _ _ _ => F6
  refine SpecB.use (draw_u (g := fun o => (st, o) :: (s1.heap.objs.size + 1, ofar) :: (45, tabObj #[]) :: (38, tabObj #[]) :: tl) hstk2 (by decide) (.head hoffS)) K1 F6 X1 N6 T1 C0 trivial rfl ?r1 ?r2 ?r3
  case r1 => decide
  case r2 => decide
  case r3 =>
  rintro r1 news' h6 tk6 F7 N7 ⟨far, tfar, vs3, ns3, n3, rfl, hf0, hf9, hstk3, rfl⟩
  (try clear N6); (try clear F6); (try clear hoffS); (try clear hstk2)
  (try k_unmd); (try k_fold)
  k_steps
  unfold Stop
  rename_i hx7 ofar2 F8 N8 dfar2
  have hoffS : ∀ p ∈ (s1.heap.objs.size + 1, ofar2) :: (45, tabObj #[]) :: (38, tabObj #[]) :: tl, p.1 ≠ st := by
    intro p hp
    rcases List.mem_cons.mp hp with rfl | hp
    · exact Nat.ne_of_lt qLs
    rcases List.mem_cons.mp hp with rfl | hp
    · exact Nat.ne_of_lt q45s
    rcases List.mem_cons.mp hp with rfl | hp
    · exact Nat.ne_of_lt q38s
    · exact hoffs p hp
  refine SpecB.use (draw_u (g := fun o => (st, o) :: (s1.heap.objs.size + 1, ofar2) :: (45, tabObj #[]) :: (38, tabObj #[]) :: tl) hstk3 (by decide) (.head hoffS)) K1 F8 X1 N8 T1 C0 trivial rfl ?r1 ?r2 ?r3
  case r1 => decide
  case r2 => decide
  case r3 =>
  rintro r2 news' h8 tk8 F9 N9 ⟨near, tnear, vs4, ns4, n4, rfl, hn0, hn7, hstk4, rfl⟩
  (try clear N8); (try clear F8); (try clear hstk3); (try clear F7); (try clear N7)
  obtain ⟨xt, rfl⟩ := htin.ref
  (try k_unmd); (try k_fold)
  k_steps
  unfold Stop
  rename News _ _ _ _ => N10
  rename Fr _ _ _ _ => F10
  have RB : RebStmt PySem.Challenge.rw_ok0008_01.row.prog w := rebStmt _ _
  have hoff45b : ∀ p ∈ (38, tabObj #[]) :: (st, listOf vs4.toArray n4) :: (s1.heap.objs.size + 1, ofar2) :: tl, p.1 ≠ (45 : Nat) := by
    intro p hp
    rcases List.mem_cons.mp hp with rfl | hp
    · show (38 : Nat) ≠ 45; decide
    rcases List.mem_cons.mp hp with rfl | hp
    · exact Nat.ne_of_gt q45s
    rcases List.mem_cons.mp hp with rfl | hp
    · exact Nat.ne_of_gt (Nat.lt_succ_of_lt q45)
    · exact hoff45 p hp
  have N11 := news_sub (B := (45, tabObj #[]) :: (38, tabObj #[]) :: (st, listOf vs4.toArray n4) :: (s1.heap.objs.size + 1, ofar2) :: tl) N10 (fun p hp => by
    simp only [List.mem_cons] at hp ⊢
    rcases hp with h | h | h | h | h <;> simp [h])
  refine SpecB.use (ren_first RB htok (DatIn.mono (fun p hp => .tail _ (.tail _ (.tail _ hp))) htin) (by omega) hoff45b) K1 F10 X1 N11 T1 C0 trivial rfl ?r1 ?r2 ?r3
  case r1 => decide
  case r2 => decide
  case r3 =>
  rintro r3 news' h10 tk10 F11 N12 ⟨tl2, cR, ocR, vsR, tR, rfl, dR1, dR2, hextR, hr3, hcR, hcR45⟩
  obtain ⟨IM, hIM, N13⟩ : ∃ IM, IM = tl2 ++ (cR, ocR) :: (45, tabObj #[rawInt 58, rawInt 4, .ref cR]) :: (s1.heap.objs.size + 1, ofar2) :: tl ∧ News (ghostOf s1.heap [(49, 45), (42, 38)]) s1.heap.objs.size h10 ((38, tabObj #[]) :: (st, listOf vs4.toArray n4) :: IM) := ⟨_, rfl, news_sub N12 (fun p hp => by
    simp only [List.mem_cons, List.mem_append] at hp ⊢
    rcases hp with h | h | h | h | h | h | h <;> simp [h])⟩
  have mcR : (cR, ocR) ∈ IM := by rw [hIM]; exact List.mem_append_right _ (.head _)
  have m45 : ((45 : Addr), tabObj #[rawInt 58, rawInt 4, .ref cR]) ∈ IM := by rw [hIM]; exact List.mem_append_right _ (.tail _ (.head _))
  have mfar : (s1.heap.objs.size + 1, ofar2) ∈ IM := by rw [hIM]; exact List.mem_append_right _ (.tail _ (.tail _ (.head _)))
  have hIMt : TIn IM (.ref xt) t := DatIn.mono (fun p hp => by rw [hIM]; exact List.mem_append_right _ (.tail _ (.tail _ (.tail _ hp)))) htin
  have hr3' : TIn IM r3 (t.map (· + far)) := by
    rw [hIM]
    refine tin_grow (fun p hp q => ?_) _ _ hr3
    rcases List.mem_cons.mp hp with e | hp
    · subst e; exact absurd q not_tp_tab
    rcases List.mem_cons.mp hp with e | hp
    · subst e; exact absurd q not_tp_list
    · exact .tail _ (.tail _ hp)
  have offst : ∀ p ∈ IM, p.1 ≠ st := by
    intro p hp
    rw [hIM] at hp
    rcases List.mem_append.mp hp with e | hp
    · exact Nat.ne_of_gt (hextR.2 (st, listOf vs4.toArray n4) (.tail _ (.tail _ (.tail _ (.head _)))) p e)
    rcases List.mem_cons.mp hp with rfl | hp
    · exact Nat.ne_of_gt (hcR (st, listOf vs4.toArray n4) (.tail _ (.head _)))
    rcases List.mem_cons.mp hp with rfl | hp
    · exact Nat.ne_of_lt q45s
    rcases List.mem_cons.mp hp with rfl | hp
    · exact Nat.ne_of_lt qLs
    · exact hoffs p hp
  have off38 : ∀ p ∈ IM, p.1 ≠ (38 : Nat) := by
    intro p hp
    rw [hIM] at hp
    rcases List.mem_append.mp hp with e | hp
    · exact Nat.ne_of_gt (hextR.2 ((38 : Addr), tabObj #[]) (.tail _ (.tail _ (.head _))) p e)
    rcases List.mem_cons.mp hp with rfl | hp
    · exact Nat.ne_of_gt (hcR ((38 : Addr), tabObj #[]) (.head _))
    rcases List.mem_cons.mp hp with rfl | hp
    · show (45 : Nat) ≠ 38; decide
    rcases List.mem_cons.mp hp with rfl | hp
    · exact Nat.ne_of_gt (Nat.lt_succ_of_lt q38)
    · exact hoff38 p hp
  (try clear hIM); (try clear N12); (try clear hr3); (try clear hextR); (try clear hcR); (try clear hcR45); (try clear hoff45b); (try clear N10); (try clear F10); (try clear F9); (try clear N9); (try clear hoffS); (try clear hoffs); (try clear hoff45); (try clear hoff38); (try clear hoffL); (try clear htin)
  obtain ⟨x3, rfl⟩ := hr3'.ref
  (try k_unmd); (try k_fold)
  k_steps
  unfold Stop
  rename News _ _ _ _ => Nn
  rename Fr _ _ _ _ => Fn
  refine SpecB.use (ren_spec RB dR1 dR2 (map_ok _ t htok) (DatIn.mono (fun p hp => .tail _ (.tail _ hp)) hr3') (by rw [map_sz]; omega) (.tail _ (.tail _ mcR)) (.tail _ (.tail _ m45))) K1 Fn X1 Nn T1 C0 trivial rfl ?r1 ?r2 ?r3
  case r1 => decide
  case r2 => decide
  case r3 =>
  rintro rr news' h12 tk12 F12 N12 ⟨tln, rfl, hextn, hrn⟩
  obtain ⟨IM12, N12b, hm, off38b, offstb, hcn⟩ := grow2 N12 not_tp_tab not_tp_list hextn off38 offst
  replace mcR := hm _ mcR
  replace m45 := hm _ m45
  replace mfar := hm _ mfar
  replace hIMt := DatIn.mono hm hIMt
  replace hr3' := DatIn.mono hm hr3'
  have ht12 := hcn _ _ hrn
  replace off38 := off38b
  replace offst := offstb
  (try clear hm); (try clear hcn); (try clear hrn); (try clear hextn); (try clear N12); (try clear Nn); (try clear Fn); (try clear off38b); (try clear offstb); (try clear tln)
  obtain ⟨x12, rfl⟩ := ht12.ref
  (try k_unmd); (try k_fold)
  k_steps
  unfold Stop
  (try clear hr3')
  rename News _ _ _ _ => Nn
  rename Fr _ _ _ _ => Fn
  refine SpecB.use (ren_spec RB dR1 dR2 htok (DatIn.mono (fun p hp => .tail _ (.tail _ hp)) hIMt) (by omega) (.tail _ (.tail _ mcR)) (.tail _ (.tail _ m45))) K1 Fn X1 Nn T1 C0 trivial rfl ?r1 ?r2 ?r3
  case r1 => decide
  case r2 => decide
  case r3 =>
  rintro rr news' h14 tk14 F14 N14 ⟨tln, rfl, hextn, hrn⟩
  obtain ⟨IM14, N14b, hm, off38b, offstb, hcn⟩ := grow2 N14 not_tp_tab not_tp_list hextn off38 offst
  replace mcR := hm _ mcR
  replace m45 := hm _ m45
  replace mfar := hm _ mfar
  replace hIMt := DatIn.mono hm hIMt
  replace ht12 := DatIn.mono hm ht12
  have ht14 := hcn _ _ hrn
  replace off38 := off38b
  replace offst := offstb
  (try clear hm); (try clear hcn); (try clear hrn); (try clear hextn); (try clear N14); (try clear Nn); (try clear Fn); (try clear off38b); (try clear offstb); (try clear tln)
  obtain ⟨x14, rfl⟩ := ht14.ref
  (try k_unmd); (try k_fold)
  k_steps
  unfold Stop
  rename News _ _ _ _ => Nn
  rename Fr _ _ _ _ => Fn
  have e12 : (t.map (· + far)).map (· + (near - 3)) = t.map (· + (far + (near - 3))) := by
    rw [map_map]; exact map_congr fun k _ => by (try dsimp only); omega
  refine t_ne_same (t := t.map (· + (far + (near - 3)))) Nn (e12 ▸ DatIn.mono (fun p hp => .tail _ (.tail _ hp)) ht12) (DatIn.mono (fun p hp => .tail _ (.tail _ hp)) ht14) (by rw [map_dep]; exact htdep) HU ?_
  (try clear ht12); (try clear ht14); (try clear e12)
  (try k_unmd); (try k_fold)
  k_steps
  unfold Stop
  rename News _ _ _ _ => Nn
  rename Fr _ _ _ _ => Fn
  refine SpecB.use (ren_spec RB dR1 dR2 htok (DatIn.mono (fun p hp => .tail _ (.tail _ hp)) hIMt) (by omega) (.tail _ (.tail _ mcR)) (.tail _ (.tail _ m45))) K1 Fn X1 Nn T1 C0 trivial rfl ?r1 ?r2 ?r3
  case r1 => decide
  case r2 => decide
  case r3 =>
  rintro rr news' h16 tk16 F16 N16 ⟨tln, rfl, hextn, hrn⟩
  obtain ⟨IM16, N16b, hm, off38b, offstb, hcn⟩ := grow2 N16 not_tp_tab not_tp_list hextn off38 offst
  replace mcR := hm _ mcR
  replace m45 := hm _ m45
  replace mfar := hm _ mfar
  replace hIMt := DatIn.mono hm hIMt
  have ht16 := hcn _ _ hrn
  replace off38 := off38b
  replace offst := offstb
  (try clear hm); (try clear hcn); (try clear hrn); (try clear hextn); (try clear N16); (try clear Nn); (try clear Fn); (try clear off38b); (try clear offstb); (try clear tln)
  obtain ⟨x16, rfl⟩ := ht16.ref
  (try k_unmd); (try k_fold)
  k_steps
  unfold Stop
  rename News _ _ _ _ => Nn
  rename Fr _ _ _ _ => Fn
  have e16 : t.map (· + (0 : Int)) = t := by
    have e : t.map (· + (0 : Int)) = t.map (fun k => k) := map_congr fun k _ => Int.add_zero k
    rw [e]; exact map_id t
  rw [e16] at ht16
  refine t_ne_same (t := t) Nn (DatIn.mono (fun p hp => .tail _ (.tail _ hp)) ht16) (DatIn.mono (fun p hp => .tail _ (.tail _ hp)) hIMt) htdep HU ?_
  (try clear ht16); (try clear e16)
  (try k_unmd); (try k_fold)
  k_steps
  unfold Stop
  rename_i D1 hx9 Fn Nn lD1
  have oD1 : ∀ p ∈ (38, tabObj #[]) :: (st, listOf vs4.toArray n4) :: IM16, p.1 ≠ D1 := fun p hp => Nat.ne_of_lt (lD1 p hp)
  have hoc : t.occ.length ≤ 27 := htlen
  refine SpecB.use (names_spec (fd := D1) (vs := []) (ns := []) (n := 0) htok (DatIn.mono (fun p hp => .tail _ (.tail _ hp)) hIMt) .nil (by rw [List.length_nil]; omega) oD1) K1 Fn X1 Nn T1 C0 trivial rfl ?r1 ?r2 ?r3
  case r1 => exact Nat.lt_of_le_of_lt (Nat.add_le_add_left (show 10 * t.dep + 10 ≤ 40 by omega) _) (by decide)
  case r2 => exact Nat.lt_of_le_of_lt (Nat.add_le_add_left (show 100 * t.dep + 200 ≤ 500 by omega) _) (by decide)
  case r3 =>
  rintro rr news' h20 tk20 F20 N20 ⟨vD1, nD1, rfl, hiD1, rfl⟩
  obtain ⟨nm, hnm⟩ : ∃ nm, nm = nubL [] t.occ := ⟨_, rfl⟩
  rw [← hnm] at hiD1
  have hvD1 : vD1.length ≤ 1000 := by rw [hiD1.length, hnm]; have := nubL_length t.occ []; rw [List.length_nil] at this; omega
  have hiDs : Stop (IntsAre vD1 nm) := hiD1
  have hnml : nm.length ≤ 27 := by rw [hnm]; have := nubL_length t.occ []; rw [List.length_nil] at this; omega
  obtain ⟨IM20, hIM, N20b⟩ : ∃ IM, IM = (D1, listOf vD1.toArray nD1) :: IM16 ∧ News (ghostOf s1.heap [(49, 45), (42, 38)]) s1.heap.objs.size h20 ((38, tabObj #[]) :: (st, listOf vs4.toArray n4) :: IM) := ⟨_, rfl, news_sub N20 (fun p hp => by
    simp only [List.mem_cons] at hp ⊢
    rcases hp with h | h | h | h <;> simp [h])⟩
  have hm : ∀ p ∈ IM16, p ∈ IM20 := fun p hp => by rw [hIM]; exact .tail _ hp
  have mD1 : (D1, listOf vD1.toArray nD1) ∈ IM20 := by rw [hIM]; exact .head _
  replace offst : ∀ p ∈ IM20, p.1 ≠ st := fun p hp => by
    rw [hIM] at hp
    rcases List.mem_cons.mp hp with rfl | hp
    · exact Nat.ne_of_gt (lD1 (st, listOf vs4.toArray n4) (.tail _ (.head _)))
    · exact offst p hp
  replace off38 : ∀ p ∈ IM20, p.1 ≠ (38 : Nat) := fun p hp => by
    rw [hIM] at hp
    rcases List.mem_cons.mp hp with rfl | hp
    · exact Nat.ne_of_gt (lD1 ((38 : Addr), tabObj #[]) (.head _))
    · exact off38 p hp
  replace mcR := hm _ mcR
  replace m45 := hm _ m45
  replace mfar := hm _ mfar
  replace hIMt := DatIn.mono hm hIMt
  (try clear hm); (try clear hIM); (try clear oD1); (try clear lD1); (try clear N20); (try clear Nn); (try clear Fn)
  (try k_unmd); (try k_fold)
  k_steps
  unfold Stop
  rename News _ _ _ _ => Nn
  rename Fr _ _ _ _ => Fn
  refine SpecB.use (vars_spec htok (DatIn.mono (fun p hp => .tail _ (.tail _ hp)) hIMt) (by omega)) K1 Fn X1 Nn T1 C0 trivial rfl ?r1 ?r2 ?r3
  case r1 => decide
  case r2 => decide
  case r3 =>
  rintro rr news' h22 tk22 F22 N22 ⟨D2, vD2, nD2, rfl, hiD2, rfl, lD2⟩
  rw [← hnm] at hiD2
  (try clear Nn); (try clear Fn)
  (try k_unmd); (try k_fold)
  k_steps
  unfold Stop
  rename News _ _ _ _ => Nn
  rename Fr _ _ _ _ => Fn
  refine l_ne_same Nn (.head _) (.tail _ (.tail _ (.tail _ mD1))) hiD2 hiD1 HU ?_
  replace Nn := news_sub Nn (fun p hp => List.mem_cons_of_mem _ hp)
  (try clear hiD2); (try clear lD2); (try clear N22); (try clear F22)
  (try k_unmd); (try k_fold)
  k_steps
  unfold Stop
  rename News _ _ _ _ => Nn
  rename Fr _ _ _ _ => Fn
  refine SpecB.use (ren_spec RB dR1 dR2 htok (DatIn.mono (fun p hp => .tail _ (.tail _ hp)) hIMt) (by omega) (.tail _ (.tail _ mcR)) (.tail _ (.tail _ m45))) K1 Fn X1 Nn T1 C0 trivial rfl ?r1 ?r2 ?r3
  case r1 => decide
  case r2 => decide
  case r3 =>
  rintro rr news' h24 tk24 F24 N24 ⟨tln, rfl, hextn, hrn⟩
  obtain ⟨IM24, N24b, hm, off38b, offstb, hcn⟩ := grow2 N24 not_tp_tab not_tp_list hextn off38 offst
  replace mcR := hm _ mcR
  replace m45 := hm _ m45
  replace mfar := hm _ mfar
  replace mD1 := hm _ mD1
  replace hIMt := DatIn.mono hm hIMt
  have ht24 := hcn _ _ hrn
  replace off38 := off38b
  replace offst := offstb
  (try clear hm); (try clear hcn); (try clear hrn); (try clear hextn); (try clear N24); (try clear Nn); (try clear Fn); (try clear off38b); (try clear offstb); (try clear tln)
  obtain ⟨x24, rfl⟩ := ht24.ref
  (try k_unmd); (try k_fold)
  k_steps
  unfold Stop
  rename News _ _ _ _ => Nn
  rename Fr _ _ _ _ => Fn
  refine SpecB.use (vars_spec (map_ok _ t htok) (DatIn.mono (fun p hp => .tail _ (.tail _ hp)) ht24) (by rw [map_sz]; omega)) K1 Fn X1 Nn T1 C0 trivial rfl ?r1 ?r2 ?r3
  case r1 => decide
  case r2 => decide
  case r3 =>
  rintro rr news' h26 tk26 F26 N26 ⟨D3, vD3, nD3, rfl, hiD3, rfl, lD3⟩
  rw [nub_shift, ← hnm] at hiD3
  (try clear Nn); (try clear Fn); (try clear ht24)
  (try k_unmd); (try k_fold)
  k_steps
  unfold Stop
  rename News _ _ _ _ => Nn
  rename Fr _ _ _ _ => Fn
  rename IntsAre ys _ => hI8
  refine l_ne_same Nn (.tail _ (.head _)) (.head _) hiD3 hI8 HU ?_
  replace Nn := news_sub Nn (fun p hp => List.mem_cons_of_mem _ (List.mem_cons_of_mem _ hp))
  (try clear hiD3); (try clear lD3); (try clear N26); (try clear F26); (try clear hI8)
  (try k_unmd); (try k_fold)
  k_steps
  unfold Stop
  rename News _ _ _ _ => Nn
  rename Fr _ _ _ _ => Fn
  refine SpecB.use (rnm_first RB htok (DatIn.mono (fun p hp => .tail _ hp) hIMt) (by omega) (fun p hp => by
    rcases List.mem_cons.mp hp with rfl | hp
    · exact Nat.ne_of_gt q38s
    · exact off38 p hp)) K1 Fn X1 Nn T1 C0 trivial rfl ?r1 ?r2 ?r3
  case r1 => decide
  case r2 => decide
  case r3 =>
  rintro rr news' h28 tk28 F28 N28 ⟨tln, R5, r5, d5, od5, cN, ocN, vsN, tN, rfl, rfl, dN1, dN2, lo5, hd5, hr5, hext5, hf5, hdc5, hR5⟩
  have hcls : ∀ q ∈ IM24, True := fun _ _ => trivial
  obtain ⟨IM28, hIM, N28b⟩ : ∃ IM, IM = (R5, tupN [r5, .ref d5] 0) :: (tln ++ ((d5, od5) :: (cN, ocN) :: (38, tabObj #[rawInt 51, rawInt 4, .ref cN]) :: IM24)) ∧ News (ghostOf s1.heap [(49, 45), (42, 38)]) s1.heap.objs.size h28 ((st, listOf vs4.toArray n4) :: IM) := ⟨_, rfl, news_sub N28 (fun p hp => by
    simp only [List.mem_cons, List.mem_append] at hp ⊢
    rcases hp with h | h | h | h | h | h | h <;> simp [h])⟩
  have hm : ∀ p ∈ IM24, p ∈ IM28 := fun p hp => by rw [hIM]; exact .tail _ (List.mem_append_right _ (.tail _ (.tail _ (.tail _ hp))))
  have mD5 : (d5, od5) ∈ IM28 := by rw [hIM]; exact .tail _ (List.mem_append_right _ (.head _))
  have mcN : (cN, ocN) ∈ IM28 := by rw [hIM]; exact .tail _ (List.mem_append_right _ (.tail _ (.head _)))
  have m38 : ((38 : Addr), tabObj #[rawInt 51, rawInt 4, .ref cN]) ∈ IM28 := by rw [hIM]; exact .tail _ (List.mem_append_right _ (.tail _ (.tail _ (.head _))))
  have mR5 : (R5, tupN [r5, .ref d5] 0) ∈ IM28 := by rw [hIM]; exact .head _
  have ht28 : TIn IM28 r5 (num t) := by
    rw [hIM]
    refine hr5.tup fun p hp q => .tail _ ?_
    rcases List.mem_append.mp hp with e | hp
    · exact List.mem_append_left _ e
    rcases List.mem_cons.mp hp with e | hp
    · subst e; exact absurd q not_tp_list
    · exact List.mem_append_right _ (.tail _ (.tail _ (.tail _ hp)))
  have hst5 : st < d5 := hf5 (st, listOf vs4.toArray n4) (.tail _ (.head _))
  have hstR : st < R5 := hR5 (st, listOf vs4.toArray n4) (List.mem_append_right _ (.tail _ (.tail _ (.tail _ (.head _)))))
  replace offst : ∀ p ∈ IM28, p.1 ≠ st := fun p hp => by
    rw [hIM] at hp
    rcases List.mem_cons.mp hp with rfl | hp
    · exact Nat.ne_of_gt hstR
    rcases List.mem_append.mp hp with e | hp
    · exact Nat.ne_of_gt (hext5.2 (st, listOf vs4.toArray n4) (.tail _ (.tail _ (.tail _ (.head _)))) p e)
    rcases List.mem_cons.mp hp with rfl | hp
    · exact Nat.ne_of_gt hst5
    rcases List.mem_cons.mp hp with rfl | hp
    · exact Nat.ne_of_gt (Nat.lt_trans hst5 hdc5)
    rcases List.mem_cons.mp hp with rfl | hp
    · exact Nat.ne_of_lt q38s
    · exact offst p hp
  replace mcR := hm _ mcR
  replace m45 := hm _ m45
  replace mfar := hm _ mfar
  replace mD1 := hm _ mD1
  replace hIMt := DatIn.mono hm hIMt
  rw [num_snd] at hd5
  (try clear hm); (try clear hIM); (try clear hcls); (try clear N28); (try clear Nn); (try clear Fn); (try clear hr5); (try clear hext5); (try clear hf5); (try clear hdc5); (try clear hR5); (try clear hst5); (try clear hstR); (try clear off38)
  obtain ⟨x5, rfl⟩ := ht28.ref
  (try k_unmd); (try k_fold)
  k_steps
  unfold Stop
  rename_i hh5 hh4 hh3 dd hh2 odd lodd hsdd fsdd hidd fidd ldd hh1 FF0 NN0 tt0 ttk0 ee0 hh0 ttk1 tt1 tt2 tt3 hR Fn Nn hup
  have hdd0 : DictIs PySem.Challenge.rw_ok0008_01.row.prog w odd [] := ⟨[], hidd, fidd⟩
  (try clear hsdd); (try clear fsdd); (try clear hidd); (try clear fidd); (try clear NN0); (try clear FF0)
  have qsd : @LT.lt Nat _ st dd := ldd.1
  have oDD : ∀ p ∈ IM28, p.1 ≠ dd := by
    intro p hp
    have q := allLt_mem ldd.2 p hp
    exact Nat.ne_of_lt q
  have hsm : Builtin.Range.small 0 (nm.length : Int) 1 = true := small_one (by omega) (by omega) (by omega) (by omega)
  have hrs : Builtin.Range.rangeSize 0 (nm.length : Int) 1 = ((nm.length : Nat) : Int) := by have q := rangeSize_nat 0 nm.length; simpa using q
  have hnd : nm.Nodup := by rw [hnm]; exact nub_nodup _ _ List.nodup_nil
  refine iter_range (fun i m' nx => (∃ o', nx = (dd, o') :: (st, listOf vs4.toArray n4) :: IM28 ∧ DictIs PySem.Challenge.rw_ok0008_01.row.prog w o' (nfold [] (nm.take i))) ∧ m' (Str.ofString "due") = some (.ref dd) ∧ m' (Str.ofString "table") = some (.ref d5) ∧ m' (Str.ofString "low") = some (.ref x5) ∧ m' (Str.ofString "tree") = some (.ref xt) ∧ m' (Str.ofString "stock") = some (.ref st) ∧ m' (Str.ofString "names") = some (.ref D1)) rfl Fn Nn hR hsm hrs ⟨⟨odd, rfl, hdd0⟩, rfl, rfl, rfl, rfl, rfl, rfl⟩ ?turn2 ?done2
  case turn2 =>
    rintro i ti m₂ nx I h'' tk'' oI hi ⟨⟨o', rfl, ho'⟩, e1, e2, e3, e4, e5, e6⟩ hoffI F' N'
    obtain ⟨kk, hkk⟩ : ∃ kk, nm[i]? = some kk := ⟨_, List.getElem?_eq_getElem hi⟩
    obtain ⟨tkk, hvkk⟩ := (show IntsAre vD1 nm from hiDs).get i kk hkk
    have hId : ¬ ((I : Nat) = dd) := fun e => hoffI _ (.head _) e.symm
    have hzz : (nfold [] (nm.take i)).length ≤ 1000 := by have := nfold_len [] (nm.take i); rw [List.length_nil, List.length_take] at this; omega
    (try k_unmd); (try k_fold)
    k_steps
    rename News _ _ _ _ => N9
    rename Fr _ _ _ _ => F9
    rename DictIs _ w _ (put _ _ _) => ho9
    dsimp only [ItPost]
    rw [due_step hnd hkk] at ho9
    refine ItEnd.intro F9 N9 (fun p hp => hp) ?g2 ⟨⟨_, rfl, ho9⟩, e1, e2, e3, e4, e5, e6⟩
    case g2 =>
      intro p hp
      rcases List.mem_cons.mp hp with e | hp
      · rw [e]; exact fun q => hId q.symm
      · exact hoffI p (.tail _ hp)
  case done2 =>
  rintro m₂ nx h30 tk30 ⟨⟨odd2, rfl, hdd⟩, e1, e2, e3, e4, e5, e6⟩ Fq Nq
  rw [List.take_length, hnm, num_nub] at hdd
  dsimp only
  (try k_unmd); (try k_fold)
  k_steps
  unfold Stop
  rename News _ _ _ _ => Nn
  rename Fr _ _ _ _ => Fn
  refine d_ne_same Nn (.tail _ (.tail _ mD5)) (.head _) lo5 lodd hd5 hdd (nfold_nodup (ps := []) List.nodup_nil _) (Nat.lt_of_le_of_lt (Nat.le_add_right _ 64) HU) ?_
  obtain ⟨IM30, Nf, hm, mdd, offstb⟩ := freeze1 Nn offst (Nat.ne_of_gt qsd)
  replace Nn := Nf
  replace mcR := hm _ mcR
  replace m45 := hm _ m45
  replace mfar := hm _ mfar
  replace mD1 := hm _ mD1
  replace mD5 := hm _ mD5
  replace mcN := hm _ mcN
  replace m38 := hm _ m38
  replace hIMt := DatIn.mono hm hIMt
  replace ht28 := DatIn.mono hm ht28
  replace offst := offstb
  (try clear hm); (try clear offstb); (try clear Nf); (try clear Nq); (try clear Fq); (try clear qsd); (try clear oDD); (try clear hup); (try clear hR); (try clear hsm); (try clear hrs); (try clear ldd)
  (try k_unmd); (try k_fold)
  k_steps
  unfold Stop
  rename News _ _ _ _ => Nn
  rename Fr _ _ _ _ => Fn
  refine SpecB.use (changed_spec (im := _) lodd hdd htok hIMt (fun p hp => .tail _ hp) (.tail _ mdd)) K1 Fn X1 Nn T1 C0 trivial rfl ?r1 ?r2 ?r3
  case r1 => exact Nat.lt_of_le_of_lt (Nat.add_le_add_left (show 10 * t.dep + 10 ≤ 40 by omega) _) (by decide)
  case r2 => exact Nat.lt_of_le_of_lt (Nat.add_le_add_left (show 100 * t.dep + 100 ≤ 500 by omega) _) (by decide)
  case r3 =>
  rintro rr news' h32 tk32 F32 N32 ⟨tln, rfl, hextn, hrn⟩
  obtain ⟨IM32, N32b, hm, offstb, hcn⟩ := grow1 N32 not_tp_list hextn offst
  have ht32 := hcn _ _ (DatIn.mono (app_mem fun p hp => .tail _ hp) hrn)
  (try clear hrn); (try clear hextn); (try clear N32)
  replace mcR := hm _ mcR
  replace m45 := hm _ m45
  replace mfar := hm _ mfar
  replace mD1 := hm _ mD1
  replace mD5 := hm _ mD5
  replace mcN := hm _ mcN
  replace m38 := hm _ m38
  replace mdd := hm _ mdd
  replace hIMt := DatIn.mono hm hIMt
  replace ht28 := DatIn.mono hm ht28
  replace offst := offstb
  (try clear hm); (try clear hcn); (try clear Nn); (try clear Fn); (try clear offstb); (try clear tln)
  obtain ⟨x32, rfl⟩ := ht32.ref
  (try k_unmd); (try k_fold)
  k_steps
  unfold Stop
  rename News _ _ _ _ => Nn
  rename Fr _ _ _ _ => Fn
  rw [← num_fst] at ht32
  refine t_ne_same Nn (DatIn.mono (fun p hp => .tail _ hp) ht28) (DatIn.mono (fun p hp => .tail _ hp) ht32) (by rw [num_dep]; exact htdep) HU ?_
  (try clear ht32)
  (try k_unmd); (try k_fold)
  k_steps
  unfold Stop
  rename News _ _ _ _ => Nn
  rename Fr _ _ _ _ => Fn
  refine SpecB.use (rnm_spec RB dN1 dN2 (num_ok htok) (DatIn.mono (fun p hp => .tail _ hp) ht28) (by rw [num_sz]; omega) (.tail _ mcN) (.tail _ m38)) K1 Fn X1 Nn T1 C0 trivial rfl ?r1 ?r2 ?r3
  case r1 => decide
  case r2 => decide
  case r3 =>
  rintro rr news' h34 tk34 F34 N34 ⟨tln, R34, r34, d34, od34, rfl, rfl, lo34, hd34, hr34, hextn, hfn, hRn⟩
  obtain ⟨IM34, N34b, hm, mR34, md34, offstb, hcn⟩ := growN N34 not_tp_list hextn hfn hRn offst
  have ht34 := hcn _ _ hr34
  (try clear hr34); (try clear hextn); (try clear hfn); (try clear hRn); (try clear N34); (try clear hd34)
  replace mcR := hm _ mcR
  replace m45 := hm _ m45
  replace mfar := hm _ mfar
  replace mD1 := hm _ mD1
  replace mD5 := hm _ mD5
  replace mcN := hm _ mcN
  replace m38 := hm _ m38
  replace mdd := hm _ mdd
  replace hIMt := DatIn.mono hm hIMt
  replace ht28 := DatIn.mono hm ht28
  replace offst := offstb
  (try clear hm); (try clear hcn); (try clear Nn); (try clear Fn); (try clear offstb); (try clear tln)
  obtain ⟨x34, rfl⟩ := ht34.ref
  (try k_unmd); (try k_fold)
  k_steps
  unfold Stop
  rename News _ _ _ _ => Nn
  rename Fr _ _ _ _ => Fn
  rw [show (T.mapS nval nnxt [] (num t)).1 = num t from num_num t] at ht34
  refine t_ne_same Nn (DatIn.mono (fun p hp => .tail _ hp) ht34) (DatIn.mono (fun p hp => .tail _ hp) ht28) (by rw [num_dep]; exact htdep) HU ?_
  (try clear ht34); (try clear mR34); (try clear md34)
  (try k_unmd); (try k_fold)
  k_steps
  unfold Stop
  rename News _ _ _ _ => Nn
  rename Fr _ _ _ _ => Fn
  refine SpecB.use (ren_spec RB dR1 dR2 htok (DatIn.mono (fun p hp => .tail _ hp) hIMt) (by omega) (.tail _ mcR) (.tail _ m45)) K1 Fn X1 Nn T1 C0 trivial rfl ?r1 ?r2 ?r3
  case r1 => decide
  case r2 => decide
  case r3 =>
  rintro rr news' h36 tk36 F36 N36 ⟨tln, rfl, hextn, hrn⟩
  obtain ⟨IM36, N36b, hm, offstb, hcn⟩ := grow1 N36 not_tp_list hextn offst
  have ht36 := hcn _ _ hrn
  (try clear hrn); (try clear hextn); (try clear N36)
  replace mcR := hm _ mcR
  replace m45 := hm _ m45
  replace mfar := hm _ mfar
  replace mD1 := hm _ mD1
  replace mD5 := hm _ mD5
  replace mcN := hm _ mcN
  replace m38 := hm _ m38
  replace mdd := hm _ mdd
  replace hIMt := DatIn.mono hm hIMt
  replace ht28 := DatIn.mono hm ht28
  replace offst := offstb
  (try clear hm); (try clear hcn); (try clear Nn); (try clear Fn); (try clear offstb); (try clear tln)
  obtain ⟨x36, rfl⟩ := ht36.ref
  (try k_unmd); (try k_fold)
  k_steps
  unfold Stop
  rename News _ _ _ _ => Nn
  rename Fr _ _ _ _ => Fn
  refine SpecB.use (rnm_spec RB dN1 dN2 (map_ok _ t htok) (DatIn.mono (fun p hp => .tail _ hp) ht36) (by rw [map_sz]; omega) (.tail _ mcN) (.tail _ m38)) K1 Fn X1 Nn T1 C0 trivial rfl ?r1 ?r2 ?r3
  case r1 => decide
  case r2 => decide
  case r3 =>
  rintro rr news' h38 tk38 F38 N38 ⟨tln, R38, r38, d38, od38, rfl, rfl, lo38, hd38, hr38, hextn, hfn, hRn⟩
  obtain ⟨IM38, N38b, hm, mR38, md38, offstb, hcn⟩ := growN N38 not_tp_list hextn hfn hRn offst
  have ht38 := hcn _ _ hr38
  (try clear hr38); (try clear hextn); (try clear hfn); (try clear hRn); (try clear N38); (try clear hd38)
  replace mcR := hm _ mcR
  replace m45 := hm _ m45
  replace mfar := hm _ mfar
  replace mD1 := hm _ mD1
  replace mD5 := hm _ mD5
  replace mcN := hm _ mcN
  replace m38 := hm _ m38
  replace mdd := hm _ mdd
  replace hIMt := DatIn.mono hm hIMt
  replace ht28 := DatIn.mono hm ht28
  replace ht36 := DatIn.mono hm ht36
  replace offst := offstb
  (try clear hm); (try clear hcn); (try clear Nn); (try clear Fn); (try clear offstb); (try clear tln)
  obtain ⟨x38, rfl⟩ := ht38.ref
  (try k_unmd); (try k_fold)
  k_steps
  unfold Stop
  rename News _ _ _ _ => Nn
  rename Fr _ _ _ _ => Fn
  rw [show (T.mapS nval nnxt [] (t.map (· + (40 : Int)))).1 = num t from num_shift t 40] at ht38
  refine t_ne_same Nn (DatIn.mono (fun p hp => .tail _ hp) ht38) (DatIn.mono (fun p hp => .tail _ hp) ht28) (by rw [num_dep]; exact htdep) HU ?_
  (try clear ht38); (try clear ht36); (try clear mR38); (try clear md38); (try clear hdd); (try clear hd5)
  (try k_unmd); (try k_fold)
  k_steps
  unfold Stop
  rename_i kd hk2 okd lokd hskd fskd hikd fikd lkd hk1 FF1 NN1 ls hk0 Fn Nn lls
  have hkd0 : DictIs PySem.Challenge.rw_ok0008_01.row.prog w okd [] := ⟨[], hikd, fikd⟩
  obtain ⟨LV, hiLV, N40⟩ : ∃ LV : List Value, IntsAre LV [4, 1, 0] ∧ News (ghostOf s1.heap [(49, 45), (42, 38)]) s1.heap.objs.size hk0 ((ls, listOf LV.toArray 0) :: (kd, okd) :: (st, listOf vs4.toArray n4) :: IM38) := ⟨[_, _, _], .cons _ _ (.cons _ _ (.cons _ _ .nil)), Nn⟩
  have qskd : @LT.lt Nat _ st kd := lkd.1
  have qkls : @LT.lt Nat _ kd ls := lls (kd, okd) (.head _)
  have qsls : @LT.lt Nat _ st ls := lls (st, listOf vs4.toArray n4) (.tail _ (.head _))
  have okd38 : ∀ p ∈ IM38, p.1 ≠ kd := fun p hp => Nat.ne_of_lt (allLt_mem lkd.2 p hp)
  have ols38 : ∀ p ∈ IM38, p.1 ≠ ls := fun p hp => Nat.ne_of_lt (lls p (.tail _ (.tail _ hp)))
  replace offst : ∀ p ∈ IM38, p.1 ≠ st := offst
  (try clear hskd); (try clear fskd); (try clear hikd); (try clear fikd); (try clear NN1); (try clear FF1); (try clear Nn); (try clear lkd); (try clear lls)
  refine iter_list (ax := ls) (vs := LV) (n := 0) (news := (kd, okd) :: (st, listOf vs4.toArray n4) :: (ls, listOf LV.toArray 0) :: IM38) (fun i m' nx => (∃ o' ps' vs' ns' n', nx = (kd, o') :: (st, listOf vs'.toArray n') :: (ls, listOf LV.toArray 0) :: IM38 ∧ DictIs PySem.Challenge.rw_ok0008_01.row.prog w o' ps' ∧ ps'.length ≤ i ∧ Stk vs' ns') ∧ m' (Str.ofString "known") = some (.ref kd) ∧ m' (Str.ofString "low") = some (.ref x5) ∧ m' (Str.ofString "tree") = some (.ref xt) ∧ m' (Str.ofString "stock") = some (.ref st) ∧ m' (Str.ofString "names") = some (.ref D1)) rfl Fn (news_sub N40 ?k0) (.tail _ (.tail _ (.head _))) ?k1 ⟨⟨okd, [], vs4, ns4, n4, rfl, hkd0, Nat.le_refl _, hstk4⟩, rfl, by assumption, by assumption, by assumption, by assumption⟩ ?turn2 ?done2
  case k0 =>
    intro p hp
    simp only [List.mem_cons] at hp ⊢
    rcases hp with h | h | h | h <;> simp [h]
  case k1 => rintro i m' nx ⟨⟨o', ps', vs', ns', n', rfl, _⟩, _⟩; exact .tail _ (.tail _ (.head _))
  case turn2 =>
    rintro i v m₂ nx I h'' tk'' oI hv ⟨⟨o', ps', vs', ns', n', rfl, ho', hpl, hstk'⟩, e1, e2, e3, e4, e5⟩ hoffI F' N'
    have hi3 : i < 3 := by
      have := (List.getElem?_eq_some_iff.mp hv).1
      rw [hiLV.length] at this
      exact this
    obtain ⟨kk, tkk, rfl, _⟩ := hiLV.at i v hv
    have hId : ¬ ((I : Nat) = kd) := fun e => hoffI _ (.head _) e.symm
    have hIs : st ≠ I := hoffI _ (.tail _ (.head _))
    have hzz : ps'.length ≤ 1000 := by omega
    (try k_unmd); (try k_fold)
    k_steps
    unfold Stop
    rename News _ _ _ _ => N9
    rename Fr _ _ _ _ => F9
    have hall : ∀ p ∈ (ls, listOf LV.toArray 0) :: IM38, p.1 ≠ st := fun p hp => by
      rcases List.mem_cons.mp hp with e | hp
      · rw [e]; exact Nat.ne_of_gt qsls
      · exact offst p hp
    refine SpecB.use (draw_u (g := fun o => (I, oI) :: (kd, o') :: (st, o) :: (ls, listOf LV.toArray 0) :: IM38) hstk' (by decide) (.tail (Ne.symm hIs) (.tail (Nat.ne_of_gt qskd) (.head hall)))) K1 F9 X1 N9 T1 C0 trivial rfl ?r1 ?r2 ?r3
    case r1 => decide
    case r2 => decide
    case r3 =>
    rintro rr news' h42 tk42 F42 N42 ⟨dr, tdr, vs6, ns6, n6, rfl, hdr0, hdr2, hstk6, rfl⟩
    have hgoff : ∀ p ∈ (kd, o') :: (st, listOf vs6.toArray n6) :: (ls, listOf LV.toArray 0) :: IM38, p.1 ≠ I := fun p hp => by
      rcases List.mem_cons.mp hp with e | hp
      · rw [e]; exact fun q => hId q.symm
      rcases List.mem_cons.mp hp with e | hp
      · rw [e]; exact hIs
      · exact hoffI p (.tail _ (.tail _ hp))
    (try clear N9); (try clear F9); (try clear N'); (try clear F')
    (try k_unmd); (try k_fold)
    k_steps
    · rename News _ _ _ _ => N9
      rename Fr _ _ _ _ => F9
      rename DictIs _ w _ (put _ _ _) => ho9
      dsimp only [ItPost]
      refine ItEnd.intro F9 N9 (fun p hp => hp) ?g2 ⟨⟨_, _, vs6, ns6, n6, rfl, ho9, Nat.le_trans (put_length _ _ _) (Nat.succ_le_succ hpl), hstk6⟩, e1, e2, e3, e4, e5⟩
      case g2 =>
        intro p hp
        rcases List.mem_cons.mp hp with e | hp
        · rw [e]; exact fun q => hId q.symm
        · exact hgoff p (.tail _ hp)
    · rename News _ _ _ _ => N9
      rename Fr _ _ _ _ => F9
      dsimp only [ItPost]
      exact ItEnd.intro F9 N9 (fun p hp => hp) hgoff ⟨⟨o', ps', vs6, ns6, n6, rfl, ho', Nat.le_succ_of_le hpl, hstk6⟩, e1, e2, e3, e4, e5⟩
  case done2 =>
  rintro m₂ nx h44 tk44 ⟨⟨okd2, ps0, vs7, ns7, n7, rfl, hkd, hpl, hstk7⟩, e1, e2, e3, e4, e5⟩ Fq Nq
  rw [hiLV.length] at hpl
  replace hpl : ps0.length ≤ 3 := hpl
  have hpl0 : ps0.length ≤ 1000 := by omega
  replace Nq := news_sub (B := (kd, okd2) :: (st, listOf vs7.toArray n7) :: IM38) Nq (fun p hp => by
    simp only [List.mem_cons] at hp ⊢
    rcases hp with h | h | h <;> simp [h])
  (try clear hstk4); (try clear hkd0); (try clear qkls); (try clear qsls); (try clear ols38); (try clear hiLV); (try clear N40); (try clear Fn)
  dsimp only
  (try k_unmd); (try k_fold)
  k_steps
  unfold Stop
  rename_i bd hb1 obd FF1 NN1 lbd lobd hbd0 hb0 Fn Nn
  have qkb : @LT.lt Nat _ kd bd := lbd (kd, okd2) (.head _)
  have qsb : @LT.lt Nat _ st bd := lbd (st, listOf vs7.toArray n7) (.tail _ (.head _))
  have obd38 : ∀ p ∈ IM38, p.1 ≠ bd := fun p hp => Nat.ne_of_lt (lbd p (.tail _ (.tail _ hp)))
  (try clear lbd); (try clear FF1); (try clear NN1); (try clear Nq); (try clear Fq)
  refine iter_list (ax := D1) (vs := vD1) (n := nD1) (news := (bd, obd) :: (kd, okd2) :: (st, listOf vs7.toArray n7) :: IM38) (fun i m' nx => (∃ o', nx = (bd, o') :: (kd, okd2) :: (st, listOf vs7.toArray n7) :: IM38 ∧ DictIs PySem.Challenge.rw_ok0008_01.row.prog w o' (nfold ps0 (nm.take i))) ∧ m' (Str.ofString "begun") = some (.ref bd) ∧ m' (Str.ofString "known") = some (.ref kd) ∧ m' (Str.ofString "low") = some (.ref x5) ∧ m' (Str.ofString "tree") = some (.ref xt) ∧ m' (Str.ofString "stock") = some (.ref st) ∧ m' (Str.ofString "names") = some (.ref D1)) rfl Fn Nn (.tail _ (.tail _ (.tail _ mD1))) ?k1 ⟨⟨obd, rfl, hbd0⟩, rfl, by assumption, by assumption, by assumption, by assumption, by assumption⟩ ?turn2 ?done2
  case k1 => rintro i m' nx ⟨⟨o', rfl, _⟩, _⟩; exact .tail _ (.tail _ (.tail _ mD1))
  case turn2 =>
    rintro i v m₂ nx I h'' tk'' oI hv ⟨⟨o', rfl, ho'⟩, e1, e2, e3, e4, e5, e6⟩ hoffI F' N'
    obtain ⟨kk, tkk, rfl, hkk⟩ := (show IntsAre vD1 nm from hiDs).at i v hv
    have hId : ¬ ((I : Nat) = bd) := fun e => hoffI _ (.head _) e.symm
    have hzz : (nfold ps0 (nm.take i)).length ≤ 1000 := by have := nfold_len ps0 (nm.take i); rw [List.length_take] at this; omega
    have etk : nm.take (i + 1) = nm.take i ++ [kk] := by rw [List.take_add_one, hkk]; rfl
    (try clear hkd)
    (try k_unmd); (try k_fold)
    cases hlk : (nfold ps0 (nm.take i)).lookup kk with
    | some jj =>
      k_steps
      rename News _ _ _ _ => N9
      rename Fr _ _ _ _ => F9
      dsimp only [ItPost]
      refine ItEnd.intro F9 N9 (fun p hp => hp) hoffI ⟨⟨o', rfl, ?_⟩, e1, e2, e3, e4, e5, e6⟩
      rw [etk, nfold_snoc, nnxt_hit (by rw [hlk]; rfl)]
      exact ho'
    | none =>
      k_steps
      rename News _ _ _ _ => N9
      rename Fr _ _ _ _ => F9
      rename DictIs _ w _ (put _ _ _) => ho9
      dsimp only [ItPost]
      refine ItEnd.intro F9 N9 (fun p hp => hp) ?g2 ⟨⟨_, rfl, ?g3⟩, e1, e2, e3, e4, e5, e6⟩
      case g2 =>
        intro p hp
        rcases List.mem_cons.mp hp with e | hp
        · rw [e]; exact fun q => hId q.symm
        · exact hoffI p (.tail _ hp)
      case g3 =>
        rw [etk, nfold_snoc, nnxt_miss hlk]
        exact ho9
  case done2 =>
  rintro m₂ nx h46 tk46 ⟨⟨obd2, rfl, hbd⟩, e1, e2, e3, e4, e5, e6⟩ Fq Nq
  rw [(show IntsAre vD1 nm from hiDs).length, List.take_length, hnm, num_nub] at hbd
  replace Nq := news_sub (B := (kd, okd2) :: (bd, obd2) :: (st, listOf vs7.toArray n7) :: IM38) Nq (fun p hp => by
    simp only [List.mem_cons] at hp ⊢
    rcases hp with h | h | h | h <;> simp [h])
  (try clear hbd0); (try clear Fn); (try clear Nn)
  dsimp only
  (try k_unmd); (try k_fold)
  k_steps
  unfold Stop
  refine SpecB.use (rnm_specT RB dN1 dN2 htok (DatIn.mono (fun p hp => .tail _ (.tail _ hp)) hIMt) (by omega) lokd hkd (fun p hp => by
    rcases List.mem_cons.mp hp with e | hp
    · rw [e]; exact Nat.ne_of_gt qkb
    rcases List.mem_cons.mp hp with e | hp
    · rw [e]; exact Nat.ne_of_lt qskd
    · exact okd38 p hp) (.tail _ (.tail _ mcN)) (.tail _ (.tail _ m38))) K1 Fq X1 Nq T1 C0 trivial rfl ?r1 ?r2 ?r3
  case r1 => decide
  case r2 => decide
  case r3 =>
  rintro rr news' h48 tk48 F48 N48 ⟨tln, R48, r48, okd3, rfl, rfl, hkd3, hr48, hext48, hR48⟩
  obtain ⟨IM48, hIM, N48b⟩ : ∃ IM, IM = (R48, tupN [r48, .ref kd] 0) :: (kd, okd3) :: (bd, obd2) :: (tln ++ IM38) ∧ News (ghostOf s1.heap [(49, 45), (42, 38)]) s1.heap.objs.size h48 ((st, listOf vs7.toArray n7) :: IM) := ⟨_, rfl, news_sub N48 (fun p hp => by
    simp only [List.mem_cons, List.mem_append] at hp ⊢
    rcases hp with h | h | h | h | h | h <;> simp [h])⟩
  have hm : ∀ p ∈ IM38, p ∈ IM48 := fun p hp => by rw [hIM]; exact .tail _ (.tail _ (.tail _ (List.mem_append_right _ hp)))
  have mR48 : (R48, tupN [r48, .ref kd] 0) ∈ IM48 := by rw [hIM]; exact .head _
  have mkd : (kd, okd3) ∈ IM48 := by rw [hIM]; exact .tail _ (.head _)
  have mbd : (bd, obd2) ∈ IM48 := by rw [hIM]; exact .tail _ (.tail _ (.head _))
  have ht48 : TIn IM48 r48 (T.mapS nval nnxt ps0 t).1 := by
    rw [hIM]
    refine hr48.tup fun p hp q => ?_
    rcases List.mem_append.mp hp with e | hp
    · exact .tail _ (.tail _ (.tail _ (List.mem_append_left _ e)))
    rcases List.mem_cons.mp hp with e | hp
    · rw [e]; exact .tail _ (.tail _ (.head _))
    rcases List.mem_cons.mp hp with e | hp
    · subst e; exact absurd q not_tp_list
    · exact .tail _ (.tail _ (.tail _ (List.mem_append_right _ hp)))
  replace offst : ∀ p ∈ IM48, p.1 ≠ st := fun p hp => by
    rw [hIM] at hp
    rcases List.mem_cons.mp hp with e | hp
    · rw [e]; exact Nat.ne_of_gt (hR48 (st, listOf vs7.toArray n7) (List.mem_append_right _ (.tail _ (.tail _ (.head _)))))
    rcases List.mem_cons.mp hp with e | hp
    · rw [e]; exact Nat.ne_of_gt qskd
    rcases List.mem_cons.mp hp with e | hp
    · rw [e]; exact Nat.ne_of_gt qsb
    rcases List.mem_append.mp hp with e | hp
    · exact Nat.ne_of_gt (hext48.2 (st, listOf vs7.toArray n7) (.tail _ (.tail _ (.head _))) p e)
    · exact offst p hp
  rw [num_snd] at hkd3
  replace mcR := hm _ mcR
  replace m45 := hm _ m45
  replace mfar := hm _ mfar
  replace mD1 := hm _ mD1
  replace mcN := hm _ mcN
  replace m38 := hm _ m38
  replace hIMt := DatIn.mono hm hIMt
  replace ht28 := DatIn.mono hm ht28
  (try clear hm); (try clear hIM); (try clear N48); (try clear Nq); (try clear Fq); (try clear hr48); (try clear hext48); (try clear hR48); (try clear qkb); (try clear qsb); (try clear qskd); (try clear obd38); (try clear okd38); (try clear hkd)
  obtain ⟨x48, rfl⟩ := ht48.ref
  (try k_unmd); (try k_fold)
  k_steps
  unfold Stop
  rename News _ _ _ _ => Nn
  rename Fr _ _ _ _ => Fn
  refine d_ne_same Nn (.tail _ mkd) (.tail _ mbd) lokd lobd hkd3 hbd (hbd.nodup) (Nat.lt_of_le_of_lt (Nat.le_add_right _ 64) HU) ?_
  (try k_unmd); (try k_fold)
  k_steps
  unfold Stop
  rename News _ _ _ _ => Nn
  rename Fr _ _ _ _ => Fn
  refine d_ne_same Nn (.tail _ mkd) (.tail _ mbd) lokd lobd hkd3 hbd (hbd.nodup) (Nat.lt_of_le_of_lt (Nat.le_add_right _ 64) HU) ?_
  (try k_unmd); (try k_fold)
  k_steps
  unfold Stop
  rename News _ _ _ _ => Nn
  rename Fr _ _ _ _ => Fn
  refine SpecB.use (changed_spec (im := _) lobd hbd htok hIMt (fun p hp => .tail _ hp) (.tail _ mbd)) K1 Fn X1 Nn T1 C0 trivial rfl ?r1 ?r2 ?r3
  case r1 => exact Nat.lt_of_le_of_lt (Nat.add_le_add_left (show 10 * t.dep + 10 ≤ 40 by omega) _) (by decide)
  case r2 => exact Nat.lt_of_le_of_lt (Nat.add_le_add_left (show 100 * t.dep + 100 ≤ 500 by omega) _) (by decide)
  case r3 =>
  rintro rr news' h50 tk50 F50 N50 ⟨tln, rfl, hextn, hrn⟩
  obtain ⟨IM50, N50b, hm, offstb, hcn⟩ := grow1 N50 not_tp_list hextn offst
  have ht50 := hcn _ _ (DatIn.mono (app_mem fun p hp => .tail _ hp) hrn)
  (try clear hrn); (try clear hextn); (try clear N50)
  replace mcR := hm _ mcR
  replace m45 := hm _ m45
  replace mfar := hm _ mfar
  replace mD1 := hm _ mD1
  replace mcN := hm _ mcN
  replace m38 := hm _ m38
  replace mkd := hm _ mkd
  replace mbd := hm _ mbd
  replace hIMt := DatIn.mono hm hIMt
  replace ht28 := DatIn.mono hm ht28
  replace ht48 := DatIn.mono hm ht48
  replace offst := offstb
  (try clear hm); (try clear hcn); (try clear Nn); (try clear Fn); (try clear offstb); (try clear tln)
  obtain ⟨x50, rfl⟩ := ht50.ref
  (try k_unmd); (try k_fold)
  k_steps
  unfold Stop
  rename News _ _ _ _ => Nn
  rename Fr _ _ _ _ => Fn
  rw [← num_fst] at ht50
  refine t_ne_same (t := (T.mapS nval nnxt ps0 t).1) Nn (DatIn.mono (fun p hp => .tail _ hp) ht48) (DatIn.mono (fun p hp => .tail _ hp) ht50) (by rw [num_fst, map_dep]; exact htdep) HU ?_
  (try clear ht50); (try clear ht48); (try clear hkd3); (try clear mkd); (try clear mbd); (try clear mR48)
  (try k_unmd); (try k_fold)
  k_steps
  unfold Stop
  rename_i td ht2 otd lotd hstd fstd hitd fitd ltd ht1 FF1 NN1 ht0 ttk tt1 tt2 tt3 hR Fn Nn hup
  have htd0 : DictIs PySem.Challenge.rw_ok0008_01.row.prog w otd [] := ⟨[], hitd, fitd⟩
  have qstd : @LT.lt Nat _ st td := ltd.1
  have otd50 : ∀ p ∈ IM50, p.1 ≠ td := fun p hp => Nat.ne_of_lt (allLt_mem ltd.2 p hp)
  replace offst : ∀ p ∈ IM50, p.1 ≠ st := offst
  have hsm : Builtin.Range.small 0 5 1 = true := by decide
  have hrs : Builtin.Range.rangeSize 0 5 1 = ((5 : Nat) : Int) := by decide
  (try clear hstd); (try clear fstd); (try clear hitd); (try clear fitd); (try clear ltd); (try clear FF1); (try clear NN1)
  refine iter_range (fun i m' nx => (∃ o' ps' vs' ns' n', nx = (td, o') :: (st, listOf vs'.toArray n') :: IM50 ∧ DictIs PySem.Challenge.rw_ok0008_01.row.prog w o' ps' ∧ ps'.length ≤ i ∧ Stk vs' ns') ∧ m' (Str.ofString "turned") = some (.ref td) ∧ m' (Str.ofString "low") = some (.ref x5) ∧ m' (Str.ofString "tree") = some (.ref xt) ∧ m' (Str.ofString "stock") = some (.ref st)) rfl Fn Nn hR hsm hrs ⟨⟨otd, [], vs7, ns7, n7, rfl, htd0, Nat.le_refl _, hstk7⟩, rfl, by assumption, by assumption, by assumption⟩ ?turn2 ?done2
  case turn2 =>
    rintro i ti m₂ nx I h'' tk'' oI hi ⟨⟨o', ps', vs', ns', n', rfl, ho', hpl', hstk'⟩, e1, e2, e3, e4⟩ hoffI F' N'
    have hId : ¬ ((I : Nat) = td) := fun e => hoffI _ (.head _) e.symm
    have hIs : st ≠ I := hoffI _ (.tail _ (.head _))
    have hzz : ps'.length ≤ 1000 := by omega
    (try k_unmd); (try k_fold)
    k_steps
    unfold Stop
    rename_i hq1 tkq Fq1 Nq1 DL hq0 F9 N9 lDL
    obtain ⟨LW, wns, hLW, hl4, N9⟩ : ∃ (LW : List Value) (wns : List Int), IntsAre LW wns ∧ wns.length = 4 ∧ News (ghostOf s1.heap [(49, 45), (42, 38)]) s1.heap.objs.size hq0 ((DL, listOf LW.toArray 0) :: (I, oI) :: (td, o') :: (st, listOf vs'.toArray n') :: IM50) := ⟨[_, _, _, _], [_, _, _, _], .cons _ _ (.cons _ _ (.cons _ _ (.cons _ _ .nil))), rfl, N9⟩
    have qDt : @LT.lt Nat _ td DL := lDL (td, o') (.tail _ (.head _))
    have qDs : @LT.lt Nat _ st DL := lDL (st, _) (.tail _ (.tail _ (.head _)))
    have qDI : @LT.lt Nat _ I DL := lDL (I, oI) (.head _)
    refine SpecB.use (draw_u (g := fun o => (DL, listOf LW.toArray 0) :: (I, oI) :: (td, o') :: (st, o) :: IM50) hstk' (by decide) (.tail (Nat.ne_of_gt qDs) (.tail (Ne.symm hIs) (.tail (Nat.ne_of_gt qstd) (.head offst))))) K1 F9 X1 N9 T1 C0 trivial rfl ?r1 ?r2 ?r3
    case r1 => decide
    case r2 => decide
    case r3 =>
    rintro rr news' h52 tk52 F52 N52 ⟨dr, tdr, vs6, ns6, n6, rfl, hdr0, hdr4, hstk6, rfl⟩
    obtain ⟨dn, rfl⟩ := Int.eq_ofNat_of_zero_le hdr0
    obtain ⟨xx, hxx⟩ : ∃ xx, wns[dn]? = some xx := ⟨_, List.getElem?_eq_getElem (by omega)⟩
    obtain ⟨txx, hvx⟩ := ints_get hLW hxx
    have hLWz : LW.length ≤ 1000 := by rw [hLW.length]; omega
    have hgoff : ∀ p ∈ (td, o') :: (st, listOf vs6.toArray n6) :: IM50, p.1 ≠ I := fun p hp => by
      rcases List.mem_cons.mp hp with e | hp
      · rw [e]; exact fun q => hId q.symm
      rcases List.mem_cons.mp hp with e | hp
      · rw [e]; exact hIs
      · exact hoffI p (.tail _ (.tail _ hp))
    (try clear lDL); (try clear N9); (try clear F9); (try clear Nq1); (try clear Fq1)
    (try k_unmd); (try k_fold)
    refine x_itemL (k := dn) (vs := LW) N52 (.head _) hLWz hvx ?_
    dsimp only
    (try k_unmd); (try k_fold)
    k_steps
    rename News _ _ _ _ => N9
    rename Fr _ _ _ _ => F9
    rename DictIs _ w _ (put _ _ _) => ho9
    dsimp only [ItPost]
    refine ItEnd.intro F9 N9 (fun p hp => .tail _ hp) ?g2 ⟨⟨_, _, vs6, ns6, n6, rfl, ho9, Nat.le_trans (put_length _ _ _) (Nat.succ_le_succ hpl'), hstk6⟩, e1, e2, e3, e4⟩
    case g2 =>
      intro p hp
      rcases List.mem_cons.mp hp with e | hp
      · rw [e]; exact fun q => hId q.symm
      · exact hgoff p (.tail _ hp)
  case done2 =>
  rintro m₂ nx h54 tk54 ⟨⟨otd2, psT, vs8, ns8, n8, rfl, htd, hplT, hstk8⟩, e1, e2, e3, e4⟩ Fq Nq
  replace Nq := news_sub (B := (td, otd2) :: (st, listOf vs8.toArray n8) :: IM50) Nq (fun p hp => hp)
  obtain ⟨IM54, Nf, hm, mtd, offstb⟩ := freeze1 Nq offst (Nat.ne_of_gt qstd)
  replace Nq := Nf
  replace mcR := hm _ mcR
  replace m45 := hm _ m45
  replace mfar := hm _ mfar
  replace mD1 := hm _ mD1
  replace mcN := hm _ mcN
  replace m38 := hm _ m38
  replace hIMt := DatIn.mono hm hIMt
  replace ht28 := DatIn.mono hm ht28
  replace offst : ∀ p ∈ IM54, p.1 ≠ st := offstb
  (try clear hm); (try clear offstb); (try clear Nf); (try clear qstd); (try clear otd50); (try clear hup); (try clear hR); (try clear hsm); (try clear hrs); (try clear htd0); (try clear hstk7)
  dsimp only
  (try k_unmd); (try k_fold)
  k_steps
  unfold Stop
  rename News _ _ _ _ => Nn
  rename Fr _ _ _ _ => Fn
  refine SpecB.use (changed_spec (im := _) lotd htd htok hIMt (fun p hp => .tail _ hp) (.tail _ mtd)) K1 Fn X1 Nn T1 C0 trivial rfl ?r1 ?r2 ?r3
  case r1 => exact Nat.lt_of_le_of_lt (Nat.add_le_add_left (show 10 * t.dep + 10 ≤ 40 by omega) _) (by decide)
  case r2 => exact Nat.lt_of_le_of_lt (Nat.add_le_add_left (show 100 * t.dep + 100 ≤ 500 by omega) _) (by decide)
  case r3 =>
  rintro rr news' h56 tk56 F56 N56 ⟨tln, rfl, hextn, hrn⟩
  obtain ⟨IM56, N56b, hm, offstb, hcn⟩ := grow1 N56 not_tp_list hextn offst
  have ht56 := hcn _ _ (DatIn.mono (app_mem fun p hp => .tail _ hp) hrn)
  (try clear hrn); (try clear hextn); (try clear N56)
  replace mcR := hm _ mcR
  replace m45 := hm _ m45
  replace mfar := hm _ mfar
  replace mD1 := hm _ mD1
  replace mcN := hm _ mcN
  replace m38 := hm _ m38
  replace mtd := hm _ mtd
  replace hIMt := DatIn.mono hm hIMt
  replace ht28 := DatIn.mono hm ht28
  replace offst := offstb
  (try clear hm); (try clear hcn); (try clear Nn); (try clear Fn); (try clear offstb); (try clear tln)
  obtain ⟨x56, rfl⟩ := ht56.ref
  (try k_unmd); (try k_fold)
  k_steps
  unfold Stop
  obtain ⟨gT, hgT⟩ : ∃ gT : Int → Int, gT = fun k => (List.lookup k psT).getD k := ⟨_, rfl⟩
  rw [← hgT] at ht56
  rename News _ _ _ _ => Nn
  rename Fr _ _ _ _ => Fn
  refine SpecB.use (rnm_spec RB dN1 dN2 (map_ok _ t htok) (DatIn.mono (fun p hp => .tail _ hp) ht56) (by rw [map_sz]; omega) (.tail _ mcN) (.tail _ m38)) K1 Fn X1 Nn T1 C0 trivial rfl ?r1 ?r2 ?r3
  case r1 => decide
  case r2 => decide
  case r3 =>
  rintro rr news' h58 tk58 F58 N58 ⟨tln, R58, r58, d58, od58, rfl, rfl, lo58, hd58, hr58, hextn, hfn, hRn⟩
  obtain ⟨IM58, N58b, hm, mR58, md58, offstb, hcn⟩ := growN N58 not_tp_list hextn hfn hRn offst
  have ht58 := hcn _ _ hr58
  (try clear hr58); (try clear hextn); (try clear hfn); (try clear hRn); (try clear N58); (try clear hd58)
  replace mcR := hm _ mcR
  replace m45 := hm _ m45
  replace mfar := hm _ mfar
  replace mD1 := hm _ mD1
  replace mcN := hm _ mcN
  replace m38 := hm _ m38
  replace mtd := hm _ mtd
  replace hIMt := DatIn.mono hm hIMt
  replace ht28 := DatIn.mono hm ht28
  replace ht56 := DatIn.mono hm ht56
  replace offst := offstb
  (try clear hm); (try clear hcn); (try clear Nn); (try clear Fn); (try clear offstb); (try clear tln)
  obtain ⟨x58, rfl⟩ := ht58.ref
  (try k_unmd); (try k_fold)
  k_steps
  unfold Stop
  rename News _ _ _ _ => Nn
  rename Fr _ _ _ _ => Fn
  refine t_eq (t := num (t.map gT)) (u := num t) Nn (DatIn.mono (fun p hp => .tail _ hp) ht58) (DatIn.mono (fun p hp => .tail _ hp) ht28) (by rw [num_dep, map_dep]; exact htdep) (by rw [num_dep]; exact htdep) HU ?_
  intro bA hbA
  rw [num_iff] at hbA
  (try clear Nq); (try clear ht58)
  (try k_unmd); (try k_fold)
  k_steps
  unfold Stop
  rename News _ _ _ _ => Nn
  rename Fr _ _ _ _ => Fn
  refine SpecB.use (var_spec (f := fun k => k) (g := gT) (u := t) htok (by rw [map_id]; exact DatIn.mono (fun p hp => .tail _ hp) hIMt) (DatIn.mono (fun p hp => .tail _ hp) ht56) (by omega)) K1 Fn X1 Nn T1 C0 trivial rfl ?r1 ?r2 ?r3
  case r1 => decide
  case r2 => decide
  case r3 =>
  rintro rr news' h60 tk60 F60 N60 ⟨bb60, rfl, rfl, hbb60⟩
  rw [cons_id] at hbb60
  obtain rfl := bool_same hbb60 hbA
  (try clear Nn); (try clear Fn)
  (try k_unmd); (try k_fold)
  k_steps
  unfold Stop
  rename News _ _ _ _ => Nn
  rename Fr _ _ _ _ => Fn
  refine SpecB.use (var_spec (f := gT) (g := fun k => k) (u := t) htok (DatIn.mono (fun p hp => .tail _ hp) ht56) (by rw [map_id]; exact DatIn.mono (fun p hp => .tail _ hp) hIMt) (by omega)) K1 Fn X1 Nn T1 C0 trivial rfl ?r1 ?r2 ?r3
  case r1 => decide
  case r2 => decide
  case r3 =>
  rintro rr news' h62 tk62 F62 N62 ⟨bb62, rfl, rfl, hbb62⟩
  rw [cons_id'] at hbb62
  obtain rfl := bool_same hbb62 hbA
  (try clear Nn); (try clear Fn)
  (try k_unmd); (try k_fold)
  k_steps
  rw [hQQ]
  k_steps
  )
end

end
end Mine
theorem PySem.Challenge.cw_ok0008_01_holds : PySem.Challenge.rw_ok0008_01.Holds := by
  exact Mine.law_walk
