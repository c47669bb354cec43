import PyProof.Rows.All
import Wide.All
import OpenK.AllK
import Wide.FinOn
import PySem.Challenge.RW_og0068_01
open PySem PySem.W PyProof.Rows
set_option Elab.async false
set_option compiler.extract_closed false
namespace Mine
set_option maxRecDepth 100000
set_option maxHeartbeats 8000000
set_option synthInstance.maxSize 1 in
open_top hd for PySem.Challenge.rw_og0068_01
abbrev Led := List (Addr × Obj)
abbrev Pg : Program := PySem.Challenge.rw_og0068_01.row.prog
def Spec (w : World) (n : Nat) (f : Addr) (vs : List Value) (news : Led) (Post : Value → Led → Prop) : Prop :=
  ∀ (mean : ExcName → Option Value) (mg mb : Str → Option Value) (dp un : Nat) (gd : Option (List Code)) (env : Env) (outer : List Env) (A₀ : Around) (base h₀ : Heap) (L : Addr) (m : Str → Option Value) (s : Shared) (Q E : Value → Shared → Prop),
    Below A₀ base outer h₀ → Fr h₀ L s.heap m → (hd.heap_39 w.params).In h₀ → News h₀ L s.heap news → Top hd.view_39 (looseW hd.view_39 [Str.ofString "LedgerError"]) mean mg mb h₀ → env.frame = some L → env.scope.kind = .function →
    dp + n < recursionLimit → un + 8 * n < cLine →
    (∀ r news' h' tk', Fr h₀ L h' m → News h₀ L h' news' → Post r news' → Q r { s with heap := h', toks := tk' }) →
    wpAny (model PySem.Challenge.rw_og0068_01.row.prog w) { handled := none, depth := dp, frames := some (env :: outer), guards := gd, units := un } (call (.ref f) vs) Q E s
theorem Spec.use {w : World} {n : Nat} {f : Addr} {vs : List Value} {news : Led} {Post : Value → Led → Prop} (S : Spec w n f vs news Post)
    {mean : ExcName → Option Value} {mg mb : Str → Option Value} {dp un : Nat} {gd : Option (List Code)} {env : Env} {outer : List Env} {A₀ : Around} {base h₀ : Heap} {L : Addr} {m : Str → Option Value} {s : Shared} {Q E : Value → Shared → Prop}
    (B : Below A₀ base outer h₀) (F : Fr h₀ L s.heap m) (X : (hd.heap_39 w.params).In h₀) (N : News h₀ L s.heap news) (T : Top hd.view_39 (looseW hd.view_39 [Str.ofString "LedgerError"]) mean mg mb h₀) (hf : env.frame = some L) (hk : env.scope.kind = .function)
    (hd : dp + n < recursionLimit) (hu : un + 8 * n < cLine)
    (h : ∀ r news' h' tk', Fr h₀ L h' m → News h₀ L h' news' → Post r news' → Q r { s with heap := h', toks := tk' }) :
    wpAny (model PySem.Challenge.rw_og0068_01.row.prog w) { handled := none, depth := dp, frames := some (env :: outer), guards := gd, units := un } (call (.ref f) vs) Q E s :=
  S mean mg mb dp un gd env outer A₀ base h₀ L m s Q E B F X N T hf hk hd hu h

/-! bytes as lists -/
def cutI (l : List UInt8) (lo hi : Option Int) : List UInt8 := (l.drop (lo.elim 0 (clipAt l.length))).take (hi.elim l.length (clipAt l.length) - lo.elim 0 (clipAt l.length))
theorem cutI_le (l : List UInt8) (lo hi : Option Int) : (cutI l lo hi).length ≤ l.length := by
  unfold cutI
  rw [List.length_take, List.length_drop]
  exact Nat.le_trans (Nat.min_le_right _ _) (Nat.sub_le _ _)
theorem cut_room0 {l : List UInt8} {lo hi : Option Int} {N : Nat} (h : l.length ≤ N) : (cutI l lo hi).length ≤ N := Nat.le_trans (cutI_le l lo hi) h
theorem cut_room1 {l : List UInt8} {lo hi : Option Int} {k N : Nat} (h : k + l.length ≤ N) : k + (cutI l lo hi).length ≤ N := Nat.le_trans (Nat.add_le_add_left (cutI_le l lo hi) k) h
theorem cut_room2 {g q : List UInt8} {a b c d : Option Int} {N : Nat} (h : g.length + q.length ≤ N) : (cutI g a b).length + (cutI q c d).length ≤ N := Nat.le_trans (Nat.add_le_add (cutI_le g a b) (cutI_le q c d)) h
theorem cut_room3 {g q r : List UInt8} {a b c d e f : Option Int} {N : Nat} (h : g.length + q.length + r.length ≤ N) : (cutI g a b ++ cutI q c d).length + (cutI r e f).length ≤ N := by
  rw [List.length_append]
  exact Nat.le_trans (Nat.add_le_add (Nat.add_le_add (cutI_le g a b) (cutI_le q c d)) (cutI_le r e f)) h
theorem cutI_length (l : List UInt8) (lo hi : Option Int) : (cutI l lo hi).length = min (hi.elim l.length (clipAt l.length) - lo.elim 0 (clipAt l.length)) (l.length - lo.elim 0 (clipAt l.length)) := by
  unfold cutI
  rw [List.length_take, List.length_drop]
theorem picked_cut (l : List UInt8) (lo hi : Option Int) : KBy.picked l.toArray lo hi = (cutI l lo hi).toArray := by
  rw [KBc.picked_eq]
  simp [cutI]
section
variable {prog : Program} {w : World} {A : Around} {E : Value → Shared → Prop} {s : Shared} {value slice : PySem.Expr} {t u : Tok} {h₀ : Heap} {L : Addr} {m : PySem.Str → Option Value} {news : Led} {Q : Value → Shared → Prop} {l : List UInt8}
theorem b_slice {lv uv : Value} {lo hi : Option Int} (hF : Fr h₀ L s.heap m) (hN : News h₀ L s.heap news) (hl : IsPart lv lo) (hu : IsPart uv hi) (hz : l.length ≤ 16777216)
    (h : ∀ h' t' k, Fr h₀ L h' m → News h₀ L h' news → Q (.bytes (cutI l lo hi).toArray t') { s with heap := h', toks := k })
    (hs : subscripted slice false (.bytes l.toArray t) (.ref s.heap.objs.size) = operate [.ref s.heap.objs.size, .bytes l.toArray t] (getItem (.bytes l.toArray t) (.ref s.heap.objs.size)) := by with_unfolding_all rfl)
    (ht : ∀ r, letTemporaryGo value (.bytes l.toArray t) r = pure () := by intro _; with_unfolding_all rfl) :
    wpAny (model prog w) A (subscriptTail value slice (.bytes l.toArray t) (.ref s.heap.objs.size)) Q E { s with heap := s.heap.push { cls := .type "slice", data := .fields #[lv, uv, .none] } } :=
  KBc.slice_K hF hN rfl hl hu (by rw [KBw.ints_length]; simpa using hz) (fun h' t' k F N _ => by rw [picked_cut]; exact h h' t' k F N) hs ht
theorem b_len (hz : l.length ≤ 16777216) (h : ∀ t k, Q (.int (l.length : Nat) t) { s with toks := k }) : wpAny (model prog w) A (call (.builtin "len") [.bytes l.toArray t]) Q E s :=
  len_bytes (by simp; omega) (by simpa using h _ _)
theorem b_eq {k : List UInt8} (h : Q (.bool (l == k)) s) : wpAny (model prog w) A (compareOp .Eq (.bytes l.toArray t) (.bytes k.toArray u)) Q E s := eq_bytes (by simpa using h)
theorem b_ne {k : List UInt8} (h : Q (.bool (l != k)) s) : wpAny (model prog w) A (compareOp .NotEq (.bytes l.toArray t) (.bytes k.toArray u)) Q E s := ne_bytes (by simpa using h)
theorem b_add {k : List UInt8} (hz : l.length + k.length ≤ 16777216) (h : ∀ t' n, Q (.bytes (l ++ k).toArray t') { s with toks := n }) : wpAny (model prog w) A (binaryOp .Add (.bytes l.toArray t) (.bytes k.toArray u)) Q E s :=
  KBy.add_bytes (by simpa using hz) (fun t' n => by simpa using h t' n)
theorem b_item {i : Int} {ui : Tok} (hz : l.length ≤ 16777216) (h0 : 0 ≤ i) (h1 : i < (l.length : Int)) (h : ∀ t' k, Q (.int (l.getD i.toNat 0).toNat t') { s with toks := k })
    (hs : subscripted slice false (.bytes l.toArray t) (.int i ui) = operate [.bytes l.toArray t, .int i ui] (getItem (.bytes l.toArray t) (.int i ui)) := by with_unfolding_all rfl)
    (ht : ∀ r, letTemporaryGo value (.bytes l.toArray t) r = pure () := by intro _; with_unfolding_all rfl) :
    wpAny (model prog w) A (subscriptTail value slice (.bytes l.toArray t) (.int i ui)) Q E s :=
  KBy.item_N (by omega) h0 h1 (h _ _) hs ht
end

section
variable {prog : Program} {w : World} {A : Around} {E : Value → Shared → Prop} {s : Shared} {env : Env} {h₀ : Heap} {x : Str} {body : List Stmt} {Q : Flow → Shared → Prop}
/-- a for over a range by ones -/
theorem range_rule {r : Addr} {a₀ b₀ : Int} {t₀ u₀ v₀ : Tok} {n : Nat} {m₀ : Str → Option Value} {news : Led} (J : Nat → (Str → Option Value) → Led → Prop)
    (hh : A.handled = none) (hr : IsRange s.heap r a₀ b₀ 1 t₀ u₀ v₀) (hsmall : Builtin.Range.small a₀ b₀ 1 = true) (hsz : Builtin.Range.rangeSize a₀ b₀ 1 = (n : Int)) (F : Fr h₀ env.locals s.heap m₀) (N : News h₀ env.locals s.heap news) (hj : J 0 m₀ news)
    (turn : ∀ (i : Nat) t m₁ nx h tk own, i < n → OwnOff own (nx.map (·.1)) → J i m₁ nx → Fr h₀ env.locals h (fun y => if y = x then some (.int (a₀ + (i : Int)) t) else m₁ y) → News h₀ env.locals h (nx ++ own) →
      wpAny (model prog w) A (execs body env) (InvPostG h₀ env.locals (J (i + 1)) own { s with heap := h, toks := tk } Q) E { s with heap := h, toks := tk })
    (done : ∀ m₁ nx h tk, J n m₁ nx → Fr h₀ env.locals h m₁ → News h₀ env.locals h nx → Q .next { s with heap := h, toks := tk }) :
    wpAny (model prog w) A (pyIter (.ref r)) (fun it s₂ => LoopAtV prog w A h₀ env x body Q E it s₂) E s := by
  refine wpAny_pyIter_range hr hsmall ?_
  have W : Walks prog w A s.heap.objs.size [s.heap.objs.size] [s.heap.objs.size] n (fun i v => i < n ∧ ∃ t, v = .int (a₀ + i * 1) t)
      (fun i h => IsRangeIter h s.heap.objs.size (a₀ + (i : Nat) * 1) ((n : Int) - (i : Nat)) 1) := (Walks.range hh _ a₀ 1 n).bound
  refine kdr_loop J W (fun _ h => h) (fun _ h => h) ?_ ?_ ?_ ?_ (by show IsRangeIter _ _ _ _ _; rw [hsz]; simpa using Heap.get?_push_size _ rfl) (F.push _) (fun p hp => ⟨Heap.get?_push_of_some _ (N p hp).1, (N p hp).2⟩) hj ?_ ?_
  · intro i h hi b hb
    rw [List.mem_singleton.mp hb]
    exact ⟨_, hi⟩
  · intro hm
    exact absurd F.ns.lt ((List.mem_singleton.mp hm) ▸ Nat.lt_irrefl _)
  · intro b hb
    rw [List.mem_singleton.mp hb]
    exact next_is_new F
  · intro p hp hI
    exact absurd (Heap.lt_size (N p hp).1) ((List.mem_singleton.mp hI) ▸ Nat.lt_irrefl _)
  · rintro i v m₁ nx h tk own hi ⟨_, t, rfl⟩ hoff hJ F₁ N₁
    rw [Int.mul_one] at F₁
    exact turn i t m₁ nx h tk own hi hoff hJ F₁ N₁
  · exact fun m₁ nx h tk => done m₁ nx h tk
end
theorem map_but {m₁ m₀ : Str → Option Value} {x : Str} {v : Option Value} (hm : ∀ z, z ≠ x → m₁ z = m₀ z) : (fun y => if y = x then v else m₁ y) = fun y => if y = x then v else m₀ y := by
  funext y
  by_cases h : y = x
  · simp [h]
  · simp only [if_neg h]; exact hm y h
theorem map_own {m₁ m₀ : Str → Option Value} {x : Str} (hm : ∀ z, z ≠ x → m₁ z = m₀ z) : m₁ = fun y => if y = x then m₁ x else m₀ y := by
  funext y
  by_cases h : y = x
  · simp [h]
  · simp only [if_neg h]; exact hm y h
def Stop (P : Prop) : Prop := P
theorem Stop.out {P : Prop} (h : Stop P) : P := h
theorem fr_cast {h₀ h : Heap} {L : Addr} {m m' : Str → Option Value} (F : Fr h₀ L h m) (e : m = m') : Fr h₀ L h m' := e ▸ F
def NewTo (news tl : Led) : Prop := ∀ q ∈ news, ∀ p ∈ tl, q.1 ≠ p.1
abbrev PostV (news : Led) (v : Value) : Value → Led → Prop := fun r news' => r = v ∧ news' = news
abbrev PostT (news : Led) (mk : Tok → Value) : Value → Led → Prop := fun r news' => (∃ t, r = mk t) ∧ news' = news
abbrev PostD (news : Led) (d : Dat) : Value → Led → Prop := fun r news' => ∃ tl, news' = tl ++ news ∧ NewTo news tl ∧ DatIn (tl ++ news) r d
section
variable {w : World} {n : Nat} {f : Addr} {vs : List Value} {news : Led}
    {mean : ExcName → Option Value} {mg mb : Str → Option Value} {dp un : Nat} {gd : Option (List Code)} {env : Env} {outer : List Env} {A₀ : Around} {base h₀ : Heap} {L : Addr} {m : Str → Option Value} {s : Shared} {Q E : Value → Shared → Prop}
theorem Spec.useV {v : Value} (S : Spec w n f vs news (PostV news v))
    (B : Below A₀ base outer h₀) (F : Fr h₀ L s.heap m) (X : (hd.heap_39 w.params).In h₀) (N : News h₀ L s.heap news) (T : Top hd.view_39 (looseW hd.view_39 [Str.ofString "LedgerError"]) mean mg mb h₀) (hf : env.frame = some L) (hk : env.scope.kind = .function)
    (hd : dp + n < recursionLimit) (hu : un + 8 * n < cLine)
    (h : ∀ h' tk', Fr h₀ L h' m → News h₀ L h' news → Q v { s with heap := h', toks := tk' }) :
    wpAny (model PySem.Challenge.rw_og0068_01.row.prog w) { handled := none, depth := dp, frames := some (env :: outer), guards := gd, units := un } (call (.ref f) vs) Q E s :=
  S.use B F X N T hf hk hd hu (by rintro _ _ h' tk' F' N' ⟨rfl, rfl⟩; exact h h' tk' F' N')
theorem Spec.useT {mk : Tok → Value} (S : Spec w n f vs news (PostT news mk))
    (B : Below A₀ base outer h₀) (F : Fr h₀ L s.heap m) (X : (hd.heap_39 w.params).In h₀) (N : News h₀ L s.heap news) (T : Top hd.view_39 (looseW hd.view_39 [Str.ofString "LedgerError"]) mean mg mb h₀) (hf : env.frame = some L) (hk : env.scope.kind = .function)
    (hd : dp + n < recursionLimit) (hu : un + 8 * n < cLine)
    (h : ∀ t h' tk', Fr h₀ L h' m → News h₀ L h' news → Q (mk t) { s with heap := h', toks := tk' }) :
    wpAny (model PySem.Challenge.rw_og0068_01.row.prog w) { handled := none, depth := dp, frames := some (env :: outer), guards := gd, units := un } (call (.ref f) vs) Q E s :=
  S.use B F X N T hf hk hd hu (by rintro _ _ h' tk' F' N' ⟨⟨t, rfl⟩, rfl⟩; exact h t h' tk' F' N')
theorem Spec.useD {d : Dat} (S : Spec w n f vs news (PostD news d))
    (B : Below A₀ base outer h₀) (F : Fr h₀ L s.heap m) (X : (hd.heap_39 w.params).In h₀) (N : News h₀ L s.heap news) (T : Top hd.view_39 (looseW hd.view_39 [Str.ofString "LedgerError"]) mean mg mb h₀) (hf : env.frame = some L) (hk : env.scope.kind = .function)
    (hd : dp + n < recursionLimit) (hu : un + 8 * n < cLine)
    (h : ∀ r tl h' tk', Fr h₀ L h' m → News h₀ L h' (tl ++ news) → NewTo news tl → DatIn (tl ++ news) r d → Q r { s with heap := h', toks := tk' }) :
    wpAny (model PySem.Challenge.rw_og0068_01.row.prog w) { handled := none, depth := dp, frames := some (env :: outer), guards := gd, units := un } (call (.ref f) vs) Q E s :=
  S.use B F X N T hf hk hd hu (by rintro r _ h' tk' F' N' ⟨tl, rfl, hn, hd⟩; exact h r tl h' tk' F' N' hn hd)
end
section
variable {prog : Program} {w : World} {A : Around} {E : Value → Shared → Prop} {s : Shared} {env : Env} {h₀ : Heap} {target : Expr} {body : List Stmt} {Q : Flow → Shared → Prop}
/-- a for over a list of the ledger, any target -/
theorem list_rule {ax : Addr} {lo : Obj} {vs : List Value} {n : Nat} {m₀ : Str → Option Value} {news : Led} (J : Nat → (Str → Option Value) → Led → Prop)
    (hh : A.handled = none) (F : Fr h₀ env.locals s.heap m₀) (N : News h₀ env.locals s.heap news) (hm : (ax, lo) ∈ news) (hc : lo.cls = .type "list") (hd : lo.data = .seq vs.toArray n) (hj : J 0 m₀ news)
    (hkeep : ∀ i m nx, J i m nx → (ax, lo) ∈ nx)
    (turn : ∀ (i : Nat) v m₁ nx h tk own, vs[i]? = some v → OwnOff own (nx.map (·.1)) → J i m₁ nx → Fr h₀ env.locals h m₁ → News h₀ env.locals h (nx ++ own) →
      wpAny (model prog w) A (assign target env v) (fun _ s₂ => wpAny (model prog w) A (execs body env) (InvPostG h₀ env.locals (J (i + 1)) own { s with heap := h, toks := tk } Q) E s₂) E { s with heap := h, toks := tk })
    (done : ∀ m₁ nx h tk, J vs.length m₁ nx → Fr h₀ env.locals h m₁ → News h₀ env.locals h nx → Q .next { s with heap := h, toks := tk }) :
    wpAny (model prog w) A (pyIter (.ref ax)) (fun it s₂ => TurnsAt prog w A h₀ env target body Q E it s₂) E s := by
  have hax := N _ hm
  have hl : s.heap.IsList ax vs.toArray := ⟨lo, hax.1, hc, n, hd⟩
  have hlt : ax < s.heap.objs.size := Heap.lt_size hax.1
  have hne : ax ≠ s.heap.objs.size := Nat.ne_of_lt hlt
  refine wpAny_pyIter_list hl ?_
  have W := KTurns.ofWalks (target := target) (Walks.list (prog := prog) (w := w) hh s.heap.objs.size ax hne vs.toArray) fun i v s Q E st q => letGo_listiter st.1 q
  refine ⟨s.heap.objs.size, [s.heap.objs.size, ax], [s.heap.objs.size], vs.toArray.size, _, _, _, m₀, news, J, rfl, W, ?_, ?_, ?_, ⟨⟨_, Heap.get?_push_size _ rfl, rfl, rfl⟩, hl.at fun o e => Heap.get?_push_of_some _ e⟩, F.push _, (fun p hp => ⟨Heap.get?_push_of_some _ (N p hp).1, (N p hp).2⟩), hj, ?_, ?_⟩
  · intro hI
    rcases List.mem_cons.mp hI with e | hI
    · exact absurd F.ns.lt (e ▸ Nat.lt_irrefl _)
    · exact hax.2.1 (List.mem_singleton.mp hI).symm
  · intro b hb
    rw [List.mem_singleton.mp hb]
    exact next_is_new F
  · intro p hp hI
    exact absurd (Heap.lt_size (N p hp).1) ((List.mem_singleton.mp hI) ▸ Nat.lt_irrefl _)
  · rintro i v m₁ news₁ h₁ tk₁ own hi hP hJ hoff hown hget hall hst F₁ N₁
    obtain ⟨oI, heI, rI⟩ := hst.1
    have hI0 : h₀.get? s.heap.objs.size = none := next_is_new F
    have hmI : (s.heap.objs.size, oI) ∈ own := hall _ List.mem_cons_self hI0 _ heI
    have ho : OwnOff [(s.heap.objs.size, oI)] (news₁.map (·.1)) := by
      intro p hp b hb e
      obtain ⟨q, hq, rfl⟩ := List.mem_map.mp hb
      rw [List.mem_singleton.mp hp] at e
      exact hoff q hq (by rw [← e]; exact List.mem_singleton.mpr rfl)
    have N₂ : News h₀ env.locals h₁ (news₁ ++ [(s.heap.objs.size, oI)]) := fun p hp => by
      rcases List.mem_append.mp hp with hp | hp
      · exact N₁ p (List.mem_append_right _ hp)
      · rw [List.mem_singleton.mp hp]
        exact N₁ _ (List.mem_append_left _ hmI)
    have hv : vs[i]? = some v := by
      have hP' : vs.toArray[i]? = some v := hP
      simpa using hP'
    have fin : ∀ s₃, InvEndG h₀ env.locals (J (i + 1)) [(s.heap.objs.size, oI)] { s with heap := h₁, toks := tk₁ } s₃ → LoopStepU h₀ env.locals [s.heap.objs.size] own (J (i + 1)) { s with heap := h₁, toks := tk₁ } .next s₃ := by
      rintro s₃ ⟨h', tk, m', news', nx, e, F', N', hn, ho', ha, hm'⟩
      have hm2 := hkeep _ _ _ hm'
      refine ⟨rfl, h', tk, m', nx, e, F', fun p hp => ?_, fun p hp hq => ?_, hm'⟩
      · rcases List.mem_append.mp hp with hp | hp
        · rcases List.mem_cons.mp (hown p hp) with q | q
          · have q2 : p.2 = oI := by
              have := hget p hp
              rw [q, heI] at this
              exact (Option.some.inj this).symm
            have : p = (s.heap.objs.size, oI) := Prod.ext q q2
            rw [this]
            exact N' _ (ho' _ (List.mem_singleton.mpr rfl))
          · have q1 := List.mem_singleton.mp q
            have q2 : p.2 = lo := by
              have h1 := hget p hp
              have h2 := (N₁ _ (List.mem_append_right _ (hkeep _ _ _ hJ))).1
              rw [q1, h2] at h1
              exact (Option.some.inj h1).symm
            have : p = (ax, lo) := Prod.ext q1 q2
            rw [this]
            exact N' _ (hn _ hm2)
        · exact N' _ (hn _ hp)
      · exact ha (s.heap.objs.size, oI) (List.mem_singleton.mpr rfl) p.1 (List.mem_map.mpr ⟨p, hp, rfl⟩) (List.mem_singleton.mp hq).symm
    refine wpAny_mono (turn i v m₁ news₁ h₁ tk₁ _ hv ho hJ F₁ N₂) (fun _ s₂ h₂ => wpAny_mono h₂ (fun f s₃ p => ?_) fun _ _ e => e) fun _ _ e => e
    cases f with
    | ret v => exact .ret p
    | brk => exact .brk p
    | next => exact .next (fin _ p)
    | cont => exact .cont (fin _ p)
  · intro h' tk m' news' F' N' _ hJ
    refine done m' news' h' tk ?_ F' N'
    simpa using hJ
end
theorem map_two {m : Str → Option Value} {a b : Str} {x y : Option Value} (ha : m a = x) (hb : m b = y) : m = fun z => if z = a then x else if z = b then y else m z := by
  funext z
  by_cases h : z = a
  · simp [h, ha]
  · simp only [if_neg h]
    by_cases h' : z = b
    · simp [h', hb]
    · simp only [if_neg h']
theorem map_one' {m : Str → Option Value} {a : Str} {x : Option Value} (ha : m a = x) : m = fun z => if z = a then x else m z := by
  funext z
  by_cases h : z = a
  · simp [h, ha]
  · simp only [if_neg h]
abbrev Row := List UInt8 × Option (List UInt8)
def markV (mk : Option (List UInt8)) (u : Tok) : Value := match mk with
  | none => .none
  | some d => .bytes d.toArray u
def markD (mk : Option (List UInt8)) : Dat := match mk with
  | none => .none
  | some d => .bytes d.toArray
def rowD (r : Row) : Dat := .tuple [.bytes r.1.toArray, markD r.2]
theorem dat_list {news : Led} {v : Value} {ds : List Dat} (h : DatIn news v (.list ds)) : ∃ a vs n, v = .ref a ∧ (a, listOf vs.toArray n) ∈ news ∧ DatAll news vs ds := by
  cases h with
  | list hm r => exact ⟨_, _, _, rfl, hm, r⟩
theorem dat_tuple {news : Led} {v : Value} {ds : List Dat} (h : DatIn news v (.tuple ds)) : ∃ a vs n, v = .ref a ∧ (a, ({ cls := .type "tuple", data := .seq vs.toArray n } : Obj)) ∈ news ∧ DatAll news vs ds := by
  cases h with
  | tuple hm r => exact ⟨_, _, _, rfl, hm, r⟩
theorem dat_cons {news : Led} {vs : List Value} {d : Dat} {ds : List Dat} (h : DatAll news vs (d :: ds)) : ∃ v r, vs = v :: r ∧ DatIn news v d ∧ DatAll news r ds := by
  cases h with
  | cons h r => exact ⟨_, _, rfl, h, r⟩
theorem dat_nil {news : Led} {vs : List Value} (h : DatAll news vs []) : vs = [] := by
  cases h; rfl
theorem dat_bytes {news : Led} {v : Value} {b : Array UInt8} (h : DatIn news v (.bytes b)) : ∃ t, v = .bytes b t := by
  cases h; exact ⟨_, rfl⟩
theorem dat_int {news : Led} {v : Value} {i : Int} (h : DatIn news v (.int i)) : ∃ t, v = .int i t := by
  cases h; exact ⟨_, rfl⟩
theorem dat_bool {news : Led} {v : Value} {b : Bool} (h : DatIn news v (.bool b)) : v = .bool b := by
  cases h; rfl
theorem dat_mark {news : Led} {v : Value} {mk : Option (List UInt8)} (h : DatIn news v (markD mk)) : ∃ u, v = markV mk u := by
  cases mk with
  | none => cases h; exact ⟨0, rfl⟩
  | some d => cases h; exact ⟨_, rfl⟩
theorem dat_row {news : Led} {v : Value} {r : Row} (h : DatIn news v (rowD r)) : ∃ a t u n, v = .ref a ∧ (a, ({ cls := .type "tuple", data := .seq [.bytes r.1.toArray t, markV r.2 u].toArray n } : Obj)) ∈ news := by
  obtain ⟨a, vs, n, rfl, hm, hall⟩ := dat_tuple h
  obtain ⟨v1, r1, rfl, h1, hall⟩ := dat_cons hall
  obtain ⟨v2, r2, rfl, h2, hall⟩ := dat_cons hall
  obtain rfl := dat_nil hall
  obtain ⟨t, rfl⟩ := dat_bytes h1
  obtain ⟨u, rfl⟩ := dat_mark h2
  exact ⟨a, t, u, n, rfl, hm⟩
theorem dat_get {news : Led} {α : Type} {f : α → Dat} {rows : List α} : ∀ {vs : List Value}, DatAll news vs (rows.map f) → ∀ {i : Nat} {v : Value}, vs[i]? = some v → ∃ r, rows[i]? = some r ∧ DatIn news v (f r) := by
  induction rows with
  | nil => intro vs h i v e; rw [dat_nil h] at e; simp at e
  | cons r rs ih =>
    intro vs h i v e
    obtain ⟨v1, r1, rfl, h1, hall⟩ := dat_cons h
    cases i with
    | zero => exact ⟨r, rfl, by have e' : v1 = v := by simpa using e
                                exact e' ▸ h1⟩
    | succ k => exact ih hall (by simpa using e)
theorem endN {h₀ h : Heap} {L D : Addr} {o : Obj} {rest news : Led} (N : News h₀ L h ((D, o) :: rest)) (hs : ∀ p ∈ news, p ∈ rest) : News h₀ L h ([(D, o)] ++ news) :=
  fun p hp => by
    rcases List.mem_cons.mp hp with e | hp
    · exact N p (e ▸ List.mem_cons_self)
    · exact N p (List.mem_cons_of_mem _ (hs p hp))
theorem endNew {D : Addr} {o : Obj} {rest news : Led} (l1 : ∀ p ∈ rest, p.1 < D) (hs : ∀ p ∈ news, p ∈ rest) : NewTo news [(D, o)] :=
  fun q hq p hp => by rw [List.mem_singleton.mp hp]; exact Nat.ne_of_lt (l1 q (hs q hq))
section
variable {w : World} {n : Nat} {f : Addr} {vs : List Value} {news : Led}
    {mean : ExcName → Option Value} {mg mb : Str → Option Value} {dp un : Nat} {gd : Option (List Code)} {env : Env} {outer : List Env} {A₀ : Around} {base h₀ : Heap} {L : Addr} {m : Str → Option Value} {s : Shared} {Q E : Value → Shared → Prop}
theorem Spec.useT2 {x : Array UInt8} {b : Bool} (S : Spec w n f vs news (PostD news (.tuple [.bytes x, .bool b])))
    (B : Below A₀ base outer h₀) (F : Fr h₀ L s.heap m) (X : (hd.heap_39 w.params).In h₀) (N : News h₀ L s.heap news) (T : Top hd.view_39 (looseW hd.view_39 [Str.ofString "LedgerError"]) mean mg mb h₀) (hf : env.frame = some L) (hk : env.scope.kind = .function)
    (hd : dp + n < recursionLimit) (hu : un + 8 * n < cLine)
    (h : ∀ a tx k tl h' tk', Fr h₀ L h' m → News h₀ L h' (tl ++ news) → NewTo news tl → (a, ({ cls := .type "tuple", data := .seq [.bytes x tx, .bool b].toArray k } : Obj)) ∈ tl ++ news → Q (.ref a) { s with heap := h', toks := tk' }) :
    wpAny (model PySem.Challenge.rw_og0068_01.row.prog w) { handled := none, depth := dp, frames := some (env :: outer), guards := gd, units := un } (call (.ref f) vs) Q E s := by
  refine S.useD B F X N T hf hk hd hu fun r tl h' tk' F' N' hn hd => ?_
  obtain ⟨a, us, k, rfl, hm, hall⟩ := dat_tuple hd
  obtain ⟨v1, r1, rfl, h1, hall⟩ := dat_cons hall
  obtain ⟨v2, r2, rfl, h2, hall⟩ := dat_cons hall
  obtain rfl := dat_nil hall
  obtain ⟨t1, rfl⟩ := dat_bytes h1
  obtain rfl := dat_bool h2
  exact h _ _ _ _ _ _ F' N' hn hm
theorem Spec.useBBI {x y : Array UInt8} {i : Int} (S : Spec w n f vs news (PostD news (.tuple [.bytes x, .bytes y, .int i])))
    (B : Below A₀ base outer h₀) (F : Fr h₀ L s.heap m) (X : (hd.heap_39 w.params).In h₀) (N : News h₀ L s.heap news) (T : Top hd.view_39 (looseW hd.view_39 [Str.ofString "LedgerError"]) mean mg mb h₀) (hf : env.frame = some L) (hk : env.scope.kind = .function)
    (hd : dp + n < recursionLimit) (hu : un + 8 * n < cLine)
    (h : ∀ a tx ty ti k tl h' tk', Fr h₀ L h' m → News h₀ L h' (tl ++ news) → NewTo news tl → (a, ({ cls := .type "tuple", data := .seq [.bytes x tx, .bytes y ty, .int i ti].toArray k } : Obj)) ∈ tl ++ news → Q (.ref a) { s with heap := h', toks := tk' }) :
    wpAny (model PySem.Challenge.rw_og0068_01.row.prog w) { handled := none, depth := dp, frames := some (env :: outer), guards := gd, units := un } (call (.ref f) vs) Q E s := by
  refine S.useD B F X N T hf hk hd hu fun r tl h' tk' F' N' hn hd => ?_
  obtain ⟨a, us, k, rfl, hm, hall⟩ := dat_tuple hd
  obtain ⟨v1, r1, rfl, h1, hall⟩ := dat_cons hall
  obtain ⟨v2, r2, rfl, h2, hall⟩ := dat_cons hall
  obtain ⟨v3, r3, rfl, h3, hall⟩ := dat_cons hall
  obtain rfl := dat_nil hall
  obtain ⟨t1, rfl⟩ := dat_bytes h1
  obtain ⟨t2, rfl⟩ := dat_bytes h2
  obtain ⟨t3, rfl⟩ := dat_int h3
  exact h _ _ _ _ _ _ _ _ F' N' hn hm
theorem Spec.useBIB {x : Array UInt8} {i : Int} {b : Bool} (S : Spec w n f vs news (PostD news (.tuple [.bytes x, .int i, .bool b])))
    (B : Below A₀ base outer h₀) (F : Fr h₀ L s.heap m) (X : (hd.heap_39 w.params).In h₀) (N : News h₀ L s.heap news) (T : Top hd.view_39 (looseW hd.view_39 [Str.ofString "LedgerError"]) mean mg mb h₀) (hf : env.frame = some L) (hk : env.scope.kind = .function)
    (hd : dp + n < recursionLimit) (hu : un + 8 * n < cLine)
    (h : ∀ a tx ti k tl h' tk', Fr h₀ L h' m → News h₀ L h' (tl ++ news) → NewTo news tl → (a, ({ cls := .type "tuple", data := .seq [.bytes x tx, .int i ti, .bool b].toArray k } : Obj)) ∈ tl ++ news → Q (.ref a) { s with heap := h', toks := tk' }) :
    wpAny (model PySem.Challenge.rw_og0068_01.row.prog w) { handled := none, depth := dp, frames := some (env :: outer), guards := gd, units := un } (call (.ref f) vs) Q E s := by
  refine S.useD B F X N T hf hk hd hu fun r tl h' tk' F' N' hn hd => ?_
  obtain ⟨a, us, k, rfl, hm, hall⟩ := dat_tuple hd
  obtain ⟨v1, r1, rfl, h1, hall⟩ := dat_cons hall
  obtain ⟨v2, r2, rfl, h2, hall⟩ := dat_cons hall
  obtain ⟨v3, r3, rfl, h3, hall⟩ := dat_cons hall
  obtain rfl := dat_nil hall
  obtain ⟨t1, rfl⟩ := dat_bytes h1
  obtain ⟨t2, rfl⟩ := dat_int h2
  obtain rfl := dat_bool h3
  exact h _ _ _ _ _ _ _ F' N' hn hm
end
theorem map_three {m : Str → Option Value} {a b c : Str} {x y v : Option Value} (ha : m a = x) (hb : m b = y) (hc : m c = v) : m = fun z => if z = a then x else if z = b then y else if z = c then v else m z := by
  funext z
  by_cases h : z = a
  · simp [h, ha]
  · simp only [if_neg h]
    by_cases h' : z = b
    · simp [h', hb]
    · simp only [if_neg h']
      by_cases h'' : z = c
      · simp [h'', hc]
      · simp only [if_neg h'']
def Has (m : Str → Option Value) : List (Str × Value) → Prop
  | [] => True
  | p :: r => m p.1 = some p.2 ∧ Has m r
theorem map_many {m : Str → Option Value} (l : List (Str × Value)) (h : Has m l) : m = fun z => (l.lookup z).or (m z) := by
  funext z
  induction l with
  | nil => rfl
  | cons p r ih =>
    obtain ⟨x, v⟩ := p
    show m z = (match z == x with | true => some v | false => r.lookup z).or (m z)
    by_cases e : z = x
    · subst e
      rw [beq_self_eq_true]
      exact h.1
    · rw [show (z == x) = false from beq_eq_false_iff_ne.mpr e]
      exact ih h.2
theorem news_upd1 {h₀ h h' : Heap} {L D : Addr} {o : Obj} {news : Led} (N : News h₀ L h news) (hs : Heap.SameBut D h h') (hD : h'.get? D = some o) (hm : ∃ o', (D, o') ∈ news) : News h₀ L h' ((D, o) :: news.filter fun p => p.1 ≠ D) := by
  intro p hp
  obtain ⟨o', hm⟩ := hm
  rcases List.mem_cons.mp hp with rfl | hp
  · exact ⟨hD, (N _ hm).2⟩
  · obtain ⟨h1, h2⟩ := List.mem_filter.mp hp
    have h2' : p.1 ≠ D := by simpa using h2
    exact ⟨(hs.2 _ h2').trans (N p h1).1, (N p h1).2⟩
theorem mem_upd1 {D : Addr} {o : Obj} {news : Led} {p : Addr × Obj} (h : p ∈ news) (hne : p.1 ≠ D) : p ∈ (D, o) :: news.filter fun p => p.1 ≠ D :=
  List.mem_cons_of_mem _ (List.mem_filter.mpr ⟨h, by simpa using hne⟩)
section
variable {prog : Program} {w : World} {A : Around} {E : Value → Shared → Prop} {s : Shared} {h₀ : Heap} {L : Addr} {m : Str → Option Value} {news : Led}
theorem append_M {D : Addr} {vs : List Value} {n : Nat} {x : Value} {Q : Value → Shared → Prop} (F : Fr h₀ L s.heap m) (N : News h₀ L s.heap news) (hm : (D, listOf vs.toArray n) ∈ news)
    (h : ∀ h', Fr h₀ L h' m → News h₀ L h' ((D, listOf (vs ++ [x]).toArray (n + 1)) :: news.filter fun p => p.1 ≠ D) → Q .none { s with heap := h' }) (hsz : vs.length ≤ sizeLine) :
    wpAny (model prog w) A (call (.builtin "list.append") [.ref D, x]) Q E s := by
  have z := N _ hm
  refine append_at (hsz := by rw [List.size_toArray]; exact hsz) z.1 fun h' hs ho' => h h' (F.change hs z.2.1 z.2.2) (news_upd1 N hs ?_ ⟨_, hm⟩)
  rw [ho', List.push_toArray]
end
theorem fits_of {n : Nat} (h : n ≤ 1000000) : n ≤ sizeLine := by rw [PySem.sizeLine_eq]; omega
theorem len_M {prog : Program} {w : World} {A : Around} {E : Value → Shared → Prop} {s : Shared} {h₀ : Heap} {L : Addr} {news : Led} {D : Addr} {vs : List Value} {n : Nat} {Q : Value → Shared → Prop} (N : News h₀ L s.heap news) (hm : (D, listOf vs.toArray n) ∈ news) (hz : vs.length ≤ 1000000)
    (h : ∀ t k, Q (.int (vs.length : Nat) t) { s with toks := k }) : wpAny (model prog w) A (call (.builtin "len") [.ref D]) Q E s :=
  PyProof.Rows.len_list ⟨_, (N _ hm).1, rfl, _, rfl⟩ (by rw [List.size_toArray]; omega) (by rw [List.size_toArray]; exact h _ _)

namespace Lc
open LCg LCt
section
variable {prog : Program} {w : World} {A : Around} {s : Shared} {h₀ : Heap} {L : Addr} {m : Str → Option Value} {env : Env}
theorem end_mono {s₁ : Shared} {I : Addr} {oI : Obj} {C : Addr} {oC : Obj} {D : Addr} {oD : Obj} {S : Led → Prop} {rest rest' : Value → Led → Prop} {y : Value} {s₂ : Shared} (h : CompEnd h₀ L m s₁ I oI C oC D oD S rest y s₂) (hr : ∀ nw, rest y nw → rest' y nw) :
    CompEnd h₀ L m s₁ I oI C oC D oD S rest' y s₂ := by
  obtain ⟨h', tk, news', e, F, N, off, hS, r⟩ := h
  exact ⟨h', tk, news', e, F, N, off, hS, hr _ r⟩
theorem comp_rule {elt : Expr} {x : Str} {scope : Scope} {cl : List (Str × Addr)} {S : Led → Prop} {P : Nat → Value → Prop} {Fin : List Value → Led → Prop} {n : Nat} {news : Led} (J : Nat → List Value → Led → Prop) (h0 : J 0 [] news)
    (turn : ∀ i ys nx v I oI C oC D m₂ h tk (E' : Value → Shared → Prop), i < n → P i v → J i ys nx → NsObj oC m₂ → m₂ x = some v → Fr h₀ L h m → News h₀ L h ((I, oI) :: (C, oC) :: (D, lst ys) :: nx) → Off3 I C D nx → ((@Ne Nat I C) ∧ (@Ne Nat I D) ∧ (@Ne Nat C D)) →
      wpAny (model prog w) A (eval elt (compEnvC scope cl C env)) (CompEnd h₀ L m { s with heap := h, toks := tk } I oI C oC D (lst ys) S (fun y news' => J (i + 1) (ys ++ [y]) news')) E' { s with heap := h, toks := tk })
    (fin : ∀ ys nx, J n ys nx → Fin ys nx) : CompRest prog w A h₀ L m env elt x scope cl s S P Fin n 0 [] news := by
  have all : ∀ k i ys nx, i + k = n → J i ys nx → CompRest prog w A h₀ L m env elt x scope cl s S P Fin k i ys nx := by
    intro k
    induction k with
    | zero => intro i ys nx e hJ; exact CompRest.zero (fin _ _ (by have : i = n := by omega
                                                                   exact this ▸ hJ))
    | succ k ih =>
      intro i ys nx e hJ
      refine CompRest.succ fun v I oI C oC D m₂ h tk E' hP hn hx F N off ne => ?_
      exact wpAny_mono (turn i ys nx v I oI C oC D m₂ h tk E' (by omega) hP hJ hn hx F N off ne) (fun y s' h' => end_mono h' fun nw hj => ih (i + 1) _ _ (by omega) hj) fun _ _ x => x
  exact all n 0 [] news (by omega) h0
theorem compT_rule {ct elt : Expr} {x : Str} {scope : Scope} {cl : List (Str × Addr)} {S : Led → Prop} {P : Nat → Value → Prop} {Fin : List Value → Led → Prop} {n : Nat} {news : Led} (J : Nat → List Value → Led → Prop) (h0 : J 0 [] news)
    (turn : ∀ i ys nx v I oI C oC D m₂ h tk (E' : Value → Shared → Prop), i < n → P i v → J i ys nx → NsObj oC m₂ → m₂ x = some v → Fr h₀ L h m → News h₀ L h ((I, oI) :: (C, oC) :: (D, lst ys) :: nx) → Off3 I C D nx → ((@Ne Nat I C) ∧ (@Ne Nat I D) ∧ (@Ne Nat C D)) →
      wpAny (model prog w) A (isTrue ct (compEnvC scope cl C env) (eval ct (compEnvC scope cl C env))) (fun ok s' => if ok = true then
        wpAny (model prog w) A (eval elt (compEnvC scope cl C env)) (CompEnd h₀ L m { s with heap := h, toks := tk } I oI C oC D (lst ys) S (fun y news' => J (i + 1) (ys ++ [y]) news')) E' s'
        else CompEnd h₀ L m { s with heap := h, toks := tk } I oI C oC D (lst ys) S (fun _ news' => J (i + 1) ys news') Value.none s') E' { s with heap := h, toks := tk })
    (fin : ∀ ys nx, J n ys nx → Fin ys nx) : CompRestT prog w A h₀ L m env ct elt x scope cl s S P Fin n 0 [] news := by
  have all : ∀ k i ys nx, i + k = n → J i ys nx → CompRestT prog w A h₀ L m env ct elt x scope cl s S P Fin k i ys nx := by
    intro k
    induction k with
    | zero => intro i ys nx e hJ; exact CompRestT.zero (fin _ _ (by have : i = n := by omega
                                                                    exact this ▸ hJ))
    | succ k ih =>
      intro i ys nx e hJ
      refine CompRestT.succ fun v I oI C oC D m₂ h tk E' hP hn hx F N off ne => ?_
      refine wpAny_mono (turn i ys nx v I oI C oC D m₂ h tk E' (by omega) hP hJ hn hx F N off ne) (fun ok s' h' => ?_) fun _ _ x => x
      cases ok with
      | true =>
        simp only [if_true] at h' ⊢
        exact wpAny_mono h' (fun y s'' h'' => end_mono h'' fun nw hj => ih (i + 1) _ _ (by omega) hj) fun _ _ x => x
      | false =>
        simp only [Bool.false_eq_true, if_false] at h' ⊢
        exact end_mono h' fun nw hj => ih (i + 1) _ _ (by omega) hj
  exact all n 0 [] news (by omega) h0
end
end Lc
theorem off1_new {D : Addr} {o : Obj} : ∀ {rest : Led}, LCg.Off1 D rest → ∀ {news : Led}, (∀ p ∈ news, p ∈ rest) → NewTo news [(D, o)] := by
  have all : ∀ {rest : Led}, LCg.Off1 D rest → ∀ p ∈ rest, p.1 ≠ D := by
    intro rest
    induction rest with
    | nil => intro _ p hp; cases hp
    | cons q r ih =>
      intro h p hp
      rcases List.mem_cons.mp hp with rfl | hp
      · exact h.1
      · exact ih h.2 p hp
  intro rest h news hs q hq p hp
  rw [List.mem_singleton.mp hp]
  exact all h q (hs q hq)
section
variable {prog : Program} {w : World} {A : Around} {E : Value → Shared → Prop} {s : Shared} {h₀ : Heap} {L : Addr} {m : Str → Option Value} {news : Led}
theorem add_M {a b : Addr} {vs ws : List Value} {n k : Nat} {Q : Value → Shared → Prop} (F : Fr h₀ L s.heap m) (N : News h₀ L s.heap news) (ha : (a, listOf vs.toArray n) ∈ news) (hb : (b, listOf ws.toArray k) ∈ news) (hsz : vs.length + ws.length ≤ 1000000)
    (h : ∀ D h', Fr h₀ L h' m → News h₀ L h' ((D, listOf (vs ++ ws).toArray 0) :: news) → (∀ p ∈ news, p.1 < D) → Q (.ref D) { s with heap := h' }) :
    wpAny (model prog w) A (binaryOp .Add (.ref a) (.ref b)) Q E s :=
  add_lists F N ⟨_, (N _ ha).1, rfl, _, rfl⟩ ⟨_, (N _ hb).1, rfl, _, rfl⟩ (fun h' F' N' => h _ h' F' N' fun p hp => Heap.lt_size (N p hp).1) (by rw [PySem.sizeLine_eq]; omega)
theorem item_M {D : Addr} {vs : List Value} {n : Nat} {k : Int} {u : Tok} {x : Value} {value slice : PySem.Expr} {Q : Value → Shared → Prop} (N : News h₀ L s.heap news) (hm : (D, listOf vs.toArray n) ∈ news) (h0 : 0 ≤ k) (h1 : k < 1000000) (hx : vs[k.toNat]? = some x) (h : Q x s)
    (hs : subscripted slice false (.ref D) (.int k u) = operate [.ref D, .int k u] (getItem (.ref D) (.int k u)) := by with_unfolding_all rfl) :
    wpAny (model prog w) A (subscriptTail value slice (.ref D) (.int k u)) Q E s :=
  have hl : s.heap.IsList D vs.toArray := ⟨_, (N _ hm).1, rfl, _, rfl⟩
  tail_any hl.typeIs slot_list_getitem.lookup (wpAny_getItem_list hl h0 (by omega) (by simpa using hx) h) hs
theorem head_M {D : Addr} {vs : List Value} {n : Nat} {d : Int} {t u : Tok} {ns : List Int} {nw : Led} {value slice : PySem.Expr} {Q : Value → Shared → Prop} (N : News h₀ L s.heap news) (hm : (D, listOf (vs ++ [Value.int d t]).toArray n) ∈ news) (hd : DatAll nw vs (ns.map Dat.int))
    (h : ∀ t', Q (.int ((ns ++ [d]).headD 0) t') s)
    (hs : subscripted slice false (.ref D) (.int 0 u) = operate [.ref D, .int 0 u] (getItem (.ref D) (.int 0 u)) := by with_unfolding_all rfl) :
    wpAny (model prog w) A (subscriptTail value slice (.ref D) (.int 0 u)) Q E s := by
  cases ns with
  | nil =>
    have e := dat_nil hd
    subst e
    exact item_M N hm (by decide) (by decide) rfl (h t) hs
  | cons j js =>
    obtain ⟨v, r, e, h1, h2⟩ := dat_cons hd
    subst e
    obtain ⟨t', e⟩ := dat_int h1
    subst e
    exact item_M N hm (by decide) (by decide) rfl (h t') hs
end
section
variable {w : World} {n : Nat} {f : Addr} {vs : List Value} {news : Led}
    {mean : ExcName → Option Value} {mg mb : Str → Option Value} {dp un : Nat} {gd : Option (List Code)} {env : Env} {outer : List Env} {A₀ : Around} {base h₀ : Heap} {L : Addr} {m : Str → Option Value} {s : Shared} {Q E : Value → Shared → Prop}
theorem Spec.useL {ds : List Dat} (S : Spec w n f vs news (PostD news (.list ds)))
    (B : Below A₀ base outer h₀) (F : Fr h₀ L s.heap m) (X : (hd.heap_39 w.params).In h₀) (N : News h₀ L s.heap news) (T : Top hd.view_39 (looseW hd.view_39 [Str.ofString "LedgerError"]) mean mg mb h₀) (hf : env.frame = some L) (hk : env.scope.kind = .function)
    (hd : dp + n < recursionLimit) (hu : un + 8 * n < cLine)
    (h : ∀ a us k tl h' tk', Fr h₀ L h' m → News h₀ L h' (tl ++ news) → NewTo news tl → (a, listOf us.toArray k) ∈ tl ++ news → DatAll (tl ++ news) us ds → us.length = ds.length → Q (.ref a) { s with heap := h', toks := tk' }) :
    wpAny (model PySem.Challenge.rw_og0068_01.row.prog w) { handled := none, depth := dp, frames := some (env :: outer), guards := gd, units := un } (call (.ref f) vs) Q E s := by
  refine S.useD B F X N T hf hk hd hu fun r tl h' tk' F' N' hn hd => ?_
  obtain ⟨a, us, k, rfl, hm, hall⟩ := dat_list hd
  exact h _ _ _ _ _ _ F' N' hn hm hall hall.length
end
def byteD (b : UInt8) : Dat := .int (b.toNat : Int)
theorem bytes_ints {nw : Led} : ∀ {vs : List Value} {bs : List UInt8}, DatAll nw vs (bs.map byteD) → IntsAre vs (bs.map fun b => ((b.toNat : Nat) : Int))
  | _, [], h => by rw [dat_nil h]; exact .nil
  | _, b :: bs, h => by
    obtain ⟨v, r, rfl, h1, h2⟩ := dat_cons h
    obtain ⟨t, rfl⟩ := dat_int h1
    exact .cons _ _ (bytes_ints h2)
theorem bytes_back (bs : List UInt8) : byteArr (bs.map fun b => ((b.toNat : Nat) : Int)) = bs.toArray := by
  unfold byteArr
  congr 1
  rw [List.map_map]
  conv => rhs; rw [← List.map_id bs]
  refine List.map_congr_left fun b _ => ?_
  show ((b.toNat : Int).toNat).toUInt8 = b
  rw [Int.toNat_natCast]
  exact UInt8.ofNat_toNat
theorem bytes_M {prog : Program} {w : World} {A : Around} {E : Value → Shared → Prop} {s : Shared} {h₀ : Heap} {L : Addr} {m : Str → Option Value} {news : Led} {D : Addr} {vs : List Value} {n : Nat} {bs : List UInt8} {nw : Led} {Q : Value → Shared → Prop} (hh : A.handled = none) (F : Fr h₀ L s.heap m) (N : News h₀ L s.heap news)
    (hm : (D, listOf vs.toArray n) ∈ news) (hd : DatAll nw vs (bs.map byteD)) (hz : bs.length ≤ 1000000) (h : ∀ h' t' k, Fr h₀ L h' m → News h₀ L h' news → Q (.bytes bs.toArray t') { s with heap := h', toks := k }) :
    wpAny (model prog w) A (call (.type "bytes") [.ref D]) Q E s :=
  KBa.make_K F N hh ⟨_, (N _ hm).1, rfl, _, rfl⟩ (bytes_ints hd) (fun x hx => by
    obtain ⟨b, _, rfl⟩ := List.mem_map.mp hx
    have := b.toNat_lt
    omega) (by rw [List.length_map]; omega) (fun h' t' k F' N' _ => by rw [bytes_back]; exact h h' t' k F' N')
theorem cells_off {news : Led} {L : Addr} (l1 : ∀ p ∈ news, p.1 < L) : OwnOff news [L + 1 + 1 + 1, L + 1 + 1, L + 1] := by
  intro p hp b hb
  have h : @LT.lt Nat _ p.1 L := l1 p hp
  have h2 : @Eq Nat b (L + 1 + 1 + 1) ∨ @Eq Nat b (L + 1 + 1) ∨ @Eq Nat b (L + 1) := by simpa using hb
  show @Ne Nat p.1 b
  omega
theorem endLt {news : Led} {D : Addr} {o : Obj} (h : AllLt D news) : NewTo news [(D, o)] := endNew (ktn_ltOf h) fun _ h => h
theorem dat_byte {nw : Led} {c d : UInt8} {t : Tok} (e : c = d) : DatIn nw (.int ((c.toNat : Nat) : Int) t) (byteD d) := e ▸ .int _ _
theorem gen_tok {α : Type} {mo : Model} {A : Around} {c : Sem α} {Q : α → Shared → Prop} {E : Value → Shared → Prop} {h : Heap} {g : Array GenState} {d : Drawn} {n : Nat} {o : OsState} (H : ∀ n', wpAny mo A c Q E ⟨h, g, d, n', o⟩) : wpAny mo A c Q E ⟨h, g, d, n, o⟩ := H n
theorem gen_int {mo : Model} {A : Around} {env : Env} {x : Str} {z : Int} {t : Tok} {Q : Unit → Shared → Prop} {E : Value → Shared → Prop} {h : Heap} {g : Array GenState} {d : Drawn} {n : Nat} {o : OsState} (H : ∀ t' n', wpAny mo A (storeName env x (.int z t')) Q E ⟨h, g, d, n', o⟩) : wpAny mo A (storeName env x (.int z t)) Q E ⟨h, g, d, n, o⟩ := H t n
theorem gen_bytes {mo : Model} {A : Around} {env : Env} {x : Str} {z : Array UInt8} {t : Tok} {Q : Unit → Shared → Prop} {E : Value → Shared → Prop} {h : Heap} {g : Array GenState} {d : Drawn} {n : Nat} {o : OsState} (H : ∀ t' n', wpAny mo A (storeName env x (.bytes z t')) Q E ⟨h, g, d, n', o⟩) : wpAny mo A (storeName env x (.bytes z t)) Q E ⟨h, g, d, n, o⟩ := H t n
local macro_rules | `(tactic| walk_at "MyMem") => `(tactic| first | with_reducible assumption | exact List.mem_cons_self | (refine List.mem_cons_of_mem _ ?_; walk_at "MyMem") | (refine List.mem_append.mpr (Or.inl ?_); walk_at "MyMem") | (refine List.mem_append.mpr (Or.inr ?_); walk_at "MyMem"))
local macro_rules | `(tactic| k_mem) => `(tactic| walk_at "MyMem")
local macro_rules | `(tactic| walk_at "MyEnter") => `(tactic| (refine' code_def ?k1 ?k2 ?k3 ?k4 ?k5 ?kA ?kF ?kK ?k6 ?k7 ?k8 ?k9 ?kB ?_ ?c2 ?c3 ?c4 ?c5; (case kA => exact rfl); (case kF | kK => assumption); (case k1 | k2 | k3 | k4 | k5 => k_asm); (case k6 | k7 => k_is); (case k8 => ktr_room); (case k9 => exact BindsTo.of_eq rfl); (case c5 => decide); (case kB => exact locs rfl); (case c2 | c3 | c4 => exact rfl); k_whole))
local macro_rules | `(tactic| walk_at "MyUse") => `(tactic| ((case k1 | k2 | k3 | k4 | k5 => k_asm); (case kF | kK => first | exact rfl | assumption); (case kd => ktr_room); (case ku => ktr_units)))
local macro_rules | `(tactic| walk_at "Small") => `(tactic| first | omega | with_reducible exact cut_room0 (by omega) | with_reducible exact cut_room2 (by omega) | with_reducible exact cut_room3 (by omega) | with_reducible exact cut_room1 (by omega) | (simp only [List.length_append, cutI_length, List.length_cons, List.length_nil]; omega))
local macro_rules | `(tactic| walk_at "subscriptTail") => `(tactic| (k_here; (with_reducible show wpAny _ _ (subscriptTail _ (Expr.Slice _ _ none _) (Value.bytes (List.toArray _) _) (Value.ref _)) _ _ _); k_dflt (refine' b_slice (s := ⟨_, _, _, _, _⟩) ?hF ?hN (by constructor) (by constructor) ?hz ?_; (case hF | hN => k_asm); (case hz => walk_at "Small")); intro _ _ _ _ _))
local macro_rules | `(tactic| walk_at "call builtin:len") => `(tactic| (k_here; (with_reducible show wpAny _ _ (call (Value.builtin "len") [Value.bytes (List.toArray _) _]) _ _ _); (refine b_len (by walk_at "Small") ?_); intro _ _))
local macro_rules | `(tactic| walk_at "compareOp Eq bytes bytes") => `(tactic| (k_here; (with_reducible show wpAny _ _ (compareOp CmpOp.Eq (Value.bytes (List.toArray _) _) (Value.bytes (List.toArray _) _)) _ _ _); (refine b_eq ?_)))
local macro_rules | `(tactic| walk_at "compareOp NotEq bytes bytes") => `(tactic| (k_here; (with_reducible show wpAny _ _ (compareOp CmpOp.NotEq (Value.bytes (List.toArray _) _) (Value.bytes (List.toArray _) _)) _ _ _); (refine b_ne ?_)))
local macro_rules | `(tactic| walk_at "binaryOp Add bytes bytes") => `(tactic| (k_here; (with_reducible show wpAny _ _ (binaryOp Operator.Add (Value.bytes (List.toArray _) _) (Value.bytes (List.toArray _) _)) _ _ _); (refine b_add (by walk_at "Small") ?_); intro _ _))
local macro_rules | `(tactic| walk_at "pyIter ref") => `(tactic| ((with_reducible show wpAny _ _ (pyIter (Value.ref _)) (fun it s₂ => LoopAtV _ _ _ _ _ _ _ _ _ it s₂) _ _); refine Stop.out ?_))
local macro_rules | `(tactic| walk_at "pyIter ref") => `(tactic| ((with_reducible show wpAny _ _ (pyIter (Value.ref _)) (fun it s₂ => TurnsAt _ _ _ _ _ _ _ _ _ it s₂) _ _); refine Stop.out ?_))
local macro_rules | `(tactic| walk_at "exec For Name Call cons nil") => `(tactic| (k_here; (rename Fr _ _ _ _ => lF'); (with_unfolding_all refine' For_invVF lF' ?k1 ?k2 ?_; (case k1 | k2 => exact rfl); k_whole)))
local macro_rules | `(tactic| walk_at "InvEndG") => `(tactic| refine Stop.out ?_)
local macro_rules | `(tactic| walk_at "InvPostG") => `(tactic| (dsimp only [InvPostG]))
local macro_rules | `(tactic| walk_at "MySub") => `(tactic| first | exact fun _ h => h | (intro p hp; walk_at "MyMem") | (intro p h; (simp only [List.mem_append, List.mem_cons, List.append_assoc, List.cons_append, List.nil_append] at *); (first | assumption | simp_all | grind)))
local macro_rules | `(tactic| walk_at "MyDat") => `(tactic| first | assumption | (refine' DatIn.mono ?hs ?hd; (case hd => assumption); (case hs => walk_at "MySub")))
local macro_rules | `(tactic| walk_at "call builtin:list.append") => `(tactic| (k_here; (with_reducible show wpAny _ _ (call (Value.builtin _) [Value.ref _, _]) _ _ _); k_dflt (refine' append_M ?k1 ?k2 ?k3 ?_ ?z; (case k1 | k2 => k_asm); (case k3 => k_mem); (case z => exact fits_of (by walk_at "Small")); k_whole); intro h' F' N'))
local macro_rules | `(tactic| walk_at "call builtin:len") => `(tactic| (k_here; (with_reducible show wpAny _ _ (call (Value.builtin _) [Value.ref _]) _ _ _); k_dflt (refine' len_M ?k1 ?k2 ?k3 ?_; (case k1 => k_asm); (case k2 => k_mem); (case k3 => walk_at "Small"); k_whole); intro _ _))
local macro_rules | `(tactic| walk_at "WhileStep2") => `(tactic| refine Stop.out ?_)
local macro_rules | `(tactic| walk_at "MyEnterC") => `(tactic| (refine' code_defC ?k1 ?k2 ?k3 ?k4 ?k5 ?kA ?kF ?kK ?k6 ?k7 ?k8 ?k9 ?kB ?kD ?_ ?c2 ?c3 ?c4; (case kA => exact rfl); (case kF | kK => assumption); (case k1 | k2 | k3 | k4 | k5 => k_asm); (case k6 | k7 => k_is); (case k8 => ktr_room); (case k9 => exact BindsTo.of_eq rfl); (case kB => exact rfl); (case kD => decide +kernel); (case c2 | c3 | c4 => exact rfl); k_whole))
local macro_rules | `(tactic| walk_at "eval ListComp") => `(tactic| (k_here; (with_reducible show wpAny _ _ (eval (Expr.ListComp _ [Comprehension.mk _ _ (_ :: []) _] _ _) _) _ _ _); k_dflt (refine LCt.ListComp_T (F₀ := by k_asm) (by with_unfolding_all rfl) (by decide) (by rfl) (by decide) (by rfl) ?_)))
local macro_rules | `(tactic| walk_at "eval ListComp") => `(tactic| (k_here; (with_reducible show wpAny _ _ (eval (Expr.ListComp _ [Comprehension.mk _ _ [] _] _ _) _) _ _ _); k_dflt (refine LCg.ListComp_U (F₀ := by k_asm) (by with_unfolding_all rfl) (by decide) (by rfl) (by decide) (by rfl) ?_)))
local macro_rules | `(tactic| walk_at "exec Assign cons ListComp") => `(tactic| (k_here; (with_reducible show wpAny _ _ (exec (Stmt.Assign _ (Expr.ListComp _ [Comprehension.mk _ _ (_ :: []) _] _ _) _) _) _ _ _); k_dflt (refine LCt.Assign_ListComp_T (F₀ := by k_asm) (by rfl) (by with_unfolding_all rfl) (by with_unfolding_all rfl) (by decide) (by rfl) (by decide) (by rfl) (by rfl) (by rfl) ?_)))
local macro_rules | `(tactic| walk_at "exec Assign cons ListComp") => `(tactic| (k_here; (with_reducible show wpAny _ _ (exec (Stmt.Assign _ (Expr.ListComp _ [Comprehension.mk _ _ [] _] _ _) _) _) _ _ _); k_dflt (refine LCg.Assign_ListComp_U (F₀ := by k_asm) (by rfl) (by with_unfolding_all rfl) (by with_unfolding_all rfl) (by decide) (by rfl) (by decide) (by rfl) (by rfl) (by rfl) ?_)))
local macro_rules | `(tactic| walk_at "CompSrcT") => `(tactic| refine Stop.out ?_)
local macro_rules | `(tactic| walk_at "CompSrc") => `(tactic| refine Stop.out ?_)
local macro_rules | `(tactic| walk_at "CompEnd") => `(tactic| refine Stop.out ?_)
local macro_rules | `(tactic| walk_at "binaryOp Add ref ref") => `(tactic| (k_here; (with_reducible show wpAny _ _ (binaryOp _ (Value.ref _) (Value.ref _)) _ _ _); k_dflt (refine' add_M ?k1 ?k2 ?k3 ?k4 ?k5 ?_; (case k1 | k2 => k_asm); (case k3 | k4 => k_mem); (case k5 => walk_at "Small"); k_whole); intro _ _ F' N' _))
local macro_rules | `(tactic| walk_at "subscriptTail") => `(tactic| (k_here; (with_reducible show wpAny _ _ (subscriptTail _ _ (Value.ref _) (Value.int 0 _)) _ _ _); k_dflt (refine' head_M ?k1 ?k2 ?k3 ?_; (case k1 => k_asm); (case k2 => k_mem); (case k3 => assumption); k_whole); intro _))
local macro_rules | `(tactic| walk_at "subscriptTail") => `(tactic| (k_here; (with_reducible show wpAny _ _ (subscriptTail _ _ (Value.bytes (List.toArray _) _) (Value.int _ _)) _ _ _); (refine b_item (by walk_at "Small") (by omega) (by walk_at "Small") ?_); intro _ _))
local macro_rules | `(tactic| walk_at "call type:bytes") => `(tactic| (k_here; (with_reducible show wpAny _ _ (call (Value.type "bytes") [Value.ref _]) _ _ _); k_dflt (refine' bytes_M ?k0 ?k1 ?k2 ?k3 ?k4 ?k5 ?_; (case k0 => rfl); (case k1 | k2 => k_asm); (case k3 => k_mem); (case k4 => assumption); (case k5 => walk_at "Small")); intro _ _ _ F' N'))
local macro_rules | `(tactic| walk_at "storeName") => `(tactic| (first | ((with_reducible show wpAny _ _ (storeName _ _ (Value.int _ (_ + 1))) _ _ _); (refine gen_int ?_)) | ((with_reducible show wpAny _ _ (storeName _ _ (Value.int _ (Shared.toks _))) _ _ _); (refine gen_int ?_)) | ((with_reducible show wpAny _ _ (storeName _ _ (Value.bytes _ (_ + 1))) _ _ _); (refine gen_bytes ?_)) | ((with_reducible show wpAny _ _ (storeName _ _ (Value.bytes _ (Shared.toks _))) _ _ _); (refine gen_bytes ?_))); intro _ _; (try dsimp only))
local macro_rules | `(tactic| walk_at "MyOk") => `(tactic| first | assumption | exact fun r hr => (by assumption : ∀ r ∈ _, RowOk r) r (List.mem_of_mem_take hr) | exact fun r hr => (by assumption : ∀ r ∈ _, RowOk r) r (List.mem_of_mem_drop hr))
section
def liesAt (o wd : List UInt8) (i : Int) : Bool := cutI o (some i) (some (i + (wd.length : Nat))) == wd
theorem lies_at_spec {w : World} {ob wb : List UInt8} {t u ti : Tok} {i : Int} {news : Led} (ho : ob.length < 1000000) (hw : wb.length < 1000000) :
    Spec w 4 62 [.bytes ob.toArray t, .bytes wb.toArray u, .int i ti] news (PostV news (.bool (liesAt ob wb i))) := by
  unfold Spec
  intro mean mg mb dp un gd env outer A₀ base h₀ L m s Q E B F X N T hf hk hd hu hret
  w_top off
  refine wpAny_call ?_
  k_dflt (walk_at "MyEnter")
  intro g' L' h' FG' F' N' B' X' T'
  replace F' := fr_cast F' (m' := fun y => List.lookup y [(Str.ofString "at", .int i ti), (Str.ofString "wanted", .bytes wb.toArray u), (Str.ofString "octets", .bytes ob.toArray t)]) rfl
  try dsimp only
  try k_fold
  k_steps
  exact hret _ _ _ _ (by k_asm) (by k_asm) ⟨rfl, rfl⟩
local macro_rules | `(tactic| walk_at "call ref") => `(tactic| (k_here; k_dflt (refine' (lies_at_spec ?c1 ?c2).useV ?k1 ?k2 ?k3 ?k4 ?k5 ?kF ?kK ?kd ?ku ?_); walk_at "MyUse"; (case c1 | c2 => omega); k_whole; intro _ _ F' N'; (try dsimp only)))
def firstFrom (o wd : List UInt8) : Nat → Int → Int
  | 0, _ => -1
  | n + 1, i => if liesAt o wd i then i else firstFrom o wd n (i + 1)
def firstAt (o wd : List UInt8) (b : Int) : Int := firstFrom o wd ((o.length : Int) - b).toNat b
theorem firstFrom_step {o wd : List UInt8} {n : Nat} {b r : Int} {i : Nat} (hi : i < n) (h : firstFrom o wd (n - i) (b + (i : Nat)) = r) :
    (liesAt o wd (b + (i : Nat)) = true → r = b + (i : Nat)) ∧ (liesAt o wd (b + (i : Nat)) = false → firstFrom o wd (n - (i + 1)) (b + ((i + 1 : Nat) : Int)) = r) := by
  obtain ⟨k, hk⟩ : ∃ k, n - i = k + 1 := ⟨n - i - 1, by omega⟩
  rw [hk, firstFrom] at h
  refine ⟨fun e => by rw [if_pos e] at h; exact h.symm, fun e => ?_⟩
  rw [if_neg (by rw [e]; exact Bool.false_ne_true)] at h
  rw [show n - (i + 1) = k by omega, show b + ((i + 1 : Nat) : Int) = b + (i : Nat) + 1 by omega]
  exact h
theorem first_at_spec {w : World} {ob wb : List UInt8} {t u ti : Tok} {b : Int} {news : Led} (ho : ob.length < 1000000) (hw : wb.length < 1000000) (hb0 : 0 ≤ b) (hb : b < 1000000) (hw0 : 0 < wb.length) :
    Spec w 8 69 [.bytes ob.toArray t, .bytes wb.toArray u, .int b ti] news (PostT news (fun t' => .int (firstAt ob wb b) t')) := by
  unfold Spec
  intro mean mg mb dp un gd env outer A₀ base h₀ L m s Q E B F X N T hf hk hd hu hret
  w_top off
  refine wpAny_call ?_
  k_dflt (walk_at "MyEnter")
  intro g' L' h' FG' F' N' B' X' T'
  replace F' := fr_cast F' (m' := fun y => List.lookup y [(Str.ofString "begin", .int b ti), (Str.ofString "wanted", .bytes wb.toArray u), (Str.ofString "octets", .bytes ob.toArray t)]) rfl
  try dsimp only
  try k_fold
  k_steps
  · exfalso; omega
  · unfold Stop
    refine range_rule (n := ((ob.length : Int) - b).toNat) (fun i m₁ nx => nx = news ∧ (∀ z, z ≠ Str.ofString "at" → m₁ z = List.lookup z [(Str.ofString "begin", .int b ti), (Str.ofString "wanted", .bytes wb.toArray u), (Str.ofString "octets", .bytes ob.toArray t)]) ∧ firstFrom ob wb (((ob.length : Int) - b).toNat - i) (b + (i : Nat)) = firstAt ob wb b) rfl (by assumption) (small_one (by omega) (by omega) (by omega) (by omega)) (rangeSize_nat _ _) (by assumption) (by assumption) ⟨rfl, fun _ _ => rfl, by simp [firstAt]⟩ ?_ ?_
    · rintro i ti m₁ nx h tk own hi hoff ⟨hnx, hm, hJ⟩ F₁ N₁
      subst hnx
      rw [map_but hm] at F₁
      have hst := firstFrom_step hi hJ
      k_steps
      · exact hret _ _ _ _ (by k_asm) (cb_drop (by k_asm) fun p hp => List.mem_append_left _ hp) ⟨⟨_, by rw [hst.1 (by assumption)]⟩, rfl⟩
      · unfold Stop
        exact InvEndG.intro (by k_asm) (by k_asm) ⟨rfl, fun z hz => if_neg hz, hst.2 (by assumption)⟩ hoff (fun p hp => List.mem_append_left _ hp) (fun p hp => List.mem_append_right _ hp)
    · rintro m₁ nx h tk ⟨hnx, hm, hJ⟩ F₁ N₁
      subst hnx
      rw [map_own hm] at F₁
      k_steps
      rw [Nat.sub_self, firstFrom] at hJ
      exact hret _ _ _ _ (by k_asm) (by k_asm) ⟨⟨_, by rw [← hJ]⟩, rfl⟩
local macro_rules | `(tactic| walk_at "call ref") => `(tactic| (k_here; k_dflt (refine' (first_at_spec ?c1 ?c2 ?c3 ?c4 ?c5).useT ?k1 ?k2 ?k3 ?k4 ?k5 ?kF ?kK ?kd ?ku ?_); walk_at "MyUse"; (case c1 | c2 | c3 | c4 | c5 => omega); k_whole; intro _ _ _ F' N'; (try dsimp only)))
def sentPart (o : List UInt8) : Option (List UInt8) → List UInt8
  | none => o
  | some d => if firstAt o d 0 < 0 then o else cutI o none (some (firstAt o d 0))
theorem firstFrom_lt {o wd : List UInt8} : ∀ (n : Nat) (b : Int), firstFrom o wd n b < b + n ∨ firstFrom o wd n b = -1
  | 0, b => .inr rfl
  | n + 1, b => by
    rw [firstFrom]
    split
    · left; omega
    · rcases firstFrom_lt (o := o) (wd := wd) n (b + 1) with h | h
      · left; omega
      · right; exact h
theorem sent_spec {w : World} {ob : List UInt8} {mk : Option (List UInt8)} {t u : Tok} {news : Led} (ho : ob.length < 1000000) (hm : ∀ d, mk = some d → d.length < 1000000 ∧ 0 < d.length) :
    Spec w 12 76 [.bytes ob.toArray t, markV mk u] news (PostT news (fun t' => .bytes (sentPart ob mk).toArray t')) := by
  unfold Spec
  intro mean mg mb dp un gd env outer A₀ base h₀ L m s Q E B F X N T hf hk hd hu hret
  w_top off
  refine wpAny_call ?_
  cases mk with
  | none =>
    dsimp only [markV]
    k_dflt (walk_at "MyEnter")
    intro g' L' h' FG' F' N' B' X' T'
    replace F' := fr_cast F' (m' := fun y => List.lookup y [(Str.ofString "delimiter", .none), (Str.ofString "octets", .bytes ob.toArray t)]) rfl
    try dsimp only
    try k_fold
    k_steps
    exact hret _ _ _ _ (by k_asm) (by k_asm) ⟨⟨_, rfl⟩, rfl⟩
  | some wb =>
    obtain ⟨hw, hw0⟩ := hm _ rfl
    dsimp only [markV]
    k_dflt (walk_at "MyEnter")
    intro g' L' h' FG' F' N' B' X' T'
    replace F' := fr_cast F' (m' := fun y => List.lookup y [(Str.ofString "delimiter", .bytes wb.toArray u), (Str.ofString "octets", .bytes ob.toArray t)]) rfl
    try dsimp only
    try k_fold
    k_steps
    · exact hret _ _ _ _ (by k_asm) (by k_asm) ⟨⟨_, by rw [sentPart, if_pos (by assumption)]⟩, rfl⟩
    · exact hret _ _ _ _ (by k_asm) (by k_asm) ⟨⟨_, by rw [sentPart, if_neg (by assumption)]⟩, rfl⟩
theorem sentPart_le (o : List UInt8) (mk : Option (List UInt8)) : (sentPart o mk).length ≤ o.length := by
  cases mk with
  | none => exact Nat.le_refl _
  | some d =>
    simp only [sentPart]
    split
    · exact Nat.le_refl _
    · exact cutI_le _ _ _
local macro_rules | `(tactic| walk_at "call ref") => `(tactic| (k_here; k_dflt (refine' (sent_spec ?c1 ?c2).useT ?k1 ?k2 ?k3 ?k4 ?k5 ?kF ?kK ?kd ?ku ?_); walk_at "MyUse"; (case c1 => omega); (case c2 => assumption); k_whole; intro _ _ _ F' N'; (try dsimp only)))
local macro_rules | `(tactic| walk_at "exec For Tuple Name cons nil") => `(tactic| (k_here; (rename Fr _ _ _ _ => lF'); (with_unfolding_all refine' For_turns lF' ?_; k_whole)))
local macro_rules | `(tactic| walk_at "exec While BoolOp cons nil") => `(tactic| (refine Stop.out ?_))
def layF : List Row → List UInt8 → Int → List UInt8 × Int × Bool
  | [], g, f => (g, f, false)
  | r :: rs, g, f =>
    if (cutI (sentPart r.1 r.2) none (some ((g.length : Int) + 1 - f))).length < (sentPart r.1 r.2).length then
      (cutI g none (some (f - 1)) ++ cutI (sentPart r.1 r.2) none (some ((g.length : Int) + 1 - f)) ++ cutI g (some (f - 1 + (cutI (sentPart r.1 r.2) none (some ((g.length : Int) + 1 - f))).length)) none,
        f + (cutI (sentPart r.1 r.2) none (some ((g.length : Int) + 1 - f))).length, true)
    else layF rs (cutI g none (some (f - 1)) ++ cutI (sentPart r.1 r.2) none (some ((g.length : Int) + 1 - f)) ++ cutI g (some (f - 1 + (cutI (sentPart r.1 r.2) none (some ((g.length : Int) + 1 - f))).length)) none)
        (f + (cutI (sentPart r.1 r.2) none (some ((g.length : Int) + 1 - f))).length)
def strungF (rows : List Row) (g : List UInt8) (b : Int) : List UInt8 × Int × Bool := if 1 ≤ b ∧ b ≤ (g.length : Nat) then layF rows g b else (g, b, true)
def RowOk (r : Row) : Prop := r.1.length < 1000 ∧ ∀ d, r.2 = some d → d.length < 1000000 ∧ 0 < d.length
theorem cutI_nat (p : List UInt8) (x : Nat) : cutI p none (some (x : Int)) = p.take x := by
  unfold cutI
  simp only [Option.elim, Nat.sub_zero, List.drop_zero, clipAt_nat]
  exact List.take_eq_take_min.symm
theorem cutI_head (p : List UInt8) (x : Int) (hx : 0 ≤ x) : cutI p none (some x) = p.take x.toNat := by
  obtain ⟨k, rfl⟩ := Int.eq_ofNat_of_zero_le hx
  exact cutI_nat p k
theorem drop_min (p : List UInt8) (x : Nat) : p.drop (min x p.length) = p.drop x := by
  rcases Nat.le_total x p.length with h | h
  · rw [Nat.min_eq_left h]
  · rw [Nat.min_eq_right h, List.drop_of_length_le (Nat.le_refl _), List.drop_of_length_le h]
theorem cutI_tail (p : List UInt8) (x : Int) (hx : 0 ≤ x) : cutI p (some x) none = p.drop x.toNat := by
  obtain ⟨k, rfl⟩ := Int.eq_ofNat_of_zero_le hx
  unfold cutI
  simp only [Option.elim, clipAt_nat]
  rw [List.take_of_length_le (Nat.le_of_eq List.length_drop)]
  exact drop_min p k
theorem cutI_mid (p : List UInt8) (x y : Int) (hx : 0 ≤ x) (hy : 0 ≤ y) : cutI p (some x) (some y) = (p.drop x.toNat).take (y.toNat - x.toNat) := by
  obtain ⟨k, rfl⟩ := Int.eq_ofNat_of_zero_le hx
  obtain ⟨l, rfl⟩ := Int.eq_ofNat_of_zero_le hy
  unfold cutI
  simp only [Option.elim, clipAt_nat]
  rw [← List.drop_take, ← List.take_eq_take_min, Int.toNat_natCast, Int.toNat_natCast, ← List.drop_take]
  rcases Nat.le_total k p.length with h | h
  · rw [Nat.min_eq_left h]
  · rw [Nat.min_eq_right h, List.drop_of_length_le (List.length_take_le' ..), List.drop_of_length_le (Nat.le_trans (List.length_take_le' ..) h)]
def layG (g : List UInt8) (f : Int) (p : List UInt8) : List UInt8 := cutI g none (some (f - 1)) ++ cutI p none (some ((g.length : Int) + 1 - f)) ++ cutI g (some (f - 1 + (cutI p none (some ((g.length : Int) + 1 - f))).length)) none
/-- the octets laid over a goal from a place on, as far as it goes -/
def overlay (g : List UInt8) (k : Nat) (T : List UInt8) : List UInt8 := g.take k ++ T.take (g.length - k) ++ g.drop (k + min T.length (g.length - k))
theorem overlay_def (g : List UInt8) (k : Nat) (T : List UInt8) : overlay g k T = g.take k ++ T.take (g.length - k) ++ g.drop (k + min T.length (g.length - k)) := rfl
theorem over_len {k n m : Nat} (h : k ≤ n) : min k n + min (n - k) m + (n - (k + min m (n - k))) = n := by
  rw [Nat.min_eq_left h, Nat.min_comm m, Nat.add_sub_of_le]
  exact Nat.le_trans (Nat.add_le_add_left (Nat.min_le_left _ _) k) (Nat.le_of_eq (Nat.add_sub_of_le h))
theorem overlay_length {g T : List UInt8} {k : Nat} (h : k ≤ g.length) : (overlay g k T).length = g.length := by
  unfold overlay
  rw [List.length_append, List.length_append, List.length_take, List.length_take, List.length_drop]
  exact over_len h
theorem sub_one (k : Nat) : (k : Int) + 1 - 1 = (k : Int) := Int.add_sub_cancel _ _
theorem sub_two {n k : Nat} (h : k ≤ n) : (n : Int) + 1 - ((k : Int) + 1) = ((n - k : Nat) : Int) := by
  rw [Int.add_sub_add_right, Int.ofNat_sub h]
theorem layG_eq {g p : List UInt8} {k : Nat} (h : k ≤ g.length) : layG g ((k : Int) + 1) p = overlay g k p ∧ (cutI p none (some ((g.length : Int) + 1 - ((k : Int) + 1)))).length = min p.length (g.length - k) := by
  have hl : (p.take (g.length - k)).length = min p.length (g.length - k) := (List.length_take).trans (Nat.min_comm ..)
  unfold layG overlay
  rw [sub_one, sub_two h, cutI_nat, cutI_nat, hl, ← Int.natCast_add, cutI_tail _ _ (Int.natCast_nonneg _), Int.toNat_natCast]
  exact ⟨rfl, rfl⟩
theorem one_le {f : Int} (h : 1 ≤ f) : ∃ k : Nat, f = (k : Int) + 1 :=
  let ⟨k, e⟩ := Int.eq_ofNat_of_zero_le (Int.sub_nonneg_of_le h)
  ⟨k, (Int.sub_add_cancel f 1).symm.trans (congrArg (· + 1) e)⟩
theorem layG_length {g p : List UInt8} {f : Int} (h1 : 1 ≤ f) (h2 : f ≤ (g.length : Nat) + 1) : (layG g f p).length = g.length ∧ (cutI p none (some ((g.length : Int) + 1 - f))).length + (f - 1).toNat ≤ g.length := by
  obtain ⟨k, rfl⟩ := one_le h1
  have h : k ≤ g.length := Int.ofNat_le.mp (Int.le_of_add_le_add_right h2)
  obtain ⟨a, b⟩ := layG_eq (p := p) h
  rw [a, b, sub_one, Int.toNat_natCast]
  exact ⟨overlay_length h, Nat.le_trans (Nat.add_le_add_right (Nat.min_le_right _ _) k) (Nat.le_of_eq (Nat.sub_add_cancel h))⟩
theorem lay_step {rows : List Row} {g : List UInt8} {f : Int} {i : Nat} {r : Row} {R : List UInt8 × Int × Bool} (h1 : 1 ≤ f) (h2 : f ≤ (g.length : Nat) + 1) (hr : rows[i]? = some r) (hJ : layF (rows.drop i) g f = R) :
    ((cutI (sentPart r.1 r.2) none (some ((g.length : Int) + 1 - f))).length < (sentPart r.1 r.2).length → R = (layG g f (sentPart r.1 r.2), f + (cutI (sentPart r.1 r.2) none (some ((g.length : Int) + 1 - f))).length, true)) ∧
    (¬ (cutI (sentPart r.1 r.2) none (some ((g.length : Int) + 1 - f))).length < (sentPart r.1 r.2).length → layF (rows.drop (i + 1)) (layG g f (sentPart r.1 r.2)) (f + (cutI (sentPart r.1 r.2) none (some ((g.length : Int) + 1 - f))).length) = R) ∧
    1 ≤ f + (cutI (sentPart r.1 r.2) none (some ((g.length : Int) + 1 - f))).length ∧ f + (cutI (sentPart r.1 r.2) none (some ((g.length : Int) + 1 - f))).length ≤ (g.length : Nat) + 1 := by
  have hlt : i < rows.length := by
    rcases Nat.lt_or_ge i rows.length with h | h
    · exact h
    · rw [List.getElem?_eq_none h] at hr; cases hr
  have e : rows.drop i = r :: rows.drop (i + 1) := by
    rw [List.drop_eq_getElem_cons hlt]
    congr 1
    exact Option.some.inj ((List.getElem?_eq_getElem hlt).symm.trans hr)
  rw [e, layF] at hJ
  have hl := (layG_length (p := sentPart r.1 r.2) h1 h2).2
  refine ⟨fun h => ?_, fun h => ?_, by omega, by omega⟩
  · rw [if_pos h] at hJ; exact hJ.symm
  · rw [if_neg h] at hJ; exact hJ
theorem strung_spec {w : World} {rows : List Row} {rv : Value} {g : List UInt8} {b : Int} {t tb : Tok} {news : Led} (hr : DatIn news rv (.list (rows.map rowD))) (hok : ∀ r ∈ rows, RowOk r) (hg : g.length < 1000) (hb : b.natAbs < 1000000) :
    Spec w 20 83 [rv, .bytes g.toArray t, .int b tb] news (PostD news (.tuple [.bytes (strungF rows g b).1.toArray, .int (strungF rows g b).2.1, .bool (strungF rows g b).2.2])) := by
  unfold Spec
  intro mean mg mb dp un gd env outer A₀ base h₀ L m s Q E B F X N T hf hk hd hu hret
  obtain ⟨ax, vs, nn, rfl, hax, hall⟩ := dat_list hr
  w_top off
  refine wpAny_call ?_
  k_dflt (walk_at "MyEnter")
  intro g' L' h' FG' F' N' B' X' T'
  replace F' := fr_cast F' (m' := fun y => List.lookup y [(Str.ofString "begin", .int b tb), (Str.ofString "goal", .bytes g.toArray t), (Str.ofString "rows", .ref ax)]) rfl
  try dsimp only
  try k_fold
  k_steps
  · unfold Stop
    refine list_rule (fun i m₁ nx => nx = news ∧ ∃ g₁ f t₁ tf, m₁ (Str.ofString "goal") = some (.bytes g₁.toArray t₁) ∧ m₁ (Str.ofString "following") = some (.int f tf) ∧ g₁.length = g.length ∧ 1 ≤ f ∧ f ≤ (g.length : Nat) + 1 ∧ layF (rows.drop i) g₁ f = strungF rows g b) rfl (by assumption) (by assumption) hax rfl rfl ⟨rfl, g, b, _, _, rfl, rfl, rfl, by omega, by omega, by rw [strungF, if_pos ⟨by omega, by omega⟩]; rfl⟩ (fun _ _ _ hJ => hJ.1 ▸ hax) ?_ ?_
    · rintro i v m₁ nx h tk own hv hoff ⟨hnx, g₁, f, t₁, tf, hm1, hm2, hg₁, hf1, hf2, hJ⟩ F₁ N₁
      subst hnx
      obtain ⟨r, hri, hdr⟩ := dat_get hall hv
      obtain ⟨a, to, u, n, rfl, hma⟩ := dat_row hdr
      have hro : RowOk r := hok r (List.mem_of_getElem? hri)
      obtain ⟨hro1, hro2⟩ := hro
      have hsp := sentPart_le r.1 r.2
      have hst := lay_step hf1 (hg₁ ▸ hf2) hri hJ
      have hlg := layG_length (p := sentPart r.1 r.2) hf1 (hg₁ ▸ hf2)
      rw [map_two hm1 hm2] at F₁
      k_steps
      · refine hret _ _ _ _ (by k_asm) (endN (by k_asm) fun p hp => List.mem_append_left _ hp) ⟨_, rfl, endNew (by k_asm) fun p hp => List.mem_append_left _ hp, ?_⟩
        rw [hst.1 (by omega)]
        exact DatIn.tuple (List.Mem.head _) (.cons (.bytes _ _) (.cons (.int _ _) (.cons (.bool _) .nil)))
      · unfold Stop
        exact InvEndG.intro (by k_asm) (by k_asm) ⟨rfl, _, _, _, _, rfl, rfl, hlg.1.trans hg₁, hst.2.2.1, hg₁ ▸ hst.2.2.2, hst.2.1 (by omega)⟩ hoff (fun p hp => List.mem_append_left _ hp) (fun p hp => List.mem_append_right _ hp)
    · rintro m₁ nx h tk ⟨hnx, g₁, f, t₁, tf, hm1, hm2, hg₁, hf1, hf2, hJ⟩ F₁ N₁
      subst hnx
      rw [map_two hm1 hm2] at F₁
      have hlen : vs.length = rows.length := by rw [hall.length, List.length_map]
      rw [hlen, List.drop_length, layF] at hJ
      k_steps
      refine hret _ _ _ _ (by k_asm) (endN (by k_asm) fun p hp => hp) ⟨_, rfl, endNew (by k_asm) fun p hp => hp, ?_⟩
      rw [← hJ]
      exact DatIn.tuple (List.Mem.head _) (.cons (.bytes _ _) (.cons (.int _ _) (.cons (.bool _) .nil)))
  · refine hret _ _ _ _ (by k_asm) (endN (by k_asm) fun p hp => hp) ⟨_, rfl, endNew (by k_asm) fun p hp => hp, ?_⟩
    rw [strungF, if_neg (by omega)]
    exact DatIn.tuple (List.Mem.head _) (.cons (.bytes _ _) (.cons (.int _ _) (.cons (.bool _) .nil)))
  · refine hret _ _ _ _ (by k_asm) (endN (by k_asm) fun p hp => hp) ⟨_, rfl, endNew (by k_asm) fun p hp => hp, ?_⟩
    rw [strungF, if_neg (by omega)]
    exact DatIn.tuple (List.Mem.head _) (.cons (.bytes _ _) (.cons (.int _ _) (.cons (.bool _) .nil)))
def commaD : Dat := .list [.tuple [.bytes #[44], .bool false]]
theorem dat_comma {news : Led} {v : Value} (h : DatIn news v commaD) : ∃ a b n k t, v = .ref a ∧ (a, listOf [Value.ref b].toArray n) ∈ news ∧ (b, ({ cls := .type "tuple", data := .seq [.bytes [44].toArray t, .bool false].toArray k } : Obj)) ∈ news := by
  obtain ⟨a, vs, n, rfl, hm, hall⟩ := dat_list h
  obtain ⟨v1, r1, rfl, h1, hall⟩ := dat_cons hall
  obtain rfl := dat_nil hall
  obtain ⟨b, us, k, rfl, hm2, hall⟩ := dat_tuple h1
  obtain ⟨u1, r1, rfl, h1, hall⟩ := dat_cons hall
  obtain ⟨u2, r2, rfl, h2, hall⟩ := dat_cons hall
  obtain rfl := dat_nil hall
  obtain ⟨t, rfl⟩ := dat_bytes h1
  obtain rfl := dat_bool h2
  exact ⟨a, b, n, k, t, rfl, hm, hm2⟩
theorem delim_none_spec {w : World} {ob : List UInt8} {dv : Value} {i : Int} {t ti : Tok} {news : Led} (hr : DatIn news dv commaD) (ho : ob.length < 1000000) (hl : liesAt ob [44] i = false) :
    Spec w 8 90 [.bytes ob.toArray t, dv, .int i ti] news (PostV news .none) := by
  unfold Spec
  intro mean mg mb dp un gd env outer A₀ base h₀ L m s Q E B F X N T hf hk hd hu hret
  obtain ⟨ax, bx, n, k, tc, rfl, hax, hbx⟩ := dat_comma hr
  w_top off
  refine wpAny_call ?_
  k_dflt (walk_at "MyEnter")
  intro g' L' h' FG' F' N' B' X' T'
  replace F' := fr_cast F' (m' := fun y => List.lookup y [(Str.ofString "at", .int i ti), (Str.ofString "delimiters", .ref ax), (Str.ofString "octets", .bytes ob.toArray t)]) rfl
  try dsimp only
  try k_fold
  k_steps
  unfold Stop
  refine list_rule (fun j m₁ nx => nx = news ∧ (j = 0 → m₁ = fun y => List.lookup y [(Str.ofString "at", .int i ti), (Str.ofString "delimiters", .ref ax), (Str.ofString "octets", .bytes ob.toArray t)])) rfl (by assumption) (by assumption) hax rfl rfl ⟨rfl, fun _ => rfl⟩ (fun _ _ _ hJ => hJ.1 ▸ hax) ?_ ?_
  · rintro j v m₁ nx h tk own hv hoff ⟨hnx, hm⟩ F₁ N₁
    subst hnx
    have hj : j = 0 := by
      rcases j with _ | j
      · rfl
      · simp at hv
    subst hj
    rw [hm rfl] at F₁
    obtain rfl : Value.ref bx = v := by simpa using hv
    have hlen : ([44] : List UInt8).length = 1 := rfl
    k_steps
    unfold Stop
    exact InvEndG.intro (by k_asm) (by k_asm) ⟨rfl, fun e => absurd e (by omega)⟩ hoff (fun p hp => List.mem_append_left _ hp) (fun p hp => List.mem_append_right _ hp)
  · rintro m₁ nx h tk ⟨hnx, _⟩ F₁ N₁
    subst hnx
    k_steps
    exact hret _ _ _ _ (by k_asm) (by k_asm) ⟨rfl, rfl⟩
theorem delim_some_spec {w : World} {ob : List UInt8} {dv : Value} {i : Int} {t ti : Tok} {news : Led} (hr : DatIn news dv commaD) (ho : ob.length < 1000000) (hl : liesAt ob [44] i = true) :
    Spec w 8 90 [.bytes ob.toArray t, dv, .int i ti] news (PostD news (.tuple [.bytes #[44], .bool false])) := by
  unfold Spec
  intro mean mg mb dp un gd env outer A₀ base h₀ L m s Q E B F X N T hf hk hd hu hret
  obtain ⟨ax, bx, n, k, tc, rfl, hax, hbx⟩ := dat_comma hr
  w_top off
  refine wpAny_call ?_
  k_dflt (walk_at "MyEnter")
  intro g' L' h' FG' F' N' B' X' T'
  replace F' := fr_cast F' (m' := fun y => List.lookup y [(Str.ofString "at", .int i ti), (Str.ofString "delimiters", .ref ax), (Str.ofString "octets", .bytes ob.toArray t)]) rfl
  try dsimp only
  try k_fold
  k_steps
  unfold Stop
  refine list_rule (fun j m₁ nx => nx = news ∧ (j = 0 ∧ m₁ = fun y => List.lookup y [(Str.ofString "at", .int i ti), (Str.ofString "delimiters", .ref ax), (Str.ofString "octets", .bytes ob.toArray t)])) rfl (by assumption) (by assumption) hax rfl rfl ⟨rfl, rfl, rfl⟩ (fun _ _ _ hJ => hJ.1 ▸ hax) ?_ ?_
  · rintro j v m₁ nx h tk own hv hoff ⟨hnx, hj, hm⟩ F₁ N₁
    subst hnx
    subst hj
    rw [hm] at F₁
    obtain rfl : Value.ref bx = v := by simpa using hv
    have hlen : ([44] : List UInt8).length = 1 := rfl
    k_steps
    refine hret _ _ _ _ (by k_asm) (endN (by k_asm) fun p hp => List.mem_append_left _ hp) ⟨_, rfl, endNew (by k_asm) fun p hp => List.mem_append_left _ hp, ?_⟩
    exact DatIn.tuple (List.Mem.head _) (.cons (.bytes _ _) (.cons (.bool _) .nil))
  · rintro m₁ nx h tk ⟨hnx, hj⟩ F₁ N₁
    exact absurd hj.1 (by simp)
theorem behind_spec {w : World} {ob wb : List UInt8} {i : Int} {t u ti : Tok} {news : Led} (ho : ob.length < 1000000) (hw : wb.length < 1000000) (hi : i.natAbs < 1000000) :
    Spec w 8 97 [.bytes ob.toArray t, .bytes wb.toArray u, .bool false, .int i ti] news (PostT news (fun t' => .int (i + (wb.length : Nat)) t')) := by
  unfold Spec
  intro mean mg mb dp un gd env outer A₀ base h₀ L m s Q E B F X N T hf hk hd hu hret
  w_top off
  refine wpAny_call ?_
  k_dflt (walk_at "MyEnter")
  intro g' L' h' FG' F' N' B' X' T'
  replace F' := fr_cast F' (m' := fun y => List.lookup y [(Str.ofString "at", .int i ti), (Str.ofString "is_all", .bool false), (Str.ofString "mark", .bytes wb.toArray u), (Str.ofString "octets", .bytes ob.toArray t)]) rfl
  try dsimp only
  try k_fold
  k_steps
  unfold Stop
  refine While_inv2 (n₀ := 0) (fun n m₁ nx => nx = news ∧ ∃ t', m₁ (Str.ofString "behind") = some (.int (i + (wb.length : Nat)) t') ∧ m₁ (Str.ofString "is_all") = some (.bool false)) (by assumption) (by assumption) ⟨rfl, _, rfl, rfl⟩ ?_
  rintro n m₁ nx h tk F₁ N₁ ⟨hnx, t', hm1, hm2⟩
  subst hnx
  rw [map_two hm1 hm2] at F₁
  k_steps
  exact hret _ _ _ _ (by k_asm) (by k_asm) ⟨⟨_, rfl⟩, rfl⟩
local macro_rules | `(tactic| walk_at "call ref") => `(tactic| (k_here; k_dflt (refine' (delim_none_spec ?c1 ?c2 ?c3).useV ?k1 ?k2 ?k3 ?k4 ?k5 ?kF ?kK ?kd ?ku ?_); walk_at "MyUse"; (case c1 => walk_at "MyDat"); (case c2 => omega); (case c3 => assumption); k_whole; intro _ _ F' N'; (try dsimp only)))
local macro_rules | `(tactic| walk_at "call ref") => `(tactic| (k_here; k_dflt (refine' (delim_some_spec ?c1 ?c2 ?c3).useT2 ?k1 ?k2 ?k3 ?k4 ?k5 ?kF ?kK ?kd ?ku ?_); walk_at "MyUse"; (case c1 => walk_at "MyDat"); (case c2 => omega); (case c3 => assumption); k_whole; intro _ _ _ _ _ _ F' N' _ _; (try dsimp only)))
local macro_rules | `(tactic| walk_at "call ref") => `(tactic| (k_here; k_dflt (refine' (behind_spec ?c1 ?c2 ?c3).useT ?k1 ?k2 ?k3 ?k4 ?k5 ?kF ?kK ?kd ?ku ?_); walk_at "MyUse"; (case c1 => omega); (case c2 => walk_at "Small"); (case c3 => omega); k_whole; intro _ _ _ F' N'; (try dsimp only)))
def nextPiece (o : List UInt8) (b : Int) : List UInt8 × List UInt8 × Int :=
  if firstAt o [44] b < 0 then (cutI o (some b) none, [], (o.length : Nat)) else (cutI o (some b) (some (firstAt o [44] b)), [44], firstAt o [44] b + 1)
theorem next_piece_spec {w : World} {ob : List UInt8} {dv : Value} {b : Int} {t tb : Tok} {news : Led} (hr : DatIn news dv commaD) (ho : ob.length < 1000000) (hb0 : 0 ≤ b) (hb : b < 1000000) :
    Spec w 16 104 [.bytes ob.toArray t, dv, .int b tb] news (PostD news (.tuple [.bytes (nextPiece ob b).1.toArray, .bytes (nextPiece ob b).2.1.toArray, .int (nextPiece ob b).2.2])) := by
  unfold Spec
  intro mean mg mb dp un gd env outer A₀ base h₀ L m s Q E B F X N T hf hk hd hu hret
  w_top off
  refine wpAny_call ?_
  k_dflt (walk_at "MyEnter")
  intro g' L' h' FG' F' N' B' X' T'
  replace F' := fr_cast F' (m' := fun y => List.lookup y [(Str.ofString "begin", .int b tb), (Str.ofString "delimiters", dv), (Str.ofString "octets", .bytes ob.toArray t)]) rfl
  try dsimp only
  try k_fold
  k_steps
  unfold Stop
  refine range_rule (n := ((ob.length : Int) - b).toNat) (fun i m₁ nx => nx = news ∧ m₁ (Str.ofString "begin") = some (.int b tb) ∧ m₁ (Str.ofString "delimiters") = some dv ∧ m₁ (Str.ofString "octets") = some (.bytes ob.toArray t) ∧ firstFrom ob [44] (((ob.length : Int) - b).toNat - i) (b + (i : Nat)) = firstAt ob [44] b) rfl (by assumption) (small_one (by omega) (by omega) (by omega) (by omega)) (rangeSize_nat _ _) (by assumption) (by assumption) ⟨rfl, rfl, rfl, rfl, by simp [firstAt]⟩ ?_ ?_
  · rintro i ti m₁ nx h tk own hi hoff ⟨hnx, hm1, hm2, hm3, hJ⟩ F₁ N₁
    subst hnx
    rw [map_three hm1 hm2 hm3] at F₁
    have hst := firstFrom_step hi hJ
    have hr' : DatIn (nx ++ own) dv commaD := hr.mono fun _ h => List.mem_append_left _ h
    cases hL : liesAt ob [44] (b + (i : Nat)) with
    | false =>
      k_steps
      unfold Stop
      exact InvEndG.intro (by k_asm) (by k_asm) ⟨rfl, rfl, rfl, rfl, hst.2 hL⟩ hoff (fun p hp => List.mem_append_left _ hp) (fun p hp => List.mem_append_right _ hp)
    | true =>
      k_steps
      have hj := hst.1 hL
      refine hret _ _ _ _ (by k_asm) (endN (by k_asm) fun p hp => List.mem_append_right _ (List.mem_append_left _ hp)) ⟨_, rfl, endNew (by k_asm) fun p hp => List.mem_append_right _ (List.mem_append_left _ hp), ?_⟩
      rw [nextPiece, if_neg (by omega), hj]
      exact DatIn.tuple (List.Mem.head _) (.cons (.bytes _ _) (.cons (.bytes _ _) (.cons (.int _ _) .nil)))
  · rintro m₁ nx h tk ⟨hnx, hm1, hm2, hm3, hJ⟩ F₁ N₁
    subst hnx
    rw [map_three hm1 hm2 hm3] at F₁
    rw [Nat.sub_self, firstFrom] at hJ
    k_steps
    refine hret _ _ _ _ (by k_asm) (endN (by k_asm) fun p hp => hp) ⟨_, rfl, endNew (by k_asm) fun p hp => hp, ?_⟩
    rw [nextPiece, if_pos (by omega)]
    exact DatIn.tuple (List.Mem.head _) (.cons (.bytes _ _) (.cons (.bytes _ _) (.cons (.int _ _) .nil)))
local macro_rules | `(tactic| walk_at "call ref") => `(tactic| (k_here; k_dflt (refine' (next_piece_spec ?c1 ?c2 ?c3 ?c4).useBBI ?k1 ?k2 ?k3 ?k4 ?k5 ?kF ?kK ?kd ?ku ?_); walk_at "MyUse"; (case c1 => walk_at "MyDat"); (case c2 | c3 | c4 => omega); k_whole; intro _ _ _ _ _ _ _ _ F' N' _ _; (try dsimp only)))
def unstrF (o : List UInt8) : Nat → Int → List (List UInt8 × List UInt8) × Int
  | 0, b => ([], b)
  | n + 1, b => if b < (o.length : Nat) then (((nextPiece o b).1, (nextPiece o b).2.1) :: (unstrF o n (nextPiece o b).2.2).1, (unstrF o n (nextPiece o b).2.2).2) else ([], b)
def pieceD (p : List UInt8 × List UInt8) : Dat := .tuple [.bytes p.1.toArray, .bytes p.2.toArray]
theorem firstAt_lt {o wd : List UInt8} {b : Int} (hb : b ≤ (o.length : Nat)) : firstAt o wd b < (o.length : Nat) ∨ firstAt o wd b = -1 := by
  unfold firstAt
  rcases firstFrom_lt (o := o) (wd := wd) ((o.length : Int) - b).toNat b with h | h
  · left; omega
  · right; exact h
theorem firstFrom_ge {o wd : List UInt8} : ∀ (n : Nat) (b : Int), b ≤ firstFrom o wd n b ∨ firstFrom o wd n b = -1
  | 0, _ => .inr rfl
  | n + 1, b => by
    rw [firstFrom]
    split
    · left; omega
    · rcases firstFrom_ge (o := o) (wd := wd) n (b + 1) with h | h
      · left; omega
      · right; exact h
theorem nextPiece_to {o : List UInt8} {b : Int} (h0 : 0 ≤ b) (hb : b ≤ (o.length : Nat)) : 0 ≤ (nextPiece o b).2.2 ∧ (nextPiece o b).2.2 ≤ (o.length : Nat) := by
  unfold nextPiece
  split
  · dsimp only; omega
  · rcases firstAt_lt (wd := [44]) hb with h | h
    · dsimp only; omega
    · omega
theorem unstr_stop {o : List UInt8} {n : Nat} {b : Int} (h : n = 0 ∨ ¬ b < (o.length : Nat)) : unstrF o n b = ([], b) := by
  cases n with
  | zero => rfl
  | succ n =>
    rcases h with h | h
    · cases h
    · rw [unstrF, if_neg h]
theorem unstr_step {o : List UInt8} {many : Nat} {b : Int} {ps : List (List UInt8 × List UInt8)} {R : List (List UInt8 × List UInt8) × Int} (hl : ps.length < many) (hb : b < (o.length : Nat))
    (hJ : (ps ++ (unstrF o (many - ps.length) b).1, (unstrF o (many - ps.length) b).2) = R) :
    ((ps ++ [((nextPiece o b).1, (nextPiece o b).2.1)]) ++ (unstrF o (many - (ps ++ [((nextPiece o b).1, (nextPiece o b).2.1)]).length) (nextPiece o b).2.2).1, (unstrF o (many - (ps ++ [((nextPiece o b).1, (nextPiece o b).2.1)]).length) (nextPiece o b).2.2).2) = R := by
  obtain ⟨k, hk⟩ : ∃ k, many - ps.length = k + 1 := ⟨many - ps.length - 1, by omega⟩
  rw [hk, unstrF, if_pos hb] at hJ
  rw [show many - (ps ++ [((nextPiece o b).1, (nextPiece o b).2.1)]).length = k by simp; omega]
  rw [← hJ]
  simp
theorem push_piece {h₀ h : Heap} {L D D' : Addr} {o lo lo' : Obj} {tl' tl news : Led} (N9 : News h₀ L h ((D, lo') :: List.filter (fun p => decide (p.1 ≠ D)) ((D', o) :: (tl' ++ (D, lo) :: (tl ++ news))))) (l1 : ∀ p ∈ tl' ++ (D, lo) :: (tl ++ news), p.1 < D') (hoff : OwnOff (tl ++ news) [D]) (hnew : NewTo news tl) :
    News h₀ L h ((D, lo') :: (((D', o) :: tl) ++ news)) ∧ NewTo news ((D', o) :: tl) ∧ OwnOff (((D', o) :: tl) ++ news) [D] := by
  have hD : D < D' := l1 (D, lo) (List.mem_append_right _ List.mem_cons_self)
  refine ⟨cb_drop N9 fun p hp => ?_, fun q hq p hp => ?_, fun p hp b hb => ?_⟩
  · rcases List.mem_cons.mp hp with rfl | hp
    · exact List.mem_cons_self
    · refine List.mem_cons_of_mem _ (List.mem_filter.mpr ⟨?_, ?_⟩)
      · rcases List.mem_cons.mp hp with rfl | hp
        · exact List.mem_cons_self
        · exact List.mem_cons_of_mem _ (List.mem_append_right _ (List.mem_cons_of_mem _ hp))
      · rcases List.mem_cons.mp hp with rfl | hp
        · exact decide_eq_true (Nat.ne_of_gt hD)
        · exact decide_eq_true (hoff p hp D (List.mem_singleton.mpr rfl))
  · rcases List.mem_cons.mp hp with rfl | hp
    · exact Nat.ne_of_lt (l1 q (List.mem_append_right _ (List.mem_cons_of_mem _ (List.mem_append_right _ hq))))
    · exact hnew q hq p hp
  · rw [List.mem_singleton.mp hb]
    rcases List.mem_cons.mp hp with rfl | hp
    · exact Nat.ne_of_gt hD
    · exact hoff p hp D (List.mem_singleton.mpr rfl)
theorem push_end {D D' : Addr} {o lo : Obj} {tl news : Led} (l1 : D < D' ∧ AllLt D' (tl ++ news)) (hlD : ∀ p ∈ news, p.1 < D) (hnew : NewTo news tl) : NewTo news ((D', o) :: (D, lo) :: tl) := by
  intro q hq p hp
  rcases List.mem_cons.mp hp with rfl | hp
  · exact Nat.ne_of_lt (Nat.lt_trans (hlD q hq) l1.1)
  · rcases List.mem_cons.mp hp with rfl | hp
    · exact Nat.ne_of_lt (hlD q hq)
    · exact hnew q hq p hp
theorem unstrung_spec {w : World} {ob : List UInt8} {dv : Value} {b : Int} {many : Nat} {t tb tm : Tok} {news : Led} (hr : DatIn news dv commaD) (ho : ob.length < 1000000) (hb0 : 1 ≤ b) (hb : b ≤ (ob.length : Nat)) (hmany : many < 1000000) :
    Spec w 20 111 [.bytes ob.toArray t, dv, .int b tb, .int (many : Int) tm] news (PostD news (.tuple [.list ((unstrF ob many (b - 1)).1.map pieceD), .int ((unstrF ob many (b - 1)).2 + 1), .bool (decide ((unstrF ob many (b - 1)).2 < (ob.length : Nat)))])) := by
  unfold Spec
  intro mean mg mb dp un gd env outer A₀ base h₀ L m s Q E B F X N T hf hk hd hu hret
  w_top off
  refine wpAny_call ?_
  k_dflt (walk_at "MyEnter")
  intro g' L' h' FG' F' N' B' X' T'
  replace F' := fr_cast F' (m' := fun y => List.lookup y [(Str.ofString "many", .int (many : Int) tm), (Str.ofString "begin", .int b tb), (Str.ofString "delimiters", dv), (Str.ofString "octets", .bytes ob.toArray t)]) rfl
  try dsimp only
  try k_fold
  k_steps
  unfold Stop
  rename_i t0 k0 D h5 hlD D2 h4 hl2 h3 h2 _ _ h1 F1 N1
  refine While_inv2 (n₀ := many) (fun n m₁ nx => ∃ vs k ps tl at' ta, nx = (D, listOf vs.toArray k) :: (tl ++ news) ∧ DatAll (tl ++ news) vs (ps.map pieceD) ∧ NewTo news tl ∧ OwnOff (tl ++ news) [D] ∧ Has m₁ [(Str.ofString "pieces", .ref D), (Str.ofString "at", .int at' ta), (Str.ofString "octets", .bytes ob.toArray t), (Str.ofString "delimiters", dv), (Str.ofString "many", .int (many : Int) tm)] ∧ 0 ≤ at' ∧ at' ≤ (ob.length : Nat) ∧ ps.length ≤ many ∧ n = many - ps.length ∧ (ps ++ (unstrF ob (many - ps.length) at').1, (unstrF ob (many - ps.length) at').2) = unstrF ob many (b - 1)) (by assumption) (cb_drop N1 ?_) ⟨[], 0, [], [], b - 1, _, rfl, .nil, (fun _ _ _ h => nomatch h), (fun p hp q hq => ?_), ⟨rfl, rfl, rfl, rfl, rfl, trivial⟩, by omega, by omega, Nat.zero_le _, rfl, rfl⟩ ?_
  · walk_at "MySub"
  · rw [List.mem_singleton.mp hq]; exact Nat.ne_of_lt (hlD p hp)
  rintro n m₁ nx h tk F₁ N₁ ⟨vs, k, ps, tl, at', ta, hnx, hall, hnew, hoff, hm, ha0, ha1, hps, hn, hJ⟩
  subst hnx
  have hlen : vs.length = ps.length := by rw [hall.length, List.length_map]
  have hr' : DatIn ((D, listOf vs.toArray k) :: (tl ++ news)) dv commaD := hr.mono fun p hp => List.mem_cons_of_mem _ (List.mem_append_right _ hp)
  have hnp := nextPiece_to ha0 ha1
  rw [map_many _ hm] at F₁
  k_steps
  · unfold Stop
    rename_i l1 h9 F9 N9
    obtain ⟨p1, p2, p3⟩ := push_piece N9 l1 hoff hnew
    refine ⟨_, _, _, _, many - (ps.length + 1), rfl, F9, p1, by omega, _, _, ps ++ [((nextPiece ob at').1, (nextPiece ob at').2.1)], _, _, _, rfl, ?_, p2, p3, ⟨rfl, rfl, rfl, rfl, rfl, trivial⟩, hnp.1, hnp.2, by simp; omega, by simp, ?_⟩
    · rw [List.map_append]
      exact (hall.mono fun p hp => List.mem_cons_of_mem _ hp).append (.one (DatIn.tuple (List.Mem.head _) (.cons (.bytes _ _) (.cons (.bytes _ _) .nil))))
    · exact unstr_step (by omega) (by assumption) hJ
  · have e : unstrF ob (many - ps.length) at' = ([], at') := unstr_stop (.inr (by assumption))
    rw [e] at hJ
    rename_i l1 _ _ _ _
    refine hret _ _ _ _ (by k_asm) (by k_asm) ⟨_ :: _ :: tl, rfl, push_end l1 hlD hnew, ?_⟩
    rw [← hJ]
    refine DatIn.tuple (List.Mem.head _) (.cons (.list (List.Mem.tail _ (List.Mem.head _)) ?_) (.cons (.int _ _) (.cons (.bool _) .nil)))
    simpa using hall.mono fun p hp => List.mem_cons_of_mem _ (List.mem_cons_of_mem _ hp)
  · have e : unstrF ob (many - ps.length) at' = ([], at') := unstr_stop (.inl (by omega))
    rw [e] at hJ
    rename_i l1 _ _ _ _
    refine hret _ _ _ _ (by k_asm) (by k_asm) ⟨_ :: _ :: tl, rfl, push_end l1 hlD hnew, ?_⟩
    rw [← hJ]
    refine DatIn.tuple (List.Mem.head _) (.cons (.list (List.Mem.tail _ (List.Mem.head _)) ?_) (.cons (.int _ _) (.cons (.bool _) .nil)))
    simpa using hall.mono fun p hp => List.mem_cons_of_mem _ (List.mem_cons_of_mem _ hp)
def placesF (o wd : List UInt8) (n : Nat) : List Int := ((List.range n).filter fun (i : Nat) => liesAt o wd (i : Int)).map fun (i : Nat) => (i : Int)
theorem placesF_succ {o wd : List UInt8} (i : Nat) : (liesAt o wd (i : Int) = true → placesF o wd (i + 1) = placesF o wd i ++ [(i : Int)]) ∧ (liesAt o wd (i : Int) = false → placesF o wd (i + 1) = placesF o wd i) := by
  unfold placesF
  rw [List.range_succ, List.filter_append, List.map_append]
  refine ⟨fun h => ?_, fun h => ?_⟩
  · rw [List.filter_cons, if_pos h]; rfl
  · rw [List.filter_cons, if_neg (by rw [h]; exact Bool.false_ne_true)]; simp
theorem places_map_le {o wd : List UInt8} {n : Nat} : ((placesF o wd n).map Dat.int).length ≤ n := by
  unfold placesF
  rw [List.length_map, List.length_map]
  exact Nat.le_trans (List.length_filter_le _ _) (by rw [List.length_range]; exact Nat.le_refl _)
theorem ints_dat {news news' : Led} : ∀ {vs : List Value} {ns : List Int}, DatAll news vs (ns.map .int) → DatAll news' vs (ns.map .int)
  | _, [], h => by rw [dat_nil h]; exact .nil
  | _, n :: ns, h => by
    obtain ⟨v, r, rfl, h1, h2⟩ := dat_cons h
    obtain ⟨t, rfl⟩ := dat_int h1
    exact .cons (.int _ _) (ints_dat h2)
theorem places_spec {w : World} {ob wb : List UInt8} {t u : Tok} {news : Led} (ho : ob.length < 1000000) (hw : wb.length < 1000000) :
    Spec w 8 140 [.bytes ob.toArray t, .bytes wb.toArray u] news (PostD news (.list ((placesF ob wb ob.length).map .int))) := by
  unfold Spec
  intro mean mg mb dp un gd env outer A₀ base h₀ L m s Q E B F X N T hf hk hd hu hret
  w_top off
  refine wpAny_call ?_
  k_dflt (walk_at "MyEnterC")
  intro g' L' h' tk0 cells' FG' F' N' Y' B' X' T' l1
  k_cells Y'
  simp only [List.cons_append, List.nil_append] at N'
  try dsimp only
  try k_fold
  k_steps
  unfold Stop
  refine LCt.CompSrcT.range (n := ob.length) rfl (by assumption) (by assumption) (by assumption) (small_one (by omega) (by omega) (by omega) (by omega)) (by rw [rangeSize_nat]; congr 1) (fits_of (by omega)) ?_
  intro g
  rename_i o1 o2 d1 d2 N1 _ _ _ _ _ _ _ _ _ N2 _
  refine Lc.compT_rule (fun i ys nx => nx = (L' + 1 + 1, o1) :: (L' + 1, o2) :: news ∧ DatAll nx ys ((placesF ob wb i).map .int)) ⟨rfl, .nil⟩ ?_ ?_
  · rintro i ys nx v I oI C oC D m₂ h tk E' hi ⟨tv, rfl⟩ ⟨hnx, hys⟩ hn hx F₁ N₁ hoff hne
    subst hnx
    k_steps
    · unfold Stop
      rename_i hc
      refine LCg.CompEnd.intro (by k_asm) (by k_asm) _ (fun _ h => h) hoff trivial ⟨rfl, ?_⟩
      rw [Int.zero_add] at hc ⊢
      rw [(placesF_succ i).1 (by simpa [liesAt] using hc), List.map_append]
      exact hys.append (.one (.int _ _))
    · unfold Stop
      rename_i hc
      refine LCg.CompEnd.intro (by k_asm) (by k_asm) _ (fun _ h => h) hoff trivial ⟨rfl, ?_⟩
      rw [Int.zero_add] at hc
      rw [(placesF_succ i).2 (by simpa [liesAt] using hc)]
      exact hys
  · rintro ys nx ⟨hnx, hys⟩
    subst hnx
    intro D h tk F₁ N₁ hoff
    dsimp only
    k_steps
    refine hret _ _ _ _ (by k_asm) (endN (by k_asm) fun p hp => List.mem_cons_of_mem _ (List.mem_cons_of_mem _ hp)) ⟨_, rfl, off1_new hoff fun p hp => List.mem_cons_of_mem _ (List.mem_cons_of_mem _ hp), ?_⟩
    exact DatIn.list (List.Mem.head _) (ints_dat hys)
local macro_rules | `(tactic| walk_at "call ref") => `(tactic| (k_here; k_dflt (refine' (places_spec ?c1 ?c2).useL ?k1 ?k2 ?k3 ?k4 ?k5 ?kF ?kK ?kd ?ku ?_); walk_at "MyUse"; (case c1 | c2 => walk_at "Small"); k_whole; intro _ _ _ _ _ _ F' N' _ _ _ hLn; (have hLb := Nat.le_trans (Nat.le_of_eq hLn) places_map_le); (try dsimp only)))
def dueSent (r : Row) : List UInt8 := cutI r.1 none (some (match r.2 with | none => ((r.1.length : Nat) : Int) | some d => (placesF r.1 d r.1.length ++ [((r.1.length : Nat) : Int)]).headD 0))
theorem dueSent_le (r : Row) : (dueSent r).length ≤ r.1.length := cutI_le _ _ _
theorem flat_le {rows : List Row} (hok : ∀ r ∈ rows, RowOk r) : (rows.flatMap dueSent).length ≤ rows.length * 1000 := by
  induction rows with
  | nil => simp
  | cons r rs ih =>
    have h1 := ih fun r hr => hok r (List.mem_cons_of_mem _ hr)
    have h2 := dueSent_le r
    have h3 := (hok r List.mem_cons_self).1
    simp only [List.flatMap_cons, List.length_append, List.length_cons]
    omega
theorem sent_all_spec {w : World} {rows : List Row} {rv : Value} {news : Led} (hr : DatIn news rv (.list (rows.map rowD))) (hok : ∀ r ∈ rows, RowOk r) (hlen : rows.length < 100) :
    Spec w 16 147 [rv] news (PostT news (fun t' => .bytes (rows.flatMap dueSent).toArray t')) := by
  unfold Spec
  intro mean mg mb dp un gd env outer A₀ base h₀ L m s Q E B F X N T hf hk hd hu hret
  obtain ⟨ax, vs, nn, rfl, hax, hall⟩ := dat_list hr
  w_top off
  refine wpAny_call ?_
  k_dflt (walk_at "MyEnter")
  intro g' L' h' FG' F' N' B' X' T'
  replace F' := fr_cast F' (m' := fun y => List.lookup y [(Str.ofString "rows", .ref ax)]) rfl
  try dsimp only
  try k_fold
  k_steps
  unfold Stop
  refine list_rule (fun i m₁ nx => nx = news ∧ ∃ t₁, Has m₁ [(Str.ofString "found", .bytes ((rows.take i).flatMap dueSent).toArray t₁)]) rfl (by assumption) (by assumption) hax rfl rfl ⟨rfl, _, rfl, trivial⟩ (fun _ _ _ hJ => hJ.1 ▸ hax) ?_ ?_
  · rintro i v m₁ nx h tk own hv hoff ⟨hnx, t₁, hm⟩ F₁ N₁
    subst hnx
    obtain ⟨r, hri, hdr⟩ := dat_get hall hv
    obtain ⟨a, to, u, n, rfl, hma⟩ := dat_row hdr
    obtain ⟨hro1, hro2⟩ := hok r (List.mem_of_getElem? hri)
    have hf1 := flat_le (rows := rows.take i) fun r hr => hok r (List.mem_of_mem_take hr)
    have hf2 : (rows.take i).length ≤ rows.length := by rw [List.length_take]; omega
    have hf3 : (rows.take (i + 1)).flatMap dueSent = (rows.take i).flatMap dueSent ++ dueSent r := by rw [List.take_add_one, hri]; simp
    have hf4 := dueSent_le r
    rw [map_many _ hm] at F₁
    obtain ⟨o, mk⟩ := r
    dsimp only at hro1 hro2 hma hf4 ⊢
    cases mk with
    | none =>
      have h0 : DatAll nx [] (([] : List Int).map .int) := .nil
      dsimp only [markV] at hma
      k_steps
      unfold Stop
      exact InvEndG.intro (by k_asm) (by k_asm) ⟨rfl, _, by rw [hf3]; rfl, trivial⟩ hoff (by walk_at "MySub") (by walk_at "MySub")
    | some d =>
      obtain ⟨hd1, hd2⟩ := hro2 d rfl
      dsimp only [markV] at hma
      k_steps
      unfold Stop
      exact InvEndG.intro (by k_asm) (by k_asm) ⟨rfl, _, by rw [hf3]; rfl, trivial⟩ hoff (by walk_at "MySub") (by walk_at "MySub")
  · rintro m₁ nx h tk ⟨hnx, t₁, hm⟩ F₁ N₁
    subst hnx
    have hlen : vs.length = rows.length := by rw [hall.length, List.length_map]
    rw [hlen, List.take_length] at hm
    rw [map_many _ hm] at F₁
    k_steps
    exact hret _ _ _ _ (by k_asm) (by k_asm) ⟨⟨_, rfl⟩, rfl⟩
mutual
def dDep : Dat → Nat
  | .none => 0
  | .bool _ => 0
  | .int _ => 0
  | .str _ => 0
  | .bytes _ => 0
  | .tuple ds => dDeps ds + 1
  | .list ds => dDeps ds + 1
def dDeps : List Dat → Nat
  | [] => 0
  | d :: ds => max (dDep d) (dDeps ds)
end
section
open PySem.SeqAt
theorem eqAt_bytes {A : Around} {s : Shared} (x : Array UInt8) (t u : Tok) : EqAt A s (.bytes x t) (.bytes x u) true := fun prog w E Q h => by
  unfold eqBool
  refine wpAny_holding ?_
  by_cases hab : ((Value.bytes x t) == (Value.bytes x u)) = true
  · rw [if_pos hab]
    exact wpAny_bind (wpAny_rule (wpAny_pure h))
  · rw [if_neg hab]
    have hc : wpAny (model prog w) A (richCompare .Eq (.bytes x t) (.bytes x u)) (fun a s' => wpAny (model prog w) A (truthOfDropped a) Q E s') E s := by
      have := eq_bytes (prog := prog) (w := w) (A := A) (E := E) (s := s) (b := x) (c := x) (t := t) (u := u) (Q := fun a s' => wpAny (model prog w) A (truthOfDropped a) Q E s') (by rw [beq_self_eq_true]; exact wpAny_truthy_bool h)
      exact this
    exact wpAny_bind hc
theorem dat_str {news : Led} {v : Value} {x : Str} (h : DatIn news v (.str x)) : ∃ t, v = .str x t := by
  cases h; exact ⟨_, rfl⟩
theorem all_true (n : Nat) : (List.range n).all (fun _ => true) = true := by simp
variable {h₀ : Heap} {L : Addr} {news : Led} {s : Shared}
mutual
theorem same_at (N : News h₀ L s.heap news) : ∀ {v u : Value} {d : Dat} (A : Around), DatIn news v d → DatIn news u d → A.units + dDep d < cLine → EqAt A s v u true
  | _, _, .none, A, h1, h2, _ => by cases h1; cases h2; exact EqAt.same _
  | _, _, .bool b, A, h1, h2, _ => by cases h1; cases h2; exact EqAt.same _
  | _, _, .int i, A, h1, h2, _ => by
    obtain ⟨t, rfl⟩ := dat_int h1
    obtain ⟨u, rfl⟩ := dat_int h2
    have := EqAt.int_int (A := A) (s := s) i t i u
    simpa using this
  | _, _, .str x, A, h1, h2, _ => by
    obtain ⟨t, rfl⟩ := dat_str h1
    obtain ⟨u, rfl⟩ := dat_str h2
    have := EqAt.str_str (A := A) (s := s) x t x u
    simpa using this
  | _, _, .bytes x, A, h1, h2, _ => by cases h1; cases h2; exact eqAt_bytes x _ _
  | _, _, .tuple ds, A, h1, h2, hu => by
    rw [dDep] at hu
    obtain ⟨a, vs, n, rfl, hm, hall⟩ := dat_tuple h1
    obtain ⟨b, us, k, rfl, hm2, hall2⟩ := dat_tuple h2
    by_cases e : a = b
    · subst e; exact EqAt.same _
    · have hl : s.heap.IsTuple a vs.toArray := ⟨_, (N _ hm).1, rfl, _, rfl⟩
      have hb : s.heap.IsTuple b us.toArray := ⟨_, (N _ hm2).1, rfl, _, rfl⟩
      have he := RcAt.tuples (A := A) (e := fun _ => true) hl hb (by omega) (fun j h1 h2 => by
        have := same_all N A.in1 hall hall2 (by rw [Around.in1_units]; omega) j (by simpa using h1) (by simpa using h2)
        simpa using this)
      have hsz : vs.length = us.length := by rw [hall.length, hall2.length]
      rw [all_true, List.size_toArray, List.size_toArray, hsz, beq_self_eq_true, Bool.and_self] at he
      exact EqAt.of_refs e he
  | _, _, .list ds, A, h1, h2, hu => by
    rw [dDep] at hu
    obtain ⟨a, vs, n, rfl, hm, hall⟩ := dat_list h1
    obtain ⟨b, us, k, rfl, hm2, hall2⟩ := dat_list h2
    by_cases e : a = b
    · subst e; exact EqAt.same _
    · have hl : s.heap.IsList a vs.toArray := ⟨_, (N _ hm).1, rfl, _, rfl⟩
      have hb : s.heap.IsList b us.toArray := ⟨_, (N _ hm2).1, rfl, _, rfl⟩
      have hsz : vs.length = us.length := by rw [hall.length, hall2.length]
      have he := RcAt.lists (A := A) (e := fun _ => true) hl hb (by simpa using hsz) (by omega) (fun j h1 h2 => by
        have := same_all N A.in1 hall hall2 (by rw [Around.in1_units]; omega) j (by simpa using h1) (by simpa using h2)
        simpa using this)
      rw [all_true] at he
      exact EqAt.of_refs e he
theorem same_all (N : News h₀ L s.heap news) : ∀ {vs us : List Value} {ds : List Dat} (A : Around), DatAll news vs ds → DatAll news us ds → A.units + dDeps ds < cLine → ∀ j (h1 : j < vs.length) (h2 : j < us.length), EqAt A s vs[j] us[j] true
  | _, _, [], A, h1, h2, _ => by
    rw [dat_nil h1]; intro j h; exact absurd h (by simp)
  | _, _, d :: ds, A, h1, h2, hu => by
    rw [dDeps] at hu
    obtain ⟨v, r, rfl, a1, a2⟩ := dat_cons h1
    obtain ⟨u, q, rfl, b1, b2⟩ := dat_cons h2
    intro j hj1 hj2
    cases j with
    | zero => exact same_at N A a1 b1 (by omega)
    | succ j => exact same_all N A a2 b2 (by omega) j (by simpa using hj1) (by simpa using hj2)
end
variable {prog : Program} {w : World} {A : Around} {E : Value → Shared → Prop} {Q : Value → Shared → Prop}
theorem eq_same_T {a b : Addr} {ds : List Dat} (N : News h₀ L s.heap news) (h1 : DatIn news (.ref a) (.tuple ds)) (h2 : DatIn news (.ref b) (.tuple ds)) (hu : A.units + (dDeps ds + 1) < cLine) (h : Q (.bool true) s) : wpAny (model prog w) A (compareOp .Eq (.ref a) (.ref b)) Q E s := by
  obtain ⟨a', vs, n, e, hm, hall⟩ := dat_tuple h1
  cases e
  obtain ⟨b', us, k, e, hm2, hall2⟩ := dat_tuple h2
  cases e
  have hl : s.heap.IsTuple a vs.toArray := ⟨_, (N _ hm).1, rfl, _, rfl⟩
  have hb : s.heap.IsTuple b us.toArray := ⟨_, (N _ hm2).1, rfl, _, rfl⟩
  have he := RcAt.tuples (A := A) (e := fun _ => true) hl hb (by omega) (fun j h1 h2 => by
    have := same_all N A.in1 hall hall2 (by rw [Around.in1_units]; omega) j (by simpa using h1) (by simpa using h2)
    simpa using this)
  have hsz : vs.length = us.length := by rw [hall.length, hall2.length]
  rw [all_true, List.size_toArray, List.size_toArray, hsz, beq_self_eq_true, Bool.and_self] at he
  exact he prog w E Q h
theorem ne_same_T {a b : Addr} {ds : List Dat} (N : News h₀ L s.heap news) (h1 : DatIn news (.ref a) (.tuple ds)) (h2 : DatIn news (.ref b) (.tuple ds)) (hu : A.units + (dDeps ds + 1) < cLine) (h : Q (.bool false) s) : wpAny (model prog w) A (compareOp .NotEq (.ref a) (.ref b)) Q E s := by
  obtain ⟨a', vs, n, e, hm, hall⟩ := dat_tuple h1
  cases e
  obtain ⟨b', us, k, e, hm2, hall2⟩ := dat_tuple h2
  cases e
  have hl : s.heap.IsTuple a vs.toArray := ⟨_, (N _ hm).1, rfl, _, rfl⟩
  have hb : s.heap.IsTuple b us.toArray := ⟨_, (N _ hm2).1, rfl, _, rfl⟩
  have he := RcNeAt.tuples (A := A) (e := fun _ => true) hl hb (by omega) (fun j h1 h2 => by
    have := same_all N A.in1 hall hall2 (by rw [Around.in1_units]; omega) j (by simpa using h1) (by simpa using h2)
    simpa using this)
  have hsz : vs.length = us.length := by rw [hall.length, hall2.length]
  rw [all_true, List.size_toArray, List.size_toArray, hsz, beq_self_eq_true, Bool.and_self] at he
  exact he prog w E Q h
theorem ne_nil_L {a b : Addr} {vs : List Value} {n k : Nat} (N : News h₀ L s.heap news) (h1 : (a, listOf vs.toArray n) ∈ news) (h2 : (b, listOf ([] : List Value).toArray k) ∈ news) (hu : A.units < cLine) (h : Q (.bool (!vs.isEmpty)) s) : wpAny (model prog w) A (compareOp .NotEq (.ref a) (.ref b)) Q E s := by
  have hl : s.heap.IsList a vs.toArray := ⟨_, (N _ h1).1, rfl, _, rfl⟩
  have hb : s.heap.IsList b ([] : List Value).toArray := ⟨_, (N _ h2).1, rfl, _, rfl⟩
  cases vs with
  | nil => exact RcNeAt.lists (A := A) (e := fun _ => true) hl hb rfl hu (fun j h1 h2 => absurd h1 (by simp)) prog w E Q h
  | cons v r => exact RcNeAt.lists_lengths (A := A) hl hb (by simp) hu prog w E Q h
end
section
variable {prog : Program} {w : World} {A : Around} {E : Value → Shared → Prop} {s : Shared} {h₀ : Heap} {L : Addr} {m : Str → Option Value} {news : Led} {value slice : PySem.Expr} {Q : Value → Shared → Prop}
theorem dat_map_take {nw : Led} {α : Type} {f : α → Dat} {rows : List α} : ∀ {vs : List Value} (i : Nat), DatAll nw vs (rows.map f) → DatAll nw (vs.take i) ((rows.take i).map f) := by
  induction rows with
  | nil => intro vs i h; rw [dat_nil h]; simp; exact .nil
  | cons r rs ih =>
    intro vs i h
    obtain ⟨v, q, rfl, h1, h2⟩ := dat_cons h
    cases i with
    | zero => exact .nil
    | succ i => exact .cons h1 (ih i h2)
theorem dat_map_drop {nw : Led} {α : Type} {f : α → Dat} {rows : List α} : ∀ {vs : List Value} (i : Nat), DatAll nw vs (rows.map f) → DatAll nw (vs.drop i) ((rows.drop i).map f) := by
  induction rows with
  | nil => intro vs i h; rw [dat_nil h]; simp; exact .nil
  | cons r rs ih =>
    intro vs i h
    obtain ⟨v, q, rfl, h1, h2⟩ := dat_cons h
    cases i with
    | zero => exact .cons h1 h2
    | succ i => exact ih i h2
theorem slice_to {l : Addr} {rows : List Row} {i : Nat} {t : Tok} {nw : Led} (F : Fr h₀ L s.heap m) (N : News h₀ L s.heap news) (hd : DatIn nw (.ref l) (.list (rows.map rowD))) (hsub : ∀ p ∈ nw, p ∈ news) (hi : i ≤ rows.length) (hz : rows.length ≤ 1000000)
    (h : ∀ D o h', Fr h₀ L h' m → News h₀ L h' ((D, o) :: news) → (∀ p ∈ news, p.1 < D) → DatIn ((D, o) :: news) (.ref D) (.list ((rows.take i).map rowD)) → Q (.ref D) { s with heap := h' })
    (hs : subscripted slice false (.ref l) (.ref s.heap.objs.size) = operate [.ref s.heap.objs.size, .ref l] (getItem (.ref l) (.ref s.heap.objs.size)) := by with_unfolding_all rfl)
    (ht : ∀ r, letTemporaryGo value (.ref l) r = pure () := by intro _; with_unfolding_all rfl) :
    wpAny (model prog w) A (subscriptTail value slice (.ref l) (.ref s.heap.objs.size)) Q E { s with heap := s.heap.push { cls := .type "slice", data := .fields #[.none, .int (i : Int) t, .none] } } := by
  obtain ⟨l', vs, n, e, hm, hall⟩ := dat_list (hd.mono hsub)
  cases e
  have hlen : vs.length = rows.length := by rw [hall.length, List.length_map]
  refine slice_list F N ⟨_, (N _ hm).1, rfl, _, rfl⟩ .none (.int _ _) (fun h' F' N' => ?_) hs ht (by rw [List.size_toArray, PySem.sizeLine_eq]; omega)
  rw [slicePick_upto _ _ (by rw [List.size_toArray]; omega)] at N'
  refine h _ _ h' F' N' (fun p hp => Nat.lt_succ_of_lt (Heap.lt_size (N p hp).1)) ?_
  exact DatIn.list (n := 0) List.mem_cons_self ((dat_map_take i hall).mono fun p hp => List.mem_cons_of_mem _ hp)
theorem slice_from {l : Addr} {rows : List Row} {i : Nat} {t : Tok} {nw : Led} (F : Fr h₀ L s.heap m) (N : News h₀ L s.heap news) (hd : DatIn nw (.ref l) (.list (rows.map rowD))) (hsub : ∀ p ∈ nw, p ∈ news) (hi : i ≤ rows.length) (hz : rows.length ≤ 1000000)
    (h : ∀ D o h', Fr h₀ L h' m → News h₀ L h' ((D, o) :: news) → (∀ p ∈ news, p.1 < D) → DatIn ((D, o) :: news) (.ref D) (.list ((rows.drop i).map rowD)) → Q (.ref D) { s with heap := h' })
    (hs : subscripted slice false (.ref l) (.ref s.heap.objs.size) = operate [.ref s.heap.objs.size, .ref l] (getItem (.ref l) (.ref s.heap.objs.size)) := by with_unfolding_all rfl)
    (ht : ∀ r, letTemporaryGo value (.ref l) r = pure () := by intro _; with_unfolding_all rfl) :
    wpAny (model prog w) A (subscriptTail value slice (.ref l) (.ref s.heap.objs.size)) Q E { s with heap := s.heap.push { cls := .type "slice", data := .fields #[.int (i : Int) t, .none, .none] } } := by
  obtain ⟨l', vs, n, e, hm, hall⟩ := dat_list (hd.mono hsub)
  cases e
  have hlen : vs.length = rows.length := by rw [hall.length, List.length_map]
  refine slice_list F N ⟨_, (N _ hm).1, rfl, _, rfl⟩ (.int _ _) .none (fun h' F' N' => ?_) hs ht (by rw [List.size_toArray, PySem.sizeLine_eq]; omega)
  rw [slicePick_from _ _ (by rw [List.size_toArray]; omega)] at N'
  refine h _ _ h' F' N' (fun p hp => Nat.lt_succ_of_lt (Heap.lt_size (N p hp).1)) ?_
  exact DatIn.list (n := 0) List.mem_cons_self ((dat_map_drop i hall).mono fun p hp => List.mem_cons_of_mem _ hp)
end
section
variable {w : World} {n : Nat} {f : Addr} {vs : List Value} {news : Led}
    {mean : ExcName → Option Value} {mg mb : Str → Option Value} {dp un : Nat} {gd : Option (List Code)} {env : Env} {outer : List Env} {A₀ : Around} {base h₀ : Heap} {L : Addr} {m : Str → Option Value} {s : Shared} {Q E : Value → Shared → Prop}
theorem Spec.useBIBD {x : Array UInt8} {i : Int} {b : Bool} (S : Spec w n f vs news (PostD news (.tuple [.bytes x, .int i, .bool b])))
    (B : Below A₀ base outer h₀) (F : Fr h₀ L s.heap m) (X : (hd.heap_39 w.params).In h₀) (N : News h₀ L s.heap news) (T : Top hd.view_39 (looseW hd.view_39 [Str.ofString "LedgerError"]) mean mg mb h₀) (hf : env.frame = some L) (hk : env.scope.kind = .function)
    (hd : dp + n < recursionLimit) (hu : un + 8 * n < cLine)
    (h : ∀ a tx ti k tl h' tk', Fr h₀ L h' m → News h₀ L h' (tl ++ news) → NewTo news tl → (a, ({ cls := .type "tuple", data := .seq [.bytes x tx, .int i ti, .bool b].toArray k } : Obj)) ∈ tl ++ news → DatIn (tl ++ news) (.ref a) (.tuple [.bytes x, .int i, .bool b]) → Q (.ref a) { s with heap := h', toks := tk' }) :
    wpAny (model PySem.Challenge.rw_og0068_01.row.prog w) { handled := none, depth := dp, frames := some (env :: outer), guards := gd, units := un } (call (.ref f) vs) Q E s :=
  S.useBIB B F X N T hf hk hd hu fun a tx ti k tl h' tk' F' N' hn hm => h a tx ti k tl h' tk' F' N' hn hm (DatIn.tuple hm (.cons (.bytes _ _) (.cons (.int _ _) (.cons (.bool _) .nil))))
end
local macro_rules | `(tactic| walk_at "call ref") => `(tactic| (k_here; k_dflt (refine' (sent_all_spec ?c1 ?c2 ?c3).useT ?k1 ?k2 ?k3 ?k4 ?k5 ?kF ?kK ?kd ?ku ?_); walk_at "MyUse"; (case c1 => walk_at "MyDat"); (case c2 => assumption); (case c3 => omega); k_whole; intro _ _ _ F' N'; (try dsimp only)))
local macro_rules | `(tactic| walk_at "compareOp Eq ref ref") => `(tactic| (k_here; (with_reducible show wpAny _ _ (compareOp CmpOp.Eq (Value.ref _) (Value.ref _)) _ _ _); k_dflt (refine' eq_same_T ?k1 ?c1 ?c2 ?ku ?_; (case k1 => k_asm); (case c1 | c2 => walk_at "MyDat"); (case ku => ((simp only [dDeps, dDep, Nat.max_self, Nat.max_zero, Nat.zero_max]); ktr_units)))))
local macro_rules | `(tactic| walk_at "compareOp NotEq ref ref") => `(tactic| (k_here; (with_reducible show wpAny _ _ (compareOp CmpOp.NotEq (Value.ref _) (Value.ref _)) _ _ _); k_dflt (refine' ne_same_T ?k1 ?c1 ?c2 ?ku ?_; (case k1 => k_asm); (case c1 | c2 => walk_at "MyDat"); (case ku => ((simp only [dDeps, dDep, Nat.max_self, Nat.max_zero, Nat.zero_max]); ktr_units)))))
local macro_rules | `(tactic| walk_at "subscriptTail") => `(tactic| (k_here; (with_reducible show wpAny _ _ (subscriptTail _ (Expr.Slice none (some _) none _) (Value.ref _) (Value.ref _)) _ _ _); k_dflt (refine' slice_to (s := ⟨_, _, _, _, _⟩) ?hF ?hN ?hd ?hs ?hi ?hz ?_; (case hF | hN => k_asm); (case hd => assumption); (case hs => walk_at "MySub"); (case hi | hz => omega)); intro _ _ _ F' N' _ _))
local macro_rules | `(tactic| walk_at "subscriptTail") => `(tactic| (k_here; (with_reducible show wpAny _ _ (subscriptTail _ (Expr.Slice (some _) none none _) (Value.ref _) (Value.ref _)) _ _ _); k_dflt (refine' slice_from (s := ⟨_, _, _, _, _⟩) ?hF ?hN ?hd ?hs ?hi ?hz ?_; (case hF | hN => k_asm); (case hd => assumption); (case hs => walk_at "MySub"); (case hi | hz => omega)); intro _ _ _ F' N' _ _))
def laidAt (sent g : List UInt8) (b : Int) (i : Nat) : UInt8 := if b - 1 ≤ (i : Int) ∧ (i : Int) < b - 1 + (sent.length : Nat) then sent.getD ((i : Int) - b + 1).toNat 0 else g.getD i 0
def dueF (rows : List Row) (g : List UInt8) (b : Int) : List UInt8 × Int × Bool :=
  if b < 1 ∨ b > (g.length : Nat) then (g, b, true) else
    ((List.range g.length).map (laidAt (rows.flatMap dueSent) g b), if ((g.length : Nat) : Int) + 1 < b + ((rows.flatMap dueSent).length : Nat) then ((g.length : Nat) : Int) + 1 else b + ((rows.flatMap dueSent).length : Nat), decide (((g.length : Nat) : Int) + 1 < b + ((rows.flatMap dueSent).length : Nat)))
set_option maxHeartbeats 2000000 in
theorem due_spec {w : World} {rows : List Row} {rv : Value} {g : List UInt8} {b : Int} {t tb : Tok} {news : Led} (hr : DatIn news rv (.list (rows.map rowD))) (hok : ∀ r ∈ rows, RowOk r) (hlen : rows.length < 100) (hg : g.length < 1000) (hb : b.natAbs < 1000000) :
    Spec w 24 152 [rv, .bytes g.toArray t, .int b tb] news (PostD news (.tuple [.bytes (dueF rows g b).1.toArray, .int (dueF rows g b).2.1, .bool (dueF rows g b).2.2])) := by
  unfold Spec
  intro mean mg mb dp un gd env outer A₀ base h₀ L m s Q E B F X N T hf hk hd hu hret
  have hfl := flat_le hok
  w_top off
  refine wpAny_call ?_
  k_dflt (walk_at "MyEnterC")
  intro g' L' h' tk0 cells' FG' F' N' Y' B' X' T' l1
  k_cells Y'
  have hoffc := cells_off l1
  simp only [List.cons_append, List.nil_append] at N'
  try dsimp only
  try k_fold
  k_steps
  · refine hret _ _ _ _ (by k_asm) (endN (by k_asm) (by walk_at "MySub")) ⟨_, rfl, (by rename_i l1 _ _ _ _; exact endLt l1.2.2.2), ?_⟩
    rw [dueF, if_pos (by omega)]
    exact DatIn.tuple (List.Mem.head _) (.cons (.bytes _ _) (.cons (.int _ _) (.cons (.bool _) .nil)))
  · refine hret _ _ _ _ (by k_asm) (endN (by k_asm) (by walk_at "MySub")) ⟨_, rfl, (by rename_i l1 _ _ _ _; exact endLt l1.2.2.2), ?_⟩
    rw [dueF, if_pos (by omega)]
    exact DatIn.tuple (List.Mem.head _) (.cons (.bytes _ _) (.cons (.int _ _) (.cons (.bool _) .nil)))
  unfold Stop
  refine LCg.CompSrc.range (n := g.length) rfl (by assumption) (by assumption) (by assumption) (small_one (by omega) (by omega) (by omega) (by omega)) (by rw [rangeSize_nat]; congr 1) (fits_of (by omega)) ?_
  intro g9
  rename_i N2 _
  refine Lc.comp_rule (fun i ys nx => nx = _ ∧ DatAll nx ys (((List.range i).map (laidAt (rows.flatMap dueSent) g b)).map byteD)) ⟨rfl, .nil⟩ ?_ ?_
  · rintro i ys nx v I oI C oC D m₂ h tk E' hi ⟨tv, rfl⟩ ⟨hnx, hys⟩ hn hx F₁ N₁ hoff hne
    subst hnx
    rw [List.range_succ, List.map_append, List.map_append]
    k_steps
    · unfold Stop
      refine LCg.CompEnd.intro (by k_asm) (by k_asm) _ (fun _ h => h) hoff trivial ⟨rfl, ?_⟩
      refine hys.append (.one (dat_byte ?_))
      rw [laidAt, if_pos ⟨by omega, by omega⟩, Int.zero_add]
    · unfold Stop
      refine LCg.CompEnd.intro (by k_asm) (by k_asm) _ (fun _ h => h) hoff trivial ⟨rfl, ?_⟩
      refine hys.append (.one (dat_byte ?_))
      rw [laidAt, if_neg (by omega), Int.zero_add, Int.toNat_natCast]
    · unfold Stop
      refine LCg.CompEnd.intro (by k_asm) (by k_asm) _ (fun _ h => h) hoff trivial ⟨rfl, ?_⟩
      refine hys.append (.one (dat_byte ?_))
      rw [laidAt, if_neg (by omega), Int.zero_add, Int.toNat_natCast]
  · rintro ys nx ⟨hnx, hys⟩
    subst hnx
    intro D h tk F₁ N₁ hoff
    dsimp only
    have hl9 : ((List.range g.length).map (laidAt (rows.flatMap dueSent) g b)).length = g.length := by simp
    k_steps
    refine hret _ _ _ _ (by k_asm) (endN (by k_asm) (by walk_at "MySub")) ⟨_, rfl, (by rename_i l1 _ _ _ _; exact endLt l1.2.2.2.2), ?_⟩
    rw [dueF, if_neg (c := b < 1 ∨ b > ((g.length : Nat) : Int)) (by omega)]
    exact DatIn.tuple (List.Mem.head _) (.cons (.bytes _ _) (.cons (.int _ _) (.cons (.bool _) .nil)))
/-! the plain laws -/
theorem firstFrom_places {o wd : List UInt8} : ∀ (n : Nat) (i : Nat), firstFrom o wd n (i : Int) = ((((List.range' i n).filter fun (j : Nat) => liesAt o wd (j : Int)).map fun (j : Nat) => (j : Int)) ++ [-1]).headD 0
  | 0, i => by simp [firstFrom]
  | n + 1, i => by
    rw [firstFrom, List.range'_succ, List.filter_cons]
    cases h : liesAt o wd (i : Int) with
    | true => simp
    | false =>
      have := firstFrom_places (o := o) (wd := wd) n (i + 1)
      rw [if_neg Bool.false_ne_true, show ((i : Int) + 1) = ((i + 1 : Nat) : Int) by omega, this]
      simp
theorem firstAt_places {o wd : List UInt8} {b : Nat} (hb : b ≤ o.length) : firstAt o wd (b : Int) = (((placesF o wd o.length).filter fun j => decide (j ≥ (b : Int))) ++ [-1]).headD 0 := by
  unfold firstAt
  rw [show (((o.length : Nat) : Int) - (b : Int)).toNat = o.length - b by omega, firstFrom_places]
  congr 2
  unfold placesF
  rw [List.filter_map, List.filter_filter]
  congr 1
  have e : List.range o.length = List.range' 0 b ++ List.range' b (o.length - b) := by
    have := List.range'_append_1 (s := 0) (m := b) (n := o.length - b)
    rw [Nat.zero_add] at this
    rw [this, List.range_eq_range']
    congr 1
    omega
  rw [e, List.filter_append]
  have h1 : (List.range' 0 b).filter (fun a => ((fun j => decide (j ≥ (b : Int))) ∘ fun (i : Nat) => (i : Int)) a && liesAt o wd (a : Int)) = [] := by
    rw [List.filter_eq_nil_iff]
    intro a ha
    have := List.mem_range'_1.mp ha
    simp only [Function.comp, Bool.and_eq_true, decide_eq_true_eq]
    omega
  rw [h1, List.nil_append]
  refine List.filter_congr fun a ha => ?_
  have := List.mem_range'_1.mp ha
  have hd : decide ((a : Int) ≥ (b : Int)) = true := by simp; omega
  simp only [Function.comp, hd, Bool.true_and]
theorem firstAt_big {o wd : List UInt8} {b : Nat} (hb : o.length ≤ b) : firstAt o wd (b : Int) = (((placesF o wd o.length).filter fun j => decide (j ≥ (b : Int))) ++ [-1]).headD 0 := by
  unfold firstAt
  rw [show (((o.length : Nat) : Int) - (b : Int)).toNat = 0 by omega, firstFrom]
  have : (placesF o wd o.length).filter (fun j => decide (j ≥ (b : Int))) = [] := by
    rw [List.filter_eq_nil_iff]
    intro a ha
    unfold placesF at ha
    obtain ⟨j, hj, rfl⟩ := List.mem_map.mp ha
    have := List.mem_range.mp (List.mem_filter.mp hj).1
    simp
    omega
  rw [this]
  rfl
theorem first_law (o wd : List UInt8) (b : Nat) : firstAt o wd (b : Int) = (((placesF o wd o.length).filter fun j => decide (j ≥ (b : Int))) ++ [-1]).headD 0 :=
  (Nat.le_total b o.length).elim firstAt_places firstAt_big
theorem head_of {l : List Int} {d e : Int} : (l ++ [d]).headD 0 = (match l with | [] => d | x :: _ => x) ∧ (l ++ [e]).headD 0 = (match l with | [] => e | x :: _ => x) := by
  cases l <;> exact ⟨rfl, rfl⟩
theorem dueSent_eq (r : Row) : dueSent r = sentPart r.1 r.2 := by
  obtain ⟨o, mk⟩ := r
  cases mk with
  | none =>
    unfold dueSent sentPart
    dsimp only
    rw [cutI_head _ _ (by omega), Int.toNat_natCast, List.take_length]
  | some d =>
    have h := first_law o d 0
    have hf : (placesF o d o.length).filter (fun j => decide (j ≥ ((0 : Nat) : Int))) = placesF o d o.length := by
      rw [List.filter_eq_self]
      intro a ha
      unfold placesF at ha
      obtain ⟨j, hj, rfl⟩ := List.mem_map.mp ha
      simp
    rw [hf] at h
    have h' : firstAt o d 0 = (placesF o d o.length ++ [-1]).headD 0 := h
    unfold dueSent sentPart
    dsimp only
    rw [h']
    cases hp : placesF o d o.length with
    | nil =>
      have e : (([] : List Int) ++ [-1]).headD 0 = -1 := rfl
      have e2 : (([] : List Int) ++ [((o.length : Nat) : Int)]).headD 0 = ((o.length : Nat) : Int) := rfl
      rw [e, e2, if_pos (by decide), cutI_head _ _ (by omega), Int.toNat_natCast, List.take_length]
    | cons x xs =>
      have hx : x ∈ placesF o d o.length := by rw [hp]; exact List.mem_cons_self
      have hx0 : 0 ≤ x := by
        unfold placesF at hx
        obtain ⟨j, hj, rfl⟩ := List.mem_map.mp hx
        omega
      have e : ((x :: xs : List Int) ++ [-1]).headD 0 = x := rfl
      have e2 : ((x :: xs : List Int) ++ [((o.length : Nat) : Int)]).headD 0 = x := rfl
      rw [e, e2, if_neg (by omega)]
theorem flat_sent (rows : List Row) : rows.flatMap dueSent = rows.flatMap fun r => sentPart r.1 r.2 := by
  congr 1
  funext r
  exact dueSent_eq r
theorem over_two {n k p q : Nat} (hp : p ≤ n - k) : min (p + q) (n - k) = p + min q (n - (k + p)) := by
  rw [Nat.sub_add_eq, ← Nat.add_min_add_left, Nat.add_sub_of_le hp]
theorem overlay_two {g p q : List UInt8} {k : Nat} (h : k ≤ g.length) (hp : p.length ≤ g.length - k) : overlay (overlay g k p) (k + p.length) q = overlay g k (p ++ q) := by
  have hl := overlay_length (T := p) h
  have hk : (g.take k).length = k := List.length_take_of_le h
  have e1 : overlay g k p = g.take k ++ p ++ g.drop (k + p.length) := by
    rw [overlay_def, List.take_of_length_le hp, Nat.min_eq_left hp]
  have e2 : (g.take k ++ p).length = k + p.length := by rw [List.length_append, hk]
  rw [overlay_def (overlay g k p), hl, overlay_def g k (p ++ q), List.length_append, over_two hp]
  rw [e1, ← e2, List.take_left, List.drop_append, List.drop_of_length_le (Nat.le_add_right _ _), List.nil_append, List.drop_drop, e2, Nat.add_sub_cancel_left, List.take_append, List.take_of_length_le hp, Nat.sub_add_eq, Nat.add_assoc]
  simp only [List.append_assoc]
theorem overlay_full {g p q : List UInt8} {k : Nat} (hp : g.length - k ≤ p.length) : overlay g k (p ++ q) = overlay g k p := by
  unfold overlay
  rw [List.take_append_of_le_length hp, List.length_append, Nat.min_eq_right (Nat.le_trans hp (Nat.le_add_right _ _)), Nat.min_eq_right hp]
theorem layF_eq (rows : List Row) : ∀ (g : List UInt8) (k : Nat), k ≤ g.length → layF rows g ((k : Int) + 1) =
    (overlay g k (rows.flatMap fun r => sentPart r.1 r.2), (k : Int) + 1 + (min (rows.flatMap fun r => sentPart r.1 r.2).length (g.length - k) : Nat), decide (g.length - k < (rows.flatMap fun r => sentPart r.1 r.2).length)) := by
  induction rows with
  | nil =>
    intro g k h
    simp [layF, overlay, List.take_append_drop]
  | cons r rs ih =>
    intro g k h
    obtain ⟨e1, e2⟩ := layG_eq (p := sentPart r.1 r.2) h
    unfold layG at e1
    rw [layF, e1, e2, List.flatMap_cons]
    rcases Nat.lt_or_ge (g.length - k) (sentPart r.1 r.2).length with hp | hp
    · have hq := Nat.le_trans (Nat.le_of_lt hp) (Nat.le_add_right _ (rs.flatMap fun r => sentPart r.1 r.2).length)
      rw [Nat.min_eq_right (Nat.le_of_lt hp), if_pos hp, overlay_full (Nat.le_of_lt hp), List.length_append, Nat.min_eq_right hq, decide_eq_true (Nat.lt_of_lt_of_le hp (Nat.le_add_right _ _))]
    · rw [Nat.min_eq_left hp, if_neg (Nat.lt_irrefl _), Int.add_right_comm, ← Int.natCast_add, ih _ _ (by rw [overlay_length h]; exact Nat.add_comm k _ ▸ Nat.add_le_of_le_sub h hp), overlay_length h, overlay_two h hp, List.length_append, over_two hp, Int.natCast_add, Int.natCast_add]
      refine Prod.ext rfl (Prod.ext ?_ ?_)
      · exact (congrArg (· + _) (Int.add_right_comm _ _ _)).trans (Int.add_assoc _ _ _)
      · rw [decide_eq_decide, Nat.sub_add_eq]
        exact Nat.sub_lt_iff_lt_add' hp
theorem strungF_nat {rows : List Row} {g : List UInt8} {k : Nat} (h : k < g.length) : strungF rows g ((k : Int) + 1) =
    (overlay g k (rows.flatMap fun r => sentPart r.1 r.2), (k : Int) + 1 + (min (rows.flatMap fun r => sentPart r.1 r.2).length (g.length - k) : Nat), decide (g.length - k < (rows.flatMap fun r => sentPart r.1 r.2).length)) := by
  rw [strungF, if_pos ⟨Int.le_add_of_nonneg_left (Int.natCast_nonneg k), Int.ofNat_le.mpr h⟩, layF_eq rows g k (Nat.le_of_lt h)]
theorem in_goal {b : Int} {n : Nat} (h1 : 1 ≤ b) (h2 : b ≤ (n : Nat)) : ∃ k : Nat, b = (k : Int) + 1 ∧ k < n :=
  let ⟨k, e⟩ := one_le h1
  ⟨k, e, Int.ofNat_le.mp (by rw [e] at h2; exact h2)⟩
theorem strungF_eq {rows : List Row} {g : List UInt8} {b : Int} (h1 : 1 ≤ b) (h2 : b ≤ (g.length : Nat)) : strungF rows g b =
    (overlay g (b - 1).toNat (rows.flatMap fun r => sentPart r.1 r.2), b + (min (rows.flatMap fun r => sentPart r.1 r.2).length (g.length - (b - 1).toNat) : Nat), decide (g.length - (b - 1).toNat < (rows.flatMap fun r => sentPart r.1 r.2).length)) := by
  obtain ⟨k, rfl, hk⟩ := in_goal h1 h2
  rw [sub_one, Int.toNat_natCast]
  exact strungF_nat hk
theorem laidAt_nat {T g : List UInt8} {k i : Nat} : laidAt T g ((k : Int) + 1) i = if k ≤ i ∧ i < k + T.length then T.getD (i - k) 0 else g.getD i 0 := by
  unfold laidAt
  rw [sub_one, ← Int.sub_sub, Int.sub_add_cancel, Int.toNat_sub, ← Int.natCast_add]
  simp only [Int.ofNat_le, Int.ofNat_lt]
theorem laid_nat {T g : List UInt8} {k : Nat} (h : k ≤ g.length) : (List.range g.length).map (laidAt T g ((k : Int) + 1)) = overlay g k T := by
  refine List.ext_getElem ((List.length_map ..).trans (List.length_range.trans (overlay_length h).symm)) fun i hi1 hi2 => ?_
  have hi : i < g.length := by rw [overlay_length h] at hi2; exact hi2
  have hk : (g.take k).length = k := List.length_take_of_le h
  rw [List.getElem_map, List.getElem_range, laidAt_nat]
  apply Option.some.inj
  rw [← List.getElem?_eq_getElem hi2, overlay_def, List.append_assoc]
  rcases Nat.lt_or_ge i k with c | c
  · rw [if_neg (fun q => Nat.not_le_of_lt c q.1), List.getElem?_append_left (by rw [hk]; exact c), List.getElem?_take_of_lt c, List.getD_eq_getElem?_getD, List.getElem?_eq_getElem hi, Option.getD_some]
  · have cn := Nat.sub_lt_sub_right c hi
    rw [List.getElem?_append_right (by rw [hk]; exact c), hk]
    rcases Nat.lt_or_ge (i - k) T.length with d | d
    · rw [if_pos ⟨c, (Nat.sub_lt_iff_lt_add' c).mp d⟩, List.getElem?_append_left (by rw [List.length_take]; exact Nat.lt_min.mpr ⟨cn, d⟩), List.getElem?_take_of_lt cn, List.getD_eq_getElem?_getD, List.getElem?_eq_getElem d, Option.getD_some]
    · have hm := Nat.le_trans (Nat.min_le_right (g.length - k) T.length) d
      rw [if_neg (fun q => absurd (Nat.sub_lt_left_of_lt_add c q.2) (Nat.not_lt.mpr d)), List.getElem?_append_right (by rw [List.length_take]; exact hm), List.length_take, List.getElem?_drop, Nat.min_comm T.length, Nat.add_assoc, Nat.add_sub_of_le hm, Nat.add_sub_of_le c, List.getD_eq_getElem?_getD, List.getElem?_eq_getElem hi, Option.getD_some]
theorem past_nat {n k m : Nat} (h : k ≤ n) : ((n : Nat) : Int) + 1 < (k : Int) + 1 + (m : Nat) ↔ n - k < m := by
  rw [Int.add_right_comm, Int.add_lt_add_iff_right, ← Int.natCast_add, Int.ofNat_lt]
  exact (Nat.sub_lt_iff_lt_add' h).symm
theorem due_eq (rows : List Row) (g : List UInt8) (b : Int) : dueF rows g b = strungF rows g b := by
  unfold dueF
  by_cases h : b < 1 ∨ b > (g.length : Nat)
  · rw [if_pos h, strungF, if_neg (fun q => h.elim (Int.not_lt.mpr q.1) (Int.not_lt.mpr q.2))]
  · obtain ⟨k, rfl, hk⟩ := in_goal (Int.not_lt.mp fun q => h (.inl q)) (Int.not_lt.mp fun q => h (.inr q))
    have hk' := Nat.le_of_lt hk
    rw [if_neg h, strungF_nat hk, flat_sent, laid_nat hk']
    refine Prod.ext rfl (Prod.ext ?_ ?_)
    · dsimp only
      rcases Nat.lt_or_ge (g.length - k) (rows.flatMap fun r => sentPart r.1 r.2).length with c | c
      · rw [if_pos ((past_nat hk').mpr c), Nat.min_eq_right (Nat.le_of_lt c), Int.add_right_comm, ← Int.natCast_add, Nat.add_sub_of_le hk']
      · rw [if_neg fun q => Nat.not_lt.mpr c ((past_nat hk').mp q), Nat.min_eq_left c]
    · exact decide_eq_decide.mpr (past_nat hk')
theorem strungF_length (rows : List Row) (g : List UInt8) (b : Int) : (strungF rows g b).1.length = g.length ∧ (strungF rows g b).2.1.natAbs ≤ b.natAbs + g.length + 1 := by
  by_cases h : 1 ≤ b ∧ b ≤ (g.length : Nat)
  · obtain ⟨k, rfl, hk⟩ := in_goal h.1 h.2
    rw [strungF_nat hk]
    refine ⟨overlay_length (Nat.le_of_lt hk), ?_⟩
    show k + 1 + _ ≤ k + 1 + g.length + 1
    exact Nat.le_succ_of_le (Nat.add_le_add_left (Nat.le_trans (Nat.min_le_right _ _) (Nat.sub_le _ _)) _)
  · rw [strungF, if_neg h]
    exact ⟨rfl, Nat.le_succ_of_le (Nat.le_add_right _ _)⟩
theorem end_nat {n k m : Nat} (h : k ≤ n) : (n - k < m ∨ (k : Int) + 1 + (min m (n - k) : Nat) > (n : Nat)) ↔ n - k ≤ m := by
  constructor
  · rintro (c | c)
    · exact Nat.le_of_lt c
    · refine Nat.not_lt.mp fun q => ?_
      rw [Nat.min_eq_left (Nat.le_of_lt q), Int.add_right_comm, ← Int.natCast_add] at c
      exact absurd (Int.ofNat_le.mpr (Nat.add_lt_of_lt_sub' q)) (Int.not_le.mpr c)
  · intro c
    refine .inr ?_
    rw [Nat.min_eq_right c, Int.add_right_comm, ← Int.natCast_add, Nat.add_sub_of_le h]
    exact Int.lt_succ _
theorem in_two (rows : List Row) (f : Nat) (g : List UInt8) (b : Int) :
    ((strungF (rows.take f) g b).2.2 = true ∨ (strungF (rows.take f) g b).2.1 > (g.length : Nat) →
      (strungF rows g b).1 = (strungF (rows.take f) g b).1 ∧ (strungF rows g b).2.1 = (strungF (rows.take f) g b).2.1 ∧ (strungF rows g b).2.2 = ((strungF (rows.take f) g b).2.2 || ((rows.drop f).flatMap dueSent != []))) ∧
    (¬ ((strungF (rows.take f) g b).2.2 = true ∨ (strungF (rows.take f) g b).2.1 > (g.length : Nat)) → strungF (rows.drop f) (strungF (rows.take f) g b).1 (strungF (rows.take f) g b).2.1 = strungF rows g b) := by
  by_cases h : 1 ≤ b ∧ b ≤ (g.length : Nat)
  · obtain ⟨k, rfl, hk⟩ := in_goal h.1 h.2
    have hk' := Nat.le_of_lt hk
    have e : (rows.flatMap fun r => sentPart r.1 r.2) = ((rows.take f).flatMap fun r => sentPart r.1 r.2) ++ ((rows.drop f).flatMap fun r => sentPart r.1 r.2) := by
      rw [← List.flatMap_append, List.take_append_drop]
    have hW := strungF_nat (rows := rows) hk
    have hO := strungF_nat (rows := rows.take f) hk
    rw [e] at hW
    rw [flat_sent]
    generalize (rows.take f).flatMap (fun r => sentPart r.1 r.2) = T1 at hW hO ⊢
    generalize hT2 : (rows.drop f).flatMap (fun r => sentPart r.1 r.2) = T2 at hW ⊢
    rw [hW, hO]
    clear hW hO h e
    dsimp only
    rw [decide_eq_true_eq, end_nat hk', List.length_append]
    refine ⟨fun hr => ⟨overlay_full hr, by rw [Nat.min_eq_right hr, Nat.min_eq_right (Nat.le_trans hr (Nat.le_add_right _ _))], ?_⟩, fun hc => ?_⟩
    · cases T2 with
      | nil => exact (Bool.or_false _).symm
      | cons x xs => exact (decide_eq_true (Nat.lt_of_le_of_lt hr (Nat.lt_add_of_pos_right (Nat.succ_pos _)))).trans (Bool.or_true _).symm
    · have hr : T1.length < g.length - k := Nat.lt_of_not_le hc
      have hr' := Nat.le_of_lt hr
      have h3 : (overlay g k T1).length = g.length := overlay_length hk'
      rw [Nat.min_eq_left hr', Int.add_right_comm, ← Int.natCast_add, strungF_nat (by rw [h3]; exact Nat.add_lt_of_lt_sub' hr), h3, hT2, overlay_two hk' hr', over_two hr', Int.natCast_add, Int.natCast_add]
      refine Prod.ext rfl (Prod.ext ?_ ?_)
      · exact (congrArg (· + _) (Int.add_right_comm _ _ _)).trans (Int.add_assoc _ _ _)
      · rw [decide_eq_decide, Nat.sub_add_eq]
        exact Nat.sub_lt_iff_lt_add' hr'
  · have e : ∀ rs, strungF rs g b = (g, b, true) := fun rs => by rw [strungF, if_neg h]
    rw [e, e]
    exact ⟨fun _ => ⟨rfl, rfl, (Bool.true_or _).symm⟩, fun hc => absurd (.inl rfl) hc⟩
theorem strung_eq_spec {w : World} {rows R : List Row} {rv : Value} {g G : List UInt8} {b B : Int} {t tb : Tok} {news : Led} (hr : DatIn news rv (.list (rows.map rowD))) (hok : ∀ r ∈ rows, RowOk r) (hg : g.length < 1000) (hb : b.natAbs < 1000000) (he : strungF rows g b = strungF R G B) :
    Spec w 20 83 [rv, .bytes g.toArray t, .int b tb] news (PostD news (.tuple [.bytes (strungF R G B).1.toArray, .int (strungF R G B).2.1, .bool (strungF R G B).2.2])) := he ▸ strung_spec hr hok hg hb
local macro_rules | `(tactic| walk_at "call ref") => `(tactic| (k_here; k_dflt (refine' (strung_spec ?c1 ?c2 ?c3 ?c4).useBIBD ?k1 ?k2 ?k3 ?k4 ?k5 ?kF ?kK ?kd ?ku ?_); walk_at "MyUse"; (case c1 => walk_at "MyDat"); (case c2 => walk_at "MyOk"); (case c3 => walk_at "Small"); (case c4 => omega); k_whole; intro _ _ _ _ _ _ _ F' N' _ _ _; (try dsimp only)))
local macro_rules | `(tactic| walk_at "compareOp Eq ref ref") => `(tactic| ((with_reducible show wpAny _ _ (compareOp CmpOp.Eq (Value.ref _) (Value.ref _)) _ _ _); refine Stop.out ?_))
theorem in_two_spec {w : World} {rows : List Row} {ax : Addr} {g : List UInt8} {b : Int} {f : Nat} {t tb tf : Tok} {news : Led} (hr : DatIn news (.ref ax) (.list (rows.map rowD))) (hok : ∀ r ∈ rows, RowOk r) (hlen : rows.length < 100) (hg : g.length < 1000) (hb : b.natAbs < 100000) (hf : f ≤ rows.length) :
    Spec w 28 166 [.ref ax, .bytes g.toArray t, .int b tb, .int (f : Int) tf] news (PostV news (.bool true)) := by
  unfold Spec
  intro mean mg mb dp un gd env outer A₀ base h₀ L m s Q E B F X N T hfr hk hd hu hret
  have hok1 : ∀ r ∈ rows.take f, RowOk r := fun r hr => hok r (List.mem_of_mem_take hr)
  have hok2 : ∀ r ∈ rows.drop f, RowOk r := fun r hr => hok r (List.mem_of_mem_drop hr)
  have hl2 : (rows.drop f).length < 100 := by rw [List.length_drop]; omega
  obtain ⟨hO1, hO2⟩ := strungF_length (rows.take f) g b
  obtain ⟨hA, hB⟩ := in_two rows f g b
  have close : ∀ (x : Bool), x = true → ∀ h' tk', Fr h₀ L h' m → News h₀ L h' news → Q (.bool x) { s with heap := h', toks := tk' } := by
    rintro x rfl h' tk' F' N'
    exact hret _ _ _ _ F' N' ⟨rfl, rfl⟩
  w_top off
  refine wpAny_call ?_
  k_dflt (walk_at "MyEnter")
  intro g' L' h' FG' F' N' B' X' T'
  replace F' := fr_cast F' (m' := fun y => List.lookup y [(Str.ofString "first", .int (f : Int) tf), (Str.ofString "begin", .int b tb), (Str.ofString "goal", .bytes g.toArray t), (Str.ofString "rows", .ref ax)]) rfl
  try dsimp only
  try k_fold
  by_cases hc1 : (strungF (rows.take f) g b).2.2 = true
  · obtain ⟨q1, q2, q3⟩ := hA (.inl hc1)
    clear hA hB
    rw [hc1, Bool.true_or] at q3
    k_steps
    all_goals exact close _ (by simp [q1, q2, q3, hc1]) _ _ (by k_asm) (cb_drop (by k_asm) (by walk_at "MySub"))
  · by_cases hc2 : (strungF (rows.take f) g b).2.1 > (g.length : Nat)
    · obtain ⟨q1, q2, q3⟩ := hA (.inr hc2)
      clear hA hB
      have hc1' : (strungF (rows.take f) g b).2.2 = false := by simpa using hc1
      rw [hc1', Bool.false_or] at q3
      k_steps
      all_goals exact close _ (by simp [q1, q2, q3]) _ _ (by k_asm) (cb_drop (by k_asm) (by walk_at "MySub"))
    · have heq := hB (by rintro (h | h) <;> contradiction)
      have hc1' : (strungF (rows.take f) g b).2.2 = false := by simpa using hc1
      clear hA hB
      k_steps
      unfold Stop
      k_dflt (refine' eq_same_T ?k1 ?c1 ?c2 ?ku ?_; (case k1 => k_asm); (case c1 => walk_at "MyDat"); (case c2 => rw [heq]; walk_at "MyDat"); (case ku => ((simp only [dDeps, dDep, Nat.max_self, Nat.max_zero, Nat.zero_max]); ktr_units)))
      k_steps
      exact close _ rfl _ _ (by k_asm) (cb_drop (by k_asm) (by walk_at "MySub"))
end
theorem base_pow5 {z k : Int} (h0 : 0 ≤ z) (h1 : z < 2147483587) (hk0 : 0 ≤ k) (hk1 : k ≤ 1000) : (z + 29443 * k + 2111).natAbs < 2 ^ 64 := by omega
theorem base_pow3 {z k : Int} (h0 : 0 ≤ z) (h1 : z < 2147483629) (hk0 : 0 ≤ k) (hk1 : k ≤ 1000) : (z * (2 * k + 6007) + 29443 * k * k + 41).natAbs < 2 ^ 64 := by
  have a : 0 ≤ z * (2 * k + 6007) := Int.mul_nonneg h0 (by omega)
  have b : z * (2 * k + 6007) ≤ 2147483629 * 8007 := Int.mul_le_mul (by omega) (by omega) (by omega) (by omega)
  have c : 0 ≤ 29443 * k * k := Int.mul_nonneg (by omega) hk0
  have d : 29443 * k * k ≤ 29443000 * 1000 := Int.mul_le_mul (by omega) (by omega) (by omega) (by omega)
  omega
section
variable {prog : Program} {w : World} {A : Around} {E : Value → Shared → Prop} {s : Shared} {h₀ : Heap} {L : Addr} {m : Str → Option Value} {news : Led} {Q : Value → Shared → Prop} {a b : Int} {t u : Tok}
theorem mod_F (hb : 0 < b) (h : ∀ z, 0 ≤ z → z < b → Q (.int z s.toks) { s with toks := s.toks + 1 }) : wpAny (model prog w) A (binaryOp .Mod (.int a t) (.int b u)) Q E s :=
  mod_int' (Int.ne_of_gt hb) (h _ (Int.fmod_nonneg_of_pos _ hb) (Int.fmod_lt_of_pos _ hb))
theorem div_F (hb : 0 < b) (hb2 : b.natAbs.log2 < 9000) (h : ∀ z, Q (.int z s.toks) { s with toks := s.toks + 1 }) : wpAny (model prog w) A (binaryOp .FloorDiv (.int a t) (.int b u)) Q E s :=
  floordiv_int (Int.ne_of_gt hb) (h _) (Or.inl (PyProof.noPylong_of_log2 hb2))
theorem pow_F (hb : 0 ≤ b) (hb2 : b ≤ 1000) (ha : a.natAbs < 2 ^ 64) (h : ∀ z, Q (.int z s.toks) { s with toks := s.toks + 1 }) : wpAny (model prog w) A (binaryOp .Pow (.int a t) (.int b u)) Q E s :=
  pow_int_small hb (by omega) ha (h _)
theorem ne_nil_F {a b : Addr} {vs : List Value} {n k : Nat} (N : News h₀ L s.heap news) (h1 : (a, listOf vs.toArray n) ∈ news) (h2 : (b, listOf ([] : List Value).toArray k) ∈ news) (hu : A.units < cLine) (h : Q (.bool (decide (0 < vs.length))) s) : wpAny (model prog w) A (compareOp .NotEq (.ref a) (.ref b)) Q E s :=
  ne_nil_L N h1 h2 hu (by
    have e : (!vs.isEmpty) = decide (0 < vs.length) := by cases vs <;> simp
    rw [e]; exact h)
end
theorem log2_small {b : Int} (h1 : 1 ≤ b) (h2 : b ≤ 100) : b.natAbs.log2 < 9000 := (Nat.log2_lt (by omega)).mpr (Nat.lt_of_lt_of_le (show b.natAbs < 2 ^ 7 by omega) (Nat.pow_le_pow_right (by decide) (by decide)))
def Pen (pa ca : Addr) (K : Int) (rest news : Led) : Prop := ∃ k c t u n, news = (pa, listOf [.ref ca, .int k t, .int c u].toArray n) :: rest ∧ 0 ≤ k ∧ k ≤ K
def Cel (pa ca : Addr) (rest : Led) : Prop := OwnOff rest [pa] ∧ ∃ vs q ns, (ca, listOf vs.toArray q) ∈ rest ∧ IntsAre vs ns ∧ ns.length ≤ 48
theorem Pen.le {pa ca : Addr} {K K' : Int} {rest news : Led} (h : Pen pa ca K rest news) (hk : K ≤ K') : Pen pa ca K' rest news := by
  obtain ⟨k, c, t, u, n, e, h0, h1⟩ := h
  exact ⟨k, c, t, u, n, e, h0, by omega⟩
theorem Pen.mk {pa ca : Addr} {K k c : Int} {t u : Tok} {n : Nat} {rest : Led} (h0 : 0 ≤ k) (h1 : k ≤ K) : Pen pa ca K rest ((pa, listOf [.ref ca, .int k t, .int c u].toArray n) :: rest) := ⟨_, _, _, _, _, rfl, h0, h1⟩
theorem Cel.add {pa ca : Addr} {rest own : Led} (h : Cel pa ca rest) (ho : OwnOff own [pa]) : Cel pa ca (own ++ rest) := by
  obtain ⟨h1, vs, q, ns, h2, h3⟩ := h
  refine ⟨fun p hp => ?_, vs, q, ns, List.mem_append_right _ h2, h3⟩
  rcases List.mem_append.mp hp with hp | hp
  · exact ho p hp
  · exact h1 p hp
theorem Cel.cons {pa ca : Addr} {rest : Led} {q : Addr × Obj} (h : Cel pa ca rest) (ho : @Ne Nat q.1 pa) : Cel pa ca (q :: rest) :=
  h.add (own := [q]) (by
    intro p hp b hb
    rw [List.mem_singleton.mp hp, List.mem_singleton.mp hb]
    exact ho)
section
local macro_rules | `(tactic| walk_at "compareOp NotEq ref ref") => `(tactic| (k_here; (with_reducible show wpAny _ _ (compareOp CmpOp.NotEq (Value.ref _) (Value.ref _)) _ _ _); k_dflt (refine' ne_nil_F ?k1 ?k2 ?k3 ?ku ?_; (case k1 => k_asm); (case k2 | k3 => k_mem); (case ku => ktr_units))))
local macro_rules | `(tactic| walk_at "binaryOp Mod int int") => `(tactic| ((with_reducible show wpAny _ _ (binaryOp Operator.Mod (Value.int _ _) (Value.int _ _)) _ _ _); refine mod_F (by omega) ?_; intro _ _ _))
local macro_rules | `(tactic| walk_at "binaryOp FloorDiv int int") => `(tactic| ((with_reducible show wpAny _ _ (binaryOp Operator.FloorDiv (Value.int _ _) (Value.int _ _)) _ _ _); refine div_F (by omega) (log2_small (by omega) (by omega)) ?_; intro _))
local macro_rules | `(tactic| walk_at "binaryOp Pow int int") => `(tactic| ((with_reducible show wpAny _ _ (binaryOp Operator.Pow (Value.int _ _) (Value.int _ _)) _ _ _); refine pow_F (by decide) (by decide) (by with_reducible first | decide | (refine base_pow5 ?_ ?_ ?_ ?_ <;> omega) | (refine base_pow3 ?_ ?_ ?_ ?_ <;> omega)) ?_; intro _))
local macro_rules | `(tactic| walk_at "exec Assign") => `(tactic| ((with_reducible rename (∀ s', _ → Stop (wpAny _ _ _ _ _ s')) => tl); (with_reducible show wpAny _ _ (exec (Stmt.Assign [Expr.Name ("mixed" : Str) _] _ _) _) _ _ _); refine Stop.out ?_))
theorem has4 {m : Str → Option Value} {a b c d : Str} {x y z v : Value} (h1 : m a = some x) (h2 : m b = some y) (h3 : m c = some z) (h4 : m d = some v) : Has m [(a, x), (b, y), (c, z), (d, v)] := ⟨h1, h2, h3, h4, trivial⟩
theorem share_tail {α : Type} {M : Model} {A : Around} {c : Sem α} {Q : α → Shared → Prop} {E : Value → Shared → Prop} {G : Prop} (I : Shared → Prop) (main : (∀ s', I s' → Stop (wpAny M A c Q E s')) → G) (tail : ∀ s', I s' → Stop (wpAny M A c Q E s')) : G := main tail
theorem draw_spec {w : World} {pa ca : Addr} {rest news : Led} {K many : Int} {tm : Tok} (hp : Pen pa ca K rest news) (hc : Cel pa ca rest) (hK : K ≤ 999) (h1 : 1 ≤ many) (h2 : many ≤ 100) :
    Spec w 8 123 [.ref pa, .int many tm] news (fun r nx => (∃ d td, r = .int d td ∧ 0 ≤ d ∧ d < many) ∧ Pen pa ca (K + 1) rest nx) := by
  unfold Spec
  intro mean mg mb dp un gd env outer A₀ base h₀ L m s Q E B F X N T hf hk hd hu hret
  obtain ⟨k, c, t, u, n, rfl, hk0, hk1⟩ := hp
  obtain ⟨hoff, vs, q, ns, hca, hi, hns⟩ := hc
  have hlen : vs.length = ns.length := hi.length
  w_top off
  refine wpAny_call ?_
  k_dflt (walk_at "MyEnter")
  intro g' L' h' FG' F' N' B' X' T'
  replace F' := fr_cast F' (m' := fun y => List.lookup y [(Str.ofString "many", .int many tm), (Str.ofString "pen", .ref pa)]) rfl
  try dsimp only
  try k_fold
  refine' share_tail (fun s' => ∃ (z : Int) (tz t2 : Tok) (h : Heap) (tk : Nat) (mm : Str → Option Value), s' = ⟨h, s.gens, s.drawn, tk, s.os⟩ ∧ Fr g' L' h mm ∧ Has mm [(Str.ofString "many", .int many tm), (Str.ofString "pen", .ref pa), (Str.ofString "turn", .int k t), (Str.ofString "cell", .int z tz)] ∧ News g' L' h ((pa, listOf [.ref ca, .int (k + 1) t2, .int c u].toArray n) :: rest)) ?main ?tail
  case main =>
    intro tail
    k_steps
    · exact hret _ ((pa, _) :: rest) _ _ (by k_asm) (by k_asm) ⟨⟨_, _, rfl, by omega, by omega⟩, _, _, _, _, _, rfl, by omega, by omega⟩
    · exact hret _ ((pa, _) :: rest) _ _ (by k_asm) (cb_drop (by k_asm) fun p hp => List.mem_cons_of_mem _ (List.mem_cons_of_mem _ hp)) ⟨⟨_, _, rfl, by omega, by omega⟩, _, _, _, _, _, rfl, by omega, by omega⟩
    all_goals (with_reducible rename (∀ s', _ → Stop (wpAny _ _ _ _ _ s')) => tail; rename Fr g' L' _ _ => FF; exact tail _ ⟨_, _, _, _, _, _, rfl, FF, has4 rfl rfl rfl rfl, cb_drop (by k_asm) fun p hp => List.mem_cons_of_mem _ (List.mem_cons_of_mem _ hp)⟩)
  case tail =>
    rintro s' ⟨z, tz, t2, h, tk, mm, rfl, F1, hm, N1⟩
    unfold Stop
    rw [map_many _ hm] at F1
    w_top off
    k_steps
    exact hret _ ((pa, _) :: rest) _ _ (by k_asm) (by k_asm) ⟨⟨_, _, rfl, by omega, by omega⟩, _, _, _, _, _, rfl, by omega, by omega⟩
end
section
local macro_rules | `(tactic| walk_at "call ref") => `(tactic| (k_here; k_dflt (refine' (draw_spec (Pen.mk ?c1 ?c2) ?c3 ?c4 ?c5 ?c6).use ?k1 ?k2 ?k3 ?k4 ?k5 ?kF ?kK ?kd ?ku ?_); walk_at "MyUse"; (case c1 => omega); (case c2 => with_reducible assumption); (case c3 => walk_at "MyCel"); (case c4 | c5 | c6 => omega); k_whole; intro _ _ _ _ F' N' hpost; (try dsimp only at hpost); (obtain ⟨⟨_, _, hre, _, _⟩, _, _, _, _, _, hne, _, _⟩ := hpost); (subst hre); (subst hne); (try dsimp only)))
local macro_rules | `(tactic| walk_at "MyCel") => `(tactic| assumption)
local macro_rules | `(tactic| walk_at "subscriptTail") => `(tactic| (k_here; (with_reducible show wpAny _ _ (subscriptTail _ _ (Value.ref _) (Value.int _ _)) _ _ _); k_dflt (refine' item_M ?k1 ?k2 ?k3 ?k4 (List.getElem?_eq_getElem ?k5) ?_; (case k1 => k_asm); (case k2 => k_mem); (case k3 | k4 | k5 => omega); k_whole)))
theorem pick_bytes_spec {w : World} {pa ca : Addr} {rest news : Led} {K : Int} {l : List UInt8} {t : Tok} (hp : Pen pa ca K rest news) (hc : Cel pa ca rest) (hK : K ≤ 999) (h1 : 1 ≤ l.length) (h2 : l.length ≤ 100) :
    Spec w 12 130 [.ref pa, .bytes l.toArray t] news (fun r nx => (∃ b td, r = .int ((b.toNat : Nat) : Int) td ∧ b ∈ l) ∧ Pen pa ca (K + 1) rest nx) := by
  unfold Spec
  intro mean mg mb dp un gd env outer A₀ base h₀ L m s Q E B F X N T hf hk hd hu hret
  obtain ⟨k, c, t0, u, n, rfl, hk0, hk1⟩ := hp
  w_top off
  refine wpAny_call ?_
  k_dflt (walk_at "MyEnter")
  intro g' L' h' FG' F' N' B' X' T'
  replace F' := fr_cast F' (m' := fun y => List.lookup y [(Str.ofString "some", .bytes l.toArray t), (Str.ofString "pen", .ref pa)]) rfl
  try dsimp only
  try k_fold
  k_steps
  exact hret _ ((pa, _) :: rest) _ _ (by k_asm) (by k_asm) ⟨⟨_, _, rfl, by
    rw [List.getD_eq_getElem?_getD, List.getElem?_eq_getElem (by omega), Option.getD_some]; exact List.getElem_mem _⟩, _, _, _, _, _, rfl, by omega, by omega⟩
theorem pick_list_spec {w : World} {pa ca sa : Addr} {rest news : Led} {K : Int} {vs : List Value} {q : Nat} (hp : Pen pa ca K rest news) (hc : Cel pa ca rest) (hs : (sa, listOf vs.toArray q) ∈ rest) (hK : K ≤ 999) (h1 : 1 ≤ vs.length) (h2 : vs.length ≤ 100) :
    Spec w 12 130 [.ref pa, .ref sa] news (fun r nx => r ∈ vs ∧ Pen pa ca (K + 1) rest nx) := by
  unfold Spec
  intro mean mg mb dp un gd env outer A₀ base h₀ L m s Q E B F X N T hf hk hd hu hret
  obtain ⟨k, c, t0, u, n, rfl, hk0, hk1⟩ := hp
  w_top off
  refine wpAny_call ?_
  k_dflt (walk_at "MyEnter")
  intro g' L' h' FG' F' N' B' X' T'
  replace F' := fr_cast F' (m' := fun y => List.lookup y [(Str.ofString "some", .ref sa), (Str.ofString "pen", .ref pa)]) rfl
  try dsimp only
  try k_fold
  k_steps
  exact hret _ ((pa, _) :: rest) _ _ (by k_asm) (by k_asm) ⟨List.getElem_mem (by omega), _, _, _, _, _, rfl, by omega, by omega⟩
end
def Front (pa : Addr) (o : Obj) (rest news : Led) : Prop := ∀ p ∈ (pa, o) :: rest, p ∈ news
theorem Front.here {pa : Addr} {o : Obj} {rest : Led} : Front pa o rest ((pa, o) :: rest) := fun _ h => h
theorem Front.skip {pa : Addr} {o : Obj} {rest news : Led} {x : Addr × Obj} (h : Front pa o rest news) : Front pa o (x :: rest) (x :: news) := by
  intro p hp
  rcases List.mem_cons.mp hp with rfl | hp
  · exact List.mem_cons_of_mem _ (h _ List.mem_cons_self)
  · rcases List.mem_cons.mp hp with rfl | hp
    · exact List.mem_cons_self
    · exact List.mem_cons_of_mem _ (h _ (List.mem_cons_of_mem _ hp))
theorem Front.app {pa : Addr} {o : Obj} {rest news tl : Led} (h : Front pa o rest news) : Front pa o (tl ++ rest) (tl ++ news) := by
  intro p hp
  rcases List.mem_cons.mp hp with rfl | hp
  · exact List.mem_append_right _ (h _ List.mem_cons_self)
  · rcases List.mem_append.mp hp with hp | hp
    · exact List.mem_append_left _ hp
    · exact List.mem_append_right _ (h _ (List.mem_cons_of_mem _ hp))
theorem bytes_dat {news news' : Led} : ∀ {vs : List Value} {bs : List UInt8}, DatAll news vs (bs.map byteD) → DatAll news' vs (bs.map byteD)
  | _, [], h => by rw [dat_nil h]; exact .nil
  | _, n :: ns, h => by
    obtain ⟨v, r, rfl, h1, h2⟩ := dat_cons h
    obtain ⟨t, rfl⟩ := dat_int h1
    exact .cons (.int _ _) (bytes_dat h2)
theorem Front.drop {h₀ h : Heap} {L : Addr} {pa : Addr} {o : Obj} {rest news : Led} (N : News h₀ L h news) (hf : Front pa o rest news) : News h₀ L h ((pa, o) :: rest) := cb_drop N hf
local macro_rules | `(tactic| walk_at "MyFront") => `(tactic| first | exact Front.here | (apply Front.skip; walk_at "MyFront") | (apply Front.app; walk_at "MyFront"))
local macro_rules | `(tactic| walk_at "MyCel") => `(tactic| first | assumption | (refine Cel.cons ?_ ?_; walk_at "MyCel"; walk_at "MyNe") | (refine Cel.add ?_ ?_; walk_at "MyCel"; walk_at "MyNe"))
local macro_rules | `(tactic| walk_at "MyNe") => `(tactic| first | assumption | omega)
local macro_rules | `(tactic| walk_at "MyUseP") => `(tactic| ((case k4 => k_asm); (case fr => walk_at "MyFront"); (case k1 | k2 | k3 | k5 => k_asm); (case kF | kK => first | exact rfl | assumption); (case kd => ktr_room); (case ku => ktr_units); (case c1 => omega); (case c2 => with_reducible assumption); (case c3 => walk_at "MyCel"); (case c4 => omega); (case c5 | c6 => walk_at "MyLen")))
local macro_rules | `(tactic| walk_at "MyLen") => `(tactic| first | omega | (simp only [List.length_cons, List.length_nil]; omega))
section
local macro_rules | `(tactic| walk_at "call ref") => `(tactic| (k_here; k_dflt (refine' (draw_spec (Pen.mk ?c1 ?c2) ?c3 ?c4 ?c5 ?c6).use ?k1 ?k2 ?k3 (Front.drop ?k4 ?fr) ?k5 ?kF ?kK ?kd ?ku ?_); walk_at "MyUseP"; k_whole; intro _ _ _ _ F' N' hpost; (try dsimp only at hpost); (obtain ⟨⟨_, _, hre, _, _⟩, _, _, _, _, _, hne, _, _⟩ := hpost); (subst hre); (subst hne); (try dsimp only)))
local macro_rules | `(tactic| walk_at "call ref") => `(tactic| (k_here; k_dflt (refine' (pick_bytes_spec (Pen.mk ?c1 ?c2) ?c3 ?c4 ?c5 ?c6).use ?k1 ?k2 ?k3 (Front.drop ?k4 ?fr) ?k5 ?kF ?kK ?kd ?ku ?_); walk_at "MyUseP"; k_whole; intro _ _ _ _ F' N' hpost; (try dsimp only at hpost); (obtain ⟨⟨_, _, hre, _⟩, _, _, _, _, _, hne, _, _⟩ := hpost); (subst hre); (subst hne); (try dsimp only)))
theorem text_spec {w : World} {pa ca : Addr} {rest news : Led} {K most : Int} {l : List UInt8} {t tm : Tok} (hp : Pen pa ca K rest news) (hc : Cel pa ca rest) (hK : K + most ≤ 998) (h1 : 1 ≤ l.length) (h2 : l.length ≤ 100) (hm0 : 0 ≤ most) (hm1 : most ≤ 20) :
    Spec w 16 135 [.ref pa, .bytes l.toArray t, .int most tm] news (fun r nx => (∃ (bs : List UInt8) (td : Tok), r = .bytes bs.toArray td ∧ (bs.length : Nat) ≤ most ∧ ∀ b ∈ bs, b ∈ l) ∧ Pen pa ca (K + 1 + most) rest nx) := by
  unfold Spec
  intro mean mg mb dp un gd env outer A₀ base h₀ L m s Q E B F X N T hf hk hd hu hret
  obtain ⟨k, c, t0, u, n, rfl, hk0, hk1⟩ := hp
  w_top off
  refine wpAny_call ?_
  k_dflt (walk_at "MyEnterC")
  intro g' L' h' tk0 cells' FG' F' N' Y' B' X' T' l1
  k_cells Y'
  have hpa : @LT.lt Nat _ pa L' := l1 _ List.mem_cons_self
  simp only [List.cons_append, List.nil_append] at N'
  try dsimp only
  try k_fold
  k_steps
  unfold Stop
  rename_i o1 o2 d1 d2 hx1 tkx F1 d td hd0 hd1 k1 cc1 tt1 tt2 nn1 hk10 hk11 N1 hx2 tkx2 t1 u1 v1 a3 a2 a1 a0
  have a4 : News g' L' hx2 ((L' + 1 + 1, o1) :: (L' + 1, o2) :: (pa, listOf [.ref ca, .int k1 tt1, .int cc1 tt2].toArray nn1) :: rest) := cb_drop a1 (fun p hp => by
    simp only [List.mem_cons] at hp ⊢
    rcases hp with h | h | h | h <;> simp only [h, true_or, or_true])
  clear a1 N1 N'
  refine LCg.CompSrc.range (n := d.toNat) rfl a2 a4 a3 (small_one (by omega) (by omega) (by omega) (by omega)) (by rw [rangeSize_nat]; congr 1; omega) (fits_of (by omega)) ?_
  intro g9
  refine Lc.comp_rule (fun i ys nx => (∃ nw, nx = (L' + 1 + 1, o1) :: (L' + 1, o2) :: nw ∧ Pen pa ca (K + 1 + i) rest nw) ∧ ∃ bs : List UInt8, bs.length = i ∧ (∀ b ∈ bs, b ∈ l) ∧ DatAll nx ys (bs.map byteD)) ⟨?_, [], rfl, (fun _ h => nomatch h), .nil⟩ ?_ ?_
  · exact ⟨_, rfl, Pen.mk (by omega) (by omega)⟩
  · rintro i ys nx v I oI C oC D m₂ h tk E' hi ⟨tv, rfl⟩ ⟨⟨nw, hnx, k2, cc2, tt3, tt4, nn2, hnw, hk20, hk21⟩, bs, hbl, hbm, hys⟩ hn hx F₁ N₁ hoff hne
    subst hnw
    subst hnx
    have hI := hoff.mem (pa, _) (List.mem_cons_of_mem _ (List.mem_cons_of_mem _ List.mem_cons_self))
    dsimp only at hI
    have hc3 : Cel pa ca ((I, oI) :: (C, oC) :: (D, LCg.lst ys) :: (L' + 1 + 1, o1) :: (L' + 1, o2) :: rest) := ((((hc.cons (Nat.ne_of_gt (Nat.lt_succ_of_lt hpa))).cons (Nat.ne_of_gt (Nat.lt_succ_of_lt (Nat.lt_succ_of_lt hpa)))).cons (Ne.symm hI.2.2)).cons (Ne.symm hI.2.1)).cons (Ne.symm hI.1)
    k_steps
    unfold Stop
    rename_i b9 tb9 hb9 k9 c9 t9 u9 n9 hl9 hr9 _
    refine LCg.CompEnd.intro (by k_asm) (by k_asm) ((L' + 1 + 1, o1) :: (L' + 1, o2) :: (pa, listOf [.ref ca, .int k9 t9, .int c9 u9].toArray n9) :: rest) (fun p hp => ?_) hoff trivial ⟨⟨_, rfl, Pen.mk hl9 (by omega)⟩, bs ++ [b9], by simp [hbl], fun b hb => ?_, ?_⟩
    · simp only [List.mem_cons] at hp ⊢
      rcases hp with h | h | h | h | h | h | h <;> simp only [h, true_or, or_true]
    · rcases List.mem_append.mp hb with hb | hb
      · exact hbm b hb
      · rw [List.mem_singleton.mp hb]; exact hb9
    · rw [List.map_append]
      exact (bytes_dat hys).append (.one (.int _ _))
  · rintro ys nx ⟨⟨nw, hnx, k2, cc2, tt3, tt4, nn2, hnw, hk20, hk21⟩, bs, hbl, hbm, hys⟩
    subst hnw
    subst hnx
    intro D h tk F₁ N₁ hoff
    dsimp only
    k_steps
    exact hret _ ((pa, _) :: rest) _ _ (by k_asm) (cb_drop (by k_asm) fun p hp => List.mem_cons_of_mem _ (List.mem_cons_of_mem _ (List.mem_cons_of_mem _ hp))) ⟨⟨bs, _, rfl, by omega, hbm⟩, _, _, _, _, _, rfl, by omega, by omega⟩
end
theorem append_F {prog : Program} {w : World} {A : Around} {E : Value → Shared → Prop} {s : Shared} {h₀ : Heap} {L : Addr} {m : Str → Option Value} {news rest : Led} {D : Addr} {vs : List Value} {n : Nat} {x : Value} {Q : Value → Shared → Prop} (F : Fr h₀ L s.heap m) (N : News h₀ L s.heap news) (hf : Front D (listOf vs.toArray n) rest news) (hoff : OwnOff rest [D]) (hsz : vs.length ≤ 1000000)
    (h : ∀ h', Fr h₀ L h' m → News h₀ L h' ((D, listOf (vs ++ [x]).toArray (n + 1)) :: rest) → Q .none { s with heap := h' }) :
    wpAny (model prog w) A (call (.builtin "list.append") [.ref D, x]) Q E s := by
  refine append_M F (Front.drop N hf) List.mem_cons_self (fun h' F' N' => h h' F' (cb_drop N' fun p hp => ?_)) (fits_of hsz)
  rcases List.mem_cons.mp hp with rfl | hp
  · exact List.mem_cons_self
  · exact List.mem_cons_of_mem _ (List.mem_filter.mpr ⟨List.mem_cons_of_mem _ hp, decide_eq_true (hoff p hp D (List.mem_singleton.mpr rfl))⟩)
theorem off_lt {D : Addr} {r : Led} (h : ∀ p ∈ r, p.1 < D) : OwnOff r [D] := fun p hp b hb => by
  rw [List.mem_singleton.mp hb]
  exact Nat.ne_of_lt (h p hp)
theorem off_cons {D : Addr} {r : Led} {q : Addr × Obj} (hn : @Ne Nat q.1 D) (h : OwnOff r [D]) : OwnOff (q :: r) [D] := fun p hp b hb => by
  rw [List.mem_singleton.mp hb]
  rcases List.mem_cons.mp hp with rfl | hp
  · exact hn
  · exact h p hp D (List.mem_singleton.mpr rfl)
theorem off_app {D : Addr} {r t : Led} (h1 : OwnOff t [D]) (h2 : OwnOff r [D]) : OwnOff (t ++ r) [D] := fun p hp b hb => by
  rcases List.mem_append.mp hp with hp | hp
  · exact h1 p hp b hb
  · exact h2 p hp b hb
theorem cut_0 {h₀ h : Heap} {L D : Addr} {vs : List Value} {n : Nat} {news rest : Led} {ds : List Dat} (N : News h₀ L h ((D, listOf vs.toArray n) :: rest)) (hoff : OwnOff rest [D]) (hall : DatAll rest vs ds) (hs : ∀ p ∈ news, p ∈ rest) :
    ∃ (ws : List Value) (rest1 : Led) (n1 : Nat), News h₀ L h ((D, listOf ws.toArray n1) :: rest1) ∧ DatAll rest1 ws ds ∧ (∀ p ∈ news, p ∈ rest1) ∧ OwnOff rest1 [D] ∧ ws.length = ds.length :=
  ⟨_, _, _, N, hall, hs, hoff, hall.length⟩
theorem cut_F {h₀ h : Heap} {L D : Addr} {vs : List Value} {x : Value} {n : Nat} {news rest tl : Led} {ds : List Dat} {d : Dat} (N : News h₀ L h ((D, listOf (vs ++ [x]).toArray n) :: (tl ++ rest))) (hoff : OwnOff (tl ++ rest) [D]) (hall : DatAll rest vs ds) (hx : DatIn tl x d) (hs : ∀ p ∈ news, p ∈ rest) :
    ∃ (ws : List Value) (rest1 : Led) (n1 : Nat), News h₀ L h ((D, listOf ws.toArray n1) :: rest1) ∧ DatAll rest1 ws (ds ++ [d]) ∧ (∀ p ∈ news, p ∈ rest1) ∧ OwnOff rest1 [D] ∧ ws.length = ds.length + 1 :=
  ⟨_, _, _, N, (hall.mono fun p hp => List.mem_append_right _ hp).append (.one (hx.mono fun p hp => List.mem_append_left _ hp)), fun p hp => List.mem_append_right _ (hs p hp), hoff, by rw [List.length_append, hall.length]; rfl⟩
structure Dsp (prog : Program) (w : World) (e : Expr) (d : Dat) : Prop where
  go : ∀ (A : Around) (E : Value → Shared → Prop) (env : Env) (h₀ : Heap) (L : Addr) (m : Str → Option Value) (s : Shared) (news : Led) (Q : Value → Shared → Prop),
    Fr h₀ L s.heap m → News h₀ L s.heap news →
    (∀ v tl h k, Fr h₀ L h m → News h₀ L h (tl ++ news) → NewTo news tl → DatIn tl v d → Q v ⟨h, s.gens, s.drawn, k, s.os⟩) →
    wpAny (model prog w) A (eval e env) Q E s
structure DspAll (prog : Program) (w : World) (es : List Expr) (ds : List Dat) : Prop where
  go : ∀ (A : Around) (E : Value → Shared → Prop) (env : Env) (h₀ : Heap) (L : Addr) (m : Str → Option Value) (s : Shared) (news : Led) (pos : Pos) (Q : List Value → Shared → Prop),
    Fr h₀ L s.heap m → News h₀ L s.heap news →
    (∀ vs tl h k, Fr h₀ L h m → News h₀ L h (tl ++ news) → NewTo news tl → DatAll tl vs ds → Q vs ⟨h, s.gens, s.drawn, k, s.os⟩) →
    wpAny (model prog w) A (spliced (backTo pos (starEach es env))) Q E s
namespace Dsp
variable {prog : Program} {w : World} {p : Pos} {e : Expr} {d : Dat} {es : List Expr} {ds : List Dat}
theorem none {k} : Dsp prog w (.Constant .none k p) .none := ⟨fun _ _ _ _ _ _ _ _ _ F N h => wpAny_Constant_none (h _ [] _ _ F N (fun _ _ _ x => nomatch x) .none)⟩
theorem bool {k b} : Dsp prog w (.Constant (.bool b) k p) (.bool b) := ⟨fun _ _ _ _ _ _ _ _ _ F N h => wpAny_Constant_bool (h _ [] _ _ F N (fun _ _ _ x => nomatch x) (.bool b))⟩
theorem int {k i} : Dsp prog w (.Constant (.int i) k p) (.int i) := ⟨fun _ _ _ _ _ _ _ _ _ F N h => wpAny_Constant_int (h _ [] _ _ F N (fun _ _ _ x => nomatch x) (.int i _))⟩
theorem bytes {k b} : Dsp prog w (.Constant (.bytes b) k p) (.bytes b.toArray) := ⟨fun _ _ _ _ _ _ _ _ _ F N h => Constant_bytes (h _ [] _ _ F N (fun _ _ _ x => nomatch x) (.bytes _ _))⟩
theorem nil : DspAll prog w [] [] := ⟨fun _ _ _ _ _ _ _ _ _ _ F N h => spliced_none (h _ [] _ _ F N (fun _ _ _ x => nomatch x) .nil)⟩
theorem cons (h1 : Dsp prog w e d) (h2 : DspAll prog w es ds) (he : ∀ env, starEach (e :: es) env = (false, eval e env) :: starEach es env := by intro _; rfl) : DspAll prog w (e :: es) (d :: ds) := by
  refine ⟨fun A E env h₀ L m s news pos Q F N h => ?_⟩
  refine spliced_more ?_ (he env)
  refine h1.go A E env h₀ L m s news _ F N fun v tl h' k F' N' hn hd => ?_
  refine h2.go A E env h₀ L m _ _ pos _ F' N' fun vs tl2 h2 k2 F2 N2 hn2 hd2 => ?_
  rw [← List.append_assoc] at N2
  refine h (v :: vs) (tl2 ++ tl) h2 k2 F2 N2 (fun q hq p hp => ?_) (.cons (hd.mono fun p hp => List.mem_append_right _ hp) (hd2.mono fun p hp => List.mem_append_left _ hp))
  rcases List.mem_append.mp hp with hp | hp
  · exact hn2 q (List.mem_append_right _ hq) p hp
  · exact hn q hq p hp
theorem newTo_cons {news tl : Led} {h₀ h : Heap} {L : Addr} {o : Obj} (N : News h₀ L h (tl ++ news)) (hn : NewTo news tl) : NewTo news ((h.objs.size, o) :: tl) := fun q hq p hp => by
  rcases List.mem_cons.mp hp with rfl | hp
  · exact Nat.ne_of_lt (Heap.lt_size (N q (List.mem_append_right _ hq)).1)
  · exact hn q hq p hp
theorem tuple {k} (h1 : DspAll prog w es ds) (hs : ds.length ≤ 100 := by decide) : Dsp prog w (.Tuple es k p) (.tuple ds) :=
  ⟨fun A E env h₀ L m s news Q F N h => Tuple_ (h1.go A E env h₀ L m s news p _ F N fun vs tl h' k F' N' hn hd => newTuple_N F' N' (fun h2 F2 N2 => h _ (_ :: tl) h2 k F2 N2 (newTo_cons N' hn) (.tuple List.mem_cons_self (hd.mono fun p hp => List.mem_cons_of_mem _ hp))) (fits_of (by rw [hd.length]; omega)))⟩
theorem list (h1 : DspAll prog w es ds) (hs : ds.length ≤ 100 := by decide) : Dsp prog w (.List es p) (.list ds) :=
  ⟨fun A E env h₀ L m s news Q F N h => List_ (h1.go A E env h₀ L m s news p _ F N fun vs tl h' k F' N' hn hd => newList_N F' N' (fun h2 F2 N2 => h _ (_ :: tl) h2 k F2 N2 (newTo_cons N' hn) (.list List.mem_cons_self (hd.mono fun p hp => List.mem_cons_of_mem _ hp))) (fits_of (by rw [hd.length]; omega)))⟩
variable {A : Around} {E : Value → Shared → Prop} {env : Env} {h₀ : Heap} {L : Addr} {m : Str → Option Value} {s : Shared} {news : Led} {Q : Value → Shared → Prop}
theorem useL (D : Dsp prog w e (.list ds)) (F : Fr h₀ L s.heap m) (N : News h₀ L s.heap news)
    (h : ∀ a vs n tl h k, Fr h₀ L h m → News h₀ L h (tl ++ news) → (a, listOf vs.toArray n) ∈ tl → DatAll tl vs ds → Q (.ref a) ⟨h, s.gens, s.drawn, k, s.os⟩) : wpAny (model prog w) A (eval e env) Q E s :=
  D.go A E env h₀ L m s news Q F N fun v tl h' k F' N' _ hd => by
    obtain ⟨a, vs, n, rfl, hm, hall⟩ := dat_list hd
    exact h a vs n tl h' k F' N' hm hall
theorem useT (D : Dsp prog w e (.tuple ds)) (F : Fr h₀ L s.heap m) (N : News h₀ L s.heap news)
    (h : ∀ a tl h k, Fr h₀ L h m → News h₀ L h (tl ++ news) → NewTo news tl → DatIn tl (.ref a) (.tuple ds) → Q (.ref a) ⟨h, s.gens, s.drawn, k, s.os⟩) : wpAny (model prog w) A (eval e env) Q E s :=
  D.go A E env h₀ L m s news Q F N fun v tl h' k F' N' hn hd => by
    obtain ⟨a, vs, n, rfl, hm, hall⟩ := dat_tuple hd
    exact h a tl h' k F' N' hn hd
end Dsp
theorem newTo_off {D : Addr} {o : Obj} {rest tl : Led} (hn : NewTo ((D, o) :: rest) tl) : OwnOff tl [D] := fun p hp b hb => by
  rw [List.mem_singleton.mp hb]
  exact (hn _ List.mem_cons_self p hp).symm
local macro_rules | `(tactic| walk_at "MyDatB") => `(tactic| first | exact DatIn.bytes _ _ | exact DatIn.int _ _ | exact DatIn.bool _ | exact DatIn.none | exact DatAll.nil | (refine' DatAll.cons ?hA ?hB; (case hA | hB => walk_at "MyDatB")) | (refine' DatIn.tuple ?hm ?hr; (case hm => k_mem); (case hr => walk_at "MyDatB")) | (refine' DatIn.list ?hm ?hr; (case hm => k_mem); (case hr => walk_at "MyDatB")))
section
local macro_rules | `(tactic| walk_at "callWith") => `(tactic| ((with_reducible show wpAny _ _ (callWith _ _ _ _ _) _ _ _); (dsimp only); (refine callWith_method1 ?_ ?cwB ?cwC); (case cwC | cwB => rfl)))
local macro_rules | `(tactic| walk_at "call builtin:list.append") => `(tactic| (k_here; (with_reducible show wpAny _ _ (call (Value.builtin _) [Value.ref _, _]) _ _ _); refine Stop.out ?_))
local macro_rules | `(tactic| walk_at "eval List") => `(tactic| refine Stop.out ?_)
local macro_rules | `(tactic| walk_at "eval Tuple") => `(tactic| refine Stop.out ?_)
local macro_rules | `(tactic| walk_at "MyDsp") => `(tactic| first | exact Dsp.bytes | exact Dsp.int | exact Dsp.none | exact Dsp.bool | exact Dsp.nil | (refine Dsp.cons ?_ ?_ <;> walk_at "MyDsp") | (refine Dsp.tuple ?_; walk_at "MyDsp") | (refine Dsp.list ?_; walk_at "MyDsp"))
def caseD (c : List Row × List UInt8 × Int × (List UInt8 × Int × Bool)) : Dat := .tuple [.list (c.1.map rowD), .bytes c.2.1.toArray, .int c.2.2.1, .tuple [.bytes c.2.2.2.1.toArray, .int c.2.2.2.2.1, .bool c.2.2.2.2.2]]
def casesL : List (List Row × List UInt8 × Int × (List UInt8 × Int × Bool)) := [
  ([([65, 66], none)], [46, 46], 1, ([65, 66], 3, false)), ([([65, 66, 67], none)], [46, 46], 1, ([65, 66], 3, true)),
  ([([65, 66], none)], [46, 46, 46, 46], 2, ([46, 65, 66, 46], 4, false)), ([([65], none)], [46, 46], 0, ([46, 46], 0, true)),
  ([([65], none)], [46, 46], 3, ([46, 46], 3, true)), ([([65], none)], [46, 46], 2, ([46, 65], 3, false)),
  ([([65, 44, 66], some [44]), ([67, 68], some [67, 68]), ([69, 32, 70], some [32])], [46, 46, 46, 46, 46], 1, ([65, 69, 46, 46, 46], 3, false)),
  ([([65, 66], some [67]), ([44], some [44, 44])], [46, 46, 46], 1, ([65, 66, 44], 4, false)),
  ([([65, 66], none), ([], none), ([67], none)], [46, 46], 1, ([65, 66], 3, true))]
theorem cases_ok : ∀ c ∈ casesL, strungF c.1 c.2.1 c.2.2.1 = c.2.2.2 := by decide
theorem cases_rows : ∀ c ∈ casesL, ∀ r ∈ c.1, RowOk r := by
  intro c hc r hr
  have : ∀ c ∈ casesL, ∀ r ∈ c.1, r.1.length < 1000 ∧ ∀ d, r.2 = some d → d.length < 1000000 ∧ 0 < d.length := by
    intro c hc r hr
    simp only [casesL, List.mem_cons, List.not_mem_nil, or_false] at hc
    rcases hc with rfl | rfl | rfl | rfl | rfl | rfl | rfl | rfl | rfl <;> (simp at hr; rcases hr with rfl | rfl | rfl <;> simp)
  exact this c hc r hr
theorem cases_spec {w : World} {news : Led} : Spec w 8 159 [] news (fun r nx => (∀ p ∈ news, p ∈ nx) ∧ DatIn nx r (.list (casesL.map caseD))) := by
  unfold Spec
  intro mean mg mb dp un gd env outer A₀ base h₀ L m s Q E B F X N T hf hk hd hu hret
  w_top off
  refine wpAny_call ?_
  k_dflt (walk_at "MyEnter")
  intro g' L' h' FG' F' N' B' X' T'
  replace F' := fr_cast F' (m' := fun y => List.lookup y []) rfl
  try dsimp only
  try k_fold
  k_steps
  unfold Stop
  k_dflt (refine' Dsp.useL ?ev ?kF ?kN ?_; (case ev => exact (show Dsp _ _ _ (.list ((casesL.take 2).map caseD)) from by walk_at "MyDsp")); (case kF => k_asm); (case kN => k_asm))
  intro a1 vs1 n1 tl1 h1 k1 F1 N1 hm1 hall1
  have hl1 : vs1.length = 2 := hall1.length
  clear F' N'
  k_steps
  unfold Stop
  k_dflt (refine' Dsp.useL ?ev ?kF ?kN ?_; (case ev => exact (show Dsp _ _ _ (.list (((casesL.drop 2).take 2).map caseD)) from by walk_at "MyDsp")); (case kF => k_asm); (case kN => k_asm))
  intro a2 vs2 n2 tl2 h2 k2 F2 N2 hm2 hall2
  have hl2 : vs2.length = 2 := hall2.length
  k_steps
  unfold Stop
  k_dflt (refine' Dsp.useL ?ev ?kF ?kN ?_; (case ev => exact (show Dsp _ _ _ (.list (((casesL.drop 4).take 2).map caseD)) from by walk_at "MyDsp")); (case kF => k_asm); (case kN => k_asm))
  intro a3 vs3 n3 tl3 h3 k3 F3 N3 hm3 hall3
  have hl3 : vs3.length = 2 := hall3.length
  k_steps
  unfold Stop
  rename_i D _ lt _ _ N6
  obtain ⟨ws6, rest6, n6, NN6, hall6, hs6, hoff6, hl6⟩ := cut_0 (news := news) (ds := (casesL.take 6).map caseD) N6 (off_lt lt) (((hall1.mono fun p hp => List.mem_append_right _ (List.mem_cons_of_mem _ (List.mem_append_right _ (List.mem_append_left _ hp)))).append (hall2.mono fun p hp => List.mem_append_right _ (List.mem_cons_of_mem _ (List.mem_append_left _ hp)))).append (hall3.mono fun p hp => List.mem_append_left _ hp)) (fun p hp => List.mem_append_right _ (List.mem_cons_of_mem _ (List.mem_append_right _ (List.mem_append_right _ hp))))
  clear N6 lt
  replace hl6 : ws6.length = 6 := hl6
  k_dflt (refine' Dsp.useT ?ev ?kF ?kN ?_; (case ev => exact (show Dsp _ _ _ (caseD casesL[6]) from by walk_at "MyDsp")); (case kF => k_asm); (case kN => k_asm))
  intro _ t6 _ _ F6 N6 hn6 hd6
  k_steps
  unfold Stop
  have o6 := off_app (newTo_off hn6) hoff6
  refine' append_F ?kA ?kB ?kC o6 ?kE ?_
  case kA => k_asm
  case kB => k_asm
  case kC => exact Front.app Front.here
  case kE => omega
  clear F6 N6
  intro _ F6 N6
  obtain ⟨ws7, rest7, n7, NN7, hall7, hs7, hoff7, hl7⟩ := cut_F (ds := (casesL.take 6).map caseD) (d := caseD (casesL[6])) N6 o6 hall6 hd6 hs6
  clear N6
  replace hl7 : ws7.length = 7 := hl7
  k_steps
  unfold Stop
  k_dflt (refine' Dsp.useT ?ev ?kF ?kN ?_; (case ev => exact (show Dsp _ _ _ (caseD casesL[7]) from by walk_at "MyDsp")); (case kF => k_asm); (case kN => k_asm))
  intro _ t7 _ _ F7 N7 hn7 hd7
  k_steps
  unfold Stop
  have o7 := off_app (newTo_off hn7) hoff7
  refine' append_F ?kA ?kB ?kC o7 ?kE ?_
  case kA => k_asm
  case kB => k_asm
  case kC => exact Front.app Front.here
  case kE => omega
  clear F7 N7
  intro _ F7 N7
  obtain ⟨ws8, rest8, n8, NN8, hall8, hs8, hoff8, hl8⟩ := cut_F (ds := (casesL.take 7).map caseD) (d := caseD (casesL[7])) N7 o7 hall7 hd7 hs7
  clear N7
  replace hl8 : ws8.length = 8 := hl8
  k_steps
  unfold Stop
  k_dflt (refine' Dsp.useT ?ev ?kF ?kN ?_; (case ev => exact (show Dsp _ _ _ (caseD casesL[8]) from by walk_at "MyDsp")); (case kF => k_asm); (case kN => k_asm))
  intro _ t8 _ _ F8 N8 hn8 hd8
  k_steps
  unfold Stop
  have o8 := off_app (newTo_off hn8) hoff8
  refine' append_F ?kA ?kB ?kC o8 ?kE ?_
  case kA => k_asm
  case kB => k_asm
  case kC => exact Front.app Front.here
  case kE => omega
  clear F8 N8
  intro _ F8 N8
  obtain ⟨ws9, rest9, n9, NN9, hall9, hs9, hoff9, hl9⟩ := cut_F (ds := (casesL.take 8).map caseD) (d := caseD (casesL[8])) N8 o8 hall8 hd8 hs8
  clear N8
  replace hl9 : ws9.length = 9 := hl9
  k_steps
  exact hret _ (_ :: rest9) _ _ (by k_asm) (by k_asm) ⟨fun p hp => List.mem_cons_of_mem _ (hs9 p hp), DatIn.list List.mem_cons_self (hall9.mono fun p hp => List.mem_cons_of_mem _ hp)⟩
end
section
open PySem.Calls
variable {prog : Program} {w : World} {A : Around} {E : Value → Shared → Prop} {R : Result → Shared → Prop} {s : Shared}
theorem two_turn0 (elt tg iter tg2 iter2 : Expr) (scope : Scope) (pos : Pos) (it acc : Value) (env : Env) :
    compTurn (.ListComp elt [⟨tg, iter, [], 0⟩, ⟨tg2, iter2, [], 0⟩] scope pos) 0 it acc env = (standAt iter.pos >>= fun _ => pyNext it >>= fun r => match r with
      | none => pure (.done .next)
      | some v => letOwnedTupleGo tg it v >>= fun _ => assign tg env v >>= fun _ =>
        eval iter2 env >>= fun x => standAt iter2.pos >>= fun _ => foldedSetIterable iter2 env x >>= fun x => holding [x] (pyIter x) >>= fun i2 =>
          runOwn (.compStart (.ListComp elt [⟨tg, iter, [], 0⟩, ⟨tg2, iter2, [], 0⟩] scope pos) 1 i2 acc env) env >>= fun _ =>
          again (.compLoop (.ListComp elt [⟨tg, iter, [], 0⟩, ⟨tg2, iter2, [], 0⟩] scope pos) 0 it acc env)) := by rfl
theorem two_turn1 (elt tg iter tg2 iter2 : Expr) (scope : Scope) (pos : Pos) (it acc : Value) (env : Env) :
    compTurn (.ListComp elt [⟨tg, iter, [], 0⟩, ⟨tg2, iter2, [], 0⟩] scope pos) 1 it acc env = (standAt iter2.pos >>= fun _ => pyNext it >>= fun r => match r with
      | none => pure (.done .next)
      | some v => letOwnedTupleGo tg2 it v >>= fun _ => assign tg2 env v >>= fun _ =>
        (eval elt env >>= fun x => call (.builtin "list.append") [acc, x] >>= fun _ => pure ()) >>= fun _ =>
          again (.compLoop (.ListComp elt [⟨tg, iter, [], 0⟩, ⟨tg2, iter2, [], 0⟩] scope pos) 1 it acc env)) := by rfl
theorem two_loop1 {elt tg iter tg2 iter2 : Expr} {scope : Scope} {pos : Pos} {it acc : Value} {env : Env} (I : Nat → Shared → Prop)
    (turn : ∀ n s, I n s → wpAny (model prog w) A (pyNext it) (fun r s₁ => match r with
      | none => R (.ok .next) s₁
      | some v => wpAny (model prog w) A (assign tg2 env v) (fun _ s₂ => wpAny (model prog w) A (eval elt env) (fun x s₃ =>
          wpAny (model prog w) A (call (.builtin "list.append") [acc, x]) (fun _ s₄ => ∃ m, m < n ∧ I m s₄) (notedBy (model prog w) A env fun e s' => R (.error e) s') s₃)
          (notedBy (model prog w) A env fun e s' => R (.error e) s') s₂) (notedBy (model prog w) A env fun e s' => R (.error e) s') s₁) (notedBy (model prog w) A env fun e s' => R (.error e) s') s)
    (n : Nat) (h : I n s) (ht : ∀ v, letOwnedTupleGo tg2 it v = pure () := by intro _; rfl) :
    codeAny (model prog w) A (.compLoop (.ListComp elt [⟨tg, iter, [], 0⟩, ⟨tg2, iter2, [], 0⟩] scope pos) 1 it acc env) R s := by
  refine codeAny_loop rfl I (fun n s hI => ?_) n h
  show wpAny _ _ ((compTurn (.ListComp elt [⟨tg, iter, [], 0⟩, ⟨tg2, iter2, [], 0⟩] scope pos) 1 it acc env).onRaise (fun x => do noteFrame x env; theTreesLotGoes x)) _ _ s
  refine wpAny_noted ?_
  rw [two_turn1]
  refine wpAny_bind (wpAny_standAt (wpAny_bind (wpAny_mono (turn n s hI) (fun r s₁ h₁ => ?_) fun _ _ h' => h')))
  cases r with
  | none => exact wpAny_pure h₁
  | some v =>
    refine wpAny_bind (wpAny_of_eq (ht v) ?_)
    exact wpAny_bind (wpAny_mono h₁ (fun _ s₂ h₂ => wpAny_bind (wpAny_bind (wpAny_mono h₂ (fun x s₃ h₃ => wpAny_bind (wpAny_mono h₃
      (fun _ s₄ h₄ => wpAny_pure (wpAny_pure ⟨rfl, h₄⟩)) fun _ _ h' => h')) fun _ _ h' => h'))) fun _ _ h' => h')
theorem two_loop0 {elt tg iter tg2 iter2 : Expr} {scope : Scope} {pos : Pos} {it acc : Value} {env : Env} (I : Nat → Shared → Prop)
    (turn : ∀ n s (E₁ : Value → Shared → Prop) (RE : Value → Shared → Prop), I n s → wpAny (model prog w) A (pyNext it) (fun r s₁ => match r with
      | none => R (.ok .next) s₁
      | some v => wpAny (model prog w) A (assign tg env v) (fun _ s₂ => wpAny (model prog w) A (eval iter2 env) (fun x s₃ => wpAny (model prog w) A (pyIter x) (fun i2 s₄ =>
          codeAny (model prog w) (A.mark none) (.compStart (.ListComp elt [⟨tg, iter, [], 0⟩, ⟨tg2, iter2, [], 0⟩] scope pos) 1 i2 acc env) (fun r s' => match r with | .ok _ => ∃ m, m < n ∧ I m s' | .error e => RE e s') s₄) E₁ s₃) E₁ s₂) E₁ s₁) E₁ s)
    (n : Nat) (h : I n s) (ht : ∀ v, letOwnedTupleGo tg it v = pure () := by intro _; rfl) (hf : ∀ x, foldedSetIterable iter2 env x = pure x := by intro _; rfl) :
    codeAny (model prog w) A (.compLoop (.ListComp elt [⟨tg, iter, [], 0⟩, ⟨tg2, iter2, [], 0⟩] scope pos) 0 it acc env) R s := by
  refine codeAny_loop rfl I (fun n s hI => ?_) n h
  show wpAny _ A ((compTurn (.ListComp elt [⟨tg, iter, [], 0⟩, ⟨tg2, iter2, [], 0⟩] scope pos) 0 it acc env).onRaise (fun x => do noteFrame x env; theTreesLotGoes x)) _ _ s
  refine wpAny_noted ?_
  rw [two_turn0]
  refine wpAny_bind (wpAny_standAt (wpAny_bind (wpAny_mono (turn n s (notedBy (model prog w) A env fun e s' => R (.error e) s') (cameBackBy (model prog w) A env (notedBy (model prog w) A env fun e s' => R (.error e) s')) hI) (fun r s₁ h₁ => ?_) fun _ _ h' => h')))
  cases r with
  | none => exact wpAny_pure h₁
  | some v =>
    refine wpAny_bind (wpAny_of_eq (ht v) ?_)
    refine wpAny_bind (wpAny_mono h₁ (fun _ s₂ h₂ => wpAny_bind (wpAny_mono h₂ (fun x s₃ h₃ => wpAny_bind (wpAny_standAt (wpAny_bind (wpAny_of_eq (hf x) (wpAny_bind (wpAny_holding (wpAny_mono h₃ (fun i2 s₄ h₄ => ?_) fun _ _ h' => h'))))))) fun _ _ h' => h')) fun _ _ h' => h')
    refine wpAny_bind (wpAny_runOwn ?_)
    refine codeAny_mono h₄ fun r s' hr => ?_
    cases r with
    | ok f => exact wpAny_pure ⟨rfl, hr⟩
    | error e => exact hr
theorem two_start1 {elt tg iter tg2 iter2 : Expr} {scope : Scope} {pos : Pos} {it acc : Value} {env : Env}
    (h0 : codeAny (model prog w) A (.compLoop (.ListComp elt [⟨tg, iter, [], 0⟩, ⟨tg2, iter2, [], 0⟩] scope pos) 1 it acc env) R s)
    (h : wpAny (model prog w) A (pyIter it) (fun it' s' => codeAny (model prog w) A (.compLoop (.ListComp elt [⟨tg, iter, [], 0⟩, ⟨tg2, iter2, [], 0⟩] scope pos) 1 it' acc env) R s')
      (notedBy (model prog w) A env fun x s' => R (.error x) s') s) :
    codeAny (model prog w) A (.compStart (.ListComp elt [⟨tg, iter, [], 0⟩, ⟨tg2, iter2, [], 0⟩] scope pos) 1 it acc env) R s := by
  refine codeAny_of_tree ?_
  show wpAny _ _ ((compStart (.ListComp elt [⟨tg, iter, [], 0⟩, ⟨tg2, iter2, [], 0⟩] scope pos) 1 it acc env).onRaise (fun x => do noteFrame x env; standAt theWindowsPlace)) _ _ s
  refine wpAny_notedAt ?_
  unfold compStart
  show wpAny _ _ (ask >>= _) _ _ s
  refine wpAny_bind (wpAny_askSetting (wpAny_ite ?_))
  split
  · first
      | exact wpAny_bind (wpAny_pure (wpAny_pure (And.intro rfl h0)))
      | exact wpAny_pure (And.intro rfl h0)
  · first
      | exact wpAny_bind (wpAny_rule (wpAny_bind (wpAny_standAt (wpAny_bind (wpAny_mono h (fun it' s' h' => wpAny_pure (And.intro rfl h')) fun _ _ x => x)))))
      | (refine wpAny_bind (wpAny_rule ?_); show wpAny _ _ (standAt iter2.pos >>= _) _ _ s; exact wpAny_bind (wpAny_standAt (wpAny_bind (wpAny_mono h (fun it' s' h' => wpAny_pure (And.intro rfl h')) fun _ _ x => x))))
end
section
open PySem.Calls PySem.Spec LCg
variable {prog : Program} {w : World} {A : Around} {s : Shared} {h₀ : Heap} {L : Addr} {m : Str → Option Value} {env : Env}
def Step2 (h₀ : Heap) (L : Addr) (m : Str → Option Value) (s₁ : Shared) (I C D I2 : Addr) (oI oC oD oI2 : Obj) (nw : Led) (rest : Value → Led → Prop) (y : Value) (s₂ : Shared) : Prop :=
  ∃ h' tk nw', s₂ = { s₁ with heap := h', toks := tk } ∧ Fr h₀ L h' m ∧ News h₀ L h' ((I, oI) :: (C, oC) :: (D, oD) :: (I2, oI2) :: nw') ∧ Off3 I C D nw' ∧ (∀ p ∈ nw', @Ne Nat p.1 I2) ∧ (∀ p ∈ nw, p ∈ nw') ∧ rest y nw'
theorem inner_2 {elt iter iter2 tg : Expr} {y : Str} {py pos : Pos} {scope : Scope} {cl : List (Str × Addr)} {I C D I2 ax : Addr} {oI : Obj} {k2 : Nat} {its : Array Value} {ys : List Value} {nw : Led} {mC : Str → Option Value} {R : Result → Shared → Prop}
    (K : Nat → List Value → Led → Prop) (hh : A.handled = none) (hkind : scope.kind = .function) (hy : scope.names.lookup y = some .local)
    (hst : s.heap.IsTupleIter I2 ax 0) (hax : (ax, ({ cls := .type "tuple", data := .seq its k2 } : Obj)) ∈ nw) (F : Fr h₀ L s.heap m) (hn : s.heap.Ns C mC) (N : News h₀ L s.heap ((I, oI) :: (D, lst ys) :: nw)) (off : Off3 I C D nw) (off2 : ∀ p ∈ nw, @Ne Nat p.1 I2)
    (hIC : @Ne Nat I C) (hID : @Ne Nat I D) (hCD : @Ne Nat C D) (hI2I : @Ne Nat I2 I) (hI2C : @Ne Nat I2 C) (hI2D : @Ne Nat I2 D) (hI2L : @Ne Nat I2 L) (hI20 : h₀.get? I2 = none) (hCL : C ≠ L) (hC0 : h₀.get? C = none)
    (hsz : ys.length + its.size ≤ sizeLine) (hK : K 0 ys nw)
    (step : ∀ j u ys nw oC oI2 mC h tk (E' : Value → Shared → Prop), its[j]? = some u → K j ys nw → (ax, ({ cls := .type "tuple", data := .seq its k2 } : Obj)) ∈ nw → NsObj oC mC → mC y = some u → Fr h₀ L h m → News h₀ L h ((I, oI) :: (C, oC) :: (D, lst ys) :: (I2, oI2) :: nw) → Off3 I C D nw → (∀ p ∈ nw, @Ne Nat p.1 I2) →
      wpAny (model prog w) A (eval elt (compEnvC scope cl C env)) (Step2 h₀ L m { s with heap := h, toks := tk } I C D I2 oI oC (lst ys) oI2 nw (fun yv nw' => K (j + 1) (ys ++ [yv]) nw')) E' { s with heap := h, toks := tk })
    (hR : ∀ h tk ys' nw' mC', Fr h₀ L h m → h.Ns C mC' → News h₀ L h ((I, oI) :: (D, lst ys') :: nw') → Off3 I C D nw' → (∀ p ∈ nw, p ∈ nw') → K its.size ys' nw' → ys'.length = ys.length + its.size → R (.ok .next) { s with heap := h, toks := tk }) :
    codeAny (model prog w) A (.compStart (.ListComp elt [⟨tg, iter, [], 0⟩, ⟨.Name y py, iter2, [], 0⟩] scope pos) 1 (.ref I2) (.ref D) (compEnvC scope cl C env)) R s := by
  have W := Walks.tuple (prog := prog) (w := w) hh I2 ax (fun e => off2 _ hax e) its
  have tupOf : ∀ {h : Heap} {l : Led}, News h₀ L h l → (ax, ({ cls := .type "tuple", data := .seq its k2 } : Obj)) ∈ l → h.IsTuple ax its := fun N hm => ⟨_, (N _ hm).1, rfl, _, rfl⟩
  have loop : codeAny (model prog w) A (.compLoop (.ListComp elt [⟨tg, iter, [], 0⟩, ⟨.Name y py, iter2, [], 0⟩] scope pos) 1 (.ref I2) (.ref D) (compEnvC scope cl C env)) R s := by
    refine two_loop1 (fun k s' => ∃ h' tk j ys' nw' mC', s' = { s with heap := h', toks := tk } ∧ j ≤ its.size ∧ k = its.size + 1 - j ∧ ys'.length = ys.length + j ∧ h'.IsTupleIter I2 ax j ∧ Fr h₀ L h' m ∧ h'.Ns C mC' ∧ News h₀ L h' ((I, oI) :: (D, lst ys') :: nw') ∧
        Off3 I C D nw' ∧ (∀ p ∈ nw', @Ne Nat p.1 I2) ∧ (∀ p ∈ nw, p ∈ nw') ∧ K j ys' nw') ?_ (its.size + 1) ⟨s.heap, s.toks, 0, ys, nw, mC, rfl, Nat.zero_le _, rfl, rfl, hst, F, hn, N, off, off2, fun _ h => h, hK⟩
    rintro k s' ⟨h', tk, j, ys', nw', mC', rfl, hj, rfl, hyl, hst', F', hn', N', off', off2', sub', hK'⟩
    have htup : h'.IsTuple ax its := tupOf N' (List.mem_cons_of_mem _ (List.mem_cons_of_mem _ (sub' _ hax)))
    have off3 := off'.mem
    have ledNe : ∀ p ∈ (I, oI) :: (D, lst ys') :: nw', p.1 ≠ I2 := fun p hp => by
      rcases List.mem_cons.mp hp with rfl | hp
      · exact Ne.symm hI2I
      · rcases List.mem_cons.mp hp with rfl | hp
        · exact Ne.symm hI2D
        · exact off2' p hp
    by_cases hlt : j < its.size
    · refine W.item j _ _ _ hlt ⟨hst', htup⟩ fun v h₂ tk₂ hPv hst₂ hk₂ => ?_
      refine wpAny_assign_Name (wpAny_storeName_local (lookup_relabel_local hy) (hn'.at' fun o e => hk₂ _ o (by simpa using Ne.symm hI2C) e) (fun h₃ hn₃ hs₃ => ?_) (by simp [compEnvC, relabel, hkind]))
      obtain ⟨oC, heC, hoC⟩ := ns_obj hn₃
      obtain ⟨oI2, heI2, hI2r⟩ := hst₂.1
      have heI3 : h₃.get? I2 = some oI2 := hs₃.extBut _ _ hI2C heI2
      have F₃ : Fr h₀ L h₃ m := (fr_but F' hk₂ (Ne.symm hI2L) hI20).change hs₃ hCL hC0
      have N₂ := news_but N' hk₂ ledNe
      have N₃ : News h₀ L h₃ ((I, oI) :: (C, oC) :: (D, lst ys') :: (I2, oI2) :: nw') := fun p hp => by
        rcases List.mem_cons.mp hp with rfl | hp
        · have z := N₂ _ List.mem_cons_self
          exact ⟨hs₃.extBut _ _ hIC z.1, z.2⟩
        · rcases List.mem_cons.mp hp with rfl | hp
          · exact ⟨heC, hCL, hC0⟩
          · rcases List.mem_cons.mp hp with rfl | hp
            · have z := N₂ _ (List.mem_cons_of_mem _ List.mem_cons_self)
              exact ⟨hs₃.extBut _ _ (Ne.symm hCD) z.1, z.2⟩
            · rcases List.mem_cons.mp hp with rfl | hp
              · exact ⟨heI3, hI2L, hI20⟩
              · have z := N₂ _ (List.mem_cons_of_mem _ (List.mem_cons_of_mem _ hp))
                exact ⟨hs₃.extBut _ _ (off3 p hp).2.1 z.1, z.2⟩
      refine wpAny_mono (step j v ys' nw' oC oI2 _ h₃ _ _ hPv hK' (sub' _ hax) hoC (by simp) F₃ N₃ off' off2') (fun yv s₄ h₄ => ?_) fun _ _ e => e
      obtain ⟨h₄, tk₄, nw₄, rfl, F₄, N₄, off₄, off2₄, sub₄, hK₄⟩ := h₄
      have zI := N₄ (I, oI) List.mem_cons_self
      have zC := N₄ (C, oC) (List.mem_cons_of_mem _ List.mem_cons_self)
      have zD := N₄ (D, lst ys') (List.mem_cons_of_mem _ (List.mem_cons_of_mem _ List.mem_cons_self))
      have zI2 := N₄ (I2, oI2) (List.mem_cons_of_mem _ (List.mem_cons_of_mem _ (List.mem_cons_of_mem _ List.mem_cons_self)))
      have N₄' : News h₀ L h₄ nw₄ := fun p hp => N₄ p (List.mem_cons_of_mem _ (List.mem_cons_of_mem _ (List.mem_cons_of_mem _ (List.mem_cons_of_mem _ hp))))
      refine append_at (hsz := by show ys'.toArray.size ≤ sizeLine; rw [List.size_toArray, hyl]; omega) zD.1 fun h₅ hs₅ hD₅ => ?_
      have off4 := off₄.mem
      refine ⟨its.size + 1 - (j + 1), by omega, h₅, tk₄, j + 1, ys' ++ [yv], nw₄, _, rfl, hlt, rfl, by rw [List.length_append, List.length_singleton, hyl]; omega, ⟨oI2, hs₅.extBut _ _ hI2D zI2.1, hI2r⟩, F₄.change hs₅ zD.2.1 zD.2.2,
        (hoC.ns zC.1).sameBut hs₅ hCD, fun p hp => ?_, off₄, off2₄, fun p hp => sub₄ p (sub' p hp), hK₄⟩
      rcases List.mem_cons.mp hp with rfl | hp
      · exact ⟨hs₅.extBut _ _ hID zI.1, zI.2⟩
      · rcases List.mem_cons.mp hp with rfl | hp
        · exact ⟨hD₅.trans (congrArg some (lst_snoc ys' yv)), zD.2⟩
        · exact ⟨hs₅.extBut _ _ (off4 p hp).2.2 (N₄' p hp).1, (N₄' p hp).2⟩
    · obtain rfl : j = its.size := Nat.le_antisymm hj (Nat.not_lt.mp hlt)
      refine W.done _ _ _ ⟨hst', htup⟩ fun h₂ tk₂ hk₂ => ?_
      exact hR h₂ tk₂ ys' nw' _ (fr_but F' hk₂ (Ne.symm hI2L) hI20) (hn'.at' fun o e => hk₂ _ o (by simpa using Ne.symm hI2C) e) (news_but N' hk₂ ledNe) off' sub' hK' hyl
  exact two_start1 loop (wpAny_pyIter_tupleiter hst loop)
end
section
open PySem.Calls PySem.Spec LCg
variable {prog : Program} {w : World} {A : Around} {E : Value → Shared → Prop} {s : Shared} {h₀ : Heap} {L : Addr} {m : Str → Option Value} {env : Env}
def Src2 (prog : Program) (w : World) (A : Around) (h₀ : Heap) (L : Addr) (m : Str → Option Value) (env : Env) (elt : Expr) (y : Str) (scope : Scope) (cl : List (Str × Addr)) (I C D : Addr) (oI oC : Obj) (ys : List Value) (nx : Led) (Jn : List Value → Led → Prop) (s₁ : Shared) (xv : Value) (s₂ : Shared) : Prop :=
  ∃ ax its k2 h' tk' nx', ∃ K : Nat → List Value → Led → Prop, xv = .ref ax ∧ s₂ = { s₁ with heap := h', toks := tk' } ∧ its.size = 2 ∧ (ax, ({ cls := .type "tuple", data := .seq its k2 } : Obj)) ∈ nx' ∧ Fr h₀ L h' m ∧ News h₀ L h' ((I, oI) :: (C, oC) :: (D, lst ys) :: nx') ∧ Off3 I C D nx' ∧ (∀ p ∈ nx, p ∈ nx') ∧ K 0 ys nx' ∧
    (∀ (s : Shared) I2 j u ys nw oC oI2 mC h tk (E' : Value → Shared → Prop), its[j]? = some u → K j ys nw → (ax, ({ cls := .type "tuple", data := .seq its k2 } : Obj)) ∈ nw → NsObj oC mC → mC y = some u → Fr h₀ L h m → News h₀ L h ((I, oI) :: (C, oC) :: (D, lst ys) :: (I2, oI2) :: nw) → Off3 I C D nw → (∀ p ∈ nw, @Ne Nat p.1 I2) →
      wpAny (model prog w) A (eval elt (compEnvC scope cl C env)) (Step2 h₀ L m { s with heap := h, toks := tk } I C D I2 oI oC (lst ys) oI2 nw (fun yv nw' => K (j + 1) (ys ++ [yv]) nw')) E' { s with heap := h, toks := tk }) ∧
    (∀ ys' nw', K its.size ys' nw' → Jn ys' nw')
theorem block_2 {elt iter iter2 : Expr} {x y : Str} {px py pos : Pos} {scope : Scope} {cl : List (Str × Addr)} {s₂ : Shared} {I ax0 : Addr} {its0 : Array Value} {k0 : Nat} {news : Led} {RR : Value → Addr → Result → Shared → Prop}
    (J : Nat → List Value → Led → Prop) (hh : A.handled = none) (hcell : ∀ y ∈ scope.names, y.2 ≠ .cell) (hkind : scope.kind = .function) (hx : scope.names.lookup x = some .local) (hy : scope.names.lookup y = some .local)
    (hst : s₂.heap.IsListIter I ax0 0) (hm0 : (ax0, ({ cls := .type "list", data := .seq its0 k0 } : Obj)) ∈ news) (hIlt : I < s₂.heap.objs.size) (F : Fr h₀ L s₂.heap m) (N : News h₀ L s₂.heap news) (hIL : L ≠ I) (hI₀ : h₀.get? I = none) (off : ∀ p ∈ news, p.1 ≠ I)
    (hsz : 2 * its0.size ≤ sizeLine) (hJ0 : J 0 [] news)
    (src : ∀ i v ys nx oI oC C D mC h tk (E' : Value → Shared → Prop), its0[i]? = some v → J i ys nx → (∀ p ∈ news, p ∈ nx) → NsObj oC mC → mC x = some v → Fr h₀ L h m → News h₀ L h ((I, oI) :: (C, oC) :: (D, lst ys) :: nx) → Off3 I C D nx → ((@Ne Nat I C) ∧ (@Ne Nat I D) ∧ (@Ne Nat C D)) →
      wpAny (model prog w) A (eval iter2 (compEnvC scope cl C env)) (Src2 prog w A h₀ L m env elt y scope cl I C D oI oC ys nx (J (i + 1)) { s₂ with heap := h, toks := tk }) E' { s₂ with heap := h, toks := tk })
    (hRR : ∀ D C h tk m' ys news', Fr h₀ L h m → News h₀ L h ((D, lst ys) :: news') → Off1 D news' → h.Ns C m' → h₀.get? C = none → h₀.get? D = none → C ≠ L → D ≠ L → C ≠ D → (∀ p ∈ news', p.1 ≠ C) → (∀ p ∈ news, p ∈ news') → J its0.size ys news' → RR (.ref D) C (.ok .next) { s₂ with heap := h, toks := tk })
    (hf : ∀ env x, foldedSetIterable iter2 env x = pure x := by intro _ _; rfl) :
    wpAny (model prog w) A (newList []) (fun acc s₃ => wpAny (model prog w) A (newFunctionEnv scope env.globals cl [] env.qual none .none (some env)) (fun cenv s₄ =>
      codeAny (model prog w) A (.compStart (.ListComp elt [⟨.Name x px, iter, [], 0⟩, ⟨.Name y py, iter2, [], 0⟩] scope pos) 0 (.ref I) acc { cenv with scope := relabel scope env }) (RR acc cenv.locals) s₄) E s₃) E s₂ := by
  refine wpAny_newObj_type (wpAny_newFunctionEnv hcell (by intro y hy; simp at hy) (fun h₁ hns₁ hsb₁ => ?_) hkind)
  dsimp only at hns₁ hsb₁ ⊢
  generalize hH2 : s₂.heap.push { cls := .type "list", dict := none, data := .seq ([] : List Value).toArray } = H2 at hns₁ hsb₁ ⊢
  have hC : H2.objs.size = s₂.heap.objs.size + 1 := by rw [← hH2, Heap.size_push]
  have hDC : s₂.heap.objs.size ≠ H2.objs.size := by rw [hC]; exact Nat.ne_of_lt (Nat.lt_succ_self _)
  have below : ∀ b, b < s₂.heap.objs.size → b ≠ H2.objs.size ∧ b ≠ s₂.heap.objs.size := fun b hb => ⟨by rw [hC]; exact Nat.ne_of_lt (Nat.lt_succ_of_lt hb), Nat.ne_of_lt hb⟩
  have old : ∀ b o, s₂.heap.get? b = some o → h₁.get? b = some o := fun b o e => hsb₁.extBut b o (below b (Heap.lt_size e)).1 (Heap.get?_push_of_some _ (hH2 ▸ Heap.get?_push_of_some _ e))
  have hacc : h₁.get? s₂.heap.objs.size = some (lst []) := hsb₁.extBut _ _ hDC (Heap.get?_push_of_some _ (hH2 ▸ Heap.get?_push_size _ rfl))
  have hst₁ : h₁.IsListIter I ax0 0 := hst.at fun o e => old I o e
  have fresh : ∀ a, s₂.heap.objs.size ≤ a → s₂.heap.get? a = none := fun a ha => by
    cases e : s₂.heap.get? a with
    | none => rfl
    | some o' => exact absurd (Heap.lt_size e) (Nat.not_lt.mpr ha)
  have fresh₀ : ∀ a, s₂.heap.objs.size ≤ a → h₀.get? a = none := fun a ha => by
    cases e : h₀.get? a with
    | none => rfl
    | some o' => have := F.keep a o' e; rw [fresh a ha] at this; cases this
  have hD₀ : h₀.get? s₂.heap.objs.size = none := fresh₀ _ (Nat.le_refl _)
  have hC₀ : h₀.get? H2.objs.size = none := fresh₀ _ (by rw [hC]; exact Nat.le_succ _)
  have hLlt : L < s₂.heap.objs.size := F.ns.lt
  have hDL : s₂.heap.objs.size ≠ L := Ne.symm (below L hLlt).2
  have hCL : H2.objs.size ≠ L := Ne.symm (below L hLlt).1
  have hCI : I ≠ H2.objs.size := (below I hIlt).1
  have hDI : I ≠ s₂.heap.objs.size := (below I hIlt).2
  have off₀ : Off3 I H2.objs.size s₂.heap.objs.size news := Off3.of fun p hp => ⟨off p hp, (below _ (Heap.lt_size (N p hp).1)).1, (below _ (Heap.lt_size (N p hp).1)).2⟩
  have W := Walks.list (prog := prog) (w := w) hh I ax0 (off _ hm0) its0
  have listOf' : ∀ {h : Heap} {l : Led}, News h₀ L h l → (ax0, ({ cls := .type "list", data := .seq its0 k0 } : Obj)) ∈ l → h.IsList ax0 its0 := fun N hm => ⟨_, (N _ hm).1, rfl, _, rfl⟩
  have loop : ∀ s₃ : Shared, s₃ = { s₂ with heap := h₁, toks := s₂.toks + ([] : List (Str × Value)).length } →
      codeAny (model prog w) A (.compLoop (.ListComp elt [⟨.Name x px, iter, [], 0⟩, ⟨.Name y py, iter2, [], 0⟩] scope pos) 0 (.ref I) (.ref s₂.heap.objs.size) (compEnvC scope cl H2.objs.size env))
        (RR (.ref s₂.heap.objs.size) H2.objs.size) s₃ := by
    rintro s₃ rfl
    refine two_loop0
      (fun k s' => ∃ h' tk i ys m' news', s' = { s₂ with heap := h', toks := tk } ∧ i ≤ its0.size ∧ k = its0.size + 1 - i ∧ ys.length = 2 * i ∧ h'.IsListIter I ax0 i ∧ Fr h₀ L h' m ∧ h'.Ns H2.objs.size m' ∧ News h₀ L h' ((s₂.heap.objs.size, lst ys) :: news') ∧
        Off3 I H2.objs.size s₂.heap.objs.size news' ∧ (∀ p ∈ news, p ∈ news') ∧ J i ys news') ?_ (its0.size + 1)
      ⟨h₁, _, 0, [], _, news, rfl, Nat.zero_le _, rfl, rfl, hst₁, F.keeps old, hns₁, fun p hp => ?_, off₀, fun _ h => h, hJ0⟩ (hf := hf _)
    · rintro k s' E₁ RE ⟨h', tk, i, ys, m', news', rfl, hi, rfl, hyl, hst', F', hn', N', off', sub', J'⟩
      have hl' : h'.IsList ax0 its0 := listOf' N' (List.mem_cons_of_mem _ (sub' _ hm0))
      by_cases hlt : i < its0.size
      · refine W.item i _ _ _ hlt ⟨hst', hl'⟩ fun v h₂ tk₂ hPv hst₂ hk₂ => ?_
        refine wpAny_assign_Name (wpAny_storeName_local (lookup_relabel_local hx) (hn'.at' fun o e => hk₂ _ o (by simpa using Ne.symm hCI) e) (fun h₃ hn₃ hs₃ => ?_) (by simp [compEnvC, relabel, hkind]))
        obtain ⟨oI, heI2, hIr⟩ := hst₂.1
        have heI : h₃.get? I = some oI := hs₃.extBut _ _ hCI heI2
        obtain ⟨oC, heC, hoC⟩ := ns_obj hn₃
        have F₃ : Fr h₀ L h₃ m := (fr_but F' hk₂ hIL hI₀).change hs₃ hCL hC₀
        have off3 := off'.mem
        have N₂ : News h₀ L h₂ ((s₂.heap.objs.size, lst ys) :: news') := news_but N' hk₂ fun p hp => by
          rcases List.mem_cons.mp hp with rfl | hp
          · exact Ne.symm hDI
          · exact (off3 p hp).1
        have N₃ : News h₀ L h₃ ((I, oI) :: (H2.objs.size, oC) :: (s₂.heap.objs.size, lst ys) :: news') := fun p hp => by
          rcases List.mem_cons.mp hp with rfl | hp
          · exact ⟨heI, Ne.symm hIL, hI₀⟩
          · rcases List.mem_cons.mp hp with rfl | hp
            · exact ⟨heC, hCL, hC₀⟩
            · have z := N₂ p hp
              refine ⟨hs₃.extBut _ _ ?_ z.1, z.2⟩
              rcases List.mem_cons.mp hp with rfl | hp
              · exact hDC
              · exact (off3 p hp).2.1
        refine wpAny_mono (src i v ys news' oI oC H2.objs.size s₂.heap.objs.size _ h₃ _ E₁ hPv J' sub' hoC (by simp) F₃ N₃ off' ⟨hCI, hDI, Ne.symm hDC⟩) (fun xv s₄ h₄ => ?_) fun _ _ e => e
        obtain ⟨ax, its, k2, h₄, tk₄, nx₄, K, rfl, rfl, hits, hax, F₄, N₄, off₄, sub₄, hK, step, hKJ⟩ := h₄
        have htup : h₄.IsTuple ax its := ⟨_, (N₄ _ (List.mem_cons_of_mem _ (List.mem_cons_of_mem _ (List.mem_cons_of_mem _ hax)))).1, rfl, _, rfl⟩
        refine wpAny_pyIter_tuple htup ?_
        have up : ∀ b o, h₄.get? b = some o → (h₄.push { cls := .type "tuple_iterator", data := .fields #[.ref ax, .int 0 0] }).get? b = some o := fun b o e => Heap.get?_push_of_some _ e
        have zI := N₄ (I, oI) List.mem_cons_self
        have zC := N₄ (H2.objs.size, oC) (List.mem_cons_of_mem _ List.mem_cons_self)
        have zD := N₄ (s₂.heap.objs.size, lst ys) (List.mem_cons_of_mem _ (List.mem_cons_of_mem _ List.mem_cons_self))
        have N₄' : News h₀ L h₄ nx₄ := fun p hp => N₄ p (List.mem_cons_of_mem _ (List.mem_cons_of_mem _ (List.mem_cons_of_mem _ hp)))
        have hnx := next_is_new F₄
        refine inner_2 (I := I) (I2 := h₄.objs.size) (oI := oI) (nw := nx₄) K hh hkind hy ⟨_, Heap.get?_push_size _ rfl, rfl, rfl⟩ hax (F₄.keeps up) ((hoC.ns zC.1).at' fun o e => up _ _ e) (fun p hp => ?_) off₄ (fun p hp => Nat.ne_of_lt (Heap.lt_size (N₄' p hp).1)) hCI hDI (Ne.symm hDC)
          (Nat.ne_of_gt (Heap.lt_size zI.1)) (Nat.ne_of_gt (Heap.lt_size zC.1)) (Nat.ne_of_gt (Heap.lt_size zD.1)) (Nat.ne_of_gt F₄.ns.lt) hnx hCL hC₀ (by rw [hyl, hits]; omega) hK (step _ _) ?_
        · rcases List.mem_cons.mp hp with rfl | hp
          · exact ⟨up _ _ zI.1, zI.2⟩
          · rcases List.mem_cons.mp hp with rfl | hp
            · exact ⟨up _ _ zD.1, zD.2⟩
            · exact ⟨up _ _ (N₄' p hp).1, (N₄' p hp).2⟩
        · intro h₅ tk₅ ys₅ nw₅ mC₅ F₅ hn₅ N₅ off₅ sub₅ hK₅ hyl₅
          have zI5 := N₅ (I, oI) List.mem_cons_self
          exact ⟨its0.size + 1 - (i + 1), by omega, h₅, tk₅, i + 1, ys₅, mC₅, nw₅, rfl, hlt, rfl, by rw [hyl₅, hyl, hits]; omega, ⟨oI, zI5.1, hIr⟩, F₅, hn₅, fun p hp => N₅ p (List.mem_cons_of_mem _ hp), off₅, fun p hp => sub₅ p (sub₄ p (sub' p hp)), hKJ _ _ hK₅⟩
      · obtain rfl : i = its0.size := Nat.le_antisymm hi (Nat.not_lt.mp hlt)
        refine W.done _ _ _ ⟨hst', hl'⟩ fun h₂ tk₂ hk₂ => ?_
        have off3 := off'.mem
        exact hRR _ _ h₂ tk₂ _ ys news' (fr_but F' hk₂ hIL hI₀) (news_but N' hk₂ fun p hp => by
          rcases List.mem_cons.mp hp with rfl | hp
          · exact Ne.symm hDI
          · exact (off3 p hp).1) off'.one (hn'.at' fun o e => hk₂ _ o (by simpa using Ne.symm hCI) e) hC₀ hD₀ hCL hDL (Ne.symm hDC) (fun p hp => (off3 p hp).2.1) sub' J'
    · rcases List.mem_cons.mp hp with rfl | hp
      · exact ⟨hacc, hDL, hD₀⟩
      · exact ⟨old _ _ (N p hp).1, (N p hp).2⟩
  exact codeAny_compStart_list (loop _ rfl) (W.self 0 _ _ _ ⟨hst₁, listOf' (fun p hp => ⟨old _ _ (N p hp).1, (N p hp).2⟩) hm0⟩ (loop _ rfl))
end
section
open PySem.Calls PySem.Spec LCg
variable {prog : Program} {w : World} {A : Around} {E : Value → Shared → Prop} {s : Shared} {h₀ : Heap} {L : Addr} {m : Str → Option Value} {env : Env}
def CompSrc2 (prog : Program) (w : World) (A : Around) (h₀ : Heap) (L : Addr) (m : Str → Option Value) (env : Env) (elt iter2 : Expr) (x y : Str) (scope : Scope) (cl : List (Str × Addr)) (Fin : Shared → List Value → Led → Prop) (xv : Value) (s₁ : Shared) : Prop :=
  ∃ ax its k0 news, ∃ J : Nat → List Value → Led → Prop, xv = .ref ax ∧ A.handled = none ∧ Fr h₀ L s₁.heap m ∧ News h₀ L s₁.heap news ∧ (ax, ({ cls := .type "list", data := .seq its k0 } : Obj)) ∈ news ∧ 2 * its.size ≤ sizeLine ∧ J 0 [] news ∧
    (∀ (s₂ : Shared) i v ys nx I oI oC C D mC h tk (E' : Value → Shared → Prop), (∃ h tk, s₂ = { s₁ with heap := h, toks := tk }) → its[i]? = some v → J i ys nx → (∀ p ∈ news, p ∈ nx) → NsObj oC mC → mC x = some v → Fr h₀ L h m → News h₀ L h ((I, oI) :: (C, oC) :: (D, lst ys) :: nx) → Off3 I C D nx → ((@Ne Nat I C) ∧ (@Ne Nat I D) ∧ (@Ne Nat C D)) →
      wpAny (model prog w) A (eval iter2 (compEnvC scope cl C env)) (Src2 prog w A h₀ L m env elt y scope cl I C D oI oC ys nx (J (i + 1)) { s₂ with heap := h, toks := tk }) E' { s₂ with heap := h, toks := tk }) ∧
    (∀ g ys nw, (∀ p ∈ news, p ∈ nw) → J its.size ys nw → Fin { s₁ with heap := g } ys nw)
theorem Assign_two {elt iter iter2 : Expr} {x y z : Str} {px py pz pos spos : Pos} {scope : Scope} {cl : List (Str × Addr)} {Q : Flow → Shared → Prop} (F₀ : Fr h₀ L s.heap m) (hLe : env.locals = L)
    (hsw : swapsWith (.ListComp elt [⟨.Name x px, iter, [], 0⟩, ⟨.Name y py, iter2, [], 0⟩] scope pos) (some (.Name z pz)) spos.line env = pure true)
    (hclos : closureFor scope env = pure cl) (hcell : ∀ z ∈ scope.names, z.2 ≠ .cell) (hkind : scope.kind = .function)
    (hnames : ∀ z ∈ scope.names, z.2 = .local → scope.names.lookup z.1 = some .local) (hx : scope.names.lookup x = some .local) (hy : scope.names.lookup y = some .local)
    (hz : env.kindOf z = some .local) (hp : (env.scope.kind == .class || (env.scope.kind == .module && env.locals != env.globals)) = false)
    (h : wpAny (model prog w) A (eval iter env) (CompSrc2 prog w A h₀ L m env elt iter2 x y scope cl (fun s₂ => FinA h₀ L m s₂ z Q)) E s)
    (hs : ∀ x, foldedSetIterable iter env x = pure x := by intro _; rfl) (hf : ∀ env x, foldedSetIterable iter2 env x = pure x := by intro _ _; rfl) :
    wpAny (model prog w) A (exec (.Assign [.Name z pz] (.ListComp elt [⟨.Name x px, iter, [], 0⟩, ⟨.Name y py, iter2, [], 0⟩] scope pos) spos) env) Q E s := by
  subst hLe
  rw [exec_Assign_Name_used _ _ _ _ hsw]
  refine wpAny_bind (wpAny_standAt (wpAny_bind ?_))
  show wpAny _ A (do let _ ← comprehension (.ListComp elt [⟨.Name x px, iter, [], 0⟩, ⟨.Name y py, iter2, [], 0⟩] scope pos) scope env _ (newList []) false (eval iter env) (some (assign (.Name z pz) env))) _ _ s
  refine wpAny_bind (wpAny_mono (wpAny_comprehension_free (use := some (assign (.Name z pz) env)) (Q := fun _ s' => Q .next s') rfl hs hclos hkind hnames
    (wpAny_mono h (fun xv s₁ h₁ => ?_) fun _ _ e => e)) (fun _ s' hq => wpAny_pure (wpAny_pure hq)) fun _ _ e => e)
  obtain ⟨ax, its, k0, news, J, rfl, hh, F, N, hm0, hsz, hJ0, src, fin⟩ := h₁
  have hl : s₁.heap.IsList ax its := ⟨_, (N _ hm0).1, rfl, _, rfl⟩
  refine wpAny_pyIter_list hl ?_
  have up : ∀ b o, s₁.heap.get? b = some o → (s₁.heap.push { cls := .type "list_iterator", data := .fields #[.ref ax, .int 0 0] }).get? b = some o := fun b o e => Heap.get?_push_of_some _ e
  refine block_2 J hh hcell hkind hx hy ⟨_, Heap.get?_push_size _ rfl, rfl, rfl⟩ hm0 (by rw [Heap.size_push]; exact Nat.lt_succ_self _) (F.keeps up) (N.grown up) (Nat.ne_of_lt F.ns.lt) (next_is_new F) (fun p hp => Nat.ne_of_lt (Heap.lt_size (N p hp).1)) hsz hJ0
    (fun i v ys nx oI oC C D mC h tk E' => src _ i v ys nx _ oI oC C D mC h tk E' ⟨_, _, rfl⟩) ?_ hf
  intro D C h' tk m' ys news' F' N' o1 hn hC₀ hD₀ hCL hDL hCD offC sub' hJ
  show wpAny _ A (assign (.Name z pz) env (.ref D)) _ _ _
  refine wpAny_assign_Name (wpAny_storeName_local hz F'.ns (fun h₂ hn₂ hs₂ => ?_) hp)
  have hL₀ : h₀.get? env.locals = none := Heap.get?_none_of_le F'.above
  have F₂ : Fr h₀ env.locals h₂ (fun y => if y = z then some (.ref D) else m y) := ⟨hn₂, fun b o e => hs₂.extBut b o (fun q => by rw [q, hL₀] at e; cases e) (F'.keep b o e), F'.above⟩
  refine ⟨m', hn.sameBut hs₂ hCL, fun h'' hs'' => fin s₁.heap ys news' sub' hJ D h'' _ (F₂.change hs'' hCL hC₀) (fun p hp => ?_) o1⟩
  have z : h₂.get? p.1 = some p.2 := hs₂.extBut _ _ (N' p hp).2.1 (N' p hp).1
  refine ⟨hs''.extBut _ _ ?_ z, (N' p hp).2⟩
  rcases List.mem_cons.mp hp with rfl | hp
  · exact Ne.symm hCD
  · exact offC p hp
end
/-! fields sent with a comma behind each -/
def rowsOf (fs : List (List UInt8)) : List Row := fs.flatMap fun f => [(f, none), ([44], none)]
def joinF (fs : List (List UInt8)) : List UInt8 := fs.flatMap fun f => f ++ [44]
theorem rowsOf_sent (fs : List (List UInt8)) : (rowsOf fs).flatMap (fun r => sentPart r.1 r.2) = joinF fs := by
  unfold rowsOf joinF
  induction fs with
  | nil => rfl
  | cons f fs ih =>
    rw [List.flatMap_cons, List.flatMap_cons, List.flatMap_append, ih]
    simp [sentPart]
theorem liesAt_in {pre post : List UInt8} {c : UInt8} : liesAt (pre ++ c :: post) [44] ((pre.length : Nat) : Int) = (c == 44) := by
  have h : cutI (pre ++ c :: post) (some ((pre.length : Nat) : Int)) (some (((pre.length : Nat) : Int) + 1)) = [c] := by
    unfold cutI
    simp only [Option.elim, List.length_append, List.length_cons]
    rw [show clipAt (pre.length + (post.length + 1)) ((pre.length : Nat) : Int) = pre.length by unfold clipAt; split <;> omega, show clipAt (pre.length + (post.length + 1)) (((pre.length : Nat) : Int) + 1) = pre.length + 1 by unfold clipAt; split <;> omega]
    rw [List.drop_append_of_le_length (Nat.le_refl _), List.drop_length, List.nil_append, Nat.add_sub_cancel_left]
    rfl
  unfold liesAt
  show (cutI _ (some _) (some (((pre.length : Nat) : Int) + ((1 : Nat) : Int))) == [44]) = _
  rw [show (((pre.length : Nat) : Int) + ((1 : Nat) : Int)) = ((pre.length : Nat) : Int) + 1 by omega, h]
  cases hc : c == 44 with
  | true => rw [eq_of_beq hc]; rfl
  | false =>
    rw [beq_eq_false_iff_ne]
    intro e
    rw [List.cons.inj e |>.1] at hc
    cases hc
theorem firstFrom_field (f : List UInt8) : ∀ (pre post : List UInt8) (k : Nat), (44 : UInt8) ∉ f → f.length < k → firstFrom (pre ++ (f ++ 44 :: post)) [44] k ((pre.length : Nat) : Int) = ((pre.length : Nat) : Int) + (f.length : Nat) := by
  induction f with
  | nil =>
    intro pre post k _ hk
    obtain ⟨j, rfl⟩ : ∃ j, k = j + 1 := ⟨k - 1, by simp at hk; omega⟩
    rw [firstFrom, List.nil_append, liesAt_in]
    simp
  | cons c f ih =>
    intro pre post k hn hk
    obtain ⟨j, rfl⟩ : ∃ j, k = j + 1 := ⟨k - 1, by simp at hk; omega⟩
    have hc : (c == 44) = false := beq_eq_false_iff_ne.mpr fun e => hn (e ▸ List.mem_cons_self)
    rw [firstFrom, List.cons_append, liesAt_in, hc, if_neg Bool.false_ne_true]
    have := ih (pre ++ [c]) post j (fun h => hn (List.mem_cons_of_mem _ h)) (by simp at hk; omega)
    rw [List.append_assoc] at this
    simp only [List.length_append, List.length_cons, List.length_nil, List.singleton_append] at this ⊢
    rw [show ((pre.length : Nat) : Int) + 1 = ((pre.length + (0 + 1) : Nat) : Int) by omega, this]
    omega
theorem nextPiece_field {f pre post : List UInt8} (hn : (44 : UInt8) ∉ f) : nextPiece (pre ++ (f ++ 44 :: post)) ((pre.length : Nat) : Int) = (f, [44], ((pre.length : Nat) : Int) + (f.length : Nat) + 1) := by
  have h : firstAt (pre ++ (f ++ 44 :: post)) [44] ((pre.length : Nat) : Int) = ((pre.length : Nat) : Int) + (f.length : Nat) := by
    unfold firstAt
    exact firstFrom_field f pre post _ hn (by simp; omega)
  unfold nextPiece
  rw [h, if_neg (by omega)]
  refine Prod.ext ?_ rfl
  simp only
  unfold cutI
  simp only [Option.elim, List.length_append, List.length_cons]
  rw [show clipAt (pre.length + (f.length + (post.length + 1))) ((pre.length : Nat) : Int) = pre.length by unfold clipAt; split <;> omega, show clipAt (pre.length + (f.length + (post.length + 1))) (((pre.length : Nat) : Int) + (f.length : Nat)) = pre.length + f.length by unfold clipAt; split <;> omega]
  rw [List.drop_append_of_le_length (Nat.le_refl _), List.drop_length, List.nil_append, Nat.add_sub_cancel_left, List.take_append_of_le_length (Nat.le_refl _), List.take_length]
theorem unstr_fields (fs : List (List UInt8)) : ∀ (pre : List UInt8), (∀ f ∈ fs, (44 : UInt8) ∉ f) → unstrF (pre ++ joinF fs) fs.length ((pre.length : Nat) : Int) = (fs.map fun f => (f, [44]), (((pre ++ joinF fs).length : Nat) : Int)) := by
  induction fs with
  | nil => intro pre _; simp [unstrF, joinF]
  | cons f fs ih =>
    intro pre hn
    have e : joinF (f :: fs) = f ++ 44 :: joinF fs := by simp [joinF]
    have hlen : ((pre.length : Nat) : Int) < (((pre ++ (f ++ 44 :: joinF fs)).length : Nat) : Int) := by simp; omega
    rw [e, List.length_cons, unstrF, if_pos hlen, nextPiece_field (hn f List.mem_cons_self)]
    have := ih (pre ++ (f ++ [44])) (fun g hg => hn g (List.mem_cons_of_mem _ hg))
    rw [show pre ++ (f ++ [44]) ++ joinF fs = pre ++ (f ++ 44 :: joinF fs) by simp] at this
    simp only [List.length_append, List.length_cons, List.length_nil] at this ⊢
    rw [show ((pre.length : Nat) : Int) + (f.length : Nat) + 1 = ((pre.length + (f.length + (0 + 1)) : Nat) : Int) by omega, this]
    rfl
theorem joinF_length (fs : List (List UInt8)) : (joinF fs).length = (fs.map fun f => f.length + 1).sum := by
  unfold joinF
  rw [List.length_flatMap]
  simp
theorem back_strung (fs : List (List UInt8)) (h : fs ≠ []) : strungF (rowsOf fs) (List.replicate (joinF fs).length 32) 1 = (joinF fs, (((joinF fs).length : Nat) : Int) + 1, false) := by
  have hl : 1 ≤ (joinF fs).length := by
    cases fs with
    | nil => exact absurd rfl h
    | cons f fs => simp [joinF]; omega
  rw [strungF_eq (by omega) (by rw [List.length_replicate]; omega), rowsOf_sent, List.length_replicate]
  have e : ((1 : Int) - 1).toNat = 0 := rfl
  rw [e]
  refine Prod.ext ?_ (Prod.ext ?_ ?_)
  · simp only [overlay, List.length_replicate, List.take_zero, List.nil_append, Nat.sub_zero, List.take_length, Nat.zero_add, Nat.min_self]
    rw [List.drop_of_length_le (by simp)]
    simp
  · simp; omega
  · simp
theorem back_unstr (fs : List (List UInt8)) (hn : ∀ f ∈ fs, (44 : UInt8) ∉ f) : unstrF (joinF fs) fs.length 0 = (fs.map fun f => (f, [44]), (((joinF fs).length : Nat) : Int)) := unstr_fields fs [] hn
section
local macro_rules | `(tactic| walk_at "call ref") => `(tactic| (k_here; k_dflt (refine' (strung_spec ?c1 ?c2 ?c3 ?c4).useBIBD ?k1 ?k2 ?k3 ?k4 ?k5 ?kF ?kK ?kd ?ku ?_); walk_at "MyUse"; (case c1 => walk_at "MyDat"); (case c2 => walk_at "MyOk"); (case c3 => walk_at "Small"); (case c4 => omega); k_whole; intro _ _ _ _ _ _ _ F' N' _ _ _; (try dsimp only)))
local macro_rules | `(tactic| walk_at "call ref") => `(tactic| (k_here; k_dflt (refine' (draw_spec (Pen.mk ?c1 ?c2) ?c3 ?c4 ?c5 ?c6).use ?k1 ?k2 ?k3 (Front.drop ?k4 ?fr) ?k5 ?kF ?kK ?kd ?ku ?_); walk_at "MyUseP"; k_whole; intro _ _ _ _ F' N' hpost; (try dsimp only at hpost); (obtain ⟨⟨_, _, hre, _, _⟩, _, _, _, _, _, hne, _, _⟩ := hpost); (subst hre); (subst hne); (try dsimp only)))
local macro_rules | `(tactic| walk_at "call ref") => `(tactic| (k_here; k_dflt (refine' (pick_bytes_spec (Pen.mk ?c1 ?c2) ?c3 ?c4 ?c5 ?c6).use ?k1 ?k2 ?k3 (Front.drop ?k4 ?fr) ?k5 ?kF ?kK ?kd ?ku ?_); walk_at "MyUseP"; k_whole; intro _ _ _ _ F' N' hpost; (try dsimp only at hpost); (obtain ⟨⟨_, _, hre, _⟩, _, _, _, _, _, hne, _, _⟩ := hpost); (subst hre); (subst hne); (try dsimp only)))
local macro_rules | `(tactic| walk_at "call ref") => `(tactic| (k_here; k_dflt (refine' (text_spec (Pen.mk ?c1 ?c2) ?c3 ?c4 ?c5 ?c6 ?c7 ?c8).use ?k1 ?k2 ?k3 (Front.drop ?k4 ?fr) ?k5 ?kF ?kK ?kd ?ku ?_); (case c7 | c8 => omega); walk_at "MyUseP"; k_whole; intro _ _ _ _ F' N' hpost; (try dsimp only at hpost); (obtain ⟨⟨_, _, hre, _, _⟩, _, _, _, _, _, hne, _, _⟩ := hpost); (subst hre); (subst hne); (try dsimp only)))
local macro_rules | `(tactic| walk_at "exec Assign cons ListComp") => `(tactic| (k_here; (with_reducible show wpAny _ _ (exec (Stmt.Assign _ (Expr.ListComp _ [Comprehension.mk _ _ [] _, Comprehension.mk _ _ [] _] _ _) _) _) _ _ _); k_dflt (refine Assign_two (F₀ := by k_asm) (by rfl) (by with_unfolding_all rfl) (by with_unfolding_all rfl) (by decide) (by rfl) (by decide) (by rfl) (by rfl) (by rfl) (by rfl) ?_)))
local macro_rules | `(tactic| walk_at "Small") => `(tactic| first | omega | (simp only [List.length_append, cutI_length, List.length_cons, List.length_nil, List.length_replicate]; omega))
local macro_rules | `(tactic| walk_at "subscriptTail") => `(tactic| (k_here; (with_reducible show wpAny _ _ (subscriptTail _ (Expr.Slice (some _) none none _) (Value.ref _) (Value.ref _)) _ _ _); k_dflt (refine' tail_M (s := ⟨_, _, _, _, _⟩) ?hF ?hN ?hm ?_; (case hF | hN => k_asm); (case hm => first | assumption | k_mem)); intro _ _ F' N'))
local macro_rules | `(tactic| walk_at "compareOp NotEq ref ref") => `(tactic| ((with_reducible show wpAny _ _ (compareOp CmpOp.NotEq (Value.ref _) (Value.ref _)) _ _ _); refine Stop.out ?_))
local macro_rules | `(tactic| walk_at "compareOp Eq ref ref") => `(tactic| ((with_reducible show wpAny _ _ (compareOp CmpOp.Eq (Value.ref _) (Value.ref _)) _ _ _); refine Stop.out ?_))
local macro_rules | `(tactic| walk_at "call ref") => `(tactic| (k_here; k_dflt (refine' (unstrung_spec ?c1 ?c2 ?c3 ?c4 ?c5).useD ?k1 ?k2 ?k3 ?k4 ?k5 ?kF ?kK ?kd ?ku ?_); walk_at "MyUse"; (case c1 => walk_at "MyDatB"); (case c2 | c3 | c4 | c5 => omega); k_whole; intro _ _ _ _ F' N' _ _; (try dsimp only)))
def bytesD (b : List UInt8) : Dat := .bytes b.toArray
theorem fs_dat {news news' : Led} : ∀ {vs : List Value} {bs : List (List UInt8)}, DatAll news vs (bs.map bytesD) → DatAll news' vs (bs.map bytesD)
  | _, [], h => by rw [dat_nil h]; exact .nil
  | _, n :: ns, h => by
    obtain ⟨v, r, rfl, h1, h2⟩ := dat_cons h
    obtain ⟨t, rfl⟩ := dat_bytes h1
    exact .cons (.bytes _ _) (fs_dat h2)
def FieldsOk (fs : List (List UInt8)) : Prop := ∀ f ∈ fs, f.length ≤ 4 ∧ (44 : UInt8) ∉ f
theorem join_le (fs : List (List UInt8)) (h : FieldsOk fs) : (joinF fs).length ≤ 5 * fs.length := by
  induction fs with
  | nil => simp [joinF]
  | cons f fs ih =>
    have h1 := ih fun g hg => h g (List.mem_cons_of_mem _ hg)
    have h2 := (h f List.mem_cons_self).1
    have e : (joinF (f :: fs)).length = f.length + 1 + (joinF fs).length := by simp [joinF]; omega
    rw [e, List.length_cons]
    omega
theorem rowsOf_ok (fs : List (List UInt8)) (h : FieldsOk fs) : ∀ r ∈ rowsOf fs, RowOk r := by
  intro r hr
  unfold rowsOf at hr
  obtain ⟨f, hf, hr⟩ := List.mem_flatMap.mp hr
  have hf4 := (h f hf).1
  simp only [List.mem_cons, List.not_mem_nil, or_false] at hr
  rcases hr with rfl | rfl
  · exact ⟨by simp only; omega, fun d e => nomatch e⟩
  · exact ⟨by simp, fun d e => nomatch e⟩
theorem sum_join (fs : List (List UInt8)) : (fs.map fun f => ((f.length : Nat) : Int) + 1).sum = (((joinF fs).length : Nat) : Int) := by
  induction fs with
  | nil => rfl
  | cons f fs ih =>
    rw [List.map_cons, List.sum_cons, ih]
    simp [joinF]
    omega
theorem rep_flat (k : Nat) : (List.replicate k [(32 : UInt8)]).flatten = List.replicate k 32 := by
  induction k with
  | zero => rfl
  | succ k ih => rw [List.replicate_succ, List.flatten_cons, ih]; rfl
theorem tail_M {prog : Program} {w : World} {A : Around} {E : Value → Shared → Prop} {s : Shared} {h₀ : Heap} {L : Addr} {m : Str → Option Value} {news : Led} {t : Addr} {a b c : Value} {k : Nat} {u : Tok} {value slice : PySem.Expr} {Q : Value → Shared → Prop} (F : Fr h₀ L s.heap m) (N : News h₀ L s.heap news)
    (hm : (t, ({ cls := .type "tuple", data := .seq [a, b, c].toArray k } : Obj)) ∈ news)
    (h : ∀ a' h', Fr h₀ L h' m → News h₀ L h' ((a', ({ cls := .type "tuple", data := .seq [b, c].toArray 0 } : Obj)) :: news) → Q (.ref a') { s with heap := h' })
    (hs : subscripted slice false (.ref t) (.ref s.heap.objs.size) = operate [.ref s.heap.objs.size, .ref t] (getItem (.ref t) (.ref s.heap.objs.size)) := by with_unfolding_all rfl)
    (hg : ∀ r, letTemporaryGo value (.ref t) r = pure () := by intro _; with_unfolding_all rfl) :
    wpAny (model prog w) A (subscriptTail value slice (.ref t) (.ref s.heap.objs.size)) Q E { s with heap := s.heap.push { cls := .type "slice", data := .fields #[.int 1 u, .none, .none] } } :=
  slice_tuple_from (a := 1) F N ⟨_, (N _ hm).1, rfl, _, rfl⟩ (by omega) (by simp) (fun h' F' N' => h _ h' F' N') hs hg (fits_of (by simp))
theorem mul_sp {prog : Program} {w : World} {A : Around} {E : Value → Shared → Prop} {s : Shared} {n : Int} {k : Nat} {t u : Tok} {Q : Value → Shared → Prop} (hn : n = ((k : Nat) : Int)) (hk : k ≤ 1000) (h : ∀ t' q, Q (.bytes (List.replicate k 32).toArray t') { s with toks := q }) :
    wpAny (model prog w) A (binaryOp .Mult (.bytes [32].toArray t) (.int n u)) Q E s := by
  subst hn
  refine bytes_mul_any (by simp) (by omega) (by omega) (by simp) fun t' q => ?_
  have e : (List.replicate ((k : Nat) : Int).toNat [(32 : UInt8)]).flatten = List.replicate k 32 := by
    rw [Int.toNat_natCast]
    exact rep_flat k
  rw [e]
  exact h t' q
theorem piece_deps (fs : List (List UInt8)) : dDeps (fs.map fun f => pieceD (f, [44])) ≤ 1 := by
  induction fs with
  | nil => decide
  | cons f fs ih =>
    rw [List.map_cons, dDeps]
    refine Nat.max_le.mpr ⟨?_, ih⟩
    unfold pieceD
    rw [dDep]
    exact Nat.le_of_ble_eq_true rfl
theorem back_dep (fs : List (List UInt8)) (z : Int) : dDeps [Dat.list (fs.map fun f => pieceD (f, [44])), .int z, .bool false] ≤ 2 := by
  have h := piece_deps fs
  simp only [dDeps, dDep]
  omega
theorem back_spec {w : World} {pa ca : Addr} {rest news : Led} {K : Int} (hp : Pen pa ca K rest news) (hc : Cel pa ca rest) (hK : K ≤ 900) :
    Spec w 30 171 [.ref pa] news (fun r nx => r = .bool true ∧ Pen pa ca (K + 30) rest nx) := by
  unfold Spec
  intro mean mg mb dp un gd env outer A₀ base h₀ L m s Q E B F X N T hf hk hd hu hret
  obtain ⟨k, c, t0, u, n, rfl, hk0, hk1⟩ := hp
  w_top off
  refine wpAny_call ?_
  k_dflt (walk_at "MyEnterC")
  intro g' L' h' tk0 cells' FG' F' N' Y' B' X' T' l1
  k_cells Y'
  have hpa : @LT.lt Nat _ pa L' := l1 _ List.mem_cons_self
  simp only [List.cons_append, List.nil_append] at N'
  try dsimp only
  try k_fold
  k_steps
  unfold Stop
  rename_i o1 d1 hx1 tkx F1 d td hd0 hd1 k1 cc1 tt1 tt2 nn1 hk10 hk11 N1 hx2 tkx2 t1 u1 v1 a3 a2 a1 a0
  have a4 : News g' L' hx2 ((L' + 1, o1) :: (pa, listOf [.ref ca, .int k1 tt1, .int cc1 tt2].toArray nn1) :: rest) := cb_drop a1 (fun p hp => by
    simp only [List.mem_cons] at hp ⊢
    rcases hp with h | h | h <;> simp only [h, true_or, or_true])
  clear a1 N1 N'
  refine LCg.CompSrc.range (n := (1 + d).toNat) rfl a2 a4 a3 (small_one (by omega) (by omega) (by omega) (by omega)) (by rw [rangeSize_nat]; congr 1; omega) (fits_of (by omega)) ?_
  intro g9
  refine Lc.comp_rule (fun i ys nx => (∃ nw, nx = (L' + 1, o1) :: nw ∧ Pen pa ca (K + 1 + 5 * i) rest nw) ∧ ∃ fs : List (List UInt8), fs.length = i ∧ FieldsOk fs ∧ DatAll nx ys (fs.map bytesD)) ⟨?_, [], rfl, (fun _ h => nomatch h), .nil⟩ ?_ ?_
  · exact ⟨_, rfl, Pen.mk (by omega) (by omega)⟩
  · rintro i ys nx v I oI C oC D m₂ h tk E' hi ⟨tv, rfl⟩ ⟨⟨nw, hnx, k2, cc2, tt3, tt4, nn2, hnw, hk20, hk21⟩, fs, hbl, hbm, hys⟩ hn hx F₁ N₁ hoff hne
    subst hnw
    subst hnx
    have hI := hoff.mem (pa, _) (List.mem_cons_of_mem _ List.mem_cons_self)
    dsimp only at hI
    have hc3 : Cel pa ca ((I, oI) :: (C, oC) :: (D, LCg.lst ys) :: (L' + 1, o1) :: rest) := (((hc.cons (Nat.ne_of_gt (Nat.lt_succ_of_lt hpa))).cons (Ne.symm hI.2.2)).cons (Ne.symm hI.2.1)).cons (Ne.symm hI.1)
    k_steps
    unfold Stop
    rename_i b9 tb9 hbl9 hb9 k9 c9 t9 u9 n9 hl9 hr9 _
    refine LCg.CompEnd.intro (by k_asm) (by k_asm) ((L' + 1, o1) :: (pa, listOf [.ref ca, .int k9 t9, .int c9 u9].toArray n9) :: rest) (fun p hp => ?_) hoff trivial ⟨⟨_, rfl, Pen.mk hl9 (by omega)⟩, fs ++ [b9], by simp [hbl], fun b hb => ?_, ?_⟩
    · simp only [List.mem_cons] at hp ⊢
      rcases hp with h | h | h | h | h | h <;> simp only [h, true_or, or_true]
    · rcases List.mem_append.mp hb with hb | hb
      · exact hbm b hb
      · rw [List.mem_singleton.mp hb]
        refine ⟨by omega, fun h => ?_⟩
        have := hb9 _ h
        revert this
        decide
    · rw [List.map_append]
      exact (fs_dat hys).append (.one (.bytes _ _))
  · rintro ys nx ⟨⟨nw, hnx, k2, cc2, tt3, tt4, nn2, hnw, hk20, hk21⟩, fs, hbl, hbm, hys⟩
    subst hnw
    subst hnx
    intro D h tk F₁ N₁ hoff
    dsimp only
    k_steps
    refine ⟨D, ys.toArray, _, (D, LCg.lst ys) :: (L' + 1, o1) :: (pa, listOf [.ref ca, .int k2 tt3, .int cc2 tt4].toArray nn2) :: rest, fun i ys2 nx => (∀ p ∈ (D, LCg.lst ys) :: (L' + 1, o1) :: (pa, listOf [.ref ca, .int k2 tt3, .int cc2 tt4].toArray nn2) :: rest, p ∈ nx) ∧ DatAll nx ys2 ((rowsOf (fs.take i)).map rowD), rfl, rfl, by k_asm, by k_asm, List.mem_cons_self, ?_, ⟨fun _ h => h, .nil⟩, ?_, ?_⟩
    · have : ys.length = fs.length := by rw [hys.length, List.length_map]
      rw [List.size_toArray]
      exact fits_of (by omega)
    · rintro s₂ i v ys2 nx I oI oC C D2 mC h2 tk2 E' ⟨hg, tkg, rfl⟩ hv ⟨hsub, hys2⟩ hsub0 hoC hmx F2 N2 off2 hne
      obtain ⟨f, hfi, hfd⟩ := dat_get hys (i := i) (v := v) (by simpa using hv)
      obtain ⟨tf, rfl⟩ := dat_bytes hfd
      k_steps
      rename_i Da ha Fa Na la
      have e2 : fs.take (i + 1) = fs.take i ++ [f] := by rw [List.take_add_one, hfi]; rfl
      have e3 : rowsOf (fs.take (i + 1)) = rowsOf (fs.take i) ++ [(f, none), ([44], none)] := by rw [e2]; simp [rowsOf]
      refine ⟨Da, [.bytes f.toArray tf, .bytes #[44] tk2].toArray, 0, ha, _, (Da, ({ cls := .type "tuple", data := .seq [.bytes f.toArray tf, .bytes #[44] tk2].toArray 0 } : Obj)) :: nx, fun j ys3 nw => (∀ p ∈ (Da, ({ cls := .type "tuple", data := .seq [.bytes f.toArray tf, .bytes #[44] tk2].toArray 0 } : Obj)) :: nx, p ∈ nw) ∧ DatAll nw ys3 ((rowsOf (fs.take i) ++ [((f, none) : Row), ([44], none)].take j).map rowD), rfl, rfl, rfl, List.mem_cons_self, Fa, cb_drop Na ?_, ⟨⟨Nat.ne_of_gt la.1, Nat.ne_of_gt la.2.1, Nat.ne_of_gt la.2.2.1⟩, off2⟩, fun p hp => List.mem_cons_of_mem _ hp, ⟨fun _ h => h, ?_⟩, ?_, ?_⟩
      · intro p hp
        simp only [List.mem_cons] at hp ⊢
        rcases hp with h | h | h | h | h <;> simp only [h, true_or, or_true]
      · simpa using hys2.mono fun p hp => List.mem_cons_of_mem _ hp
      · intro s3 I2 j u ys3 nw oC3 oI2 mC3 h3 tk3 E3 hu hK3 hax3 hoC3 hmy3 F3 N3 off3 off4
        obtain ⟨hsub3, hys3⟩ := hK3
        rcases j with _ | _ | j
        · obtain rfl : Value.bytes f.toArray tf = u := by simpa using hu
          k_steps
          rename_i Dt ht Ft Nt lt
          refine ⟨ht, _, (Dt, ({ cls := .type "tuple", data := .seq [.bytes f.toArray tf, .none].toArray 0 } : Obj)) :: nw, rfl, Ft, cb_drop Nt ?_, ⟨⟨Nat.ne_of_gt lt.1, Nat.ne_of_gt lt.2.1, Nat.ne_of_gt lt.2.2.1⟩, off3⟩, ?_, fun p hp => List.mem_cons_of_mem _ hp, fun p hp => List.mem_cons_of_mem _ (hsub3 p hp), ?_⟩
          · intro p hp
            simp only [List.mem_cons] at hp ⊢
            rcases hp with h | h | h | h | h | h <;> simp only [h, true_or, or_true]
          · intro p hp
            rcases List.mem_cons.mp hp with rfl | hp
            · exact Nat.ne_of_gt lt.2.2.2.1
            · exact off4 p hp
          · have e5 : (rowsOf (fs.take i) ++ [((f, none) : Row), ([44], none)].take (0 + 1)).map rowD = (rowsOf (fs.take i) ++ [((f, none) : Row), ([44], none)].take 0).map rowD ++ [rowD (f, none)] := by simp
            rw [e5]
            exact (hys3.mono fun p hp => List.mem_cons_of_mem _ hp).append (.one (DatIn.tuple List.mem_cons_self (.cons (.bytes _ _) (.cons .none .nil))))
        · obtain rfl : Value.bytes #[44] tk2 = u := by simpa using hu
          k_steps
          rename_i Dt ht Ft Nt lt
          refine ⟨ht, _, (Dt, ({ cls := .type "tuple", data := .seq [.bytes #[44] tk2, .none].toArray 0 } : Obj)) :: nw, rfl, Ft, cb_drop Nt ?_, ⟨⟨Nat.ne_of_gt lt.1, Nat.ne_of_gt lt.2.1, Nat.ne_of_gt lt.2.2.1⟩, off3⟩, ?_, fun p hp => List.mem_cons_of_mem _ hp, fun p hp => List.mem_cons_of_mem _ (hsub3 p hp), ?_⟩
          · intro p hp
            simp only [List.mem_cons] at hp ⊢
            rcases hp with h | h | h | h | h | h <;> simp only [h, true_or, or_true]
          · intro p hp
            rcases List.mem_cons.mp hp with rfl | hp
            · exact Nat.ne_of_gt lt.2.2.2.1
            · exact off4 p hp
          · have e5 : (rowsOf (fs.take i) ++ [((f, none) : Row), ([44], none)].take (1 + 1)).map rowD = (rowsOf (fs.take i) ++ [((f, none) : Row), ([44], none)].take 1).map rowD ++ [rowD ([44], none)] := by simp
            rw [e5]
            exact (hys3.mono fun p hp => List.mem_cons_of_mem _ hp).append (.one (DatIn.tuple List.mem_cons_self (.cons (.bytes _ _) (.cons .none .nil))))
        · simp at hu
      · rintro ys' nw' ⟨hs', hd'⟩
        refine ⟨fun p hp => hs' p (List.mem_cons_of_mem _ (hsub p hp)), ?_⟩
        rw [e3]
        exact hd'
    · rintro g ys5 nw5 hsub5 ⟨_, hys5⟩
      have hs1 : ys.toArray.size = fs.length := by rw [List.size_toArray, hys.length, List.length_map]
      rw [hs1, List.take_length] at hys5
      have mD := hsub5 _ List.mem_cons_self
      have mP := hsub5 _ (List.mem_cons_of_mem _ (List.mem_cons_of_mem _ List.mem_cons_self))
      have hs5 : ∀ p ∈ (pa, listOf [.ref ca, .int k2 tt3, .int cc2 tt4].toArray nn2) :: rest, p ∈ nw5 := fun p hp => hsub5 p (List.mem_cons_of_mem _ (List.mem_cons_of_mem _ hp))
      clear hsub5
      intro D5 h5 tk5 F5 N5 off5
      dsimp only
      k_steps
      unfold Stop
      have hlf : fs.length ≤ 4 := by omega
      have hjl := join_le fs hbm
      have hrow : DatIn ((D5, LCg.lst ys5) :: nw5) (.ref D5) (.list ((rowsOf fs).map rowD)) := DatIn.list List.mem_cons_self (hys5.mono fun p hp => List.mem_cons_of_mem _ hp)
      have hrok := rowsOf_ok fs hbm
      refine LCg.CompSrc.ledger (its := ys.toArray) (k := ys.length) rfl (by k_asm) (by k_asm) (List.mem_cons_of_mem _ mD) (fits_of (by rw [hs1]; omega)) ?_
      intro g8
      rw [hs1]
      refine Lc.comp_rule (fun i ys6 nx => nx = (D5, LCg.lst ys5) :: nw5 ∧ IntsAre ys6 ((fs.take i).map fun f => ((f.length : Nat) : Int) + 1)) ⟨rfl, .nil⟩ ?_ ?_
      · rintro i ys6 nx v I oI C oC D6 m₂ h tk E' hi hv ⟨hnx, hys6⟩ hn hx F₁ N₁ hoff hne
        subst hnx
        obtain ⟨f, hfi, hfd⟩ := dat_get hys (i := i) (v := v) (by simpa using hv)
        obtain ⟨tf, rfl⟩ := dat_bytes hfd
        have hf4 := (hbm f (List.mem_of_getElem? hfi)).1
        k_steps
        unfold Stop
        refine LCg.CompEnd.intro (by k_asm) (by k_asm) _ (fun _ h => h) hoff (.inr ⟨_, List.mem_cons_of_mem _ mD, rfl, _, rfl⟩) ⟨rfl, ?_⟩
        rw [List.take_add_one, hfi, List.map_append]
        exact intsAre_append hys6 (.cons _ _ .nil)
      · rintro ys6 nx ⟨hnx, hys6⟩
        subst hnx
        rw [List.take_length] at hys6
        intro D6 h6 tk6 F6 N6 off6
        dsimp only
        k_steps
        refine mul_sp (sum_join fs) (by omega) ?_
        intro tm6 k6
        clear hys6
        k_steps
        rename_i ax7 tx7 ti7 kk7 tl7 h7 tk7 hnew7 hm7 hd7 h8 F8 N8
        have hne7 : fs ≠ [] := fun e => by rw [e] at hbl; simp at hbl; omega
        have hb7 := back_strung fs hne7
        have hj1 : 1 ≤ (joinF fs).length := by
          cases fs with
          | nil => exact absurd rfl hne7
          | cons f fs => simp [joinF]; omega
        rw [← sum_join fs] at hb7
        rw [hb7] at hm7 hd7
        dsimp only at hm7 hd7
        k_dflt (refine' tail_M (s := ⟨_, _, _, _, _⟩) F8 N8 hm7 ?_)
        intro aT hT FT NT
        try dsimp only
        k_steps
        unfold Stop
        k_dflt (refine' ne_same_T (ds := [.int ((fs.map fun f => ((f.length : Nat) : Int) + 1).sum + 1), .bool false]) ?k1 ?c1 ?c2 ?ku ?_; (case k1 => k_asm); (case c1 => walk_at "MyDatB"); (case c2 => walk_at "MyDatB"); (case ku => ((simp only [dDeps, dDep, Nat.max_self, Nat.max_zero, Nat.zero_max]); ktr_units)))
        k_steps
        unfold Stop
        rename_i r9 tl9 h9 tk9 F9 N9 hn9 hd9
        obtain ⟨BIG, NB, hdB, hsB⟩ : ∃ BIG, News g' L' h9 BIG ∧ DatIn BIG r9 _ ∧ (∀ p ∈ nw5, p ∈ BIG) := ⟨_, N9, hd9, fun p hp => by
          simp only [List.mem_append, List.mem_cons]
          simp only [hp, or_true]⟩
        clear N9 hd9 hn9
        have hu9 : unstrF (joinF fs) fs.length ((1 : Int) - 1) = (fs.map fun f => (f, [44]), (((joinF fs).length : Nat) : Int)) := back_unstr fs fun f hf => (hbm f hf).2
        rw [hu9] at hdB
        dsimp only at hdB
        rw [← sum_join fs, decide_eq_false (Int.lt_irrefl _), List.map_map] at hdB
        obtain ⟨a9, vs9, n9, rfl, _, _⟩ := dat_tuple hdB
        refine LCg.CompSrc.ledger (its := ys.toArray) (k := ys.length) rfl F9 NB (hsB _ mD) (fits_of (by rw [hs1]; omega)) ?_
        intro g10
        rw [hs1]
        refine Lc.comp_rule (fun i ys8 nx => (∀ p ∈ BIG, p ∈ nx) ∧ DatAll nx ys8 ((fs.take i).map fun f => pieceD (f, [44]))) ⟨fun _ h => h, .nil⟩ ?_ ?_
        · rintro i ys8 nx v I oI C oC D8 m₂ h tk E' hi hv ⟨hsx, hys8⟩ hn hx F₁ N₁ hoff hne
          obtain ⟨f, hfi, hfd⟩ := dat_get hys (i := i) (v := v) (by simpa using hv)
          obtain ⟨tf, rfl⟩ := dat_bytes hfd
          k_steps
          unfold Stop
          rename_i Dt ht Ft Nt lt
          refine LCg.CompEnd.intro Ft Nt ((Dt, ({ cls := .type "tuple", data := .seq [.bytes f.toArray tf, .bytes #[44] tk].toArray 0 } : Obj)) :: nx) (fun p hp => ?_) ⟨⟨Nat.ne_of_gt lt.1, Nat.ne_of_gt lt.2.1, Nat.ne_of_gt lt.2.2.1⟩, hoff⟩ (.inr ⟨_, List.mem_cons_of_mem _ (hsx _ (hsB _ mD)), rfl, _, rfl⟩) ⟨fun p hp => List.mem_cons_of_mem _ (hsx p hp), ?_⟩
          · simp only [List.mem_cons] at hp ⊢
            rcases hp with h | h | h | h | h <;> simp only [h, true_or, or_true]
          · rw [List.take_add_one, hfi, List.map_append]
            exact (hys8.mono fun p hp => List.mem_cons_of_mem _ hp).append (.one (DatIn.tuple List.mem_cons_self (.cons (.bytes _ _) (.cons (.bytes _ _) .nil))))
        · rintro ys8 nx ⟨hsx, hys8⟩
          rw [List.take_length] at hys8
          intro D9 h10 tk10 F10 N10 off10
          dsimp only
          k_steps
          unfold Stop
          rename_i Dz hz Fz Nz lz
          k_dflt (refine' eq_same_T (ds := [.list (fs.map fun f => pieceD (f, [44])), .int ((fs.map fun f => ((f.length : Nat) : Int) + 1).sum + 1), .bool false]) Nz ?c1 ?c2 ?ku ?_)
          case c1 => exact hdB.mono (fun p hp => List.mem_cons_of_mem _ (List.mem_cons_of_mem _ (hsx p hp)))
          case c2 => exact DatIn.tuple List.mem_cons_self (.cons (DatIn.list (List.mem_cons_of_mem _ List.mem_cons_self) (hys8.mono fun p hp => List.mem_cons_of_mem _ (List.mem_cons_of_mem _ hp))) (.cons (.int _ _) (.cons (.bool _) .nil)))
          case ku =>
            refine Nat.lt_of_le_of_lt (Nat.add_le_add_left (Nat.add_le_add_right (back_dep fs _) 1) _) ?_
            ktr_units
          k_steps
          exact hret _ ((pa, _) :: rest) _ _ (by k_asm) (cb_drop (by k_asm) fun p hp => List.mem_cons_of_mem _ (List.mem_cons_of_mem _ (hsx p (hsB p (hs5 p hp))))) ⟨rfl, _, _, _, _, _, rfl, by omega, by omega⟩
end
/-! an own exception class whose __init__ stands in its own base's namespace -/
namespace Exi
section
variable {prog : Program} {w : World} {A : Around} {E : Value → Shared → Prop} {h : Heap} {g : Array GenState} {d : Drawn} {t : Nat} {os : OsState}
variable {nm q : Str} {C N D : Addr} {bs bm bmX : List Value} {hdct : Bool} {sn : List Str} {sub : List Value} {ab : Bool} {col : Option Bool} {dd : Option Addr} {k0 k1 k2 k3 k5 : Option Value} {B newId initId : String}
theorem made_new {R : Result → Shared → Prop} (F : ExcBaseFacts B newId initId bmX) (cB : bm.contains (.type B) = true) (cA : bm.contains (.type "AttributeError") = false) (cN : bm.contains (.type "NameError") = false) {rest : List Value}
    (hC : h.get? C = some (excClassObj nm q C N bs bm hdct sn sub ab col dd k0 k1 k2 k3 k5 newId)) (hz : rest.length ≤ sizeLine)
    (hq : R (.ok (.ret (.ref (h.objs.size + 1)))) ⟨(h.push { cls := .type "tuple", data := .seq rest.toArray }).push { cls := .ref C, data := .fields #[.ref h.objs.size, .none, .none, .none, .bool false, .none] }, g, d, t, os⟩) :
    codeAny (model prog w) A (.builtin newId ⟨.ref C :: rest, []⟩) R ⟨h, g, d, t, os⟩ := by
  have e1 := F.ends
  have e2 : (Value.ref C :: bm).contains (.type B) = true := by rw [List.contains_cons, cB, Bool.or_true]
  have e3 : (Value.ref C :: bm).contains (.type "AttributeError") = false := by rw [List.contains_cons, cA]; rfl
  have e4 : (Value.ref C :: bm).contains (.type "NameError") = false := by rw [List.contains_cons, cN]; rfl
  refine codeAny_builtinAt F.entry ?_
  unfold Builtin.«BaseException.__new__»
  refine PySem.wpAt_bind ?_
  show PySem.wpAt _ _ _ (stack >>= _) _ _ _
  refine PySem.wpAt_bind (PySem.wpAt_stack fun p below => PySem.wpAt_of_wpAny ?_)
  wp_walk
  refine PySem.wpAt_of_wpAny ?_
  rw [F.owner]
  repeat (first | with_reducible refine wpAny_madeHere_exc F.canon hC ?_ | with_reducible refine wpAny_loadPart_at hC ?_ | (with_reducible refine wpAny_isSubtype_exc hC ?_; first | rw [e2] | rw [e3] | rw [e4]) | wp_step)
  show R _ _
  rw [Heap.size_push]
  exact hq
theorem look_init {name : Str} {mN mD : Str → Option Value} {v : Value} {c0 : Value} {dD : Option Addr} {cd : ClassData} {sl : Array (Option Value)} {Q : Option Value → Shared → Prop}
    (hC : h.get? C = some (excClassObj nm q C N bs (.ref D :: bmX) hdct sn sub ab col dd k0 k1 k2 k3 k5 newId)) (hn : h.Ns N mN) (hni : mN name = none)
    (hD : h.get? D = some { cls := c0, dict := dD, data := .cls cd, slots := sl }) (hnD : h.Ns cd.ns mD) (hi : mD name = some v) (hq : Q (some v) ⟨h, g, d, t, os⟩) :
    wpAny (model prog w) A (typeLookup (.ref C) name) Q E ⟨h, g, d, t, os⟩ := by
  rw [typeLookup_eq]
  refine wpAny_bind (wpAny_mroOf_exc hC ?_)
  rw [lookupAlong_cons]
  refine wpAny_bind (wpAny_classOwn_exc hC hn ?_)
  rw [hni]
  show wpAny _ _ (lookupAlong _ _) _ _ _
  rw [lookupAlong_cons]
  refine wpAny_bind (wpAny_classOwn_cls hD hnD ?_)
  rw [hi]
  exact wpAny_pure hq
theorem type_call {mN mD : Str → Option Value} {c0 : Value} {dD : Option Addr} {cd : ClassData} {sl : Array (Option Value)} {rest : List Value} {fI : Addr} {oI : Obj} {Q : Fin → Shared → Prop}
    (F : ExcBaseFacts B newId initId bmX) (hz : rest.length ≤ sizeLine)
    (hC : h.get? C = some (excClassObj nm q C N bs (.ref D :: bmX) hdct sn sub ab col dd k0 k1 k2 k3 k5 newId)) (hn : h.Ns N mN) (hni : mN "__init__" = none)
    (hD : h.get? D = some { cls := c0, dict := dD, data := .cls cd, slots := sl }) (hnD : h.Ns cd.ns mD) (hi : mD "__init__" = some (.ref fI)) (hfI : h.get? fI = some oI) (hfc : oI.cls = .type "function")
    (hq : ∀ h' e, Heap.MadeExcOf h h' e (.ref C) rest →
      wpAny (model prog w) A (call (.ref fI) (.ref e :: rest)) (fun r s' => r = .none ∧ Q (.done (.ret (.ref e))) s') E ⟨h', g, d, t, os⟩) :
    wpAny (model prog w) A (Builtin.«type.__call__» ⟨.ref C :: rest, []⟩) Q E ⟨h, g, d, t, os⟩ := by
  have cX : ∀ {x : String} {b : Bool}, bmX.contains (.type x) = b → (Value.ref D :: bmX).contains (.type x) = b := fun e => by rw [List.contains_cons, e]; rfl
  repeat (first | with_reducible refine wpAny_loadPart_at hC ?_ | with_reducible refine wpAny_madeBy_exc hC ?_ | wp_step)
  refine codeAny_call_builtin_code (Code.quiet_builtin _ F.quiet) (wpAny_check_new_subU F (cX F.hasB) .base hC ?_)
  refine made_new F (cX F.hasB) (cX F.noAttr) (cX F.noName) hC hz ?_
  show wpAny _ _ _ _ _ _
  have up : ∀ b o, h.get? b = some o → ((h.push { cls := .type "tuple", data := .seq rest.toArray }).push { cls := .ref C, data := .fields #[.ref h.objs.size, .none, .none, .none, .bool false, .none] }).get? b = some o :=
    fun b o e => Heap.get?_push_of_some _ (Heap.get?_push_of_some _ e)
  have hE : ((h.push { cls := .type "tuple", data := .seq rest.toArray }).push { cls := .ref C, data := .fields #[.ref h.objs.size, .none, .none, .none, .bool false, .none] }).get? (h.objs.size + 1) = some
      { cls := .ref C, data := .fields #[.ref h.objs.size, .none, .none, .none, .bool false, .none] } := by heap_get
  have cC : (Value.ref C :: Value.ref D :: bmX).contains (.ref C) = true := by simp
  unfold isInstance
  repeat (first | with_reducible refine wpAny_loadPart_at hE ?_ | (with_reducible refine wpAny_isSubtype_exc (up _ _ hC) ?_; rw [cC]) | wp_step)
  show wpAny _ _ (typeLookup (.ref C) _) _ _ _
  refine look_init (up _ _ hC) (hn.keeps up) hni (up _ _ hD) (hnD.keeps up) hi ?_
  refine wpAny_holding (wpAny_bind ?_)
  unfold bindSpecial
  refine wpAny_bind (wpAny_typeOf (T := "function") ⟨_, up _ _ hfI, hfc⟩ ?_)
  rw [if_pos (by decide)]
  refine wpAny_pure (wpAny_bind (wpAny_mono (hq _ (h.objs.size + 1) ⟨up, Heap.get?_none_of_le (Nat.le_succ _), h.objs.size, hE, Heap.get?_none_of_le (Nat.le_refl _), Heap.get?_push_of_some _ (Heap.get?_push_at rfl rfl)⟩) (fun r s' hr => ?_) fun _ _ x => x))
  obtain ⟨rfl, hQ⟩ := hr
  wp_walk
  exact hQ
theorem call_made {mN mD : Str → Option Value} {c0 : Value} {dD : Option Addr} {cd : ClassData} {sl : Array (Option Value)} {rest : List Value} {fI : Addr} {oI : Obj} {Q : Value → Shared → Prop}
    (F : ExcBaseFacts B newId initId bmX) (hz : rest.length ≤ sizeLine)
    (hC : h.get? C = some (excClassObj nm q C N bs (.ref D :: bmX) hdct sn sub ab col dd k0 k1 k2 k3 k5 newId)) (hn : h.Ns N mN) (hni : mN "__init__" = none)
    (hD : h.get? D = some { cls := c0, dict := dD, data := .cls cd, slots := sl }) (hnD : h.Ns cd.ns mD) (hi : mD "__init__" = some (.ref fI)) (hfI : h.get? fI = some oI) (hfc : oI.cls = .type "function")
    (hq : ∀ h' e, Heap.MadeExcOf h h' e (.ref C) rest →
      wpAny (model prog w) (A.under (.builtin "type.__call__" ⟨.ref C :: rest, []⟩)) (call (.ref fI) (.ref e :: rest)) (fun r s' => r = .none ∧ Q (.ref e) s') E ⟨h', g, d, t, os⟩) :
    wpAny (model prog w) A (call (.ref C) rest) Q E ⟨h, g, d, t, os⟩ := by
  have f1 := tc_lookup
  have f2 := tc_bind (.ref C)
  have hT : (⟨h, g, d, t, os⟩ : Shared).TypeIs (.ref C) "type" := ⟨_, hC, rfl⟩
  refine wpAny_call (codeAny_of_tree ?_)
  show wpAny _ _ (callAny (.ref C) _) _ _ _
  repeat (any_goals (first | assumption | with_reducible refine wpAny_loadPart_at hC ?_ | wp_step))
  refine ⟨rfl, ?_⟩
  exact codeAny_call_builtin_at (Code.quiet_builtin _ (by decide +kernel)) entry_typeCall (wpAny_check_type_call_sub hC (type_call F hz hC hn hni hD hnD hi hfI hfc fun h' e hm => hq h' e hm))
/-- the base's own __init__ upon a made object: its argument tuple is laid anew -/
theorem base_init {e t0 : Addr} {v : Value} {Q : Value → Shared → Prop} (F : ExcBaseFacts B newId initId bmX)
    (hC : h.get? C = some (excClassObj nm q C N bs (.ref D :: bmX) hdct sn sub ab col dd k0 k1 k2 k3 k5 newId)) (he : h.get? e = some { cls := .ref C, data := .fields #[.ref t0, .none, .none, .none, .bool false, .none] })
    (hq : ∀ h', (∀ b o, b ≠ e → h.get? b = some o → h'.get? b = some o) → h'.get? e = some { cls := .ref C, data := .fields #[.ref h.objs.size, .none, .none, .none, .bool false, .none] } →
      h'.get? h.objs.size = some { cls := .type "tuple", data := .seq [v].toArray } → Q .none ⟨h', g, d, t, os⟩) :
    wpAny (model prog w) A (call (.builtin initId) [.ref e, v]) Q E ⟨h, g, d, t, os⟩ := by
  have cB : (Value.ref C :: Value.ref D :: bmX).contains (.type B) = true := by rw [List.contains_cons, List.contains_cons, F.hasB, Bool.or_true, Bool.or_true]
  have hs := F.noStar
  refine wpAny_call (codeAny_call_builtin F.init.plain F.initEntry ?_)
  simp only [checkBuiltinCall, F.initKind, F.initSplit, F.initRow]
  repeat (first | with_reducible refine wpAny_loadPart_at he ?_ | with_reducible refine wpAny_loadPart_at hC ?_ | (with_reducible refine wpAny_isSubtype_exc hC ?_; rw [cB]) | wp_step)
  show Q _ _
  refine hq _ (fun b o hb e' => (Heap.get?_update_other _ _ (Ne.symm hb)).trans (Heap.get?_push_of_some _ e')) ?_ ?_
  · rw [Heap.get?_update_self _ (Heap.get?_push_of_some _ he) rfl]
    rfl
  · rw [Heap.get?_update_other _ _ (Nat.ne_of_lt (Heap.lt_size he))]
    exact Heap.get?_push_at rfl rfl
end
end Exi
namespace Exi
abbrev exO (C : Addr) (d : Option Addr) (t : Addr) : Obj := { cls := .ref C, dict := d, data := .fields #[.ref t, .none, .none, .none, .bool false, .none] }
section
variable {prog : Program} {w : World} {A : Around} {E : Value → Shared → Prop} {s : Shared} {K : Frag} {x C L t : Addr} {h₀ : Heap} {m : Str → Option Value} {news : Led} {name : Str} {v : Value}
variable {nm q : Str} {Nn D : Addr} {bs : List Value} {sn : List Str} {sub : List Value} {ab : Bool} {col : Option Bool} {dd : Option Addr} {k0 k1 k2 k3 k5 : Option Value}
abbrev bmE : List Value := [.type "Exception", .type "BaseException", .type "object"]
theorem open_store {R : Result → Shared → Prop} {ox : Obj} {od : Option Obj} {tk : Tok} (X : K.In s.heap) (I : W.InstAt s.heap x ox C od) (hC : K.lookup C = some (excClassObj nm q C Nn bs (.ref D :: bmE) true sn sub ab col dd k0 k1 k2 k3 k5 "Exception.__new__")) (ht : takerIn K C name = some none)
    (h : ∀ b, wpAny (model prog w) A.in1 (Builtin.ObjectAttr.storeInOwnDict (.ref x) (.ref C) (.str name tk) name v b)
      (fun fin s' => match fin with | .done f => R (.ok f) s' | .again c' => c'.quiet = true ∧ codeAny (model prog w) A c' R s') (fun e s' => R (.error e) s') s) :
    codeAny (model prog w) A (.call (.builtin "object.__setattr__") ⟨[.ref x, .str name tk, v], []⟩) R s := by
  have SO := PySem.F.store_object
  obtain ⟨cd, hc, hm⟩ : ∃ cd, clsIn K C = some cd ∧ cd.mro = .ref C :: .ref D :: bmE := by
    unfold clsIn
    rw [hC]
    exact ⟨_, rfl, rfl⟩
  have isO : Looks (model prog w) s.heap (isInstance (.ref x) (.type "object")) true := I.type.andThen (looks_mroIn X (by
    unfold mroIn
    rw [hc, Option.bind_some, hm]
    rfl))
  obtain ⟨attr, ha, hr⟩ := Option.bind_eq_some_iff.mp ht
  have mros : Looks (model prog w) s.heap (mroOf (.ref C)) cd.mro := (looks_clsIn X hc).andThen .now
  have taker : Looks (model prog w) s.heap (Builtin.ObjectAttr.storeTaker? attr) none := by
    cases attr with
    | none => exact .now
    | some a =>
      obtain ⟨b, hb, hbn⟩ := Option.map_eq_some_iff.mp hr
      refine (looks_takesIn X hb).andThen ?_
      cases b with
      | true => cases hbn
      | false => exact .now
  refine codeAny_call_builtin SO.slot.plain SO.entry (@check_slot (model prog w) _ _ s "object.__setattr__" "object" "__setattr__" (.ref x) [.str name tk, v] [] _ SO.kind SO.split isO (SO.args (.ref x) (.str name tk) v) ?_)
  rw [osa_eq, refuse_eq]
  refine wpAny_bind (wpAny_bind (I.type.here (wpAny_bind (mros.here ?_))))
  rw [hm, refuseLoop_ref, refuseLoop_ref, PySem.F.store_Exception.passes]
  exact wpAny_pure (wpAny_bind (I.type.here (wpAny_bind ((looks_findIn X ha).here (wpAny_bind (taker.here (h _)))))))
theorem set_first {Q : Unit → Shared → Prop} (F : Fr h₀ L s.heap m) (X₀ : K.In h₀) (N : News h₀ L s.heap ((x, exO C none t) :: news)) 
    (hs : findIn K (.ref C) "__setattr__" = some (some (.builtin "object.__setattr__"))) (hC : K.lookup C = some (excClassObj nm q C Nn bs (.ref D :: bmE) true sn sub ab col dd k0 k1 k2 k3 k5 "Exception.__new__")) (ht : takerIn K C name = some none) (hh : hasDictIn K C = true) (hoff : ∀ p ∈ news, @Ne Nat p.1 x)
    (h : ∀ dx h' tk', Fr h₀ L h' m → News h₀ L h' ((x, exO C (some dx) t) :: (dx, dictOf [⟨PyData.keyHash w.params name, .str name (s.toks + 1), v⟩] 1) :: news) → (∀ p ∈ news, @LT.lt Nat _ p.1 dx) → @LT.lt Nat _ x dx → Q () { s with heap := h', toks := tk' }) :
    wpAny (model prog w) A (setAttr (.ref x) name v) Q E s := by
  have X := X₀.keeps F.keep
  have hx := (N _ List.mem_cons_self).1
  have I : InstAt s.heap x (exO C none t) C none := ⟨hx, rfl, rfl, trivial⟩
  refine set_plain X I hs (open_store (s := { s with toks := s.toks + 1 }) X I hC ht fun b => ?_)
  obtain ⟨cd, hc, hd'⟩ := any_some hh
  obtain ⟨hh, g, dr, tk, os⟩ := s
  dsimp only at hx X
  refine wpAny_bind (wpAny_pure (wpAny_bind (wpAny_bind (wpAny_loadPart hx (wpAny_bind ((looks_clsIn X hc).here ?_))))))
  rw [hd']
  obtain ⟨F2, N2⟩ := news_upd (d := x) (o := exO C none t) (o' := exO C (some hh.objs.size) t) (pre := [(hh.objs.size, emptyDict)]) (post := news) (f := fun o => ⟨o.cls, some hh.objs.size, o.data, o.slots⟩) (F.push emptyDict) (News.push F N emptyDict) (by
    intro p hp
    rw [List.mem_singleton.mp hp]
    exact Nat.ne_of_gt (Heap.lt_size hx)) hoff rfl rfl
  have e3 : Obj.putName name (PyData.keyHash w.params name) (.str name (tk + 1)) v emptyDict = dictOf [⟨PyData.keyHash w.params name, .str name (tk + 1), v⟩] 1 := putName_dict name _ _ v [] 0
  obtain ⟨F3, N3⟩ := news_upd (d := hh.objs.size) (o := emptyDict) (o' := dictOf [⟨PyData.keyHash w.params name, .str name (tk + 1), v⟩] 1) (pre := []) (post := (x, exO C (some hh.objs.size) t) :: news) (f := Obj.putName name (PyData.keyHash w.params name) (.str name (tk + 1)) v) F2 N2 (fun _ h => nomatch h) (by
    intro p hp
    rcases List.mem_cons.mp hp with rfl | hp
    · exact Nat.ne_of_lt (Heap.lt_size hx)
    · exact Nat.ne_of_lt (Heap.lt_size (N p (List.mem_cons_of_mem _ hp)).1)) e3 rfl
  have D := (N2 _ List.mem_cons_self).1
  have D' := (N3 _ List.mem_cons_self).1
  show wpAny _ _ (alloc emptyDict >>= _) _ _ _
  refine wpAny_bind (wpAny_alloc' (wpAny_bind (wpAny_update' (Heap.get?_push_of_some _ hx) (wpAny_pure ?_))))
  show wpAny _ _ (Builtin.ObjectAttr.storeInDict hh.objs.size _ name v) _ _ _
  refine wpAny_bind (wpAny_pure (wpAny_bind ?_))
  unfold nsSet
  refine wpAny_bind (wpAny_bind (wpAny_askSetting (wpAny_pure (wpAny_bind (wpAny_mkText (wpAny_bind (wpAny_loadPart D ?_)))))))
  have c : aRefKeyMayBeTheName name #[] = false := by rw [aRefKeyMayBeTheName_at]; simp
  dsimp only
  rw [c]
  refine wpAny_updatePart D ?_
  refine wpAny_bind (wpAny_lookBehind D' (by exact pastItsLine_dict (by show 1 ≤ _; rw [sizeLine_eq]; omega)) ?_)
  refine wpAny_pure (h hh.objs.size _ _ F3 (fun p hp => N3 p ?_) (fun p hp => Heap.lt_size (N p (List.mem_cons_of_mem _ hp)).1) (Heap.lt_size hx))
  simp only [List.mem_cons, List.nil_append] at hp ⊢
  rcases hp with h | h | h <;> simp only [h, true_or, or_true]
theorem set_more {Q : Unit → Shared → Prop} {dx : Addr} {es : List DictEntry} {n : Nat} (F : Fr h₀ L s.heap m) (X₀ : K.In h₀) (N : News h₀ L s.heap ((x, exO C (some dx) t) :: (dx, dictOf es n) :: news))
    (hs : findIn K (.ref C) "__setattr__" = some (some (.builtin "object.__setattr__"))) (hC : K.lookup C = some (excClassObj nm q C Nn bs (.ref D :: bmE) true sn sub ab col dd k0 k1 k2 k3 k5 "Exception.__new__")) (ht : takerIn K C name = some none) (hh : hasDictIn K C = true) (hl : (getL name es).isSome = true) (hoff : ∀ p ∈ news, @Ne Nat p.1 dx) (hne : @Ne Nat x dx) (hz : (putL name (PyData.keyHash w.params name) (.str name (s.toks + 1)) v es).length ≤ 1000)
    (h : ∀ od h' tk', Fr h₀ L h' m → News h₀ L h' ((x, exO C (some dx) t) :: (dx, od) :: news) → Q () { s with heap := h', toks := tk' }) :
    wpAny (model prog w) A (setAttr (.ref x) name v) Q E s := by
  have X := X₀.keeps F.keep
  have hx := (N _ List.mem_cons_self).1
  have I : W.InstAt s.heap x (exO C (some dx) t) C (some (dictOf es n)) := ⟨hx, rfl, rfl, (N _ (List.mem_cons_of_mem _ List.mem_cons_self)).1⟩
  refine set_plain X I hs (open_store (s := { s with toks := s.toks + 1 }) X I hC ht fun b => ?_)
  obtain ⟨cd, hc, hd'⟩ := any_some hh
  obtain ⟨hh, g, dr, tk, os⟩ := s
  dsimp only at hx X
  have e3 := putName_dict name (PyData.keyHash w.params name) (.str name (tk + 1)) v es n
  obtain ⟨F3, N3⟩ := news_upd (d := dx) (pre := [(x, exO C (some dx) t)]) (post := news) (f := Obj.putName name (PyData.keyHash w.params name) (.str name (tk + 1)) v) F N (by
    intro p hp
    rw [List.mem_singleton.mp hp]
    exact hne) hoff e3 rfl
  have D := (N _ (List.mem_cons_of_mem _ List.mem_cons_self)).1
  have D' := (N3 _ (List.mem_cons_of_mem _ List.mem_cons_self)).1
  refine wpAny_bind (wpAny_pure (wpAny_bind (wpAny_bind (wpAny_loadPart hx (wpAny_bind ((looks_clsIn X hc).here ?_))))))
  rw [hd']
  refine wpAny_pure (a := some dx) (wpAny_bind (wpAny_pure (wpAny_bind ?_)))
  unfold nsSet
  refine wpAny_bind (wpAny_bind (wpAny_askSetting (wpAny_pure (wpAny_bind (wpAny_mkText (wpAny_bind (wpAny_loadPart D ?_)))))))
  have c : aRefKeyMayBeTheName name es.toArray = false := by
    rw [aRefKeyMayBeTheName_at]
    unfold getL at hl
    rw [← Array.any_toList, ← Array.any_toList]
    split at hl
    · rename_i en he
      rw [List.any_eq_true.mpr ⟨en, List.mem_of_find?_eq_some he, List.find?_some he⟩]
      rfl
    · split at hl
      · cases hl
      · rename_i z
        rw [Bool.not_eq_true] at z
        rw [z, Bool.and_false]
  dsimp only
  rw [c]
  refine wpAny_updatePart D ?_
  refine wpAny_bind (wpAny_lookBehind D' (by exact pastItsLine_dict (by rw [List.size_toArray]; exact Nat.le_trans hz (by rw [sizeLine_eq]; omega))) ?_)
  exact wpAny_pure (h _ _ _ F3 N3)
end
end Exi
section
namespace Exi
abbrev tupO (vs : List Value) : Obj := { cls := .type "tuple", data := .seq vs.toArray }
section
variable {prog : Program} {w : World} {A : Around} {E : Value → Shared → Prop} {s : Shared} {K : Frag} {x C L t : Addr} {h₀ : Heap} {m : Str → Option Value} {news : Led} {name : Str} {v : Value}
variable {nm q : Str} {Nn D : Addr} {bs : List Value} {hdct : Bool} {sn : List Str} {sub : List Value} {ab : Bool} {col : Option Bool} {dd : Option Addr} {k0 k1 k2 k3 k5 : Option Value}
theorem init_K {Q : Value → Shared → Prop} (F : Fr h₀ L s.heap m) (X₀ : K.In h₀) (N : News h₀ L s.heap ((x, exO C none t) :: news))
    (hC : K.lookup C = some (excClassObj nm q C Nn bs (.ref D :: bmE) hdct sn sub ab col dd k0 k1 k2 k3 k5 "Exception.__new__")) (hoff : ∀ p ∈ news, @Ne Nat p.1 x)
    (h : ∀ t1 h', Fr h₀ L h' m → News h₀ L h' ((x, exO C none t1) :: (t1, tupO [v]) :: news) → (∀ p ∈ news, @LT.lt Nat _ p.1 t1) → @LT.lt Nat _ x t1 → Q .none { s with heap := h' }) :
    wpAny (model prog w) A (call (.builtin "Exception.__init__") [.ref x, v]) Q E s := by
  have X := X₀.keeps F.keep
  have hx := N _ List.mem_cons_self
  obtain ⟨hh, g, dr, tk, os⟩ := s
  refine base_init PySem.F.excBase_Exception (X _ _ hC) hx.1 fun h' hk he ht => ?_
  have hxs : @LT.lt Nat _ x hh.objs.size := Heap.lt_size hx.1
  refine h hh.objs.size h' ?_ ?_ (fun p hp => Heap.lt_size (N p (List.mem_cons_of_mem _ hp)).1) hxs
  · obtain ⟨oL, a1, a2, hL, a3⟩ := F.ns
    exact ⟨⟨oL, a1, a2, hk _ _ (Ne.symm hx.2.1) hL, a3⟩, fun b o e => hk b o (fun z => by
      have h1 := hx.2.2
      rw [show ((x, exO C none t).1 : Addr) = b from z.symm, e] at h1
      cases h1) (F.keep b o e), F.above⟩
  · intro p hp
    rcases List.mem_cons.mp hp with rfl | hp
    · exact ⟨he, hx.2⟩
    · rcases List.mem_cons.mp hp with rfl | hp
      · exact ⟨ht, Nat.ne_of_gt F.ns.lt, next_is_new F⟩
      · exact ⟨hk _ _ (hoff p hp) (N p (List.mem_cons_of_mem _ hp)).1, (N p (List.mem_cons_of_mem _ hp)).2⟩
end
end Exi
local macro_rules | `(tactic| walk_at "call builtin:Exception.__init__") => `(tactic| (k_here; k_dflt (refine' Exi.init_K ?k1 ?k2 ?k3 ?k4 ?k5 ?_; (case k1 => k_asm); (case k2 => k_asm); (case k3 => k_asm); (case k4 => k_is); (case k5 => assumption); k_whole); intro _ _ F' N' _ _))
theorem meta_Exception : typeOf (.type "Exception") = pure (.type "type") := by with_unfolding_all rfl
local macro_rules | `(tactic| walk_at "getMethod type:Exception") => `(tactic| (k_here; refine' method_type ?F ?X ?m (by decide +kernel) ?e ?h ?_; (case F => k_asm); (case X => k_asm); (case m => exact meta_Exception); (case e => k_dflt k_is); (case h => k_handed)))
local macro_rules | `(tactic| walk_at "setAttr ref") => `(tactic| (k_here; refine Stop.out ?_))
local macro_rules | `(tactic| walk_at "MyEnterK") => `(tactic| (refine' code_def ?k1 ?k2 ?k3 ?k4 ?k5 ?kA ?kF ?kK ?k6 ?k7 ?k8 ?k9 ?kB ?_ ?c2 ?c3 ?c4 ?c5; (case kA => exact rfl); (case kF => assumption); (case kK => assumption); (case k1 => k_asm); (case k2 => k_asm); (case k3 => k_asm); (case k4 => k_asm); (case k5 => k_asm); (case k6 => k_is); (case k7 => k_is); (case k8 => ktr_room); (case k9 => exact binds_K (by k_in) rfl (by k_is) rfl rfl rfl); (case c5 => decide); (case kB => exact locs rfl); (case c2 => exact rfl); (case c3 => exact rfl); (case c4 => exact rfl); k_whole))
theorem init_spec {w : World} {e t0 : Addr} {x : Str} {tx : Tok} {rest : Led} (hoff : ∀ p ∈ rest, @Ne Nat p.1 e) :
    Spec w 8 30 [.ref e, .str x tx] ((e, Exi.exO 53 none t0) :: rest) (fun r nx => r = .none ∧ ∃ d t1, nx = (e, Exi.exO 53 (some d) t1) :: (t1, Exi.tupO [.str x tx]) :: rest ∧ ∀ p ∈ rest, @Ne Nat p.1 t1) := by
  unfold Spec
  intro mean mg mb dp un gd env outer A₀ base h₀ L m s Q E B F X N T hf hk hd hu hret
  w_top off
  refine wpAny_call ?_
  k_dflt (walk_at "MyEnterK")
  intro g' L' h' FG' F' N' B' X' T'
  replace F' := fr_cast F' (m' := fun y => List.lookup y [(Str.ofString "at", .ref 22), (Str.ofString "what", .str x tx), (Str.ofString "self", .ref e)]) rfl
  try dsimp only
  try k_fold
  k_steps
  unfold Stop
  rename_i t1 h1 F1 N1 l1 l2
  k_dflt (refine' Exi.set_first (s := ⟨_, _, _, _, _⟩) F1 X' N1 ?k4 ?k5 ?k6 ?k7 ?k8 ?_; (case k4 => k_is); (case k5 => k_is); (case k6 => k_is); (case k7 => k_is))
  case k8 =>
    intro p hp
    rcases List.mem_cons.mp hp with rfl | hp
    · exact Nat.ne_of_gt l2
    · exact hoff p hp
  intro dx h2 tk2 F2 N2 l3 l4
  clear N1
  k_steps
  unfold Stop
  k_dflt (refine' Exi.set_more (s := ⟨_, _, _, _, _⟩) F2 X' N2 ?k4 ?k5 ?k6 ?k7 ?k9 ?k8 ?k10 ?k11 ?_; (case k4 => k_is); (case k5 => k_is); (case k6 => k_is); (case k7 => k_is); (case k9 => rfl); (case k10 => exact Nat.ne_of_lt l4); (case k11 => exact Nat.le_of_ble_eq_true rfl))
  case k8 => exact fun p hp => Nat.ne_of_lt (l3 p hp)
  intro od h3 tk4 F3 N3
  clear N2
  k_steps
  refine hret _ ((e, Exi.exO 53 (some dx) t1) :: (t1, Exi.tupO [.str x tx]) :: rest) _ _ (by k_asm) (cb_drop (by k_asm) ?_) ⟨rfl, _, _, rfl, fun p hp => Nat.ne_of_lt (l1 p hp)⟩
  intro p hp
  simp only [List.mem_cons] at hp ⊢
  rcases hp with h | h | h <;> simp only [h, true_or, or_true]
end
namespace Exi
section
variable {M : Model} {A : Around} {E : Value → Shared → Prop} {env : Env}
variable {nm q : Str} {C N : Addr} {bs bm : List Value} {hdct : Bool} {sn : List Str} {sub : List Value} {ab : Bool} {col : Option Bool} {dd : Option Addr} {k0 k1 k2 k3 k5 : Option Value} {newId : String}
theorem raise_made {s : Shared} {x : Sem Value} {Q : Flow → Shared → Prop} (hbase : bm.contains (.type "BaseException") = true) (hh : A.handled = none)
    (h : wpAny M A x (fun v s₁ => ∃ e d t, v = .ref e ∧ s₁.heap.get? C = some (excClassObj nm q C N bs bm hdct sn sub ab col dd k0 k1 k2 k3 k5 newId) ∧ s₁.heap.get? e = some (exO C d t) ∧ E (.ref e) s₁) E s) :
    wpAny M A (raiseStmt env (some x) none) Q E s := by
  have cB : (Value.ref C :: bm).contains (.type "BaseException") = true := by rw [List.contains_cons, hbase, Bool.or_true]
  unfold raiseStmt
  refine wpAny_bind (wpAny_mono h (fun v s₁ h₁ => ?_) fun _ _ x => x)
  obtain ⟨e, dE, t, rfl, hC, he, hE⟩ := h₁
  obtain ⟨hp, g, d, tk, os⟩ := s₁
  repeat (first | with_reducible refine wpAny_loadPart_at he ?_ | with_reducible refine wpAny_loadPart_at hC ?_ | (with_reducible refine wpAny_isSubtype_exc hC ?_; rw [cB]) | wp_step)
  exact wpAny_raiseNew_none hh hE
end
section
variable {prog : Program} {w : World} {A : Around} {E : Value → Shared → Prop} {s : Shared} {env : Env}
variable {nm q : Str} {C N : Addr} {bs bm : List Value} {hdct : Bool} {sn : List Str} {sub : List Value} {ab : Bool} {col : Option Bool} {dd : Option Addr} {k0 k1 k2 k3 k5 : Option Value} {newId : String}
theorem raise_call {x : Str} {np cpos pos : Pos} {args : List Expr} {Q : Flow → Shared → Prop} (hbase : bm.contains (.type "BaseException") = true)
    (hh : A.handled = none) (hplain : (backTo cpos (starEach args env)).any (·.1) = false)
    (h : wpAny (model prog w) A (eval (.Name x np) env) (fun f s₁ => f = .ref C ∧ wpAny (model prog w) A (evalArgs (.ref C) true (backTo cpos (starEach args env)) [])
      (fun a s₂ => a.kw = [] ∧ s₂.heap.get? C = some (excClassObj nm q C N bs bm hdct sn sub ab col dd k0 k1 k2 k3 k5 newId) ∧
        wpAny (model prog w) A (call (.ref C) a.pos) (fun v s₃ => ∃ e d t, v = .ref e ∧ s₃.heap.get? C = some (excClassObj nm q C N bs bm hdct sn sub ab col dd k0 k1 k2 k3 k5 newId) ∧ s₃.heap.get? e = some (exO C d t) ∧ E (.ref e) s₃) E s₂) E s₁) E s) :
    wpAny (model prog w) A (exec (.Raise (some (.Call (.Name x np) args [] cpos)) none pos) env) Q E s := by
  rw [arm_exec_Raise]
  refine wpAny_bind (wpAny_standAt ?_)
  refine raise_made (C := C) (nm := nm) (q := q) (N := N) (bs := bs) (bm := bm) (hdct := hdct) (sn := sn) (sub := sub) (ab := ab) (col := col) (dd := dd) (k0 := k0) (k1 := k1) (k2 := k2) (k3 := k3) (k5 := k5) (newId := newId) hbase hh ?_
  refine wpAny_bind (wpAny_mono (wpAny_Call_ofName (wpAny_mono h (fun f s₁ h₁ => ?_) fun _ _ x => x)) (fun v s₃ h₃ => wpAny_bind (wpAny_standAt (wpAny_pure h₃))) fun _ _ x => x)
  obtain ⟨rfl, h₁⟩ := h₁
  unfold callWith
  refine wpAny_bind (wpAny_holding (wpAny_mono h₁ (fun a s₂ h₂ => wpAny_bind (wpAny_standAt ?_)) fun _ _ x => x))
  obtain ⟨apos, akw⟩ := a
  obtain ⟨hkw, hC, h₂⟩ := h₂
  obtain rfl : akw = [] := hkw
  obtain ⟨hp, g, d, tk, os⟩ := s₂
  simp only [hplain]
  refine wpAny_bind (wpAny_keeperOf_exc hC ?_)
  refine wpAny_bind (wpAny_mono h₂ (fun v s₃ h₃ => ?_) fun _ _ x => x)
  obtain ⟨e, dE, t, rfl, h3, h4, h5⟩ := h₃
  exact wpAny_bind (wpAny_holding (wpAny_point (wpAny_pure ⟨e, dE, t, rfl, h3, h4, h5⟩)))
end
section
variable {M : Model} {A : Around} {E : Value → Shared → Prop} {s' : Shared} {base g h : Heap} {outer : List Env} {L a e t C : Addr} {m : Str → Option Value} {name : Str} {scope : Scope} {cd : Value} {Q : Unit → Shared → Prop} {news : Led} {dE : Option Addr} {xs : List Value}
theorem leave_made (K : Below A base outer g) (F : Fr g L s'.heap m) (N : News g L s'.heap ((e, exO C dE t) :: (t, tupO xs) :: news)) (he : ∀ p ∈ news, @Ne Nat p.1 e) (ht : ∀ p ∈ news, @Ne Nat p.1 t)
    (hQ : ∀ h', RaisedS base g outer e (.ref C) t xs news h' → g.UpToSlots h' → Q () { s' with heap := h' }) (hk : scope.kind = .function := by rfl) :
    wpAny M (A.deeper (envOf name scope L a cd)) (leaving (envOf name scope L a cd) (.ref e)) Q E s' := by
  have K' := K.push (name := name) (a := a) (cd := cd) F hk
  have ne := N _ List.mem_cons_self
  have nt := N _ (List.mem_cons_of_mem _ List.mem_cons_self)
  have hin : ∀ env ∈ (envOf name scope L a cd :: outer), ∀ b, env.frame = some b → b ∈ e :: t :: (envOf name scope L a cd :: outer).filterMap (·.frame) := fun env he b hb => List.mem_cons_of_mem _ (List.mem_cons_of_mem _ (List.mem_filterMap.mpr ⟨env, he, hb⟩))
  have up : ∀ b o, g.get? b = some o → b ∉ outer.filterMap (·.frame) → (hideAll s'.heap (e :: t :: (envOf name scope L a cd :: outer).filterMap (·.frame))).get? b = some o := fun b o q nm => hideAll_get _ (F.keep b o q) fun hm => by
    rcases List.mem_cons.mp hm with z | hm
    · have := ne.2.2
      dsimp only at this
      rw [← z, q] at this
      cases this
    · rcases List.mem_cons.mp hm with z | hm
      · have := nt.2.2
        dsimp only at this
        rw [← z, q] at this
        cases this
      · rcases kts_mem hm with z | z
        · rw [z, kts_self F] at q
          cases q
        · exact nm z
  have st : base.StaysIn (hideAll s'.heap (e :: t :: (envOf name scope L a cd :: outer).filterMap (·.frame))) := fun b o q => up b o (K.stays b o q) fun hm => by
    rw [(K.frames.mem hm).1] at q
    cases q
  have hl : ∀ q ∈ news, (hideAll s'.heap (e :: t :: (envOf name scope L a cd :: outer).filterMap (·.frame))).get? q.1 = some q.2 ∧ g.get? q.1 = none ∧ base.get? q.1 = none := fun q hq => by
    have nq := N q (List.mem_cons_of_mem _ (List.mem_cons_of_mem _ hq))
    refine ⟨hideAll_get _ nq.1 fun hm => ?_, nq.2.2, fresh_of_stays K.stays nq.2.2⟩
    rcases List.mem_cons.mp hm with z | hm
    · exact he q hq z
    · rcases List.mem_cons.mp hm with z | hm
      · exact ht q hq z
      · obtain ⟨env, hen, hf⟩ := List.mem_filterMap.mp hm
        rcases List.mem_cons.mp hen with rfl | hen
        · exact nq.2.1 (Option.some.inj hf).symm
        · obtain ⟨o, ho, _⟩ := (K.frames.mem (List.mem_filterMap.mpr ⟨env, hen, hf⟩)).2
          rw [nq.2.2] at ho
          cases ho
  refine wpAny_leaving_firstW (base := hideAll s'.heap (e :: t :: (envOf name scope L a cd :: outer).filterMap (·.frame))) (a0 := .ref t) K'.stack (funFrames_hide K'.frames hin) rfl ne.1 (fun b o q => of_hideAll _ q) (hideAll_none _ List.mem_cons_self) rfl rfl rfl fun h' hL => ?_
  obtain ⟨k1, ⟨_, _, k2⟩, k3, k4⟩ := hL
  exact hQ h' ⟨⟨_, st, up, hl, ⟨k1, hideAll_none _ List.mem_cons_self, k2, k3⟩, hideAll_none _ (List.mem_cons_of_mem _ List.mem_cons_self)⟩, Heap.TupAt.of_slots ⟨_, _, nt.1, rfl, rfl⟩ k4⟩ ((Heap.UpToSlots.of_keeps F.keep).trans k4)
theorem raised_sub {G : Heap} {l : List Env} {cls : Value} {vs : List Value} {news' : Led} (R : RaisedS base G l e cls t vs news h) (hs : ∀ p ∈ news', p ∈ news) : RaisedS base G l e cls t vs news' h := by
  obtain ⟨⟨B, h1, h2, h3, h4, h5⟩, h6⟩ := R
  exact ⟨⟨B, h1, h2, fun q hq => h3 q (hs q hq), h4, h5⟩, h6⟩
end
end Exi
section
def SpecX (w : World) (n : Nat) (f : Addr) (vs : List Value) (news : Led) : Prop :=
  ∀ (mean : ExcName → Option Value) (mg mb : Str → Option Value) (dp un : Nat) (gd : Option (List Code)) (env : Env) (outer : List Env) (A₀ : Around) (base h₀ : Heap) (L : Addr) (m : Str → Option Value) (s : Shared) (Q E : Value → Shared → Prop),
    Below A₀ base outer h₀ → Fr h₀ L s.heap m → (hd.heap_39 w.params).In h₀ → News h₀ L s.heap news → Top hd.view_39 (looseW hd.view_39 [Str.ofString "LedgerError"]) mean mg mb h₀ → env.frame = some L → env.scope.kind = .function →
    dp + n < recursionLimit → un + 8 * n < cLine →
    (∀ e t xs g h' tk', Fr h₀ L g m → RaisedS base g (env :: outer) e (.ref 53) t xs news h' → g.UpToSlots h' → E (.ref e) { s with heap := h', toks := tk' }) →
    wpAny (model PySem.Challenge.rw_og0068_01.row.prog w) { handled := none, depth := dp, frames := some (env :: outer), guards := gd, units := un } (call (.ref f) vs) Q E s
theorem ns_some_of {K : Frag} {h : Heap} {Nn : Addr} {mg : Str → Option Value} {n : Str} {v : Value} (X : K.In h) (G : h.Ns Nn mg) (e : nsIn K Nn n = some (some v)) : mg n = some v := by
  obtain ⟨o, es, ep, ho, hd, _, hf⟩ := G
  unfold nsIn at e
  split at e
  · rename_i es' n' sl q
    have h1 := X _ _ q
    rw [ho] at h1
    cases h1
    cases hd
    rw [← hf]
    unfold nsFind findBy
    rw [← Array.find?_toList]
    split at e
    · rename_i en he
      cases e
      rw [he]
      rfl
    · split at e <;> cases e
  · cases e
theorem cls53 (w : World) : (hd.heap_39 w.params).lookup 53 = some (excClassObj (Str.ofString "RunFault") (Str.ofString "RunFault") 53 52 [.ref 40] (.ref 40 :: Exi.bmE) true [] [] false none none (some (.ref 44)) none (some (.str (Str.ofString "RunFault") 229)) (some (.str (Str.ofString "RunFault") 237)) (some (.bool true)) "Exception.__new__") := by
  k_dflt k_is
theorem obj40 (w : World) : ∃ c0 dD cd sl, (hd.heap_39 w.params).lookup 40 = some { cls := c0, dict := dD, data := .cls cd, slots := sl } ∧ cd.ns = 39 :=
  ⟨_, _, _, _, rfl, rfl⟩
theorem obj30 (w : World) : ∃ o, (hd.heap_39 w.params).lookup 30 = some o ∧ o.cls = .type "function" :=
  ⟨_, rfl, rfl⟩
theorem fault_spec {w : World} {x : Str} {tx : Tok} {news : Led} :
    Spec w 12 53 [.str x tx] news (fun r nx => ∃ e d t1, r = .ref e ∧ nx = (e, Exi.exO 53 (some d) t1) :: (t1, Exi.tupO [.str x tx]) :: news ∧ (∀ p ∈ news, @Ne Nat p.1 e) ∧ ∀ p ∈ news, @Ne Nat p.1 t1) := by
  unfold Spec
  intro mean mg mb dp un gd env outer A₀ base h₀ L m s Q E B F X N T hf hk hd hu hret
  have Xs := X.keeps F.keep
  have n52 : s.heap.Ns 52 (s.heap.nsMap 52) := .of_isNs (isNs_of_in Xs (by kernel_rfl))
  have n39 : s.heap.Ns 39 (s.heap.nsMap 39) := .of_isNs (isNs_of_in Xs (by kernel_rfl))
  have i52 : s.heap.nsMap 52 "__init__" = none := nsMap_none_of_in Xs (by kernel_rfl) (by k_dflt k_is)
  have i39 : s.heap.nsMap 39 "__init__" = some (.ref 30) := ns_some_of Xs n39 (by k_dflt k_is)
  obtain ⟨c0, dD, cd, sl, h40, hns⟩ := obj40 w
  obtain ⟨o30, h30, hc30⟩ := obj30 w
  rw [← hns] at n39
  have Nf := fun p hp => N p hp
  obtain ⟨hh, g, dr, tk, os⟩ := s
  refine Exi.call_made PySem.F.excBase_Exception (by rw [sizeLine_eq]; exact Nat.le_of_ble_eq_true rfl) (Xs _ _ (cls53 w)) n52 i52 (Xs _ _ h40) n39 (by rw [hns]; exact i39) (Xs _ _ h30) hc30 fun h' e hm => ?_
  obtain ⟨t0, he, htn, ht⟩ := hm.there
  have noff : ∀ p ∈ news, @Ne Nat p.1 e := fun p hp z => by
    have h1 := (N p hp).1
    have h2 := hm.new
    rw [show p.1 = e from z] at h1
    dsimp only at h1
    rw [h2] at h1
    cases h1
  refine (init_spec (e := e) (t0 := t0) (rest := news) noff).use (s := ⟨h', g, dr, tk, os⟩) B (F.keeps hm.keeps) X ?_ T hf hk ?_ ?_ ?_
  · intro p hp
    rcases List.mem_cons.mp hp with rfl | hp
    · refine ⟨he, ?_, kts_none F.keep hm.new⟩
      intro z
      obtain ⟨oL, _, _, hL, _⟩ := F.ns
      have h2 := hm.new
      dsimp only at hL z
      rw [← z, h2] at hL
      cases hL
    · exact ⟨hm.keeps _ _ (N p hp).1, (N p hp).2⟩
  · have hw : (Code.builtin "type.__call__" (Args.mk [Value.ref 53, Value.str x tx] [])).weight = 1 := rfl
    show dp + _ + 8 < _
    rw [hw]
    omega
  · have hw : (Code.builtin "type.__call__" (Args.mk [Value.ref 53, Value.str x tx] [])).cUnits ≤ 8 := Nat.le_of_ble_eq_true rfl
    show un + _ + 8 * 8 < _
    omega
  · rintro r nx h3 tk3 F3 N3 ⟨rfl, d, t1, rfl, ht1⟩
    exact ⟨rfl, hret _ _ _ _ F3 N3 ⟨e, d, t1, rfl, rfl, noff, ht1⟩⟩
theorem raise53 {w : World} {A : Around} {E : Value → Shared → Prop} {s : Shared} {env : Env} {x : Str} {np cpos pos : Pos} {args : List Expr} {Q : Flow → Shared → Prop} (hh : A.handled = none) (hplain : (backTo cpos (starEach args env)).any (·.1) = false)
    (h : wpAny (model PySem.Challenge.rw_og0068_01.row.prog w) A (eval (.Name x np) env) (fun f s₁ => f = .ref 53 ∧ wpAny (model PySem.Challenge.rw_og0068_01.row.prog w) A (evalArgs (.ref 53) true (backTo cpos (starEach args env)) [])
      (fun a s₂ => a.kw = [] ∧ (hd.heap_39 w.params).In s₂.heap ∧
        wpAny (model PySem.Challenge.rw_og0068_01.row.prog w) A (call (.ref 53) a.pos) (fun v s₃ => ∃ e d t, v = .ref e ∧ (hd.heap_39 w.params).In s₃.heap ∧ s₃.heap.get? e = some (Exi.exO 53 d t) ∧ E (.ref e) s₃) E s₂) E s₁) E s) :
    wpAny (model PySem.Challenge.rw_og0068_01.row.prog w) A (exec (.Raise (some (.Call (.Name x np) args [] cpos)) none pos) env) Q E s := by
  refine Exi.raise_call (C := 53) (nm := Str.ofString "RunFault") (q := Str.ofString "RunFault") (N := 52) (bs := [.ref 40]) (bm := .ref 40 :: Exi.bmE) (hdct := true) (sn := []) (sub := []) (ab := false) (col := none) (dd := none) (k0 := some (.ref 44)) (k1 := none) (k2 := some (.str (Str.ofString "RunFault") 229)) (k3 := some (.str (Str.ofString "RunFault") 237)) (k5 := some (.bool true)) (newId := "Exception.__new__") (by decide) hh hplain ?_
  refine wpAny_mono h (fun f s₁ h₁ => ⟨h₁.1, wpAny_mono h₁.2 (fun a s₂ h₂ => ⟨h₂.1, h₂.2.1 _ _ (cls53 w), wpAny_mono h₂.2.2 (fun v s₃ h₃ => ?_) fun _ _ x => x⟩) fun _ _ x => x⟩) fun _ _ x => x
  obtain ⟨e, d, t, rfl, h4, h5, h6⟩ := h₃
  exact ⟨e, d, t, rfl, h4 _ _ (cls53 w), h5, h6⟩
theorem args_one {M : Model} {A : Around} {E : Value → Shared → Prop} {s : Shared} {f : Value} {e : Expr} {env : Env} {pos : Pos} {Q : Args → Shared → Prop} (h : wpAny M A (eval e env) (fun v s₁ => Q ⟨[v], []⟩ s₁) E s) (he : starEach [e] env = (false, eval e env) :: starEach [] env) :
    wpAny M A (evalArgs f true (backTo pos (starEach [e] env)) []) Q E s := by
  have h2 : wpAny M A (spliced (backTo pos (starEach [e] env))) (fun vs s' => Q ⟨vs, []⟩ s') E s := spliced_more (wpAny_mono h (fun v s₁ h₁ => spliced_none h₁) fun _ _ x => x) he
  rw [he] at h2 ⊢
  exact Calls.evalArgs_plain h2
local macro_rules | `(tactic| walk_at "exec Raise some none") => `(tactic| refine Stop.out ?_)
theorem first_at_raises {w : World} {ob : List UInt8} {t u ti : Tok} {b : Int} {news : Led} (ho : ob.length < 1000000) :
    SpecX w 20 69 [.bytes ob.toArray t, .bytes ([] : List UInt8).toArray u, .int b ti] news := by
  unfold SpecX
  intro mean mg mb dp un gd env outer A₀ base h₀ L m s Q E B F X N T hf hk hd hu hret
  w_top off
  refine wpAny_call ?_
  k_dflt (walk_at "MyEnter")
  intro g' L' h' FG' F' N' B' X' T'
  replace F' := fr_cast F' (m' := fun y => List.lookup y [(Str.ofString "begin", .int b ti), (Str.ofString "wanted", .bytes ([] : List UInt8).toArray u), (Str.ofString "octets", .bytes ob.toArray t)]) rfl
  try dsimp only
  try k_fold
  k_steps
  unfold Stop
  refine raise53 rfl rfl ?_
  k_dflt (refine' name_K F' ?k1 ?k2 ?k3 ?_; (case k1 => k_asm); (case k2 => k_asm); (case k3 => k_is))
  refine ⟨rfl, ?_⟩
  k_dflt (refine args_one ?_ rfl)
  k_steps
  k_dflt (refine' fault_spec.use (s := ⟨_, _, _, _, _⟩) ?k1 ?k2 ?k3 ?k4 ?k5 ?kF ?kK ?kd ?ku ?_; walk_at "MyUse")
  rintro r nx h2 tk2 F2 N2 ⟨e, d, t1, rfl, rfl, hne, hnt⟩
  refine ⟨e, _, _, rfl, X'.keeps F2.keep, (N2 _ List.mem_cons_self).1, ?_⟩
  refine Exi.leave_made B' F2 N2 hne hnt fun h3 R3 U3 => ?_
  exact hret _ _ _ _ _ _ FG' R3 U3
end
section
local macro_rules | `(tactic| walk_at "call ref") => `(tactic| (k_here; k_dflt (refine' (sent_spec ?c1 ?c2).useT ?k1 ?k2 ?k3 ?k4 ?k5 ?kF ?kK ?kd ?ku ?_); walk_at "MyUse"; (case c1 => omega); (case c2 => assumption); k_whole; intro _ _ _ F' N'; (try dsimp only)))
local macro_rules | `(tactic| walk_at "exec For Tuple Name cons nil") => `(tactic| (k_here; (rename Fr _ _ _ _ => lF'); (with_unfolding_all refine' For_turns lF' ?_; k_whole)))
local macro_rules | `(tactic| walk_at "exec While BoolOp cons nil") => `(tactic| (refine Stop.out ?_))
theorem SpecX.use {w : World} {n : Nat} {f : Addr} {vs : List Value} {news : Led} (S : SpecX w n f vs news)
    {mean : ExcName → Option Value} {mg mb : Str → Option Value} {dp un : Nat} {gd : Option (List Code)} {env : Env} {outer : List Env} {A₀ : Around} {base h₀ : Heap} {L : Addr} {m : Str → Option Value} {s : Shared} {Q E : Value → Shared → Prop}
    (B : Below A₀ base outer h₀) (F : Fr h₀ L s.heap m) (X : (hd.heap_39 w.params).In h₀) (N : News h₀ L s.heap news) (T : Top hd.view_39 (looseW hd.view_39 [Str.ofString "LedgerError"]) mean mg mb h₀) (hf : env.frame = some L) (hk : env.scope.kind = .function)
    (hd : dp + n < recursionLimit) (hu : un + 8 * n < cLine)
    (h : ∀ e t xs g h' tk', Fr h₀ L g m → RaisedS base g (env :: outer) e (.ref 53) t xs news h' → g.UpToSlots h' → E (.ref e) { s with heap := h', toks := tk' }) :
    wpAny (model PySem.Challenge.rw_og0068_01.row.prog w) { handled := none, depth := dp, frames := some (env :: outer), guards := gd, units := un } (call (.ref f) vs) Q E s :=
  S mean mg mb dp un gd env outer A₀ base h₀ L m s Q E B F X N T hf hk hd hu h
local macro_rules | `(tactic| walk_at "call ref") => `(tactic| ((with_reducible show wpAny _ _ (call (Value.ref 69) _) _ _ _); refine Stop.out ?_))
theorem sent_raises {w : World} {ob : List UInt8} {t u : Tok} {news : Led} (ho : ob.length < 1000000) :
    SpecX w 24 76 [.bytes ob.toArray t, .bytes ([] : List UInt8).toArray u] news := by
  unfold SpecX
  intro mean mg mb dp un gd env outer A₀ base h₀ L m s Q E B F X N T hf hk hd hu hret
  w_top off
  refine wpAny_call ?_
  k_dflt (walk_at "MyEnter")
  intro g' L' h' FG' F' N' B' X' T'
  replace F' := fr_cast F' (m' := fun y => List.lookup y [(Str.ofString "delimiter", .bytes ([] : List UInt8).toArray u), (Str.ofString "octets", .bytes ob.toArray t)]) rfl
  try dsimp only
  try k_fold
  k_steps
  unfold Stop
  k_dflt (refine' (first_at_raises ho).use (s := ⟨_, _, _, _, _⟩) ?k1 ?k2 ?k3 ?k4 ?k5 ?kF ?kK ?kd ?ku ?_; walk_at "MyUse")
  intro e t1 xs g2 h2 tk2 FG2 R2 U2
  refine leave_onS B' FG2 R2 U2 fun h3 R3 _ U3 => ?_
  exact hret _ _ _ _ _ _ FG' R3 U3
local macro_rules | `(tactic| walk_at "call ref") => `(tactic| ((with_reducible show wpAny _ _ (call (Value.ref 76) _) _ _ _); refine Stop.out ?_))
theorem strung_raises {w : World} {ob g : List UInt8} {rv : Value} {tg tb : Tok} {news : Led} (ho : ob.length < 1000000) (hg : g.length < 1000) (hg1 : 1 ≤ g.length) (hr : DatIn news rv (.list [rowD (ob, some [])])) :
    SpecX w 30 83 [rv, .bytes g.toArray tg, .int 1 tb] news := by
  unfold SpecX
  intro mean mg mb dp un gd env outer A₀ base h₀ L m s Q E B F X N T hf hk hd hu hret
  obtain ⟨ax, vs, nn, rfl, hax, hall⟩ := dat_list hr
  w_top off
  refine wpAny_call ?_
  k_dflt (walk_at "MyEnter")
  intro g' L' h' FG' F' N' B' X' T'
  replace F' := fr_cast F' (m' := fun y => List.lookup y [(Str.ofString "begin", .int 1 tb), (Str.ofString "goal", .bytes g.toArray tg), (Str.ofString "rows", .ref ax)]) rfl
  try dsimp only
  try k_fold
  k_steps
  · unfold Stop
    have hl1 : vs.length = 1 := hall.length
    refine list_rule (fun i m₁ nx => nx = news ∧ i = 0) rfl (by assumption) (by assumption) hax rfl rfl ⟨rfl, rfl⟩ (fun _ _ _ hJ => hJ.1 ▸ hax) ?_ ?_
    · rintro i v m₁ nx h tk own hv hoff ⟨hnx, rfl⟩ F₁ N₁
      subst hnx
      obtain ⟨r, hri, hdr⟩ := dat_get (f := rowD) (rows := [(ob, some [])]) hall hv
      obtain rfl : (ob, some []) = r := by simpa using hri
      obtain ⟨a, to, u, n, rfl, hma⟩ := dat_row hdr
      dsimp only [markV] at hma
      k_steps
      unfold Stop
      k_dflt (refine' (sent_raises ho).use (s := ⟨_, _, _, _, _⟩) ?k1 ?k2 ?k3 ?k4 ?k5 ?kF ?kK ?kd ?ku ?_; walk_at "MyUse")
      intro e t1 xs g2 h2 tk2 FG2 R2 U2
      refine leave_onS B' FG2 R2 U2 fun h3 R3 _ U3 => ?_
      exact hret _ _ _ _ _ _ FG' (Exi.raised_sub R3 fun p hp => List.mem_append_left _ hp) U3
    · rintro m₁ nx h tk ⟨hnx, h0⟩ F₁ N₁
      omega
  all_goals (exfalso; omega)
end
section
local macro_rules | `(tactic| walk_at "Pad") => `(tactic| skip)
local macro_rules | `(tactic| walk_at "Pad") => `(tactic| skip)
local macro_rules | `(tactic| walk_at "callWith") => `(tactic| ((with_reducible show wpAny _ _ (callWith _ _ _ _ _) _ _ _); (dsimp only); (refine callWith_method1 ?_ ?cwB ?cwC); (case cwC | cwB => rfl)))
local macro_rules | `(tactic| walk_at "call builtin:list.append") => `(tactic| (k_here; (with_reducible show wpAny _ _ (call (Value.builtin _) [Value.ref _, _]) _ _ _); refine Stop.out ?_))
namespace Exi
section
variable {prog : Program} {w : World} {A₀ A : Around} {s : Shared} {base h₀ : Heap} {L : Addr} {m : Str → Option Value} {news : Led} {K : Frag} {p : Program} {loose : List Str} {mean : ExcName → Option Value} {mg mb : Str → Option Value}
  {R : Result → Shared → Prop} {env : Env} {name qual : Str} {params : Arguments} {body : List Stmt} {scope : Scope} {dV kV doc pm cdv ct oc : Value} {an od : Option Addr} {osl : Array (Option Value)} {f : Addr} {args : Args} {binds : List (Str × Value)}
/-- a def with a try, called from the law's own frame (of any make, with cells too) -/
theorem enter_try (B : Below A₀ base [] h₀) (F : Fr h₀ L s.heap m) (X₀ : K.In h₀) (N : News h₀ L s.heap news) (T : Top p loose mean mg mb h₀) (hA : A.frames = some [env]) (hf : env.frame = some L) (hke : env.scope.kind = .function)
    (ho : K.lookup f = some ⟨oc, od, .func (fnOf name qual params body scope dV kV doc pm an cdv ct), osl⟩) (hcd : codeIn K cdv qual = true) (hroom : A.depth < recursionLimit)
    (hbind : BindsTo s (fnOf name qual params body scope dV kV doc pm an cdv ct) args binds) (hloc : ∀ y ∈ binds, scope.names.lookup y.1 = some .local)
    (h : ∀ g L' h₁, Fr h₀ L g m → Fr g L' h₁ (fun y => binds.reverse.lookup y) → News g L' h₁ news → Below A base [env] g → K.In g → Top p loose mean mg mb g → KtsDicts ([env].filterMap (·.frame)) g →
      wpAny (model prog w) (A.deeper (envOf qual scope L' f cdv)) (execs body (envOf qual scope L' f cdv))
        (fun fl s' => LeaveS0 ([env].filterMap (·.frame)) h₀ L m g R (match fl with | .ret v => v | _ => .none) s')
        (fun e s' => wpAny (model prog w) (A.deeper (envOf qual scope L' f cdv)) (leaving (envOf qual scope L' f cdv) e) (fun _ s'' => R (.error e) s'') (fun e' s'' => R (.error e') s'') s')
        { s with heap := h₁, toks := s.toks + binds.length })
    (hco : scope.isCoroutine = false) (hgen : scope.isGenerator = false) (hk : scope.kind = .function) (hcell : ∀ x ∈ scope.names, x.2 ≠ .cell) : codeAny (model prog w) A (.call (.ref f) args) R s := by
  have Xs := X₀.keeps F.keep
  have hfr : ∀ b ∈ [env].filterMap (·.frame), b = L := fun b hb => by
    obtain ⟨e1, he1, hb1⟩ := List.mem_filterMap.mp hb
    rw [List.mem_singleton.mp he1, hf] at hb1
    exact (Option.some.inj hb1).symm
  obtain ⟨oL, es, ep, hL, hLd, hLk, hLf⟩ := F.ns
  have nL : L ∉ news.map (·.1) := fun q => by
    obtain ⟨p, hp, e⟩ := List.mem_map.mp q
    exact (N p hp).2.1 e
  have nL₀ : h₀.get? L = none := kts_self F
  have hLg := hideAll_get (news.map (·.1)) hL nL
  have st : h₀.StaysIn (hideAll s.heap (news.map (·.1))) := fun b o e => hideAll_get _ (F.keep b o e) fun q => by
    obtain ⟨p, hp, rfl⟩ := List.mem_map.mp q
    rw [(N p hp).2.2] at e
    cases e
  have nsG : ∀ (sl : Array (Option Value)) (h' : Heap), h'.get? L = some { oL with slots := sl } → h'.Ns L m := fun sl h' e => ⟨_, es, ep, e, hLd, hLk, hLf⟩
  have Bg : Below A base [env] (hideAll s.heap (news.map (·.1))) := by
    refine ⟨hA, fun b o e => st b o (B.stays b o e), ?_⟩
    refine .cons (by rw [hke]; decide) hf (nsG oL.slots _ hLg) ?_ trivial
    cases q : base.get? L with
    | none => rfl
    | some o => rw [B.stays L o q] at nL₀; cases nL₀
  refine codeAny_call_def (fd := fnOf name qual params body scope dV kV doc pm an cdv ct) (body := body) (binds := binds) hroom (Xs _ _ ho) rfl (T.nolimit.keeps F.keep) (codeRec_of Xs hcd) rfl hbind hcell hloc (fun h₁ hns hk₁ => ?_) hco hgen hk
  refine wpAny_mono (h _ s.heap.objs.size h₁ ⟨nsG oL.slots _ hLg, st, F.above⟩ ⟨hns, fun b o e => hk₁ b o (of_hideAll _ e), Nat.le_of_eq (hideAll_size _ _)⟩
    (fun p hp => ⟨hk₁ _ _ (N p hp).1, Nat.ne_of_lt (Heap.lt_size (N p hp).1), hideAll_none _ (List.mem_map_of_mem hp)⟩) Bg (X₀.keeps st) (T.keeps st) fun b hb => by
      rw [hfr b hb]
      exact ⟨oL, es, ep, hLg, hLd⟩) (fun fl s' hl => ?_) fun _ _ y => y
  obtain ⟨g', L', m', news', T', F', N', k⟩ := hl
  obtain ⟨sl, hs⟩ := T'.up hLg
  refine k ⟨nsG sl _ (F'.keep _ _ hs), fun b o e => F'.keep b o (T'.other b o (st b o e) fun q => ?_), F.above⟩ fun p hp => ⟨(N' p hp).1, fun q => ?_, ?_⟩
  · rw [hfr b q, nL₀] at e
    cases e
  · have h1 := (N' p hp).2.2
    rw [q, hs] at h1
    cases h1
  · cases q : h₀.get? p.1 with
    | none => rfl
    | some o =>
      obtain ⟨sl', hs'⟩ := T'.up (st _ _ q)
      have h1 := (N' p hp).2.2
      rw [hs'] at h1
      cases h1
end
end Exi
/-- as Spec, from the law's own frame alone (nothing below it) -/
def SpecT (w : World) (n : Nat) (f : Addr) (vs : List Value) (news : Led) (Post : Value → Led → Prop) : Prop :=
  ∀ (mean : ExcName → Option Value) (mg mb : Str → Option Value) (dp un : Nat) (gd : Option (List Code)) (env : Env) (A₀ : Around) (base h₀ : Heap) (L : Addr) (m : Str → Option Value) (s : Shared) (Q E : Value → Shared → Prop),
    Below A₀ base [] h₀ → Fr h₀ L s.heap m → (hd.heap_39 w.params).In h₀ → (hd.heap_39 w.params).In base → Top hd.view_39 (looseW hd.view_39 [Str.ofString "LedgerError"]) mean mg mb base → News h₀ L s.heap news → Top hd.view_39 (looseW hd.view_39 [Str.ofString "LedgerError"]) mean mg mb h₀ → env.frame = some L → env.scope.kind = .function →
    dp + n < recursionLimit → un + 8 * n < cLine →
    (∀ r news' h' tk', Fr h₀ L h' m → News h₀ L h' news' → Post r news' → Q r { s with heap := h', toks := tk' }) →
    wpAny (model PySem.Challenge.rw_og0068_01.row.prog w) { handled := none, depth := dp, frames := some [env], guards := gd, units := un } (call (.ref f) vs) Q E s
local macro_rules | `(tactic| walk_at "MyEnterT") => `(tactic| (refine' Exi.enter_try ?k1 ?k2 ?k3 ?k4 ?k5 ?kA ?kF ?kK ?k6 ?k7 ?k8 ?k9 ?kB ?_ ?c2 ?c3 ?c4 ?c5; (case kA => exact rfl); (case kF => assumption); (case kK => assumption); (case k1 => k_asm); (case k2 => k_asm); (case k3 => assumption); (case k4 => k_asm); (case k5 => assumption); (case k6 => k_is); (case k7 => k_is); (case k8 => ktr_room); (case k9 => exact BindsTo.of_eq rfl); (case c5 => decide); (case kB => exact locs rfl); (case c2 => exact rfl); (case c3 => exact rfl); (case c4 => exact rfl); k_whole))
local macro_rules | `(tactic| walk_at "call ref") => `(tactic| ((with_reducible show wpAny _ _ (call (Value.ref 83) _) _ _ _); refine Stop.out ?_))
theorem refused_spec {w : World} {ob gb : List UInt8} {t u : Tok} {news : Led} (ho : ob.length < 1000000) (hg : gb.length < 900) :
    SpecT w 40 178 [.bytes ob.toArray t, .bytes gb.toArray u] news (PostV news (.bool true)) := by
  unfold SpecT
  intro mean mg mb dp un gd env A₀ base h₀ L m s Q E B F X XB TB N T hf hk hd hu hret
  w_top off
  refine wpAny_call ?_
  k_dflt (walk_at "MyEnterT")
  intro g' L' h' FG' F' N' B' X' T' D'
  replace F' := fr_cast F' (m' := fun y => List.lookup y [(Str.ofString "goal", .bytes gb.toArray u), (Str.ofString "octets", .bytes ob.toArray t)]) rfl
  try dsimp only
  try k_fold
  k_steps
  unfold Stop
  k_dflt (refine' (strung_raises (ob := ob) (g := gb ++ [46]) (rv := .ref _) ho (by walk_at "Small") (by walk_at "Small") ?hr).use (s := ⟨_, _, _, _, _⟩) ?k1 ?k2 ?k3 ?k4 ?k5 ?kF ?kK ?kd ?ku ?_; walk_at "MyUse")
  case hr =>
    simp only [rowD, markD]
    walk_at "MyDatB"
  intro e t1 xs g2 h2 tk2 FG2 R2 U2
  try dsimp only
  k_dflt (refine caught_SO0 (g₀ := g') R2 FG2 B' U2 XB TB D' KtsTurn.refl (by k_is) (by kernel_rfl) ?_)
  intro h5 g5 news2 T5 F5 N5 got N5l K5 X5 P5 D5
  clear N5 got R2 U2 FG2
  k_steps
  exact hret _ _ _ _ (by k_asm) (cb_drop (by k_asm) fun p hp => List.mem_cons_of_mem _ (List.mem_cons_of_mem _ hp)) ⟨rfl, rfl⟩
end
section
theorem ints_get : ∀ {vs : List Value} {ns : List Int}, IntsAre vs ns → ∀ {i : Nat} {v : Value}, vs[i]? = some v → ∃ n t, v = .int n t ∧ ns[i]? = some n
  | _, _, .nil, i, v, e => by simp at e
  | _, _, .cons n t r, 0, v, e => ⟨n, t, by simpa using e.symm, rfl⟩
  | _, _, .cons n t r, i + 1, v, e => by
    obtain ⟨n', t', h1, h2⟩ := ints_get r (i := i) (v := v) (by simpa using e)
    exact ⟨n', t', h1, by simpa using h2⟩
theorem pen_call {w : World} {sa : Addr} {vs : List Value} {ns : List Int} {news : Led}
    {mean : ExcName → Option Value} {mg mb : Str → Option Value} {dp un : Nat} {gd : Option (List Code)} {env : Env} {outer : List Env} {A₀ : Around} {base h₀ : Heap} {L : Addr} {m : Str → Option Value} {s : Shared} {Q E : Value → Shared → Prop}
    (B : Below A₀ base outer h₀) (F : Fr h₀ L s.heap m) (X : (Mine.hd.heap_39 w.params).In h₀) (N : News h₀ L s.heap news) (T : Top hd.view_39 (looseW hd.view_39 [Str.ofString "LedgerError"]) mean mg mb h₀) (hf : env.frame = some L) (hk : env.scope.kind = .function)
    (hd : dp + 20 < recursionLimit) (hu : un + 8 * 20 < cLine) (hl : h₀.IsList sa vs.toArray) (hI : IntsAre vs ns) (hz : vs.length ≤ 1000)
    (hret : ∀ pa ca xs ys q n t u h' tk', Fr h₀ L h' m → News h₀ L h' ((pa, listOf [.ref ca, .int 0 t, .int 0 u].toArray n) :: (ca, listOf xs.toArray q) :: news) → IntsAre xs ys → ys.length ≤ 48 → @LT.lt Nat _ ca pa → (∀ p ∈ news, @Ne Nat p.1 pa) → Q (.ref pa) { s with heap := h', toks := tk' }) :
    wpAny (model PySem.Challenge.rw_og0068_01.row.prog w) { handled := none, depth := dp, frames := some (env :: outer), guards := gd, units := un } (call (.ref 116) [.ref sa]) Q E s := by
  w_top off
  refine wpAny_call ?_
  k_dflt (walk_at "MyEnter")
  intro g' L' h' FG' F' N' B' X' T'
  replace F' := fr_cast F' (m' := fun y => List.lookup y [(Str.ofString "script", .ref sa)]) rfl
  have hl' : g'.IsList sa vs.toArray := by
    obtain ⟨o, ho, r⟩ := hl
    exact ⟨o, FG'.keep _ _ ho, r⟩
  try dsimp only
  try k_fold
  k_steps
  unfold Stop
  rename_i D ws h1 F1 N1 l1 hI1 hC1 hL1
  have hw1 : ws.length = (ns.take 48).length := hI1.length
  refine LCg.CompSrc.ledger (its := ws.toArray) rfl F1 N1 List.mem_cons_self (fits_of (by rw [List.size_toArray]; omega)) ?_
  intro g9
  rw [List.size_toArray]
  refine Lc.comp_rule (fun i ys nx => nx = (D, listOf ws.toArray 0) :: news ∧ IntsAre ys ((ns.take 48).take i)) ⟨rfl, .nil⟩ ?_ ?_
  · rintro i ys nx v I oI C oC D6 m₂ h tk E' hi hv ⟨hnx, hys⟩ hn hx F₁ N₁ hoff hne
    subst hnx
    obtain ⟨z, tz, rfl, hz2⟩ := ints_get hI1 (i := i) (v := v) (by simpa using hv)
    k_steps
    unfold Stop
    refine LCg.CompEnd.intro (by k_asm) (by k_asm) _ (fun _ h => h) hoff (.inr ⟨_, List.mem_cons_self, rfl, _, rfl⟩) ⟨rfl, ?_⟩
    rw [List.take_add_one, hz2]
    exact intsAre_append hys (.cons _ _ .nil)
  · rintro ys nx ⟨hnx, hys⟩
    subst hnx
    rw [hw1, List.take_length] at hys
    intro D6 h6 tk6 F6 N6 off6
    dsimp only
    k_steps
    rename_i l7 h7 F7 N7 l8 kF7 kN7 T7 X7
    refine hret l7 D6 ys (ns.take 48) ys.length 0 tk6 (tk6 + 1) h7 _ kF7 (cb_drop kN7 fun p hp => ?_) hys (by omega) l8.1 (fun p hp => Nat.ne_of_lt (ktn_ltOf l8.2.2 p hp))
    simp only [List.mem_cons] at hp ⊢
    rcases hp with h | h | h
    · exact .inl h
    · exact .inr (.inl h)
    · exact .inr (.inr (.inr h))
end
section
local macro_rules | `(tactic| walk_at "MyCall") => `(tactic| (k_here; k_dflt (refine' (strung_spec ?c1 ?c2 ?c3 ?c4).useBIBD ?k1 ?k2 ?k3 ?k4 ?k5 ?kF ?kK ?kd ?ku ?_); walk_at "MyUse"; (case c1 => walk_at "MyDat"); (case c2 => walk_at "MyOk"); (case c3 => walk_at "Small"); (case c4 => omega); k_whole; intro _ _ _ _ _ _ _ F' N' _ _ _; (try dsimp only)))
local macro_rules | `(tactic| walk_at "MyCall") => `(tactic| (k_here; k_dflt (refine' (draw_spec (Pen.mk ?c1 ?c2) ?c3 ?c4 ?c5 ?c6).use ?k1 ?k2 ?k3 (Front.drop ?k4 ?fr) ?k5 ?kF ?kK ?kd ?ku ?_); walk_at "MyUseP"; k_whole; intro _ _ _ _ F' N' hpost; (try dsimp only at hpost); (obtain ⟨⟨_, _, hre, _, _⟩, _, _, _, _, _, hne, _, _⟩ := hpost); (subst hre); (subst hne); (try dsimp only)))
local macro_rules | `(tactic| walk_at "MyCall") => `(tactic| (k_here; k_dflt (refine' (pick_bytes_spec (Pen.mk ?c1 ?c2) ?c3 ?c4 ?c5 ?c6).use ?k1 ?k2 ?k3 (Front.drop ?k4 ?fr) ?k5 ?kF ?kK ?kd ?ku ?_); walk_at "MyUseP"; k_whole; intro _ _ _ _ F' N' hpost; (try dsimp only at hpost); (obtain ⟨⟨_, _, hre, _⟩, _, _, _, _, _, hne, _, _⟩ := hpost); (subst hre); (subst hne); (try dsimp only)))
local macro_rules | `(tactic| walk_at "MyCall") => `(tactic| (k_here; k_dflt (refine' (text_spec (Pen.mk ?c1 ?c2) ?c3 ?c4 ?c5 ?c6 ?c7 ?c8).use ?k1 ?k2 ?k3 (Front.drop ?k4 ?fr) ?k5 ?kF ?kK ?kd ?ku ?_); (case c7 | c8 => omega); walk_at "MyUseP"; k_whole; intro _ _ _ _ F' N' hpost; (try dsimp only at hpost); (obtain ⟨⟨_, _, hre, _, _⟩, _, _, _, _, _, hne, _, _⟩ := hpost); (subst hre); (subst hne); (try dsimp only)))
local macro_rules | `(tactic| walk_at "Small") => `(tactic| first | omega | (simp only [List.length_append, cutI_length, List.length_cons, List.length_nil, List.length_replicate]; omega))
local macro_rules | `(tactic| walk_at "MyCall") => `(tactic| (k_here; k_dflt (refine' (unstrung_spec ?c1 ?c2 ?c3 ?c4 ?c5).useD ?k1 ?k2 ?k3 ?k4 ?k5 ?kF ?kK ?kd ?ku ?_); walk_at "MyUse"; (case c1 => walk_at "MyDatB"); (case c2 | c3 | c4 | c5 => omega); k_whole; intro _ _ _ _ F' N' _ _; (try dsimp only)))
local macro_rules | `(tactic| walk_at "call ref") => `(tactic| (k_dflt (walk_at "MyCall")))
theorem mark_of {os : List UInt8} {t1 t2 t3 t4 : Tok} {r : Value} (h : r ∈ [Value.none, Value.none, Value.bytes #[44] t1, Value.bytes #[66, 44] t2, Value.bytes #[65] t3, Value.bytes (os ++ [65]).toArray t4]) (ho : (os.length : Int) ≤ 6) :
    ∃ mk u, r = markV mk u ∧ ∀ d, mk = some d → d.length < 1000000 ∧ 0 < d.length := by
  simp only [List.mem_cons, List.not_mem_nil, or_false] at h
  rcases h with rfl | rfl | rfl | rfl | rfl | rfl
  · exact ⟨none, 0, rfl, fun d e => nomatch e⟩
  · exact ⟨none, 0, rfl, fun d e => nomatch e⟩
  · exact ⟨some [44], t1, rfl, fun d e => by cases e; decide⟩
  · exact ⟨some [66, 44], t2, rfl, fun d e => by cases e; decide⟩
  · exact ⟨some [65], t3, rfl, fun d e => by cases e; decide⟩
  · exact ⟨some (os ++ [65]), t4, rfl, fun d e => by
      cases e
      rw [List.length_append, List.length_singleton]
      omega⟩
theorem begin_of {g : List UInt8} {t1 t2 t3 t4 t5 t6 t7 t8 t9 : Tok} {r : Value} (h : r ∈ [Value.int 1 t1, Value.int 1 t2, Value.int 1 t3, Value.int 2 t4, Value.int 3 t5, Value.int ((g.length : Nat) : Int) t6, Value.int (((g.length : Nat) : Int) + 1) t7, Value.int 0 t8, Value.int (-1) t9]) (hg : ((g.length : Nat) : Int) ≤ 12) :
    ∃ b u, r = .int b u ∧ -1 ≤ b ∧ b ≤ 13 := by
  simp only [List.mem_cons, List.not_mem_nil, or_false] at h
  rcases h with rfl | rfl | rfl | rfl | rfl | rfl | rfl | rfl | rfl
  all_goals exact ⟨_, _, rfl, by omega, by omega⟩
theorem mark_dat {nw : Led} (mk : Option (List UInt8)) (u : Tok) : DatIn nw (markV mk u) (markD mk) := by
  cases mk with
  | none => exact .none
  | some d => exact .bytes _ _
theorem SpecT.use {w : World} {n : Nat} {f : Addr} {vs : List Value} {news : Led} {Post : Value → Led → Prop} (S : SpecT w n f vs news Post)
    {mean : ExcName → Option Value} {mg mb : Str → Option Value} {dp un : Nat} {gd : Option (List Code)} {env : Env} {A₀ : Around} {h₀ : Heap} {L : Addr} {m : Str → Option Value} {s : Shared} {Q E : Value → Shared → Prop}
    (B : Below A₀ h₀ [] h₀) (F : Fr h₀ L s.heap m) (X : (Mine.hd.heap_39 w.params).In h₀) (N : News h₀ L s.heap news) (T : Top hd.view_39 (looseW hd.view_39 [Str.ofString "LedgerError"]) mean mg mb h₀) (hf : env.frame = some L) (hk : env.scope.kind = .function)
    (hd : dp + n < recursionLimit) (hu : un + 8 * n < cLine)
    (h : ∀ r news' h' tk', Fr h₀ L h' m → News h₀ L h' news' → Post r news' → Q r { s with heap := h', toks := tk' }) :
    wpAny (model PySem.Challenge.rw_og0068_01.row.prog w) { handled := none, depth := dp, frames := some [env], guards := gd, units := un } (call (.ref f) vs) Q E s :=
  S mean mg mb dp un gd env A₀ h₀ h₀ L m s Q E B F X X T N T hf hk hd hu h
theorem cases_small : ∀ c ∈ casesL, c.2.1.length < 900 ∧ c.2.2.1.natAbs < 1000000 := by decide
@[reducible] def LawA (pa ca L0 : Addr) (ps : List Value) (q i : Nat) (m₁ : Str → Option Value) (nx : Led) : Prop :=
  Has m₁ [(Str.ofString "pen", .ref pa)] ∧ ∃ (k c : Int) (t u : Tok) (n : Nat) (oc : Obj), nx = [(pa, listOf [.ref ca, .int k t, .int c u].toArray n), (ca, listOf ps.toArray q), (L0 + 1, oc)] ∧ 0 ≤ k ∧ k ≤ 100 * (i : Nat) ∧ ∃ dv, oc.data = .cell dv
@[reducible] def LawB (pa ra ca L0 : Addr) (ps : List Value) (q : Nat) (oc : Obj) (own : Led) (i j : Nat) (m₂ : Str → Option Value) (nx : Led) : Prop :=
  Has m₂ [(Str.ofString "pen", .ref pa), (Str.ofString "rows", .ref ra)] ∧ ∃ (rows : List Row) (vs : List Value) (k c : Int) (t u : Tok) (n n' : Nat) (rest2 : Led), nx = (pa, listOf [.ref ca, .int k t, .int c u].toArray n) :: (ra, listOf vs.toArray n') :: rest2 ∧ 0 ≤ k ∧ k ≤ 100 * (i : Int) + 1 + 8 * (j : Nat) ∧ (∀ p ∈ (ca, listOf ps.toArray q) :: (L0 + 1, oc) :: own, p ∈ rest2) ∧ OwnOff rest2 [pa] ∧ OwnOff rest2 [ra] ∧ DatAll rest2 vs (rows.map rowD) ∧ rows.length = j ∧ ∀ r ∈ rows, RowOk r
local macro_rules | `(tactic| walk_at "call ref") => `(tactic| ((with_reducible show wpAny _ _ (call (Value.ref 159) _) _ _ _); refine Stop.out ?_))
local macro_rules | `(tactic| walk_at "call ref") => `(tactic| ((with_reducible show wpAny _ _ (call (Value.ref 116) _) _ _ _); refine Stop.out ?_))
local macro_rules | `(tactic| walk_at "call ref") => `(tactic| ((with_reducible show wpAny _ _ (call (Value.ref 83) _) _ _ _); refine Stop.out ?_))
local macro_rules | `(tactic| walk_at "call ref") => `(tactic| ((with_reducible show wpAny _ _ (call (Value.ref 123) [_, Value.int 5 _]) _ _ _); refine Stop.out ?_))
local macro_rules | `(tactic| walk_at "call ref") => `(tactic| ((with_reducible show wpAny _ _ (call (Value.ref 130) [_, Value.ref _]) _ _ _); refine Stop.out ?_))
local macro_rules | `(tactic| walk_at "call ref") => `(tactic| ((with_reducible show wpAny _ _ (call (Value.ref 166) _) _ _ _); refine Stop.out ?_))
local macro_rules | `(tactic| walk_at "call ref") => `(tactic| ((with_reducible show wpAny _ _ (call (Value.ref 152) _) _ _ _); refine Stop.out ?_))
local macro_rules | `(tactic| walk_at "storeName") => `(tactic| ((with_reducible show wpAny _ _ (storeName _ ("start" : Str) _) _ _ _); refine Stop.out ?_))
local macro_rules | `(tactic| walk_at "call ref") => `(tactic| ((with_reducible show wpAny _ _ (call (Value.ref 140) _) _ _ _); refine Stop.out ?_))
local macro_rules | `(tactic| walk_at "call ref") => `(tactic| ((with_reducible show wpAny _ _ (call (Value.ref 69) _) _ _ _); refine Stop.out ?_))
local macro_rules | `(tactic| walk_at "call ref") => `(tactic| ((with_reducible show wpAny _ _ (call (Value.ref 171) _) _ _ _); refine Stop.out ?_))
local macro_rules | `(tactic| walk_at "call ref") => `(tactic| ((with_reducible show wpAny _ _ (call (Value.ref 178) _) _ _ _); refine Stop.out ?_))
local macro_rules | `(tactic| walk_at "compareOp NotEq ref ref") => `(tactic| ((with_reducible show wpAny _ _ (compareOp CmpOp.NotEq (Value.ref _) (Value.ref _)) _ _ _); refine Stop.out ?_))
local macro_rules | `(tactic| walk_at "callWith") => `(tactic| ((with_reducible show wpAny _ _ (callWith _ _ _ _ _) _ _ _); (dsimp only); (refine callWith_method1 ?_ ?cwB ?cwC); (case cwC => rfl); (case cwB => rfl)))
local macro_rules | `(tactic| walk_at "call builtin:list.append") => `(tactic| (k_here; (with_reducible show wpAny _ _ (call (Value.builtin _) [Value.ref _, _]) _ _ _); refine Stop.out ?_))
local macro_rules | `(tactic| walk_at "MyOff") => `(tactic| first | assumption | exact off_lt (by assumption) | (refine off_cons ?_ ?_; walk_at "MyNe"; walk_at "MyOff") | (refine off_app ?_ ?_; walk_at "MyOff"; walk_at "MyOff"))
local macro_rules | `(tactic| walk_at "MyNe") => `(tactic| first | assumption | ((try dsimp only); omega))
theorem law_walk : PySem.Challenge.rw_og0068_01.Holds := hd (by
  w_top off
  k_go0
  rename Shared => s₁
  rename_i sa vs la hL ra w1 r0 hI hr hc1 hc2 K0 hD h1 tk1 F o1 d1 N0 X0
  clear hD r0 w1 ra hr hc2 X0
  generalize hLL : s₁.heap.objs.size = L0 at F N0 ⊢
  rename_i cd0
  try dsimp only
  try k_fold
  replace F := fr_cast F (m' := fun y => if y = Str.ofString "script" then some (.ref sa) else none) rfl
  replace d1 : o1.data = .cell none := d1
  k_steps
  unfold Stop
  k_dflt (refine' cases_spec.use (s := ⟨_, _, _, _, _⟩) ?k1 ?k2 ?k3 ?k4 ?k5 ?kF ?kK ?kd ?ku ?_; walk_at "MyUse")
  rintro rc nx h2 tk2 F2 N2 ⟨hs2, hd2⟩
  clear N0
  obtain ⟨ax, xs, nn, rfl, hax, hall⟩ := dat_list hd2
  k_steps
  unfold Stop
  have hxl : xs.length = 9 := hall.length
  refine LCt.CompSrcT.ledger (its := xs.toArray) (k := nn) rfl F2 N2 hax (fits_of (by rw [List.size_toArray]; omega)) ?_
  intro g9
  rw [List.size_toArray]
  refine Lc.compT_rule (fun i ys nw => nw = nx ∧ ys = []) ⟨rfl, rfl⟩ ?_ ?_
  · rintro i ys nw v I oI C oC D m₂ h tk E' hi hv ⟨hnw, rfl⟩ hn hx F₁ N₁ hoff hne
    subst hnw
    obtain ⟨c, hci, hdc⟩ := dat_get (f := caseD) (rows := casesL) hall (i := i) (v := v) (by simpa using hv)
    have hcm := List.mem_of_getElem? hci
    have hcok := cases_ok c hcm
    have hcrow := cases_rows c hcm
    obtain ⟨hcs1, hcs2⟩ := cases_small c hcm
    clear hcm hci
    obtain ⟨crows, cg, cb, x1, x2, x3⟩ := c
    dsimp only [caseD] at hcok hcrow hcs1 hcs2 hdc
    obtain ⟨a, us, k, rfl, hma, hus⟩ := dat_tuple hdc
    obtain ⟨v1, r1, rfl, hv1, hus⟩ := dat_cons hus
    obtain ⟨v2, r2, rfl, hv2, hus⟩ := dat_cons hus
    obtain ⟨v3, r3, rfl, hv3, hus⟩ := dat_cons hus
    obtain ⟨v4, r4, rfl, hv4, hus⟩ := dat_cons hus
    obtain rfl := dat_nil hus
    obtain ⟨t2, rfl⟩ := dat_bytes hv2
    obtain ⟨t3, rfl⟩ := dat_int hv3
    obtain ⟨a4, us4, k4, rfl, hma4, hus4⟩ := dat_tuple hv4
    clear hdc hus
    k_steps
    unfold Stop
    k_dflt (refine' (strung_spec (rows := crows) (g := cg) (b := cb) ?c1 ?c2 ?c3 ?c4).useBIBD ?k1 ?k2 ?k3 ?k4 ?k5 ?kF ?kK ?kd ?ku ?_)
    walk_at "MyUse"
    (case c1 => walk_at "MyDat")
    (case c2 => walk_at "MyOk")
    (case c3 => walk_at "Small")
    (case c4 => omega)
    intro a5 t5 i5 k5 tl5 h5 tk5 F5 N5 n5 m5 d5
    clear N₁ F₁
    rw [hcok] at m5 d5
    dsimp only at m5 d5
    k_steps
    unfold Stop
    k_dflt (refine' ne_same_T (ds := [.bytes x1.toArray, .int x2, .bool x3]) ?k1 ?c1 ?c2 ?ku ?_; (case k1 => k_asm); (case c1 => exact d5); (case c2 => exact hv4.mono (by walk_at "MySub")); (case ku => ((simp only [dDeps, dDep, Nat.max_self, Nat.max_zero, Nat.zero_max]); ktr_units)))
    k_steps
    unfold Stop
    exact LCg.CompEnd.intro F5 N5 nw (fun p hp => List.mem_append_right _ hp) hoff (.inr ⟨_, hax, rfl, _, rfl⟩) ⟨rfl, rfl⟩
  · rintro ys nw ⟨hnw, hys⟩
    subst hnw
    subst hys
    intro D3 h3 tk3 F3 N3 off3
    clear N2 F2
    dsimp only
    k_steps
    unfold Stop
    rename_i l4 h4 F4 N4 l4'
    k_dflt (refine' ne_nil_F (vs := []) N4 ?c1 ?c2 ?ku ?_; (case c1 => k_mem); (case c2 => k_mem); (case ku => ktr_units))
    rw [show decide (0 < ([] : List Value).length) = false from rfl]
    replace N4 := cb_drop N4 (news := [(_, o1)]) (fun p hp => List.mem_cons_of_mem _ (List.mem_cons_of_mem _ (hs2 p hp)))
    k_steps
    unfold Stop
    k_dflt (refine' pen_call (s := ⟨_, _, _, _, _⟩) ?k1 ?k2 ?k3 ?k4 ?k5 ?kF ?kK ?kd ?ku hL hI ?hz ?_; walk_at "MyUse")
    case hz => rw [hI.length]; omega
    intro pa ca ps pis q n t u h5 tk5 F5 N5 hi5 hy5 hcp hpn
    have hcel : Cel pa ca [(ca, listOf ps.toArray q), (_, o1)] := ⟨fun p hp b hb => by
      rw [List.mem_singleton.mp hb]
      rcases List.mem_cons.mp hp with rfl | hp
      · exact Nat.ne_of_lt hcp
      · exact hpn p hp, ps, q, pis, List.mem_cons_self, hi5, hy5⟩
    k_steps
    unfold Stop
    rename_i h6 F6 N6 h7 tk7 t7 u7 v7 hr7 F7 N7 k7
    clear F6 N6 k7
    refine range_rule (n := 3) (LawA pa ca L0 ps q) rfl hr7 (by decide) (by decide) F7 N7 ⟨⟨rfl, trivial⟩, 0, 0, _, _, _, o1, rfl, by omega, by omega, _, d1⟩ ?_ ?_
    · rintro i ti m₁ nx h tk own hi hoff ⟨hm, k, c, t1, u1, n1, oc, rfl, hk0, hk1, dv, hdv⟩ F₁ N₁
      rw [map_many _ hm] at F₁
      simp only [List.cons_append, List.nil_append] at N₁
      have hce : Cel pa ca ((ca, listOf ps.toArray q) :: (L0 + 1, oc) :: own) := ⟨fun p hp b hb => by
        rw [List.mem_singleton.mp hb]
        rcases List.mem_cons.mp hp with rfl | hp
        · exact Nat.ne_of_lt hcp
        · rcases List.mem_cons.mp hp with rfl | hp
          · exact hpn (L0 + 1, o1) List.mem_cons_self
          · exact hoff p hp pa List.mem_cons_self, ps, q, pis, List.mem_cons_self, hi5, hy5⟩
      have hkb : k ≤ 100 * (i : Int) := hk1
      k_steps
      unfold Stop
      rename_i ra h8e F8e N8e l8 h8 F8 N8
      clear F8e N8e
      k_dflt (refine' (draw_spec (Pen.mk hk0 hkb) ?c3 ?c4 ?c5 ?c6).use (s := ⟨_, _, _, _, _⟩) ?k1 ?k2 ?k3 (Front.drop N8 ?fr) ?k5 ?kF ?kK ?kd ?ku ?_)
      case fr => walk_at "MyFront"
      case k1 => k_asm
      case k2 => k_asm
      case k3 => k_asm
      case k5 => k_asm
      case kF => exact rfl
      case kK => exact rfl
      case kd => ktr_room
      case ku => ktr_units
      case c3 => walk_at "MyCel"
      case c4 => omega
      case c5 => decide
      case c6 => decide
      rintro r9 nx9 h9 tk9 F9 N9 ⟨⟨d, td, rfl, hd0, hd5⟩, k2, c2, t2, u2, n2, rfl, hk20, hk21⟩
      have hdd : Stop (0 ≤ d ∧ d < 5) := ⟨hd0, hd5⟩
      clear hd0 hd5 N8 F8
      k_steps
      unfold Stop
      rename_i F9 N9 h10 tk10 ta ua va hr10 F10 N10 k10
      clear F9 N9 k10
      obtain ⟨hd0, hd5⟩ := hdd.out
      refine range_rule (n := d.toNat) (LawB pa ra ca L0 ps q oc own i) rfl hr10 (small_one (by omega) (by omega) (by omega) (by omega)) (by rw [rangeSize_nat]; congr 1; omega) F10 N10
        ⟨⟨rfl, rfl, trivial⟩, [], [], k2, c2, t2, u2, n2, 0, _, rfl, hk20, by omega, fun _ h => h, hce.1, off_lt (fun p hp => ?_), .nil, rfl, fun _ h => nomatch h⟩ ?_ ?_
      · rcases List.mem_cons.mp hp with rfl | hp
        · exact l8.2.1
        · rcases List.mem_cons.mp hp with rfl | hp
          · exact l8.2.2.1
          · exact ktn_ltOf l8.2.2.2 p hp
      · rintro j tj m₂ nx h tk own2 hj hoff2 ⟨hm2, rows, vs2, k, c, t, u, n, n', rest2, rfl, hk0, hk1, hb2, hop, hor, hdat, hlen, hok⟩ F₁ N₁
        rw [map_many _ hm2] at F₁
        simp only [List.cons_append] at N₁
        have hce2 : Cel pa ca (rest2 ++ own2) := ⟨off_app hop (fun p hp b hb => by rw [List.mem_singleton.mp hb]; exact hoff2 p hp pa List.mem_cons_self), ps, q, pis, List.mem_append_left _ (hb2 _ List.mem_cons_self), hi5, hy5⟩
        k_steps
        unfold Stop
        rename_i e1 e2 e3 os tos hol hom kA cA tA uA nA hkA0 hkA1 e4 e5 tA2 nA2 sb hB FB NB lB
        clear e3 e4
        k_dflt (refine' (pick_list_spec (Pen.mk hkA0 hkA1) ?c3 ?hs ?c4 ?c5 ?c6).use (s := ⟨_, _, _, _, _⟩) ?k1 ?k2 ?k3 (Front.drop NB ?fr) ?k5 ?kF ?kK ?kd ?ku ?_)
        case fr => walk_at "MyFront"
        case k1 => k_asm
        case k2 => k_asm
        case k3 => k_asm
        case k5 => k_asm
        case kF => exact rfl
        case kK => exact rfl
        case kd => ktr_room
        case ku => ktr_units
        case c3 => walk_at "MyCel"
        case hs => k_mem
        case c4 => omega
        case c5 => exact Nat.le_of_ble_eq_true rfl
        case c6 => exact Nat.le_of_ble_eq_true rfl
        rintro r9 nx9 h9 tk9 F9 N9 ⟨hr9, k9, c9, t9, u9, n9, rfl, hk90, hk91⟩
        obtain ⟨mk, um, rfl, hmk⟩ := mark_of hr9 hol
        clear NB FB hr9
        k_steps
        unfold Stop
        rename_i Dt hD FD ND lD
        have hown2 : OwnOff own2 [ra] := fun p hp b hb => by rw [List.mem_singleton.mp hb]; exact hoff2 p hp ra (List.mem_cons_of_mem _ List.mem_cons_self)
        refine' append_F FD ND ?kC ?kD ?kE ?_
        case kC => walk_at "MyFront"
        case kD => walk_at "MyOff"
        case kE =>
          have := hdat.length
          rw [List.length_map] at this
          omega
        intro hE FE NE
        clear ND FD
        k_steps
        unfold Stop
        have noff1 : OwnOff ((Dt, ({ cls := .type "tuple", data := .seq [.bytes os.toArray tos, markV mk um].toArray 0 } : Obj)) :: rest2) [pa] := off_cons (Nat.ne_of_gt lD.1) hop
        have noff2 : OwnOff ((Dt, ({ cls := .type "tuple", data := .seq [.bytes os.toArray tos, markV mk um].toArray 0 } : Obj)) :: rest2) [ra] := off_cons (Nat.ne_of_gt lD.2.2.1) hor
        refine InvEndG.intro (by k_asm) (by k_asm) (nx := (pa, listOf [.ref ca, .int k9 t9, .int c9 u9].toArray n9) :: (ra, listOf (vs2 ++ [Value.ref Dt]).toArray (n' + 1)) :: (Dt, ({ cls := .type "tuple", data := .seq [.bytes os.toArray tos, markV mk um].toArray 0 } : Obj)) :: rest2) ⟨⟨rfl, rfl, trivial⟩, rows ++ [(os, mk)], _, k9, c9, t9, u9, n9, _, _, rfl, hk90, by omega, fun p hp => List.mem_cons_of_mem _ (hb2 p hp), noff1, noff2, ?_, by rw [List.length_append, hlen]; rfl, ?_⟩ ?_ ?_ ?_
        · rw [List.map_append]
          exact (hdat.mono fun p hp => List.mem_cons_of_mem _ hp).append (.one (DatIn.tuple List.mem_cons_self (.cons (.bytes _ _) (.cons (mark_dat mk um) .nil))))
        · intro r hr
          rcases List.mem_append.mp hr with hr | hr
          · exact hok r hr
          · rw [List.mem_singleton.mp hr]
            exact ⟨by dsimp only; omega, hmk⟩
        · intro p hp b hb
          rcases List.mem_cons.mp hb with rfl | hb
          · exact hoff2 p hp _ List.mem_cons_self
          · rcases List.mem_cons.mp hb with rfl | hb
            · exact hoff2 p hp _ (List.mem_cons_of_mem _ List.mem_cons_self)
            · rcases List.mem_cons.mp hb with rfl | hb
              · exact Nat.ne_of_lt (ktn_ltOf lD.2.2.2 p (List.mem_append_right _ hp))
              · exact hoff2 p hp b (List.mem_cons_of_mem _ (List.mem_cons_of_mem _ hb))
        · intro p hp
          simp only [List.mem_cons, List.mem_append] at hp ⊢
          rcases hp with h | h | h | h <;> simp only [h, true_or, or_true]
        · intro p hp
          simp only [List.mem_cons, List.mem_append, hp, or_true]
      · rintro m₂ nx h tk ⟨hm2, rows, vs2, k, c, t, u, n, n', rest2, rfl, hk0, hk1, hb2, hop, hor, hdat, hlen, hok⟩ F₁ N₁
        rw [map_many _ hm2] at F₁
        have hk2 : k ≤ 100 * (i : Int) + 33 := by omega
        have hlen4 : rows.length ≤ 4 := by omega
        have hce3 : Cel pa ca rest2 := ⟨hop, ps, q, pis, hb2 _ List.mem_cons_self, hi5, hy5⟩
        have hrap : @Ne Nat ra pa := Nat.ne_of_gt l8.1
        k_steps
        unfold Stop
        rename_i e1 e2 e3 gs tgs hgl hgm kA cA tA uA nA hkA0 hkA1 e4 e5 tB kB tB2 kB2 sb hB FB NB lB
        clear e3 e4
        k_dflt (refine' (pick_list_spec (Pen.mk hkA0 hkA1) ?c3 ?hs ?c4 ?c5 ?c6).use (s := ⟨_, _, _, _, _⟩) ?k1 ?k2 ?k3 (Front.drop NB ?fr) ?k5 ?kF ?kK ?kd ?ku ?_)
        case fr => walk_at "MyFront"
        case k1 => k_asm
        case k2 => k_asm
        case k3 => k_asm
        case k5 => k_asm
        case kF => exact rfl
        case kK => exact rfl
        case kd => ktr_room
        case ku => ktr_units
        case c3 => walk_at "MyCel"
        case hs => k_mem
        case c4 => omega
        case c5 => exact Nat.le_of_ble_eq_true rfl
        case c6 => exact Nat.le_of_ble_eq_true rfl
        rintro r9 nx9 h9 tk9 F9 N9 ⟨hr9, k9, c9, t9, u9, n9, rfl, hk90, hk91⟩
        obtain ⟨b, tb, rfl, hb0, hb1⟩ := begin_of hr9 hgl
        clear NB FB hr9
        replace N9 := cb_drop N9 (news := (pa, listOf [.ref ca, .int k9 t9, .int c9 u9].toArray n9) :: (ra, listOf vs2.toArray n') :: rest2) (fun p hp => by
          simp only [List.mem_cons] at hp ⊢
          rcases hp with h | h | h <;> simp only [h, true_or, or_true])
        have hrowD : DatIn ((ra, listOf vs2.toArray n') :: rest2) (.ref ra) (.list (rows.map rowD)) := DatIn.list List.mem_cons_self (hdat.mono fun p hp => List.mem_cons_of_mem _ hp)
        have hgl2 : gs.length < 900 := by omega
        have hbn : b.natAbs < 10000 := by omega
        k_steps
        unfold Stop
        rename_i hC FC NC
        have hrowC := hrowD.mono (news' := (pa, listOf [.ref ca, .int k9 t9, .int c9 u9].toArray n9) :: (ra, listOf vs2.toArray n') :: rest2) fun p hp => List.mem_cons_of_mem _ hp
        k_dflt (refine' (strung_spec (rows := rows) (g := gs) (b := b) hrowC hok ?c3 ?c4).useBIBD (s := ⟨_, _, _, _, _⟩) ?k1 ?k2 ?k3 ?k4 ?k5 ?kF ?kK ?kd ?ku ?_; walk_at "MyUse"; (case c3 => omega); (case c4 => omega))
        intro a5 t5 i5 kk5 tl5 h5 tk5 F5 N5 hn5 hm5 hd5'
        clear FC NC
        k_steps
        unfold Stop
        k_dflt (refine' (due_spec (rows := rows) (g := gs) (b := b) (hrowC.mono ?cs) hok ?c2 ?c3 ?c4).useBIBD (s := ⟨_, _, _, _, _⟩) ?k1 ?k2 ?k3 ?k4 ?k5 ?kF ?kK ?kd ?ku ?_; walk_at "MyUse"; (case cs => exact fun p hp => List.mem_append_right _ hp); (case c2 => omega); (case c3 => omega); (case c4 => omega))
        intro a6 t6 i6 kk6 tl6 h6 tk6 F6 N6 hn6 hm6 hd6
        rw [due_eq] at hm6 hd6
        clear F5 N5
        k_steps
        unfold Stop
        k_dflt (refine' ne_same_T (ds := [.bytes (strungF rows gs b).1.toArray, .int (strungF rows gs b).2.1, .bool (strungF rows gs b).2.2]) N6 ?c1 ?c2 ?ku ?_; (case c1 => exact hd5'.mono fun p hp => List.mem_append_right _ hp); (case c2 => exact hd6); (case ku => ((simp only [dDeps, dDep, Nat.max_self, Nat.max_zero, Nat.zero_max]); ktr_units)))
        replace N6 := cb_drop N6 (news := (pa, listOf [.ref ca, .int k9 t9, .int c9 u9].toArray n9) :: (ra, listOf vs2.toArray n') :: rest2) (fun p hp => List.mem_append_right _ (List.mem_append_right _ hp))
        have hvl : vs2.length = rows.length := by rw [hdat.length, List.length_map]
        k_steps
        unfold Stop
        rename_i e7 e8 hC e9 FC fz tfz hf0 hf1 kA2 cA2 tA2 uA2 nA2 hk30 hk31 NC
        obtain ⟨f, rfl⟩ : ∃ f : Nat, fz = (f : Int) := ⟨fz.toNat, by omega⟩
        k_dflt (refine' (in_two_spec (rows := rows) (g := gs) (b := b) (f := f) (hrowD.mono ?cs) hok ?c2 ?c3 ?c4 ?c5).useV (s := ⟨_, _, _, _, _⟩) ?k1 ?k2 ?k3 ?k4 ?k5 ?kF ?kK ?kd ?ku ?_; walk_at "MyUse"; (case cs => exact fun p hp => List.mem_cons_of_mem _ hp); (case c2 => omega); (case c3 => omega); (case c4 => omega); (case c5 => omega))
        intro h11 tk11 F11 N11
        clear NC FC F6 N6
        replace N11 := cb_drop N11 (news := (pa, listOf [.ref ca, .int kA2 tA2, .int cA2 uA2].toArray nA2) :: (ca, listOf ps.toArray q) :: (L0 + 1, oc) :: own) (fun p hp => by
          rcases List.mem_cons.mp hp with rfl | hp
          · exact List.mem_cons_self
          · exact List.mem_cons_of_mem _ (List.mem_cons_of_mem _ (hb2 p hp)))
        have hk3 : kA2 ≤ 100 * (i : Int) + 48 := by omega
        clear hrowC hrowD hok hdat hce3 hvl hf1 hlen hlen4 hb2 hop hor hb0 hb1
        k_steps
        unfold Stop
        rename_i z1 z2 os tos hol hom kB cB tB uB nB hkB0 hkB1 z3 z4 ws tws hwl hwm kC cC tC uC nC hkC0 hkC1 tw nw z5 z6 st tst hs0 hs1 kD cD tD uD nD hkD0 hkD1 Dt z7 lD z8 z9 hE FE NE
        replace NE := cb_drop NE (news := (pa, listOf [.ref ca, .int kD tD, .int cD uD].toArray nD) :: (ca, listOf ps.toArray q) :: (L0 + 1, oc) :: own) (fun p hp => List.mem_cons_of_mem _ hp)
        have hcaL : @Ne Nat ca (L0 + 1) := fun z => by
          have g1 := (NE _ (List.mem_cons_of_mem _ List.mem_cons_self)).1
          have g2 := (NE _ (List.mem_cons_of_mem _ (List.mem_cons_of_mem _ List.mem_cons_self))).1
          dsimp only at g1 g2
          rw [show ca = L0 + 1 from z, g2] at g1
          cases g1
          cases hdv
        have hU : UpdF (L0 + 1) oc ((pa, listOf [.ref ca, .int kD tD, .int cD uD].toArray nD) :: (ca, listOf ps.toArray q) :: (L0 + 1, oc) :: own) _ := .tail (Ne.symm (hpn (L0 + 1, o1) List.mem_cons_self)) (.tail hcaL (.head fun p hp => hoff p hp (L0 + 1) (List.mem_cons_of_mem _ (List.mem_cons_of_mem _ List.mem_cons_self))))
        k_dflt (refine' storeX_C FE NE rfl hU hdv ?_ rfl rfl)
        intro h12 o2 F12 N12 hd2'
        clear FE NE hU
        k_steps
        unfold Stop
        obtain ⟨sn, rfl⟩ : ∃ sn : Nat, st = (sn : Int) := ⟨st.toNat, by omega⟩
        have hlaw := first_law os (65 :: ws) sn
        k_dflt (refine' (places_spec (ob := os) (wb := 65 :: ws) ?c1 ?c2).useL (s := ⟨_, _, _, _, _⟩) ?k1 ?k2 ?k3 ?k4 ?k5 ?kF ?kK ?kd ?ku ?_; walk_at "MyUse"; (case c1 => omega); (case c2 => rw [List.length_cons]; omega))
        intro pl us kp tl13 h13 tk13 F13 N13 hn13 hm13 hall13 hlen13
        clear F12 N12
        obtain ⟨BG, NB, hmB, hallB, hbB⟩ : ∃ BG, News s₁.heap L0 h13 BG ∧ (pl, listOf us.toArray kp) ∈ BG ∧ DatAll BG us ((placesF os (65 :: ws) os.length).map .int) ∧ (∀ p ∈ (pa, listOf [.ref ca, .int kD tD, .int cD uD].toArray nD) :: (ca, listOf ps.toArray q) :: (L0 + 1, o2) :: own, p ∈ BG) := ⟨_, N13, hm13, hall13, fun p hp => List.mem_append_right _ hp⟩
        clear N13 hm13 hall13 hn13
        have hcB : (L0 + 1, o2) ∈ BG := hbB _ (List.mem_cons_of_mem _ (List.mem_cons_of_mem _ List.mem_cons_self))
        have hpl := Nat.le_trans (Nat.le_of_eq hlen13) places_map_le
        k_steps
        unfold Stop
        refine LCt.CompSrcT.ledger (its := us.toArray) (k := kp) rfl F13 NB hmB (fits_of (by rw [List.size_toArray]; omega)) ?_
        intro g14
        rw [List.size_toArray]
        refine Lc.compT_rule (fun i ys nx => nx = BG ∧ DatAll nx ys ((((placesF os (65 :: ws) os.length).take i).filter fun j => decide (j ≥ (sn : Int))).map .int)) ⟨rfl, .nil⟩ ?_ ?_
        · rintro i ys nx v I oI C oC D m₂ h tk E' hi hv ⟨hnx, hys⟩ hn hx F₁ N₁ hoff2 hne
          subst hnx
          obtain ⟨z, hzi, hzd⟩ := dat_get (f := Dat.int) hallB (i := i) (v := v) (by simpa using hv)
          obtain ⟨tz, rfl⟩ := dat_int hzd
          k_steps
          · unfold Stop
            rename_i hge
            refine LCg.CompEnd.intro (by k_asm) (by k_asm) _ (fun _ h => h) hoff2 (.inr ⟨_, hmB, rfl, _, rfl⟩) ⟨rfl, ?_⟩
            rw [List.take_add_one, hzi, Option.toList_some, List.filter_append, List.map_append, List.filter_cons, if_pos (decide_eq_true hge)]
            exact hys.append (.one (.int _ _))
          · unfold Stop
            rename_i hge
            refine LCg.CompEnd.intro (by k_asm) (by k_asm) _ (fun _ h => h) hoff2 (.inr ⟨_, hmB, rfl, _, rfl⟩) ⟨rfl, ?_⟩
            rw [List.take_add_one, hzi, Option.toList_some, List.filter_append, List.map_append, List.filter_cons, if_neg (by simpa using hge)]
            simpa using hys
        · rintro ys nx ⟨hnx, hys⟩
          subst hnx
          have hfl : (placesF os (65 :: ws) os.length).length = us.length := by rw [hlen13, List.length_map]
          rw [← hfl, List.take_length] at hys
          intro D15 h15 tk15 F15 N15 off15
          dsimp only
          k_steps
          unfold Stop
          k_dflt (refine' (first_at_spec (ob := os) (wb := 65 :: ws) (b := (sn : Int)) ?c1 ?c2 ?c3 ?c4 ?c5).useT (s := ⟨_, _, _, _, _⟩) ?k1 ?k2 ?k3 ?k4 ?k5 ?kF ?kK ?kd ?ku ?_; walk_at "MyUse"; (case c1 => omega); (case c2 => rw [List.length_cons]; omega); (case c3 => omega); (case c4 => omega); (case c5 => rw [List.length_cons]; omega))
          intro tf h16 tk16 F16 N16
          clear F15 N15
          have hyl : ys.length ≤ 8 := by
            have h1 := hys.length
            have h2 := List.length_filter_le (fun j => decide (j ≥ (sn : Int))) (placesF os (65 :: ws) os.length)
            rw [List.length_map] at h1
            omega
          k_steps
          unfold Stop
          rename_i l17 h17 F17 N17 l17' D18 h18 F18 N18 l18 t18 heq18
          replace N18 := cb_drop N18 (news := (pa, listOf [.ref ca, .int kD tD, .int cD uD].toArray nD) :: (ca, listOf ps.toArray q) :: (L0 + 1, o2) :: own) (fun p hp => List.mem_cons_of_mem _ (List.mem_cons_of_mem _ (List.mem_cons_of_mem _ (hbB p hp))))
          clear F17 N17
          have hce4 : Cel pa ca ((ca, listOf ps.toArray q) :: (L0 + 1, o2) :: own) := ⟨fun p hp b hb => by
            rw [List.mem_singleton.mp hb]
            rcases List.mem_cons.mp hp with rfl | hp
            · exact Nat.ne_of_lt hcp
            · rcases List.mem_cons.mp hp with rfl | hp
              · exact hpn (L0 + 1, o1) List.mem_cons_self
              · exact hoff p hp pa List.mem_cons_self, ps, q, pis, List.mem_cons_self, hi5, hy5⟩
          k_dflt (refine' (back_spec (Pen.mk hkD0 hkD1) hce4 ?c1).use (s := ⟨_, _, _, _, _⟩) ?k1 ?k2 ?k3 N18 ?k5 ?kF ?kK ?kd ?ku ?_)
          case k1 => k_asm
          case k2 => k_asm
          case k3 => k_asm
          case k5 => k_asm
          case kF => exact rfl
          case kK => exact rfl
          case kd => ktr_room
          case ku => ktr_units
          case c1 => omega
          rintro r19 nx19 h19 tk19 F19 N19 ⟨rfl, kE, cE, tE, uE, nE, rfl, hkE0, hkE1⟩
          clear F18 N18
          k_steps
          unfold Stop
          k_dflt (refine' (refused_spec (ob := os) (gb := gs) ?c1 ?c2).use (s := ⟨_, _, _, _, _⟩) K0 F19 ?k3 N19 ?k5 ?kF ?kK ?kd ?ku ?_)
          case k3 => k_asm
          case k5 => k_asm
          case kF => exact rfl
          case kK => exact rfl
          case kd => ktr_room
          case ku => ktr_units
          case c1 => omega
          case c2 => omega
          rintro r20 nx20 h20 tk20 F20 N20 ⟨rfl, rfl⟩
          clear F19 N19
          k_steps
          unfold Stop
          exact InvEndG.intro (by k_asm) (by k_asm) ⟨⟨rfl, trivial⟩, kE, cE, tE, uE, nE, o2, rfl, hkE0, by omega, _, hd2'⟩ hoff (fun p hp => by
            simp only [List.mem_cons, List.not_mem_nil, or_false] at hp ⊢
            rcases hp with h | h | h <;> simp only [h, true_or, or_true]) (fun p hp => List.mem_cons_of_mem _ (List.mem_cons_of_mem _ (List.mem_cons_of_mem _ hp)))
    · rintro m₁ nx h tk ⟨hm, k, c, t1, u1, n1, oc, rfl, hk0, hk1, dv, hdv⟩ F₁ N₁
      k_steps)
end
end Mine
theorem PySem.Challenge.cw_og0068_01_holds : PySem.Challenge.rw_og0068_01.Holds := by
  exact Mine.law_walk
