import PyProof.Rows.All
import Wide.All
import OpenK.AllK
import Wide.FinOn
import PySem.Challenge.RW_pb0229_01
open PySem PySem.W PyProof.Rows
set_option Elab.async false
set_option maxRecDepth 100000
set_option maxHeartbeats 8000000
namespace Mine
set_option synthInstance.maxSize 1 in
open_top hd for PySem.Challenge.rw_pb0229_01
open PySem PySem.W PyProof.Rows PySem.Calls PySem.Spec
section SA



/-- every object of the first heap stands in the second -/
abbrev Sub (h h' : Heap) : Prop := ∀ b o, h.get? b = some o → h'.get? b = some o
/-- every object of the first heap stands in the second but those at the named places -/
abbrev But (adr : List Addr) (h h' : Heap) : Prop := ∀ b o, h.get? b = some o → b ∉ adr → h'.get? b = some o

structure Fine (w : World) (H h : Heap) : Prop where
  X : (hd.heap_39 w.params).In H
  T : ∃ loose mean mg mb, Top hd.view_39 loose mean mg mb H
  keep : Sub H h

theorem Fine.after {w : World} {H h h' : Heap} (G : Fine w H h) (k : Sub h h') : Fine w H h' := ⟨G.X, G.T, fun b o e => k b o (G.keep b o e)⟩
theorem Fine.afterBut {w : World} {H h h' : Heap} {adr : List Addr} (G : Fine w H h) (k : But adr h h') (ha : ∀ a ∈ adr, H.get? a = none) : Fine w H h' :=
  ⟨G.X, G.T, fun b o e => k b o (G.keep b o e) fun hb => by rw [ha b hb] at e; cases e⟩

section
variable {w : World} {A : Around} {E Q : Value → Shared → Prop} {s : Shared} {H : Heap}

theorem enter {name qual : Str} {params : Arguments} {body : List Stmt} {scope : Scope} {dV kV doc pm cdv ct oc : Value} {an od : Option Addr} {osl : Array (Option Value)} {f : Addr} {vals : List Value} {binds : List (Str × Value)}
    (G : Fine w H s.heap) (news : List (Addr × Obj)) (hadr : ∀ p ∈ news, s.heap.get? p.1 = some p.2 ∧ H.get? p.1 = none)
    (ho : (hd.heap_39 w.params).lookup f = some ⟨oc, od, .func (fnOf name qual params body scope dV kV doc pm an cdv ct), osl⟩) (hcd : codeIn (hd.heap_39 w.params) cdv qual = true) (hroom : A.depth < recursionLimit)
    (hbind : BindsTo s (fnOf name qual params body scope dV kV doc pm an cdv ct) ⟨vals, []⟩ binds) (hloc : ∀ y ∈ binds, scope.names.lookup y.1 = some .local)
    (hcell : ∀ x ∈ scope.names, x.2 ≠ .cell)
    (h : ∀ g L' h₁ loose mean mg mb, But (news.map (·.1)) s.heap g → Fine w H g → (hd.heap_39 w.params).In g → Top hd.view_39 loose mean mg mb g → Fr g L' h₁ (fun y => binds.reverse.lookup y) → News g L' h₁ news →
      (∀ h', Sub g h' → But (news.map (·.1)) s.heap h') →
      wpAny (model PySem.Challenge.rw_pb0229_01.row.prog w) (A.deeper (envOf qual scope L' f cdv)) (execs body (envOf qual scope L' f cdv))
        (fun fl s' => Q (match fl with | .ret v => v | _ => .none) s') (fun _ _ => False)
        { s with heap := h₁, toks := s.toks + binds.length })
    (hco : scope.isCoroutine = false := by rfl) (hgen : scope.isGenerator = false := by rfl) (hk : scope.kind = .function := by rfl) :
    wpAny (model PySem.Challenge.rw_pb0229_01.row.prog w) A (call (.ref f) vals) Q E s := by
  obtain ⟨X₀, ⟨loose, mean, mg, mb, T₀⟩, K₀⟩ := id G
  refine wpAny_call (codeAny_call_def (fd := fnOf name qual params body scope dV kV doc pm an cdv ct) (body := body) (binds := binds) hroom ((X₀.keeps K₀) _ _ ho) rfl (T₀.nolimit.keeps K₀) (codeRec_of (X₀.keeps K₀) hcd) rfl hbind hcell hloc (fun h₁ hns hk₁ => ?_) hco hgen hk)
  have st : Sub H (hideAll s.heap (news.map (·.1))) := fun b o e => hideAll_get _ (K₀ b o e) fun q => by
    obtain ⟨p, hp, rfl⟩ := List.mem_map.mp q
    rw [(hadr p hp).2] at e; cases e
  refine wpAny_mono (h (hideAll s.heap (news.map (·.1))) s.heap.objs.size h₁ loose mean mg mb (fun b o e n => hideAll_get _ e n) ⟨X₀, ⟨loose, mean, mg, mb, T₀⟩, st⟩ (X₀.keeps st) (T₀.keeps st)
    ⟨hns, fun b o e => hk₁ b o (of_hideAll _ e), Nat.le_of_eq (hideAll_size _ _)⟩
    (fun p hp => ⟨hk₁ _ _ (hadr p hp).1, Nat.ne_of_lt (Heap.lt_size (hadr p hp).1), hideAll_none _ (List.mem_map_of_mem hp)⟩)
    (fun h' k b o e n => k b o (hideAll_get _ e n))) (fun fl s' q => q) fun _ _ y => y.elim
end

end SA
open PySem PySem.W PyProof.Rows PySem.Calls PySem.Spec PySem.Builtin
section SR
section
variable {w : World} {A : Around} {E : Value → Shared → Prop} {s : Shared} {value slice : PySem.Expr} {b : Array UInt8} {t : Tok} {h₀ : Heap} {L : Addr} {m : PySem.Str → Option Value} {news : List (Addr × Obj)} {Q : Value → Shared → Prop}

theorem lookup_if {y k : Str} {v : Value} {r : List (Str × Value)} : List.lookup y ((k, v) :: r) = if y = k then some v else List.lookup y r := by
  rw [List.lookup_cons]
  by_cases h : y = k
  · simp [h]
  · simp [beq_eq_false_iff_ne.mpr h, h]
theorem fin_eq {Q : Value → Shared → Prop} {v v' : Value} {s' : Shared} (h : Q v s') (e : v = v') : Q v' s' := e ▸ h
theorem out_sub {h h' : Heap} (k : But (([] : List (Addr × Obj)).map (·.1)) h h') : Sub h h' := fun b o e => k b o e (by simp)
theorem fin_int {Q : Value → Shared → Prop} {x y : Int} {t : Tok} {s' : Shared} (h : ∀ t, Q (.int x t) s') (e : x = y) : Q (.int y t) s' := e ▸ h t
theorem fin_bool {Q : Value → Shared → Prop} {x y : Bool} {s' : Shared} (h : Q (.bool x) s') (e : x = y) : Q (.bool y) s' := e ▸ h
theorem beq_bytes (a b : Array UInt8) : (a.toList == b.toList) = decide (a = b) := by
  rw [Bool.eq_iff_iff]
  simp
theorem cut_key (l : List UInt8) (n k : Nat) : (l.drop (min n l.length)).take (min k l.length - min n l.length) = (l.drop n).take (k - n) := by
  by_cases hn : n ≤ l.length
  · rw [Nat.min_eq_left hn]
    by_cases hk : k ≤ l.length
    · rw [Nat.min_eq_left hk]
    · rw [Nat.min_eq_right (by omega), List.take_of_length_le (by simp), List.take_of_length_le (by simp; omega)]
  · rw [Nat.min_eq_right (by omega : l.length ≤ n), List.drop_eq_nil_of_le (Nat.le_refl _), List.drop_eq_nil_of_le (by omega : l.length ≤ n)]
    simp
theorem picked_nat (b : Array UInt8) (lo hi : Int) (h0 : 0 ≤ lo) (h1 : 0 ≤ hi) : KBy.picked b (some lo) (some hi) = b.extract lo.toNat hi.toNat := by
  obtain ⟨n, rfl⟩ := Int.eq_ofNat_of_zero_le h0
  obtain ⟨k, rfl⟩ := Int.eq_ofNat_of_zero_le h1
  rw [KBc.picked_eq]
  simp only [Option.elim]
  rw [clipAt_nat, clipAt_nat]
  apply Array.ext'
  simp only [Int.toNat_natCast, Array.toList_extract, ← Array.length_toList, cut_key, List.extract_eq_take_drop]
theorem picked_to (b : Array UInt8) (hi : Int) (h1 : 0 ≤ hi) : KBy.picked b none (some hi) = b.extract 0 hi.toNat := by
  obtain ⟨k, rfl⟩ := Int.eq_ofNat_of_zero_le h1
  have h2 := picked_nat b 0 k (by decide) h1
  rw [KBc.picked_eq] at h2 ⊢
  simp only [Option.elim] at h2 ⊢
  rw [show clipAt b.size 0 = 0 by rw [show (0 : Int) = ((0 : Nat) : Int) from rfl, clipAt_nat]; simp] at h2
  simpa using h2

theorem slice_nat {lo hi : Int} {t1 t2 : Tok} (hF : Fr h₀ L s.heap m) (hN : News h₀ L s.heap news) (h0 : 0 ≤ lo) (h1 : 0 ≤ hi) (hz : b.size ≤ 16777216)
    (h : ∀ h' t' k, Fr h₀ L h' m → News h₀ L h' news → Q (.bytes (b.extract lo.toNat hi.toNat) t') { s with heap := h', toks := k })
    (hs : subscripted slice false (.bytes b t) (.ref s.heap.objs.size) = operate [.ref s.heap.objs.size, .bytes b t] (getItem (.bytes b t) (.ref s.heap.objs.size)) := by with_unfolding_all rfl)
    (ht : ∀ r, letTemporaryGo value (.bytes b t) r = pure () := by intro _; with_unfolding_all rfl) :
    wpAny (model PySem.Challenge.rw_pb0229_01.row.prog w) A (subscriptTail value slice (.bytes b t) (.ref s.heap.objs.size)) Q E { s with heap := s.heap.push { cls := .type "slice", data := .fields #[.int lo t1, .int hi t2, .none] } } := by
  refine KBc.slice_K (lo := some lo) (hi := some hi) hF hN rfl (.int _ _) (.int _ _) (by rw [KBw.ints_length]; exact hz) (fun h' t' k F N _ => ?_) hs ht
  rw [picked_nat _ _ _ h0 h1]
  exact h _ _ _ F N
theorem slice_to {hi : Int} {t2 : Tok} (hF : Fr h₀ L s.heap m) (hN : News h₀ L s.heap news) (h1 : 0 ≤ hi) (hz : b.size ≤ 16777216)
    (h : ∀ h' t' k, Fr h₀ L h' m → News h₀ L h' news → Q (.bytes (b.extract 0 hi.toNat) t') { s with heap := h', toks := k })
    (hs : subscripted slice false (.bytes b t) (.ref s.heap.objs.size) = operate [.ref s.heap.objs.size, .bytes b t] (getItem (.bytes b t) (.ref s.heap.objs.size)) := by with_unfolding_all rfl)
    (ht : ∀ r, letTemporaryGo value (.bytes b t) r = pure () := by intro _; with_unfolding_all rfl) :
    wpAny (model PySem.Challenge.rw_pb0229_01.row.prog w) A (subscriptTail value slice (.bytes b t) (.ref s.heap.objs.size)) Q E { s with heap := s.heap.push { cls := .type "slice", data := .fields #[.none, .int hi t2, .none] } } := by
  refine KBc.slice_K (lo := none) (hi := some hi) hF hN rfl .none (.int _ _) (by rw [KBw.ints_length]; exact hz) (fun h' t' k F N _ => ?_) hs ht
  rw [picked_to _ _ h1]
  exact h _ _ _ F N
end

section
variable {w : World} {A : Around} {E : Value → Shared → Prop} {s : Shared} {env : Env} {h₀ : Heap} {x : Str} {body : List Stmt} {Q : Flow → Shared → Prop}

theorem news_lt {g h : Heap} {L : Addr} {led : List (Addr × Obj)} (N : News g L h led) : ∀ p ∈ led, p.1 < h.objs.size := fun p hp => Heap.lt_size (N p hp).1
/-- an item of a list at a place in bounds -/
theorem item_at {L : Addr} {l : Addr} {vs : List Value} {ep : Nat} {i : Int} {u : Tok} {v : Value} {value slice : PySem.Expr} {news : List (Addr × Obj)} {E Q : Value → Shared → Prop} (N : News h₀ L s.heap news) (hm : (l, ({ cls := .type "list", data := .seq vs.toArray ep } : Obj)) ∈ news)
    (h0 : 0 ≤ i) (hx : vs[i.toNat]? = some v) (hi : i < 100000) (h : Q v s)
    (hs : subscripted slice false (.ref l) (.int i u) = operate [.ref l, .int i u] (getItem (.ref l) (.int i u)) := by with_unfolding_all rfl) :
    wpAny (model PySem.Challenge.rw_pb0229_01.row.prog w) A (subscriptTail value slice (.ref l) (.int i u)) Q E s :=
  tail_any (N.isList hm).typeIs F.slot_list_getitem.lookup (wpAny_getItem_list (N.isList hm) h0 (by omega) (by simpa using hx) h) hs
/-- the end of a turn: the frame but for the loop's own name, the ledger, the word -/
def TurnEnd {σ : Type} (Mp : σ → Str → Option Value) (Led : σ → List (Addr × Obj)) (I : σ → Prop) (Off : Str → Prop) (h₀ : Heap) (L : Addr) (own : List (Addr × Obj)) (s₁ s₂ : Shared) : Prop :=
  ∃ (c : σ) (h' : Heap) (tk : Nat) (m' : Str → Option Value), s₂ = { s₁ with heap := h', toks := tk } ∧ Fr h₀ L h' m' ∧ (∀ z, Off z → m' z = Mp c z) ∧ News h₀ L h' (Led c ++ own) ∧ I c
def TurnPost {σ : Type} (Mp : σ → Str → Option Value) (Led : σ → List (Addr × Obj)) (I : σ → Prop) (Off : Str → Prop) (h₀ : Heap) (L : Addr) (own : List (Addr × Obj)) (s₁ : Shared) (Q : Flow → Shared → Prop) (f : Flow) (s₂ : Shared) : Prop :=
  match f with
  | .ret v => Q (.ret v) s₂
  | .brk => Q .next s₂
  | _ => TurnEnd Mp Led I Off h₀ L own s₁ s₂

theorem rangeSize_sub {lo hi : Int} {n : Nat} (e : hi - lo = n) : Builtin.Range.rangeSize lo hi 1 = (n : Int) := by
  have : hi = lo + n := by omega
  subst this
  unfold Builtin.Range.rangeSize
  simp
  omega

theorem map_but {x : Str} {v : Option Value} {m₁ m₂ : Str → Option Value} (h : ∀ z, z ≠ x → m₁ z = m₂ z) : (fun y => if y = x then v else m₁ y) = fun y => if y = x then v else m₂ y := by
  funext y
  by_cases hy : y = x
  · simp [hy]
  · simp only [if_neg hy]; exact h y hy
theorem map_self {x : Str} {m₁ m₂ : Str → Option Value} (h : ∀ z, z ≠ x → m₁ z = m₂ z) : m₁ = fun y => if y = x then m₁ x else m₂ y := by
  funext y
  by_cases hy : y = x
  · simp [hy]
  · simp only [if_neg hy]; exact h y hy

theorem for_range {σ : Type} {r : Addr} {lo hi : Int} {t₀ u₀ v₀ : Tok} {m₀ : Str → Option Value} {news : List (Addr × Obj)} (Mp : σ → Str → Option Value) (Led : σ → List (Addr × Obj)) (I : Nat → σ → Prop) (c₀ : σ) (n : Nat)
    (hh : A.handled = none) (hr : IsRange s.heap r lo hi 1 t₀ u₀ v₀) (hb : -1000000 < lo ∧ hi < 1000000) (hn : hi - lo = n) (F : Fr h₀ env.locals s.heap m₀) (N : News h₀ env.locals s.heap news)
    (hm : ∀ z, z ≠ x → m₀ z = Mp c₀ z) (hl : Led c₀ = news) (h0 : I 0 c₀) (hadr : ∀ i c, I i c → (Led c).map (·.1) = (Led c₀).map (·.1))
    (turn : ∀ i (c : σ) t h tk own, i < n → I i c → OwnOff own (news.map (·.1)) → Fr h₀ env.locals h (fun y => if y = x then some (.int (lo + (i : Int)) t) else Mp c y) → News h₀ env.locals h (Led c ++ own) →
      wpAny (model PySem.Challenge.rw_pb0229_01.row.prog w) A (execs body env) (TurnPost Mp Led (I (i + 1)) (fun z => z ≠ x) h₀ env.locals own { s with heap := h, toks := tk } Q) E { s with heap := h, toks := tk })
    (done : ∀ (c : σ) u h tk, I n c → Fr h₀ env.locals h (fun y => if y = x then u else Mp c y) → News h₀ env.locals h (Led c) → Q .next { s with heap := h, toks := tk }) :
    wpAny (model PySem.Challenge.rw_pb0229_01.row.prog w) A (pyIter (.ref r)) (fun it s₂ => LoopAtV PySem.Challenge.rw_pb0229_01.row.prog w A h₀ env x body Q E it s₂) E s := by
  subst hl
  refine wpAny_pyIter_range hr (small_one (by omega) (by omega) (by omega) (by omega)) ?_
  have W : Walks PySem.Challenge.rw_pb0229_01.row.prog w A s.heap.objs.size [s.heap.objs.size] [s.heap.objs.size] n (fun i v => i < n ∧ ∃ t, v = .int (lo + i * 1) t)
      (fun i h => IsRangeIter h s.heap.objs.size (lo + (i : Nat) * 1) ((n : Int) - (i : Nat)) 1) := (Walks.range hh _ lo 1 n).bound
  refine loop_invN (fun i m nx => ∃ c, nx = Led c ∧ (∀ z, z ≠ x → m z = Mp c z) ∧ I i c) W ?_ ?_ ?_ ?_ (by show IsRangeIter _ _ _ _ _; rw [rangeSize_sub hn]; simpa using Heap.get?_push_size _ rfl) (F.push _) (fun p hp => ⟨Heap.get?_push_of_some _ (N p hp).1, (N p hp).2⟩) ⟨c₀, rfl, hm, h0⟩ ?_ ?_
  · intro hm
    exact absurd F.ns.lt ((List.mem_singleton.mp hm) ▸ Nat.lt_irrefl _)
  · intro b hb
    rw [List.mem_singleton.mp hb]
    exact next_is_new F
  · intro p hp hI
    exact absurd (Heap.lt_size (N p hp).1) ((List.mem_singleton.mp hI) ▸ Nat.lt_irrefl _)
  · intro p hp hI
    exact absurd (Heap.lt_size (N p hp).1) ((List.mem_singleton.mp hI) ▸ Nat.lt_irrefl _)
  · rintro i v m₁ nx h tk own hi ⟨_, t, rfl⟩ _ hoff ⟨c, rfl, hm', hI⟩ F₁ N₁
    have e1 : lo + (i : Int) * 1 = lo + (i : Int) := by omega
    rw [e1, map_but hm'] at F₁
    refine wpAny_mono (turn i c t h tk own hi hI hoff F₁ N₁) (fun f s₂ q => ?_) fun _ _ e => e
    have fin : TurnEnd Mp Led (I (i + 1)) (fun z => z ≠ x) h₀ env.locals own { s with heap := h, toks := tk } s₂ → InvEndN h₀ env.locals (fun m nx => ∃ c, nx = Led c ∧ (∀ z, z ≠ x → m z = Mp c z) ∧ I (i + 1) c) own ((Led c₀).map (·.1)) { s with heap := h, toks := tk } s₂ := by
      rintro ⟨c', h', tk', m', e, F', hm'', N', hI'⟩
      exact ⟨h', tk', m', Led c' ++ own, Led c', e, F', N', fun p hp => List.mem_append_left _ hp, fun p hp => List.mem_append_right _ hp, hadr _ _ hI', c', rfl, hm'', hI'⟩
    cases f with
    | ret v => exact q
    | brk => exact q
    | next => exact fin q
    | cont => exact fin q
  · rintro m₁ nx h tk ⟨c, rfl, hm', hI⟩ F₁ N₁
    rw [map_self hm'] at F₁
    exact done c _ h tk hI F₁ N₁

theorem TurnEnd.intro {σ : Type} {Mp : σ → Str → Option Value} {Led : σ → List (Addr × Obj)} {I : σ → Prop} {Off : Str → Prop} {L : Addr} {own news' : List (Addr × Obj)} {s₁ : Shared} {h' : Heap} {tk : Nat} {m' : Str → Option Value} (c : σ)
    (F : Fr h₀ L h' m') (hm : ∀ z, Off z → m' z = Mp c z) (N : News h₀ L h' news') (hs : ∀ p ∈ Led c ++ own, p ∈ news') (hI : I c) :
    TurnEnd Mp Led I Off h₀ L own s₁ { s₁ with heap := h', toks := tk } := ⟨c, h', tk, m', rfl, F, hm, fun p hp => N p (hs p hp), hI⟩

theorem map_but2 {x x₂ : Str} {v v₂ : Option Value} {m₁ m₂ : Str → Option Value} (h : ∀ z, z ≠ x ∧ z ≠ x₂ → m₁ z = m₂ z) :
    (fun y => if y = x then v else if y = x₂ then v₂ else m₁ y) = fun y => if y = x then v else if y = x₂ then v₂ else m₂ y := by
  funext y
  by_cases hy : y = x
  · simp [hy]
  · by_cases hz : y = x₂
    · simp [hz]
    · simp only [if_neg hy, if_neg hz]; exact h y ⟨hy, hz⟩

theorem for_enum {σ : Type} {xi xc : Str} {e it l : Addr} {vs : List Value} {ep : Nat} {m₀ : Str → Option Value} {news : List (Addr × Obj)} (Mp : σ → Str → Option Value) (Led : σ → List (Addr × Obj)) (I : Nat → σ → Prop) (c₀ : σ)
    (hh : A.handled = none) (he : IsEnum s.heap e it 0 .none) (hit : s.heap.IsListIter it l 0) (hlm : (l, ({ cls := .type "list", data := .seq vs.toArray ep } : Obj)) ∈ news) (hne : e ≠ it)
    (F : Fr h₀ env.locals s.heap m₀) (N : News h₀ env.locals s.heap news) (hL : env.locals ≠ e ∧ env.locals ≠ it) (h0e : h₀.get? e = none ∧ h₀.get? it = none) (hn : ∀ p ∈ news, p.1 ≠ e ∧ p.1 ≠ it)
    (hm : ∀ z, z ≠ xc ∧ z ≠ xi → m₀ z = Mp c₀ z) (hl0 : Led c₀ = news) (h0 : I 0 c₀) (hadr : ∀ i c, I i c → (Led c).map (·.1) = (Led c₀).map (·.1))
    (turn : ∀ i (c : σ) v t h tk own, vs[i]? = some v → I i c → (∀ p ∈ own, p.1 = e ∨ p.1 = it ∨ p.1 = l) → Fr h₀ env.locals h (fun y => if y = xc then some v else if y = xi then some (.int (i : Int) t) else Mp c y) → News h₀ env.locals h (own ++ Led c) →
      wpAny (model PySem.Challenge.rw_pb0229_01.row.prog w) A (execs body env) (TurnPost Mp Led (I (i + 1)) (fun z => z ≠ xc ∧ z ≠ xi) h₀ env.locals own { s with heap := h, toks := tk } Q) E { s with heap := h, toks := tk })
    (done : ∀ (c : σ) m h tk, I vs.length c → Fr h₀ env.locals h m → (∀ z, z ≠ xc ∧ z ≠ xi → m z = Mp c z) → News h₀ env.locals h (Led c) → Q .next { s with heap := h, toks := tk }) :
    wpAny (model PySem.Challenge.rw_pb0229_01.row.prog w) A (pyIter (.ref e)) (fun it s₂ => PairAt3 PySem.Challenge.rw_pb0229_01.row.prog w A h₀ env xi xc body Q E it s₂) E s := by
  subst hl0
  have hl : s.heap.IsList l vs.toArray := ⟨_, N.get hlm, rfl, _, rfl⟩
  refine wpAny_pyIter_enum he ?_
  refine ⟨e, [e, it, l], [e, it], vs.toArray.size, _, _, _, fun i v0 v1 => ∃ t, vs[i]? = some v1 ∧ v0 = .int i t, m₀, Led c₀, fun i m nx => ∃ c, nx = Led c ∧ (∀ z, z ≠ xc ∧ z ≠ xi → m z = Mp c z) ∧ I i c, rfl,
    WalksT.enumerate hh e it l hne (hn _ hlm).1 (hn _ hlm).2 vs.toArray, ?_, ?_, ?_, ?_, ⟨⟨_, he⟩, hit, hl⟩, F, N, ⟨c₀, rfl, hm, h0⟩, ?_, ?_⟩
  · rintro i vals ⟨t, x, hx, rfl⟩
    exact ⟨_, _, rfl, t, by simpa using hx, rfl⟩
  · simp only [List.mem_cons, List.not_mem_nil, or_false, not_or]
    exact ⟨hL.1, hL.2, fun q => (N _ hlm).2.1 q.symm⟩
  · intro b hb
    simp only [List.mem_cons, List.not_mem_nil, or_false] at hb
    rcases hb with rfl | rfl
    · exact h0e.1
    · exact h0e.2
  · intro p hp hb
    simp only [List.mem_cons, List.not_mem_nil, or_false] at hb
    rcases hb with q | q
    · exact (hn p hp).1 q
    · exact (hn p hp).2 q
  · rintro i v0 v1 m₁ nx s₁ own ⟨h, tk, rfl⟩ hi ⟨t, hv, rfl⟩ ⟨c, rfl, hm', hI⟩ _ hown F₁ N₁
    dsimp only at F₁ N₁
    rw [map_but2 hm'] at F₁
    refine wpAny_mono (turn i c v1 t h tk own hv hI (fun p hp => by simpa using hown p hp) F₁ N₁) (fun f s₂ q => ?_) fun _ _ e => e
    have fin : TurnEnd Mp Led (I (i + 1)) (fun z => z ≠ xc ∧ z ≠ xi) h₀ env.locals own { s with heap := h, toks := tk } s₂ →
        LoopStep2 h₀ env.locals own (Led c) (fun m nx => ∃ c, nx = Led c ∧ (∀ z, z ≠ xc ∧ z ≠ xi → m z = Mp c z) ∧ I (i + 1) c) { s with heap := h, toks := tk } .next s₂ := by
      rintro ⟨c', h', tk', m', e', F', hm'', N', hI'⟩
      exact ⟨rfl, h', tk', m', Led c', e', F', fun p hp => N' p ((List.mem_append.mp hp).elim (fun q => List.mem_append_right _ q) fun q => List.mem_append_left _ q), (hadr _ _ hI').trans (hadr _ _ hI).symm, c', rfl, hm'', hI'⟩
    cases f with
    | ret v => exact q
    | brk => exact q
    | next => exact fin q
    | cont => exact fin q
  · rintro h tk m nx F₁ N₁ _ ⟨c, rfl, hm', hI⟩
    exact done c m h tk (by simpa using hI) F₁ hm' N₁

/-- the end of a while's turn -/
def WhPost {σ : Type} (Mp : σ → Str → Option Value) (Led : σ → List (Addr × Obj)) (I : σ → Prop) (μ : σ → Nat) (k : Nat) (h₀ : Heap) (L : Addr) (s₁ : Shared) (Q : Flow → Shared → Prop) (f : Flow) (s₂ : Shared) : Prop :=
  match f with
  | .ret v => Q (.ret v) s₂
  | .brk => Q .next s₂
  | _ => ∃ (c : σ) (h' : Heap) (tk : Nat) (m' : Str → Option Value), s₂ = { s₁ with heap := h', toks := tk } ∧ Fr h₀ L h' m' ∧ (∀ z, m' z = Mp c z) ∧ News h₀ L h' (Led c) ∧ I c ∧ μ c < k
theorem while_led {σ : Type} {m₀ : Str → Option Value} {news : List (Addr × Obj)} {test : PySem.Expr} {pos : Pos} (Mp : σ → Str → Option Value) (Led : σ → List (Addr × Obj)) (I : σ → Prop) (μ : σ → Nat) (c₀ : σ)
    (F : Fr h₀ env.locals s.heap m₀) (N : News h₀ env.locals s.heap news) (hm : ∀ z, m₀ z = Mp c₀ z) (hl0 : Led c₀ = news) (h0 : I c₀)
    (turn : ∀ (c : σ) h tk, I c → Fr h₀ env.locals h (Mp c) → News h₀ env.locals h (Led c) →
      wpAny (model PySem.Challenge.rw_pb0229_01.row.prog w) A (isTrue test env (eval test env)) (fun b s' => if b = true then wpAny (model PySem.Challenge.rw_pb0229_01.row.prog w) A (execs body env) (WhPost Mp Led I μ (μ c) h₀ env.locals { s with heap := h, toks := tk } Q) (fun _ _ => False) s' else Q .next s') (fun _ _ => False) { s with heap := h, toks := tk }) :
    wpAny (model PySem.Challenge.rw_pb0229_01.row.prog w) A (exec (.While test body [] pos) env) Q E s := by
  subst hl0
  refine wpAny_While (codeAny_whileLoop (fun k s' => ∃ (c : σ) (h' : Heap) (tk : Nat) (m' : Str → Option Value), s' = { s with heap := h', toks := tk } ∧ Fr h₀ env.locals h' m' ∧ (∀ z, m' z = Mp c z) ∧ News h₀ env.locals h' (Led c) ∧ I c ∧ k = μ c) ?_ (μ c₀)
    ⟨c₀, s.heap, s.toks, m₀, rfl, F, hm, N, h0, rfl⟩)
  rintro k s' ⟨c, h, tk, m', rfl, F', hm', N', hI, rfl⟩
  obtain rfl : m' = Mp c := funext hm'
  refine wpAny_mono (turn c h tk hI F' N') (fun b s₂ q => ?_) fun _ _ x => x.elim
  cases b with
  | false => exact wpAny_execs_nil q
  | true =>
    refine wpAny_mono q (fun f s₃ q₃ => ?_) fun _ _ x => x.elim
    cases f with
    | ret v => exact q₃
    | brk => exact q₃
    | next =>
      obtain ⟨c', h', tk', m'', rfl, F'', hm'', N'', hI', hlt⟩ := q₃
      exact ⟨_, hlt, c', h', tk', m'', rfl, F'', hm'', N'', hI', rfl⟩
    | cont =>
      obtain ⟨c', h', tk', m'', rfl, F'', hm'', N'', hI', hlt⟩ := q₃
      exact ⟨_, hlt, c', h', tk', m'', rfl, F'', hm'', N'', hI', rfl⟩
end

end SR
section SB
end SB
local macro_rules | `(tactic| walk_at "subscriptTail") => `(tactic| (k_here; (with_reducible show wpAny _ _ (subscriptTail _ (Expr.Slice _ _ none _) (Value.bytes _ _) (Value.ref _)) _ _ _); (with_reducible rename Fr _ _ _ _ => F'); (with_reducible rename News _ _ _ _ => N'); (first | refine slice_nat (s := ⟨_, _, _, _, _⟩) F' N' (by omega) (by omega) (by omega) ?_ | refine slice_to (s := ⟨_, _, _, _, _⟩) F' N' (by omega) (by omega) ?_); intro h' t' k' F' N'; (try k_sweep)))
section SB
end SB
local macro_rules | `(tactic| walk_at "exec For Name Call cons nil") => `(tactic| (k_here; (with_reducible rename Fr _ _ _ _ => lF'); (with_unfolding_all refine' For_invVF lF' ?k1 ?k2 ?_; (case k1 => exact rfl); (case k2 => exact rfl); k_whole)))
section SB
end SB
local macro_rules | `(tactic| walk_at "exec For Name Name cons nil") => `(tactic| (k_here; (with_reducible rename Fr _ _ _ _ => lF'); (with_unfolding_all refine' For_invVF lF' ?k1 ?k2 ?_; (case k1 => exact rfl); (case k2 => exact rfl); k_whole)))
section SB
end SB
local macro_rules | `(tactic| walk_at "exec For Tuple Call") => `(tactic| (k_here; (rename Fr _ _ _ _ => F'); (with_reducible apply For_pair3F); (case _F => with_unfolding_all exact F'); (case hh => with_unfolding_all rfl); (case hxi => with_unfolding_all rfl); (case hxc => with_unfolding_all rfl); (case hp => with_unfolding_all rfl); (case hs => intro _; with_unfolding_all rfl)))
section SB
end SB
local macro_rules | `(tactic| walk_at "call type:enumerate") => `(tactic| (k_here; (rename Fr _ _ _ _ => lF); (rename News _ _ _ _ => lN); refine call_enumerate_list (News.isList lN (by k_mem)) ?_; intro h' he' hit' hsz' hk'; (have hL9 := (Fr.ns lF).lt); (have hB9 := Fr.above lF); (have hN9 := news_lt lN); (have F' := Fr.after lF hk'); (have N' := News.grown lN hk'); (try k_sweep)))
section SB
variable {w : World} {A : Around} {E Q : Value → Shared → Prop} {s : Shared} {H : Heap}

/-- the octets at a place are the wanted ones -/
def liesAt (o wn : Array UInt8) (n : Nat) : Bool := decide (o.extract n (n + wn.size) = wn)

theorem lies_at_spec {o wn : Array UInt8} {n : Int} {t1 t2 t3 : Tok} (G : Fine w H s.heap) (hA : A.depth < 900) (ho : o.size < 1000) (hw : wn.size < 1000) (hn : 0 ≤ n ∧ n < 1000)
    (hQ : ∀ tk' h', Sub s.heap h' → Q (.bool (liesAt o wn n.toNat)) { s with heap := h', toks := tk' }) :
    wpAny (model PySem.Challenge.rw_pb0229_01.row.prog w) A (call (.ref 62) [.bytes o t1, .bytes wn t2, .int n t3]) Q E s := by
  w_on
  obtain ⟨hd9, dp9, fr9, gs9, un9⟩ := A
  dsimp only at hA
  have X0 := G.X; revert X0; k_fill; intro X0; clear X0
  k_dflt (refine' enter (binds := [(Str.ofString "octets", .bytes o t1), (Str.ofString "wanted", .bytes wn t2), (Str.ofString "at", .int n t3)]) G [] ?kadr ?k6 ?k7 ?k8 ?k9 ?kB ?c5 ?_ ?c2 ?c3 ?c4; (case k6 => k_is); (case k7 => k_is); (case k8 => (simp only [recursionLimit]; omega)); (case k9 => exact BindsTo.of_eq rfl); (case c5 => decide); (case kB => exact locs rfl); (case c2 => exact rfl); (case c3 => exact rfl); (case c4 => exact rfl); (case kadr => exact fun _ h => nomatch h); intro g L' h₁ loose mean mg mb kBut FG X' T' F' N' kOut; (try dsimp only); (try k_fold))
  k_steps
  rename Fr _ _ _ _ => F9
  refine fin_eq (hQ _ _ (out_sub (kOut _ F9.keep))) ?_
  rw [show (n + wn.size).toNat = n.toNat + wn.size by omega]
  simp only [liesAt, beq_bytes]

end SB
section SC
end SC
local macro_rules | `(tactic| walk_at "call ref") => `(tactic| (k_here; (with_reducible show wpAny _ _ (call (Value.ref 62) _) _ _ _); (show wpAny _ _ (call _ _) _ _ _); k_dflt (refine' lies_at_spec ?g9 ?a9 ?s0 ?s1 ?s2 ?_; (case g9 => exact Fine.after (by assumption) (Fr.keep (by assumption))); (case a9 => (first | omega | (simp only [depth_deeper, depth_in1] at *; omega) | (show _ < _; dsimp only [Around.deeper, Around.in1, Around.under, Around.mark]; omega))); (case s0 => (first | assumption | exact rfl | omega | (refine ⟨?_, ?_⟩ <;> omega))); (case s1 => (first | assumption | exact rfl | omega | (refine ⟨?_, ?_⟩ <;> omega))); (case s2 => (first | assumption | exact rfl | omega | (refine ⟨?_, ?_⟩ <;> omega))); k_whole); (with_reducible rename Fr _ _ _ _ => lF); (with_reducible rename News _ _ _ _ => lN); intros; (have F' := Fr.after lF (by assumption)); (have N' := News.grown lN (by assumption)); (try k_sweep)))
section SC
variable {w : World} {A : Around} {E Q : Value → Shared → Prop} {s : Shared} {H : Heap}

/-- the first place from nought on where the wanted octets lie -/
def firstAt (o wn : Array UInt8) : Option Nat := (List.range o.size).find? (liesAt o wn)
def firstInt (o wn : Array UInt8) : Int := match firstAt o wn with | some n => n | none => -1
theorem firstInt_some {o wn : Array UInt8} {i : Nat} (hi : i < o.size) (h : liesAt o wn i = true) (hb : ∀ j, j < i → liesAt o wn j = false) : firstInt o wn = i := by
  have e : firstAt o wn = some i := by
    rw [firstAt, List.find?_range_eq_some]
    exact ⟨h, by simpa using hi, fun j hj => by simp [hb j hj]⟩
  rw [firstInt, e]
theorem firstInt_none {o wn : Array UInt8} (hb : ∀ j, j < o.size → liesAt o wn j = false) : firstInt o wn = -1 := by
  have e : firstAt o wn = none := by
    rw [firstAt, List.find?_range_eq_none]
    exact fun j hj => by simp [hb j hj]
  rw [firstInt, e]

theorem first_at_spec {o wn : Array UInt8} {t1 t2 t3 : Tok} (G : Fine w H s.heap) (hA : A.depth < 800) (hh : A.handled = none) (ho : o.size < 1000) (hw : wn.size < 1000) (hw0 : 0 < wn.size)
    (hQ : ∀ t tk' h', Sub s.heap h' → Q (.int (firstInt o wn) t) { s with heap := h', toks := tk' }) :
    wpAny (model PySem.Challenge.rw_pb0229_01.row.prog w) A (call (.ref 69) [.bytes o t1, .bytes wn t2, .int 0 t3]) Q E s := by
  w_on
  obtain ⟨hd9, dp9, fr9, gs9, un9⟩ := A
  dsimp only at hA
  obtain rfl : hd9 = none := hh
  have X0 := G.X; revert X0; k_fill; intro X0; clear X0
  k_dflt (refine' enter (binds := [(Str.ofString "octets", .bytes o t1), (Str.ofString "wanted", .bytes wn t2), (Str.ofString "begin", .int 0 t3)]) G [] ?kadr ?k6 ?k7 ?k8 ?k9 ?kB ?c5 ?_ ?c2 ?c3 ?c4; (case k6 => k_is); (case k7 => k_is); (case k8 => (simp only [recursionLimit]; omega)); (case k9 => exact BindsTo.of_eq rfl); (case c5 => decide); (case kB => exact locs rfl); (case c2 => exact rfl); (case c3 => exact rfl); (case c4 => exact rfl); (case kadr => exact fun _ h => nomatch h); intro g L' h₁ loose mean mg mb kBut FG X' T' F' N' kOut; (try dsimp only); (try k_fold))
  repeat' (first | ((with_reducible show wpAny _ _ (exec (Stmt.Raise _ _ _) _) _ _ _); exfalso; omega) | (k_unfold; (try dsimp only)) | (k_end; wrow_close) | ((fail_if_success (with_reducible show wpAny _ _ (pyIter _) _ _ _)); (fail_if_success (with_reducible show wpAny _ _ (exec (Stmt.While _ _ _ _) _) _ _ _)); first | walk1 | (dsimp only; walk1) | (dsimp only [leadV, wantedV, optV, Kind.str]; walk1)) | (leave1; walk_say "STEP leave1"; try dsimp only))
  rename Fr _ _ _ _ => F9
  rename News _ _ _ _ => N9
  rename IsRange _ _ _ _ _ _ _ _ => R9
  refine for_range (fun _ : Unit => fun y => List.lookup y [(Str.ofString "octets", Value.bytes o t1), (Str.ofString "wanted", Value.bytes wn t2), (Str.ofString "begin", Value.int 0 t3)].reverse) (fun _ => []) (fun i _ => ∀ j, j < i → liesAt o wn j = false) () o.size (by rfl) R9 ⟨by omega, by omega⟩ (by omega) F9 N9 (fun _ _ => rfl) rfl (fun _ h => nomatch h) (fun _ _ _ => rfl) ?_ ?_
  · intro i _ t h tk own hi hI _ F' N'
    (try k_fold)
    repeat' (first | ((with_reducible show wpAny _ _ (exec (Stmt.Raise _ _ _) _) _ _ _); exfalso; omega) | (k_unfold; (try dsimp only)) | (k_end; wrow_close) | ((fail_if_success (with_reducible show wpAny _ _ (pyIter _) _ _ _)); (fail_if_success (with_reducible show wpAny _ _ (exec (Stmt.While _ _ _ _) _) _ _ _)); first | walk1 | (dsimp only; walk1) | (dsimp only [leadV, wantedV, optV, Kind.str]; walk1)) | (leave1; walk_say "STEP leave1"; try dsimp only))
    all_goals (rename Fr _ _ _ _ => F8; rename News _ _ _ _ => N8)
    · rename liesAt _ _ _ = true => hl
      show Q _ _
      rw [show (0 + (i : Int)).toNat = i by omega] at hl
      exact fin_int (fun t => hQ t _ _ (out_sub (kOut _ F8.keep))) (by rw [firstInt_some hi hl hI, Int.zero_add])
    · rename liesAt _ _ _ = false => hl
      rw [show (0 + (i : Int)).toNat = i by omega] at hl
      exact TurnEnd.intro () F8 (fun z hz => by simp [hz]) N8 (fun _ h => h) (fun j hj => by
        rcases Nat.lt_or_ge j i with h | h
        · exact hI j h
        · obtain rfl : j = i := by omega
          exact hl)
  · intro _ u h tk hI F' N'
    dsimp only
    (try k_fold)
    repeat' (first | ((with_reducible show wpAny _ _ (exec (Stmt.Raise _ _ _) _) _ _ _); exfalso; omega) | (k_unfold; (try dsimp only)) | (k_end; wrow_close) | ((fail_if_success (with_reducible show wpAny _ _ (pyIter _) _ _ _)); (fail_if_success (with_reducible show wpAny _ _ (exec (Stmt.While _ _ _ _) _) _ _ _)); first | walk1 | (dsimp only; walk1) | (dsimp only [leadV, wantedV, optV, Kind.str]; walk1)) | (leave1; walk_say "STEP leave1"; try dsimp only))
    rename Fr _ _ _ _ => F8
    show Q _ _
    exact fin_int (fun t => hQ t _ _ (out_sub (kOut _ F8.keep))) (firstInt_none hI)

end SC
section SD
end SD
local macro_rules | `(tactic| walk_at "call ref") => `(tactic| (k_here; (with_reducible show wpAny _ _ (call (Value.ref 69) _) _ _ _); (show wpAny _ _ (call _ _) _ _ _); k_dflt (refine' first_at_spec ?g9 ?a9 ?s0 ?s1 ?s2 ?s3 ?_; (case g9 => exact Fine.after (by assumption) (Fr.keep (by assumption))); (case a9 => (first | omega | (simp only [depth_deeper, depth_in1] at *; omega) | (show _ < _; dsimp only [Around.deeper, Around.in1, Around.under, Around.mark]; omega))); (case s0 => (first | assumption | exact rfl | omega | (refine ⟨?_, ?_⟩ <;> omega))); (case s1 => (first | assumption | exact rfl | omega | (refine ⟨?_, ?_⟩ <;> omega))); (case s2 => (first | assumption | exact rfl | omega | (refine ⟨?_, ?_⟩ <;> omega))); (case s3 => (first | assumption | exact rfl | omega | (refine ⟨?_, ?_⟩ <;> omega))); k_whole); (with_reducible rename Fr _ _ _ _ => lF); (with_reducible rename News _ _ _ _ => lN); intros; (have F' := Fr.after lF (by assumption)); (have N' := News.grown lN (by assumption)); (try k_sweep)))
section SD
variable {w : World} {A : Around} {E Q : Value → Shared → Prop} {s : Shared} {H : Heap}

/-- octets or None -/
def optV (t : Tok) : Option (Array UInt8) → Value
  | none => .none
  | some b => .bytes b t
def sBegin (o : Array UInt8) : Option (Array UInt8) → Nat
  | none => 0
  | some a => match firstAt o a with | none => o.size | some n => n + a.size
def sEnd (o : Array UInt8) : Option (Array UInt8) → Nat
  | none => o.size
  | some b => match firstAt o b with | none => o.size | some n => n
theorem firstInt_cases (o wn : Array UInt8) : (firstInt o wn = -1 ∧ firstAt o wn = none) ∨ ∃ n : Nat, firstInt o wn = n ∧ firstAt o wn = some n := by
  unfold firstInt
  cases firstAt o wn with
  | none => exact .inl ⟨rfl, rfl⟩
  | some n => exact .inr ⟨n, rfl, rfl⟩
theorem sBegin_neg {o a : Array UInt8} (h : firstInt o a < 0) : (sBegin o (some a) : Int) = o.size := by
  rcases firstInt_cases o a with ⟨_, e⟩ | ⟨n, e, _⟩
  · simp [sBegin, e]
  · omega
theorem sBegin_pos {o a : Array UInt8} (h : ¬ firstInt o a < 0) : (sBegin o (some a) : Int) = firstInt o a + a.size := by
  rcases firstInt_cases o a with ⟨e, _⟩ | ⟨n, e, e'⟩
  · omega
  · simp [sBegin, e, e']
theorem sEnd_neg {o a : Array UInt8} (h : firstInt o a < 0) : (sEnd o (some a) : Int) = o.size := by
  rcases firstInt_cases o a with ⟨_, e⟩ | ⟨n, e, _⟩
  · simp [sEnd, e]
  · omega
theorem sEnd_pos {o a : Array UInt8} (h : ¬ firstInt o a < 0) : (sEnd o (some a) : Int) = firstInt o a := by
  rcases firstInt_cases o a with ⟨e, _⟩ | ⟨n, e, e'⟩
  · omega
  · simp [sEnd, e, e']
/-- octets that are sought: there are some, and few -/
def okOpt : Option (Array UInt8) → Prop
  | none => True
  | some b => 0 < b.size ∧ b.size < 1000

theorem stretch_begin_spec {o : Array UInt8} {a : Option (Array UInt8)} {t1 t2 : Tok} (G : Fine w H s.heap) (hA : A.depth < 750) (hh : A.handled = none) (ho : o.size < 1000) (hw : okOpt a)
    (hQ : ∀ t tk' h', Sub s.heap h' → Q (.int (sBegin o a) t) { s with heap := h', toks := tk' }) :
    wpAny (model PySem.Challenge.rw_pb0229_01.row.prog w) A (call (.ref 76) [.bytes o t1, optV t2 a]) Q E s := by
  cases a with
  | none =>
    dsimp only [optV]
    w_on
    obtain ⟨hd9, dp9, fr9, gs9, un9⟩ := A
    dsimp only at hA
    obtain rfl : hd9 = none := hh
    have X0 := G.X; revert X0; k_fill; intro X0; clear X0
    k_dflt (refine' enter (binds := [(Str.ofString "octets", .bytes o t1), (Str.ofString "after", .none)]) G [] ?kadr ?k6 ?k7 ?k8 ?k9 ?kB ?c5 ?_ ?c2 ?c3 ?c4; (case k6 => k_is); (case k7 => k_is); (case k8 => (simp only [recursionLimit]; omega)); (case k9 => exact BindsTo.of_eq rfl); (case c5 => decide); (case kB => exact locs rfl); (case c2 => exact rfl); (case c3 => exact rfl); (case c4 => exact rfl); (case kadr => exact fun _ h => nomatch h); intro g L' h₁ loose mean mg mb kBut FG X' T' F' N' kOut; (try dsimp only); (try k_fold))
    repeat' (first | ((with_reducible show wpAny _ _ (exec (Stmt.Raise _ _ _) _) _ _ _); exfalso; omega) | (k_unfold; (try dsimp only)) | (k_end; wrow_close) | ((fail_if_success (with_reducible show wpAny _ _ (pyIter _) _ _ _)); (fail_if_success (with_reducible show wpAny _ _ (exec (Stmt.While _ _ _ _) _) _ _ _)); first | walk1 | (dsimp only; walk1) | (dsimp only [leadV, wantedV, optV, Kind.str]; walk1)) | (leave1; walk_say "STEP leave1"; try dsimp only))
    rename Fr _ _ _ _ => F8
    show Q _ _
    exact fin_int (fun t => hQ t _ _ (out_sub (kOut _ F8.keep))) rfl
  | some b =>
    obtain ⟨hw1, hw2⟩ := hw
    dsimp only [optV]
    w_on
    obtain ⟨hd9, dp9, fr9, gs9, un9⟩ := A
    dsimp only at hA
    obtain rfl : hd9 = none := hh
    have X0 := G.X; revert X0; k_fill; intro X0; clear X0
    k_dflt (refine' enter (binds := [(Str.ofString "octets", .bytes o t1), (Str.ofString "after", .bytes b t2)]) G [] ?kadr ?k6 ?k7 ?k8 ?k9 ?kB ?c5 ?_ ?c2 ?c3 ?c4; (case k6 => k_is); (case k7 => k_is); (case k8 => (simp only [recursionLimit]; omega)); (case k9 => exact BindsTo.of_eq rfl); (case c5 => decide); (case kB => exact locs rfl); (case c2 => exact rfl); (case c3 => exact rfl); (case c4 => exact rfl); (case kadr => exact fun _ h => nomatch h); intro g L' h₁ loose mean mg mb kBut FG X' T' F' N' kOut; (try dsimp only); (try k_fold))
    repeat' (first | ((with_reducible show wpAny _ _ (exec (Stmt.Raise _ _ _) _) _ _ _); exfalso; omega) | (k_unfold; (try dsimp only)) | (k_end; wrow_close) | ((fail_if_success (with_reducible show wpAny _ _ (pyIter _) _ _ _)); (fail_if_success (with_reducible show wpAny _ _ (exec (Stmt.While _ _ _ _) _) _ _ _)); first | walk1 | (dsimp only; walk1) | (dsimp only [leadV, wantedV, optV, Kind.str]; walk1)) | (leave1; walk_say "STEP leave1"; try dsimp only))
    all_goals (rename Fr _ _ _ _ => F8; show Q _ _; refine fin_int (fun t => hQ t _ _ (out_sub (kOut _ F8.keep))) ?_)
    · exact sBegin_neg (by assumption)
    · exact sBegin_pos (by assumption)

theorem stretch_end_spec {o : Array UInt8} {a : Option (Array UInt8)} {t1 t2 : Tok} (G : Fine w H s.heap) (hA : A.depth < 750) (hh : A.handled = none) (ho : o.size < 1000) (hw : okOpt a)
    (hQ : ∀ t tk' h', Sub s.heap h' → Q (.int (sEnd o a) t) { s with heap := h', toks := tk' }) :
    wpAny (model PySem.Challenge.rw_pb0229_01.row.prog w) A (call (.ref 83) [.bytes o t1, optV t2 a]) Q E s := by
  cases a with
  | none =>
    dsimp only [optV]
    w_on
    obtain ⟨hd9, dp9, fr9, gs9, un9⟩ := A
    dsimp only at hA
    obtain rfl : hd9 = none := hh
    have X0 := G.X; revert X0; k_fill; intro X0; clear X0
    k_dflt (refine' enter (binds := [(Str.ofString "octets", .bytes o t1), (Str.ofString "before", .none)]) G [] ?kadr ?k6 ?k7 ?k8 ?k9 ?kB ?c5 ?_ ?c2 ?c3 ?c4; (case k6 => k_is); (case k7 => k_is); (case k8 => (simp only [recursionLimit]; omega)); (case k9 => exact BindsTo.of_eq rfl); (case c5 => decide); (case kB => exact locs rfl); (case c2 => exact rfl); (case c3 => exact rfl); (case c4 => exact rfl); (case kadr => exact fun _ h => nomatch h); intro g L' h₁ loose mean mg mb kBut FG X' T' F' N' kOut; (try dsimp only); (try k_fold))
    repeat' (first | ((with_reducible show wpAny _ _ (exec (Stmt.Raise _ _ _) _) _ _ _); exfalso; omega) | (k_unfold; (try dsimp only)) | (k_end; wrow_close) | ((fail_if_success (with_reducible show wpAny _ _ (pyIter _) _ _ _)); (fail_if_success (with_reducible show wpAny _ _ (exec (Stmt.While _ _ _ _) _) _ _ _)); first | walk1 | (dsimp only; walk1) | (dsimp only [leadV, wantedV, optV, Kind.str]; walk1)) | (leave1; walk_say "STEP leave1"; try dsimp only))
    all_goals (rename Fr _ _ _ _ => F8; show Q _ _; refine fin_int (fun t => hQ t _ _ (out_sub (kOut _ F8.keep))) ?_)
    rfl
  | some b =>
    obtain ⟨hw1, hw2⟩ := hw
    dsimp only [optV]
    w_on
    obtain ⟨hd9, dp9, fr9, gs9, un9⟩ := A
    dsimp only at hA
    obtain rfl : hd9 = none := hh
    have X0 := G.X; revert X0; k_fill; intro X0; clear X0
    k_dflt (refine' enter (binds := [(Str.ofString "octets", .bytes o t1), (Str.ofString "before", .bytes b t2)]) G [] ?kadr ?k6 ?k7 ?k8 ?k9 ?kB ?c5 ?_ ?c2 ?c3 ?c4; (case k6 => k_is); (case k7 => k_is); (case k8 => (simp only [recursionLimit]; omega)); (case k9 => exact BindsTo.of_eq rfl); (case c5 => decide); (case kB => exact locs rfl); (case c2 => exact rfl); (case c3 => exact rfl); (case c4 => exact rfl); (case kadr => exact fun _ h => nomatch h); intro g L' h₁ loose mean mg mb kBut FG X' T' F' N' kOut; (try dsimp only); (try k_fold))
    repeat' (first | ((with_reducible show wpAny _ _ (exec (Stmt.Raise _ _ _) _) _ _ _); exfalso; omega) | (k_unfold; (try dsimp only)) | (k_end; wrow_close) | ((fail_if_success (with_reducible show wpAny _ _ (pyIter _) _ _ _)); (fail_if_success (with_reducible show wpAny _ _ (exec (Stmt.While _ _ _ _) _) _ _ _)); first | walk1 | (dsimp only; walk1) | (dsimp only [leadV, wantedV, optV, Kind.str]; walk1)) | (leave1; walk_say "STEP leave1"; try dsimp only))
    all_goals (rename Fr _ _ _ _ => F8; show Q _ _; refine fin_int (fun t => hQ t _ _ (out_sub (kOut _ F8.keep))) ?_)
    · exact sEnd_neg (by assumption)
    · exact sEnd_pos (by assumption)

end SD
section SS
variable {w : World} {A : Around} {E Q : Value → Shared → Prop} {s : Shared} {H : Heap}

/-- the toks of a seeker's dict's keys -/
structure SkT where
  (k0 k1 k2 k3 k4 k5 : Tok)
/-- the toks of its values -/
structure SkV where
  (v0 v1 v2 v3 v4 : Tok)
inductive Kind where
  | all | leading | first | chars
  deriving DecidableEq
def Kind.str : Kind → Str
  | .all => Str.ofString "ALL"
  | .leading => Str.ofString "LEADING"
  | .first => Str.ofString "FIRST"
  | .chars => Str.ofString "CHARACTERS"
structure Sk where
  kind : Kind
  wn : Array UInt8
  b : Nat
  e : Nat
  lead : Option Nat
  done : Bool
def wantedV (t : Tok) : Kind → Array UInt8 → Value
  | .chars, _ => .none
  | _, b => .bytes b t
def leadV (t : Tok) : Option Nat → Value
  | none => .none
  | some n => .int n t
abbrev skEs (w : World) (T : SkT) (kind wanted b e lead done : Value) : List DictEntry :=
  [⟨PyData.keyHash w.params (Str.ofString "kind"), .str (Str.ofString "kind") T.k0, kind⟩,
   ⟨PyData.keyHash w.params (Str.ofString "wanted"), .str (Str.ofString "wanted") T.k1, wanted⟩,
   ⟨PyData.keyHash w.params (Str.ofString "begin"), .str (Str.ofString "begin") T.k2, b⟩,
   ⟨PyData.keyHash w.params (Str.ofString "end"), .str (Str.ofString "end") T.k3, e⟩,
   ⟨PyData.keyHash w.params (Str.ofString "lead"), .str (Str.ofString "lead") T.k4, lead⟩,
   ⟨PyData.keyHash w.params (Str.ofString "is_done"), .str (Str.ofString "is_done") T.k5, done⟩]
abbrev skObj (w : World) (T : SkT) (V : SkV) (k : Sk) : Obj :=
  dictOf (skEs w T (.str k.kind.str V.v0) (wantedV V.v1 k.kind k.wn) (.int k.b V.v2) (.int k.e V.v3) (leadV V.v4 k.lead) (.bool k.done)) 6

theorem led {h g : Heap} {L : Addr} {news : List (Addr × Obj)} {x : Addr} {o : Obj} (FG : Fine w H g) (N : News g L h news) (hm : (x, o) ∈ news) : h.get? x = some o ∧ H.get? x = none :=
  ⟨N.get hm, by
    cases q : H.get? x with
    | none => rfl
    | some o' => have := FG.keep _ _ q; rw [N.fresh hm] at this; cases this⟩
/-- nothing is lost where the hidden objects stand again -/
theorem out_all {g h h' : Heap} {L : Addr} {news : List (Addr × Obj)} (k : But (news.map (·.1)) h h') (hn : ∀ p ∈ news, h.get? p.1 = some p.2) (N : News g L h' news) : Sub h h' := fun b o e => by
  by_cases hb : b ∈ news.map (·.1)
  · obtain ⟨p, hp, rfl⟩ := List.mem_map.mp hb
    rw [hn p hp] at e
    cases e
    exact (N p hp).1
  · exact k b o e hb
theorem out_seek {g h h' : Heap} {L x d : Addr} {o1 o2 o3 : Obj} (k : But ([(x, o1), (d, o2)].map (·.1)) h h') (hx : h.get? x = some o1) (N : News g L h' [(x, o1), (d, o3)]) : But [d] h h' := fun b o e n => by
  by_cases hb : b = x
  · subst hb
    rw [hx] at e
    cases e
    exact N.get List.mem_cons_self
  · exact k b o e (by simp at n ⊢; exact ⟨hb, n⟩)
theorem get_seek {g h' : Heap} {L x d : Addr} {o1 o3 : Obj} (N : News g L h' [(x, o1), (d, o3)]) : h'.get? d = some o3 := N.get (.tail _ (.head _))
theorem two {P : Addr × Obj → Prop} {a b : Addr × Obj} (ha : P a) (hb : P b) : ∀ p ∈ [a, b], P p := List.forall_mem_cons.mpr ⟨ha, List.forall_mem_cons.mpr ⟨hb, fun _ h => nomatch h⟩⟩

section
variable {x d : Addr} {T : SkT} {kv wv bv ev lv dv : Value} {κ : Str} {wn : Array UInt8} {t t0 t1 t2 t3 t4 : Tok} {b e l : Int} {n : Int} {dn : Bool}

theorem reach_none (G : Fine w H s.heap) (hA : A.depth < 900)
    (hx : s.heap.get? x = some (instObj 128 d) ∧ H.get? x = none) (hd : s.heap.get? d = some (dictOf (skEs w T kv wv (.int b t2) (.int e t3) .none dv) 6) ∧ H.get? d = none) (hne : x ≠ d)
    (hQ : ∀ tk' h', But [d] s.heap h' → h'.get? d = some (dictOf (skEs w T kv wv (.int b t2) (.int e t3) (if b ≤ n ∧ n < e then .int n t else .none) dv) 6) → Q .none { s with heap := h', toks := tk' }) :
    wpAny (model PySem.Challenge.rw_pb0229_01.row.prog w) A (call (.ref 111) [.ref x, .int n t]) Q E s := by
  w_on
  obtain ⟨hd9, dp9, fr9, gs9, un9⟩ := A
  dsimp only at hA
  have X0 := G.X; revert X0; k_fill; intro X0; clear X0
  k_dflt (refine' enter (binds := [(Str.ofString "self", .ref x), (Str.ofString "at", .int n t)]) G [(x, instObj 128 d), (d, dictOf (skEs w T kv wv (.int b t2) (.int e t3) .none dv) 6)] ?kadr ?k6 ?k7 ?k8 ?k9 ?kB ?c5 ?_ ?c2 ?c3 ?c4; (case k6 => k_is); (case k7 => k_is); (case k8 => (simp only [recursionLimit]; omega)); (case k9 => exact BindsTo.of_eq rfl); (case c5 => decide); (case kB => exact locs rfl); (case c2 => exact rfl); (case c3 => exact rfl); (case c4 => exact rfl); (case kadr => exact two hx hd); intro g L' h₁ loose mean mg mb kBut FG X' T' F' N' kOut; (try dsimp only); (try k_fold))
  repeat' (first | ((with_reducible show wpAny _ _ (exec (Stmt.Raise _ _ _) _) _ _ _); exfalso; omega) | (k_unfold; (try dsimp only)) | (k_end; wrow_close) | ((fail_if_success (with_reducible show wpAny _ _ (pyIter _) _ _ _)); (fail_if_success (with_reducible show wpAny _ _ (exec (Stmt.While _ _ _ _) _) _ _ _)); first | walk1 | (dsimp only; walk1) | (dsimp only [leadV, wantedV, optV, Kind.str]; walk1)) | (leave1; walk_say "STEP leave1"; try dsimp only))
  all_goals (rename Fr _ _ _ _ => F8; rename News _ _ _ _ => N8; refine hQ _ _ (out_seek (kOut _ F8.keep) hx.1 N8) ((get_seek N8).trans ?_))
  · rw [if_pos ⟨by assumption, by assumption⟩]
  · rw [if_neg (fun h => absurd h.2 (by assumption))]
  · rw [if_neg (fun h => absurd h.1 (by assumption))]

theorem reach_int (G : Fine w H s.heap) (hA : A.depth < 900)
    (hx : s.heap.get? x = some (instObj 128 d) ∧ H.get? x = none) (hd : s.heap.get? d = some (dictOf (skEs w T kv wv bv ev (.int l t4) dv) 6) ∧ H.get? d = none)
    (hQ : ∀ tk' h', Sub s.heap h' → Q .none { s with heap := h', toks := tk' }) :
    wpAny (model PySem.Challenge.rw_pb0229_01.row.prog w) A (call (.ref 111) [.ref x, .int n t]) Q E s := by
  w_on
  obtain ⟨hd9, dp9, fr9, gs9, un9⟩ := A
  dsimp only at hA
  have X0 := G.X; revert X0; k_fill; intro X0; clear X0
  k_dflt (refine' enter (binds := [(Str.ofString "self", .ref x), (Str.ofString "at", .int n t)]) G [(x, instObj 128 d), (d, dictOf (skEs w T kv wv bv ev (.int l t4) dv) 6)] ?kadr ?k6 ?k7 ?k8 ?k9 ?kB ?c5 ?_ ?c2 ?c3 ?c4; (case k6 => k_is); (case k7 => k_is); (case k8 => (simp only [recursionLimit]; omega)); (case k9 => exact BindsTo.of_eq rfl); (case c5 => decide); (case kB => exact locs rfl); (case c2 => exact rfl); (case c3 => exact rfl); (case c4 => exact rfl); (case kadr => exact two hx hd); intro g L' h₁ loose mean mg mb kBut FG X' T' F' N' kOut; (try dsimp only); (try k_fold))
  repeat' (first | ((with_reducible show wpAny _ _ (exec (Stmt.Raise _ _ _) _) _ _ _); exfalso; omega) | (k_unfold; (try dsimp only)) | (k_end; wrow_close) | ((fail_if_success (with_reducible show wpAny _ _ (pyIter _) _ _ _)); (fail_if_success (with_reducible show wpAny _ _ (exec (Stmt.While _ _ _ _) _) _ _ _)); first | walk1 | (dsimp only; walk1) | (dsimp only [leadV, wantedV, optV, Kind.str]; walk1)) | (leave1; walk_say "STEP leave1"; try dsimp only))
  all_goals (rename Fr _ _ _ _ => F8; rename News _ _ _ _ => N8; refine hQ _ _ (out_all (kOut _ F8.keep) (two hx.1 hd.1) N8))

theorem width_c (G : Fine w H s.heap) (hA : A.depth < 900)
    (hx : s.heap.get? x = some (instObj 128 d) ∧ H.get? x = none) (hd : s.heap.get? d = some (dictOf (skEs w T (.str (Str.ofString "CHARACTERS") t0) wv bv ev lv dv) 6) ∧ H.get? d = none)
    (hQ : ∀ t tk' h', Sub s.heap h' → Q (.int 1 t) { s with heap := h', toks := tk' }) :
    wpAny (model PySem.Challenge.rw_pb0229_01.row.prog w) A (call (.ref 104) [.ref x]) Q E s := by
  w_on
  obtain ⟨hd9, dp9, fr9, gs9, un9⟩ := A
  dsimp only at hA
  have X0 := G.X; revert X0; k_fill; intro X0; clear X0
  k_dflt (refine' enter (binds := [(Str.ofString "self", .ref x)]) G [(x, instObj 128 d), (d, dictOf (skEs w T (.str (Str.ofString "CHARACTERS") t0) wv bv ev lv dv) 6)] ?kadr ?k6 ?k7 ?k8 ?k9 ?kB ?c5 ?_ ?c2 ?c3 ?c4; (case k6 => k_is); (case k7 => k_is); (case k8 => (simp only [recursionLimit]; omega)); (case k9 => exact BindsTo.of_eq rfl); (case c5 => decide); (case kB => exact locs rfl); (case c2 => exact rfl); (case c3 => exact rfl); (case c4 => exact rfl); (case kadr => exact two hx hd); intro g L' h₁ loose mean mg mb kBut FG X' T' F' N' kOut; (try dsimp only); (try k_fold))
  repeat' (first | ((with_reducible show wpAny _ _ (exec (Stmt.Raise _ _ _) _) _ _ _); exfalso; omega) | (k_unfold; (try dsimp only)) | (k_end; wrow_close) | ((fail_if_success (with_reducible show wpAny _ _ (pyIter _) _ _ _)); (fail_if_success (with_reducible show wpAny _ _ (exec (Stmt.While _ _ _ _) _) _ _ _)); first | walk1 | (dsimp only; walk1) | (dsimp only [leadV, wantedV, optV, Kind.str]; walk1)) | (leave1; walk_say "STEP leave1"; try dsimp only))
  all_goals (rename Fr _ _ _ _ => F8; rename News _ _ _ _ => N8; show Q _ _)
  all_goals exact fin_int (fun t => hQ t _ _ (out_all (kOut _ F8.keep) (two hx.1 hd.1) N8)) rfl

theorem width_b (G : Fine w H s.heap) (hA : A.depth < 900) 
    (hx : s.heap.get? x = some (instObj 128 d) ∧ H.get? x = none) (hd : s.heap.get? d = some (dictOf (skEs w T (.str κ t0) (.bytes wn t1) bv ev lv dv) 6) ∧ H.get? d = none) (hκ : κ ≠ Str.ofString "CHARACTERS") (hsz : wn.size < 1000)
    (hQ : ∀ t tk' h', Sub s.heap h' → Q (.int wn.size t) { s with heap := h', toks := tk' }) :
    wpAny (model PySem.Challenge.rw_pb0229_01.row.prog w) A (call (.ref 104) [.ref x]) Q E s := by
  w_on
  obtain ⟨hd9, dp9, fr9, gs9, un9⟩ := A
  dsimp only at hA
  have X0 := G.X; revert X0; k_fill; intro X0; clear X0
  k_dflt (refine' enter (binds := [(Str.ofString "self", .ref x)]) G [(x, instObj 128 d), (d, dictOf (skEs w T (.str κ t0) (.bytes wn t1) bv ev lv dv) 6)] ?kadr ?k6 ?k7 ?k8 ?k9 ?kB ?c5 ?_ ?c2 ?c3 ?c4; (case k6 => k_is); (case k7 => k_is); (case k8 => (simp only [recursionLimit]; omega)); (case k9 => exact BindsTo.of_eq rfl); (case c5 => decide); (case kB => exact locs rfl); (case c2 => exact rfl); (case c3 => exact rfl); (case c4 => exact rfl); (case kadr => exact two hx hd); intro g L' h₁ loose mean mg mb kBut FG X' T' F' N' kOut; (try dsimp only); (try k_fold))
  repeat' (first | ((with_reducible show wpAny _ _ (exec (Stmt.Raise _ _ _) _) _ _ _); exfalso; omega) | (k_unfold; (try dsimp only)) | (k_end; wrow_close) | ((fail_if_success (with_reducible show wpAny _ _ (pyIter _) _ _ _)); (fail_if_success (with_reducible show wpAny _ _ (exec (Stmt.While _ _ _ _) _) _ _ _)); first | walk1 | (dsimp only; walk1) | (dsimp only [leadV, wantedV, optV, Kind.str]; walk1)) | (leave1; walk_say "STEP leave1"; try dsimp only))
  all_goals (rename Fr _ _ _ _ => F8; rename News _ _ _ _ => N8)
  · exact absurd (beq_iff_eq.mp (by assumption)) hκ
  · show Q _ _
    exact fin_int (fun t => hQ t _ _ (out_all (kOut _ F8.keep) (two hx.1 hd.1) N8)) rfl

end
end SS
local macro_rules | `(tactic| walk_at "call ref") => `(tactic| (k_here; (with_reducible show wpAny _ _ (call (Value.ref 104) _) _ _ _); (show wpAny _ _ (call _ [Value.ref _]) _ _ _); k_dflt (refine' width_c ?g9 ?a9 ?hx ?hd ?_; (case g9 => exact Fine.after (by assumption) (Fr.keep (by assumption))); (case a9 => (first | omega | (simp only [depth_deeper, depth_in1] at *; omega) | (show _ < _; dsimp only [Around.deeper, Around.in1, Around.under, Around.mark]; omega))); (case hx => exact led (by assumption) (by assumption) (by k_mem)); (case hd => exact led (by assumption) (by assumption) (by k_mem)); k_whole); (with_reducible rename Fr _ _ _ _ => lF); (with_reducible rename News _ _ _ _ => lN); intros; (have F' := Fr.after lF (by assumption)); (have N' := News.grown lN (by assumption)); (try k_sweep)))
section SS
variable {w : World} {A : Around} {E Q : Value → Shared → Prop} {s : Shared} {H : Heap}
section
variable {x d : Addr} {T : SkT} {kv wv bv ev lv dv : Value} {κ : Str} {wn : Array UInt8} {t t0 t1 t2 t3 t4 : Tok} {b e l : Int} {n : Int} {dn : Bool}
end
end SS
local macro_rules | `(tactic| walk_at "call ref") => `(tactic| (k_here; (with_reducible show wpAny _ _ (call (Value.ref 104) _) _ _ _); (show wpAny _ _ (call _ [Value.ref _]) _ _ _); k_dflt (refine' width_b ?g9 ?a9 ?hx ?hd ?hk ?hsz ?_; (case g9 => exact Fine.after (by assumption) (Fr.keep (by assumption))); (case a9 => (first | omega | (simp only [depth_deeper, depth_in1] at *; omega) | (show _ < _; dsimp only [Around.deeper, Around.in1, Around.under, Around.mark]; omega))); (case hx => exact led (by assumption) (by assumption) (by k_mem)); (case hd => exact led (by assumption) (by assumption) (by k_mem)); (case hk => assumption); (case hsz => first | assumption | omega); k_whole); (with_reducible rename Fr _ _ _ _ => lF); (with_reducible rename News _ _ _ _ => lN); intros; (have F' := Fr.after lF (by assumption)); (have N' := News.grown lN (by assumption)); (try k_sweep)))
section SS
variable {w : World} {A : Around} {E Q : Value → Shared → Prop} {s : Shared} {H : Heap}
section
variable {x d : Addr} {T : SkT} {kv wv bv ev lv dv : Value} {κ : Str} {wn : Array UInt8} {t t0 t1 t2 t3 t4 : Tok} {b e l : Int} {n : Int} {dn : Bool}
/-- does a seeker fit: done, begin, end, place, width, is it a LEADING one, its lead, do its octets lie here -/
def fitB (dn : Bool) (b e n : Int) (sz : Nat) (isL : Bool) (l : Option Int) (lies : Bool) : Bool := !dn && decide (b ≤ n) && decide (n + sz ≤ e) && (!isL || decide (l = some n)) && lies
theorem fitB_dn {sz : Nat} {isL lies : Bool} {l : Option Int} (h : dn = true) : fitB dn b e n sz isL l lies = false := by simp [fitB, h]
theorem fitB_b {sz : Nat} {isL lies : Bool} {l : Option Int} (h : ¬ b ≤ n) : fitB dn b e n sz isL l lies = false := by simp [fitB, h]
theorem fitB_e {sz : Nat} {isL lies : Bool} {l : Option Int} (h : e < n + sz) : fitB dn b e n sz isL l lies = false := by
  have : ¬ (n + sz ≤ e) := by omega
  simp [fitB, this]
theorem fitB_e1 {isL lies : Bool} {l : Option Int} (h : e < n + 1) : fitB dn b e n 1 isL l lies = false := fitB_e h
theorem fitB_l {sz : Nat} {isL lies : Bool} (h : isL = true) (h2 : n ≠ l) : fitB dn b e n sz isL (some l) lies = false := by
  have : ¬ l = n := fun e => h2 e.symm
  simp [fitB, h, this]
theorem fitB_ln {sz : Nat} {isL lies : Bool} (h : isL = true) : fitB dn b e n sz isL none lies = false := by simp [fitB, h]
theorem fitB_yes {sz : Nat} {isL lies : Bool} (h1 : dn = false) (h2 : b ≤ n) (h3 : ¬ e < n + sz) (h4 : n = l) : fitB dn b e n sz isL (some l) lies = lies := by
  have : n + sz ≤ e := by omega
  simp [fitB, h1, h2, this, h4]
  omega
theorem fitB_other {sz : Nat} {isL lies : Bool} {l : Option Int} (h1 : dn = false) (h2 : b ≤ n) (h3 : ¬ e < n + sz) (h4 : isL = false) : fitB dn b e n sz isL l lies = lies := by
  have : n + sz ≤ e := by omega
  simp [fitB, h1, h2, this, h4]
theorem fitB_chars {lies : Bool} {l : Option Int} (h1 : dn = false) (h2 : b ≤ n) (h3 : ¬ e < n + 1) : fitB dn b e n 1 false l lies = lies := fitB_other h1 h2 h3 rfl

theorem is_fit_b (G : Fine w H s.heap) (hA : A.depth < 800) {o : Array UInt8} {to : Tok}
    (hx : s.heap.get? x = some (instObj 128 d) ∧ H.get? x = none) (hd : s.heap.get? d = some (dictOf (skEs w T (.str κ t0) (.bytes wn t1) (.int b t2) (.int e t3) (.int l t4) (.bool dn)) 6) ∧ H.get? d = none) (hκ : κ ≠ Str.ofString "CHARACTERS") (ho : o.size < 1000) (hsz : wn.size < 1000) (hn : 0 ≤ n ∧ n < 1000)
    (hQ : ∀ tk' h', Sub s.heap h' → Q (.bool (fitB dn b e n wn.size (κ == Str.ofString "LEADING") (some l) (liesAt o wn n.toNat))) { s with heap := h', toks := tk' }) :
    wpAny (model PySem.Challenge.rw_pb0229_01.row.prog w) A (call (.ref 118) [.ref x, .bytes o to, .int n t]) Q E s := by
  w_on
  obtain ⟨hd9, dp9, fr9, gs9, un9⟩ := A
  dsimp only at hA
  have X0 := G.X; revert X0; k_fill; intro X0; clear X0
  k_dflt (refine' enter (binds := [(Str.ofString "self", .ref x), (Str.ofString "octets", .bytes o to), (Str.ofString "at", .int n t)]) G [(x, instObj 128 d), (d, dictOf (skEs w T (.str κ t0) (.bytes wn t1) (.int b t2) (.int e t3) (.int l t4) (.bool dn)) 6)] ?kadr ?k6 ?k7 ?k8 ?k9 ?kB ?c5 ?_ ?c2 ?c3 ?c4; (case k6 => k_is); (case k7 => k_is); (case k8 => (simp only [recursionLimit]; omega)); (case k9 => exact BindsTo.of_eq rfl); (case c5 => decide); (case kB => exact locs rfl); (case c2 => exact rfl); (case c3 => exact rfl); (case c4 => exact rfl); (case kadr => exact two hx hd); intro g L' h₁ loose mean mg mb kBut FG X' T' F' N' kOut; (try dsimp only); (try k_fold))
  repeat' (first | ((with_reducible show wpAny _ _ (exec (Stmt.Raise _ _ _) _) _ _ _); exfalso; omega) | (k_unfold; (try dsimp only)) | (k_end; wrow_close) | ((fail_if_success (with_reducible show wpAny _ _ (pyIter _) _ _ _)); (fail_if_success (with_reducible show wpAny _ _ (exec (Stmt.While _ _ _ _) _) _ _ _)); first | walk1 | (dsimp only; walk1) | (dsimp only [leadV, wantedV, optV, Kind.str]; walk1)) | (leave1; walk_say "STEP leave1"; try dsimp only))
  all_goals (rename Fr _ _ _ _ => F8; rename News _ _ _ _ => N8; first | exact absurd (beq_iff_eq.mp (by assumption)) hκ | (show Q _ _; refine fin_bool (hQ _ _ (out_all (kOut _ F8.keep) (two hx.1 hd.1) N8)) ?_))
  all_goals first | exact fitB_dn (by assumption) | exact fitB_b (by assumption) | exact fitB_e (by assumption) | exact fitB_l (by assumption) (by assumption) | exact fitB_yes (by assumption) (by assumption) (by assumption) (by assumption) | exact fitB_other (by assumption) (by assumption) (by assumption) (by assumption)

theorem is_fit_n (G : Fine w H s.heap) (hA : A.depth < 800) {o : Array UInt8} {to : Tok}
    (hx : s.heap.get? x = some (instObj 128 d) ∧ H.get? x = none) (hd : s.heap.get? d = some (dictOf (skEs w T (.str κ t0) (.bytes wn t1) (.int b t2) (.int e t3) .none (.bool dn)) 6) ∧ H.get? d = none) (hκ : κ ≠ Str.ofString "CHARACTERS") (ho : o.size < 1000) (hsz : wn.size < 1000) (hn : 0 ≤ n ∧ n < 1000)
    (hQ : ∀ tk' h', Sub s.heap h' → Q (.bool (fitB dn b e n wn.size (κ == Str.ofString "LEADING") none (liesAt o wn n.toNat))) { s with heap := h', toks := tk' }) :
    wpAny (model PySem.Challenge.rw_pb0229_01.row.prog w) A (call (.ref 118) [.ref x, .bytes o to, .int n t]) Q E s := by
  w_on
  obtain ⟨hd9, dp9, fr9, gs9, un9⟩ := A
  dsimp only at hA
  have X0 := G.X; revert X0; k_fill; intro X0; clear X0
  k_dflt (refine' enter (binds := [(Str.ofString "self", .ref x), (Str.ofString "octets", .bytes o to), (Str.ofString "at", .int n t)]) G [(x, instObj 128 d), (d, dictOf (skEs w T (.str κ t0) (.bytes wn t1) (.int b t2) (.int e t3) .none (.bool dn)) 6)] ?kadr ?k6 ?k7 ?k8 ?k9 ?kB ?c5 ?_ ?c2 ?c3 ?c4; (case k6 => k_is); (case k7 => k_is); (case k8 => (simp only [recursionLimit]; omega)); (case k9 => exact BindsTo.of_eq rfl); (case c5 => decide); (case kB => exact locs rfl); (case c2 => exact rfl); (case c3 => exact rfl); (case c4 => exact rfl); (case kadr => exact two hx hd); intro g L' h₁ loose mean mg mb kBut FG X' T' F' N' kOut; (try dsimp only); (try k_fold))
  repeat' (first | ((with_reducible show wpAny _ _ (exec (Stmt.Raise _ _ _) _) _ _ _); exfalso; omega) | (k_unfold; (try dsimp only)) | (k_end; wrow_close) | ((fail_if_success (with_reducible show wpAny _ _ (pyIter _) _ _ _)); (fail_if_success (with_reducible show wpAny _ _ (exec (Stmt.While _ _ _ _) _) _ _ _)); first | walk1 | (dsimp only; walk1) | (dsimp only [leadV, wantedV, optV, Kind.str]; walk1)) | (leave1; walk_say "STEP leave1"; try dsimp only))
  all_goals (rename Fr _ _ _ _ => F8; rename News _ _ _ _ => N8; first | exact absurd (beq_iff_eq.mp (by assumption)) hκ | (show Q _ _; refine fin_bool (hQ _ _ (out_all (kOut _ F8.keep) (two hx.1 hd.1) N8)) ?_))
  all_goals first | exact fitB_dn (by assumption) | exact fitB_b (by assumption) | exact fitB_e (by assumption) | exact fitB_ln (by assumption) | exact fitB_other (by assumption) (by assumption) (by assumption) (by assumption)

theorem is_fit_c (G : Fine w H s.heap) (hA : A.depth < 800) {o : Array UInt8} {to : Tok}
    (hx : s.heap.get? x = some (instObj 128 d) ∧ H.get? x = none) (hd : s.heap.get? d = some (dictOf (skEs w T (.str (Str.ofString "CHARACTERS") t0) wv (.int b t2) (.int e t3) lv (.bool dn)) 6) ∧ H.get? d = none) (hn : 0 ≤ n ∧ n < 1000)
    (hQ : ∀ tk' h', Sub s.heap h' → Q (.bool (fitB dn b e n 1 false none true)) { s with heap := h', toks := tk' }) :
    wpAny (model PySem.Challenge.rw_pb0229_01.row.prog w) A (call (.ref 118) [.ref x, .bytes o to, .int n t]) Q E s := by
  w_on
  obtain ⟨hd9, dp9, fr9, gs9, un9⟩ := A
  dsimp only at hA
  have X0 := G.X; revert X0; k_fill; intro X0; clear X0
  k_dflt (refine' enter (binds := [(Str.ofString "self", .ref x), (Str.ofString "octets", .bytes o to), (Str.ofString "at", .int n t)]) G [(x, instObj 128 d), (d, dictOf (skEs w T (.str (Str.ofString "CHARACTERS") t0) wv (.int b t2) (.int e t3) lv (.bool dn)) 6)] ?kadr ?k6 ?k7 ?k8 ?k9 ?kB ?c5 ?_ ?c2 ?c3 ?c4; (case k6 => k_is); (case k7 => k_is); (case k8 => (simp only [recursionLimit]; omega)); (case k9 => exact BindsTo.of_eq rfl); (case c5 => decide); (case kB => exact locs rfl); (case c2 => exact rfl); (case c3 => exact rfl); (case c4 => exact rfl); (case kadr => exact two hx hd); intro g L' h₁ loose mean mg mb kBut FG X' T' F' N' kOut; (try dsimp only); (try k_fold))
  repeat' (first | ((with_reducible show wpAny _ _ (exec (Stmt.Raise _ _ _) _) _ _ _); exfalso; omega) | (k_unfold; (try dsimp only)) | (k_end; wrow_close) | ((fail_if_success (with_reducible show wpAny _ _ (pyIter _) _ _ _)); (fail_if_success (with_reducible show wpAny _ _ (exec (Stmt.While _ _ _ _) _) _ _ _)); first | walk1 | (dsimp only; walk1) | (dsimp only [leadV, wantedV, optV, Kind.str]; walk1)) | (leave1; walk_say "STEP leave1"; try dsimp only))
  all_goals (rename Fr _ _ _ _ => F8; rename News _ _ _ _ => N8; show Q _ _; refine fin_bool (hQ _ _ (out_all (kOut _ F8.keep) (two hx.1 hd.1) N8)) ?_)
  all_goals first | exact fitB_dn (by assumption) | exact fitB_b (by assumption) | exact fitB_e1 (by assumption) | exact fitB_chars (by assumption) (by assumption) (by assumption)

theorem took_b (G : Fine w H s.heap) (hA : A.depth < 800)
    (hx : s.heap.get? x = some (instObj 128 d) ∧ H.get? x = none) (hd : s.heap.get? d = some (dictOf (skEs w T (.str κ t0) (.bytes wn t1) bv ev lv dv) 6) ∧ H.get? d = none) (hne : x ≠ d) (hκ : κ ≠ Str.ofString "CHARACTERS") (hsz : wn.size < 1000)
    (hQ : ∀ t' tk' h', But [d] s.heap h' → h'.get? d = some (dictOf (skEs w T (.str κ t0) (.bytes wn t1) bv ev (.int (n + wn.size) t') (.bool (κ == Str.ofString "FIRST"))) 6) → Q .none { s with heap := h', toks := tk' }) :
    wpAny (model PySem.Challenge.rw_pb0229_01.row.prog w) A (call (.ref 125) [.ref x, .int n t]) Q E s := by
  w_on
  obtain ⟨hd9, dp9, fr9, gs9, un9⟩ := A
  dsimp only at hA
  have X0 := G.X; revert X0; k_fill; intro X0; clear X0
  k_dflt (refine' enter (binds := [(Str.ofString "self", .ref x), (Str.ofString "at", .int n t)]) G [(x, instObj 128 d), (d, dictOf (skEs w T (.str κ t0) (.bytes wn t1) bv ev lv dv) 6)] ?kadr ?k6 ?k7 ?k8 ?k9 ?kB ?c5 ?_ ?c2 ?c3 ?c4; (case k6 => k_is); (case k7 => k_is); (case k8 => (simp only [recursionLimit]; omega)); (case k9 => exact BindsTo.of_eq rfl); (case c5 => decide); (case kB => exact locs rfl); (case c2 => exact rfl); (case c3 => exact rfl); (case c4 => exact rfl); (case kadr => exact two hx hd); intro g L' h₁ loose mean mg mb kBut FG X' T' F' N' kOut; (try dsimp only); (try k_fold))
  repeat' (first | ((with_reducible show wpAny _ _ (exec (Stmt.Raise _ _ _) _) _ _ _); exfalso; omega) | (k_unfold; (try dsimp only)) | (k_end; wrow_close) | ((fail_if_success (with_reducible show wpAny _ _ (pyIter _) _ _ _)); (fail_if_success (with_reducible show wpAny _ _ (exec (Stmt.While _ _ _ _) _) _ _ _)); first | walk1 | (dsimp only; walk1) | (dsimp only [leadV, wantedV, optV, Kind.str]; walk1)) | (leave1; walk_say "STEP leave1"; try dsimp only))
  all_goals (rename Fr _ _ _ _ => F8; rename News _ _ _ _ => N8; exact hQ _ _ _ (out_seek (kOut _ F8.keep) hx.1 N8) (get_seek N8))

theorem took_c (G : Fine w H s.heap) (hA : A.depth < 800)
    (hx : s.heap.get? x = some (instObj 128 d) ∧ H.get? x = none) (hd : s.heap.get? d = some (dictOf (skEs w T (.str (Str.ofString "CHARACTERS") t0) wv bv ev lv dv) 6) ∧ H.get? d = none) (hne : x ≠ d)
    (hQ : ∀ t' tk' h', But [d] s.heap h' → h'.get? d = some (dictOf (skEs w T (.str (Str.ofString "CHARACTERS") t0) wv bv ev (.int (n + 1) t') (.bool false)) 6) → Q .none { s with heap := h', toks := tk' }) :
    wpAny (model PySem.Challenge.rw_pb0229_01.row.prog w) A (call (.ref 125) [.ref x, .int n t]) Q E s := by
  w_on
  obtain ⟨hd9, dp9, fr9, gs9, un9⟩ := A
  dsimp only at hA
  have X0 := G.X; revert X0; k_fill; intro X0; clear X0
  k_dflt (refine' enter (binds := [(Str.ofString "self", .ref x), (Str.ofString "at", .int n t)]) G [(x, instObj 128 d), (d, dictOf (skEs w T (.str (Str.ofString "CHARACTERS") t0) wv bv ev lv dv) 6)] ?kadr ?k6 ?k7 ?k8 ?k9 ?kB ?c5 ?_ ?c2 ?c3 ?c4; (case k6 => k_is); (case k7 => k_is); (case k8 => (simp only [recursionLimit]; omega)); (case k9 => exact BindsTo.of_eq rfl); (case c5 => decide); (case kB => exact locs rfl); (case c2 => exact rfl); (case c3 => exact rfl); (case c4 => exact rfl); (case kadr => exact two hx hd); intro g L' h₁ loose mean mg mb kBut FG X' T' F' N' kOut; (try dsimp only); (try k_fold))
  repeat' (first | ((with_reducible show wpAny _ _ (exec (Stmt.Raise _ _ _) _) _ _ _); exfalso; omega) | (k_unfold; (try dsimp only)) | (k_end; wrow_close) | ((fail_if_success (with_reducible show wpAny _ _ (pyIter _) _ _ _)); (fail_if_success (with_reducible show wpAny _ _ (exec (Stmt.While _ _ _ _) _) _ _ _)); first | walk1 | (dsimp only; walk1) | (dsimp only [leadV, wantedV, optV, Kind.str]; walk1)) | (leave1; walk_say "STEP leave1"; try dsimp only))
  all_goals (rename Fr _ _ _ _ => F8; rename News _ _ _ _ => N8; exact hQ _ _ _ (out_seek (kOut _ F8.keep) hx.1 N8) (get_seek N8))
end

end SS
section ST
variable {w : World} {A : Around} {E Q : Value → Shared → Prop} {s : Shared} {H : Heap}

def Sk.width (k : Sk) : Nat := match k.kind with
  | .chars => 1
  | _ => k.wn.size
def Sk.reach (k : Sk) (n : Nat) : Sk := match k.lead with
  | none => if k.b ≤ n ∧ n < k.e then { k with lead := some n } else k
  | some _ => k
def Sk.fit (o : Array UInt8) (k : Sk) (n : Nat) : Bool := !k.done && decide (k.b ≤ n) && decide (n + k.width ≤ k.e) && (!(decide (k.kind = .leading)) || decide (k.lead = some n)) && (decide (k.kind = .chars) || liesAt o k.wn n)
def Sk.took (k : Sk) (n : Nat) : Sk := { k with lead := some (n + k.width), done := decide (k.kind = .first) }

theorem kind_ne {k : Kind} (h : k ≠ .chars) : k.str ≠ Str.ofString "CHARACTERS" := by
  cases k <;> first | exact absurd rfl h | decide
theorem kind_lead (k : Kind) : (k.str == Str.ofString "LEADING") = decide (k = .leading) := by cases k <;> decide
theorem kind_first (k : Kind) : (k.str == Str.ofString "FIRST") = decide (k = .first) := by cases k <;> decide
theorem fitB_nat (dn : Bool) (b e n sz : Nat) (isL : Bool) (l : Option Nat) (lies : Bool) :
    fitB dn b e n sz isL (l.map fun (x : Nat) => (x : Int)) lies = (!dn && decide (b ≤ n) && decide (n + sz ≤ e) && (!isL || decide (l = some n)) && lies) := by
  have h1 : decide ((b : Int) ≤ n) = decide (b ≤ n) := by simp
  have h2 : decide ((n : Int) + (sz : Int) ≤ e) = decide (n + sz ≤ e) := decide_eq_decide.mpr (by omega)
  have h3 : decide ((l.map fun (x : Nat) => (x : Int)) = some (n : Int)) = decide (l = some n) := by
    cases l with
    | none => simp
    | some a => simp; omega
  simp only [fitB, h1, h2, h3]
theorem reach_spec {x d : Addr} {T : SkT} {V : SkV} {k : Sk} {n : Nat} {t : Tok} (G : Fine w H s.heap) (hA : A.depth < 800)
    (hx : s.heap.get? x = some (instObj 128 d) ∧ H.get? x = none) (hd : s.heap.get? d = some (skObj w T V k) ∧ H.get? d = none) (hne : x ≠ d)
    (hQ : ∀ V' tk' h', But [d] s.heap h' → h'.get? d = some (skObj w T V' (k.reach n)) → Q .none { s with heap := h', toks := tk' }) :
    wpAny (model PySem.Challenge.rw_pb0229_01.row.prog w) A (call (.ref 111) [.ref x, .int n t]) Q E s := by
  obtain ⟨kind, wn, b, e, lead, done⟩ := k
  cases lead with
  | none =>
    refine reach_none G (by omega) hx hd hne fun tk' h' hb hg => ?_
    dsimp only at hg
    by_cases hc : b ≤ n ∧ n < e
    · rw [if_pos (by omega)] at hg
      refine hQ { V with v4 := t } tk' h' hb (hg.trans ?_)
      simp only [Sk.reach, if_pos hc]
      rfl
    · rw [if_neg (by omega)] at hg
      refine hQ V tk' h' hb (hg.trans ?_)
      simp only [Sk.reach, if_neg hc]
      rfl
  | some l => exact reach_int G (by omega) hx hd fun tk' h' hs => hQ V tk' h' (fun b o e _ => hs b o e) (hs _ _ hd.1)

theorem fit_spec {x d : Addr} {T : SkT} {V : SkV} {k : Sk} {n : Nat} {t to : Tok} {o : Array UInt8} (G : Fine w H s.heap) (hA : A.depth < 750)
    (hx : s.heap.get? x = some (instObj 128 d) ∧ H.get? x = none) (hd : s.heap.get? d = some (skObj w T V k) ∧ H.get? d = none) (ho : o.size < 1000) (hsz : k.wn.size < 1000) (hn : n < 1000)
    (hQ : ∀ tk' h', Sub s.heap h' → Q (.bool (k.fit o n)) { s with heap := h', toks := tk' }) :
    wpAny (model PySem.Challenge.rw_pb0229_01.row.prog w) A (call (.ref 118) [.ref x, .bytes o to, .int n t]) Q E s := by
  obtain ⟨kind, wn, b, e, lead, done⟩ := k
  cases kind with
  | chars =>
    refine is_fit_c G (by omega) hx hd ⟨by omega, by omega⟩ fun tk' h' hs => fin_bool (hQ tk' h' hs) ?_
    have q := fitB_nat done b e n 1 false none true
    simp only [Option.map] at q
    rw [q]
    simp [Sk.fit, Sk.width]
    try rfl
  | _ =>
    cases lead with
    | none =>
      refine is_fit_n G (by omega) hx hd (kind_ne (by simp)) ho hsz ⟨by omega, by omega⟩ fun tk' h' hs => fin_bool (hQ tk' h' hs) ?_
      have q := fun k : Kind => fitB_nat done b e n wn.size (decide (k = .leading)) none (liesAt o wn n)
      simp only [Option.map] at q
      rw [kind_lead, Int.toNat_natCast, q]
      simp [Sk.fit, Sk.width]
      try rfl
    | some l =>
      refine is_fit_b G (by omega) hx hd (kind_ne (by simp)) ho hsz ⟨by omega, by omega⟩ fun tk' h' hs => fin_bool (hQ tk' h' hs) ?_
      have q := fun k : Kind => fitB_nat done b e n wn.size (decide (k = .leading)) (some l) (liesAt o wn n)
      simp only [Option.map] at q
      rw [kind_lead, Int.toNat_natCast, q]
      simp [Sk.fit, Sk.width]
      try rfl

theorem took_spec {x d : Addr} {T : SkT} {V : SkV} {k : Sk} {n : Nat} {t : Tok} (G : Fine w H s.heap) (hA : A.depth < 750)
    (hx : s.heap.get? x = some (instObj 128 d) ∧ H.get? x = none) (hd : s.heap.get? d = some (skObj w T V k) ∧ H.get? d = none) (hne : x ≠ d) (hsz : k.wn.size < 1000)
    (hQ : ∀ V' tk' h', But [d] s.heap h' → h'.get? d = some (skObj w T V' (k.took n)) → Q .none { s with heap := h', toks := tk' }) :
    wpAny (model PySem.Challenge.rw_pb0229_01.row.prog w) A (call (.ref 125) [.ref x, .int n t]) Q E s := by
  obtain ⟨kind, wn, b, e, lead, done⟩ := k
  cases kind with
  | chars => exact took_c G (by omega) hx hd hne fun t' tk' h' hb hg => hQ { V with v4 := t' } tk' h' hb hg
  | _ => exact took_b G (by omega) hx hd hne (kind_ne (by simp)) hsz fun t' tk' h' hb hg => hQ { V with v4 := t' } tk' h' hb (hg.trans rfl)

theorem width_spec {x d : Addr} {T : SkT} {V : SkV} {k : Sk} (G : Fine w H s.heap) (hA : A.depth < 750)
    (hx : s.heap.get? x = some (instObj 128 d) ∧ H.get? x = none) (hd : s.heap.get? d = some (skObj w T V k) ∧ H.get? d = none) (hsz : k.wn.size < 1000)
    (hQ : ∀ t tk' h', Sub s.heap h' → Q (.int k.width t) { s with heap := h', toks := tk' }) :
    wpAny (model PySem.Challenge.rw_pb0229_01.row.prog w) A (call (.ref 104) [.ref x]) Q E s := by
  obtain ⟨kind, wn, b, e, lead, done⟩ := k
  cases kind with
  | chars => exact width_c G (by omega) hx hd hQ
  | _ => exact width_b G (by omega) hx hd (kind_ne (by simp)) hsz hQ

end ST
section SP

/-- item by item -/
inductive All2 {α β : Type} (R : α → β → Prop) : List α → List β → Prop
  | nil : All2 R [] []
  | cons {a : α} {b : β} {l : List α} {r : List β} : R a b → All2 R l r → All2 R (a :: l) (b :: r)
theorem All2.snoc {α β : Type} {R : α → β → Prop} {l : List α} {r : List β} {a : α} {b : β} (h : All2 R l r) (hr : R a b) : All2 R (l ++ [a]) (r ++ [b]) := by
  induction h with
  | nil => exact .cons hr .nil
  | cons h1 _ ih => exact .cons h1 ih
theorem All2.len {α β : Type} {R : α → β → Prop} {l : List α} {r : List β} (h : All2 R l r) : l.length = r.length := by
  induction h with
  | nil => rfl
  | cons _ _ ih => simp [ih]
theorem All2.mono {α β : Type} {R R' : α → β → Prop} {l : List α} {r : List β} (h : All2 R l r) (k : ∀ a b, R a b → R' a b) : All2 R' l r := by
  induction h with
  | nil => exact .nil
  | cons h1 _ ih => exact .cons (k _ _ h1) ih
theorem All2.get {α β : Type} {R : α → β → Prop} {l : List α} {r : List β} (h : All2 R l r) : ∀ {i : Nat} {b : β}, r[i]? = some b → ∃ a, l[i]? = some a ∧ R a b := by
  induction h with
  | nil => intro i b e; simp at e
  | cons h1 _ ih =>
    intro i b e
    cases i with
    | zero => simp at e; subst e; exact ⟨_, rfl, h1⟩
    | succ i => simpa using ih (by simpa using e)

theorem Sk.reach_width (k : Sk) (n : Nat) : (k.reach n).width = k.width := by
  unfold Sk.reach
  split
  · split <;> rfl
  · rfl
theorem Sk.reach_wn (k : Sk) (n : Nat) : (k.reach n).wn = k.wn := by
  unfold Sk.reach
  split
  · split <;> rfl
  · rfl
theorem Sk.took_width (k : Sk) (n : Nat) : (k.took n).width = k.width := rfl

/-- who takes at a place: the first that fits there -/
def taker (o : Array UInt8) (n : Nat) (ks : List Sk) : Option Nat := ks.findIdx? fun k => (k.reach n).fit o n
/-- the walk: places and takers, from a place on; at most so many turns -/
def walk (o : Array UInt8) : Nat → List Sk → Nat → List (Nat × Nat)
  | 0, _, _ => []
  | m + 1, ks, n => if n < o.size then
      match taker o n ks with
      | none => walk o m (ks.map (·.reach n)) (n + 1)
      | some j => (n, j) :: walk o m ((ks.map (·.reach n)).modify j (·.took n)) (n + ((ks[j]?).map Sk.width).getD 1)
    else []
theorem walk_end {o : Array UInt8} {m n : Nat} {ks : List Sk} (h : ¬ n < o.size) : walk o m ks n = [] := by
  cases m with
  | zero => rfl
  | succ m => simp [walk, h]
theorem walk_skip {o : Array UInt8} {m n : Nat} {ks : List Sk} (h : n < o.size) (ht : taker o n ks = none) : walk o (m + 1) ks n = walk o m (ks.map (·.reach n)) (n + 1) := by
  simp [walk, h, ht]
theorem walk_take {o : Array UInt8} {m n j : Nat} {ks : List Sk} {k : Sk} (h : n < o.size) (ht : taker o n ks = some j) (hk : ks[j]? = some k) :
    walk o (m + 1) ks n = (n, j) :: walk o m ((ks.map (·.reach n)).modify j (·.took n)) (n + k.width) := by
  simp [walk, h, ht, hk]
theorem taker_take_succ {o : Array UInt8} {n i : Nat} {ks : List Sk} {k : Sk} (hk : ks[i]? = some k) :
    taker o n (ks.take (i + 1)) = match taker o n (ks.take i) with | some j => some j | none => if (k.reach n).fit o n then some i else none := by
  have hi : i < ks.length := (List.getElem?_eq_some_iff.mp hk).1
  unfold taker
  rw [List.take_add_one, hk, Option.toList_some, List.findIdx?_append]
  cases h : List.findIdx? (fun k => (k.reach n).fit o n) (List.take i ks) with
  | some j => simp
  | none =>
    have hl : (List.take i ks).length = i := by rw [List.length_take]; omega
    simp [List.findIdx?_cons, hl]

end SP
section SU
variable {w : World} {A : Around} {E Q : Value → Shared → Prop} {s : Shared} {H : Heap}

structure Seat where
  x : Addr
  d : Addr
  T : SkT
/-- the seekers' objects: the seats stay, what they hold turns -/
def seatObjs (w : World) : List Seat → List (SkV × Sk) → List (Addr × Obj)
  | a :: r, c :: cr => (a.x, instObj 128 a.d) :: (a.d, skObj w a.T c.1 c.2) :: seatObjs w r cr
  | _, _ => []
abbrev listO (vs : List Value) (ep : Nat) : Obj := { cls := .type "list", data := .seq vs.toArray ep }
abbrev tupO (vs : List Value) : Obj := { cls := .type "tuple", data := .seq vs.toArray }

structure SeatsOk (seats : List Seat) : Prop where
  xd : ∀ a ∈ seats, ∀ b ∈ seats, a.x ≠ b.d
  dd : (seats.map (·.d)).Nodup
theorem seat_mem (w : World) : ∀ {seats : List Seat} {cs : List (SkV × Sk)} {i : Nat} {a : Seat} {c : SkV × Sk}, seats[i]? = some a → cs[i]? = some c → (a.x, instObj 128 a.d) ∈ seatObjs w seats cs ∧ (a.d, skObj w a.T c.1 c.2) ∈ seatObjs w seats cs
  | [], _, _, _, _, h, _ => by simp at h
  | _ :: _, [], _, _, _, _, h => by simp at h
  | s :: r, c' :: cr, 0, a, c, h1, h2 => by
    simp at h1 h2
    subst h1 h2
    exact ⟨.head _, .tail _ (.head _)⟩
  | s :: r, c' :: cr, i + 1, a, c, h1, h2 => by
    have := seat_mem w (seats := r) (cs := cr) (i := i) (a := a) (c := c) (by simpa using h1) (by simpa using h2)
    exact ⟨.tail _ (.tail _ this.1), .tail _ (.tail _ this.2)⟩
theorem seat_addr (w : World) : ∀ {seats : List Seat} {cs : List (SkV × Sk)}, cs.length = seats.length → (seatObjs w seats cs).map (·.1) = seats.flatMap fun a => [a.x, a.d]
  | [], [], _ => rfl
  | [], _ :: _, h => by simp at h
  | _ :: _, [], h => by simp at h
  | s :: r, c :: cr, h => by
    simp only [seatObjs, List.map_cons, List.flatMap_cons, List.cons_append, List.nil_append]
    rw [seat_addr w (by simpa using h)]
/-- an entry of the seats is a seat's seeker or its dict -/
theorem seat_inv (w : World) : ∀ {seats : List Seat} {cs : List (SkV × Sk)} {p : Addr × Obj}, p ∈ seatObjs w seats cs → ∃ (i : Nat) (a : Seat) (c : SkV × Sk), seats[i]? = some a ∧ cs[i]? = some c ∧ (p = (a.x, instObj 128 a.d) ∨ p = (a.d, skObj w a.T c.1 c.2))
  | [], _, _, h => by simp [seatObjs] at h
  | _ :: _, [], _, h => by simp [seatObjs] at h
  | s :: r, c :: cr, p, h => by
    rcases List.mem_cons.mp h with h | h
    · exact ⟨0, s, c, rfl, rfl, .inl h⟩
    · rcases List.mem_cons.mp h with h | h
      · exact ⟨0, s, c, rfl, rfl, .inr h⟩
      · obtain ⟨i, a, c', h1, h2, h3⟩ := seat_inv w h
        exact ⟨i + 1, a, c', by simpa using h1, by simpa using h2, h3⟩
theorem seat_set (w : World) {seats : List Seat} (ok : SeatsOk seats) {cs : List (SkV × Sk)} {i : Nat} {a : Seat} {c' : SkV × Sk} (ha : seats[i]? = some a) {p : Addr × Obj} (hp : p ∈ seatObjs w seats (cs.set i c')) :
    p = (a.d, skObj w a.T c'.1 c'.2) ∨ (p ∈ seatObjs w seats cs ∧ p.1 ≠ a.d) := by
  obtain ⟨j, b, c, h1, h2, h3⟩ := seat_inv w hp
  have hc : ∃ c₀, cs[j]? = some c₀ := by
    have hj : j < (cs.set i c').length := (List.getElem?_eq_some_iff.mp h2).1
    rw [List.length_set] at hj
    exact ⟨_, List.getElem?_eq_getElem hj⟩
  obtain ⟨c₀, hc₀⟩ := hc
  have hm := seat_mem w h1 hc₀
  rcases h3 with rfl | rfl
  · exact .inr ⟨hm.1, ok.xd b (List.mem_of_getElem? h1) a (List.mem_of_getElem? ha)⟩
  · by_cases hij : i = j
    · subst hij
      rw [ha] at h1
      cases h1
      rw [List.getElem?_set_self (List.getElem?_eq_some_iff.mp hc₀).1] at h2
      cases h2
      exact .inl rfl
    · rw [List.getElem?_set_ne hij, hc₀] at h2
      cases h2
      refine .inr ⟨hm.2, fun e => hij ?_⟩
      have h1' : (seats.map (·.d))[j]? = some b.d := by simp [h1]
      have h2' : (seats.map (·.d))[i]? = some a.d := by simp [ha]
      have hi : i < (seats.map (·.d)).length := (List.getElem?_eq_some_iff.mp h2').1
      exact (List.getElem?_inj hi ok.dd).mp (by rw [h2', h1']; exact congrArg some e.symm)

/-- the ledger behind a change of one object -/
theorem news_turn {g h h' : Heap} {L d : Addr} {o' : Obj} {led led' : List (Addr × Obj)} (N : News g L h led) (hb : But [d] h h') (hd : h'.get? d = some o') (hdL : d ≠ L ∧ g.get? d = none)
    (hs : ∀ p ∈ led', p = (d, o') ∨ (p ∈ led ∧ p.1 ≠ d)) : News g L h' led' := fun p hp => by
  rcases hs p hp with rfl | ⟨hm, hne⟩
  · exact ⟨hd, hdL⟩
  · exact ⟨hb _ _ (N p hm).1 (by simpa using hne), (N p hm).2⟩
theorem fr_turn {g h h' : Heap} {L d : Addr} {m : Str → Option Value} (F : Fr g L h m) (hb : But [d] h h') (hdL : d ≠ L ∧ g.get? d = none) : Fr g L h' m :=
  ⟨F.ns.at' fun o e => hb L o e (by simpa using Ne.symm hdL.1), fun b o e => hb b o (F.keep b o e) (by simp; rintro rfl; rw [hdL.2] at e; cases e), F.above⟩
theorem news_ne {g h : Heap} {L a b : Addr} {o1 o2 : Obj} {led : List (Addr × Obj)} (N : News g L h led) (h1 : (a, o1) ∈ led) (h2 : (b, o2) ∈ led) (hne : o1.cls ≠ o2.cls) : a ≠ b := by
  rintro rfl
  have := N.get h1
  rw [N.get h2] at this
  cases this
  exact hne rfl

/-- the state at the head of the while -/
structure WS where
  cs : List (SkV × Sk)
  n : Nat
  tA : Tok
  vs : List Value
  fp : List (Nat × Nat)
  tl : List (Addr × Obj)
  k : Nat
  u : Str → Option Value
def wsMap (o : Array UInt8) (to : Tok) (l fl : Addr) (c : WS) (y : Str) : Option Value :=
  if y = Str.ofString "found" then some (.ref fl) else if y = Str.ofString "at" then some (.int c.n c.tA) else if y = Str.ofString "seekers" then some (.ref l) else if y = Str.ofString "octets" then some (.bytes o to) else c.u y
theorem map_ws {o : Array UInt8} {to : Tok} {l fl : Addr} {cs : List (SkV × Sk)} {n : Nat} {tA : Tok} {vs : List Value} {fp : List (Nat × Nat)} {tl : List (Addr × Obj)} {k : Nat} {u : Str → Option Value} {z : Str} (h1 : u (Str.ofString "found") = some (.ref fl)) (h2 : u (Str.ofString "at") = some (.int n tA)) (h3 : u (Str.ofString "seekers") = some (.ref l)) (h4 : u (Str.ofString "octets") = some (.bytes o to)) : u z = wsMap o to l fl ⟨cs, n, tA, vs, fp, tl, k, u⟩ z := by
  unfold wsMap
  by_cases e1 : z = Str.ofString "found"
  · rw [if_pos e1, e1, h1]
  · rw [if_neg e1]
    by_cases e2 : z = Str.ofString "at"
    · rw [if_pos e2, e2, h2]
    · rw [if_neg e2]
      by_cases e3 : z = Str.ofString "seekers"
      · rw [if_pos e3, e3, h3]
      · rw [if_neg e3]
        by_cases e4 : z = Str.ofString "octets"
        · rw [if_pos e4, e4, h4]
        · rw [if_neg e4]
def wsLed (w : World) (seats : List Seat) (l fl : Addr) (ep : Nat) (c : WS) : List (Addr × Obj) :=
  (fl, listO c.vs c.vs.length) :: (l, listO (seats.map fun a => .ref a.x) ep) :: (seatObjs w seats c.cs ++ c.tl)

/-- the state at the head of the inner loop's turn -/
structure IS where
  cs : List (SkV × Sk)
  tk : Option Nat
  tT : Tok
def isMap (o : Array UInt8) (to : Tok) (l fl : Addr) (c : WS) (d : IS) (y : Str) : Option Value :=
  if y = Str.ofString "taker" then some (match d.tk with | none => .none | some j => .int j d.tT) else wsMap o to l fl c y
def isLed (w : World) (seats : List Seat) (l fl : Addr) (ep : Nat) (c : WS) (d : IS) : List (Addr × Obj) :=
  (fl, listO c.vs c.vs.length) :: (l, listO (seats.map fun a => .ref a.x) ep) :: (seatObjs w seats d.cs ++ c.tl)
structure IInv (o : Array UInt8) (seats : List Seat) (c : WS) (i : Nat) (d : IS) : Prop where
  len : d.cs.length = seats.length
  ks : d.cs.map (·.2) = ((c.cs.map (·.2)).take i).map (·.reach c.n) ++ (c.cs.map (·.2)).drop i
  tk : d.tk = taker o c.n ((c.cs.map (·.2)).take i)
theorem iinv_get {o : Array UInt8} {seats : List Seat} {c : WS} {i : Nat} {d : IS} {V : SkV} {k : Sk} (I : IInv o seats c i d) (hl : c.cs.length = seats.length) (hc : d.cs[i]? = some (V, k)) : (c.cs.map (·.2))[i]? = some k := by
  have h1 : (d.cs.map (·.2))[i]? = some k := by simp [hc]
  have hi : i < d.cs.length := (List.getElem?_eq_some_iff.mp hc).1
  have hi2 : i < (c.cs.map (·.2)).length := by rw [List.length_map, hl, ← I.len]; exact hi
  have hlen : (((c.cs.map (·.2)).take i).map (·.reach c.n)).length = i := by simp at hi2 ⊢; omega
  rw [I.ks, List.getElem?_append_right (by omega), hlen, Nat.sub_self, List.getElem?_drop] at h1
  simpa using h1
theorem iinv_next {o : Array UInt8} {seats : List Seat} {c : WS} {i : Nat} {d : IS} {V V' : SkV} {k : Sk} {tk' : Option Nat} {tT' : Tok} (I : IInv o seats c i d) (hl : c.cs.length = seats.length) (hc : d.cs[i]? = some (V, k))
    (ht : tk' = match d.tk with | some j => some j | none => if (k.reach c.n).fit o c.n then some i else none) : IInv o seats c (i + 1) ⟨d.cs.set i (V', k.reach c.n), tk', tT'⟩ := by
  have hk := iinv_get I hl hc
  have hi : i < d.cs.length := (List.getElem?_eq_some_iff.mp hc).1
  have hi2 : i < (c.cs.map (·.2)).length := (List.getElem?_eq_some_iff.mp hk).1
  have hlen : (((c.cs.map (·.2)).take i).map (·.reach c.n)).length = i := by simp at hi2 ⊢; omega
  refine ⟨by simpa using I.len, ?_, ?_⟩
  · show (d.cs.set i (V', k.reach c.n)).map (·.2) = _
    rw [List.map_set, I.ks, List.set_append_right _ _ (by omega), hlen, Nat.sub_self, List.take_add_one, hk, Option.toList_some, List.map_append, List.map_singleton, List.append_assoc]
    congr 1
    have e : (c.cs.map (·.2)).drop i = k :: (c.cs.map (·.2)).drop (i + 1) := by
      rw [List.drop_eq_getElem_cons hi2]
      congr 1
      exact (Option.some.inj ((List.getElem?_eq_getElem hi2).symm.trans hk))
    rw [e]
    all_goals rfl
  · show tk' = _
    rw [ht, taker_take_succ hk, I.tk]
    all_goals (cases taker o c.n (List.take i (c.cs.map (·.2))) <;> rfl)
structure WInv (w : World) (o : Array UInt8) (seats : List Seat) (fits : List (Nat × Nat)) (c : WS) : Prop where
  len : c.cs.length = seats.length
  small : ∀ k ∈ c.cs.map (·.2), k.wn.size < 1000 ∧ 0 < k.width
  found : All2 (fun (v : Value) (p : Nat × Nat) => ∃ (a : Addr) (t1 t2 : Tok), v = .ref a ∧ (a, tupO [.int p.1 t1, .int p.2 t2]) ∈ c.tl) c.vs c.fp
  tups : ∀ p ∈ c.tl, p.2.cls = .type "tuple"
  room : o.size ≤ c.n + c.k
  fits : c.fp ++ walk o c.k (c.cs.map (·.2)) c.n = fits
  few : c.vs.length ≤ c.n

theorem ws_end {w : World} {seats : List Seat} {o : Array UInt8} {to : Tok} {l fl L : Addr} {ep : Nat} {fits : List (Nat × Nat)} {g h' : Heap} {tk μ : Nat} {m' : Str → Option Value} {s₁ : Shared} {Q : Flow → Shared → Prop} (cs : List (SkV × Sk)) (n : Nat) (vs : List Value) (fp : List (Nat × Nat)) (tl : List (Addr × Obj)) (k : Nat)
    (F : Fr g L h' m') (h1 : m' (Str.ofString "found") = some (.ref fl)) (h2 : ∃ tA, m' (Str.ofString "at") = some (.int n tA)) (h3 : m' (Str.ofString "seekers") = some (.ref l)) (h4 : m' (Str.ofString "octets") = some (.bytes o to))
    (N : News g L h' ((fl, listO vs vs.length) :: (l, listO (seats.map fun a => .ref a.x) ep) :: (seatObjs w seats cs ++ tl))) (hI : WInv w o seats fits ⟨cs, n, 0, vs, fp, tl, k, fun _ => none⟩) (hμ : o.size - n < μ) :
    WhPost (wsMap o to l fl) (wsLed w seats l fl ep) (WInv w o seats fits) (fun c => o.size - c.n) μ g L s₁ Q .next { s₁ with heap := h', toks := tk } := by
  obtain ⟨tA, h2⟩ := h2
  exact ⟨⟨cs, n, tA, vs, fp, tl, k, m'⟩, h', tk, m', rfl, F, fun z => map_ws h1 h2 h3 h4, N, ⟨hI.len, hI.small, hI.found, hI.tups, hI.room, hI.fits, hI.few⟩, hμ⟩

end SU
section SV
end SV
local macro_rules | `(tactic| walk_at "subscriptTail") => `(tactic| (k_here; (with_reducible show wpAny _ _ (subscriptTail _ _ (Value.ref _) (Value.int _ _)) _ _ _); (rename News _ _ _ _ => lN); refine item_at lN (by k_mem) (by omega) (by assumption) (by omega) ?_))
section SV
variable {w : World} {A : Around} {E Q : Value → Shared → Prop} {s : Shared} {H : Heap}

theorem getElem_map_inv {α β : Type} {f : α → β} {l : List α} {i : Nat} {b : β} (h : (l.map f)[i]? = some b) : ∃ a, l[i]? = some a ∧ b = f a := by
  rw [List.getElem?_map] at h
  obtain ⟨a, ha, e⟩ := Option.map_eq_some_iff.mp h
  exact ⟨a, ha, e.symm⟩
theorem modify_set {α : Type} {l : List α} {j : Nat} {a : α} {f : α → α} (h : l[j]? = some a) : l.modify j f = l.set j (f a) := by
  apply List.ext_getElem?
  intro i
  rw [List.getElem?_modify, List.getElem?_set]
  by_cases hi : j = i
  · subst hi
    obtain ⟨h1, h2⟩ := List.getElem?_eq_some_iff.mp h
    simp [h1, h2]
  · simp [hi]
theorem taker_lt {o : Array UInt8} {n j : Nat} {ks : List Sk} (h : taker o n ks = some j) : j < ks.length :=
  (List.findIdx?_eq_some_iff_getElem.mp h).1
theorem ns_ne {h : Heap} {L e : Addr} {m : Str → Option Value} {o : Obj} (n : h.Ns L m) (he : h.get? e = some o) (hd : ∀ es ep, o.data ≠ .dict es ep) : L ≠ e := by
  rintro rfl
  obtain ⟨o', es, ep, h1, h2, _⟩ := n
  rw [he] at h1
  cases h1
  exact hd _ _ h2

theorem fits_in_spec {o : Array UInt8} {to : Tok} {l : Addr} {ep : Nat} {seats : List Seat} {cs : List (SkV × Sk)} (G : Fine w H s.heap) (hA : A.depth < 700) (hh : A.handled = none) (ho : o.size < 1000) (hsl : seats.length < 1000)
    (hl : ∀ p ∈ (l, listO (seats.map fun a => .ref a.x) ep) :: seatObjs w seats cs, s.heap.get? p.1 = some p.2 ∧ H.get? p.1 = none)
    (ok : SeatsOk seats) (hlen : cs.length = seats.length) (hsm : ∀ k ∈ cs.map (·.2), k.wn.size < 1000 ∧ 0 < k.width)
    (hQ : ∀ fl vs tl tk' h', (∀ b o, s.heap.get? b = some o → b ∉ seats.map (·.d) → h'.get? b = some o) → (∀ p ∈ (fl, listO vs vs.length) :: tl, h'.get? p.1 = some p.2 ∧ s.heap.get? p.1 = none) →
      All2 (fun (v : Value) (p : Nat × Nat) => ∃ (a : Addr) (t1 t2 : Tok), v = .ref a ∧ (a, tupO [.int p.1 t1, .int p.2 t2]) ∈ tl) vs (walk o o.size (cs.map (·.2)) 0) → Q (.ref fl) { s with heap := h', toks := tk' }) :
    wpAny (model PySem.Challenge.rw_pb0229_01.row.prog w) A (call (.ref 146) [.bytes o to, .ref l]) Q E s := by
  w_on
  obtain ⟨hd9, dp9, fr9, gs9, un9⟩ := A
  dsimp only at hA
  obtain rfl : hd9 = none := hh
  have X0 := G.X; revert X0; k_fill; intro X0; clear X0
  k_dflt (refine' enter (binds := [(Str.ofString "octets", .bytes o to), (Str.ofString "seekers", .ref l)]) G ((l, listO (seats.map fun a => .ref a.x) ep) :: seatObjs w seats cs) ?kadr ?k6 ?k7 ?k8 ?k9 ?kB ?c5 ?_ ?c2 ?c3 ?c4; (case k6 => k_is); (case k7 => k_is); (case k8 => (simp only [recursionLimit]; omega)); (case k9 => exact BindsTo.of_eq rfl); (case c5 => decide); (case kB => exact locs rfl); (case c2 => exact rfl); (case c3 => exact rfl); (case c4 => exact rfl); (case kadr => exact hl); intro g L' h₁ loose mean mg mb kBut FG X' T' F' N' kOut; (try dsimp only); (try k_fold))
  repeat' (first | ((with_reducible show wpAny _ _ (exec (Stmt.Raise _ _ _) _) _ _ _); exfalso; omega) | (k_unfold; (try dsimp only)) | (k_end; wrow_close) | ((fail_if_success (with_reducible show wpAny _ _ (pyIter _) _ _ _)); (fail_if_success (with_reducible show wpAny _ _ (exec (Stmt.While _ _ _ _) _) _ _ _)); first | walk1 | (dsimp only; walk1) | (dsimp only [leadV, wantedV, optV, Kind.str]; walk1)) | (leave1; walk_say "STEP leave1"; try dsimp only))
  rename Fr _ _ _ _ => F9
  rename News _ _ _ _ => N9
  rename_i fl _ l1 _ _ _ _ _ _
  obtain ⟨tA, F9⟩ : ∃ tA, Fr g L' _ (fun y => if y = Str.ofString "found" then some (Value.ref fl) else if y = Str.ofString "at" then some (Value.int 0 tA) else List.lookup y [(Str.ofString "octets", Value.bytes o to), (Str.ofString "seekers", Value.ref l)].reverse) := ⟨_, F9⟩
  have N9' : News g L' _ (wsLed w seats l fl ep ⟨cs, 0, tA, [], [], [], o.size, fun _ => none⟩) := kst_newsOf N9 (fun p hp => by unfold wsLed at hp; rw [List.append_nil] at hp; exact .tail _ hp)
  have hlfl : l ≠ fl := Nat.ne_of_lt l1.1
  refine while_led (wsMap o to l fl) (wsLed w seats l fl ep) (WInv w o seats (walk o o.size (cs.map (·.2)) 0)) (fun c => o.size - c.n) ⟨cs, 0, tA, [], [], [], o.size, fun _ => none⟩ F9 N9' ?_ rfl ⟨hlen, hsm, .nil, (fun _ h => nomatch h), by show o.size ≤ 0 + o.size; omega, rfl, Nat.le_refl _⟩ ?_
  · intro z
    simp only [wsMap, List.reverse_cons, List.reverse_nil, List.nil_append, List.cons_append, lookup_if, List.lookup_nil]
    rfl
  · intro c h tk hI F' N'
    k_fold
    repeat' (first | ((with_reducible show wpAny _ _ (exec (Stmt.Raise _ _ _) _) _ _ _); exfalso; omega) | (k_unfold; (try dsimp only)) | (k_end; wrow_close) | ((fail_if_success (with_reducible show wpAny _ _ (pyIter _) _ _ _)); (fail_if_success (with_reducible show wpAny _ _ (exec (Stmt.While _ _ _ _) _) _ _ _)); first | walk1 | (dsimp only; walk1) | (dsimp only [leadV, wantedV, optV, Kind.str]; walk1)) | (leave1; walk_say "STEP leave1"; try dsimp only))
    · -- the inner loop
      rename IsEnum _ _ _ _ _ => HE
      rename Heap.IsListIter _ _ _ _ => HIT
      rename Fr _ _ _ _ => F8
      rename News _ _ _ _ => N8
      rename _ < Array.size _ => hL9
      rename Array.size _ ≤ _ => hB9
      with_reducible rename (∀ p ∈ wsLed _ _ _ _ _ _, _) => hN9
      refine for_enum (news := wsLed w seats l fl ep c) (ep := ep) (vs := seats.map fun a => .ref a.x) (isMap o to l fl c) (isLed w seats l fl ep c) (IInv o seats c) ⟨c.cs, none, 0⟩ (by rfl) HE HIT (.tail _ (.head _)) (Nat.succ_ne_self _) F8 N8 ⟨Nat.ne_of_lt (Nat.lt_succ_of_lt hL9), Nat.ne_of_lt hL9⟩
        ⟨Heap.get?_none_of_le (Nat.le_trans hB9 (Nat.le_of_lt (Nat.lt_succ_of_lt hL9))), Heap.get?_none_of_le (Nat.le_trans hB9 (Nat.le_of_lt hL9))⟩ (fun p hp => ⟨Nat.ne_of_lt (Nat.lt_succ_of_lt (hN9 p hp)), Nat.ne_of_lt (hN9 p hp)⟩) ?_ rfl ⟨hI.len, by simp, by simp [taker]⟩ ?_ ?_ ?_
      · rintro z -
        rfl
      · intro i d hd
        simp only [isLed, List.map_cons, List.map_append, seat_addr w hd.len, seat_addr w hI.len]
      · -- a turn
        intro i d v t h2 tk2 own hv hI2 hown F2 N2
        obtain ⟨a, ha, rfl⟩ := getElem_map_inv hv
        obtain ⟨dcs, dtk, dtT⟩ := d
        have hi : i < seats.length := (List.getElem?_eq_some_iff.mp ha).1
        have hlen2 : dcs.length = seats.length := hI2.len
        obtain ⟨⟨V, k⟩, hc⟩ : ∃ c', dcs[i]? = some c' := ⟨_, List.getElem?_eq_getElem (by omega)⟩
        have hm2 := seat_mem w ha hc
        have hx : (a.x, instObj 128 a.d) ∈ own ++ isLed w seats l fl ep c ⟨dcs, dtk, dtT⟩ := List.mem_append_right _ (.tail _ (.tail _ (List.mem_append_left _ hm2.1)))
        have hdm : (a.d, skObj w a.T V k) ∈ own ++ isLed w seats l fl ep c ⟨dcs, dtk, dtT⟩ := List.mem_append_right _ (.tail _ (.tail _ (List.mem_append_left _ hm2.2)))
        have hxd : a.x ≠ a.d := ok.xd a (List.mem_of_getElem? ha) a (List.mem_of_getElem? ha)
        have hkc := iinv_get hI2 hI.len hc
        have hk : k.wn.size < 1000 := (hI.small k (List.mem_of_getElem? hkc)).1
        have hnx := fun (V' : SkV) (tT' : Tok) => iinv_next (V' := V') (tT' := tT') hI2 hI.len hc rfl
        have hdL : a.d ≠ L' ∧ g.get? a.d = none := ⟨(N2 _ hdm).2.1, N2.fresh hdm⟩
        k_unmd
        k_fold
        repeat' (first | ((with_reducible show wpAny _ _ (exec (Stmt.Raise _ _ _) _) _ _ _); exfalso; omega) | (k_unfold; (try dsimp only)) | (k_end; wrow_close) | ((fail_if_success (with_reducible show wpAny _ _ (pyIter _) _ _ _)); (fail_if_success (with_reducible show wpAny _ _ (exec (Stmt.While _ _ _ _) _) _ _ _)); first | walk1 | (dsimp only; walk1) | (dsimp only [leadV, wantedV, optV, Kind.str]; walk1)) | (leave1; walk_say "STEP leave1"; try dsimp only))
        rename Fr _ _ _ _ => F3
        rename News _ _ _ _ => N3
        refine reach_spec (H := H) (x := a.x) (d := a.d) (T := a.T) (V := V) (k := k) (n := c.n) (Fine.after FG F3.keep) (by simp only [depth_deeper]; omega) (led FG N3 hx) (led FG N3 hdm) hxd ?_
        intro V' tk3 h3 hb hg
        have F4 := fr_turn F3 hb hdL
        have N4 : News g L' h3 (own ++ isLed w seats l fl ep c ⟨dcs.set i (V', k.reach c.n), dtk, dtT⟩) := by
          refine news_turn N3 hb hg hdL fun p hp => ?_
          have hown2 : ∀ p ∈ own, p.1 ≠ a.d := fun p hp => by
            have hq := hN9 _ (List.Mem.tail _ (List.Mem.tail _ (List.mem_append_left c.tl (seat_mem w ha (List.getElem?_eq_getElem (show i < c.cs.length by rw [hI.len]; exact hi))).2)))
            have hla : l ≠ a.d := news_ne N3 (List.mem_append_right _ (.tail _ (.head _))) hdm (by simp)
            rcases hown p hp with e | e | e
            · rw [e]; exact Nat.ne_of_gt (Nat.lt_succ_of_lt hq)
            · rw [e]; exact Nat.ne_of_gt hq
            · rw [e]; exact hla
          rcases List.mem_append.mp hp with hp | hp
          · exact .inr ⟨List.mem_append_left _ hp, hown2 p hp⟩
          · rcases List.mem_cons.mp hp with rfl | hp
            · exact .inr ⟨List.mem_append_right _ (.head _), news_ne N3 (List.mem_append_right _ (.head _)) hdm (by simp)⟩
            · rcases List.mem_cons.mp hp with rfl | hp
              · exact .inr ⟨List.mem_append_right _ (.tail _ (.head _)), news_ne N3 (List.mem_append_right _ (.tail _ (.head _))) hdm (by simp)⟩
              · rcases List.mem_append.mp hp with hp | hp
                · rcases seat_set w ok ha hp with h | ⟨h, h'⟩
                  · exact .inl h
                  · exact .inr ⟨List.mem_append_right _ (.tail _ (.tail _ (List.mem_append_left _ h))), h'⟩
                · have hpm : p ∈ own ++ isLed w seats l fl ep c ⟨dcs, dtk, dtT⟩ := List.mem_append_right _ (.tail _ (.tail _ (List.mem_append_right _ hp)))
                  exact .inr ⟨hpm, news_ne N3 (o1 := p.2) hpm hdm (by rw [hI.tups p hp]; simp)⟩
        clear N3 F3 hb hg
        have hsub : ∀ (d' : IS), ∀ p ∈ isLed w seats l fl ep c d' ++ own, p ∈ own ++ isLed w seats l fl ep c d' := fun d' p hp => (List.mem_append.mp hp).elim (List.mem_append_right _) (List.mem_append_left _)
        have hx4 : (a.x, instObj 128 a.d) ∈ own ++ isLed w seats l fl ep c ⟨dcs.set i (V', k.reach c.n), dtk, dtT⟩ := List.mem_append_right _ (.tail _ (.tail _ (List.mem_append_left _ (seat_mem w ha (List.getElem?_set_self (by omega))).1)))
        have hd4 : (a.d, skObj w a.T V' (k.reach c.n)) ∈ own ++ isLed w seats l fl ep c ⟨dcs.set i (V', k.reach c.n), dtk, dtT⟩ := List.mem_append_right _ (.tail _ (.tail _ (List.mem_append_left _ (seat_mem w ha (List.getElem?_set_self (by omega))).2)))
        cases dtk with
        | some j =>
          replace F4 : Fr g L' h3 fun y => if y = Str.ofString "seeker" then some (.ref a.x) else if y = Str.ofString "number" then some (.int i t) else if y = Str.ofString "taker" then some (.int j dtT) else wsMap o to l fl c y := F4
          repeat' (first | ((with_reducible show wpAny _ _ (exec (Stmt.Raise _ _ _) _) _ _ _); exfalso; omega) | (k_unfold; (try dsimp only)) | (k_end; wrow_close) | ((fail_if_success (with_reducible show wpAny _ _ (pyIter _) _ _ _)); (fail_if_success (with_reducible show wpAny _ _ (exec (Stmt.While _ _ _ _) _) _ _ _)); first | walk1 | (dsimp only; walk1) | (dsimp only [leadV, wantedV, optV, Kind.str]; walk1)) | (leave1; walk_say "STEP leave1"; try dsimp only))
          rename Fr _ _ _ _ => F5
          rename News _ _ _ _ => N5
          refine TurnEnd.intro _ F5 (fun z hz => ?_) N5 (hsub _) (hnx V' dtT)
          simp only [if_neg hz.1, if_neg hz.2]
          rfl
        | none =>
          replace F4 : Fr g L' h3 fun y => if y = Str.ofString "seeker" then some (.ref a.x) else if y = Str.ofString "number" then some (.int i t) else if y = Str.ofString "taker" then some .none else wsMap o to l fl c y := F4
          repeat' (first | ((with_reducible show wpAny _ _ (exec (Stmt.Raise _ _ _) _) _ _ _); exfalso; omega) | (k_unfold; (try dsimp only)) | (k_end; wrow_close) | ((fail_if_success (with_reducible show wpAny _ _ (pyIter _) _ _ _)); (fail_if_success (with_reducible show wpAny _ _ (exec (Stmt.While _ _ _ _) _) _ _ _)); first | walk1 | (dsimp only; walk1) | (dsimp only [leadV, wantedV, optV, Kind.str]; walk1)) | (leave1; walk_say "STEP leave1"; try dsimp only))
          rename Fr _ _ _ _ => F5
          rename News _ _ _ _ => N5
          refine fit_spec (H := H) (x := a.x) (d := a.d) (T := a.T) (V := V') (k := k.reach c.n) (n := c.n) (Fine.after FG F5.keep) (by simp only [depth_deeper]; omega) (led FG N5 hx4) (led FG N5 hd4) ho (by rw [Sk.reach_wn]; exact hk) (by omega) ?_
          intro tk5 h5 hs5
          have F6 := Fr.after F5 hs5
          have N6 := News.grown N5 hs5
          clear F5 N5 hs5
          repeat' (first | ((with_reducible show wpAny _ _ (exec (Stmt.Raise _ _ _) _) _ _ _); exfalso; omega) | (k_unfold; (try dsimp only)) | (k_end; wrow_close) | ((fail_if_success (with_reducible show wpAny _ _ (pyIter _) _ _ _)); (fail_if_success (with_reducible show wpAny _ _ (exec (Stmt.While _ _ _ _) _) _ _ _)); first | walk1 | (dsimp only; walk1) | (dsimp only [leadV, wantedV, optV, Kind.str]; walk1)) | (leave1; walk_say "STEP leave1"; try dsimp only))
          · rename Fr _ _ _ _ => F7
            rename News _ _ _ _ => N7
            rename Sk.fit _ _ _ = true => hfit
            simp only [hfit, if_true] at hnx
            refine TurnEnd.intro ⟨dcs.set i (V', k.reach c.n), some i, t⟩ F7 (fun z hz => ?_) N7 (fun p hp => hsub ⟨dcs.set i (V', k.reach c.n), none, dtT⟩ p hp) (hnx V' t)
            simp only [if_neg hz.1, if_neg hz.2]
            by_cases hz3 : z = Str.ofString "taker"
            · simp only [isMap, hz3, if_true]
            · simp only [isMap, hz3, if_false]
          · rename Fr _ _ _ _ => F7
            rename News _ _ _ _ => N7
            rename Sk.fit _ _ _ = false => hfit
            simp only [hfit, Bool.false_eq_true, if_false] at hnx
            refine TurnEnd.intro _ F7 (fun z hz => ?_) N7 (hsub _) (hnx V' dtT)
            simp only [if_neg hz.1, if_neg hz.2]
            rfl
      · -- behind the loop
        intro d m h2 tk2 hI2 F2 hm N2
        have hcn : c.n < o.size := by omega
        have em : m = fun y => if y = Str.ofString "seeker" then m (Str.ofString "seeker") else if y = Str.ofString "number" then m (Str.ofString "number") else isMap o to l fl c d y := by
          refine funext fun y => ?_
          by_cases h1 : y = Str.ofString "seeker"
          · simp only [h1, if_true]
          · by_cases h2 : y = Str.ofString "number"
            · rw [h2, if_neg (by decide), if_pos rfl]
            · rw [if_neg h1, if_neg h2]
              exact hm y ⟨h1, h2⟩
        rw [em] at F2
        clear em
        generalize m (Str.ofString "seeker") = u1 at F2
        generalize m (Str.ofString "number") = u2 at F2
        clear hm
        obtain ⟨dcs, dtk, dtT⟩ := d
        have hlen2 : dcs.length = seats.length := hI2.len
        have hks := hI2.ks
        have htk := hI2.tk
        rw [List.length_map, List.take_of_length_le (by rw [List.length_map, hI.len]; exact Nat.le_refl _), List.drop_eq_nil_of_le (by rw [List.length_map, hI.len]; exact Nat.le_refl _), List.append_nil] at hks
        rw [List.length_map, List.take_of_length_le (by rw [List.length_map, hI.len]; exact Nat.le_refl _)] at htk
        dsimp only at hks htk
        cases dtk with
        | none =>
          replace F2 : Fr g L' h2 fun y => if y = Str.ofString "seeker" then u1 else if y = Str.ofString "number" then u2 else if y = Str.ofString "taker" then some .none else wsMap o to l fl c y := F2
          repeat' (first | ((with_reducible show wpAny _ _ (exec (Stmt.Raise _ _ _) _) _ _ _); exfalso; omega) | (k_unfold; (try dsimp only)) | (k_end; wrow_close) | ((fail_if_success (with_reducible show wpAny _ _ (pyIter _) _ _ _)); (fail_if_success (with_reducible show wpAny _ _ (exec (Stmt.While _ _ _ _) _) _ _ _)); first | walk1 | (dsimp only; walk1) | (dsimp only [leadV, wantedV, optV, Kind.str]; walk1)) | (leave1; walk_say "STEP leave1"; try dsimp only))
          rename Fr _ _ _ _ => F7
          rename News _ _ _ _ => N7
          obtain ⟨kk, hkk⟩ : ∃ kk, c.k = kk + 1 := ⟨c.k - 1, by have := hI.room; omega⟩
          have hf := hI.fits
          rw [hkk, walk_skip hcn htk.symm, ← hks] at hf
          refine ws_end dcs (c.n + 1) c.vs c.fp c.tl kk F7 rfl ⟨_, rfl⟩ rfl rfl N7 ⟨hlen2, ?_, hI.found, hI.tups, by have := hI.room; show o.size ≤ c.n + 1 + kk; omega, hf, Nat.le_succ_of_le hI.few⟩ (by show o.size - (c.n + 1) < o.size - c.n; omega)
          · show ∀ k ∈ dcs.map (·.2), _
            rw [hks]
            intro k hk
            obtain ⟨k0, hk0, rfl⟩ := List.mem_map.mp hk
            rw [Sk.reach_wn, Sk.reach_width]
            exact hI.small k0 hk0
        | some j =>
          replace F2 : Fr g L' h2 fun y => if y = Str.ofString "seeker" then u1 else if y = Str.ofString "number" then u2 else if y = Str.ofString "taker" then some (.int j dtT) else wsMap o to l fl c y := F2
          have hj := taker_lt htk.symm
          rw [List.length_map, hI.len] at hj
          obtain ⟨a, ha⟩ : ∃ a, seats[j]? = some a := ⟨_, List.getElem?_eq_getElem hj⟩
          obtain ⟨⟨V, kr⟩, hc⟩ : ∃ c', dcs[j]? = some c' := ⟨_, List.getElem?_eq_getElem (by omega)⟩
          obtain ⟨k, hk⟩ : ∃ k, (c.cs.map (·.2))[j]? = some k := ⟨_, List.getElem?_eq_getElem (by rw [List.length_map, hI.len]; exact hj)⟩
          have hkr : kr = k.reach c.n := by
            have h1 : (dcs.map (·.2))[j]? = some kr := by simp [hc]
            rw [hks, List.getElem?_map, hk] at h1
            exact (Option.some.inj h1).symm
          subst hkr
          have hkz := hI.small k (List.mem_of_getElem? hk)
          have hitem : (seats.map fun a => Value.ref a.x)[((j : Nat) : Int).toNat]? = some (.ref a.x) := by simp [ha]
          have hm2 := seat_mem w ha hc
          have hjb : j < 100000 := by omega
          repeat' (first | ((with_reducible show wpAny _ _ (exec (Stmt.Raise _ _ _) _) _ _ _); exfalso; omega) | (k_unfold; (try dsimp only)) | (k_end; wrow_close) | ((fail_if_success (with_reducible show wpAny _ _ (pyIter _) _ _ _)); (fail_if_success (with_reducible show wpAny _ _ (exec (Stmt.While _ _ _ _) _) _ _ _)); first | walk1 | (dsimp only; walk1) | (dsimp only [leadV, wantedV, optV, Kind.str]; walk1)) | (leave1; walk_say "STEP leave1"; try dsimp only))
          rename Fr _ _ _ _ => F8
          rename News _ _ _ _ => N8
          rename_i D' h8 l8
          have hfl8 := (List.Mem.tail _ (List.Mem.head _) : (fl, listO c.vs c.vs.length) ∈ (D', tupO [.int (c.n : Int) c.tA, .int (j : Int) dtT]) :: isLed w seats l fl ep c ⟨dcs, some j, dtT⟩)
          k_dflt (refine append_K F8 N8 (Upd.tail ?u1 (Upd.head ?u2)) ?_ ?u3)
          case u1 => exact news_ne (o1 := tupO _) N8 (.head _) hfl8 (by simp)
          case u2 =>
            intro p hp
            rcases List.mem_cons.mp hp with rfl | hp
            · exact hlfl
            · refine news_ne (o1 := p.2) N8 (.tail _ (.tail _ (.tail _ hp))) hfl8 ?_
              rcases List.mem_append.mp hp with hp | hp
              · obtain ⟨_, _, _, _, _, rfl | rfl⟩ := seat_inv w hp <;> simp [instObj, skObj]
              · rw [hI.tups p hp]; simp
          case u3 => have := hI.few; simp; unfold sizeLine; omega
          intro h9 F9 N9
          simp only [List.push_toArray] at N9
          have hdL : a.d ≠ L' ∧ g.get? a.d = none := ⟨(N9 _ (.tail _ (.tail _ (.tail _ (List.mem_append_left _ hm2.2))))).2.1, N9.fresh (.tail _ (.tail _ (.tail _ (List.mem_append_left _ hm2.2))))⟩
          clear N8 F8
          have hx10 : (a.x, instObj 128 a.d) ∈ (D', tupO [.int (c.n : Int) c.tA, .int (j : Int) dtT]) :: (fl, listO (c.vs ++ [Value.ref D']) (c.vs.length + 1)) :: (l, listO (seats.map fun a => .ref a.x) ep) :: (seatObjs w seats dcs ++ c.tl) := .tail _ (.tail _ (.tail _ (List.mem_append_left _ hm2.1)))
          have hd10 : (a.d, skObj w a.T V (k.reach c.n)) ∈ (D', tupO [.int (c.n : Int) c.tA, .int (j : Int) dtT]) :: (fl, listO (c.vs ++ [Value.ref D']) (c.vs.length + 1)) :: (l, listO (seats.map fun a => .ref a.x) ep) :: (seatObjs w seats dcs ++ c.tl) := .tail _ (.tail _ (.tail _ (List.mem_append_left _ hm2.2)))
          k_unmd
          (try k_fold)
          repeat' (first | ((with_reducible show wpAny _ _ (exec (Stmt.Raise _ _ _) _) _ _ _); exfalso; omega) | (k_unfold; (try dsimp only)) | (k_end; wrow_close) | ((fail_if_success (with_reducible show wpAny _ _ (pyIter _) _ _ _)); (fail_if_success (with_reducible show wpAny _ _ (exec (Stmt.While _ _ _ _) _) _ _ _)); first | walk1 | (dsimp only; walk1) | (dsimp only [leadV, wantedV, optV, Kind.str]; walk1)) | (leave1; walk_say "STEP leave1"; try dsimp only))
          rename Fr _ _ _ _ => F10
          rename News _ _ _ _ => N10
          have hxd : a.x ≠ a.d := ok.xd a (List.mem_of_getElem? ha) a (List.mem_of_getElem? ha)
          refine took_spec (H := H) (x := a.x) (d := a.d) (T := a.T) (V := V) (k := k.reach c.n) (n := c.n) (Fine.after FG F10.keep) (by simp only [depth_deeper]; omega) (led FG N10 hx10) (led FG N10 hd10) hxd (by rw [Sk.reach_wn]; exact hkz.1) ?_
          intro V' tk3 h3 hb hg
          have F11 := fr_turn F10 hb hdL
          have N11 : News g L' h3 ((D', tupO [.int (c.n : Int) c.tA, .int (j : Int) dtT]) :: (fl, listO (c.vs ++ [Value.ref D']) (c.vs ++ [Value.ref D']).length) :: (l, listO (seats.map fun a => .ref a.x) ep) :: (seatObjs w seats (dcs.set j (V', (k.reach c.n).took c.n)) ++ c.tl)) := by
            rw [List.length_append, List.length_singleton]
            refine news_turn N10 hb hg hdL fun p hp => ?_
            rcases List.mem_cons.mp hp with rfl | hp
            · exact .inr ⟨.head _, news_ne (o1 := tupO _) N10 (.head _) hd10 (by simp [skObj])⟩
            rcases List.mem_cons.mp hp with rfl | hp
            · exact .inr ⟨.tail _ (.head _), news_ne (o1 := listO _ _) N10 (.tail _ (.head _)) hd10 (by simp [skObj])⟩
            rcases List.mem_cons.mp hp with rfl | hp
            · exact .inr ⟨.tail _ (.tail _ (.head _)), news_ne (o1 := listO _ _) N10 (.tail _ (.tail _ (.head _))) hd10 (by simp [skObj])⟩
            rcases List.mem_append.mp hp with hp | hp
            · rcases seat_set w ok ha hp with h | ⟨h, h'⟩
              · exact .inl h
              · exact .inr ⟨.tail _ (.tail _ (.tail _ (List.mem_append_left _ h))), h'⟩
            · refine .inr ⟨.tail _ (.tail _ (.tail _ (List.mem_append_right _ hp))), news_ne (o1 := p.2) N10 (.tail _ (.tail _ (.tail _ (List.mem_append_right _ hp)))) hd10 (by rw [hI.tups p hp]; simp [skObj])⟩
          clear N10 F10 hb hg hx10 hd10
          have hm3 := seat_mem w ha (List.getElem?_set_self (l := dcs) (i := j) (a := (V', (k.reach c.n).took c.n)) (by omega))
          have hx11 : (a.x, instObj 128 a.d) ∈ (D', tupO [.int (c.n : Int) c.tA, .int (j : Int) dtT]) :: (fl, listO (c.vs ++ [Value.ref D']) (c.vs ++ [Value.ref D']).length) :: (l, listO (seats.map fun a => .ref a.x) ep) :: (seatObjs w seats (dcs.set j (V', (k.reach c.n).took c.n)) ++ c.tl) := .tail _ (.tail _ (.tail _ (List.mem_append_left _ hm3.1)))
          have hd11 : (a.d, skObj w a.T V' ((k.reach c.n).took c.n)) ∈ (D', tupO [.int (c.n : Int) c.tA, .int (j : Int) dtT]) :: (fl, listO (c.vs ++ [Value.ref D']) (c.vs ++ [Value.ref D']).length) :: (l, listO (seats.map fun a => .ref a.x) ep) :: (seatObjs w seats (dcs.set j (V', (k.reach c.n).took c.n)) ++ c.tl) := .tail _ (.tail _ (.tail _ (List.mem_append_left _ hm3.2)))
          repeat' (first | ((with_reducible show wpAny _ _ (exec (Stmt.Raise _ _ _) _) _ _ _); exfalso; omega) | (k_unfold; (try dsimp only)) | (k_end; wrow_close) | ((fail_if_success (with_reducible show wpAny _ _ (pyIter _) _ _ _)); (fail_if_success (with_reducible show wpAny _ _ (exec (Stmt.While _ _ _ _) _) _ _ _)); first | walk1 | (dsimp only; walk1) | (dsimp only [leadV, wantedV, optV, Kind.str]; walk1)) | (leave1; walk_say "STEP leave1"; try dsimp only))
          rename Fr _ _ _ _ => F12
          rename News _ _ _ _ => N12
          refine width_spec (H := H) (x := a.x) (d := a.d) (T := a.T) (V := V') (k := (k.reach c.n).took c.n) (Fine.after FG F12.keep) (by simp only [depth_deeper]; omega) (led FG N12 hx11) (led FG N12 hd11) (by show (k.reach c.n).wn.size < 1000; rw [Sk.reach_wn]; exact hkz.1) ?_
          intro tw tk5 h5 hs5
          have F13 := Fr.after F12 hs5
          have N13 := News.grown N12 hs5
          clear F12 N12 hs5
          rw [Sk.took_width, Sk.reach_width]
          repeat' (first | ((with_reducible show wpAny _ _ (exec (Stmt.Raise _ _ _) _) _ _ _); exfalso; omega) | (k_unfold; (try dsimp only)) | (k_end; wrow_close) | ((fail_if_success (with_reducible show wpAny _ _ (pyIter _) _ _ _)); (fail_if_success (with_reducible show wpAny _ _ (exec (Stmt.While _ _ _ _) _) _ _ _)); first | walk1 | (dsimp only; walk1) | (dsimp only [leadV, wantedV, optV, Kind.str]; walk1)) | (leave1; walk_say "STEP leave1"; try dsimp only))
          rename Fr _ _ _ _ => F14
          rename News _ _ _ _ => N14
          obtain ⟨kk, hkk⟩ : ∃ kk, c.k = kk + 1 := ⟨c.k - 1, by have := hI.room; omega⟩
          have hf := hI.fits
          have hse : ((c.cs.map (·.2)).map (·.reach c.n)).modify j (·.took c.n) = (dcs.set j (V', (k.reach c.n).took c.n)).map (·.2) := by
            rw [List.map_set, hks, modify_set (a := k.reach c.n) (by rw [List.getElem?_map, hk]; rfl)]
          rw [hkk, walk_take hcn htk.symm hk, hse] at hf
          refine ws_end (dcs.set j (V', (k.reach c.n).took c.n)) (c.n + k.width) (c.vs ++ [.ref D']) (c.fp ++ [(c.n, j)]) ((D', tupO [.int (c.n : Int) c.tA, .int (j : Int) dtT]) :: c.tl) kk F14 rfl ⟨_, rfl⟩ rfl rfl (kst_newsOf N14 ?_) ⟨?_, ?_, ?_, ?_, ?_, ?_, ?_⟩ (by show o.size - (c.n + k.width) < o.size - c.n; omega)
          · intro p hp
            rcases List.mem_cons.mp hp with rfl | hp
            · exact .tail _ (.head _)
            rcases List.mem_cons.mp hp with rfl | hp
            · exact .tail _ (.tail _ (.head _))
            rcases List.mem_append.mp hp with hp | hp
            · exact .tail _ (.tail _ (.tail _ (List.mem_append_left _ hp)))
            rcases List.mem_cons.mp hp with rfl | hp
            · exact .head _
            · exact .tail _ (.tail _ (.tail _ (List.mem_append_right _ hp)))
          · show (dcs.set j _).length = _
            rw [List.length_set]; exact hlen2
          · show ∀ q ∈ (dcs.set j (V', (k.reach c.n).took c.n)).map (·.2), _
            rw [← hse]
            intro q hq
            rw [modify_set (a := k.reach c.n) (by rw [List.getElem?_map, hk]; rfl)] at hq
            rcases List.mem_or_eq_of_mem_set hq with hq | rfl
            · obtain ⟨k0, hk0, rfl⟩ := List.mem_map.mp hq
              rw [Sk.reach_wn, Sk.reach_width]
              exact hI.small k0 hk0
            · rw [Sk.took_width, Sk.reach_width]
              exact ⟨by show (k.reach c.n).wn.size < 1000; rw [Sk.reach_wn]; exact hkz.1, hkz.2⟩
          · exact (hI.found.mono fun v p ⟨a, t1, t2, e, hm⟩ => ⟨a, t1, t2, e, .tail _ hm⟩).snoc ⟨D', _, _, rfl, .head _⟩
          · intro p hp
            rcases List.mem_cons.mp hp with rfl | hp
            · rfl
            · exact hI.tups p hp
          · have := hI.room
            show o.size ≤ c.n + k.width + kk
            omega
          · show (c.fp ++ [(c.n, j)]) ++ walk o kk ((dcs.set j (V', (k.reach c.n).took c.n)).map (·.2)) (c.n + k.width) = _
            rw [List.append_assoc]
            exact hf
          · have := hI.few
            show (c.vs ++ [Value.ref D']).length ≤ c.n + k.width
            rw [List.length_append, List.length_singleton]
            omega
    · -- the end
      have hn : ¬ c.n < o.size := by omega
      have hf := hI.fits
      rw [walk_end hn, List.append_nil] at hf
      show Q _ _
      rename Fr _ _ _ _ => F9
      rename News _ _ _ _ => N9
      refine hQ fl c.vs c.tl _ _ ?_ ?_ (hf ▸ hI.found)
      · intro b ob e hb
        by_cases hbn : b ∈ ((l, listO (seats.map fun a => .ref a.x) ep) :: seatObjs w seats cs).map (·.1)
        · rcases List.mem_cons.mp hbn with rfl | hbn
          · rw [(hl _ (.head _)).1] at e
            exact (N9 (b, listO (seats.map fun a => .ref a.x) ep) (.tail _ (.head _))).1.trans e
          · obtain ⟨p, hp, rfl⟩ := List.mem_map.mp hbn
            obtain ⟨i, a, c0, h1, h2, h3⟩ := seat_inv w hp
            have h4 := (hl p (.tail _ hp)).1
            rcases h3 with rfl | rfl
            · have hic : i < c.cs.length := by rw [hI.len]; exact (List.getElem?_eq_some_iff.mp h1).1
              rw [h4] at e
              exact (N9 _ (List.Mem.tail _ (List.Mem.tail _ (List.mem_append_left c.tl (seat_mem w h1 (List.getElem?_eq_getElem hic)).1)))).1.trans e
            · exact absurd (List.mem_map_of_mem (List.mem_of_getElem? h1)) hb
        · exact F9.keep _ _ (kBut _ _ e hbn)
      · intro p hp
        have hp9 : p ∈ wsLed w seats l fl ep c := by
          rcases List.mem_cons.mp hp with rfl | hp
          · exact .head _
          · exact .tail _ (.tail _ (List.mem_append_right _ hp))
        refine ⟨(N9 p hp9).1, ?_⟩
        cases e : s.heap.get? p.1 with
        | none => rfl
        | some ob =>
          exfalso
          by_cases hbn : p.1 ∈ ((l, listO (seats.map fun a => .ref a.x) ep) :: seatObjs w seats cs).map (·.1)
          · have hsa : ((l, listO (seats.map fun a => .ref a.x) ep) :: seatObjs w seats cs).map (·.1) = ((l, listO (seats.map fun a => .ref a.x) ep) :: seatObjs w seats c.cs).map (·.1) := by
              simp only [List.map_cons, seat_addr w hlen, seat_addr w hI.len]
            rw [hsa] at hbn
            obtain ⟨q, hq, hqp⟩ := List.mem_map.mp hbn
            have hq9 : q ∈ wsLed w seats l fl ep c := by
              rcases List.mem_cons.mp hq with rfl | hq
              · exact .tail _ (.head _)
              · exact .tail _ (.tail _ (List.mem_append_left _ hq))
            have hcq : (q.2.cls = .type "list" ∧ q.1 = l) ∨ q.2.cls = (instObj 128 0).cls ∨ q.2.cls = .type "dict" := by
              rcases List.mem_cons.mp hq with rfl | hq
              · exact .inl ⟨rfl, rfl⟩
              · obtain ⟨_, _, _, _, _, rfl | rfl⟩ := seat_inv w hq
                · exact .inr (.inl rfl)
                · exact .inr (.inr rfl)
            rcases List.mem_cons.mp hp with rfl | hp
            · rcases hcq with ⟨_, h2⟩ | h | h
              · exact hlfl (h2.symm.trans hqp)
              · exact news_ne (o1 := q.2) (o2 := listO _ _) N9 hq9 hp9 (by rw [h]; simp [instObj]) hqp
              · exact news_ne (o1 := q.2) (o2 := listO _ _) N9 hq9 hp9 (by rw [h]; simp) hqp
            · have ht := hI.tups p hp
              rcases hcq with ⟨h, _⟩ | h | h
              · exact news_ne (o1 := q.2) (o2 := p.2) N9 hq9 hp9 (by rw [h, ht]; simp) hqp
              · exact news_ne (o1 := q.2) (o2 := p.2) N9 hq9 hp9 (by rw [h, ht]; simp [instObj]) hqp
              · exact news_ne (o1 := q.2) (o2 := p.2) N9 hq9 hp9 (by rw [h, ht]; simp) hqp
          · have h5 := kBut _ _ e hbn
            have h6 := N9.fresh hp9
            rw [h5] at h6
            cases h6

end SV
section SW
end SW
local macro_rules | `(tactic| walk_at "call ref") => `(tactic| (k_here; (with_reducible show wpAny _ _ (call (Value.ref 76) _) _ _ _); (show wpAny _ _ (call _ _) _ _ _); k_dflt (refine' stretch_begin_spec ?g9 ?a9 ?s0 ?s1 ?s2 ?_; (case g9 => exact Fine.after (by assumption) (Fr.keep (by assumption))); (case a9 => (first | omega | (simp only [depth_deeper, depth_in1] at *; omega) | (show _ < _; dsimp only [Around.deeper, Around.in1, Around.under, Around.mark]; omega))); (case s0 => (first | assumption | exact rfl | omega | (refine ⟨?_, ?_⟩ <;> omega))); (case s1 => (first | assumption | exact rfl | omega | (refine ⟨?_, ?_⟩ <;> omega))); (case s2 => (first | assumption | exact rfl | omega | (refine ⟨?_, ?_⟩ <;> omega))); k_whole); (with_reducible rename Fr _ _ _ _ => lF); (with_reducible rename News _ _ _ _ => lN); intros; (have F' := Fr.after lF (by assumption)); (have N' := News.grown lN (by assumption)); (try k_sweep)))
section SW
end SW
local macro_rules | `(tactic| walk_at "call ref") => `(tactic| (k_here; (with_reducible show wpAny _ _ (call (Value.ref 83) _) _ _ _); (show wpAny _ _ (call _ _) _ _ _); k_dflt (refine' stretch_end_spec ?g9 ?a9 ?s0 ?s1 ?s2 ?_; (case g9 => exact Fine.after (by assumption) (Fr.keep (by assumption))); (case a9 => (first | omega | (simp only [depth_deeper, depth_in1] at *; omega) | (show _ < _; dsimp only [Around.deeper, Around.in1, Around.under, Around.mark]; omega))); (case s0 => (first | assumption | exact rfl | omega | (refine ⟨?_, ?_⟩ <;> omega))); (case s1 => (first | assumption | exact rfl | omega | (refine ⟨?_, ?_⟩ <;> omega))); (case s2 => (first | assumption | exact rfl | omega | (refine ⟨?_, ?_⟩ <;> omega))); k_whole); (with_reducible rename Fr _ _ _ _ => lF); (with_reducible rename News _ _ _ _ => lN); intros; (have F' := Fr.after lF (by assumption)); (have N' := News.grown lN (by assumption)); (try k_sweep)))
section SW
variable {w : World} {A : Around} {E Q : Value → Shared → Prop} {s : Shared} {H : Heap}

theorem enterC {name qual : Str} {params : Arguments} {body : List Stmt} {scope : Scope} {dV kV doc pm cdv ct oc : Value} {an od : Option Addr} {osl : Array (Option Value)} {f : Addr} {vals : List Value} {binds : List (Str × Value)} {R : Result → Shared → Prop}
    (G : Fine w H s.heap) (news : List (Addr × Obj)) (hadr : ∀ p ∈ news, s.heap.get? p.1 = some p.2 ∧ H.get? p.1 = none)
    (ho : (hd.heap_39 w.params).lookup f = some ⟨oc, od, .func (fnOf name qual params body scope dV kV doc pm an cdv ct), osl⟩) (hcd : codeIn (hd.heap_39 w.params) cdv qual = true) (hroom : A.depth < recursionLimit)
    (hbind : BindsTo s (fnOf name qual params body scope dV kV doc pm an cdv ct) ⟨vals, []⟩ binds) (hloc : ∀ y ∈ binds, scope.names.lookup y.1 = some .local)
    (hcell : ∀ x ∈ scope.names, x.2 ≠ .cell)
    (h : ∀ g L' h₁ loose mean mg mb, But (news.map (·.1)) s.heap g → Fine w H g → (hd.heap_39 w.params).In g → Top hd.view_39 loose mean mg mb g → Fr g L' h₁ (fun y => binds.reverse.lookup y) → News g L' h₁ news →
      (∀ h', Sub g h' → But (news.map (·.1)) s.heap h') →
      wpAny (model PySem.Challenge.rw_pb0229_01.row.prog w) (A.deeper (envOf qual scope L' f cdv)) (execs body (envOf qual scope L' f cdv))
        (fun fl s' => R (.ok (.ret (match fl with | .ret v => v | _ => .none))) s') (fun _ _ => False)
        { s with heap := h₁, toks := s.toks + binds.length })
    (hco : scope.isCoroutine = false := by rfl) (hgen : scope.isGenerator = false := by rfl) (hk : scope.kind = .function := by rfl) :
    codeAny (model PySem.Challenge.rw_pb0229_01.row.prog w) A (.call (.ref f) ⟨vals, []⟩) R s := by
  obtain ⟨X₀, ⟨loose, mean, mg, mb, T₀⟩, K₀⟩ := id G
  refine codeAny_call_def (fd := fnOf name qual params body scope dV kV doc pm an cdv ct) (body := body) (binds := binds) hroom ((X₀.keeps K₀) _ _ ho) rfl (T₀.nolimit.keeps K₀) (codeRec_of (X₀.keeps K₀) hcd) rfl hbind hcell hloc (fun h₁ hns hk₁ => ?_) hco hgen hk
  have st : Sub H (hideAll s.heap (news.map (·.1))) := fun b o e => hideAll_get _ (K₀ b o e) fun q => by
    obtain ⟨p, hp, rfl⟩ := List.mem_map.mp q
    rw [(hadr p hp).2] at e; cases e
  refine wpAny_mono (h (hideAll s.heap (news.map (·.1))) s.heap.objs.size h₁ loose mean mg mb (fun b o e n => hideAll_get _ e n) ⟨X₀, ⟨loose, mean, mg, mb, T₀⟩, st⟩ (X₀.keeps st) (T₀.keeps st)
    ⟨hns, fun b o e => hk₁ b o (of_hideAll _ e), Nat.le_of_eq (hideAll_size _ _)⟩
    (fun p hp => ⟨hk₁ _ _ (hadr p hp).1, Nat.ne_of_lt (Heap.lt_size (hadr p hp).1), hideAll_none _ (List.mem_map_of_mem hp)⟩)
    (fun h' k b o e n => k b o (hideAll_get _ e n))) (fun fl s' q => q) fun _ _ y => y.elim

theorem init_spec {x d : Addr} {kv wv bv ev : Value} {R : Result → Shared → Prop} (G : Fine w H s.heap) (hA : A.depth < 750)
    (hx : s.heap.get? x = some (instObj 128 d) ∧ H.get? x = none) (hd : s.heap.get? d = some (dictOf [] 0) ∧ H.get? d = none) (hne : x ≠ d)
    (hR : ∀ T tk' h', But [d] s.heap h' → h'.get? d = some (dictOf (skEs w T kv wv bv ev .none (.bool false)) 6) → R (.ok (.ret .none)) { s with heap := h', toks := tk' }) :
    codeAny (model PySem.Challenge.rw_pb0229_01.row.prog w) A (.call (.ref 97) ⟨[.ref x, kv, wv, bv, ev], []⟩) R s := by
  w_on
  obtain ⟨hd9, dp9, fr9, gs9, un9⟩ := A
  dsimp only at hA
  have X0 := G.X; revert X0; k_fill; intro X0; clear X0
  k_dflt (refine' enterC (binds := [(Str.ofString "self", .ref x), (Str.ofString "kind", kv), (Str.ofString "wanted", wv), (Str.ofString "begin", bv), (Str.ofString "end", ev)]) G [(x, instObj 128 d), (d, dictOf [] 0)] ?kadr ?k6 ?k7 ?k8 ?k9 ?kB ?c5 ?_ ?c2 ?c3 ?c4; (case k6 => k_is); (case k7 => k_is); (case k8 => (simp only [recursionLimit]; omega)); (case k9 => exact BindsTo.of_eq rfl); (case c5 => decide); (case kB => exact locs rfl); (case c2 => exact rfl); (case c3 => exact rfl); (case c4 => exact rfl); (case kadr => exact two hx hd); intro g L' h₁ loose mean mg mb kBut FG X' T' F' N' kOut; (try dsimp only); (try k_fold))
  repeat' (first | ((with_reducible show wpAny _ _ (exec (Stmt.Raise _ _ _) _) _ _ _); exfalso; omega) | (k_unfold; (try dsimp only)) | (k_end; wrow_close) | ((fail_if_success (with_reducible show wpAny _ _ (pyIter _) _ _ _)); (fail_if_success (with_reducible show wpAny _ _ (exec (Stmt.While _ _ _ _) _) _ _ _)); first | walk1 | (dsimp only; walk1) | (dsimp only [leadV, wantedV, optV, Kind.str]; walk1)) | (leave1; walk_say "STEP leave1"; try dsimp only))
  rename Fr _ _ _ _ => F8
  rename News _ _ _ _ => N8
  exact hR ⟨_, _, _, _, _, _⟩ _ _ (out_seek (kOut _ F8.keep) hx.1 N8) (get_seek N8)

theorem seeker_of_spec {o : Array UInt8} {to t1 t2 t3 t4 : Tok} {kind : Kind} {wn : Array UInt8} {bf af : Option (Array UInt8)} (G : Fine w H s.heap) (hA : A.depth < 700) (hh : A.handled = none) (ho : o.size < 1000)
    (hw : 0 < wn.size ∧ wn.size < 1000) (hb : okOpt bf) (ha : okOpt af)
    (hQ : ∀ x d T V tk' h', Sub s.heap h' → x ≠ d → (h'.get? x = some (instObj 128 d) ∧ s.heap.get? x = none) → (h'.get? d = some (skObj w T V ⟨kind, wn, sBegin o af, sEnd o bf, none, false⟩) ∧ s.heap.get? d = none) → Q (.ref x) { s with heap := h', toks := tk' }) :
    wpAny (model PySem.Challenge.rw_pb0229_01.row.prog w) A (call (.ref 139) [.bytes o to, .str kind.str t1, wantedV t2 kind wn, optV t3 bf, optV t4 af]) Q E s := by
  cases kind with
  | chars =>
    dsimp only [wantedV, Kind.str]
    w_on
    obtain ⟨hd9, dp9, fr9, gs9, un9⟩ := A
    dsimp only at hA
    obtain rfl : hd9 = none := hh
    have X0 := G.X; revert X0; k_fill; intro X0; clear X0
    k_dflt (refine' enter (binds := [(Str.ofString "octets", .bytes o to), (Str.ofString "kind", .str (Str.ofString "CHARACTERS") t1), (Str.ofString "wanted", .none), (Str.ofString "before", optV t3 bf), (Str.ofString "after", optV t4 af)]) G [] ?kadr ?k6 ?k7 ?k8 ?k9 ?kB ?c5 ?_ ?c2 ?c3 ?c4; (case k6 => k_is); (case k7 => k_is); (case k8 => (simp only [recursionLimit]; omega)); (case k9 => exact BindsTo.of_eq rfl); (case c5 => decide); (case kB => exact locs rfl); (case c2 => exact rfl); (case c3 => exact rfl); (case c4 => exact rfl); (case kadr => exact fun _ h => nomatch h); intro g L' h₁ loose mean mg mb kBut FG X' T' F' N' kOut; (try dsimp only); (try k_fold))
    repeat' (first | ((with_reducible show wpAny _ _ (exec (Stmt.Raise _ _ _) _) _ _ _); exfalso; omega) | (k_unfold; (try dsimp only)) | (k_end; wrow_close) | ((fail_if_success (with_reducible show wpAny _ _ (pyIter _) _ _ _)); (fail_if_success (with_reducible show wpAny _ _ (exec (Stmt.While _ _ _ _) _) _ _ _)); first | walk1 | (dsimp only; walk1) | (dsimp only [leadV, wantedV, optV, Kind.str]; walk1)) | (leave1; walk_say "STEP leave1"; try dsimp only))
    rename Fr _ _ _ _ => F8
    rename News _ _ _ _ => N8
    with_reducible show wpAny _ _ (call (Value.ref 128) _) _ _ _
    k_dflt (refine' call_cls F8 (by assumption) N8 ?k4 ?k5 ?k6 ?_; (case k4 => k_is); (case k5 => k_is); (case k6 => k_is); k_whole)
    intro x d h9 F9 N9 l1 l2
    refine init_spec (H := H) (x := x) (d := d) (Fine.after FG F9.keep) (by rw [depth_under_kw, depth_deeper]; show dp9 + 1 + 1 < 750; omega) (led FG N9 (.head _)) (led FG N9 (.tail _ (.head _))) (Nat.ne_of_gt l2) fun T tk' h' hb hg => ?_
    refine ⟨rfl, ?_⟩
    show Q _ _
    have hx : h'.get? x = some (instObj 128 d) := hb _ _ (N9.get (.head _)) (by simpa using Nat.ne_of_gt l2)
    have hf := fun (a : Addr) (o : Obj) (hm : (a, o) ∈ (x, instObj 128 d) :: (d, dictOf [] 0) :: _) => (show s.heap.get? a = none by
      cases e : s.heap.get? a with
      | none => rfl
      | some ob => have q := kBut _ _ e (by simp); rw [N9.fresh hm] at q; cases q)
    refine hQ x d T ⟨t1, t2, _, _, 0⟩ _ _ (out_sub (kOut _ fun b ob e => hb _ _ (F9.keep b ob e) ?_)) (Nat.ne_of_gt l2) ⟨hx, hf _ _ (.head _)⟩ ⟨hg, hf _ _ (.tail _ (.head _))⟩
    intro hbd
    obtain rfl : b = d := by simpa using hbd
    rw [N9.fresh (.tail _ (.head _))] at e
    cases e
  | all =>
    dsimp only [wantedV, Kind.str]
    w_on
    obtain ⟨hd9, dp9, fr9, gs9, un9⟩ := A
    dsimp only at hA
    obtain rfl : hd9 = none := hh
    have X0 := G.X; revert X0; k_fill; intro X0; clear X0
    k_dflt (refine' enter (binds := [(Str.ofString "octets", .bytes o to), (Str.ofString "kind", .str (Str.ofString "ALL") t1), (Str.ofString "wanted", .bytes wn t2), (Str.ofString "before", optV t3 bf), (Str.ofString "after", optV t4 af)]) G [] ?kadr ?k6 ?k7 ?k8 ?k9 ?kB ?c5 ?_ ?c2 ?c3 ?c4; (case k6 => k_is); (case k7 => k_is); (case k8 => (simp only [recursionLimit]; omega)); (case k9 => exact BindsTo.of_eq rfl); (case c5 => decide); (case kB => exact locs rfl); (case c2 => exact rfl); (case c3 => exact rfl); (case c4 => exact rfl); (case kadr => exact fun _ h => nomatch h); intro g L' h₁ loose mean mg mb kBut FG X' T' F' N' kOut; (try dsimp only); (try k_fold))
    repeat' (first | ((with_reducible show wpAny _ _ (exec (Stmt.Raise _ _ _) _) _ _ _); exfalso; omega) | (k_unfold; (try dsimp only)) | (k_end; wrow_close) | ((fail_if_success (with_reducible show wpAny _ _ (pyIter _) _ _ _)); (fail_if_success (with_reducible show wpAny _ _ (exec (Stmt.While _ _ _ _) _) _ _ _)); first | walk1 | (dsimp only; walk1) | (dsimp only [leadV, wantedV, optV, Kind.str]; walk1)) | (leave1; walk_say "STEP leave1"; try dsimp only))
    rename Fr _ _ _ _ => F8
    rename News _ _ _ _ => N8
    with_reducible show wpAny _ _ (call (Value.ref 128) _) _ _ _
    k_dflt (refine' call_cls F8 (by assumption) N8 ?k4 ?k5 ?k6 ?_; (case k4 => k_is); (case k5 => k_is); (case k6 => k_is); k_whole)
    intro x d h9 F9 N9 l1 l2
    refine init_spec (H := H) (x := x) (d := d) (Fine.after FG F9.keep) (by rw [depth_under_kw, depth_deeper]; show dp9 + 1 + 1 < 750; omega) (led FG N9 (.head _)) (led FG N9 (.tail _ (.head _))) (Nat.ne_of_gt l2) fun T tk' h' hb hg => ?_
    refine ⟨rfl, ?_⟩
    show Q _ _
    have hx : h'.get? x = some (instObj 128 d) := hb _ _ (N9.get (.head _)) (by simpa using Nat.ne_of_gt l2)
    have hf := fun (a : Addr) (o : Obj) (hm : (a, o) ∈ (x, instObj 128 d) :: (d, dictOf [] 0) :: _) => (show s.heap.get? a = none by
      cases e : s.heap.get? a with
      | none => rfl
      | some ob => have q := kBut _ _ e (by simp); rw [N9.fresh hm] at q; cases q)
    refine hQ x d T ⟨t1, t2, _, _, 0⟩ _ _ (out_sub (kOut _ fun b ob e => hb _ _ (F9.keep b ob e) ?_)) (Nat.ne_of_gt l2) ⟨hx, hf _ _ (.head _)⟩ ⟨hg, hf _ _ (.tail _ (.head _))⟩
    intro hbd
    obtain rfl : b = d := by simpa using hbd
    rw [N9.fresh (.tail _ (.head _))] at e
    cases e
  | leading =>
    dsimp only [wantedV, Kind.str]
    w_on
    obtain ⟨hd9, dp9, fr9, gs9, un9⟩ := A
    dsimp only at hA
    obtain rfl : hd9 = none := hh
    have X0 := G.X; revert X0; k_fill; intro X0; clear X0
    k_dflt (refine' enter (binds := [(Str.ofString "octets", .bytes o to), (Str.ofString "kind", .str (Str.ofString "LEADING") t1), (Str.ofString "wanted", .bytes wn t2), (Str.ofString "before", optV t3 bf), (Str.ofString "after", optV t4 af)]) G [] ?kadr ?k6 ?k7 ?k8 ?k9 ?kB ?c5 ?_ ?c2 ?c3 ?c4; (case k6 => k_is); (case k7 => k_is); (case k8 => (simp only [recursionLimit]; omega)); (case k9 => exact BindsTo.of_eq rfl); (case c5 => decide); (case kB => exact locs rfl); (case c2 => exact rfl); (case c3 => exact rfl); (case c4 => exact rfl); (case kadr => exact fun _ h => nomatch h); intro g L' h₁ loose mean mg mb kBut FG X' T' F' N' kOut; (try dsimp only); (try k_fold))
    repeat' (first | ((with_reducible show wpAny _ _ (exec (Stmt.Raise _ _ _) _) _ _ _); exfalso; omega) | (k_unfold; (try dsimp only)) | (k_end; wrow_close) | ((fail_if_success (with_reducible show wpAny _ _ (pyIter _) _ _ _)); (fail_if_success (with_reducible show wpAny _ _ (exec (Stmt.While _ _ _ _) _) _ _ _)); first | walk1 | (dsimp only; walk1) | (dsimp only [leadV, wantedV, optV, Kind.str]; walk1)) | (leave1; walk_say "STEP leave1"; try dsimp only))
    rename Fr _ _ _ _ => F8
    rename News _ _ _ _ => N8
    with_reducible show wpAny _ _ (call (Value.ref 128) _) _ _ _
    k_dflt (refine' call_cls F8 (by assumption) N8 ?k4 ?k5 ?k6 ?_; (case k4 => k_is); (case k5 => k_is); (case k6 => k_is); k_whole)
    intro x d h9 F9 N9 l1 l2
    refine init_spec (H := H) (x := x) (d := d) (Fine.after FG F9.keep) (by rw [depth_under_kw, depth_deeper]; show dp9 + 1 + 1 < 750; omega) (led FG N9 (.head _)) (led FG N9 (.tail _ (.head _))) (Nat.ne_of_gt l2) fun T tk' h' hb hg => ?_
    refine ⟨rfl, ?_⟩
    show Q _ _
    have hx : h'.get? x = some (instObj 128 d) := hb _ _ (N9.get (.head _)) (by simpa using Nat.ne_of_gt l2)
    have hf := fun (a : Addr) (o : Obj) (hm : (a, o) ∈ (x, instObj 128 d) :: (d, dictOf [] 0) :: _) => (show s.heap.get? a = none by
      cases e : s.heap.get? a with
      | none => rfl
      | some ob => have q := kBut _ _ e (by simp); rw [N9.fresh hm] at q; cases q)
    refine hQ x d T ⟨t1, t2, _, _, 0⟩ _ _ (out_sub (kOut _ fun b ob e => hb _ _ (F9.keep b ob e) ?_)) (Nat.ne_of_gt l2) ⟨hx, hf _ _ (.head _)⟩ ⟨hg, hf _ _ (.tail _ (.head _))⟩
    intro hbd
    obtain rfl : b = d := by simpa using hbd
    rw [N9.fresh (.tail _ (.head _))] at e
    cases e
  | first =>
    dsimp only [wantedV, Kind.str]
    w_on
    obtain ⟨hd9, dp9, fr9, gs9, un9⟩ := A
    dsimp only at hA
    obtain rfl : hd9 = none := hh
    have X0 := G.X; revert X0; k_fill; intro X0; clear X0
    k_dflt (refine' enter (binds := [(Str.ofString "octets", .bytes o to), (Str.ofString "kind", .str (Str.ofString "FIRST") t1), (Str.ofString "wanted", .bytes wn t2), (Str.ofString "before", optV t3 bf), (Str.ofString "after", optV t4 af)]) G [] ?kadr ?k6 ?k7 ?k8 ?k9 ?kB ?c5 ?_ ?c2 ?c3 ?c4; (case k6 => k_is); (case k7 => k_is); (case k8 => (simp only [recursionLimit]; omega)); (case k9 => exact BindsTo.of_eq rfl); (case c5 => decide); (case kB => exact locs rfl); (case c2 => exact rfl); (case c3 => exact rfl); (case c4 => exact rfl); (case kadr => exact fun _ h => nomatch h); intro g L' h₁ loose mean mg mb kBut FG X' T' F' N' kOut; (try dsimp only); (try k_fold))
    repeat' (first | ((with_reducible show wpAny _ _ (exec (Stmt.Raise _ _ _) _) _ _ _); exfalso; omega) | (k_unfold; (try dsimp only)) | (k_end; wrow_close) | ((fail_if_success (with_reducible show wpAny _ _ (pyIter _) _ _ _)); (fail_if_success (with_reducible show wpAny _ _ (exec (Stmt.While _ _ _ _) _) _ _ _)); first | walk1 | (dsimp only; walk1) | (dsimp only [leadV, wantedV, optV, Kind.str]; walk1)) | (leave1; walk_say "STEP leave1"; try dsimp only))
    rename Fr _ _ _ _ => F8
    rename News _ _ _ _ => N8
    with_reducible show wpAny _ _ (call (Value.ref 128) _) _ _ _
    k_dflt (refine' call_cls F8 (by assumption) N8 ?k4 ?k5 ?k6 ?_; (case k4 => k_is); (case k5 => k_is); (case k6 => k_is); k_whole)
    intro x d h9 F9 N9 l1 l2
    refine init_spec (H := H) (x := x) (d := d) (Fine.after FG F9.keep) (by rw [depth_under_kw, depth_deeper]; show dp9 + 1 + 1 < 750; omega) (led FG N9 (.head _)) (led FG N9 (.tail _ (.head _))) (Nat.ne_of_gt l2) fun T tk' h' hb hg => ?_
    refine ⟨rfl, ?_⟩
    show Q _ _
    have hx : h'.get? x = some (instObj 128 d) := hb _ _ (N9.get (.head _)) (by simpa using Nat.ne_of_gt l2)
    have hf := fun (a : Addr) (o : Obj) (hm : (a, o) ∈ (x, instObj 128 d) :: (d, dictOf [] 0) :: _) => (show s.heap.get? a = none by
      cases e : s.heap.get? a with
      | none => rfl
      | some ob => have q := kBut _ _ e (by simp); rw [N9.fresh hm] at q; cases q)
    refine hQ x d T ⟨t1, t2, _, _, 0⟩ _ _ (out_sub (kOut _ fun b ob e => hb _ _ (F9.keep b ob e) ?_)) (Nat.ne_of_gt l2) ⟨hx, hf _ _ (.head _)⟩ ⟨hg, hf _ _ (.tail _ (.head _))⟩
    intro hbd
    obtain rfl : b = d := by simpa using hbd
    rw [N9.fresh (.tail _ (.head _))] at e
    cases e

end SW
section SX

theorem look_index : typeLookup (.type "bytes") "__index__" = pure none := by rw [typeLookup_type, builtinLookup_eq_fast]; kernel_rfl
theorem tName_bytes : typeName (.type "bytes") = pure "bytes" := by
  show pure ((Manifest.find? "bytes").elim "bytes" (·.tpName)) = _
  rw [show (Manifest.find? "bytes").elim "bytes" (·.tpName) = "bytes" by decide +kernel]
section
variable {M : Model} {A : Around} {E : Value → Shared → Prop} {s : Shared} {b a : Array UInt8} {t u : Tok}
theorem cut_bytes {n : Nat} {Q : String → Shared → Prop} (h : Q "bytes" s) : wpAny M A (typeNameOfCut n (.bytes b t)) Q E s := by
  unfold typeNameOfCut shownTypeOf
  refine wpAny_bind (wpAny_bind (wpAny_typeOf (typeIs_bytes s b t) ?_))
  simp only [show (Value.type "bytes" == Value.type "builtin_function_or_method") = false by decide, Bool.false_eq_true, if_false]
  refine wpAny_pure ?_
  rw [show typeNameCut n (.type "bytes") = typeName (.type "bytes") from rfl, tName_bytes]
  exact wpAny_pure h
theorem meets_bytes_contains : Meets (Builtin.«bytes.__contains__» ⟨[.bytes b t, .bytes a u], []⟩)
    (fun A R s => A.handled = none ∧ ∀ h' tk, (∀ x o, s.heap.get? x = some o → h'.get? x = some o) → R (.ok (.ret (.bool (Bytes.find? b a 0 b.size).isSome))) { s with heap := h', toks := tk }) := by
  intro prog w A R s h
  show wpAny _ _ (Bytes.containsIn "bytes.__contains__" (.bytes b t) (.bytes a u) >>= fun r => ret (Value.bool r)) _ _ s
  refine wpAny_bind ?_
  unfold Bytes.containsIn
  refine wpAny_bind (wpAny_attempt ?_)
  unfold asIndex
  refine wpAny_bind (wpAny_pure ?_)
  dsimp only
  refine wpAny_bind (wpAny_callSpecial?_none (typeIs_bytes s a u) look_index ?_)
  dsimp only
  refine wpAny_bind (cut_bytes ?_)
  refine wpAny_raiseErrorMade plainExc_TypeError h.1 (fun h' tk e hx => ?_)
  refine wpAny_bind (wpAny_of_eq KBy.buffer_eq ?_)
  dsimp only
  refine wpAny_bind (wpAny_of_eq KBy.buffer_eq ?_)
  dsimp only
  refine wpAny_bind (wpAny_rule (wpAny_pure ?_))
  exact wpAny_pure (h.2 h' tk hx.keeps)
end
section
variable {w : World} {A : Around} {E : Value → Shared → Prop} {s : Shared} {b a : Array UInt8} {t u : Tok} {Q : Value → Shared → Prop}
theorem in_bytes (hh : A.handled = none) (h : ∀ h' tk, Sub s.heap h' → Q (.bool (Bytes.find? b a 0 b.size).isSome) { s with heap := h', toks := tk }) :
    wpAny (model PySem.Challenge.rw_pb0229_01.row.prog w) A (compareOp .In (.bytes a u) (.bytes b t)) Q E s := by
  show wpAny _ _ (do return .bool (← contains (.bytes b t) (.bytes a u))) Q E s
  exact wpAny_bind (wpAny_contains_slot (typeIs_bytes s b t) FB.slot_bytes_contains (call_meets (Q := fun v s' => wpAny _ A (truthy v) (fun b s'' => wpAny _ A (pure (Value.bool b)) Q E s'') E s') FB.slot_bytes_contains (typeIs_bytes s b t) FB.entry_bytes_contains (FB.args_bytes_contains_2 _ _) meets_bytes_contains ⟨hh, fun h' tk hs => wpAny_pure (wpAny_pure (h h' tk hs))⟩))
theorem notIn_bytes (hh : A.handled = none) (h : ∀ h' tk, Sub s.heap h' → Q (.bool (!(Bytes.find? b a 0 b.size).isSome)) { s with heap := h', toks := tk }) :
    wpAny (model PySem.Challenge.rw_pb0229_01.row.prog w) A (compareOp .NotIn (.bytes a u) (.bytes b t)) Q E s := by
  show wpAny _ _ (do return .bool (!(← contains (.bytes b t) (.bytes a u)))) Q E s
  exact wpAny_bind (wpAny_contains_slot (typeIs_bytes s b t) FB.slot_bytes_contains (call_meets (Q := fun v s' => wpAny _ A (truthy v) (fun b s'' => wpAny _ A (pure (Value.bool (!b))) Q E s'') E s') FB.slot_bytes_contains (typeIs_bytes s b t) FB.entry_bytes_contains (FB.args_bytes_contains_2 _ _) meets_bytes_contains ⟨hh, fun h' tk hs => wpAny_pure (wpAny_pure (h h' tk hs))⟩))
end

end SX
section SY
variable {w : World} {A : Around} {E Q : Value → Shared → Prop} {s : Shared} {H : Heap}

theorem enterX {name qual : Str} {params : Arguments} {body : List Stmt} {scope : Scope} {dV kV doc pm cdv ct oc : Value} {an od : Option Addr} {osl : Array (Option Value)} {f : Addr} {vals : List Value} {binds : List (Str × Value)}
    (G : Fine w H s.heap) (news : List (Addr × Obj)) (hadr : ∀ p ∈ news, s.heap.get? p.1 = some p.2 ∧ H.get? p.1 = none)
    (ho : (hd.heap_39 w.params).lookup f = some ⟨oc, od, .func (fnOf name qual params body scope dV kV doc pm an cdv ct), osl⟩) (hcd : codeIn (hd.heap_39 w.params) cdv qual = true) (hroom : A.depth < recursionLimit)
    (hbind : BindsTo s (fnOf name qual params body scope dV kV doc pm an cdv ct) ⟨vals, []⟩ binds) (hkind : (binds.all fun y => scope.names.lookup y.1 == some .local || scope.names.lookup y.1 == some .cell) = true)
    (hnd : ((cellsFrom 0 scope.names []).map (·.1)).Nodup)
    (h : ∀ g L' h₁ tk cells loose mean mg mb, But (news.map (·.1)) s.heap g → Fine w H g → (hd.heap_39 w.params).In g → Top hd.view_39 loose mean mg mb g → Fr g L' h₁ (bindL (envOfC qual scope L' f cdv).kindOf binds fun _ => none) → News g L' h₁ (cells ++ news) →
      CellsAre (bindC (envOfC qual scope L' f cdv).kindOf binds fun _ => none) (cellsFrom (L' + 1) scope.names []) cells → (∀ p ∈ news, p.1 < L') →
      (∀ h', Sub g h' → But (news.map (·.1)) s.heap h') →
      wpAny (model PySem.Challenge.rw_pb0229_01.row.prog w) (A.deeper (envOfC qual scope L' f cdv)) (execs body (envOfC qual scope L' f cdv))
        (fun fl s' => Q (match fl with | .ret v => v | _ => .none) s') (fun _ _ => False)
        { s with heap := h₁, toks := tk })
    (hco : scope.isCoroutine = false := by rfl) (hgen : scope.isGenerator = false := by rfl) (hk : scope.kind = .function := by rfl) :
    wpAny (model PySem.Challenge.rw_pb0229_01.row.prog w) A (call (.ref f) vals) Q E s := by
  obtain ⟨X₀, ⟨loose, mean, mg, mb, T₀⟩, K₀⟩ := id G
  refine wpAny_call (codeAny_call_function hroom ((X₀.keeps K₀) _ _ ho) rfl hco hgen rfl (codeRec_of (X₀.keeps K₀) hcd) (hbind _ _ _ _ ?_))
  refine wpAny_newFunctionEnv_cells hk (kindsX hkind _) fun env' he s' x => ?_
  subst he
  refine ⟨(T₀.nolimit.keeps K₀).keeps x.toInCall.keep, codeAny_func ?_⟩
  obtain ⟨h₁, tk, rfl, _⟩ := x.done
  have hk₁ := x.toInCall.keep
  obtain ⟨cells, NC, Y⟩ := Cl.news (h₀ := s.heap) (Nat.le_refl _) fun n c hm => ⟨x.cell n c (lookup_of_mem_nodup (cellsFrom_names scope.names 0 (s.heap.objs.size + 1) [] [] rfl ▸ hnd) hm), x.above n c hm⟩
  have st : Sub H (hideAll s.heap (news.map (·.1))) := fun b o e => hideAll_get _ (K₀ b o e) fun q => by
    obtain ⟨p, hp, rfl⟩ := List.mem_map.mp q
    rw [(hadr p hp).2] at e; cases e
  refine wpAny_mono (h (hideAll s.heap (news.map (·.1))) s.heap.objs.size h₁ tk cells loose mean mg mb (fun b o e n => hideAll_get _ e n) ⟨X₀, ⟨loose, mean, mg, mb, T₀⟩, st⟩ (X₀.keeps st) (T₀.keeps st)
    ⟨x.toInCall.ns, fun b o e => hk₁ b o (of_hideAll _ e), Nat.le_of_eq (hideAll_size _ _)⟩ (fun p hp => ?_) Y (fun p hp => Heap.lt_size (hadr p hp).1)
    (fun h' k b o e n => k b o (hideAll_get _ e n))) (fun fl s' q => q) fun _ _ y => y.elim
  rcases List.mem_append.mp hp with hp | hp
  · refine ⟨(NC p hp).1, (NC p hp).2.1, ?_⟩
    cases q : (hideAll s.heap (news.map (·.1))).get? p.1 with
    | none => rfl
    | some o => have := of_hideAll _ q; rw [(NC p hp).2.2] at this; cases this
  · exact ⟨hk₁ _ _ (hadr p hp).1, Nat.ne_of_lt (Heap.lt_size (hadr p hp).1), hideAll_none _ (List.mem_map_of_mem hp)⟩

/-- a comprehension's turns, told by a state -/
theorem comp_run {σ : Type} {h₀ : Heap} {L : Addr} {m : Str → Option Value} {env : Env} {elt : PySem.Expr} {x : Str} {scope : Scope} {cl : List (Str × Addr)} {S : List (Addr × Obj) → Prop} {P : Nat → Value → Prop} {Fin : List Value → List (Addr × Obj) → Prop}
    (Led : σ → List (Addr × Obj)) (I : Nat → σ → List Value → Prop) (n : Nat)
    (turn : ∀ i (c : σ) ys v J oJ C oC D m₂ h tk (E' : Value → Shared → Prop), i < n → I i c ys → P i v → LCg.NsObj oC m₂ → m₂ x = some v → Fr h₀ L h m → News h₀ L h ((J, oJ) :: (C, oC) :: (D, LCg.lst ys) :: Led c) → LCg.Off3 J C D (Led c) → ((@Ne Nat J C) ∧ (@Ne Nat J D) ∧ (@Ne Nat C D)) →
      wpAny (model PySem.Challenge.rw_pb0229_01.row.prog w) A (eval elt (compEnvC scope cl C env)) (LCg.CompEnd h₀ L m { s with heap := h, toks := tk } J oJ C oC D (LCg.lst ys) S (fun y news' => ∃ c', news' = Led c' ∧ I (i + 1) c' (ys ++ [y]))) E' { s with heap := h, toks := tk })
    (fin : ∀ c ys, I n c ys → Fin ys (Led c)) :
    ∀ k i c ys, i + k = n → I i c ys → LCg.CompRest PySem.Challenge.rw_pb0229_01.row.prog w A h₀ L m env elt x scope cl s S P Fin k i ys (Led c)
  | 0, i, c, ys, e, hI => by
    obtain rfl : i = n := by omega
    exact fin c ys hI
  | k + 1, i, c, ys, e, hI => fun v J oJ C oC D m₂ h tk E' hP hC hx F N off ne => by
    refine wpAny_mono (turn i c ys v J oJ C oC D m₂ h tk E' (by omega) hI hP hC hx F N off ne) (fun y s₂ q => ?_) fun _ _ e => e
    obtain ⟨h', tk', news', rfl, F', N', off', hS, c', rfl, hI'⟩ := q
    exact ⟨h', tk', _, rfl, F', N', off', hS, comp_run Led I n turn fin k (i + 1) c' (ys ++ [y]) (by omega) hI'⟩

theorem cells_nil {cm : Str → Option Value} {cells : List (Addr × Obj)} (x : CellsAre cm [] cells) : cells = [] := by cases x; rfl
theorem cells_cons {cm : Str → Option Value} {n : Str} {c : Addr} {cs : List (Str × Addr)} {cells : List (Addr × Obj)} (x : CellsAre cm ((n, c) :: cs) cells) : ∃ o r, cells = (c, o) :: r ∧ o.data = .cell (cm n) ∧ CellsAre cm cs r := by
  cases x with | cons h r => exact ⟨_, _, rfl, h, r⟩
/-- a row of INSPECT -/
structure Row where
  kind : Kind
  wn : Array UInt8
  bf : Option (Array UInt8)
  af : Option (Array UInt8)
abbrev rowObj (r : Row) (t1 t2 t3 t4 : Tok) : Obj := tupO [.str r.kind.str t1, wantedV t2 r.kind r.wn, optV t3 r.bf, optV t4 r.af]
def RowsAt (D : List (Addr × Obj)) (vs : List Value) (rows : List Row) : Prop := All2 (fun v r => ∃ a t1 t2 t3 t4, v = .ref a ∧ (a, rowObj r t1 t2 t3 t4) ∈ D) vs rows
def okRow (r : Row) : Prop := (0 < r.wn.size ∧ r.wn.size < 1000) ∧ okOpt r.bf ∧ okOpt r.af
def Row.sk (o : Array UInt8) (r : Row) : Sk := ⟨r.kind, r.wn, sBegin o r.af, sEnd o r.bf, none, false⟩
def fits (o : Array UInt8) (rows : List Row) : List (Nat × Nat) := walk o o.size (rows.map (·.sk o)) 0
theorem All2.getL {α β : Type} {R : α → β → Prop} {l : List α} {r : List β} (h : All2 R l r) {i : Nat} {a : α} (e : l[i]? = some a) : ∃ b, r[i]? = some b ∧ R a b := by
  have hi : i < r.length := by rw [← h.len]; exact (List.getElem?_eq_some_iff.mp e).1
  obtain ⟨a', h1, h2⟩ := h.get (List.getElem?_eq_getElem hi)
  rw [e] at h1
  cases h1
  exact ⟨_, List.getElem?_eq_getElem hi, h2⟩
theorem fr_at {g h : Heap} {L : Addr} {m : Str → Option Value} (F : Fr g L h m) {x : Addr} (hx : h.get? x = none) : x ≠ L ∧ g.get? x = none := by
  refine ⟨fun e => ?_, ?_⟩
  · obtain ⟨o, es, ep, h1, _⟩ := F.ns
    rw [← e, hx] at h1
    cases h1
  · cases q : g.get? x with
    | none => rfl
    | some o => have := F.keep _ _ q; rw [hx] at this; cases this
theorem news_add {g h h' : Heap} {L x : Addr} {o : Obj} {m : Str → Option Value} {led : List (Addr × Obj)} (F : Fr g L h m) (hx : h'.get? x = some o ∧ h.get? x = none) (N : News g L h' led) : News g L h' ((x, o) :: led) := fun p hp => by
  rcases List.mem_cons.mp hp with rfl | hp
  · exact ⟨hx.1, fr_at F hx.2⟩
  · exact N p hp
theorem new_ne {h : Heap} {a b : Addr} {o : Obj} (ha : h.get? a = none) (hb : h.get? b = some o) : a ≠ b := by
  rintro rfl
  rw [ha] at hb
  cases hb
theorem seatObjs_snoc (w : World) {a : Seat} {c : SkV × Sk} : ∀ {seats : List Seat} {cs : List (SkV × Sk)}, cs.length = seats.length → seatObjs w (seats ++ [a]) (cs ++ [c]) = seatObjs w seats cs ++ [(a.x, instObj 128 a.d), (a.d, skObj w a.T c.1 c.2)]
  | [], [], _ => rfl
  | [], _ :: _, h => by simp at h
  | _ :: _, [], h => by simp at h
  | s :: r, c' :: cr, h => by
    simp only [seatObjs, List.cons_append]
    rw [seatObjs_snoc w (by simpa using h)]
theorem fresh_of {g h : Heap} {D : List (Addr × Obj)} {x : Addr} (kBut : But (D.map (·.1)) h g) (hg : g.get? x = none) (hne : ∀ p ∈ D, p.1 ≠ x) : h.get? x = none := by
  cases q : h.get? x with
  | none => rfl
  | some o =>
    have := kBut x o q (fun hm => by
      obtain ⟨p, hp, e⟩ := List.mem_map.mp hm
      exact hne p hp e)
    rw [hg] at this
    cases this
/-- all that stood stands -/
theorem all_stand {g h : Heap} {L : Addr} {m : Str → Option Value} {D led : List (Addr × Obj)} {H₁ : Heap} (kOut : ∀ h', Sub g h' → But (D.map (·.1)) H₁ h') (F : Fr g L h m) (hD : ∀ p ∈ D, H₁.get? p.1 = some p.2) (N : News g L h led) (hs : ∀ p ∈ D, p ∈ led) : Sub H₁ h :=
  out_all (kOut _ F.keep) hD (kst_newsOf N hs)

end SY
section SZ
variable {w : World} {A : Around} {E Q : Value → Shared → Prop} {s : Shared} {H : Heap}

theorem law_fits_spec {o : Array UInt8} {to : Tok} {rl : Addr} {ep : Nat} {vs : List Value} {rows : List Row} {D : List (Addr × Obj)} (G : Fine w H s.heap) (hA : A.depth < 650) (hh : A.handled = none) (ho : o.size < 1000)
    (hD : ∀ p ∈ D, s.heap.get? p.1 = some p.2 ∧ H.get? p.1 = none) (hr : (rl, listO vs ep) ∈ D) (hrows : RowsAt D vs rows) (hok : ∀ r ∈ rows, okRow r) (hn : rows.length < 1000)
    (hQ : ∀ fl vs' tl tk' h', Sub s.heap h' → (∀ p ∈ (fl, listO vs' vs'.length) :: tl, h'.get? p.1 = some p.2 ∧ s.heap.get? p.1 = none) →
      All2 (fun (v : Value) (p : Nat × Nat) => ∃ (a : Addr) (t1 t2 : Tok), v = .ref a ∧ (a, tupO [.int p.1 t1, .int p.2 t2]) ∈ tl) vs' (fits o rows) → Q (.ref fl) { s with heap := h', toks := tk' }) :
    wpAny (model PySem.Challenge.rw_pb0229_01.row.prog w) A (call (.ref 218) [.bytes o to, .ref rl]) Q E s := by
  w_on
  obtain ⟨hd9, dp9, fr9, gs9, un9⟩ := A
  dsimp only at hA
  obtain rfl : hd9 = none := hh
  have X0 := G.X; revert X0; k_fill; intro X0; clear X0
  k_dflt (refine' enterX (binds := [(Str.ofString "octets", .bytes o to), (Str.ofString "rows", .ref rl)]) G D ?kadr ?k6 ?k7 ?k8 ?k9 ?kB ?kD ?_ ?c2 ?c3 ?c4; (case k6 => k_is); (case k7 => k_is); (case k8 => (simp only [recursionLimit]; omega)); (case k9 => exact BindsTo.of_eq rfl); (case kB => exact rfl); (case kD => decide +kernel); (case c2 => exact rfl); (case c3 => exact rfl); (case c4 => exact rfl); (case kadr => exact hD); intro g L' h₁ tk₁ cells' loose mean mg mb kBut FG X' T' F' N' Y' lt' kOut; (repeat (first | (have hY' := cells_nil Y'; subst hY'; clear Y') | (obtain ⟨_, _, hE', _, Y9⟩ := cells_cons Y'; subst hE'; clear Y'; (rename CellsAre _ _ _ => Y')))); (try simp only [List.cons_append, List.nil_append] at N'); (try dsimp only); (try k_fold))
  replace F' : Fr g L' h₁ (fun y => if y = Str.ofString "rows" then some (.ref rl) else none) := F'
  repeat' (first | ((with_reducible show wpAny _ _ (exec (Stmt.Raise _ _ _) _) _ _ _); exfalso; omega) | (k_unfold; (try dsimp only)) | (k_end; wrow_close) | ((fail_if_success (with_reducible show wpAny _ _ (pyIter _) _ _ _)); (fail_if_success (with_reducible show wpAny _ _ (exec (Stmt.While _ _ _ _) _) _ _ _)); first | walk1 | (dsimp only; walk1) | (dsimp only [leadV, wantedV, optV, Kind.str]; walk1)) | (leave1; walk_say "STEP leave1"; try dsimp only))
  rename _ = Data.cell _ => hcell
  rename_i oc
  have hrl : (rl, listO vs ep) ∈ (L' + 1, oc) :: D := .tail _ hr
  have hvs : vs.length < 1000 := by rw [hrows.len]; exact hn
  refine LCg.CompSrc.ledger (by rfl) F' N' hrl (by simp; unfold sizeLine; omega) ?_
  intro hq
  refine comp_run (σ := List Seat × List (SkV × Sk)) (fun c => seatObjs w c.1 c.2 ++ ((L' + 1, oc) :: D)) (fun i c ys => c.1.length = i ∧ c.2.length = i ∧ c.2.map (·.2) = (rows.take i).map (·.sk o) ∧ ys = c.1.map (fun a => .ref a.x) ∧ SeatsOk c.1 ∧ ∀ a ∈ c.1, s.heap.get? a.d = none) vs.toArray.size ?_ ?_ vs.toArray.size 0 ([], []) [] (by simp) ⟨rfl, rfl, by simp, rfl, ⟨by simp, by simp⟩, by simp⟩
  · rintro i ⟨seats, cs⟩ ys v J oJ C oC DD m₂ h tk E' hi ⟨h1, h2, h3, rfl, h5, h6⟩ hv hC hx F2 N2 off ne
    dsimp only at h1 h2 h3 h5 h6 N2 off
    obtain ⟨r, hri, a, t1, t2, t3, t4, rfl, ha⟩ := hrows.getL (by simpa using hv)
    have hro := hok r (List.mem_of_getElem? hri)
    have ha2 : (a, rowObj r t1 t2 t3 t4) ∈ (J, oJ) :: (C, oC) :: (DD, LCg.lst (seats.map fun a => Value.ref a.x)) :: (seatObjs w seats cs ++ ((L' + 1, oc) :: D)) := .tail _ (.tail _ (.tail _ (List.mem_append_right _ (.tail _ ha))))
    have hc2 : (L' + 1, oc) ∈ (J, oJ) :: (C, oC) :: (DD, LCg.lst (seats.map fun a => Value.ref a.x)) :: (seatObjs w seats cs ++ ((L' + 1, oc) :: D)) := .tail _ (.tail _ (.tail _ (List.mem_append_right _ (.head _))))
    clear F' N'
    repeat' (first | ((with_reducible show wpAny _ _ (exec (Stmt.Raise _ _ _) _) _ _ _); exfalso; omega) | (k_unfold; (try dsimp only)) | (k_end; wrow_close) | ((fail_if_success (with_reducible show wpAny _ _ (pyIter _) _ _ _)); (fail_if_success (with_reducible show wpAny _ _ (exec (Stmt.While _ _ _ _) _) _ _ _)); first | walk1 | (dsimp only; walk1) | (dsimp only [leadV, wantedV, optV, Kind.str]; walk1)) | (leave1; walk_say "STEP leave1"; try dsimp only))
    with_reducible rename Fr _ _ _ _ => F3
    with_reducible rename News _ _ _ _ => N3
    have hst : Sub s.heap h := all_stand kOut F3 (fun p hp => (hD p hp).1) N3 fun p hp => .tail _ (.tail _ (.tail _ (List.mem_append_right _ (.tail _ hp))))
    refine seeker_of_spec (H := H) (kind := r.kind) (wn := r.wn) (bf := r.bf) (af := r.af) (Fine.after FG F3.keep) (by show _ < _; simp only [depth_deeper]; omega) (by rfl) ho hro.1 hro.2.1 hro.2.2 ?_
    intro x d T V tk' h' hs hxd hx' hd'
    dsimp only at hs hx' hd'
    have F4 := F3.after hs
    have N4 := news_add F3 hx' (news_add F3 hd' (N3.grown hs))
    refine LCg.CompEnd.intro F4 N4 (seatObjs w (seats ++ [⟨x, d, T⟩]) (cs ++ [(V, r.sk o)]) ++ ((L' + 1, oc) :: D)) ?_ ?_ (.inr ⟨_, List.mem_append_right _ (.tail _ hr), rfl, _, rfl⟩) ⟨(seats ++ [⟨x, d, T⟩], cs ++ [(V, r.sk o)]), rfl, ?_⟩
    · rw [seatObjs_snoc w (by omega)]
      intro p hp
      rcases List.mem_cons.mp hp with rfl | hp
      · exact .tail _ (.tail _ (.head _))
      rcases List.mem_cons.mp hp with rfl | hp
      · exact .tail _ (.tail _ (.tail _ (.head _)))
      rcases List.mem_cons.mp hp with rfl | hp
      · exact .tail _ (.tail _ (.tail _ (.tail _ (.head _))))
      rcases List.mem_append.mp hp with hp | hp
      · rcases List.mem_append.mp hp with hp | hp
        · exact .tail _ (.tail _ (.tail _ (.tail _ (.tail _ (List.mem_append_left _ hp)))))
        · rcases List.mem_cons.mp hp with rfl | hp
          · exact .head _
          · rcases List.mem_cons.mp hp with rfl | hp
            · exact .tail _ (.head _)
            · cases hp
      · exact .tail _ (.tail _ (.tail _ (.tail _ (.tail _ (List.mem_append_right _ hp)))))
    · rw [seatObjs_snoc w (by omega)]
      refine LCg.Off3.of fun p hp => ?_
      have hnew : ∀ q, h.get? q = none → q ≠ J ∧ q ≠ C ∧ q ≠ DD := fun q hq => ⟨new_ne hq (N3.get (.head _)), new_ne hq (N3.get (.tail _ (.head _))), new_ne hq (N3.get (.tail _ (.tail _ (.head _))))⟩
      rcases List.mem_append.mp hp with hp | hp
      · rcases List.mem_append.mp hp with hp | hp
        · exact off.mem p (List.mem_append_left _ hp)
        · rcases List.mem_cons.mp hp with rfl | hp
          · exact hnew _ hx'.2
          · rcases List.mem_cons.mp hp with rfl | hp
            · exact hnew _ hd'.2
            · cases hp
      · exact off.mem p (List.mem_append_right _ hp)
    · refine ⟨by simp [h1], by simp [h2], ?_, by simp, ⟨?_, ?_⟩, ?_⟩
      · simp [List.take_add_one, hri, h3]
      · have old : ∀ a ∈ seats, h.get? a.x ≠ none ∧ h.get? a.d ≠ none := fun a ha => by
          obtain ⟨i, hi⟩ := List.getElem?_of_mem ha
          have hic : i < cs.length := by have := (List.getElem?_eq_some_iff.mp hi).1; omega
          have hm := seat_mem w hi (List.getElem?_eq_getElem hic)
          rw [N3.get (.tail _ (.tail _ (.tail _ (List.mem_append_left _ hm.1)))), N3.get (.tail _ (.tail _ (.tail _ (List.mem_append_left _ hm.2))))]
          simp
        intro a ha b hb
        simp only [List.mem_append, List.mem_singleton] at ha hb
        rcases ha with ha | rfl <;> rcases hb with hb | rfl
        · exact h5.xd a ha b hb
        · intro e
          exact (old a ha).1 (by rw [e]; exact hd'.2)
        · intro e
          exact (old b hb).2 (by rw [← e]; exact hx'.2)
        · exact hxd
      · rw [List.map_append, List.nodup_append]
        refine ⟨h5.dd, by simp, ?_⟩
        intro b hb c hc
        obtain ⟨a, ha, rfl⟩ := List.mem_map.mp hb
        simp at hc
        subst hc
        intro e
        obtain ⟨i, hi⟩ := List.getElem?_of_mem ha
        have hic : i < cs.length := by have := (List.getElem?_eq_some_iff.mp hi).1; omega
        have hm := seat_mem w hi (List.getElem?_eq_getElem hic)
        have := N3.get (.tail _ (.tail _ (.tail _ (List.mem_append_left _ hm.2))))
        rw [e, hd'.2] at this
        cases this
      · intro a ha
        simp only [List.mem_append, List.mem_singleton] at ha
        rcases ha with ha | rfl
        · exact h6 a ha
        · cases q : s.heap.get? d with
          | none => rfl
          | some ob => have := hst _ _ q; rw [hd'.2] at this; cases this
  · rintro ⟨seats, cs⟩ ys ⟨h1, h2, h3, rfl, h5, h6⟩
    dsimp only at h1 h2 h3 h5 h6
    repeat' (first | ((with_reducible show wpAny _ _ (exec (Stmt.Raise _ _ _) _) _ _ _); exfalso; omega) | (k_unfold; (try dsimp only)) | (k_end; wrow_close) | ((fail_if_success (with_reducible show wpAny _ _ (pyIter _) _ _ _)); (fail_if_success (with_reducible show wpAny _ _ (exec (Stmt.While _ _ _ _) _) _ _ _)); first | walk1 | (dsimp only; walk1) | (dsimp only [leadV, wantedV, optV, Kind.str]; walk1)) | (leave1; walk_say "STEP leave1"; try dsimp only))
    with_reducible rename Fr _ _ _ _ => F3
    with_reducible rename News _ _ _ _ => N3
    rename_i l9 h9 tk9 o9
    have hst : Sub s.heap h9 := all_stand kOut F3 (fun p hp => (hD p hp).1) N3 fun p hp => .tail _ (List.mem_append_right _ (.tail _ hp))
    have hvr : vs.toArray.size = rows.length := by simp [hrows.len]
    have hks : cs.map (·.2) = rows.map (·.sk o) := by rw [h3, hvr, List.take_length]
    have hfit : walk o o.size (cs.map (·.2)) 0 = fits o rows := by rw [hks]; rfl
    refine fits_in_spec (H := H) (l := l9) (ep := (seats.map fun a => Value.ref a.x).length) (seats := seats) (cs := cs) (Fine.after FG F3.keep) (by show _ < _; simp only [depth_deeper]; omega) (by rfl) ho (by omega) ?_ h5 (by omega) ?_ ?_
    · intro p hp
      refine led FG N3 ?_
      rcases List.mem_cons.mp hp with rfl | hp
      · exact .head _
      · exact .tail _ (List.mem_append_left _ hp)
    · rw [hks]
      intro k hk
      obtain ⟨r, hr, rfl⟩ := List.mem_map.mp hk
      have hro := hok r hr
      refine ⟨hro.1.2, ?_⟩
      show 0 < Sk.width _
      unfold Sk.width Row.sk
      split <;> simp only [hro.1.1, Nat.lt_add_one]
    · intro fl vs' tl tk' h' ho' hnew ha
      dsimp only at ho' hnew
      refine hQ fl vs' tl tk' h' (fun b ob e => ho' b ob (hst b ob e) ?_) (fun p hp => ⟨(hnew p hp).1, ?_⟩) (hfit ▸ ha)
      · intro hb
        obtain ⟨a, ha, rfl⟩ := List.mem_map.mp hb
        rw [h6 a ha] at e
        cases e
      · cases q : s.heap.get? p.1 with
        | none => rfl
        | some ob => have := hst _ _ q; rw [(hnew p hp).2] at this; cases this

end SZ
section SLA
end SLA
local macro_rules | `(tactic| walk_at "compareOp In int ref") => `(tactic| (k_here; (with_reducible rename News _ _ _ _ => lN); refine in_list_ints (News.isList lN (by k_mem)) (by assumption) ?_))
section SLA
end SLA
local macro_rules | `(tactic| walk_at "compareOp In") => `(tactic| (k_here; (with_reducible show wpAny _ _ (compareOp CmpOp.In (Value.int _ _) (Value.ref _)) _ _ _); (with_reducible rename News _ _ _ _ => lN); refine in_list_ints (News.isList lN (by k_mem)) (by assumption) ?_))
section SLA
end SLA
local macro_rules | `(tactic| walk_at "compareOp In") => `(tactic| (k_here; (with_reducible show wpAny _ _ (compareOp CmpOp.In (Value.bytes _ _) (Value.bytes _ _)) _ _ _); (with_reducible rename Fr _ _ _ _ => lF); (with_reducible rename News _ _ _ _ => lN); refine in_bytes (by rfl) ?_; intro h' tk' hs'; (have F' := Fr.after lF hs'); (have N' := News.grown lN hs'); (try k_sweep)))
section SLA
end SLA
local macro_rules | `(tactic| walk_at "compareOp NotIn") => `(tactic| (k_here; (with_reducible show wpAny _ _ (compareOp CmpOp.NotIn (Value.bytes _ _) (Value.bytes _ _)) _ _ _); (with_reducible rename Fr _ _ _ _ => lF); (with_reducible rename News _ _ _ _ => lN); refine notIn_bytes (by rfl) ?_; intro h' tk' hs'; (have F' := Fr.after lF hs'); (have N' := News.grown lN hs'); (try k_sweep)))
section SLA
variable {w : World} {A : Around} {E Q : Value → Shared → Prop} {s : Shared} {H : Heap}

def Row.size (r : Row) : Nat := match r.kind with
  | .chars => 1
  | _ => r.wn.size
def IntsOf (vs : List Value) (xs : List Nat) : Prop := IntsAre vs (xs.map (fun (k : Nat) => (k : Int)))
def lawLies (o : Array UInt8) (r : Row) (span : List Nat) (n : Nat) : Bool := match r.kind with
  | .chars => decide (n ∈ span)
  | _ => liesAt o r.wn n && decide (n ∈ span) && decide (n + r.wn.size - 1 ∈ span)
theorem any_nat (xs : List Nat) (n : Nat) : (xs.map (fun (k : Nat) => (k : Int))).any (· == (n : Int)) = decide (n ∈ xs) := by
  rw [Bool.eq_iff_iff]
  simp
  constructor
  · rintro ⟨x, hx, e⟩
    have : x = n := by omega
    exact this ▸ hx
  · intro h
    exact ⟨n, h, rfl⟩

theorem law_size_spec {a : Addr} {r : Row} {t1 t2 t3 t4 : Tok} {D : List (Addr × Obj)} (G : Fine w H s.heap) (hA : A.depth < 700)
    (hD : ∀ p ∈ D, s.heap.get? p.1 = some p.2 ∧ H.get? p.1 = none) (hr : (a, rowObj r t1 t2 t3 t4) ∈ D) (hw : r.wn.size < 1000)
    (hQ : ∀ t tk' h', Sub s.heap h' → Q (.int r.size t) { s with heap := h', toks := tk' }) :
    wpAny (model PySem.Challenge.rw_pb0229_01.row.prog w) A (call (.ref 193) [.ref a]) Q E s := by
  obtain ⟨kind, wn, bf, af⟩ := r
  cases kind <;>
  · dsimp only [rowObj, wantedV, Kind.str] at hr
    w_on
    obtain ⟨hd9, dp9, fr9, gs9, un9⟩ := A
    dsimp only at hA
    have X0 := G.X; revert X0; k_fill; intro X0; clear X0
    k_dflt (refine' enter (binds := [(Str.ofString "row", .ref a)]) G D ?kadr ?k6 ?k7 ?k8 ?k9 ?kB ?c5 ?_ ?c2 ?c3 ?c4; (case k6 => k_is); (case k7 => k_is); (case k8 => (simp only [recursionLimit]; omega)); (case k9 => exact BindsTo.of_eq rfl); (case c5 => decide); (case kB => exact locs rfl); (case c2 => exact rfl); (case c3 => exact rfl); (case c4 => exact rfl); (case kadr => exact hD); intro g L' h₁ loose mean mg mb kBut FG X' T' F' N' kOut; (try dsimp only); (try k_fold))
    repeat' (first | ((with_reducible show wpAny _ _ (exec (Stmt.Raise _ _ _) _) _ _ _); exfalso; omega) | (k_unfold; (try dsimp only)) | (k_end; wrow_close) | ((fail_if_success (with_reducible show wpAny _ _ (pyIter _) _ _ _)); (fail_if_success (with_reducible show wpAny _ _ (exec (Stmt.While _ _ _ _) _) _ _ _)); first | walk1 | (dsimp only; walk1) | (dsimp only [leadV, wantedV, optV, Kind.str]; walk1)) | (leave1; walk_say "STEP leave1"; try dsimp only))
    rename Fr _ _ _ _ => F8
    rename News _ _ _ _ => N8
    show Q _ _
    exact fin_int (fun t => hQ t _ _ (out_all (kOut _ F8.keep) (fun p hp => (hD p hp).1) N8)) rfl

theorem law_lies_spec {o : Array UInt8} {to tn : Tok} {a sa : Addr} {ep : Nat} {r : Row} {t1 t2 t3 t4 : Tok} {D : List (Addr × Obj)} {vs : List Value} {span : List Nat} {n : Nat} (G : Fine w H s.heap) (hA : A.depth < 700) (ho : o.size < 1000)
    (hD : ∀ p ∈ D, s.heap.get? p.1 = some p.2 ∧ H.get? p.1 = none) (hr : (a, rowObj r t1 t2 t3 t4) ∈ D) (hw : 0 < r.wn.size ∧ r.wn.size < 1000) (hsp : (sa, listO vs ep) ∈ D) (hsi : IntsOf vs span)
    (hQ : ∀ tk' h', Sub s.heap h' → Q (.bool (lawLies o r span n)) { s with heap := h', toks := tk' }) :
    wpAny (model PySem.Challenge.rw_pb0229_01.row.prog w) A (call (.ref 186) [.bytes o to, .ref a, .ref sa, .int n tn]) Q E s := by
  obtain ⟨kind, wn, bf, af⟩ := r
  obtain ⟨hw1, hw2⟩ := hw
  dsimp only at hw1 hw2
  unfold IntsOf at hsi
  cases kind with
  | chars =>
    dsimp only [rowObj, wantedV, Kind.str] at hr
    w_on
    obtain ⟨hd9, dp9, fr9, gs9, un9⟩ := A
    dsimp only at hA
    have X0 := G.X; revert X0; k_fill; intro X0; clear X0
    k_dflt (refine' enter (binds := [(Str.ofString "octets", .bytes o to), (Str.ofString "row", .ref a), (Str.ofString "span", .ref sa), (Str.ofString "at", .int n tn)]) G D ?kadr ?k6 ?k7 ?k8 ?k9 ?kB ?c5 ?_ ?c2 ?c3 ?c4; (case k6 => k_is); (case k7 => k_is); (case k8 => (simp only [recursionLimit]; omega)); (case k9 => exact BindsTo.of_eq rfl); (case c5 => decide); (case kB => exact locs rfl); (case c2 => exact rfl); (case c3 => exact rfl); (case c4 => exact rfl); (case kadr => exact hD); intro g L' h₁ loose mean mg mb kBut FG X' T' F' N' kOut; (try dsimp only); (try k_fold))
    repeat' (first | ((with_reducible show wpAny _ _ (exec (Stmt.Raise _ _ _) _) _ _ _); exfalso; omega) | (k_unfold; (try dsimp only)) | (k_end; wrow_close) | ((fail_if_success (with_reducible show wpAny _ _ (pyIter _) _ _ _)); (fail_if_success (with_reducible show wpAny _ _ (exec (Stmt.While _ _ _ _) _) _ _ _)); first | walk1 | (dsimp only; walk1) | (dsimp only [leadV, wantedV, optV, Kind.str]; walk1)) | (leave1; walk_say "STEP leave1"; try dsimp only))
    rename Fr _ _ _ _ => F8
    rename News _ _ _ _ => N8
    show Q _ _
    exact fin_bool (hQ _ _ (out_all (kOut _ F8.keep) (fun p hp => (hD p hp).1) N8)) (any_nat _ _).symm
  | _ =>
    dsimp only [rowObj, wantedV, Kind.str] at hr
    w_on
    obtain ⟨hd9, dp9, fr9, gs9, un9⟩ := A
    dsimp only at hA
    have X0 := G.X; revert X0; k_fill; intro X0; clear X0
    k_dflt (refine' enter (binds := [(Str.ofString "octets", .bytes o to), (Str.ofString "row", .ref a), (Str.ofString "span", .ref sa), (Str.ofString "at", .int n tn)]) G D ?kadr ?k6 ?k7 ?k8 ?k9 ?kB ?c5 ?_ ?c2 ?c3 ?c4; (case k6 => k_is); (case k7 => k_is); (case k8 => (simp only [recursionLimit]; omega)); (case k9 => exact BindsTo.of_eq rfl); (case c5 => decide); (case kB => exact locs rfl); (case c2 => exact rfl); (case c3 => exact rfl); (case c4 => exact rfl); (case kadr => exact hD); intro g L' h₁ loose mean mg mb kBut FG X' T' F' N' kOut; (try dsimp only); (try k_fold))
    repeat' (first | ((with_reducible show wpAny _ _ (exec (Stmt.Raise _ _ _) _) _ _ _); exfalso; omega) | (k_unfold; (try dsimp only)) | (k_end; wrow_close) | ((fail_if_success (with_reducible show wpAny _ _ (pyIter _) _ _ _)); (fail_if_success (with_reducible show wpAny _ _ (exec (Stmt.While _ _ _ _) _) _ _ _)); first | walk1 | (dsimp only; walk1) | (dsimp only [leadV, wantedV, optV, Kind.str]; walk1)) | (leave1; walk_say "STEP leave1"; try dsimp only))
    all_goals (rename Fr _ _ _ _ => F8)
    all_goals (rename News _ _ _ _ => N8)
    all_goals (rename ((Array.toList _ == _) = _) => h1)
    all_goals (rw [beq_bytes, Int.toNat_natCast, show ((n : Int) + (wn.size : Int)).toNat = n + wn.size by omega] at h1)
    · rename (List.any _ _ = true) => h2
      rw [any_nat] at h2
      show Q _ _
      refine fin_bool (hQ _ _ (out_all (kOut _ F8.keep) (fun p hp => (hD p hp).1) N8)) ?_
      rw [show ((n : Int) + (wn.size : Int) - 1) = ((n + wn.size - 1 : Nat) : Int) by omega, any_nat]
      unfold lawLies liesAt
      rw [h1, h2]
      simp
    · rename (List.any _ _ = false) => h2
      rw [any_nat] at h2
      show Q _ _
      refine fin_bool (hQ _ _ (out_all (kOut _ F8.keep) (fun p hp => (hD p hp).1) N8)) ?_
      unfold lawLies liesAt
      rw [any_nat, h1, h2]
      simp
    · show Q _ _
      refine fin_bool (hQ _ _ (out_all (kOut _ F8.keep) (fun p hp => (hD p hp).1) N8)) ?_
      unfold lawLies liesAt
      rw [beq_bytes, Int.toNat_natCast, show ((n : Int) + (wn.size : Int)).toNat = n + wn.size by omega, h1]
      simp

end SLA
section SLB
end SLB
local macro_rules | `(tactic| walk_at "call builtin:list.append") => `(tactic| (k_here; (show wpAny _ _ (call (Value.builtin "list.append") [Value.ref _, _]) _ _ _); (with_reducible rename Fr _ _ _ _ => lF); (with_reducible rename News _ _ _ _ => lN); k_dflt (refine append_K lF lN (Upd.head (by assumption)) ?_ ?szz; (case szz => (simp only [List.size_toArray]; unfold sizeLine; omega))); intro h' F' N'; (simp only [List.push_toArray] at N'); (try k_sweep)))
section SLB
variable {w : World} {A : Around} {E Q : Value → Shared → Prop} {s : Shared} {H : Heap}

def isIn (x b : Array UInt8) : Bool := (Bytes.find? x b 0 x.size).isSome
def lateAt (o : Array UInt8) (r : Row) (n : Nat) : Bool := match r.bf with
  | none => false
  | some b => isIn (o.extract 0 (n + b.size)) b
def earlyAt (o : Array UInt8) (r : Row) (n : Nat) : Bool := match r.af with
  | none => false
  | some a => !isIn (o.extract 0 n) a
def spanTo (o : Array UInt8) (r : Row) (i : Nat) : List Nat := (List.range i).filter fun n => !lateAt o r n && !earlyAt o r n
def spanL (o : Array UInt8) (r : Row) : List Nat := spanTo o r o.size
structure SpS where
  vs : List Value
  u : Str → Option Value
theorem ints_snoc {vs : List Value} {xs : List Int} (h : IntsAre vs xs) {n : Int} {t : Tok} : IntsAre (vs ++ [.int n t]) (xs ++ [n]) := by
  induction h with
  | nil => exact .cons _ _ .nil
  | cons n' t' _ ih => exact .cons _ _ ih
theorem intsOf_snoc {vs : List Value} {xs : List Nat} (h : IntsOf vs xs) {n : Nat} {t : Tok} : IntsOf (vs ++ [.int n t]) (xs ++ [n]) := by
  unfold IntsOf
  rw [List.map_append]
  exact ints_snoc h
theorem intsOf_len {vs : List Value} {xs : List Nat} (h : IntsOf vs xs) : vs.length = xs.length := by
  have : ∀ {vs : List Value} {ys : List Int}, IntsAre vs ys → vs.length = ys.length := fun h => by
    induction h with
    | nil => rfl
    | cons _ _ _ ih => simp [ih]
  simpa using this h
def spMap (o : Array UInt8) (to : Tok) (a fl : Addr) (c : SpS) (y : Str) : Option Value :=
  if y = Str.ofString "found" then some (.ref fl) else if y = Str.ofString "octets" then some (.bytes o to) else if y = Str.ofString "row" then some (.ref a) else c.u y
theorem map_sp {o : Array UInt8} {to : Tok} {a fl : Addr} {vs : List Value} {u : Str → Option Value} {z : Str} (h1 : u (Str.ofString "found") = some (.ref fl)) (h2 : u (Str.ofString "octets") = some (.bytes o to)) (h3 : u (Str.ofString "row") = some (.ref a)) : u z = spMap o to a fl ⟨vs, u⟩ z := by
  unfold spMap
  by_cases e1 : z = Str.ofString "found"
  · rw [if_pos e1, e1, h1]
  · rw [if_neg e1]
    by_cases e2 : z = Str.ofString "octets"
    · rw [if_pos e2, e2, h2]
    · rw [if_neg e2]
      by_cases e3 : z = Str.ofString "row"
      · rw [if_pos e3, e3, h3]
      · rw [if_neg e3]

theorem sp_end {o : Array UInt8} {to : Tok} {a fl L : Addr} {D own : List (Addr × Obj)} {g h' : Heap} {tk i n : Nat} {s₁ : Shared} {sp : Nat → List Nat} {m' : Str → Option Value} {Q : Flow → Shared → Prop} (vs : List Value)
    (F : Fr g L h' m') (h1 : m' (Str.ofString "found") = some (.ref fl)) (h2 : m' (Str.ofString "octets") = some (.bytes o to)) (h3 : m' (Str.ofString "row") = some (.ref a))
    (N : News g L h' ((fl, listO vs n) :: D ++ own)) (hn : n = vs.length) (hI : IntsOf vs (sp (i + 1))) (hl : vs.length ≤ i + 1) :
    TurnPost (spMap o to a fl) (fun c => (fl, listO c.vs c.vs.length) :: D) (fun c => IntsOf c.vs (sp (i + 1)) ∧ c.vs.length ≤ i + 1) (fun z => z ≠ Str.ofString "at") g L own s₁ Q .next { s₁ with heap := h', toks := tk } := by
  subst hn
  exact TurnEnd.intro ⟨vs, m'⟩ F (fun z _ => map_sp h1 h2 h3) N (fun p hp => hp) ⟨hI, hl⟩
theorem sp_in {sp : Nat → List Nat} {vs : List Value} {i : Nat} {x y : Bool} {t : Tok} (hs : sp (i + 1) = if (!x && !y) = true then sp i ++ [i] else sp i) (hI : IntsOf vs (sp i)) (hx : x = false) (hy : y = false) : IntsOf (vs ++ [.int (i : Int) t]) (sp (i + 1)) := by
  rw [hs, hx, hy]
  exact intsOf_snoc hI
theorem sp_out {sp : Nat → List Nat} {vs : List Value} {i : Nat} {x y : Bool} (hs : sp (i + 1) = if (!x && !y) = true then sp i ++ [i] else sp i) (hI : IntsOf vs (sp i)) (h : x = true ∨ y = true) : IntsOf vs (sp (i + 1)) := by
  rw [hs]
  rcases h with h | h <;> simp [h, hI]
theorem late_of {o b wn : Array UInt8} {k : Kind} {af : Option (Array UInt8)} {i : Nat} {x : Bool} (h : (Bytes.find? (o.extract 0 ((i : Int) + (b.size : Int)).toNat) b 0 (o.extract 0 ((i : Int) + (b.size : Int)).toNat).size).isSome = x) : lateAt o ⟨k, wn, some b, af⟩ i = x := by
  rw [show ((i : Int) + (b.size : Int)).toNat = i + b.size by omega] at h
  exact h
theorem early_f {o a wn : Array UInt8} {k : Kind} {bf : Option (Array UInt8)} {i : Nat} (h : (Bytes.find? (o.extract 0 (i : Int).toNat) a 0 (o.extract 0 (i : Int).toNat).size).isSome = true) : earlyAt o ⟨k, wn, bf, some a⟩ i = false := by
  rw [Int.toNat_natCast] at h
  show (!isIn _ _) = false
  unfold isIn
  rw [h]
  rfl
theorem early_t {o a wn : Array UInt8} {k : Kind} {bf : Option (Array UInt8)} {i : Nat} (h : (Bytes.find? (o.extract 0 (i : Int).toNat) a 0 (o.extract 0 (i : Int).toNat).size).isSome = false) : earlyAt o ⟨k, wn, bf, some a⟩ i = true := by
  rw [Int.toNat_natCast] at h
  show (!isIn _ _) = true
  unfold isIn
  rw [h]
  rfl
theorem spanTo_succ (o : Array UInt8) (r : Row) (i : Nat) : spanTo o r (i + 1) = if (!lateAt o r i && !earlyAt o r i) = true then spanTo o r i ++ [i] else spanTo o r i := by
  unfold spanTo
  rw [List.range_succ, List.filter_append]
  by_cases h : (!lateAt o r i && !earlyAt o r i) = true
  · rw [if_pos h]; simp [List.filter, h]
  · rw [if_neg h]; simp [List.filter, h]

theorem law_span_spec {o : Array UInt8} {to : Tok} {a : Addr} {r : Row} {t1 t2 t3 t4 : Tok} {D : List (Addr × Obj)} (G : Fine w H s.heap) (hA : A.depth < 700) (hh : A.handled = none) (ho : o.size < 1000)
    (hD : ∀ p ∈ D, s.heap.get? p.1 = some p.2 ∧ H.get? p.1 = none) (hr : (a, rowObj r t1 t2 t3 t4) ∈ D) (hb : okOpt r.bf) (ha : okOpt r.af)
    (hQ : ∀ fl vs tk' h', Sub s.heap h' → (h'.get? fl = some (listO vs vs.length) ∧ s.heap.get? fl = none) → IntsOf vs (spanL o r) → Q (.ref fl) { s with heap := h', toks := tk' }) :
    wpAny (model PySem.Challenge.rw_pb0229_01.row.prog w) A (call (.ref 179) [.bytes o to, .ref a]) Q E s := by
  obtain ⟨sp, hsp0, hspS, hspE⟩ : ∃ sp : Nat → List Nat, sp 0 = [] ∧ (∀ i, sp (i + 1) = if (!lateAt o r i && !earlyAt o r i) = true then sp i ++ [i] else sp i) ∧ sp o.size = spanL o r := ⟨spanTo o r, rfl, fun i => spanTo_succ o r i, rfl⟩
  obtain ⟨kind, wn, bf, af⟩ := r
  dsimp only at hb ha
  cases bf <;> cases af <;>
  · dsimp only [rowObj, optV] at hr
    (try (obtain ⟨hb1, hb2⟩ := hb))
    (try (obtain ⟨ha1, ha2⟩ := ha))
    w_on
    obtain ⟨hd9, dp9, fr9, gs9, un9⟩ := A
    dsimp only at hA
    obtain rfl : hd9 = none := hh
    have X0 := G.X; revert X0; k_fill; intro X0; clear X0
    k_dflt (refine' enter (binds := [(Str.ofString "octets", .bytes o to), (Str.ofString "row", .ref a)]) G D ?kadr ?k6 ?k7 ?k8 ?k9 ?kB ?c5 ?_ ?c2 ?c3 ?c4; (case k6 => k_is); (case k7 => k_is); (case k8 => (simp only [recursionLimit]; omega)); (case k9 => exact BindsTo.of_eq rfl); (case c5 => decide); (case kB => exact locs rfl); (case c2 => exact rfl); (case c3 => exact rfl); (case c4 => exact rfl); (case kadr => exact hD); intro g L' h₁ loose mean mg mb kBut FG X' T' F' N' kOut; (try dsimp only); (try k_fold))
    repeat' (first | ((with_reducible show wpAny _ _ (exec (Stmt.Raise _ _ _) _) _ _ _); exfalso; omega) | (k_unfold; (try dsimp only)) | (k_end; wrow_close) | ((fail_if_success (with_reducible show wpAny _ _ (pyIter _) _ _ _)); (fail_if_success (with_reducible show wpAny _ _ (exec (Stmt.While _ _ _ _) _) _ _ _)); first | walk1 | (dsimp only; walk1) | (dsimp only [leadV, wantedV, optV, Kind.str]; walk1)) | (leave1; walk_say "STEP leave1"; try dsimp only))
    rename IsRange _ _ _ _ _ _ _ _ => HR
    with_reducible rename Fr _ _ _ _ => F8
    with_reducible rename News _ _ _ _ => N8
    obtain ⟨fl, F8, N8, hfl⟩ : ∃ fl, Fr g L' _ (fun y => if y = Str.ofString "found" then some (.ref fl) else List.lookup y [(Str.ofString "octets", Value.bytes o to), (Str.ofString "row", Value.ref a)].reverse) ∧ News g L' _ ((fl, listO [] 0) :: D) ∧ (∀ p ∈ D, p.1 ≠ fl) := ⟨_, F8, N8, fun p hp => Nat.ne_of_lt ((by assumption : ∀ p ∈ D, p.1 < _) p hp)⟩
    refine for_range (spMap o to a fl) (fun c => (fl, listO c.vs c.vs.length) :: D) (fun i c => IntsOf c.vs (sp i) ∧ c.vs.length ≤ i) ⟨[], fun _ => none⟩ o.size (by rfl) HR ⟨by omega, by omega⟩ (by omega) F8 N8 ?_ rfl ⟨hsp0 ▸ .nil, Nat.le_refl _⟩ (fun _ _ _ => rfl) ?_ ?_
    · rintro z -
      simp only [spMap, List.reverse_cons, List.reverse_nil, List.nil_append, List.cons_append, lookup_if, List.lookup_nil]
      by_cases e1 : z = Str.ofString "found"
      · simp only [e1, if_true]
      · by_cases e2 : z = Str.ofString "octets"
        · simp only [e2]; rfl
        · by_cases e3 : z = Str.ofString "row"
          · simp only [e3]; rfl
          · simp only [e1, e2, e3, if_false]
    · rintro i ⟨vs, u⟩ t h tk own hi ⟨hI1, hI2⟩ hown F2 N2
      dsimp only at hI1 hI2 N2
      simp only [Int.zero_add] at F2
      have hr2 := List.mem_append_left own (List.Mem.tail (fl, listO vs vs.length) hr)
      have hfo : ∀ p ∈ D ++ own, p.1 ≠ fl := fun p hp => (List.mem_append.mp hp).elim (hfl p) fun h => hown.ne (List.mem_map_of_mem (f := (·.1)) (List.Mem.head _ : (fl, listO [] 0) ∈ (fl, listO [] 0) :: D)) p h
      have hss := hspS i
      k_unmd
      k_fold
      repeat' (first | ((with_reducible show wpAny _ _ (exec (Stmt.Raise _ _ _) _) _ _ _); exfalso; omega) | (k_unfold; (try dsimp only)) | (k_end; wrow_close) | ((fail_if_success (with_reducible show wpAny _ _ (pyIter _) _ _ _)); (fail_if_success (with_reducible show wpAny _ _ (exec (Stmt.While _ _ _ _) _) _ _ _)); first | walk1 | (dsimp only; walk1) | (dsimp only [leadV, wantedV, optV, Kind.str]; walk1)) | (leave1; walk_say "STEP leave1"; try dsimp only))
      all_goals (with_reducible rename Fr _ _ _ _ => F9)
      all_goals (with_reducible rename News _ _ _ _ => N9)
      all_goals (first
        | exact sp_end (vs ++ [Value.int (i : Int) t]) F9 rfl rfl rfl N9 (by simp) (sp_in hss hI1 (by first | exact rfl | exact late_of (by assumption)) (by first | exact rfl | exact early_f (by assumption))) (by simp; omega)
        | exact sp_end vs F9 rfl rfl rfl N9 rfl (sp_out hss hI1 (by first | exact .inl (late_of (by assumption)) | exact .inr (early_t (by assumption)))) (by omega))
    · rintro ⟨vs, u⟩ u' h tk ⟨hI1, hI2⟩ F2 N2
      dsimp only at hI1 hI2 N2
      k_unmd
      (try k_fold)
      repeat' (first | ((with_reducible show wpAny _ _ (exec (Stmt.Raise _ _ _) _) _ _ _); exfalso; omega) | (k_unfold; (try dsimp only)) | (k_end; wrow_close) | ((fail_if_success (with_reducible show wpAny _ _ (pyIter _) _ _ _)); (fail_if_success (with_reducible show wpAny _ _ (exec (Stmt.While _ _ _ _) _) _ _ _)); first | walk1 | (dsimp only; walk1) | (dsimp only [leadV, wantedV, optV, Kind.str]; walk1)) | (leave1; walk_say "STEP leave1"; try dsimp only))
      with_reducible rename Fr _ _ _ _ => F9
      with_reducible rename News _ _ _ _ => N9
      show Q _ _
      exact hQ fl vs _ _ (all_stand kOut F9 (fun p hp => (hD p hp).1) N9 (fun p hp => .tail _ hp)) ⟨N9.get (.head _), fresh_of kBut (N9.fresh (.head _)) hfl⟩ (hspE ▸ hI1)

end SLB
open PySem PySem.W PyProof.Rows PySem.Calls PySem.Spec PySem.Builtin PySem.F
section SDA
section
variable {prog : Program} {w : World} {A : Around} {E : Value → Shared → Prop} {s : Shared}
theorem look_keys : typeLookup (.type "list") "keys" = pure none := by rw [typeLookup_type, builtinLookup_eq_fast]; kernel_rfl

theorem keys_none {a : Addr} {xs : Array Value} {k : Nat} {Q : Option Value → Shared → Prop} (hx : s.heap.get? a = some { cls := .type "list", data := .seq xs k }) (hh : A.handled = none)
    (h : ∀ h' tk, Sub s.heap h' → Q none { s with heap := h', toks := tk }) : wpAny (model prog w) A (getAttr? (.ref a) "keys") Q E s := by
  obtain ⟨hp, g, d, tk, os⟩ := s
  have hT : ∀ tk', (⟨hp, g, d, tk', os⟩ : Shared).TypeIs (.ref a) "list" := fun _ => ⟨_, hx, rfl⟩
  have f1 := sub_AttributeError
  have f3 := F.slot_list_getattribute.lookup
  have f4 := F.slot_list_getattribute.bind (.ref a)
  have f5 := am_list_getattr_none
  unfold getAttr? getAttrBy? getAttrBy
  repeat (any_goals (first | assumption | exact hT _ | ((with_reducible show wpAny _ _ (call (Value.builtin "list.__getattribute__") _ _) _ _ _); refine call_meets F.slot_list_getattribute (hT _) am_entry_list_getattribute (F.args_list_getattribute_2 _ _) (meets_getattribute_miss_list a xs k #[] "keys" _ look_keys (by decide +kernel) (by size_fits)) ⟨hx, hh, fun h' tk' e hx' => ?_⟩) | wp_step))
  obtain ⟨t', u', he⟩ := hx'.there
  show wpAny _ _ (getattributeRaised _ _ _ _ _ _ _) _ _ _
  unfold getattributeRaised
  repeat (any_goals (first | assumption | wp_step))
  all_goals exact h h' tk' hx'.keeps

theorem plain_upd : plainId "dict.update.loop" = true := by decide +kernel
theorem entry_upd : entryFor table "dict.update.loop" = some Builtin.«dict.update.loop» := entryFor_of_fast (by kernel_rfl)
/-- a list of pairs: the key and the value of each -/
def PairsAt (h : Heap) (vs : List Value) (ps : List (Int × Value)) : Prop := All2 (fun v (p : Int × Value) => ∃ a t, v = .ref a ∧ h.get? a = some (tupO [.int p.1 t, p.2])) vs ps
theorem stored_new {kvs : List (Int × Value)} {k : Int} {v : Value} (h : k ∉ kvs.map (·.1)) : stored kvs k v = kvs ++ [(k, v)] := by
  unfold stored
  rw [if_neg]
  simp only [List.any_eq_true, decide_eq_true_eq, not_exists, not_and]
  intro x hx e
  exact h (List.mem_map.mpr ⟨x, hx, e⟩)
theorem upd_loop {d it l : Addr} {vs : List Value} {ep : Nat} {ps : List (Int × Value)} {R : Result → Shared → Prop} (hh : A.handled = none) (hsz : vs.length < 100000) (hnd : (ps.map (·.1)).Nodup) (hdi : d ≠ it) :
    ∀ (k i : Nat) (s : Shared), i + k = vs.length → s.heap.get? l = some (listO vs ep) → PairsAt s.heap vs ps → s.heap.IsListIter it l i → s.heap.DictOf (intKind prog w) d (ps.take i) →
    (∀ h' tk', h'.DictOf (intKind prog w) d ps → (∀ b o, b ≠ d → b ≠ it → s.heap.get? b = some o → h'.get? b = some o) → R (.ok (.ret .none)) { s with heap := h', toks := tk' }) →
    codeAny (model prog w) A (.builtin "dict.update.loop" ⟨[.ref d, .ref it, rawInt i, .none], []⟩) R s := by
  intro k
  induction k with
  | zero =>
    intro i s hi hl hp hit hd hR
    refine codeAny_builtin entry_upd ?_
    rw [Around.under_plainId plain_upd _]
    show wpAny _ A.in1 (pyNext (.ref it) >>= _) _ _ s
    refine wpAny_bind (wpAny_pyNext_list_end hh hit (⟨_, hl, rfl, _, rfl⟩ : s.heap.IsList l vs.toArray) (by simp; omega) fun h' hs' => ?_)
    have hps : ps.take i = ps := List.take_of_length_le (by rw [← hp.len]; omega)
    rw [hps] at hd
    exact wpAny_bind (wpAny_pure (wpAny_pure (hR h' _ (hd.extBut hs' hdi) fun b o _ hb e => hs' b o hb e)))
  | succ k ih =>
    intro i s hi hl hp hit hd hR
    have hlt : i < vs.length := by omega
    have hv : vs[i]? = some vs[i] := List.getElem?_eq_getElem hlt
    obtain ⟨p, hpi, a, t, hva, ha⟩ := hp.getL hv
    obtain ⟨oi, hoi, hci, hdi2⟩ := id hit
    obtain ⟨od, es, epd, hod, hcd, hdd, _⟩ := id hd
    have hdcls : od.cls = .type "dict" := hcd.1
    have hnl : l ≠ it := fun e => by rw [e, hoi] at hl; cases hl; simp at hci
    have hna : a ≠ it := fun e => by rw [e, hoi] at ha; cases ha; simp at hci
    have hld : l ≠ d := fun e => by rw [e, hod] at hl; cases hl; simp at hdcls
    have had : a ≠ d := fun e => by rw [e, hod] at ha; cases ha; simp at hdcls
    refine codeAny_builtin entry_upd ?_
    rw [Around.under_plainId plain_upd _]
    show wpAny _ A.in1 (pyNext (.ref it) >>= _) _ _ s
    refine wpAny_bind (wpAny_pyNext_list_item hit (⟨_, hl, rfl, _, rfl⟩ : s.heap.IsList l vs.toArray) (x := .ref a) (by simp [hv, hva]) fun h' hit' hs' => ?_)
    have ha' : h'.get? a = some (tupO [.int p.1 t, p.2]) := (hs'.2 a hna).trans ha
    dsimp only
    refine wpAny_bind (wpAny_holding ?_)
    refine wpAny_bind (wpAny_tryCatch ?_)
    unfold Builtin.Dict.pairItems
    refine wpAny_bind (wpAny_typeOf (⟨_, ha', rfl⟩ : Shared.TypeIs _ (.ref a) "tuple") ?_)
    rw [if_pos (by decide)]
    refine wpAny_bind (wpAny_seqItems ha' rfl (wpAny_pure ?_))
    show wpAny _ _ (holding [Value.int p.1 t, p.2] (dictSet d (.int p.1 t) p.2)) _ _ _
    refine wpAny_holding ?_
    have hd' := hd.sameBut hs' hdi
    refine wpAny_dictSet_pairs (knd := intKind prog w) (intKind_is prog w p.1 t) hd' (fun h2 hd2 hs2 => ?_) (by rw [List.length_take]; unfold sizeLine; omega)
    have hnew : p.1 ∉ (ps.take i).map (·.1) := by
      have h1 : (ps.map (·.1))[i]? = some p.1 := by simp [hpi]
      intro hm
      rw [List.map_take] at hm
      obtain ⟨j, hj, e⟩ := List.mem_take_iff_getElem.mp hm
      have h3 : (ps.map (·.1))[j]? = some p.1 := by rw [← e]; exact List.getElem?_eq_getElem (by omega)
      have hij : j = i := (List.getElem?_inj (by omega) hnd).mp (h3.trans h1.symm)
      omega
    rw [stored_new hnew] at hd2
    refine wpAny_pure ⟨plainId_quiet plain_upd _, ih (i + 1) _ (by omega) ?_ ?_ ?_ ?_ ?_⟩
    · exact (hs2.2 l hld).trans ((hs'.2 l hnl).trans hl)
    · refine All2.mono hp fun v q ⟨b, tb, e1, e2⟩ => ⟨b, tb, e1, ?_⟩
      have h1 : b ≠ it := fun e => by rw [e, hoi] at e2; cases e2; simp at hci
      have h2 : b ≠ d := fun e => by rw [e, hod] at e2; cases e2; simp at hdcls
      exact (hs2.2 b h2).trans ((hs'.2 b h1).trans e2)
    · obtain ⟨o2, ho2, r⟩ := hit'
      exact ⟨o2, (hs2.2 it (Ne.symm hdi)).trans ho2, r⟩
    · rw [List.take_add_one, hpi]
      exact hd2
    · intro h3 tk3 hd3 hk3
      exact hR h3 tk3 hd3 fun b o h1 h2 e => hk3 b o h1 h2 ((hs2.2 b h1).trans ((hs'.2 b h2).trans e))

theorem dict_pairs {l : Addr} {vs : List Value} {ep : Nat} {ps : List (Int × Value)} {Q : Value → Shared → Prop} (hh : A.handled = none) (hsz : vs.length < 100000) (hnd : (ps.map (·.1)).Nodup)
    (hl : s.heap.get? l = some (listO vs ep)) (hp : PairsAt s.heap vs ps)
    (h : ∀ h' tk', h'.DictOf (intKind prog w) s.heap.objs.size ps → Sub s.heap h' → Q (.ref s.heap.objs.size) { s with heap := h', toks := tk' }) :
    wpAny (model prog w) A (call (.type "dict") [.ref l]) Q E s := by
  refine callType_codes (Q₁ := fun obj s₁ => obj = .ref s.heap.objs.size ∧ s₁ = { s with heap := s.heap.push { cls := .type "dict", data := .dict #[] } }) F.kt_called_dict (F.kt_typeCall_dict_1 _) F.entry_dict_init (kt_code_dict_new _ ⟨rfl, rfl⟩) ?_
  rintro obj s₁ ⟨rfl, rfl⟩
  have hnew : (s.heap.push { cls := .type "dict", data := .dict #[] }).DictOf (intKind prog w) s.heap.objs.size [] := Heap.DictOf.new s.heap
  have hl1 : (s.heap.push { cls := .type "dict", data := .dict #[] }).get? l = some (listO vs ep) := Heap.get?_push_of_some _ hl
  refine ⟨hnew.typeIs, F.args_dict_init_2 _ _, ?_⟩
  unfold Builtin.«dict.__init__»
  refine wpAny_bind ?_
  unfold Builtin.Dict.selfAndRest
  refine wpAny_bind (wpAny_notOrdered_dict hnew.typeIs ?_)
  show wpAny _ _ (pure (s.heap.objs.size, [Value.ref l])) _ _ _
  refine wpAny_pure ?_
  show wpAny _ _ (Builtin.Dict.updateFrom "dict.__init__" s.heap.objs.size (.ref l) [] .none) _ _ _
  unfold Builtin.Dict.updateFrom
  refine wpAny_bind (wpAny_typeOf (⟨_, hl1, rfl⟩ : Shared.TypeIs _ (.ref l) "list") ?_)
  rw [if_pos (by decide)]
  refine wpAny_bind (keys_none hl1 hh fun h1 tk1 hs1 => ?_)
  dsimp only at hs1 ⊢
  rw [if_pos (by rfl)]
  refine wpAny_bind (wpAny_rule ?_)
  have hl2 := hs1 _ _ hl1
  refine wpAny_bind (wpAny_pyIter_list (⟨_, hl2, rfl, _, rfl⟩ : Heap.IsList _ l vs.toArray) ?_)
  have hd1 : h1.DictOf (intKind prog w) s.heap.objs.size [] := hnew.keep hs1
  have hdlt : s.heap.objs.size < h1.objs.size := by
    obtain ⟨o, _, _, ho, _⟩ := hd1
    exact Heap.lt_size ho
  refine wpAny_pure ⟨plainId_quiet plain_upd _, upd_loop (A := A.in1) (l := l) (ep := ep) (vs := vs) (ps := ps) hh hsz hnd (Nat.ne_of_lt hdlt) vs.length 0 _ (by omega) (Heap.get?_push_of_some _ hl2) ?_ ?_ ?_ ?_⟩
  · exact hp.mono fun v p ⟨a, t, e1, e2⟩ => ⟨a, t, e1, Heap.get?_push_of_some _ (hs1 _ _ (Heap.get?_push_of_some _ e2))⟩
  · exact ⟨_, Heap.get?_push_size _ rfl, rfl, rfl⟩
  · exact hd1.push _
  · intro h' tk' hd' hk
    refine ⟨rfl, h h' tk' hd' fun b o e => ?_⟩
    have hb : b < s.heap.objs.size := Heap.lt_size e
    exact hk b o (Nat.ne_of_lt hb) (Nat.ne_of_lt (Nat.lt_trans hb hdlt)) (Heap.get?_push_of_some _ (hs1 _ _ (Heap.get?_push_of_some _ e)))
end

end SDA
open PySem PySem.W PyProof.Rows PySem.Calls PySem.Spec PySem.Builtin PySem.SeqAt
section SDB

theorem ints_get {vs : List Value} {xs : List Int} (h : IntsAre vs xs) : ∀ {j : Nat} {v : Value}, vs[j]? = some v → ∃ x t, xs[j]? = some x ∧ v = .int x t := by
  induction h with
  | nil => intro j v e; simp at e
  | cons n t _ ih =>
    intro j v e
    cases j with
    | zero => simp at e; exact ⟨n, t, rfl, e.symm⟩
    | succ j => simpa using ih (by simpa using e)
theorem intsOf_get {vs : List Value} {xs : List Nat} (h : IntsOf vs xs) {j : Nat} {v : Value} (e : vs[j]? = some v) : ∃ x t, xs[j]? = some x ∧ v = .int (x : Int) t := by
  obtain ⟨x, t, h1, h2⟩ := ints_get h e
  rw [List.getElem?_map] at h1
  obtain ⟨y, hy, rfl⟩ := Option.map_eq_some_iff.mp h1
  exact ⟨y, t, hy, h2⟩
theorem all_eq {xs ys : List Nat} (hl : xs.length = ys.length) : (List.range xs.length).all (fun j => xs[j]? == ys[j]?) = decide (xs = ys) := by
  rw [Bool.eq_iff_iff, List.all_eq_true, decide_eq_true_iff]
  constructor
  · intro h
    apply List.ext_getElem? 
    intro j
    by_cases hj : j < xs.length
    · exact beq_iff_eq.mp (h j (List.mem_range.mpr hj))
    · rw [List.getElem?_eq_none (by omega), List.getElem?_eq_none (by omega)]
  · rintro rfl j _
    simp
section
variable {prog : Program} {w : World} {A : Around} {E Q : Value → Shared → Prop} {s : Shared} {l b : Addr} {vs us : List Value} {xs ys : List Nat}
theorem eq_items (hx : IntsOf vs xs) (hy : IntsOf us ys) (j : Nat) (h1 : j < vs.toArray.size) (h2 : j < us.toArray.size) : EqAt A s vs.toArray[j] us.toArray[j] (xs[j]? == ys[j]?) := by
  obtain ⟨x, t, e1, e2⟩ := intsOf_get hx (List.getElem?_eq_getElem (by simpa using h1))
  obtain ⟨y, u, e3, e4⟩ := intsOf_get hy (List.getElem?_eq_getElem (by simpa using h2))
  rw [List.getElem_toArray, List.getElem_toArray, e2, e4, e1, e3]
  have := EqAt.int_int (A := A) (s := s) (x : Int) t (y : Int) u
  rwa [show ((x : Int) == (y : Int)) = (some x == some y) by rw [Bool.eq_iff_iff]; simp; constructor <;> intro h <;> omega] at this
theorem eq_lists (hl : s.heap.IsList l vs.toArray) (hb : s.heap.IsList b us.toArray) (hx : IntsOf vs xs) (hy : IntsOf us ys) (hu : A.units < cLine) (h : Q (.bool (decide (xs = ys))) s) :
    wpAny (model prog w) A (compareOp .Eq (.ref l) (.ref b)) Q E s := by
  refine cmp_ofEq ?_
  by_cases hs : xs.length = ys.length
  · refine RcAt.lists hl hb (by simp [intsOf_len hx, intsOf_len hy, hs]) hu (fun j h1 h2 => eq_items hx hy j h1 h2) prog w E Q ?_
    rw [show vs.toArray.size = xs.length by simp [intsOf_len hx], all_eq hs]
    exact h
  · refine RcAt.lists_lengths hl hb (by simp [intsOf_len hx, intsOf_len hy, hs]) hu prog w E Q ?_
    rw [show decide (xs = ys) = false from decide_eq_false fun e => hs (by rw [e])] at h
    exact h
theorem ne_lists (hl : s.heap.IsList l vs.toArray) (hb : s.heap.IsList b us.toArray) (hx : IntsOf vs xs) (hy : IntsOf us ys) (hu : A.units < cLine) (h : Q (.bool (!decide (xs = ys))) s) :
    wpAny (model prog w) A (compareOp .NotEq (.ref l) (.ref b)) Q E s := by
  refine cmp_ofNotEq ?_
  by_cases hs : xs.length = ys.length
  · refine RcNeAt.lists hl hb (by simp [intsOf_len hx, intsOf_len hy, hs]) hu (fun j h1 h2 => eq_items hx hy j h1 h2) prog w E Q ?_
    rw [show vs.toArray.size = xs.length by simp [intsOf_len hx], all_eq hs]
    exact h
  · refine RcNeAt.lists_lengths hl hb (by simp [intsOf_len hx, intsOf_len hy, hs]) hu prog w E Q ?_
    rw [show decide (xs = ys) = false from decide_eq_false fun e => hs (by rw [e])] at h
    exact h
end

/-- who took a place -/
def takenAt (fp : List (Nat × Nat)) (n : Nat) : Option Nat := (fp.find? fun p => decide (p.1 = n)).map (·.2)
def PsOf (ps : List (Int × Value)) (fp : List (Nat × Nat)) : Prop := All2 (fun (q : Int × Value) (p : Nat × Nat) => q.1 = p.1 ∧ ∃ t, q.2 = .int p.2 t) ps fp
theorem valueAt_ps {ps : List (Int × Value)} {fp : List (Nat × Nat)} (h : PsOf ps fp) (n : Nat) : (valueAt ps (n : Int) = none ∧ takenAt fp n = none) ∨ ∃ j t, valueAt ps (n : Int) = some (.int (j : Nat) t) ∧ takenAt fp n = some j := by
  induction h with
  | nil => exact .inl ⟨rfl, rfl⟩
  | @cons q p l r hq _ ih =>
    obtain ⟨e, t, ht⟩ := hq
    unfold valueAt takenAt at ih ⊢
    by_cases hn : p.1 = n
    · have : q.1 = (n : Int) := by omega
      refine .inr ⟨p.2, t, ?_, ?_⟩
      · simp [List.find?_cons, this, ht]
      · simp [List.find?_cons, hn]
    · have : ¬ q.1 = (n : Int) := by omega
      simpa [List.find?_cons, hn, this] using ih
/-- the dict of who took a place -/
def TakenObj (w : World) (d : Addr) (od : Obj) (fp : List (Nat × Nat)) : Prop := (d == sysModules) = false ∧ ∃ ps, od.IsDictOf (intKind PySem.Challenge.rw_pb0229_01.row.prog w) ps ∧ PsOf ps fp
section
variable {w : World} {A : Around} {E Q : Value → Shared → Prop} {s : Shared} {h₀ : Heap} {L d : Addr} {news : List (Addr × Obj)} {od : Obj} {fp : List (Nat × Nat)} {n : Nat} {t : Tok}
theorem taken_method {pl : Sem Bool} {Q : Value × List Value → Shared → Prop} (N : News h₀ L s.heap news) (hp : (d, od) ∈ news) (hd : TakenObj w d od fp) (h : Q (.builtin "dict.get", [.ref d]) s) : wpAny (model PySem.Challenge.rw_pb0229_01.row.prog w) A (getMethod (.ref d) "get" pl) Q E s := by
  obtain ⟨lo, ps, hi, hps⟩ := hd
  exact kdg_method N hp hi h
theorem taken_get1 (N : News h₀ L s.heap news) (hp : (d, od) ∈ news) (hd : TakenObj w d od fp) (h0 : takenAt fp n = none → Q .none { s with toks := s.toks + 1 }) (h1 : ∀ j tj, takenAt fp n = some j → Q (.int (j : Nat) tj) { s with toks := s.toks + 1 }) :
    wpAny (model PySem.Challenge.rw_pb0229_01.row.prog w) A (call (.builtin "dict.get") [.ref d, .int n t]) Q E s := by
  obtain ⟨lo, ps, hi, hps⟩ := hd
  rcases valueAt_ps hps n with ⟨e1, e2⟩ | ⟨j, tj, e1, e2⟩
  · exact kdg_get1 N hp hi lo (intKind_is _ _ _ _) none e1 (h0 e2)
  · exact kdg_get1 N hp hi lo (intKind_is _ _ _ _) _ e1 (h1 j tj e2)
theorem taken_get2 {k : Int} {u : Tok} (N : News h₀ L s.heap news) (hp : (d, od) ∈ news) (hd : TakenObj w d od fp) (h0 : takenAt fp n = none → Q (.int k u) { s with toks := s.toks + 1 }) (h1 : ∀ j tj, takenAt fp n = some j → Q (.int (j : Nat) tj) { s with toks := s.toks + 1 }) :
    wpAny (model PySem.Challenge.rw_pb0229_01.row.prog w) A (call (.builtin "dict.get") [.ref d, .int n t, .int k u]) Q E s := by
  obtain ⟨lo, ps, hi, hps⟩ := hd
  rcases valueAt_ps hps n with ⟨e1, e2⟩ | ⟨j, tj, e1, e2⟩
  · exact kdg_get2 N hp hi lo (intKind_is _ _ _ _) none e1 (h0 e2)
  · exact kdg_get2 N hp hi lo (intKind_is _ _ _ _) _ e1 (h1 j tj e2)
theorem taken_in (N : News h₀ L s.heap news) (hp : (d, od) ∈ news) (hd : TakenObj w d od fp) (h : Q (.bool (takenAt fp n).isSome) { s with toks := s.toks + 1 }) :
    wpAny (model PySem.Challenge.rw_pb0229_01.row.prog w) A (compareOp .In (.int n t) (.ref d)) Q E s := by
  obtain ⟨lo, ps, hi, hps⟩ := hd
  refine kda_in N hp hi lo (intKind_is _ _ _ _) _ ?_ h
  rcases valueAt_ps hps n with ⟨e1, e2⟩ | ⟨j, tj, e1, e2⟩ <;> rw [e1, e2] <;> rfl
theorem taken_in_some {j : Nat} (N : News h₀ L s.heap news) (hp : (d, od) ∈ news) (hd : TakenObj w d od fp) (hj : takenAt fp n = some j) (h : Q (.bool true) { s with toks := s.toks + 1 }) :
    wpAny (model PySem.Challenge.rw_pb0229_01.row.prog w) A (compareOp .In (.int n t) (.ref d)) Q E s := taken_in N hp hd (by rw [hj]; exact h)
theorem taken_in_none (N : News h₀ L s.heap news) (hp : (d, od) ∈ news) (hd : TakenObj w d od fp) (hj : takenAt fp n = none) (h : Q (.bool false) { s with toks := s.toks + 1 }) :
    wpAny (model PySem.Challenge.rw_pb0229_01.row.prog w) A (compareOp .In (.int n t) (.ref d)) Q E s := taken_in N hp hd (by rw [hj]; exact h)
theorem taken_item {value slice : PySem.Expr} {j : Nat} (N : News h₀ L s.heap news) (hp : (d, od) ∈ news) (hd : TakenObj w d od fp) (hj : takenAt fp n = some j) (h : ∀ tj, Q (.int (j : Nat) tj) { s with toks := s.toks + 1 })
    (hs : subscripted slice false (.ref d) (.int n t) = operate [.ref d, .int n t] (getItem (.ref d) (.int n t)) := by with_unfolding_all rfl) (hg : ∀ r, letTemporaryGo value (.ref d) r = pure () := by intro _; with_unfolding_all rfl) :
    wpAny (model PySem.Challenge.rw_pb0229_01.row.prog w) A (subscriptTail value slice (.ref d) (.int n t)) Q E s := by
  obtain ⟨lo, ps, hi, hps⟩ := hd
  rcases valueAt_ps hps n with ⟨e1, e2⟩ | ⟨j', tj, e1, e2⟩
  · rw [e2] at hj; cases hj
  · rw [e2] at hj
    cases hj
    exact kda_item N hp hi (intKind_is _ _ _ _) e1 (h tj) hs hg
end

end SDB
section SEA
variable {w : World} {A : Around} {E Q : Value → Shared → Prop} {s : Shared} {H : Heap}

/-- the end of a test in a block: the word, the frame, the ledger -/
def FilterPost (h₀ : Heap) (L : Addr) (m : Str → Option Value) (s₁ : Shared) (led : List (Addr × Obj)) (b : Bool) (ok : Bool) (s₂ : Shared) : Prop :=
  ok = b ∧ ∃ h' tk', s₂ = { s₁ with heap := h', toks := tk' } ∧ Fr h₀ L h' m ∧ News h₀ L h' led
theorem FilterPost.intro {h₀ : Heap} {L : Addr} {m : Str → Option Value} {s₁ : Shared} {led : List (Addr × Obj)} {b ok : Bool} {h' : Heap} {tk' : Nat} (F : Fr h₀ L h' m) (N : News h₀ L h' led) (e : ok = b) :
    FilterPost h₀ L m s₁ led b ok { s₁ with heap := h', toks := tk' } := ⟨e, h', tk', rfl, F, N⟩
theorem filter_step {xs : List Nat} {i n : Nat} {p : Nat → Bool} (h : xs[i]? = some n) : (xs.take (i + 1)).filter p = (xs.take i).filter p ++ (if p n = true then [n] else []) := by
  rw [List.take_add_one, h, Option.toList_some, List.filter_append]
  congr 1
  by_cases hp : p n = true <;> simp [hp]
theorem comp_filter {h₀ : Heap} {L ax : Addr} {m : Str → Option Value} {env : Env} {ct : PySem.Expr} {x : Str} {px : Pos} {scope : Scope} {cl : List (Str × Addr)} {Fin : List Value → List (Addr × Obj) → Prop}
    (led : List (Addr × Obj)) (xs : List Nat) (p : Nat → Bool) (vs : List Value) {k : Nat} (hv : IntsOf vs xs) (hm : (ax, ({ cls := .type "list", data := .seq vs.toArray k } : Obj)) ∈ led)
    (turn : ∀ (i n : Nat) (t : Tok) J oJ C oC D m₂ h tk ys (E' : Value → Shared → Prop), xs[i]? = some n → LCg.NsObj oC m₂ → m₂ x = some (.int (n : Nat) t) → Fr h₀ L h m → News h₀ L h ((J, oJ) :: (C, oC) :: (D, LCg.lst ys) :: led) → LCg.Off3 J C D led → ((@Ne Nat J C) ∧ (@Ne Nat J D) ∧ (@Ne Nat C D)) →
      wpAny (model PySem.Challenge.rw_pb0229_01.row.prog w) A (isTrue ct (compEnvC scope cl C env) (eval ct (compEnvC scope cl C env))) (FilterPost h₀ L m { s with heap := h, toks := tk } ((J, oJ) :: (C, oC) :: (D, LCg.lst ys) :: led) (p n)) E' { s with heap := h, toks := tk })
    (fin : ∀ ys, IntsOf ys (xs.filter p) → Fin ys led)
    (hk : ∀ C, (compEnvC scope cl C env).scope.kind = .function) (hl : ∀ C, (compEnvC scope cl C env).kindOf x = some .local) (hd : (x == ("__debug__" : Str)) = false) :
    ∀ k i ys, i + k = xs.length → IntsOf ys ((xs.take i).filter p) → LCt.CompRestT PySem.Challenge.rw_pb0229_01.row.prog w A h₀ L m env ct (.Name x px) x scope cl s (LCg.SrcAt h₀ ax vs.toArray) (fun i v => vs.toArray[i]? = some v) Fin k i ys led
  | 0, i, ys, e, hI => by
    obtain rfl : i = xs.length := by omega
    rw [List.take_length] at hI
    exact fin ys hI
  | k + 1, i, ys, e, hI => fun v J oJ C oC D m₂ h tk E' hP hC hx F N off ne => by
    obtain ⟨n, t, hn, rfl⟩ := intsOf_get hv (by simpa using hP)
    refine wpAny_mono (turn i n t J oJ C oC D m₂ h tk ys E' hn hC hx F N off ne) (fun ok s₂ q => ?_) fun _ _ e => e
    obtain ⟨rfl, h', tk', rfl, F', N'⟩ := q
    have hf := filter_step (p := p) hn
    cases hpn : p n with
    | true =>
      rw [if_pos rfl]
      rw [hpn, if_pos rfl] at hf
      refine LCgL.ld_own N' (.tail _ (.head _)) hC hx ?_ (hk C) (hl C) hd
      exact LCg.CompEnd.intro F' N' led (fun q hq => hq) off (.inr ⟨_, hm, rfl, _, rfl⟩) (comp_filter led xs p vs hv hm turn fin hk hl hd k (i + 1) _ (by omega) (hf ▸ intsOf_snoc hI))
    | false =>
      rw [if_neg (by simp)]
      rw [hpn, if_neg (by simp), List.append_nil] at hf
      exact LCg.CompEnd.intro F' N' led (fun q hq => hq) off (.inr ⟨_, hm, rfl, _, rfl⟩) (comp_filter led xs p vs hv hm turn fin hk hl hd k (i + 1) _ (by omega) (hf ▸ hI))

def FoundAt (D : List (Addr × Obj)) (vs : List Value) (fp : List (Nat × Nat)) : Prop := All2 (fun (v : Value) (p : Nat × Nat) => ∃ (a : Addr) (t1 t2 : Tok), v = .ref a ∧ (a, tupO [.int p.1 t1, .int p.2 t2]) ∈ D) vs fp
theorem FoundAt.sub {D D' : List (Addr × Obj)} {vs : List Value} {fp : List (Nat × Nat)} (h : FoundAt D vs fp) (hs : ∀ p ∈ D, p ∈ D') : FoundAt D' vs fp := All2.mono h fun _ _ ⟨a, t1, t2, e, hm⟩ => ⟨a, t1, t2, e, hs _ hm⟩
theorem pairs_of {h : Heap} {D : List (Addr × Obj)} (hD : ∀ p ∈ D, h.get? p.1 = some p.2) {vs : List Value} {fp : List (Nat × Nat)} (hf : FoundAt D vs fp) : ∃ ps, PairsAt h vs ps ∧ PsOf ps fp := by
  induction hf with
  | nil => exact ⟨[], .nil, .nil⟩
  | @cons v p _ _ hv _ ih =>
    obtain ⟨ps, h1, h2⟩ := ih
    obtain ⟨a, t1, t2, e, hm⟩ := hv
    exact ⟨((p.1 : Int), .int p.2 t2) :: ps, .cons ⟨a, t1, e, hD _ hm⟩ h1, .cons ⟨rfl, t2, rfl⟩ h2⟩
theorem ps_keys {ps : List (Int × Value)} {fp : List (Nat × Nat)} (h : PsOf ps fp) : ps.map (·.1) = fp.map fun p => ((p.1 : Nat) : Int) := by
  induction h with
  | nil => rfl
  | cons h _ ih => simp only [List.map_cons, ih, h.1]
theorem nodup_cast {fp : List (Nat × Nat)} (h : (fp.map (·.1)).Nodup) : (fp.map fun p => ((p.1 : Nat) : Int)).Nodup := by
  have h2 : List.Pairwise (· ≠ ·) ((fp.map (·.1)).map fun (n : Nat) => (n : Int)) := by
    rw [List.pairwise_map]
    exact h.imp fun hab e => hab (by omega)
  rwa [List.map_map] at h2
theorem dict_taken {h₀ : Heap} {L fl : Addr} {m : Str → Option Value} {news : List (Addr × Obj)} {fvs : List Value} {ep : Nat} {fp : List (Nat × Nat)} (F : Fr h₀ L s.heap m) (N : News h₀ L s.heap news) (hbig : h₀.NoLimit) (hh : A.handled = none)
    (hm : (fl, listO fvs ep) ∈ news) (hf : FoundAt news fvs fp) (hsz : fvs.length < 100000) (hnd : (fp.map (·.1)).Nodup)
    (h : ∀ d od h' tk', Fr h₀ L h' m → News h₀ L h' ((d, od) :: news) → TakenObj w d od fp → (∀ p ∈ news, p.1 < d) → Q (.ref d) { s with heap := h', toks := tk' }) :
    wpAny (model PySem.Challenge.rw_pb0229_01.row.prog w) A (call (.type "dict") [.ref fl]) Q E s := by
  obtain ⟨ps, h1, h2⟩ := pairs_of (fun p hp => (N p hp).1) hf
  refine dict_pairs hh hsz (by rw [ps_keys h2]; exact nodup_cast hnd) (N.get hm) h1 fun h' tk' hd hs => ?_
  obtain ⟨od, hod, hdi⟩ := Heap.dictOf_iff.mp hd
  refine h _ od h' tk' (F.after hs) (news_add F ⟨hod, ?_⟩ (N.grown hs)) ⟨F.notModules (modules_low hbig), ps, hdi, h2⟩ fun p hp => Heap.lt_size (N p hp).1
  cases q : s.heap.get? s.heap.objs.size with
  | none => rfl
  | some o => exact absurd (Heap.lt_size q) (Nat.lt_irrefl _)

/-- a map of known names, and the rest -/
def kn (ks : List (Str × Value)) (u : Str → Option Value) (y : Str) : Option Value := match ks.lookup y with
  | some v => some v
  | none => u y
theorem kn_self {ks : List (Str × Value)} {m : Str → Option Value} {z : Str} (h : ∀ q ∈ ks, m q.1 = some q.2) : m z = kn ks m z := by
  unfold kn
  cases q : ks.lookup z with
  | none => rfl
  | some v =>
    have : (z, v) ∈ ks := by
      induction ks with
      | nil => simp at q
      | cons a r ih =>
        rw [List.lookup_cons] at q
        by_cases e : z = a.1
        · subst e
          simp at q
          subst q
          exact .head _
        · rw [beq_eq_false_iff_ne.mpr e] at q
          exact .tail _ (ih (fun q hq => h q (.tail _ hq)) q)
    exact h _ this

theorem comp_keys {h₀ : Heap} {L ax : Addr} {m : Str → Option Value} {env : Env} {x x₂ : Str} {px : Pos} {scope : Scope} {cl : List (Str × Addr)} {Fin : List Value → List (Addr × Obj) → Prop}
    (led : List (Addr × Obj)) (fp : List (Nat × Nat)) (vs : List Value) {k : Nat} (hf : FoundAt led vs fp) (hm : (ax, ({ cls := .type "list", data := .seq vs.toArray k } : Obj)) ∈ led)
    (fin : ∀ ys, IntsOf ys (fp.map (·.1)) → Fin ys led)
    (hk : ∀ C, (compEnvC scope cl C env).scope.kind = .function) (hl : ∀ C, (compEnvC scope cl C env).kindOf x = some .local) (hd : (x == ("__debug__" : Str)) = false) :
    ∀ k i ys, i + k = fp.length → IntsOf ys ((fp.take i).map (·.1)) → LCp.CompRestP PySem.Challenge.rw_pb0229_01.row.prog w A h₀ L m env (.Name x px) x x₂ scope cl s (LCg.SrcAt h₀ ax vs.toArray) (fun i v => vs.toArray[i]? = some v) Fin k i ys led
  | 0, i, ys, e, hI => by
    obtain rfl : i = fp.length := by omega
    rw [List.take_length] at hI
    exact fin ys hI
  | k + 1, i, ys, e, hI => fun v hP => by
    obtain ⟨p, hp, a, t1, t2, rfl, ha⟩ := hf.getL (by simpa using hP)
    refine ⟨a, _, _, _, _, rfl, ha, rfl, rfl, fun J oJ C oC D m₂ h tk E' hC hx hx2 F N off ne => ?_⟩
    refine LCgL.ld_own N (.tail _ (.head _)) hC hx ?_ (hk C) (hl C) hd
    refine LCg.CompEnd.intro F N led (fun q hq => hq) off (.inr ⟨_, hm, rfl, _, rfl⟩) (comp_keys led fp vs hf hm fin hk hl hd k (i + 1) _ (by omega) ?_)
    rw [List.take_add_one, hp, Option.toList_some, List.map_append]
    exact intsOf_snoc hI

theorem list_to {h₀ : Heap} {L l : Addr} {m : Str → Option Value} {news : List (Addr × Obj)} {vs : List Value} {ep : Nat} {hi : Int} {t2 : Tok} {value slice : PySem.Expr} (hF : Fr h₀ L s.heap m) (hN : News h₀ L s.heap news) (hm : (l, listO vs ep) ∈ news) (h0 : 0 ≤ hi) (hz : vs.length ≤ 16777216)
    (h : ∀ D h', Fr h₀ L h' m → News h₀ L h' ((D, listO (vs.take hi.toNat) 0) :: news) → (∀ p ∈ news, p.1 < D) → Q (.ref D) { s with heap := h' })
    (hs : subscripted slice false (.ref l) (.ref s.heap.objs.size) = operate [.ref s.heap.objs.size, .ref l] (getItem (.ref l) (.ref s.heap.objs.size)) := by with_unfolding_all rfl)
    (ht : ∀ r, letTemporaryGo value (.ref l) r = pure () := by intro _; with_unfolding_all rfl) :
    wpAny (model PySem.Challenge.rw_pb0229_01.row.prog w) A (subscriptTail value slice (.ref l) (.ref s.heap.objs.size)) Q E { s with heap := s.heap.push { cls := .type "slice", data := .fields #[.none, .int hi t2, .none] } } := by
  refine kmk_slice hF hN (News.isList hN hm) .none (.int hi t2) (fun D h' F N l1 => h D h' F ?_ l1) hs ht (by simp; exact Nat.le_trans hz (by unfold sizeLine; omega))
  obtain ⟨n, rfl⟩ := Int.eq_ofNat_of_zero_le h0
  rw [slicePick_upto'] at N
  exact N

theorem intsOf_take {vs : List Value} {xs : List Nat} (h : IntsOf vs xs) (k : Nat) : IntsOf (vs.take k) (xs.take k) := by
  unfold IntsOf at h ⊢
  rw [List.map_take]
  have : ∀ {vs : List Value} {ys : List Int}, IntsAre vs ys → ∀ k, IntsAre (vs.take k) (ys.take k) := fun h => by
    induction h with
    | nil => intro k; simp; exact .nil
    | cons n t _ ih =>
      intro k
      cases k with
      | zero => exact .nil
      | succ k => exact .cons n t (ih k)
  exact this h k

end SEA
section SEB
end SEB
local macro_rules | `(tactic| k_mem) => `(tactic| assumption)
section SEB
end SEB
local macro_rules | `(tactic| k_all) => `(tactic| assumption)
section SEB
end SEB
local macro_rules | `(tactic| walk_at "compareOp In") => `(tactic| (k_here; (with_reducible show wpAny _ _ (compareOp CmpOp.In (Value.int _ _) (Value.ref _)) _ _ _); (with_reducible rename News _ _ _ _ => lN); (first | refine in_list_ints (News.isList lN (by k_mem)) (by assumption) ?_ | refine taken_in_some lN (by k_mem) (by assumption) (by assumption) ?_ | refine taken_in_none lN (by k_mem) (by assumption) (by assumption) ?_ | refine taken_in lN (by k_mem) (by assumption) ?_)))
section SEB
end SEB
local macro_rules | `(tactic| walk_at "compareOp In int ref") => `(tactic| (k_here; (with_reducible rename News _ _ _ _ => lN); (first | refine in_list_ints (News.isList lN (by k_mem)) (by assumption) ?_ | refine taken_in_some lN (by k_mem) (by assumption) (by assumption) ?_ | refine taken_in_none lN (by k_mem) (by assumption) (by assumption) ?_ | refine taken_in lN (by k_mem) (by assumption) ?_)))
section SEB
end SEB
local macro_rules | `(tactic| walk_at "subscriptTail") => `(tactic| (k_here; (with_reducible show wpAny _ _ (subscriptTail _ _ (Value.ref _) (Value.int _ _)) _ _ _); (with_reducible rename News _ _ _ _ => lN); (first | (refine taken_item lN (by k_mem) (by assumption) (by assumption) ?_; intro _) | refine item_at lN (by k_mem) (by omega) (by assumption) (by omega) ?_)))
section SEB
end SEB
local macro_rules | `(tactic| walk_at "call type:dict") => `(tactic| (k_here; (with_reducible show wpAny _ _ (call (Value.type "dict") [Value.ref _]) _ _ _); (with_reducible rename Fr _ _ _ _ => lF); (with_reducible rename News _ _ _ _ => lN); refine dict_taken lF lN (Top.nolimit (by assumption)) (by rfl) (by k_mem) (FoundAt.sub (by assumption) (by intro p hp; repeat (first | exact hp | assumption | refine List.Mem.tail _ ?_))) (by omega) (by assumption) ?_; intro d' od' h' tk' F' N' hT' lt'; (try k_lt lt'); (try k_sweep)))
section SEB
end SEB
local macro_rules | `(tactic| walk_at "getMethod ref") => `(tactic| (k_here; (with_reducible show wpAny _ _ (getMethod (Value.ref _) (PySem.Str.ofString "get") _) _ _ _); (with_reducible rename News _ _ _ _ => lN); refine taken_method lN (by k_mem) (by assumption) ?_))
section SEB
end SEB
local macro_rules | `(tactic| walk_at "call builtin:dict.get") => `(tactic| (k_here; (show wpAny _ _ (call (Value.builtin "dict.get") (_ :: _)) _ _ _); (with_reducible rename News _ _ _ _ => lN); (first | refine taken_get1 lN (by k_mem) (by assumption) ?_ ?_ | refine taken_get2 lN (by k_mem) (by assumption) ?_ ?_) <;> intros))
section SEB
end SEB
local macro_rules | `(tactic| walk_at "call ref") => `(tactic| (k_here; (with_reducible show wpAny _ _ (call (Value.ref 193) _) _ _ _); (show wpAny _ _ (call _ [Value.ref _]) _ _ _); (with_reducible rename Fr _ _ _ _ => lF); (with_reducible rename News _ _ _ _ => lN); (with_reducible rename Fine _ _ _ => lG); k_dflt (refine' law_size_spec (Fine.after lG lF.keep) ?a9 (fun p hp => led lG lN hp) ?m9 ?w9 ?_; (case a9 => (first | omega | (simp only [depth_deeper, depth_in1] at *; omega) | (show _ < _; dsimp only [Around.deeper, Around.in1, Around.under, Around.mark]; omega))); (case m9 => k_mem); (case w9 => first | assumption | omega); k_whole); intro t' tk' h' hs'; (have F' := Fr.after lF hs'); (have N' := News.grown lN hs'); (try k_sweep)))
section SEB
variable {w : World} {A : Around} {E Q : Value → Shared → Prop} {s : Shared} {H : Heap}

/-- the step of the stood places -/
def stepAt (rows : List Row) (fp : List (Nat × Nat)) (n : Nat) : Nat := match takenAt fp n with
  | some j => ((rows[j]?).map Row.size).getD 1
  | none => 1
/-- the stood places and the place where they end -/
def stoodGo (sz : Nat) (step : Nat → Nat) : Nat → Nat → List Nat × Nat
  | 0, n => ([], n)
  | k + 1, n => if n < sz then (n :: (stoodGo sz step k (n + step n)).1, (stoodGo sz step k (n + step n)).2) else ([], n)
def lawStood (o : Array UInt8) (rows : List Row) (fp : List (Nat × Nat)) : Option (List Nat) :=
  let r := stoodGo o.size (stepAt rows fp) o.size 0
  if r.2 = o.size ∧ fp.map (·.1) = r.1.filter (fun n => (takenAt fp n).isSome) then some r.1 else none

structure StS where
  n : Nat
  tA : Tok
  ws : List Value
  l : List Nat
  k : Nat
  u : Str → Option Value
def stKn (o : Array UInt8) (to : Tok) (rl fl sl : Addr) (n : Nat) (tA : Tok) : List (Str × Value) := [(Str.ofString "at", .int n tA), (Str.ofString "stood", .ref sl), (Str.ofString "found", .ref fl), (Str.ofString "rows", .ref rl), (Str.ofString "octets", .bytes o to)]
theorem stKn_of {o : Array UInt8} {to : Tok} {rl fl sl : Addr} {n : Nat} {tA : Tok} {m : Str → Option Value} (h1 : m (Str.ofString "at") = some (.int n tA)) (h2 : m (Str.ofString "stood") = some (.ref sl)) (h3 : m (Str.ofString "found") = some (.ref fl)) (h4 : m (Str.ofString "rows") = some (.ref rl)) (h5 : m (Str.ofString "octets") = some (.bytes o to)) :
    ∀ q ∈ stKn o to rl fl sl n tA, m q.1 = some q.2 := by
  intro q hq
  simp only [stKn, List.mem_cons, List.not_mem_nil, or_false] at hq
  rcases hq with rfl | rfl | rfl | rfl | rfl <;> assumption
theorem st_start {g h : Heap} {L : Addr} {o : Array UInt8} {to : Tok} {rl fl sl : Addr} {n : Nat} {tA : Tok} {m : Str → Option Value} (F : Fr g L h m) (h1 : m (Str.ofString "at") = some (.int n tA)) (h2 : m (Str.ofString "stood") = some (.ref sl)) (h3 : m (Str.ofString "found") = some (.ref fl)) (h4 : m (Str.ofString "rows") = some (.ref rl)) (h5 : m (Str.ofString "octets") = some (.bytes o to)) :
    ∃ m0, Fr g L h m0 ∧ ∀ q ∈ stKn o to rl fl sl n tA, m0 q.1 = some q.2 := ⟨m, F, stKn_of h1 h2 h3 h4 h5⟩
structure StI (sz : Nat) (step : Nat → Nat) (c : StS) : Prop where
  nums : IntsOf c.ws c.l
  few : c.ws.length ≤ c.n
  room : sz ≤ c.n + c.k
  go1 : c.l ++ (stoodGo sz step c.k c.n).1 = (stoodGo sz step sz 0).1
  go2 : (stoodGo sz step c.k c.n).2 = (stoodGo sz step sz 0).2
theorem allLt_mem {d : Addr} : ∀ {l : List (Addr × Obj)}, AllLt d l → ∀ p ∈ l, p.1 < d
  | [], _, _, h => nomatch h
  | _ :: _, x, p, h => by
    rcases List.mem_cons.mp h with rfl | h
    · exact x.1
    · exact allLt_mem x.2 p h
theorem ne_three {d c sl : Addr} {od oc : Obj} {D : List (Addr × Obj)} (h : d < sl ∧ c < sl ∧ AllLt sl D) : ∀ p ∈ (d, od) :: (c, oc) :: D, p.1 ≠ sl := fun p hp => by
  rcases List.mem_cons.mp hp with rfl | hp
  · exact Nat.ne_of_lt h.1
  rcases List.mem_cons.mp hp with rfl | hp
  · exact Nat.ne_of_lt h.2.1
  · exact Nat.ne_of_lt (allLt_mem h.2.2 p hp)
theorem stoodGo_succ (sz : Nat) (step : Nat → Nat) (k n : Nat) (h : n < sz) : stoodGo sz step (k + 1) n = (n :: (stoodGo sz step k (n + step n)).1, (stoodGo sz step k (n + step n)).2) := by
  rw [stoodGo, if_pos h]
theorem st_end {o : Array UInt8} {to : Tok} {rl fl sl L : Addr} {base : List (Addr × Obj)} {g h' : Heap} {tk μ k n n2 : Nat} {step : Nat → Nat} {s₁ : Shared} {m' : Str → Option Value} {Q : Flow → Shared → Prop} {ws : List Value} {l : List Nat} {u : Str → Option Value} {tA : Tok} (tn : Tok)
    (I : StI o.size step ⟨n, tA, ws, l, k, u⟩) (hn : n < o.size) (hs : 0 < step n) (e2 : n2 = n + step n)
    (F : Fr g L h' m') {t2 : Tok} (p1 : m' (Str.ofString "at") = some (.int n2 t2)) (p2 : m' (Str.ofString "stood") = some (.ref sl)) (p3 : m' (Str.ofString "found") = some (.ref fl)) (p4 : m' (Str.ofString "rows") = some (.ref rl)) (p5 : m' (Str.ofString "octets") = some (.bytes o to))
    (N : News g L h' ((sl, listO (ws ++ [.int n tn]) (ws.length + 1)) :: base)) (hμ : μ = o.size - n) :
    WhPost (fun (c : StS) => kn (stKn o to rl fl sl c.n c.tA) c.u) (fun (c : StS) => (sl, listO c.ws c.ws.length) :: base) (StI o.size step) (fun c => o.size - c.n) μ g L s₁ Q .next { s₁ with heap := h', toks := tk } := by
  have h1 := stKn_of p1 p2 p3 p4 p5
  subst hμ e2
  obtain ⟨kk, hk⟩ : ∃ kk, k = kk + 1 := ⟨k - 1, by have := I.room; dsimp only at this; omega⟩
  subst hk
  have g1 := I.go1
  have g2 := I.go2
  have i0 := I.nums
  have i1 := I.few
  have i2 := I.room
  dsimp only at g1 g2 i0 i1 i2
  rw [stoodGo_succ _ _ _ _ hn] at g1 g2
  refine ⟨⟨n + step n, t2, ws ++ [.int n tn], l ++ [n], kk, m'⟩, h', tk, m', rfl, F, fun z => kn_self h1, ?_, ⟨intsOf_snoc i0, ?_, ?_, ?_, g2⟩, ?_⟩
  · dsimp only
    rw [List.length_append, List.length_singleton]
    exact N
  · show (ws ++ [Value.int n tn]).length ≤ n + step n
    rw [List.length_append, List.length_singleton]
    omega
  · show o.size ≤ n + step n + kk
    omega
  · show (l ++ [n]) ++ (stoodGo o.size step kk (n + step n)).1 = _
    rw [List.append_assoc]
    exact g1
  · show o.size - (n + step n) < o.size - n
    omega

theorem law_stood_spec {o : Array UInt8} {to : Tok} {rl fl : Addr} {ep fep : Nat} {vs fvs : List Value} {rows : List Row} {fp : List (Nat × Nat)} {D : List (Addr × Obj)} (G : Fine w H s.heap) (hA : A.depth < 650) (hU : A.units < 5000) (hh : A.handled = none) (ho : o.size < 1000)
    (hD : ∀ p ∈ D, s.heap.get? p.1 = some p.2 ∧ H.get? p.1 = none) (hr : (rl, listO vs ep) ∈ D) (hrows : RowsAt D vs rows) (hok : ∀ r ∈ rows, okRow r) (hn : rows.length < 1000)
    (hf : (fl, listO fvs fep) ∈ D) (hfo : FoundAt D fvs fp) (hfl : fvs.length < 1000) (hnd : (fp.map (·.1)).Nodup) (hin : ∀ p ∈ fp, p.2 < rows.length)
    (hQ0 : lawStood o rows fp = none → ∀ tk' h', Sub s.heap h' → Q .none { s with heap := h', toks := tk' })
    (hQ1 : ∀ l sl ws tk' h', lawStood o rows fp = some l → Sub s.heap h' → (h'.get? sl = some (listO ws ws.length) ∧ s.heap.get? sl = none) → IntsOf ws l → Q (.ref sl) { s with heap := h', toks := tk' }) :
    wpAny (model PySem.Challenge.rw_pb0229_01.row.prog w) A (call (.ref 198) [.bytes o to, .ref rl, .ref fl]) Q E s := by
  w_on
  obtain ⟨hd9, dp9, fr9, gs9, un9⟩ := A
  dsimp only at hA
  obtain rfl : hd9 = none := hh
  have X0 := G.X; revert X0; k_fill; intro X0; clear X0
  k_dflt (refine' enterX (binds := [(Str.ofString "octets", .bytes o to), (Str.ofString "rows", .ref rl), (Str.ofString "found", .ref fl)]) G D ?kadr ?k6 ?k7 ?k8 ?k9 ?kB ?kD ?_ ?c2 ?c3 ?c4; (case k6 => k_is); (case k7 => k_is); (case k8 => (simp only [recursionLimit]; omega)); (case k9 => exact BindsTo.of_eq rfl); (case kB => exact rfl); (case kD => decide +kernel); (case c2 => exact rfl); (case c3 => exact rfl); (case c4 => exact rfl); (case kadr => exact hD); intro g L' h₁ tk₁ cells' loose mean mg mb kBut FG X' T' F' N' Y' lt' kOut; (repeat (first | (have hY' := cells_nil Y'; subst hY'; clear Y') | (obtain ⟨_, _, hE', _, Y9⟩ := cells_cons Y'; subst hE'; clear Y'; (rename CellsAre _ _ _ => Y')))); (try simp only [List.cons_append, List.nil_append] at N'); (try dsimp only); (try k_fold))
  replace F' : Fr g L' h₁ (fun y => if y = Str.ofString "found" then some (.ref fl) else if y = Str.ofString "rows" then some (.ref rl) else if y = Str.ofString "octets" then some (.bytes o to) else none) := F'
  have hD1 : ∀ p ∈ D, p.1 ≠ L' + 1 := fun p hp => Nat.ne_of_lt (Nat.lt_succ_of_lt (lt' p hp))
  repeat' (first | ((with_reducible show wpAny _ _ (exec (Stmt.Raise _ _ _) _) _ _ _); exfalso; omega) | (k_unfold; (try dsimp only)) | (k_end; wrow_close) | ((fail_if_success (with_reducible show wpAny _ _ (pyIter _) _ _ _)); (fail_if_success (with_reducible show wpAny _ _ (exec (Stmt.While _ _ _ _) _) _ _ _)); first | walk1 | (dsimp only; walk1) | (dsimp only [leadV, wantedV, optV, Kind.str]; walk1)) | (leave1; walk_say "STEP leave1"; try dsimp only))
  with_reducible rename Fr _ _ _ _ => F9
  with_reducible rename News _ _ _ _ => N9
  rename TakenObj _ _ _ _ => hT
  rename _ = Data.cell (some _) => hcell
  obtain ⟨d, od, oc, sl, tA, ⟨m0, F9, hm0⟩, N9, hT, hcell, hsl⟩ : ∃ (d : Addr) (od oc : Obj) (sl : Addr) (tA : Tok), (∃ m0, Fr g L' _ m0 ∧ (∀ q ∈ stKn o to rl fl sl 0 tA, m0 q.1 = some q.2)) ∧ News g L' _ ((sl, listO [] 0) :: (d, od) :: (L' + 1, oc) :: D) ∧ TakenObj w d od fp ∧ oc.data = Data.cell (some (.ref d)) ∧ (∀ p ∈ (d, od) :: (L' + 1, oc) :: D, p.1 ≠ sl) :=
    ⟨_, _, _, _, _, st_start F9 rfl rfl rfl rfl rfl, kst_newsOf N9 (fun p hp => .tail _ hp), hT, hcell, ne_three (by assumption)⟩
  have hsp : ∀ n, 0 < stepAt rows fp n := fun n => by
    unfold stepAt
    split
    · rename_i j _
      cases e : rows[j]? with
      | none => simp
      | some r =>
        have := (hok r (List.mem_of_getElem? e)).1.1
        show 0 < r.size
        unfold Row.size
        split <;> omega
    · omega
  refine while_led (fun (c : StS) => kn (stKn o to rl fl sl c.n c.tA) c.u) (fun (c : StS) => (sl, listO c.ws c.ws.length) :: (d, od) :: (L' + 1, oc) :: D) (StI o.size (stepAt rows fp)) (fun c => o.size - c.n) ⟨0, tA, [], [], o.size, m0⟩ F9 N9 ?_ rfl ⟨.nil, Nat.le_refl _, by show o.size ≤ 0 + o.size; omega, rfl, rfl⟩ ?_
  · intro z
    exact kn_self hm0
  · rintro ⟨n, tA', ws, l, k, u⟩ h tk hI F' N'
    clear F9 N9
    dsimp only at F' N'
    k_unmd
    (try k_fold)
    have hfew := hI.few
    dsimp only at hfew
    by_cases hlt : n < o.size
    · cases htk : takenAt fp n with
      | none =>
        repeat' (first | ((with_reducible show wpAny _ _ (exec (Stmt.Raise _ _ _) _) _ _ _); exfalso; omega) | (k_unfold; (try dsimp only)) | (k_end; wrow_close) | ((fail_if_success (with_reducible show wpAny _ _ (pyIter _) _ _ _)); (fail_if_success (with_reducible show wpAny _ _ (PySem.eval (Expr.ListComp _ _ _ _) _) _ _ _)); (fail_if_success (with_reducible show wpAny _ _ (PySem.exec (Stmt.Assign _ (Expr.ListComp _ _ _ _) _) _) _ _ _)); (fail_if_success (with_reducible show wpAny _ _ (isTrue (Expr.Compare (Expr.ListComp _ _ _ _) _ _ _) _ _) _ _ _)); (fail_if_success (with_reducible show wpAny _ _ (exec (Stmt.While _ _ _ _) _) _ _ _)); first | walk1 | (dsimp only; walk1) | (dsimp only [leadV, wantedV, optV, Kind.str]; walk1)) | (leave1; walk_say "STEP leave1"; try dsimp only))
        with_reducible rename Fr _ _ _ _ => F9
        with_reducible rename News _ _ _ _ => N9
        have hs1 : stepAt rows fp n = 1 := by unfold stepAt; rw [htk]
        exact st_end tA' hI hlt (hsp n) (by rw [hs1]) F9 rfl rfl rfl rfl rfl N9 rfl
      | some j =>
        have htk2 : (j < rows.length) := by
          unfold takenAt at htk
          obtain ⟨p, hp, rfl⟩ := Option.map_eq_some_iff.mp htk
          exact hin p (List.mem_of_find?_eq_some hp)
        obtain ⟨v, hv, a, t1, t2, t3, t4, rfl, ha⟩ := hrows.get (List.getElem?_eq_getElem htk2)
        have hv2 : vs[((j : Nat) : Int).toNat]? = some (.ref a) := by simpa using hv
        have hw : rows[j].wn.size < 1000 := (hok _ (List.getElem_mem htk2)).1.2
        repeat' (first | ((with_reducible show wpAny _ _ (exec (Stmt.Raise _ _ _) _) _ _ _); exfalso; omega) | (k_unfold; (try dsimp only)) | (k_end; wrow_close) | ((fail_if_success (with_reducible show wpAny _ _ (pyIter _) _ _ _)); (fail_if_success (with_reducible show wpAny _ _ (PySem.eval (Expr.ListComp _ _ _ _) _) _ _ _)); (fail_if_success (with_reducible show wpAny _ _ (PySem.exec (Stmt.Assign _ (Expr.ListComp _ _ _ _) _) _) _ _ _)); (fail_if_success (with_reducible show wpAny _ _ (isTrue (Expr.Compare (Expr.ListComp _ _ _ _) _ _ _) _ _) _ _ _)); (fail_if_success (with_reducible show wpAny _ _ (exec (Stmt.While _ _ _ _) _) _ _ _)); first | walk1 | (dsimp only; walk1) | (dsimp only [leadV, wantedV, optV, Kind.str]; walk1)) | (leave1; walk_say "STEP leave1"; try dsimp only))
        with_reducible rename Fr _ _ _ _ => F9
        with_reducible rename News _ _ _ _ => N9
        have hs1 : stepAt rows fp n = rows[j].size := by unfold stepAt; rw [htk]; simp [htk2]
        exact st_end tA' hI hlt (hsp n) (by rw [hs1]) F9 rfl rfl rfl rfl rfl N9 rfl
    · have hsz : (stoodGo o.size (stepAt rows fp) k n).1 = [] ∧ (stoodGo o.size (stepAt rows fp) k n).2 = n := by
        cases k <;> simp [stoodGo, hlt]
      have g1 := hI.go1
      have g2 := hI.go2
      have hl := hI.nums
      dsimp only at g1 g2 hl
      rw [hsz.1, List.append_nil] at g1
      rw [hsz.2] at g2
      repeat' (first | ((with_reducible show wpAny _ _ (exec (Stmt.Raise _ _ _) _) _ _ _); exfalso; omega) | (k_unfold; (try dsimp only)) | (k_end; wrow_close) | ((fail_if_success (with_reducible show wpAny _ _ (pyIter _) _ _ _)); (fail_if_success (with_reducible show wpAny _ _ (PySem.eval (Expr.ListComp _ _ _ _) _) _ _ _)); (fail_if_success (with_reducible show wpAny _ _ (PySem.exec (Stmt.Assign _ (Expr.ListComp _ _ _ _) _) _) _ _ _)); (fail_if_success (with_reducible show wpAny _ _ (isTrue (Expr.Compare (Expr.ListComp _ _ _ _) _ _ _) _ _) _ _ _)); (fail_if_success (with_reducible show wpAny _ _ (exec (Stmt.While _ _ _ _) _) _ _ _)); first | walk1 | (dsimp only; walk1) | (dsimp only [leadV, wantedV, optV, Kind.str]; walk1)) | (leave1; walk_say "STEP leave1"; try dsimp only))
      · walk1
        have hf2 : FoundAt ((sl, listO ws ws.length) :: (d, od) :: (L' + 1, oc) :: D) fvs fp := hfo.sub fun p hp => .tail _ (.tail _ (.tail _ hp))
        refine LCp.ListComp_P (F₀ := F') (by with_unfolding_all rfl) (by decide) (by rfl) (by decide) (by rfl) (by rfl) (by decide) ?_
        walk1
        refine LCp.SrcLP.ledger (its := fvs.toArray) (k := fep) (by rfl) F' N' (.tail _ (.tail _ (.tail _ hf))) (by simp; unfold sizeLine; omega) ?_
        intro hq
        rw [show fvs.toArray.size = fp.length by simp [hfo.len]]
        refine comp_keys ((sl, listO ws ws.length) :: (d, od) :: (L' + 1, oc) :: D) fp fvs hf2 (.tail _ (.tail _ (.tail _ hf))) ?_ (fun _ => rfl) (fun _ => rfl) (by decide) _ 0 [] (by omega) .nil
        intro ys1 hys1 D1 h1 tk1 F1 N1 o1
        refine LCt.ListComp_T (F₀ := F1) (by with_unfolding_all rfl) (by decide) (by rfl) (by decide) (by rfl) ?_
        clear F' N'
        walk1
        refine LCt.CompSrcT.ledger (its := ws.toArray) (k := ws.length) (by rfl) F1 N1 (.tail _ (.head _)) (by simp; unfold sizeLine; omega) ?_
        intro hq2
        rw [show ws.toArray.size = l.length by simp [intsOf_len hl]]
        refine comp_filter ((D1, LCg.lst ys1) :: (sl, listO ws ws.length) :: (d, od) :: (L' + 1, oc) :: D) l (fun n => (takenAt fp n).isSome) ws hl (.tail _ (.head _)) ?_ ?_ (fun _ => rfl) (fun _ => rfl) (by decide) _ 0 [] (by omega) .nil
        · intro i n' t' J oJ C oC DD m₂ h3 tk3 ys E' hi hC hx F3 N3 off ne
          clear F1 N1
          repeat' (first | ((with_reducible show wpAny _ _ (exec (Stmt.Raise _ _ _) _) _ _ _); exfalso; omega) | (k_unfold; (try dsimp only)) | (k_end; wrow_close) | ((fail_if_success (with_reducible show wpAny _ _ (pyIter _) _ _ _)); (fail_if_success (with_reducible show wpAny _ _ (PySem.eval (Expr.ListComp _ _ _ _) _) _ _ _)); (fail_if_success (with_reducible show wpAny _ _ (PySem.exec (Stmt.Assign _ (Expr.ListComp _ _ _ _) _) _) _ _ _)); (fail_if_success (with_reducible show wpAny _ _ (isTrue (Expr.Compare (Expr.ListComp _ _ _ _) _ _ _) _ _) _ _ _)); (fail_if_success (with_reducible show wpAny _ _ (exec (Stmt.While _ _ _ _) _) _ _ _)); first | walk1 | (dsimp only; walk1) | (dsimp only [leadV, wantedV, optV, Kind.str]; walk1)) | (leave1; walk_say "STEP leave1"; try dsimp only))
          exact FilterPost.intro F3 (by assumption) rfl
        · intro ys2 hys2 D2 h2 tk2 F2 N2 o2
          clear F1 N1
          refine eq_lists (News.isList N2 (.tail _ (.head _))) (News.isList N2 (.head _)) hys1 hys2 (by show un9 + 3 < cLine; have : un9 < 5000 := hU; unfold cLine; omega) ?_
          have hnz : n = o.size := by omega
          repeat' (first | ((with_reducible show wpAny _ _ (exec (Stmt.Raise _ _ _) _) _ _ _); exfalso; omega) | (k_unfold; (try dsimp only)) | (k_end; wrow_close) | ((fail_if_success (with_reducible show wpAny _ _ (pyIter _) _ _ _)); (fail_if_success (with_reducible show wpAny _ _ (PySem.eval (Expr.ListComp _ _ _ _) _) _ _ _)); (fail_if_success (with_reducible show wpAny _ _ (PySem.exec (Stmt.Assign _ (Expr.ListComp _ _ _ _) _) _) _ _ _)); (fail_if_success (with_reducible show wpAny _ _ (isTrue (Expr.Compare (Expr.ListComp _ _ _ _) _ _ _) _ _) _ _ _)); (fail_if_success (with_reducible show wpAny _ _ (exec (Stmt.While _ _ _ _) _) _ _ _)); first | walk1 | (dsimp only; walk1) | (dsimp only [leadV, wantedV, optV, Kind.str]; walk1)) | (leave1; walk_say "STEP leave1"; try dsimp only))
          · rename (List.map _ fp = _) => hE
            show Q _ _
            refine hQ1 l sl ws _ _ ?_ (all_stand kOut F2 (fun p hp => (hD p hp).1) N2 (fun p hp => .tail _ (.tail _ (.tail _ (.tail _ (.tail _ hp)))))) ⟨N2.get (.tail _ (.tail _ (.head _))), fresh_of kBut (N2.fresh (.tail _ (.tail _ (.head _)))) fun p hp => hsl p (.tail _ (.tail _ hp))⟩ hl
            unfold lawStood
            dsimp only
            rw [← g1, ← g2, if_pos ⟨hnz, hE⟩]
          · rename (¬ List.map _ fp = _) => hE
            show Q _ _
            refine hQ0 ?_ _ _ (all_stand kOut F2 (fun p hp => (hD p hp).1) N2 (fun p hp => .tail _ (.tail _ (.tail _ (.tail _ (.tail _ hp))))))
            unfold lawStood
            dsimp only
            rw [← g1, ← g2, if_neg fun h => hE h.2]
      · have hnz : ¬ n = o.size := by omega
        show Q _ _
        refine hQ0 ?_ _ _ (all_stand kOut F' (fun p hp => (hD p hp).1) N' (fun p hp => .tail _ (.tail _ (.tail _ hp))))
        unfold lawStood
        dsimp only
        rw [← g1, ← g2, if_neg fun h => hnz h.1]

end SEB
section SEC
end SEC
local macro_rules | `(tactic| walk_at "call ref") => `(tactic| (k_here; (with_reducible show wpAny _ _ (call (Value.ref 186) _) _ _ _); (show wpAny _ _ (call _ [Value.bytes _ _, Value.ref _, Value.ref _, Value.int _ _]) _ _ _); (with_reducible rename Fr _ _ _ _ => lF); (with_reducible rename News _ _ _ _ => lN); (with_reducible rename Fine _ _ _ => lG); k_dflt (refine' law_lies_spec (Fine.after lG lF.keep) ?a9 ?o9 (fun p hp => led lG lN hp) ?m9 ?w9 ?s9 ?i9 ?_; (case a9 => (first | omega | (simp only [depth_deeper, depth_in1] at *; omega) | (show _ < _; dsimp only [Around.deeper, Around.in1, Around.under, Around.mark]; omega))); (case o9 => assumption); (case m9 => k_mem); (case w9 => assumption); (case s9 => k_mem); (case i9 => assumption); k_whole); intro tk' h' hs'; (have F' := Fr.after lF hs'); (have N' := News.grown lN hs'); (try k_sweep)))
section SEC
end SEC
local macro_rules | `(tactic| walk_at "subscriptTail") => `(tactic| (k_here; (with_reducible show wpAny _ _ (subscriptTail _ (Expr.Slice none _ none _) (Value.ref _) (Value.ref _)) _ _ _); (with_reducible rename Fr _ _ _ _ => lF); (with_reducible rename News _ _ _ _ => lN); refine list_to (s := ⟨_, _, _, _, _⟩) lF lN (by k_mem) (by omega) (by omega) ?_; intro D' h' F' N' l1'; (try k_sweep)))
section SEC
variable {w : World} {A : Around} {E Q : Value → Shared → Prop} {s : Shared} {H : Heap}

def firstSome (o : Array UInt8) (r : Row) (number : Nat) (span stood : List Nat) (fp : List (Nat × Nat)) : List Nat := stood.filter fun n => lawLies o r span n && decide (number ≤ (takenAt fp n).getD number)
def firstRight (o : Array UInt8) (r : Row) (number : Nat) (span stood : List Nat) (fp : List (Nat × Nat)) : Bool :=
  decide (stood.filter (fun n => decide (takenAt fp n = some number)) = (firstSome o r number span stood fp).take 1)

theorem law_first_right_spec {o : Array UInt8} {to tn : Tok} {a sa st d : Addr} {od : Obj} {sep tep : Nat} {r : Row} {t1 t2 t3 t4 : Tok} {number : Nat} {svs tvs : List Value} {span stood : List Nat} {fp : List (Nat × Nat)} {D : List (Addr × Obj)} (G : Fine w H s.heap) (hA : A.depth < 650) (hU : A.units < 5000) (hh : A.handled = none) (ho : o.size < 1000)
    (hD : ∀ p ∈ D, s.heap.get? p.1 = some p.2 ∧ H.get? p.1 = none) (hr : (a, rowObj r t1 t2 t3 t4) ∈ D) (hw : 0 < r.wn.size ∧ r.wn.size < 1000) (hsp : (sa, listO svs sep) ∈ D) (hsi : IntsOf svs span) (hst : (st, listO tvs tep) ∈ D) (hti : IntsOf tvs stood) (hdd : (d, od) ∈ D) (hT : TakenObj w d od fp) (hl : stood.length < 1000)
    (hQ : ∀ tk' h', Sub s.heap h' → Q (.bool (firstRight o r number span stood fp)) { s with heap := h', toks := tk' }) :
    wpAny (model PySem.Challenge.rw_pb0229_01.row.prog w) A (call (.ref 203) [.bytes o to, .ref a, .int number tn, .ref sa, .ref st, .ref d]) Q E s := by
  w_on
  obtain ⟨hd9, dp9, fr9, gs9, un9⟩ := A
  dsimp only at hA
  obtain rfl : hd9 = none := hh
  have X0 := G.X; revert X0; k_fill; intro X0; clear X0
  k_dflt (refine' enterX (binds := [(Str.ofString "octets", .bytes o to), (Str.ofString "row", .ref a), (Str.ofString "number", .int number tn), (Str.ofString "span", .ref sa), (Str.ofString "stood", .ref st), (Str.ofString "taken", .ref d)]) G D ?kadr ?k6 ?k7 ?k8 ?k9 ?kB ?kD ?_ ?c2 ?c3 ?c4; (case k6 => k_is); (case k7 => k_is); (case k8 => (simp only [recursionLimit]; omega)); (case k9 => exact BindsTo.of_eq rfl); (case kB => exact rfl); (case kD => decide +kernel); (case c2 => exact rfl); (case c3 => exact rfl); (case c4 => exact rfl); (case kadr => exact hD); intro g L' h₁ tk₁ cells' loose mean mg mb kBut FG X' T' F' N' Y' lt' kOut; (repeat (first | (have hY' := cells_nil Y'; subst hY'; clear Y') | (obtain ⟨_, _, hE', _, Y9⟩ := cells_cons Y'; subst hE'; clear Y'; (rename CellsAre _ _ _ => Y')))); (try simp only [List.cons_append, List.nil_append] at N'); (try dsimp only); (try k_fold))
  replace F' : Fr g L' h₁ (fun y => if y = Str.ofString "stood" then some (.ref st) else none) := F'
  rename_i c5 e5 c4 e4 c3 e3 c2 e2 c1 e1
  replace e5 : c5.data = Data.cell (some (.ref d)) := e5
  replace e4 : c4.data = Data.cell (some (.ref sa)) := e4
  replace e3 : c3.data = Data.cell (some (.int number tn)) := e3
  replace e2 : c2.data = Data.cell (some (.ref a)) := e2
  replace e1 : c1.data = Data.cell (some (.bytes o to)) := e1
  obtain ⟨led, N', hDl, m5, m4, m3, m2, m1⟩ : ∃ led, News g L' h₁ led ∧ (∀ p ∈ D, p ∈ led) ∧ (L' + 1 + 1 + 1 + 1 + 1, c5) ∈ led ∧ (L' + 1 + 1 + 1 + 1, c4) ∈ led ∧ (L' + 1 + 1 + 1, c3) ∈ led ∧ (L' + 1 + 1, c2) ∈ led ∧ (L' + 1, c1) ∈ led :=
    ⟨_, N', fun p hp => .tail _ (.tail _ (.tail _ (.tail _ (.tail _ hp)))), .head _, .tail _ (.head _), .tail _ (.tail _ (.head _)), .tail _ (.tail _ (.tail _ (.head _))), .tail _ (.tail _ (.tail _ (.tail _ (.head _))))⟩
  have hr2 := hDl _ hr
  have hsp2 := hDl _ hsp
  have hst2 := hDl _ hst
  have hdd2 := hDl _ hdd
  repeat' (first | ((with_reducible show wpAny _ _ (exec (Stmt.Raise _ _ _) _) _ _ _); exfalso; omega) | (k_unfold; (try dsimp only)) | (k_end; wrow_close) | ((fail_if_success (with_reducible show wpAny _ _ (pyIter _) _ _ _)); (fail_if_success (with_reducible show wpAny _ _ (PySem.eval (Expr.ListComp _ _ _ _) _) _ _ _)); (fail_if_success (with_reducible show wpAny _ _ (PySem.exec (Stmt.Assign _ (Expr.ListComp _ _ _ _) _) _) _ _ _)); (fail_if_success (with_reducible show wpAny _ _ (isTrue (Expr.Compare (Expr.ListComp _ _ _ _) _ _ _) _ _) _ _ _)); (fail_if_success (with_reducible show wpAny _ _ (exec (Stmt.While _ _ _ _) _) _ _ _)); first | walk1 | (dsimp only; walk1) | (dsimp only [leadV, wantedV, optV, Kind.str]; walk1)) | (leave1; walk_say "STEP leave1"; try dsimp only))
  refine LCt.Assign_ListComp_T (F₀ := by exact F') (by rfl) (by with_unfolding_all rfl) (by with_unfolding_all rfl) (by decide) (by rfl) (by decide) (by rfl) (by rfl) (by rfl) ?_
  walk1
  refine LCt.CompSrcT.ledger (its := tvs.toArray) (k := tep) (by rfl) F' N' hst2 (by simp [intsOf_len hti]; unfold sizeLine; omega) ?_
  intro hq
  rw [show tvs.toArray.size = stood.length by simp [intsOf_len hti]]
  refine comp_filter led stood (fun n => lawLies o r span n && decide (number ≤ (takenAt fp n).getD number)) tvs hti hst2 ?_ ?_ (fun _ => rfl) (fun _ => rfl) (by decide) _ 0 [] (by omega) .nil
  · intro i n t J oJ C oC DD m₂ h3 tk3 ys E' hi hC hx F3 N3 off ne
    clear F' N'
    repeat' (first | ((with_reducible show wpAny _ _ (exec (Stmt.Raise _ _ _) _) _ _ _); exfalso; omega) | (k_unfold; (try dsimp only)) | (k_end; wrow_close) | ((fail_if_success (with_reducible show wpAny _ _ (pyIter _) _ _ _)); (fail_if_success (with_reducible show wpAny _ _ (PySem.eval (Expr.ListComp _ _ _ _) _) _ _ _)); (fail_if_success (with_reducible show wpAny _ _ (PySem.exec (Stmt.Assign _ (Expr.ListComp _ _ _ _) _) _) _ _ _)); (fail_if_success (with_reducible show wpAny _ _ (isTrue (Expr.Compare (Expr.ListComp _ _ _ _) _ _ _) _ _) _ _ _)); (fail_if_success (with_reducible show wpAny _ _ (exec (Stmt.While _ _ _ _) _) _ _ _)); first | walk1 | (dsimp only; walk1) | (dsimp only [leadV, wantedV, optV, Kind.str]; walk1)) | (leave1; walk_say "STEP leave1"; try dsimp only))
    all_goals refine FilterPost.intro (by assumption) (by assumption) ?_
    all_goals (rename (lawLies _ _ _ _ = _) => hL; rw [hL])
    · rename (takenAt _ _ = _) => hk
      rw [hk]; simp
    · rename (takenAt _ _ = _) => hk
      rw [hk]; simp; omega
    · rename (takenAt _ _ = _) => hk
      rw [hk]; simp; omega
    · rfl
  · intro ys1 hys1 D1 h1 tk1 F1 N1 o1
    clear F' N'
    repeat' (first | ((with_reducible show wpAny _ _ (exec (Stmt.Raise _ _ _) _) _ _ _); exfalso; omega) | (k_unfold; (try dsimp only)) | (k_end; wrow_close) | ((fail_if_success (with_reducible show wpAny _ _ (pyIter _) _ _ _)); (fail_if_success (with_reducible show wpAny _ _ (PySem.eval (Expr.ListComp _ _ _ _) _) _ _ _)); (fail_if_success (with_reducible show wpAny _ _ (PySem.exec (Stmt.Assign _ (Expr.ListComp _ _ _ _) _) _) _ _ _)); (fail_if_success (with_reducible show wpAny _ _ (isTrue (Expr.Compare (Expr.ListComp _ _ _ _) _ _ _) _ _) _ _ _)); (fail_if_success (with_reducible show wpAny _ _ (exec (Stmt.While _ _ _ _) _) _ _ _)); first | walk1 | (dsimp only; walk1) | (dsimp only [leadV, wantedV, optV, Kind.str]; walk1)) | (leave1; walk_say "STEP leave1"; try dsimp only))
    refine LCt.ListComp_T (F₀ := F1) (by with_unfolding_all rfl) (by decide) (by rfl) (by decide) (by rfl) ?_
    walk1
    refine LCt.CompSrcT.ledger (its := tvs.toArray) (k := tep) (by rfl) F1 N1 (.tail _ hst2) (by simp [intsOf_len hti]; unfold sizeLine; omega) ?_
    intro hq2
    rw [show tvs.toArray.size = stood.length by simp [intsOf_len hti]]
    refine comp_filter ((D1, LCg.lst ys1) :: led) stood (fun n => decide (takenAt fp n = some number)) tvs hti (.tail _ hst2) ?_ ?_ (fun _ => rfl) (fun _ => rfl) (by decide) _ 0 [] (by omega) .nil
    · intro i n t J oJ C oC DD m₂ h3 tk3 ys E' hi hC hx F3 N3 off ne
      clear F1 N1
      repeat' (first | ((with_reducible show wpAny _ _ (exec (Stmt.Raise _ _ _) _) _ _ _); exfalso; omega) | (k_unfold; (try dsimp only)) | (k_end; wrow_close) | ((fail_if_success (with_reducible show wpAny _ _ (pyIter _) _ _ _)); (fail_if_success (with_reducible show wpAny _ _ (PySem.eval (Expr.ListComp _ _ _ _) _) _ _ _)); (fail_if_success (with_reducible show wpAny _ _ (PySem.exec (Stmt.Assign _ (Expr.ListComp _ _ _ _) _) _) _ _ _)); (fail_if_success (with_reducible show wpAny _ _ (isTrue (Expr.Compare (Expr.ListComp _ _ _ _) _ _ _) _ _) _ _ _)); (fail_if_success (with_reducible show wpAny _ _ (exec (Stmt.While _ _ _ _) _) _ _ _)); first | walk1 | (dsimp only; walk1) | (dsimp only [leadV, wantedV, optV, Kind.str]; walk1)) | (leave1; walk_say "STEP leave1"; try dsimp only))
      all_goals refine FilterPost.intro (by assumption) (by assumption) ?_
      all_goals (rename (takenAt _ _ = _) => hk; rw [hk])
      · simp
      · rw [Bool.eq_iff_iff]
        simp
        constructor <;> intro h <;> omega
    · intro ys2 hys2 D2 h2 tk2 F2 N2 o2
      have hyl : ys1.length ≤ 1000 := by
        rw [intsOf_len hys1]
        exact Nat.le_trans (List.length_filter_le _ _) (Nat.le_of_lt hl)
      clear F1 N1
      walk1
      walk1
      repeat ((fail_if_success (with_reducible show wpAny _ _ (subscriptTail _ _ _ _) _ _ _)); first | walk1 | (dsimp only; walk1))
      refine list_to (s := ⟨_, _, _, _, _⟩) (vs := ys1) (ep := ys1.length) F2 N2 (.tail _ (.head _)) (by omega) (by omega) ?_
      intro D3 h4 F4 N4 l4
      refine eq_lists (News.isList N4 (.tail _ (.head _))) (News.isList N4 (.head _)) hys2 (intsOf_take hys1 _) (by show un9 + 3 < cLine; have : un9 < 5000 := hU; unfold cLine; omega) ?_
      show Q _ _
      exact fin_bool (hQ _ _ (all_stand kOut F4 (fun p hp => (hD p hp).1) N4 (fun p hp => .tail _ (.tail _ (.tail _ (hDl p hp)))))) rfl

end SEC
section SED
variable {w : World} {A : Around} {E Q : Value → Shared → Prop} {s : Shared} {H : Heap}

def ownPlaces (number : Nat) (stood : List Nat) (fp : List (Nat × Nat)) : List Nat := stood.filter fun n => decide (takenAt fp n = some number)
def leadCount (number : Nat) (some' : List Nat) (fp : List (Nat × Nat)) : Nat := (some'.takeWhile fun n => decide (takenAt fp n = some number)).length
def leadingRight (o : Array UInt8) (r : Row) (number : Nat) (span stood : List Nat) (fp : List (Nat × Nat)) : Bool :=
  let sm := stood.filter fun n => decide (n ∈ span)
  let c := leadCount number sm fp
  decide (ownPlaces number stood fp = sm.take c) && (match sm[c]? with
    | none => true
    | some n => !lawLies o r span n || decide ((takenAt fp n).getD number < number))

structure LdS where
  c : Nat
  tA : Tok
  u : Str → Option Value
def ldKn (o : Array UInt8) (to : Tok) (a st sl : Addr) (n : Nat) (tA : Tok) : List (Str × Value) := [(Str.ofString "count", .int n tA), (Str.ofString "some", .ref sl), (Str.ofString "stood", .ref st), (Str.ofString "row", .ref a), (Str.ofString "octets", .bytes o to)]
theorem ldKn_of {o : Array UInt8} {to : Tok} {a st sl : Addr} {n : Nat} {tA : Tok} {m : Str → Option Value} (h1 : m (Str.ofString "count") = some (.int n tA)) (h2 : m (Str.ofString "some") = some (.ref sl)) (h3 : m (Str.ofString "stood") = some (.ref st)) (h4 : m (Str.ofString "row") = some (.ref a)) (h5 : m (Str.ofString "octets") = some (.bytes o to)) :
    ∀ q ∈ ldKn o to a st sl n tA, m q.1 = some q.2 := by
  intro q hq
  simp only [ldKn, List.mem_cons, List.not_mem_nil, or_false] at hq
  rcases hq with rfl | rfl | rfl | rfl | rfl <;> assumption
theorem ld_start {g h : Heap} {L : Addr} {o : Array UInt8} {to : Tok} {a st sl : Addr} {n : Nat} {tA : Tok} {m : Str → Option Value} (F : Fr g L h m) (h1 : m (Str.ofString "count") = some (.int n tA)) (h2 : m (Str.ofString "some") = some (.ref sl)) (h3 : m (Str.ofString "stood") = some (.ref st)) (h4 : m (Str.ofString "row") = some (.ref a)) (h5 : m (Str.ofString "octets") = some (.bytes o to)) :
    ∃ m0, Fr g L h m0 ∧ ∀ q ∈ ldKn o to a st sl n tA, m0 q.1 = some q.2 := ⟨m, F, ldKn_of h1 h2 h3 h4 h5⟩
structure LdI (number : Nat) (sm : List Nat) (fp : List (Nat × Nat)) (c : LdS) : Prop where
  le : c.c ≤ sm.length
  own : ∀ i n, i < c.c → sm[i]? = some n → takenAt fp n = some number
theorem ld_end {o : Array UInt8} {to : Tok} {a st sl L : Addr} {led : List (Addr × Obj)} {g h' : Heap} {tk μ n n2 number : Nat} {s₁ : Shared} {m' : Str → Option Value} {Q : Flow → Shared → Prop} {sm : List Nat} {fp : List (Nat × Nat)} {u : Str → Option Value} {tA : Tok}
    (I : LdI number sm fp ⟨n, tA, u⟩) {k : Nat} (hk : sm[n]? = some k) (ht : takenAt fp k = some number) (e2 : n2 = n + 1)
    (F : Fr g L h' m') {t2 : Tok} (p1 : m' (Str.ofString "count") = some (.int n2 t2)) (p2 : m' (Str.ofString "some") = some (.ref sl)) (p3 : m' (Str.ofString "stood") = some (.ref st)) (p4 : m' (Str.ofString "row") = some (.ref a)) (p5 : m' (Str.ofString "octets") = some (.bytes o to))
    (N : News g L h' led) (hμ : μ = sm.length - n) :
    WhPost (fun (c : LdS) => kn (ldKn o to a st sl c.c c.tA) c.u) (fun _ => led) (LdI number sm fp) (fun c => sm.length - c.c) μ g L s₁ Q .next { s₁ with heap := h', toks := tk } := by
  subst hμ e2
  have hn : n < sm.length := (List.getElem?_eq_some_iff.mp hk).1
  refine ⟨⟨n + 1, t2, m'⟩, h', tk, m', rfl, F, fun z => kn_self (ldKn_of p1 p2 p3 p4 p5), N, ⟨hn, fun i x hi hx => ?_⟩, ?_⟩
  · have hi' : i < n + 1 := hi
    by_cases e : i = n
    · subst e; rw [hk] at hx; cases hx; exact ht
    · exact I.own i x (by show i < n; omega) hx
  · show sm.length - (n + 1) < sm.length - n
    omega
theorem leadCount_eq {number : Nat} {fp : List (Nat × Nat)} : ∀ {sm : List Nat} {c : Nat}, c ≤ sm.length → (∀ i n, i < c → sm[i]? = some n → takenAt fp n = some number) → (∀ n, sm[c]? = some n → takenAt fp n ≠ some number) → leadCount number sm fp = c
  | [], c, h, _, _ => by simp at h; subst h; rfl
  | x :: r, 0, _, _, h2 => by
    have := h2 x rfl
    simp [leadCount, this]
  | x :: r, c + 1, h, h1, h2 => by
    have hx := h1 0 x (Nat.succ_pos _) rfl
    have ih := leadCount_eq (sm := r) (c := c) (by simpa using h) (fun i n hi e => h1 (i + 1) n (Nat.succ_lt_succ hi) (by simpa using e)) (fun n e => h2 n (by simpa using e))
    simp [leadCount, hx] at ih ⊢
    exact ih

theorem leadingRight_eq {o : Array UInt8} {r : Row} {number : Nat} {span stood sm : List Nat} {fp : List (Nat × Nat)} {c : Nat} (hsm : stood.filter (fun n => decide (n ∈ span)) = sm) (hc : leadCount number sm fp = c) :
    leadingRight o r number span stood fp = (decide (stood.filter (fun n => decide (takenAt fp n = some number)) = sm.take c) && (match sm[c]? with | none => true | some n => !lawLies o r span n || decide ((takenAt fp n).getD number < number))) := by
  unfold leadingRight ownPlaces
  dsimp only
  rw [hsm, hc]

theorem law_leading_right_spec {o : Array UInt8} {to tn : Tok} {a sa st d : Addr} {od : Obj} {sep tep : Nat} {r : Row} {t1 t2 t3 t4 : Tok} {number : Nat} {svs tvs : List Value} {span stood : List Nat} {fp : List (Nat × Nat)} {D : List (Addr × Obj)} (G : Fine w H s.heap) (hA : A.depth < 650) (hU : A.units < 5000) (hh : A.handled = none) (ho : o.size < 1000)
    (hD : ∀ p ∈ D, s.heap.get? p.1 = some p.2 ∧ H.get? p.1 = none) (hr : (a, rowObj r t1 t2 t3 t4) ∈ D) (hw : 0 < r.wn.size ∧ r.wn.size < 1000) (hsp : (sa, listO svs sep) ∈ D) (hsi : IntsOf svs span) (hst : (st, listO tvs tep) ∈ D) (hti : IntsOf tvs stood) (hdd : (d, od) ∈ D) (hT : TakenObj w d od fp) (hl : stood.length < 1000)
    (hQ : ∀ tk' h', Sub s.heap h' → Q (.bool (leadingRight o r number span stood fp)) { s with heap := h', toks := tk' }) :
    wpAny (model PySem.Challenge.rw_pb0229_01.row.prog w) A (call (.ref 208) [.bytes o to, .ref a, .int number tn, .ref sa, .ref st, .ref d]) Q E s := by
  w_on
  obtain ⟨hd9, dp9, fr9, gs9, un9⟩ := A
  dsimp only at hA
  obtain rfl : hd9 = none := hh
  have X0 := G.X; revert X0; k_fill; intro X0; clear X0
  k_dflt (refine' enterX (binds := [(Str.ofString "octets", .bytes o to), (Str.ofString "row", .ref a), (Str.ofString "number", .int number tn), (Str.ofString "span", .ref sa), (Str.ofString "stood", .ref st), (Str.ofString "taken", .ref d)]) G D ?kadr ?k6 ?k7 ?k8 ?k9 ?kB ?kD ?_ ?c2 ?c3 ?c4; (case k6 => k_is); (case k7 => k_is); (case k8 => (simp only [recursionLimit]; omega)); (case k9 => exact BindsTo.of_eq rfl); (case kB => exact rfl); (case kD => decide +kernel); (case c2 => exact rfl); (case c3 => exact rfl); (case c4 => exact rfl); (case kadr => exact hD); intro g L' h₁ tk₁ cells' loose mean mg mb kBut FG X' T' F' N' Y' lt' kOut; (repeat (first | (have hY' := cells_nil Y'; subst hY'; clear Y') | (obtain ⟨_, _, hE', _, Y9⟩ := cells_cons Y'; subst hE'; clear Y'; (rename CellsAre _ _ _ => Y')))); (try simp only [List.cons_append, List.nil_append] at N'); (try dsimp only); (try k_fold))
  replace F' : Fr g L' h₁ (fun y => if y = Str.ofString "stood" then some (.ref st) else if y = Str.ofString "row" then some (.ref a) else if y = Str.ofString "octets" then some (.bytes o to) else none) := F'
  rename_i c3 e3 c2 e2 c1 e1
  replace e3 : c3.data = Data.cell (some (.ref d)) := e3
  replace e2 : c2.data = Data.cell (some (.ref sa)) := e2
  replace e1 : c1.data = Data.cell (some (.int number tn)) := e1
  obtain ⟨led, N', hDl, m3, m2, m1⟩ : ∃ led, News g L' h₁ led ∧ (∀ p ∈ D, p ∈ led) ∧ (L' + 1 + 1 + 1, c3) ∈ led ∧ (L' + 1 + 1, c2) ∈ led ∧ (L' + 1, c1) ∈ led :=
    ⟨_, N', fun p hp => .tail _ (.tail _ (.tail _ hp)), .head _, .tail _ (.head _), .tail _ (.tail _ (.head _))⟩
  have hr2 := hDl _ hr
  have hsp2 := hDl _ hsp
  have hst2 := hDl _ hst
  have hdd2 := hDl _ hdd
  repeat' (first | ((with_reducible show wpAny _ _ (exec (Stmt.Raise _ _ _) _) _ _ _); exfalso; omega) | (k_unfold; (try dsimp only)) | (k_end; wrow_close) | ((fail_if_success (with_reducible show wpAny _ _ (pyIter _) _ _ _)); (fail_if_success (with_reducible show wpAny _ _ (PySem.eval (Expr.ListComp _ _ _ _) _) _ _ _)); (fail_if_success (with_reducible show wpAny _ _ (PySem.exec (Stmt.Assign _ (Expr.ListComp _ _ _ _) _) _) _ _ _)); (fail_if_success (with_reducible show wpAny _ _ (isTrue (Expr.Compare (Expr.ListComp _ _ _ _) _ _ _) _ _) _ _ _)); (fail_if_success (with_reducible show wpAny _ _ (exec (Stmt.While _ _ _ _) _) _ _ _)); first | walk1 | (dsimp only; walk1) | (dsimp only [leadV, wantedV, optV, Kind.str]; walk1)) | (leave1; walk_say "STEP leave1"; try dsimp only))
  refine LCt.ListComp_T (F₀ := F') (by with_unfolding_all rfl) (by decide) (by rfl) (by decide) (by rfl) ?_
  walk1
  refine LCt.CompSrcT.ledger (its := tvs.toArray) (k := tep) (by rfl) F' N' hst2 (by simp [intsOf_len hti]; unfold sizeLine; omega) ?_
  intro hq
  rw [show tvs.toArray.size = stood.length by simp [intsOf_len hti]]
  have hsi2 : IntsAre svs (span.map (fun (k : Nat) => (k : Int))) := hsi
  refine comp_filter led stood (fun n => decide (n ∈ span)) tvs hti hst2 ?_ ?_ (fun _ => rfl) (fun _ => rfl) (by decide) _ 0 [] (by omega) .nil
  · intro i n t J oJ C oC DD m₂ h3 tk3 ys E' hi hC hx F3 N3 off ne
    clear F' N'
    repeat' (first | ((with_reducible show wpAny _ _ (exec (Stmt.Raise _ _ _) _) _ _ _); exfalso; omega) | (k_unfold; (try dsimp only)) | (k_end; wrow_close) | ((fail_if_success (with_reducible show wpAny _ _ (pyIter _) _ _ _)); (fail_if_success (with_reducible show wpAny _ _ (PySem.eval (Expr.ListComp _ _ _ _) _) _ _ _)); (fail_if_success (with_reducible show wpAny _ _ (PySem.exec (Stmt.Assign _ (Expr.ListComp _ _ _ _) _) _) _ _ _)); (fail_if_success (with_reducible show wpAny _ _ (isTrue (Expr.Compare (Expr.ListComp _ _ _ _) _ _ _) _ _) _ _ _)); (fail_if_success (with_reducible show wpAny _ _ (exec (Stmt.While _ _ _ _) _) _ _ _)); first | walk1 | (dsimp only; walk1) | (dsimp only [leadV, wantedV, optV, Kind.str]; walk1)) | (leave1; walk_say "STEP leave1"; try dsimp only))
    refine FilterPost.intro (by assumption) (by assumption) ?_
    exact any_nat span n
  · intro ys1 hys1 D1 h1 tk1 F1 N1 o1
    clear F' N'
    obtain ⟨sm, hsm⟩ : ∃ sm, stood.filter (fun n => decide (n ∈ span)) = sm := ⟨_, rfl⟩
    rw [hsm] at hys1
    have hsml : sm.length < 1000 := by rw [← hsm]; exact Nat.lt_of_le_of_lt (List.length_filter_le _ _) hl
    have hyl : ys1.length = sm.length := intsOf_len hys1
    repeat' (first | ((with_reducible show wpAny _ _ (exec (Stmt.Raise _ _ _) _) _ _ _); exfalso; omega) | (k_unfold; (try dsimp only)) | (k_end; wrow_close) | ((fail_if_success (with_reducible show wpAny _ _ (pyIter _) _ _ _)); (fail_if_success (with_reducible show wpAny _ _ (PySem.eval (Expr.ListComp _ _ _ _) _) _ _ _)); (fail_if_success (with_reducible show wpAny _ _ (PySem.exec (Stmt.Assign _ (Expr.ListComp _ _ _ _) _) _) _ _ _)); (fail_if_success (with_reducible show wpAny _ _ (isTrue (Expr.Compare (Expr.ListComp _ _ _ _) _ _ _) _ _) _ _ _)); (fail_if_success (with_reducible show wpAny _ _ (exec (Stmt.While _ _ _ _) _) _ _ _)); first | walk1 | (dsimp only; walk1) | (dsimp only [leadV, wantedV, optV, Kind.str]; walk1)) | (leave1; walk_say "STEP leave1"; try dsimp only))
    with_reducible rename Fr _ _ _ _ => F9
    with_reducible rename News _ _ _ _ => N9
    obtain ⟨tA, ⟨m0, F9, hm0⟩, N9⟩ : ∃ (tA : Tok), (∃ m0, Fr g L' _ m0 ∧ (∀ q ∈ ldKn o to a st D1 0 tA, m0 q.1 = some q.2)) ∧ News g L' _ ((D1, LCg.lst ys1) :: led) := ⟨_, ld_start F9 rfl rfl rfl rfl rfl, kst_newsOf N9 (fun p hp => .tail _ hp)⟩
    refine while_led (fun (c : LdS) => kn (ldKn o to a st D1 c.c c.tA) c.u) (fun (_ : LdS) => (D1, LCg.lst ys1) :: led) (LdI number sm fp) (fun c => sm.length - c.c) ⟨0, tA, m0⟩ F9 N9 (fun z => kn_self hm0) rfl ⟨Nat.zero_le _, fun i n hi _ => absurd hi (Nat.not_lt_zero _)⟩ ?_
    rintro ⟨c, tA', u⟩ h tk hI F' N'
    clear F9 N9
    dsimp only at F' N'
    have hle := hI.le
    dsimp only at hle
    k_unmd
    (try k_fold)
    by_cases hlt : c < sm.length
    · obtain ⟨k, hk⟩ : ∃ k, sm[c]? = some k := ⟨_, List.getElem?_eq_getElem hlt⟩
      obtain ⟨vk, hvk⟩ : ∃ vk, ys1[c]? = some vk := ⟨_, List.getElem?_eq_getElem (by omega)⟩
      obtain ⟨k', tk', hk', rfl⟩ := intsOf_get hys1 hvk
      rw [hk] at hk'
      obtain rfl : k = k' := Option.some.inj hk'
      have hv2 : ys1[((c : Nat) : Int).toNat]? = some (.int (k : Nat) tk') := by simpa using hvk
      have hg : (List.map (fun (k : Nat) => (k : Int)) sm).getD ((c : Nat) : Int).toNat 0 = (k : Int) := by simp [hk]
      repeat' (first | ((with_reducible show wpAny _ _ (exec (Stmt.Raise _ _ _) _) _ _ _); exfalso; omega) | (k_unfold; (try dsimp only)) | (k_end; wrow_close) | ((fail_if_success (with_reducible show wpAny _ _ (pyIter _) _ _ _)); (fail_if_success (with_reducible show wpAny _ _ (PySem.eval (Expr.ListComp _ _ _ _) _) _ _ _)); (fail_if_success (with_reducible show wpAny _ _ (PySem.exec (Stmt.Assign _ (Expr.ListComp _ _ _ _) _) _) _ _ _)); (fail_if_success (with_reducible show wpAny _ _ (isTrue (Expr.Compare (Expr.ListComp _ _ _ _) _ _ _) _ _) _ _ _)); (fail_if_success (with_reducible show wpAny _ _ (exec (Stmt.While _ _ _ _) _) _ _ _)); first | walk1 | (dsimp only; walk1) | (dsimp only [leadV, wantedV, optV, Kind.str]; walk1)) | (leave1; walk_say "STEP leave1"; try dsimp only))
      · rw [hg]
        repeat' (first | ((with_reducible show wpAny _ _ (exec (Stmt.Raise _ _ _) _) _ _ _); exfalso; omega) | (k_unfold; (try dsimp only)) | (k_end; wrow_close) | ((fail_if_success (with_reducible show wpAny _ _ (pyIter _) _ _ _)); (fail_if_success (with_reducible show wpAny _ _ (PySem.eval (Expr.ListComp _ _ _ _) _) _ _ _)); (fail_if_success (with_reducible show wpAny _ _ (PySem.exec (Stmt.Assign _ (Expr.ListComp _ _ _ _) _) _) _ _ _)); (fail_if_success (with_reducible show wpAny _ _ (isTrue (Expr.Compare (Expr.ListComp _ _ _ _) _ _ _) _ _) _ _ _)); (fail_if_success (with_reducible show wpAny _ _ (exec (Stmt.While _ _ _ _) _) _ _ _)); first | walk1 | (dsimp only; walk1) | (dsimp only [leadV, wantedV, optV, Kind.str]; walk1)) | (leave1; walk_say "STEP leave1"; try dsimp only))
        · have hcnt : leadCount number sm fp = c := leadCount_eq hle hI.own fun n e => by
            rename (takenAt fp k = none) => h9
            rw [hk] at e; cases e; rw [h9]; simp
          walk1
          refine LCt.ListComp_T (F₀ := by assumption) (by with_unfolding_all rfl) (by decide) (by rfl) (by decide) (by rfl) ?_
          with_reducible rename Fr _ _ _ _ => F4
          with_reducible rename News _ _ _ _ => N4
          walk1
          refine LCt.CompSrcT.ledger (its := tvs.toArray) (k := tep) (by rfl) F4 N4 (.tail _ hst2) (by simp [intsOf_len hti]; unfold sizeLine; omega) ?_
          intro hq2
          rw [show tvs.toArray.size = stood.length by simp [intsOf_len hti]]
          refine comp_filter ((D1, LCg.lst ys1) :: led) stood (fun n => decide (takenAt fp n = some number)) tvs hti (.tail _ hst2) ?_ ?_ (fun _ => rfl) (fun _ => rfl) (by decide) _ 0 [] (by omega) .nil
          · intro i n t J oJ C oC DD m₂ h3 tk3 ys E' hi hC hx F3 N3 off ne
            clear F4 N4
            repeat' (first | ((with_reducible show wpAny _ _ (exec (Stmt.Raise _ _ _) _) _ _ _); exfalso; omega) | (k_unfold; (try dsimp only)) | (k_end; wrow_close) | ((fail_if_success (with_reducible show wpAny _ _ (pyIter _) _ _ _)); (fail_if_success (with_reducible show wpAny _ _ (PySem.eval (Expr.ListComp _ _ _ _) _) _ _ _)); (fail_if_success (with_reducible show wpAny _ _ (PySem.exec (Stmt.Assign _ (Expr.ListComp _ _ _ _) _) _) _ _ _)); (fail_if_success (with_reducible show wpAny _ _ (isTrue (Expr.Compare (Expr.ListComp _ _ _ _) _ _ _) _ _) _ _ _)); (fail_if_success (with_reducible show wpAny _ _ (exec (Stmt.While _ _ _ _) _) _ _ _)); first | walk1 | (dsimp only; walk1) | (dsimp only [leadV, wantedV, optV, Kind.str]; walk1)) | (leave1; walk_say "STEP leave1"; try dsimp only))
            all_goals refine FilterPost.intro (by assumption) (by assumption) ?_
            all_goals (rename (takenAt _ n = _) => hk9; rw [hk9])
            · simp
            · rw [Bool.eq_iff_iff]
              simp
              constructor <;> intro h <;> omega
          · intro ys2 hys2 D2 h2 tk2 F2 N2 o2
            clear F4 N4
            walk1
            walk1
            repeat ((fail_if_success (with_reducible show wpAny _ _ (subscriptTail _ _ _ _) _ _ _)); first | walk1 | (dsimp only; walk1))
            refine list_to (s := ⟨_, _, _, _, _⟩) (vs := ys1) (ep := ys1.length) F2 N2 (.tail _ (.head _)) (by omega) (by omega) ?_
            intro D3 h4 F4 N4 l4
            refine ne_lists (News.isList N4 (.tail _ (.head _))) (News.isList N4 (.head _)) hys2 (intsOf_take hys1 _) (by show un9 + 3 < cLine; have : un9 < 5000 := hU; unfold cLine; omega) ?_
            clear F2 N2
            rw [Int.toNat_natCast]
            have hLR := leadingRight_eq (o := o) (r := r) hsm hcnt
            rw [hk] at hLR
            dsimp only at hLR
            by_cases hE : stood.filter (fun n => decide (takenAt fp n = some number)) = sm.take c
            · rw [decide_eq_true hE] at hLR ⊢
              repeat' (first | ((with_reducible show wpAny _ _ (exec (Stmt.Raise _ _ _) _) _ _ _); exfalso; omega) | (k_unfold; (try dsimp only)) | (k_end; wrow_close) | ((fail_if_success (with_reducible show wpAny _ _ (pyIter _) _ _ _)); (fail_if_success (with_reducible show wpAny _ _ (PySem.eval (Expr.ListComp _ _ _ _) _) _ _ _)); (fail_if_success (with_reducible show wpAny _ _ (PySem.exec (Stmt.Assign _ (Expr.ListComp _ _ _ _) _) _) _ _ _)); (fail_if_success (with_reducible show wpAny _ _ (isTrue (Expr.Compare (Expr.ListComp _ _ _ _) _ _ _) _ _) _ _ _)); (fail_if_success (with_reducible show wpAny _ _ (exec (Stmt.While _ _ _ _) _) _ _ _)); first | walk1 | (dsimp only; walk1) | (dsimp only [leadV, wantedV, optV, Kind.str]; walk1)) | (leave1; walk_say "STEP leave1"; try dsimp only))
              · exfalso
                rename (_ = ((List.length _ : Nat) : Int)) => h9
                rw [List.length_map] at h9
                omega
              · rw [hg]
                repeat' (first | ((with_reducible show wpAny _ _ (exec (Stmt.Raise _ _ _) _) _ _ _); exfalso; omega) | (k_unfold; (try dsimp only)) | (k_end; wrow_close) | ((fail_if_success (with_reducible show wpAny _ _ (pyIter _) _ _ _)); (fail_if_success (with_reducible show wpAny _ _ (PySem.eval (Expr.ListComp _ _ _ _) _) _ _ _)); (fail_if_success (with_reducible show wpAny _ _ (PySem.exec (Stmt.Assign _ (Expr.ListComp _ _ _ _) _) _) _ _ _)); (fail_if_success (with_reducible show wpAny _ _ (isTrue (Expr.Compare (Expr.ListComp _ _ _ _) _ _ _) _ _) _ _ _)); (fail_if_success (with_reducible show wpAny _ _ (exec (Stmt.While _ _ _ _) _) _ _ _)); first | walk1 | (dsimp only; walk1) | (dsimp only [leadV, wantedV, optV, Kind.str]; walk1)) | (leave1; walk_say "STEP leave1"; try dsimp only))
                · rw [hg]
                  rename (lawLies _ _ _ _ = _) => hL
                  repeat' (first | ((with_reducible show wpAny _ _ (exec (Stmt.Raise _ _ _) _) _ _ _); exfalso; omega) | (k_unfold; (try dsimp only)) | (k_end; wrow_close) | ((fail_if_success (with_reducible show wpAny _ _ (pyIter _) _ _ _)); (fail_if_success (with_reducible show wpAny _ _ (PySem.eval (Expr.ListComp _ _ _ _) _) _ _ _)); (fail_if_success (with_reducible show wpAny _ _ (PySem.exec (Stmt.Assign _ (Expr.ListComp _ _ _ _) _) _) _ _ _)); (fail_if_success (with_reducible show wpAny _ _ (isTrue (Expr.Compare (Expr.ListComp _ _ _ _) _ _ _) _ _) _ _ _)); (fail_if_success (with_reducible show wpAny _ _ (exec (Stmt.While _ _ _ _) _) _ _ _)); first | walk1 | (dsimp only; walk1) | (dsimp only [leadV, wantedV, optV, Kind.str]; walk1)) | (leave1; walk_say "STEP leave1"; try dsimp only))
                  all_goals (with_reducible rename Fr _ _ _ _ => F5)
                  all_goals (with_reducible rename News _ _ _ _ => N5)
                  all_goals (rename (takenAt fp k = _) => hk9)
                  all_goals refine fin_bool (hQ _ _ (all_stand kOut F5 (fun p hp => (hD p hp).1) N5 (fun p hp => .tail _ (.tail _ (.tail _ (hDl p hp)))))) ?_
                  all_goals (rw [hLR, hL, hk9]; simp)
                · with_reducible rename Fr _ _ _ _ => F5
                  with_reducible rename News _ _ _ _ => N5
                  rename (lawLies _ _ _ _ = _) => hL
                  exact fin_bool (hQ _ _ (all_stand kOut F5 (fun p hp => (hD p hp).1) N5 (fun p hp => .tail _ (.tail _ (.tail _ (hDl p hp)))))) (by rw [hLR, hL]; rfl)
            · rw [decide_eq_false hE] at hLR ⊢
              repeat' (first | ((with_reducible show wpAny _ _ (exec (Stmt.Raise _ _ _) _) _ _ _); exfalso; omega) | (k_unfold; (try dsimp only)) | (k_end; wrow_close) | ((fail_if_success (with_reducible show wpAny _ _ (pyIter _) _ _ _)); (fail_if_success (with_reducible show wpAny _ _ (PySem.eval (Expr.ListComp _ _ _ _) _) _ _ _)); (fail_if_success (with_reducible show wpAny _ _ (PySem.exec (Stmt.Assign _ (Expr.ListComp _ _ _ _) _) _) _ _ _)); (fail_if_success (with_reducible show wpAny _ _ (isTrue (Expr.Compare (Expr.ListComp _ _ _ _) _ _ _) _ _) _ _ _)); (fail_if_success (with_reducible show wpAny _ _ (exec (Stmt.While _ _ _ _) _) _ _ _)); first | walk1 | (dsimp only; walk1) | (dsimp only [leadV, wantedV, optV, Kind.str]; walk1)) | (leave1; walk_say "STEP leave1"; try dsimp only))
              show Q _ _
              exact fin_bool (hQ _ _ (all_stand kOut F4 (fun p hp => (hD p hp).1) N4 (fun p hp => .tail _ (.tail _ (.tail _ (hDl p hp)))))) (by rw [hLR]; rfl)
        · with_reducible rename Fr _ _ _ _ => F4
          with_reducible rename News _ _ _ _ => N4
          rename (takenAt fp k = some _) => h9
          exact ld_end hI hk (by rw [h9]; congr 1; omega) rfl F4 rfl rfl rfl rfl rfl N4 rfl
        · have hcnt : leadCount number sm fp = c := leadCount_eq hle hI.own fun n e => by
            rename (takenAt fp k = some _) => h9
            rw [hk] at e; cases e; rw [h9]; intro e9; have := Option.some.inj e9; omega
          walk1
          refine LCt.ListComp_T (F₀ := by assumption) (by with_unfolding_all rfl) (by decide) (by rfl) (by decide) (by rfl) ?_
          with_reducible rename Fr _ _ _ _ => F4
          with_reducible rename News _ _ _ _ => N4
          walk1
          refine LCt.CompSrcT.ledger (its := tvs.toArray) (k := tep) (by rfl) F4 N4 (.tail _ hst2) (by simp [intsOf_len hti]; unfold sizeLine; omega) ?_
          intro hq2
          rw [show tvs.toArray.size = stood.length by simp [intsOf_len hti]]
          refine comp_filter ((D1, LCg.lst ys1) :: led) stood (fun n => decide (takenAt fp n = some number)) tvs hti (.tail _ hst2) ?_ ?_ (fun _ => rfl) (fun _ => rfl) (by decide) _ 0 [] (by omega) .nil
          · intro i n t J oJ C oC DD m₂ h3 tk3 ys E' hi hC hx F3 N3 off ne
            clear F4 N4
            repeat' (first | ((with_reducible show wpAny _ _ (exec (Stmt.Raise _ _ _) _) _ _ _); exfalso; omega) | (k_unfold; (try dsimp only)) | (k_end; wrow_close) | ((fail_if_success (with_reducible show wpAny _ _ (pyIter _) _ _ _)); (fail_if_success (with_reducible show wpAny _ _ (PySem.eval (Expr.ListComp _ _ _ _) _) _ _ _)); (fail_if_success (with_reducible show wpAny _ _ (PySem.exec (Stmt.Assign _ (Expr.ListComp _ _ _ _) _) _) _ _ _)); (fail_if_success (with_reducible show wpAny _ _ (isTrue (Expr.Compare (Expr.ListComp _ _ _ _) _ _ _) _ _) _ _ _)); (fail_if_success (with_reducible show wpAny _ _ (exec (Stmt.While _ _ _ _) _) _ _ _)); first | walk1 | (dsimp only; walk1) | (dsimp only [leadV, wantedV, optV, Kind.str]; walk1)) | (leave1; walk_say "STEP leave1"; try dsimp only))
            all_goals refine FilterPost.intro (by assumption) (by assumption) ?_
            all_goals (rename (takenAt _ n = _) => hk9; rw [hk9])
            · simp
            · rw [Bool.eq_iff_iff]
              simp
              constructor <;> intro h <;> omega
          · intro ys2 hys2 D2 h2 tk2 F2 N2 o2
            clear F4 N4
            walk1
            walk1
            repeat ((fail_if_success (with_reducible show wpAny _ _ (subscriptTail _ _ _ _) _ _ _)); first | walk1 | (dsimp only; walk1))
            refine list_to (s := ⟨_, _, _, _, _⟩) (vs := ys1) (ep := ys1.length) F2 N2 (.tail _ (.head _)) (by omega) (by omega) ?_
            intro D3 h4 F4 N4 l4
            refine ne_lists (News.isList N4 (.tail _ (.head _))) (News.isList N4 (.head _)) hys2 (intsOf_take hys1 _) (by show un9 + 3 < cLine; have : un9 < 5000 := hU; unfold cLine; omega) ?_
            clear F2 N2
            rw [Int.toNat_natCast]
            have hLR := leadingRight_eq (o := o) (r := r) hsm hcnt
            rw [hk] at hLR
            dsimp only at hLR
            by_cases hE : stood.filter (fun n => decide (takenAt fp n = some number)) = sm.take c
            · rw [decide_eq_true hE] at hLR ⊢
              repeat' (first | ((with_reducible show wpAny _ _ (exec (Stmt.Raise _ _ _) _) _ _ _); exfalso; omega) | (k_unfold; (try dsimp only)) | (k_end; wrow_close) | ((fail_if_success (with_reducible show wpAny _ _ (pyIter _) _ _ _)); (fail_if_success (with_reducible show wpAny _ _ (PySem.eval (Expr.ListComp _ _ _ _) _) _ _ _)); (fail_if_success (with_reducible show wpAny _ _ (PySem.exec (Stmt.Assign _ (Expr.ListComp _ _ _ _) _) _) _ _ _)); (fail_if_success (with_reducible show wpAny _ _ (isTrue (Expr.Compare (Expr.ListComp _ _ _ _) _ _ _) _ _) _ _ _)); (fail_if_success (with_reducible show wpAny _ _ (exec (Stmt.While _ _ _ _) _) _ _ _)); first | walk1 | (dsimp only; walk1) | (dsimp only [leadV, wantedV, optV, Kind.str]; walk1)) | (leave1; walk_say "STEP leave1"; try dsimp only))
              · exfalso
                rename (_ = ((List.length _ : Nat) : Int)) => h9
                rw [List.length_map] at h9
                omega
              · rw [hg]
                repeat' (first | ((with_reducible show wpAny _ _ (exec (Stmt.Raise _ _ _) _) _ _ _); exfalso; omega) | (k_unfold; (try dsimp only)) | (k_end; wrow_close) | ((fail_if_success (with_reducible show wpAny _ _ (pyIter _) _ _ _)); (fail_if_success (with_reducible show wpAny _ _ (PySem.eval (Expr.ListComp _ _ _ _) _) _ _ _)); (fail_if_success (with_reducible show wpAny _ _ (PySem.exec (Stmt.Assign _ (Expr.ListComp _ _ _ _) _) _) _ _ _)); (fail_if_success (with_reducible show wpAny _ _ (isTrue (Expr.Compare (Expr.ListComp _ _ _ _) _ _ _) _ _) _ _ _)); (fail_if_success (with_reducible show wpAny _ _ (exec (Stmt.While _ _ _ _) _) _ _ _)); first | walk1 | (dsimp only; walk1) | (dsimp only [leadV, wantedV, optV, Kind.str]; walk1)) | (leave1; walk_say "STEP leave1"; try dsimp only))
                · rw [hg]
                  rename (lawLies _ _ _ _ = _) => hL
                  repeat' (first | ((with_reducible show wpAny _ _ (exec (Stmt.Raise _ _ _) _) _ _ _); exfalso; omega) | (k_unfold; (try dsimp only)) | (k_end; wrow_close) | ((fail_if_success (with_reducible show wpAny _ _ (pyIter _) _ _ _)); (fail_if_success (with_reducible show wpAny _ _ (PySem.eval (Expr.ListComp _ _ _ _) _) _ _ _)); (fail_if_success (with_reducible show wpAny _ _ (PySem.exec (Stmt.Assign _ (Expr.ListComp _ _ _ _) _) _) _ _ _)); (fail_if_success (with_reducible show wpAny _ _ (isTrue (Expr.Compare (Expr.ListComp _ _ _ _) _ _ _) _ _) _ _ _)); (fail_if_success (with_reducible show wpAny _ _ (exec (Stmt.While _ _ _ _) _) _ _ _)); first | walk1 | (dsimp only; walk1) | (dsimp only [leadV, wantedV, optV, Kind.str]; walk1)) | (leave1; walk_say "STEP leave1"; try dsimp only))
                  all_goals (with_reducible rename Fr _ _ _ _ => F5)
                  all_goals (with_reducible rename News _ _ _ _ => N5)
                  all_goals (rename (takenAt fp k = _) => hk9)
                  all_goals refine fin_bool (hQ _ _ (all_stand kOut F5 (fun p hp => (hD p hp).1) N5 (fun p hp => .tail _ (.tail _ (.tail _ (hDl p hp)))))) ?_
                  all_goals (rw [hLR, hL, hk9]; simp)
                · with_reducible rename Fr _ _ _ _ => F5
                  with_reducible rename News _ _ _ _ => N5
                  rename (lawLies _ _ _ _ = _) => hL
                  exact fin_bool (hQ _ _ (all_stand kOut F5 (fun p hp => (hD p hp).1) N5 (fun p hp => .tail _ (.tail _ (.tail _ (hDl p hp)))))) (by rw [hLR, hL]; rfl)
            · rw [decide_eq_false hE] at hLR ⊢
              repeat' (first | ((with_reducible show wpAny _ _ (exec (Stmt.Raise _ _ _) _) _ _ _); exfalso; omega) | (k_unfold; (try dsimp only)) | (k_end; wrow_close) | ((fail_if_success (with_reducible show wpAny _ _ (pyIter _) _ _ _)); (fail_if_success (with_reducible show wpAny _ _ (PySem.eval (Expr.ListComp _ _ _ _) _) _ _ _)); (fail_if_success (with_reducible show wpAny _ _ (PySem.exec (Stmt.Assign _ (Expr.ListComp _ _ _ _) _) _) _ _ _)); (fail_if_success (with_reducible show wpAny _ _ (isTrue (Expr.Compare (Expr.ListComp _ _ _ _) _ _ _) _ _) _ _ _)); (fail_if_success (with_reducible show wpAny _ _ (exec (Stmt.While _ _ _ _) _) _ _ _)); first | walk1 | (dsimp only; walk1) | (dsimp only [leadV, wantedV, optV, Kind.str]; walk1)) | (leave1; walk_say "STEP leave1"; try dsimp only))
              show Q _ _
              exact fin_bool (hQ _ _ (all_stand kOut F4 (fun p hp => (hD p hp).1) N4 (fun p hp => .tail _ (.tail _ (.tail _ (hDl p hp)))))) (by rw [hLR]; rfl)
      · exfalso
        rename (¬ _ < _) => h9
        rw [List.length_map] at h9
        omega
    · repeat' (first | ((with_reducible show wpAny _ _ (exec (Stmt.Raise _ _ _) _) _ _ _); exfalso; omega) | (k_unfold; (try dsimp only)) | (k_end; wrow_close) | ((fail_if_success (with_reducible show wpAny _ _ (pyIter _) _ _ _)); (fail_if_success (with_reducible show wpAny _ _ (PySem.eval (Expr.ListComp _ _ _ _) _) _ _ _)); (fail_if_success (with_reducible show wpAny _ _ (PySem.exec (Stmt.Assign _ (Expr.ListComp _ _ _ _) _) _) _ _ _)); (fail_if_success (with_reducible show wpAny _ _ (isTrue (Expr.Compare (Expr.ListComp _ _ _ _) _ _ _) _ _) _ _ _)); (fail_if_success (with_reducible show wpAny _ _ (exec (Stmt.While _ _ _ _) _) _ _ _)); first | walk1 | (dsimp only; walk1) | (dsimp only [leadV, wantedV, optV, Kind.str]; walk1)) | (leave1; walk_say "STEP leave1"; try dsimp only))
      · exfalso
        rename (_ < _) => h9
        rw [List.length_map] at h9
        omega
      · have hcnt : leadCount number sm fp = c := leadCount_eq hle hI.own fun n e => by
          rw [List.getElem?_eq_none (by omega)] at e
          cases e
        walk1
        refine LCt.ListComp_T (F₀ := by assumption) (by with_unfolding_all rfl) (by decide) (by rfl) (by decide) (by rfl) ?_
        with_reducible rename Fr _ _ _ _ => F4
        with_reducible rename News _ _ _ _ => N4
        walk1
        refine LCt.CompSrcT.ledger (its := tvs.toArray) (k := tep) (by rfl) F4 N4 (.tail _ hst2) (by simp [intsOf_len hti]; unfold sizeLine; omega) ?_
        intro hq2
        rw [show tvs.toArray.size = stood.length by simp [intsOf_len hti]]
        refine comp_filter ((D1, LCg.lst ys1) :: led) stood (fun n => decide (takenAt fp n = some number)) tvs hti (.tail _ hst2) ?_ ?_ (fun _ => rfl) (fun _ => rfl) (by decide) _ 0 [] (by omega) .nil
        · intro i n t J oJ C oC DD m₂ h3 tk3 ys E' hi hC hx F3 N3 off ne
          clear F4 N4
          repeat' (first | ((with_reducible show wpAny _ _ (exec (Stmt.Raise _ _ _) _) _ _ _); exfalso; omega) | (k_unfold; (try dsimp only)) | (k_end; wrow_close) | ((fail_if_success (with_reducible show wpAny _ _ (pyIter _) _ _ _)); (fail_if_success (with_reducible show wpAny _ _ (PySem.eval (Expr.ListComp _ _ _ _) _) _ _ _)); (fail_if_success (with_reducible show wpAny _ _ (PySem.exec (Stmt.Assign _ (Expr.ListComp _ _ _ _) _) _) _ _ _)); (fail_if_success (with_reducible show wpAny _ _ (isTrue (Expr.Compare (Expr.ListComp _ _ _ _) _ _ _) _ _) _ _ _)); (fail_if_success (with_reducible show wpAny _ _ (exec (Stmt.While _ _ _ _) _) _ _ _)); first | walk1 | (dsimp only; walk1) | (dsimp only [leadV, wantedV, optV, Kind.str]; walk1)) | (leave1; walk_say "STEP leave1"; try dsimp only))
          all_goals refine FilterPost.intro (by assumption) (by assumption) ?_
          all_goals (rename (takenAt _ n = _) => hk9; rw [hk9])
          · simp
          · rw [Bool.eq_iff_iff]
            simp
            constructor <;> intro h <;> omega
        · intro ys2 hys2 D2 h2 tk2 F2 N2 o2
          clear F4 N4
          walk1
          walk1
          repeat ((fail_if_success (with_reducible show wpAny _ _ (subscriptTail _ _ _ _) _ _ _)); first | walk1 | (dsimp only; walk1))
          refine list_to (s := ⟨_, _, _, _, _⟩) (vs := ys1) (ep := ys1.length) F2 N2 (.tail _ (.head _)) (by omega) (by omega) ?_
          intro D3 h4 F4 N4 l4
          refine ne_lists (News.isList N4 (.tail _ (.head _))) (News.isList N4 (.head _)) hys2 (intsOf_take hys1 _) (by show un9 + 3 < cLine; have : un9 < 5000 := hU; unfold cLine; omega) ?_
          clear F2 N2
          rw [Int.toNat_natCast]
          have hLR := leadingRight_eq (o := o) (r := r) hsm hcnt
          rw [show sm[c]? = none from List.getElem?_eq_none (by omega)] at hLR
          by_cases hE : stood.filter (fun n => decide (takenAt fp n = some number)) = sm.take c
          · rw [decide_eq_true hE] at hLR ⊢
            repeat' (first | ((with_reducible show wpAny _ _ (exec (Stmt.Raise _ _ _) _) _ _ _); exfalso; omega) | (k_unfold; (try dsimp only)) | (k_end; wrow_close) | ((fail_if_success (with_reducible show wpAny _ _ (pyIter _) _ _ _)); (fail_if_success (with_reducible show wpAny _ _ (PySem.eval (Expr.ListComp _ _ _ _) _) _ _ _)); (fail_if_success (with_reducible show wpAny _ _ (PySem.exec (Stmt.Assign _ (Expr.ListComp _ _ _ _) _) _) _ _ _)); (fail_if_success (with_reducible show wpAny _ _ (isTrue (Expr.Compare (Expr.ListComp _ _ _ _) _ _ _) _ _) _ _ _)); (fail_if_success (with_reducible show wpAny _ _ (exec (Stmt.While _ _ _ _) _) _ _ _)); first | walk1 | (dsimp only; walk1) | (dsimp only [leadV, wantedV, optV, Kind.str]; walk1)) | (leave1; walk_say "STEP leave1"; try dsimp only))
            · rename (_ = ((List.length _ : Nat) : Int)) => h9
              refine fin_bool (hQ _ _ (all_stand kOut F4 (fun p hp => (hD p hp).1) N4 (fun p hp => .tail _ (.tail _ (.tail _ (hDl p hp)))))) ?_
              rw [hLR, h9]
              simp
            · exfalso
              rename (_ ≠ _) => h9
              rw [List.length_map] at h9
              apply h9
              omega
          · rw [decide_eq_false hE] at hLR ⊢
            repeat' (first | ((with_reducible show wpAny _ _ (exec (Stmt.Raise _ _ _) _) _ _ _); exfalso; omega) | (k_unfold; (try dsimp only)) | (k_end; wrow_close) | ((fail_if_success (with_reducible show wpAny _ _ (pyIter _) _ _ _)); (fail_if_success (with_reducible show wpAny _ _ (PySem.eval (Expr.ListComp _ _ _ _) _) _ _ _)); (fail_if_success (with_reducible show wpAny _ _ (PySem.exec (Stmt.Assign _ (Expr.ListComp _ _ _ _) _) _) _ _ _)); (fail_if_success (with_reducible show wpAny _ _ (isTrue (Expr.Compare (Expr.ListComp _ _ _ _) _ _ _) _ _) _ _ _)); (fail_if_success (with_reducible show wpAny _ _ (exec (Stmt.While _ _ _ _) _) _ _ _)); first | walk1 | (dsimp only; walk1) | (dsimp only [leadV, wantedV, optV, Kind.str]; walk1)) | (leave1; walk_say "STEP leave1"; try dsimp only))
            show Q _ _
            exact fin_bool (hQ _ _ (all_stand kOut F4 (fun p hp => (hD p hp).1) N4 (fun p hp => .tail _ (.tail _ (.tail _ (hDl p hp)))))) (by rw [hLR]; rfl)

end SED
section SFA
variable {w : World} {A : Around} {E : Value → Shared → Prop} {s : Shared} {H : Heap}

/-- the end of a turn of a loop whose name lies in a cell -/
def TurnC {σ : Type} (Led : σ → List (Addr × Obj)) (I : σ → Prop) (h₀ : Heap) (L : Addr) (m : Str → Option Value) (it : Addr) (oit : Obj) (s₁ : Shared) (Q : Flow → Shared → Prop) (f : Flow) (s₂ : Shared) : Prop :=
  match f with
  | .ret v => Q (.ret v) s₂
  | .brk => Q .next s₂
  | _ => ∃ (c : σ) (h' : Heap) (tk : Nat), s₂ = { s₁ with heap := h', toks := tk } ∧ Fr h₀ L h' m ∧ News h₀ L h' ((it, oit) :: Led c) ∧ (∀ p ∈ Led c, p.1 ≠ it) ∧ I c
theorem TurnC.intro {σ : Type} {Led : σ → List (Addr × Obj)} {I : σ → Prop} {h₀ : Heap} {L : Addr} {m : Str → Option Value} {it : Addr} {oit : Obj} {s₁ : Shared} {Q : Flow → Shared → Prop} {h' : Heap} {tk : Nat} {led : List (Addr × Obj)} (c : σ)
    (F : Fr h₀ L h' m) (N : News h₀ L h' led) (hs : ∀ p ∈ (it, oit) :: Led c, p ∈ led) (hne : ∀ p ∈ Led c, p.1 ≠ it) (hI : I c) : TurnC Led I h₀ L m it oit s₁ Q .next { s₁ with heap := h', toks := tk } :=
  ⟨c, h', tk, rfl, F, fun p hp => N p (hs p hp), hne, hI⟩
theorem for_rangeC {σ : Type} {h₀ : Heap} {L r : Addr} {lo hi : Int} {t₀ u₀ v₀ : Tok} {m : Str → Option Value} {env : Env} {target : PySem.Expr} {body : List Stmt} {Q : Flow → Shared → Prop} (Led : σ → List (Addr × Obj)) (I : Nat → σ → Prop) (c₀ : σ) (n : Nat)
    (hh : A.handled = none) (hr : IsRange s.heap r lo hi 1 t₀ u₀ v₀) (hb : -1000000 < lo ∧ hi < 1000000) (hn : hi - lo = n) (F : Fr h₀ L s.heap m) (N : News h₀ L s.heap (Led c₀)) (h0 : I 0 c₀)
    (turn : ∀ i (c : σ) t h tk it oit, i < n → I i c → Fr h₀ L h m → News h₀ L h ((it, oit) :: Led c) → (∀ p ∈ Led c, p.1 ≠ it) →
      wpAny (model PySem.Challenge.rw_pb0229_01.row.prog w) A (assign target env (.int (lo + (i : Int)) t)) (fun _ s₂ => wpAny (model PySem.Challenge.rw_pb0229_01.row.prog w) A (execs body env) (TurnC Led (I (i + 1)) h₀ L m it oit { s with heap := h, toks := tk } Q) (fun _ _ => False) s₂) (fun _ _ => False) { s with heap := h, toks := tk })
    (done : ∀ (c : σ) h tk, I n c → Fr h₀ L h m → News h₀ L h (Led c) → Q .next { s with heap := h, toks := tk })
    (ht : ∀ v it, letOwnedTupleGo target it v = pure () := by intro _ _; rfl) :
    wpAny (model PySem.Challenge.rw_pb0229_01.row.prog w) A (pyIter (.ref r)) (fun it s₂ => codeAny (model PySem.Challenge.rw_pb0229_01.row.prog w) A (.forLoop target it body [] env) (fun r s' => match r with | .ok f => Q f s' | .error e => cameBackBy (model PySem.Challenge.rw_pb0229_01.row.prog w) A env E e s') s₂) E s := by
  refine wpAny_pyIter_range hr (small_one (by omega) (by omega) (by omega) (by omega)) ?_
  have hfr : s.heap.get? s.heap.objs.size = none := by
    cases q : s.heap.get? s.heap.objs.size with
    | none => rfl
    | some o => exact absurd (Heap.lt_size q) (Nat.lt_irrefl _)
  have hIL := fr_at F hfr
  refine codeAny_forLoop (fun k s' => ∃ h' tk i c, s' = { s with heap := h', toks := tk } ∧ IsRangeIter h' s.heap.objs.size (lo + (i : Nat) * 1) ((n : Int) - (i : Nat)) 1 ∧ Fr h₀ L h' m ∧ News h₀ L h' (Led c) ∧ (∀ p ∈ Led c, p.1 ≠ s.heap.objs.size) ∧ I i c ∧ i ≤ n ∧ k = n + 1 - i) ?_ (n + 1)
    ⟨_, _, 0, c₀, rfl, ?_, F.push _, fun p hp => ⟨Heap.get?_push_of_some _ (N p hp).1, (N p hp).2⟩, fun p hp => Nat.ne_of_lt (Heap.lt_size (N p hp).1), h0, Nat.zero_le _, rfl⟩ (fun v => ht v _)
  · rintro k s' ⟨h', tk, i, c, rfl, hit, F', N', hne, hI, hi, rfl⟩
    by_cases hlt : i < n
    · refine wpAny_pyNext_range_item hit (by omega) fun h₁ hit₁ hs₁ => ?_
      obtain ⟨oit, hoit⟩ : ∃ oit, h₁.get? s.heap.objs.size = some oit := ⟨_, hit₁⟩
      have F1 : Fr h₀ L h₁ m := F'.change hs₁ hIL.1 hIL.2
      have N1 : News h₀ L h₁ ((s.heap.objs.size, oit) :: Led c) := fun p hp => by
        rcases List.mem_cons.mp hp with rfl | hp
        · exact ⟨hoit, hIL⟩
        · exact ⟨(hs₁.2 _ (hne p hp)).trans (N' p hp).1, (N' p hp).2⟩
      have e1 : lo + (i : Int) * 1 = lo + (i : Int) := by omega
      rw [e1]
      refine wpAny_mono (turn i c _ h₁ _ s.heap.objs.size oit hlt hI F1 N1 hne) (fun _ s₂ q => ?_) fun _ _ e => e.elim
      refine wpAny_mono q (fun f s₃ q => ?_) fun _ _ e => e.elim
      cases f with
      | ret v => exact q
      | brk => exact q
      | next =>
        obtain ⟨c', h2, tk2, rfl, F2, N2, hne2, hI2⟩ := q
        refine ⟨n + 1 - (i + 1), by omega, h2, tk2, i + 1, c', rfl, ?_, F2, fun p hp => N2 p (.tail _ hp), hne2, hI2, hlt, rfl⟩
        have e2 : lo + ((i + 1 : Nat) : Int) * 1 = lo + (i : Int) * 1 + 1 := by push_cast; omega
        have e3 : (n : Int) - ((i + 1 : Nat) : Int) = (n : Int) - (i : Int) - 1 := by push_cast; omega
        rw [e2, e3]
        exact (N2.get (.head _)).trans (hoit.symm.trans hit₁)
      | cont =>
        obtain ⟨c', h2, tk2, rfl, F2, N2, hne2, hI2⟩ := q
        refine ⟨n + 1 - (i + 1), by omega, h2, tk2, i + 1, c', rfl, ?_, F2, fun p hp => N2 p (.tail _ hp), hne2, hI2, hlt, rfl⟩
        have e2 : lo + ((i + 1 : Nat) : Int) * 1 = lo + (i : Int) * 1 + 1 := by push_cast; omega
        have e3 : (n : Int) - ((i + 1 : Nat) : Int) = (n : Int) - (i : Int) - 1 := by push_cast; omega
        rw [e2, e3]
        exact (N2.get (.head _)).trans (hoit.symm.trans hit₁)
    · have hin : i = n := by omega
      subst hin
      refine wpAny_pyNext_range_end hh hit (by omega) fun h₁ he₁ => wpAny_execs_nil ?_
      exact done c h₁ _ hI ⟨F'.ns.extBut he₁ (Ne.symm hIL.1), fun b o e => he₁ b o (fun q => by rw [q, hIL.2] at e; cases e) (F'.keep b o e), F'.above⟩ fun p hp => ⟨he₁ _ _ (hne p hp) (N' p hp).1, (N' p hp).2⟩
  · show IsRangeIter _ _ _ _ _
    rw [rangeSize_sub hn]
    simpa using Heap.get?_push_size _ rfl

end SFA
section SFB
variable {w : World} {A : Around} {E Q : Value → Shared → Prop} {s : Shared} {H : Heap}

theorem pfilter_step {fp : List (Nat × Nat)} {i : Nat} {p : Nat × Nat} {q : Nat × Nat → Bool} (h : fp[i]? = some p) : ((fp.take (i + 1)).filter q).map (·.1) = ((fp.take i).filter q).map (·.1) ++ (if q p = true then [p.1] else []) := by
  rw [List.take_add_one, h, Option.toList_some, List.filter_append, List.map_append]
  congr 1
  by_cases hq : q p = true <;> simp [hq]

/-- a comprehension over a list of pairs with one test, that keeps the first of each -/
theorem pair_filter {h₀ : Heap} {L ax : Addr} {m : Str → Option Value} {env : Env} {ct iter : PySem.Expr} {x x₂ : Str} {px px₂ tp pe : Pos} {kk} {scope : Scope} {cl : List (Str × Addr)} {pos : Pos} {led : List (Addr × Obj)} {fp : List (Nat × Nat)} {vs : List Value} {ep : Nat} (q : Nat × Nat → Bool)
    (hh : A.handled = none) (hf : FoundAt led vs fp) (hm : (ax, listO vs ep) ∈ led) (hsz : vs.length < 100000)
    (hclos : closureFor scope env = pure cl) (hcell : ∀ y ∈ scope.names, y.2 ≠ .cell) (hkind : scope.kind = .function)
    (hnames : ∀ y ∈ scope.names, y.2 = .local → scope.names.lookup y.1 = some .local) (hx : scope.names.lookup x = some .local) (hx₂ : scope.names.lookup x₂ = some .local) (hxx : x ≠ x₂)
    (hit : wpAny (model PySem.Challenge.rw_pb0229_01.row.prog w) A (eval iter env) (fun v s' => v = .ref ax ∧ s' = s) E s) (F : Fr h₀ L s.heap m) (N : News h₀ L s.heap led)
    (hk : ∀ C, (compEnvC scope cl C env).scope.kind = .function) (hl : ∀ C, (compEnvC scope cl C env).kindOf x = some .local) (hd : (x == ("__debug__" : Str)) = false)
    (turn : ∀ (i : Nat) (p : Nat × Nat) (t1 t2 : Tok) J oJ C oC D m₂ h tk ys (E' : Value → Shared → Prop), fp[i]? = some p → LCg.NsObj oC m₂ → m₂ x = some (.int (p.1 : Nat) t1) → m₂ x₂ = some (.int (p.2 : Nat) t2) → Fr h₀ L h m → News h₀ L h ((J, oJ) :: (C, oC) :: (D, LCg.lst ys) :: led) → LCg.Off3 J C D led → ((@Ne Nat J C) ∧ (@Ne Nat J D) ∧ (@Ne Nat C D)) →
      wpAny (model PySem.Challenge.rw_pb0229_01.row.prog w) A (isTrue ct (compEnvC scope cl C env) (eval ct (compEnvC scope cl C env))) (FilterPost h₀ L m { s with heap := h, toks := tk } ((J, oJ) :: (C, oC) :: (D, LCg.lst ys) :: led) (q p)) E' { s with heap := h, toks := tk })
    (fin : ∀ D h tk ys, Fr h₀ L h m → News h₀ L h ((D, LCg.lst ys) :: led) → IntsOf ys ((fp.filter q).map (·.1)) → Q (.ref D) { s with heap := h, toks := tk })
    (hs : ∀ x, foldedSetIterable iter env x = pure x := by intro _; rfl) :
    wpAny (model PySem.Challenge.rw_pb0229_01.row.prog w) A (eval (.ListComp (.Name x pe) [⟨.Tuple [.Name x px, .Name x₂ px₂] kk tp, iter, [ct], 0⟩] scope pos) env) Q E s := by
  rw [eval_ListComp]
  refine wpAny_comprehension_free (use := none) rfl hs hclos hkind hnames (wpAny_mono hit (fun xv s₁ h₁ => ?_) fun _ _ e => e)
  obtain ⟨rfl, rfl⟩ := h₁
  have hL := F.ns.lt
  have hlt := news_lt N
  refine wpAny_pyIter_list (News.isList N hm) ?_
  refine wpAny_newObj_type (wpAny_newFunctionEnv hcell (by intro y hy; simp at hy) (fun h₁ hns₁ hsb₁ => ?_) hkind)
  dsimp only at hns₁ hsb₁ ⊢
  generalize hH1 : s₁.heap.push { cls := .type "list_iterator", data := .fields #[.ref ax, .int 0 0] } = H1 at hns₁ hsb₁ ⊢
  have s1 : H1.objs.size = s₁.heap.objs.size + 1 := by rw [← hH1, Heap.size_push]
  generalize hH2 : H1.push { cls := .type "list", data := .seq ([] : List Value).toArray } = H2 at hns₁ hsb₁ ⊢
  have s2 : H2.objs.size = s₁.heap.objs.size + 2 := by rw [← hH2, Heap.size_push, s1]
  obtain ⟨J, hJ⟩ : ∃ J, s₁.heap.objs.size = J := ⟨_, rfl⟩
  obtain ⟨D, hDe⟩ : ∃ D, H1.objs.size = D := ⟨_, rfl⟩
  obtain ⟨C, hCe⟩ : ∃ C, H2.objs.size = C := ⟨_, rfl⟩
  rw [hJ] at hL hlt s1 s2
  rw [hDe] at s1
  rw [hCe] at s2 hns₁ hsb₁
  have s1n : @Eq Nat D (J + 1) := s1
  have s2n : @Eq Nat C (J + 2) := s2
  have hLn : @LT.lt Nat _ L J := hL
  have nDC : @Ne Nat D C := by omega
  have nJC : @Ne Nat J C := by omega
  have nJD : @Ne Nat J D := by omega
  have nLJ : @Ne Nat L J := by omega
  have nLD : @Ne Nat L D := by omega
  have nLC : @Ne Nat L C := by omega
  have ltD : ∀ b, @LT.lt Nat _ b D → @Ne Nat b C := fun b h => by omega
  have toD : ∀ b o, H1.get? b = some o → h₁.get? b = some o := fun b o e => by
    have hb : b < H1.objs.size := Heap.lt_size e
    rw [hDe] at hb
    refine hsb₁.extBut b o (ltD b hb) (Heap.get?_push_of_some _ ?_)
    rw [← hH2]
    exact Heap.get?_push_of_some _ e
  have old : ∀ b o, s₁.heap.get? b = some o → h₁.get? b = some o := fun b o e => toD b o (by rw [← hH1]; exact Heap.get?_push_of_some _ e)
  have hJ1 : h₁.IsListIter J ax 0 := ⟨_, toD J _ (by rw [← hH1, ← hJ]; exact Heap.get?_push_size _ rfl), rfl, rfl⟩
  have hD1 : h₁.get? D = some (LCg.lst []) := by
    refine hsb₁.extBut D _ nDC (Heap.get?_push_of_some _ ?_)
    rw [← hH2, ← hDe]
    exact Heap.get?_push_size _ rfl
  have none₀ : ∀ b, @LE.le Nat _ J b → h₀.get? b = none := fun b hb => by
    cases e : h₀.get? b with
    | none => rfl
    | some o =>
      have h9 := Heap.lt_size (F.keep b o e)
      rw [hJ] at h9
      exact absurd (Nat.lt_of_lt_of_le h9 hb) (Nat.lt_irrefl _)
  have ha0 := none₀ J (Nat.le_refl _)
  have hb0 := none₀ D (by omega)
  have hc0 := none₀ C (by omega)
  have off : LCg.Off3 J C D led := LCg.Off3.of fun p hp => by
    have h9 : @LT.lt Nat _ p.1 J := hlt p hp
    have h8 : @LT.lt Nat _ p.1 C := by omega
    have h7 : @LT.lt Nat _ p.1 D := by omega
    exact ⟨Nat.ne_of_lt h9, Nat.ne_of_lt h8, Nat.ne_of_lt h7⟩
  have loop : codeAny (model PySem.Challenge.rw_pb0229_01.row.prog w) A (.compLoop (.ListComp (.Name x pe) [⟨.Tuple [.Name x px, .Name x₂ px₂] kk tp, iter, [ct], 0⟩] scope pos) 0 (.ref J) (.ref D) (compEnvC scope cl C env)) (compPost (model PySem.Challenge.rw_pb0229_01.row.prog w) A E none Q (.ref D) C) { s₁ with heap := h₁, toks := s₁.toks + ([] : List (Str × Value)).length } := by
    refine kct_loop (fun k s' => ∃ h' tk i ys m', s' = { s₁ with heap := h', toks := tk } ∧ i ≤ vs.length ∧ k = vs.length + 1 - i ∧ h'.IsListIter J ax i ∧ Fr h₀ L h' m ∧ h'.Ns C m' ∧ News h₀ L h' ((D, LCg.lst ys) :: led) ∧ IntsOf ys (((fp.take i).filter q).map (·.1)) ∧ ys.length ≤ i) ?_ (vs.length + 1)
      ⟨h₁, _, 0, [], _, rfl, Nat.zero_le _, rfl, hJ1, F.keeps old, hns₁, fun p hp => ?_, .nil, Nat.le_refl _⟩
    · rintro k s' ⟨h', tk, i, ys, m', rfl, hi, rfl, hit', F', hn', N', hys, hfew⟩
      have hlist : h'.IsList ax vs.toArray := News.isList N' (.tail _ hm)
      by_cases hlt2 : i < vs.length
      · obtain ⟨p, hp, a, t1, t2, hva, ham⟩ := hf.getL (List.getElem?_eq_getElem hlt2)
        refine wpAny_pyNext_list_item hit' hlist (x := .ref a) (by simp [hlt2, hva]) fun h₂ hit₂ hs₂ => ?_
        have F2 : Fr h₀ L h₂ m := F'.change hs₂ (Ne.symm nLJ) ha0
        have N2 : News h₀ L h₂ ((D, LCg.lst ys) :: led) := fun b hb => by
          refine ⟨(hs₂.2 _ ?_).trans (N' b hb).1, (N' b hb).2⟩
          rcases List.mem_cons.mp hb with rfl | hb
          · exact Ne.symm nJD
          · exact (off.mem b hb).1
        have ht : IsTup h₂ a #[.int p.1 t1, .int p.2 t2] := ⟨_, N2.get (.tail _ ham), rfl, _, rfl⟩
        dsimp only
        refine wpAny_letOwnedTupleGo_listiter hit₂ ?_
        refine assign_Tuple_tuple hh ht rfl rfl fun h₅ he => ?_
        have he' : ∀ b o, h₂.get? b = some o → h₅.get? b = some o := fun b o e => he b o (Nat.ne_of_lt (Heap.lt_size e)) e
        have hn5 : h₅.Ns C m' := (hn'.sameBut hs₂ (Ne.symm nJC)).at' fun o e => he' _ o e
        refine assignInOrder_cons (wpAny_assign_Name (wpAny_storeName_local (lookup_relabel_local hx) hn5 (fun h₆ hn₆ hs₆ => ?_) (by simp [compEnvC, relabel, hkind])))
        refine assignInOrder_cons (wpAny_assign_Name (wpAny_storeName_local (lookup_relabel_local hx₂) hn₆ (fun h₃ hn₃ hs₃ => ?_) (by simp [compEnvC, relabel, hkind])))
        refine assignInOrder_nil ?_
        have old3 : ∀ b o, @Ne Nat b C → h₂.get? b = some o → h₃.get? b = some o := fun b o hb e => hs₃.extBut b o hb (hs₆.extBut b o hb (he' b o e))
        obtain ⟨oJ, heJ⟩ : ∃ oJ, h₂.get? J = some oJ := by obtain ⟨o, e, _⟩ := hit₂; exact ⟨o, e⟩
        obtain ⟨oC, heC, hoC⟩ := LCg.ns_obj hn₃
        have F3 : Fr h₀ L h₃ m := ((F2.keeps he').change hs₆ (Ne.symm nLC) hc0).change hs₃ (Ne.symm nLC) hc0
        have N3 : News h₀ L h₃ ((J, oJ) :: (C, oC) :: (D, LCg.lst ys) :: led) := fun b hb => by
          rcases List.mem_cons.mp hb with rfl | hb
          · exact ⟨old3 _ _ nJC heJ, Ne.symm nLJ, ha0⟩
          rcases List.mem_cons.mp hb with rfl | hb
          · exact ⟨heC, Ne.symm nLC, hc0⟩
          · have z := N2 b hb
            refine ⟨old3 _ _ ?_ z.1, z.2⟩
            rcases List.mem_cons.mp hb with rfl | hb
            · exact nDC
            · exact (off.mem b hb).2.1
        have hxv : (fun x_1 => if x_1 = x₂ then some (Value.int (p.2 : Nat) t2) else if x_1 = x then some (Value.int (p.1 : Nat) t1) else m' x_1) x = some (Value.int (p.1 : Nat) t1) := by simp [hxx]
        refine wpAny_mono (turn i p t1 t2 J oJ C oC D _ h₃ _ ys _ hp hoC hxv (by simp) F3 N3 off ⟨nJC, nJD, Ne.symm nDC⟩) (fun okb s₄ h4 => ?_) fun _ _ e => e
        obtain ⟨rfl, h₄, tk₄, rfl, F4, N4⟩ := h4
        have hJ4 : h₄.IsListIter J ax (i + 1) := by
          obtain ⟨o, e, r⟩ := hit₂
          rw [heJ] at e
          cases e
          exact ⟨oJ, N4.get (.head _), r⟩
        have hst := pfilter_step (q := q) hp
        cases hq : q p with
        | true =>
          rw [if_pos rfl]
          rw [hq, if_pos rfl] at hst
          refine LCgL.ld_own N4 (.tail _ (.head _)) hoC hxv ?_ (hk C) (hl C) hd
          refine append_at (hsz := by show ys.toArray.size ≤ sizeLine; rw [List.size_toArray]; unfold sizeLine; omega) (N4.get (.tail _ (.tail _ (.head _)))) fun h₇ hs₇ hD₇ => ?_
          refine ⟨vs.length + 1 - (i + 1), by omega, h₇, tk₄, i + 1, ys ++ [.int (p.1 : Nat) t1], _, rfl, hlt2, rfl, ?_, F4.change hs₇ (Ne.symm nLD) hb0, (hoC.ns (N4.get (.tail _ (.head _)))).sameBut hs₇ (Ne.symm nDC), fun b hb => ?_, ?_, ?_⟩
          · obtain ⟨o, e, r⟩ := hJ4
            exact ⟨o, (hs₇.2 _ nJD).trans e, r⟩
          · rcases List.mem_cons.mp hb with rfl | hb
            · exact ⟨hD₇.trans (congrArg some (LCg.lst_snoc ys _)), Ne.symm nLD, hb0⟩
            · have z := N4 b (.tail _ (.tail _ (.tail _ hb)))
              exact ⟨(hs₇.2 _ (off.mem b hb).2.2).trans z.1, z.2⟩
          · rw [hst]
            exact intsOf_snoc hys
          · rw [List.length_append, List.length_singleton]
            omega
        | false =>
          rw [if_neg (by simp)]
          rw [hq, if_neg (by simp), List.append_nil] at hst
          exact ⟨vs.length + 1 - (i + 1), by omega, h₄, tk₄, i + 1, ys, _, rfl, hlt2, rfl, hJ4, F4, hoC.ns (N4.get (.tail _ (.head _))), fun b hb => N4 b (.tail _ (.tail _ hb)), hst ▸ hys, by omega⟩
      · have hin : i = vs.length := by omega
        refine wpAny_pyNext_list_end hh hit' hlist (by simp [hin]) fun h₂ he₂ => ?_
        dsimp only
        have hys' : IntsOf ys ((fp.filter q).map (·.1)) := by
          rw [List.take_of_length_le (by rw [← hf.len]; omega)] at hys
          exact hys
        have F2 : Fr h₀ L h₂ m := ⟨F'.ns.extBut he₂ nLJ, fun b o e => he₂ b o (fun qq => by rw [qq, ha0] at e; cases e) (F'.keep b o e), F'.above⟩
        have N2 : News h₀ L h₂ ((D, LCg.lst ys) :: led) := fun b hb => by
          refine ⟨he₂ _ _ ?_ (N' b hb).1, (N' b hb).2⟩
          rcases List.mem_cons.mp hb with rfl | hb
          · exact Ne.symm nJD
          · exact (off.mem b hb).1
        refine ⟨m', hn'.extBut he₂ (Ne.symm nJC), fun h'' hs'' => fin D h'' _ ys (F2.change hs'' (Ne.symm nLC) hc0) (fun b hb => ⟨hs''.extBut _ _ ?_ (N2 b hb).1, (N2 b hb).2⟩) hys'⟩
        rcases List.mem_cons.mp hb with rfl | hb
        · exact nDC
        · exact (off.mem b hb).2.1
    · rcases List.mem_cons.mp hp with rfl | hp
      · exact ⟨hD1, Ne.symm nLD, hb0⟩
      · exact ⟨old _ _ (N p hp).1, (N p hp).2⟩
  have hl1 : h₁.IsList ax vs.toArray := ⟨_, old _ _ (N.get hm), rfl, _, rfl⟩
  have W := Walks.list (prog := PySem.Challenge.rw_pb0229_01.row.prog) (w := w) (A := A) hh J ax (by have := hlt _ hm; exact Nat.ne_of_lt this) vs.toArray
  subst hDe hCe hJ
  exact codeAny_compStart_list loop (W.self 0 _ _ _ ⟨hJ1, hl1⟩ loop)

end SFB
section SFC
variable {w : World} {A : Around} {E Q : Value → Shared → Prop} {s : Shared} {H : Heap}

def Row.none : Row := ⟨.chars, #[65], .none, .none⟩
def wrongFits (o : Array UInt8) (rows : List Row) (fp : List (Nat × Nat)) : List Nat :=
  (fp.filter fun p => !lawLies o (rows.getD p.2 Row.none) (spanL o (rows.getD p.2 Row.none)) p.1).map (·.1)
def lateOnes (o : Array UInt8) (r : Row) (n N : Nat) (st : List Nat) (fp : List (Nat × Nat)) : List Nat :=
  st.filter fun m => lawLies o r (spanL o r) m && decide (n < (takenAt fp m).getD N)
def rowRight (o : Array UInt8) (r : Row) (n N : Nat) (st : List Nat) (fp : List (Nat × Nat)) : Bool := match r.kind with
  | .first => firstRight o r n (spanL o r) st fp
  | .leading => leadingRight o r n (spanL o r) st fp
  | _ => decide (lateOnes o r n N st fp = [])
def walkRight (o : Array UInt8) (rows : List Row) (fp : List (Nat × Nat)) : Bool := match lawStood o rows fp with
  | none => false
  | some st => decide (wrongFits o rows fp = []) && (List.range rows.length).all fun n => rowRight o (rows.getD n Row.none) n rows.length st fp

theorem oS_ne {D : Addr} : ∀ {l : List (Addr × Obj)}, LCg.Off1 D l → ∀ p ∈ l, p.1 ≠ D
  | [], _, _, h => nomatch h
  | _ :: _, x, p, h => by
    rcases List.mem_cons.mp h with rfl | h
    · exact x.1
    · exact oS_ne x.2 p h
theorem updF_app {a : Addr} {o : Obj} {r : List (Addr × Obj)} {g : Obj → List (Addr × Obj)} : ∀ {own : List (Addr × Obj)}, (∀ p ∈ own, p.1 ≠ a) → UpdF a o r g → UpdF a o (own ++ r) (fun o' => own ++ g o')
  | [], _, h => h
  | p :: q, hn, h => .tail (hn p (.head _)) (updF_app (fun x hx => hn x (.tail _ hx)) h)
/-- the spans' lists -/
def spanObjs (c : List (Addr × List Value)) : List (Addr × Obj) := c.map fun p => (p.1, listO p.2 p.2.length)
def SpansOf (o : Array UInt8) (c : List (Addr × List Value)) (rows : List Row) : Prop := All2 (fun p r => IntsOf p.2 (spanL o r)) c rows
theorem RowsAt.sub {D D' : List (Addr × Obj)} {vs : List Value} {rows : List Row} (h : RowsAt D vs rows) (hs : ∀ p ∈ D, p ∈ D') : RowsAt D' vs rows := All2.mono h fun _ _ ⟨a, t1, t2, t3, t4, e, hm⟩ => ⟨a, t1, t2, t3, t4, e, hs _ hm⟩
theorem ne_cell {g h : Heap} {L a b : Addr} {o1 o2 : Obj} {led : List (Addr × Obj)} {v : Option Value} (N : News g L h led) (h1 : (a, o1) ∈ led) (h2 : (b, o2) ∈ led) (e : o2.data = Data.cell v) (n : ∀ v, o1.data ≠ Data.cell v) : a ≠ b := by
  rintro rfl
  have := N.get h1
  rw [N.get h2] at this
  cases this
  exact n _ e
theorem stoodGo_len {sz : Nat} {step : Nat → Nat} : ∀ {k n : Nat}, (stoodGo sz step k n).1.length ≤ k
  | 0, n => by simp [stoodGo]
  | k + 1, n => by
    unfold stoodGo
    split
    · simpa using stoodGo_len
    · simp
theorem stood_len {o : Array UInt8} {rows : List Row} {fp : List (Nat × Nat)} {st : List Nat} (h : lawStood o rows fp = some st) : st.length ≤ o.size := by
  unfold lawStood at h
  dsimp only at h
  split at h
  · cases h
    exact stoodGo_len
  · cases h
theorem wr_false {o : Array UInt8} {rows : List Row} {fp : List (Nat × Nat)} {st : List Nat} {i : Nat} (h : lawStood o rows fp = some st) (hi : i < rows.length) (e : rowRight o (rows.getD i Row.none) i rows.length st fp = false) : walkRight o rows fp = false := by
  unfold walkRight
  rw [h]
  dsimp only
  have : ((List.range rows.length).all fun n => rowRight o (rows.getD n Row.none) n rows.length st fp) = false := by
    rw [List.all_eq_false]
    exact ⟨i, List.mem_range.mpr hi, by rw [e]; simp⟩
  rw [this, Bool.and_false]
structure WrS where
  k7 : Obj
  k6 : Obj
  k4 : Obj
theorem law_walk_right_spec {o : Array UInt8} {to : Tok} {rl fl : Addr} {ep fep : Nat} {vs fvs : List Value} {rows : List Row} {fp : List (Nat × Nat)} {D : List (Addr × Obj)} (G : Fine w H s.heap) (hA : A.depth < 600) (hU : A.units < 4000) (hh : A.handled = none) (ho : o.size < 1000)
    (hD : ∀ p ∈ D, s.heap.get? p.1 = some p.2 ∧ H.get? p.1 = none) (hr : (rl, listO vs ep) ∈ D) (hrows : RowsAt D vs rows) (hok : ∀ r ∈ rows, okRow r) (hn : rows.length < 1000)
    (hf : (fl, listO fvs fep) ∈ D) (hfo : FoundAt D fvs fp) (hfl : fvs.length < 1000) (hnd : (fp.map (·.1)).Nodup) (hin : ∀ p ∈ fp, p.2 < rows.length)
    (hQ : ∀ tk' h', Sub s.heap h' → Q (.bool (walkRight o rows fp)) { s with heap := h', toks := tk' }) :
    wpAny (model PySem.Challenge.rw_pb0229_01.row.prog w) A (call (.ref 213) [.bytes o to, .ref rl, .ref fl]) Q E s := by
  w_on
  obtain ⟨hd9, dp9, fr9, gs9, un9⟩ := A
  dsimp only at hA
  obtain rfl : hd9 = none := hh
  have X0 := G.X; revert X0; k_fill; intro X0; clear X0
  k_dflt (refine' enterX (binds := [(Str.ofString "octets", .bytes o to), (Str.ofString "rows", .ref rl), (Str.ofString "found", .ref fl)]) G D ?kadr ?k6 ?k7 ?k8 ?k9 ?kB ?kD ?_ ?c2 ?c3 ?c4; (case k6 => k_is); (case k7 => k_is); (case k8 => (simp only [recursionLimit]; omega)); (case k9 => exact BindsTo.of_eq rfl); (case kB => exact rfl); (case kD => decide +kernel); (case c2 => exact rfl); (case c3 => exact rfl); (case c4 => exact rfl); (case kadr => exact hD); intro g L' h₁ tk₁ cells' loose mean mg mb kBut FG X' T' F' N' Y' lt' kOut; (repeat (first | (have hY' := cells_nil Y'; subst hY'; clear Y') | (obtain ⟨_, _, hE', _, Y9⟩ := cells_cons Y'; subst hE'; clear Y'; (rename CellsAre _ _ _ => Y')))); (try simp only [List.cons_append, List.nil_append] at N'); (try dsimp only); (try k_fold))
  replace F' : Fr g L' h₁ (fun y => if y = Str.ofString "found" then some (.ref fl) else none) := F'
  rename_i c7 e7 c6 e6 c5 e5 c4 e4 c3 e3 c2 e2 c1 e1
  replace e7 : c7.data = Data.cell none := e7
  replace e6 : c6.data = Data.cell none := e6
  replace e5 : c5.data = Data.cell none := e5
  replace e4 : c4.data = Data.cell none := e4
  replace e3 : c3.data = Data.cell none := e3
  replace e2 : c2.data = Data.cell (some (.ref rl)) := e2
  replace e1 : c1.data = Data.cell (some (.bytes o to)) := e1
  have a1 : ∀ p ∈ D, p.1 ≠ L' + 1 := fun p hp => Nat.ne_of_lt (Nat.lt_succ_of_lt (lt' p hp))
  have a2 : ∀ p ∈ D, p.1 ≠ L' + 1 + 1 := fun p hp => Nat.ne_of_lt (Nat.lt_succ_of_lt (Nat.lt_succ_of_lt (lt' p hp)))
  have a3 : ∀ p ∈ D, p.1 ≠ L' + 1 + 1 + 1 := fun p hp => Nat.ne_of_lt (Nat.lt_succ_of_lt (Nat.lt_succ_of_lt (Nat.lt_succ_of_lt (lt' p hp))))
  have a4 : ∀ p ∈ D, p.1 ≠ L' + 1 + 1 + 1 + 1 := fun p hp => Nat.ne_of_lt (Nat.lt_succ_of_lt (Nat.lt_succ_of_lt (Nat.lt_succ_of_lt (Nat.lt_succ_of_lt (lt' p hp)))))
  have a5 : ∀ p ∈ D, p.1 ≠ L' + 1 + 1 + 1 + 1 + 1 := fun p hp => Nat.ne_of_lt (Nat.lt_succ_of_lt (Nat.lt_succ_of_lt (Nat.lt_succ_of_lt (Nat.lt_succ_of_lt (Nat.lt_succ_of_lt (lt' p hp))))))
  have a6 : ∀ p ∈ D, p.1 ≠ L' + 1 + 1 + 1 + 1 + 1 + 1 := fun p hp => Nat.ne_of_lt (Nat.lt_succ_of_lt (Nat.lt_succ_of_lt (Nat.lt_succ_of_lt (Nat.lt_succ_of_lt (Nat.lt_succ_of_lt (Nat.lt_succ_of_lt (lt' p hp)))))))
  have a7 : ∀ p ∈ D, p.1 ≠ L' + 1 + 1 + 1 + 1 + 1 + 1 + 1 := fun p hp => Nat.ne_of_lt (Nat.lt_succ_of_lt (Nat.lt_succ_of_lt (Nat.lt_succ_of_lt (Nat.lt_succ_of_lt (Nat.lt_succ_of_lt (Nat.lt_succ_of_lt (Nat.lt_succ_of_lt (lt' p hp))))))))
  repeat' (first | ((with_reducible show wpAny _ _ (exec (Stmt.Raise _ _ _) _) _ _ _); exfalso; omega) | (k_unfold; (try dsimp only)) | (k_end; wrow_close) | ((fail_if_success (with_reducible show wpAny _ _ (pyIter _) _ _ _)); (fail_if_success (with_reducible show wpAny _ _ (PySem.eval (Expr.ListComp _ _ _ _) _) _ _ _)); (fail_if_success (with_reducible show wpAny _ _ (PySem.exec (Stmt.Assign _ (Expr.ListComp _ _ _ _) _) _) _ _ _)); (fail_if_success (with_reducible show wpAny _ _ (isTrue (Expr.Compare (Expr.ListComp _ _ _ _) _ _ _) _ _) _ _ _)); (fail_if_success (with_reducible show wpAny _ _ (exec (Stmt.While _ _ _ _) _) _ _ _)); first | walk1 | (dsimp only; walk1) | (dsimp only [leadV, wantedV, optV, Kind.str]; walk1)) | (leave1; walk_say "STEP leave1"; try dsimp only))
  have sub7 : ∀ p ∈ D, p ∈ (L' + 1 + 1 + 1 + 1 + 1 + 1 + 1, c7) :: (L' + 1 + 1 + 1 + 1 + 1 + 1, c6) :: (L' + 1 + 1 + 1 + 1 + 1, c5) :: (L' + 1 + 1 + 1 + 1, c4) :: (L' + 1 + 1 + 1, c3) :: (L' + 1 + 1, c2) :: (L' + 1, c1) :: D :=
    fun p hp => .tail _ (.tail _ (.tail _ (.tail _ (.tail _ (.tail _ (.tail _ hp))))))
  refine law_stood_spec (H := H) (o := o) (rl := rl) (fl := fl) (ep := ep) (fep := fep) (vs := vs) (fvs := fvs) (rows := rows) (fp := fp) (Fine.after FG F'.keep) (by show _ < _; simp only [depth_deeper]; omega) (by show un9 + 3 < 5000; have : un9 < 4000 := hU; omega) (by rfl) ho (fun p hp => led FG N' hp) (sub7 _ hr) (hrows.sub sub7) hok hn (sub7 _ hf) (hfo.sub sub7) hfl hnd hin ?_ ?_
  · intro hsn tk2 h2 hs2
    have F2 := F'.after hs2
    have N2 := N'.grown hs2
    clear F' N'
    repeat' (first | ((with_reducible show wpAny _ _ (exec (Stmt.Raise _ _ _) _) _ _ _); exfalso; omega) | (k_unfold; (try dsimp only)) | (k_end; wrow_close) | ((fail_if_success (with_reducible show wpAny _ _ (pyIter _) _ _ _)); (fail_if_success (with_reducible show wpAny _ _ (PySem.eval (Expr.ListComp _ _ _ _) _) _ _ _)); (fail_if_success (with_reducible show wpAny _ _ (PySem.exec (Stmt.Assign _ (Expr.ListComp _ _ _ _) _) _) _ _ _)); (fail_if_success (with_reducible show wpAny _ _ (isTrue (Expr.Compare (Expr.ListComp _ _ _ _) _ _ _) _ _) _ _ _)); (fail_if_success (with_reducible show wpAny _ _ (exec (Stmt.While _ _ _ _) _) _ _ _)); first | walk1 | (dsimp only; walk1) | (dsimp only [leadV, wantedV, optV, Kind.str]; walk1)) | (leave1; walk_say "STEP leave1"; try dsimp only))
    with_reducible rename Fr _ _ _ _ => F9
    with_reducible rename News _ _ _ _ => N9
    show Q _ _
    refine fin_bool (hQ _ _ (all_stand kOut F9 (fun p hp => (hD p hp).1) N9 fun p hp => .tail _ (.tail _ (.tail _ (.tail _ (.tail _ (.tail _ (.tail _ (.tail _ (.tail _ hp)))))))))) ?_
    unfold walkRight
    rw [hsn]
  · intro st sl ws tk2 h2 hss hs2 hsl hws
    have F2 := F'.after hs2
    have N2 := news_add F' hsl (N'.grown hs2)
    have b7 : @Ne Nat sl (L' + 1 + 1 + 1 + 1 + 1 + 1 + 1) := new_ne hsl.2 (N'.get (.head _))
    have b6 : @Ne Nat sl (L' + 1 + 1 + 1 + 1 + 1 + 1) := new_ne hsl.2 (N'.get (.tail _ (.head _)))
    have b5 : @Ne Nat sl (L' + 1 + 1 + 1 + 1 + 1) := new_ne hsl.2 (N'.get (.tail _ (.tail _ (.head _))))
    have b4 : @Ne Nat sl (L' + 1 + 1 + 1 + 1) := new_ne hsl.2 (N'.get (.tail _ (.tail _ (.tail _ (.head _)))))
    have b3 : @Ne Nat sl (L' + 1 + 1 + 1) := new_ne hsl.2 (N'.get (.tail _ (.tail _ (.tail _ (.tail _ (.head _))))))
    have b2 : @Ne Nat sl (L' + 1 + 1) := new_ne hsl.2 (N'.get (.tail _ (.tail _ (.tail _ (.tail _ (.tail _ (.head _)))))))
    have b1 : @Ne Nat sl (L' + 1) := new_ne hsl.2 (N'.get (.tail _ (.tail _ (.tail _ (.tail _ (.tail _ (.tail _ (.head _))))))))
    have bD : ∀ p ∈ D, p.1 ≠ sl := fun p hp => Ne.symm (new_ne hsl.2 (N'.get (sub7 _ hp)))
    clear F' N'
    repeat' (first | ((with_reducible show wpAny _ _ (exec (Stmt.Raise _ _ _) _) _ _ _); exfalso; omega) | (k_unfold; (try dsimp only)) | (k_end; wrow_close) | ((fail_if_success (with_reducible show wpAny _ _ (pyIter _) _ _ _)); (fail_if_success (with_reducible show wpAny _ _ (PySem.eval (Expr.ListComp _ _ _ _) _) _ _ _)); (fail_if_success (with_reducible show wpAny _ _ (PySem.exec (Stmt.Assign _ (Expr.ListComp _ _ _ _) _) _) _ _ _)); (fail_if_success (with_reducible show wpAny _ _ (isTrue (Expr.Compare (Expr.ListComp _ _ _ _) _ _ _) _ _) _ _ _)); (fail_if_success (with_reducible show wpAny _ _ (exec (Stmt.While _ _ _ _) _) _ _ _)); first | walk1 | (dsimp only; walk1) | (dsimp only [leadV, wantedV, optV, Kind.str]; walk1)) | (leave1; walk_say "STEP leave1"; try dsimp only))
    with_reducible rename Fr _ _ _ _ => F9
    with_reducible rename News _ _ _ _ => N9
    rename_i d od h4 t4 hT lt5 DT h3' l1 h2' h1' h0' c3' e3'
    have N10 := kst_newsOf (l' := (d, od) :: (sl, listO ws ws.length) :: (L' + 1 + 1 + 1 + 1 + 1 + 1 + 1, c7) :: (L' + 1 + 1 + 1 + 1 + 1 + 1, c6) :: (L' + 1 + 1 + 1 + 1 + 1, c5) :: (L' + 1 + 1 + 1 + 1, c4) :: (L' + 1 + 1 + 1, c3') :: (L' + 1 + 1, c2) :: (L' + 1, c1) :: D) N9 (fun p hp => .tail _ hp)
    clear N9
    obtain ⟨B, hB⟩ : ∃ B, (d, od) :: (sl, listO ws ws.length) :: (L' + 1 + 1 + 1 + 1 + 1 + 1 + 1, c7) :: (L' + 1 + 1 + 1 + 1 + 1 + 1, c6) :: (L' + 1 + 1 + 1 + 1 + 1, c5) :: (L' + 1 + 1 + 1 + 1, c4) :: (L' + 1 + 1 + 1, c3') :: (L' + 1 + 1, c2) :: (L' + 1, c1) :: D = B := ⟨_, rfl⟩
    have hDB : ∀ p ∈ D, p ∈ B := fun p hp => by rw [← hB]; exact .tail _ (.tail _ (.tail _ (.tail _ (.tail _ (.tail _ (.tail _ (.tail _ (.tail _ hp))))))))
    have hc1B : (L' + 1, c1) ∈ B := by rw [← hB]; exact .tail _ (.tail _ (.tail _ (.tail _ (.tail _ (.tail _ (.tail _ (.tail _ (.head _))))))))
    have hrB := hDB _ hr
    rw [hB] at N10
    have hc2B : (L' + 1 + 1, c2) ∈ B := by rw [← hB]; exact .tail _ (.tail _ (.tail _ (.tail _ (.tail _ (.tail _ (.tail _ (.head _)))))))
    refine wpAny_Assign_Name ?_ (by with_unfolding_all rfl)
    refine LCg.ListComp_U (F₀ := F9) (by with_unfolding_all rfl) (by decide) (by rfl) (by decide) (by rfl) ?_
    walk1
    refine LCg.CompSrc.ledger (its := vs.toArray) (k := ep) (by rfl) F9 N10 hrB (by simp [hrows.len]; unfold sizeLine; omega) ?_
    intro g0
    rw [show vs.toArray.size = rows.length by simp [hrows.len]]
    refine comp_run (σ := List (Addr × List Value)) (fun c => spanObjs c ++ B) (fun i c ys => c.length = i ∧ SpansOf o c (rows.take i) ∧ ys = c.map (fun p => .ref p.1) ∧ ∀ p ∈ c, ∀ q ∈ B, p.1 ≠ q.1) rows.length ?_ ?_ rows.length 0 [] [] (by omega) ⟨rfl, .nil, rfl, (fun _ h => nomatch h)⟩
    · rintro i c ys v J oJ C oC DD m₂ h tk5 E' hi ⟨p1, p2, rfl, p4⟩ hv hC hx F2 N2 off ne
      obtain ⟨r, hri, a, t1, t2, t3, t4, rfl, ha⟩ := hrows.getL (by simpa using hv)
      have hro := hok r (List.mem_of_getElem? hri)
      have hcl : (L' + 1, c1) ∈ (J, oJ) :: (C, oC) :: (DD, LCg.lst (c.map fun p => Value.ref p.1)) :: (spanObjs c ++ B) := .tail _ (.tail _ (.tail _ (List.mem_append_right _ hc1B)))
      clear F9 N10
      repeat ((fail_if_success (with_reducible show wpAny _ _ (call (Value.ref 179) _) _ _ _)); first | walk1 | (dsimp only; walk1))
      with_reducible rename Fr _ _ _ _ => F3
      with_reducible rename News _ _ _ _ => N3
      refine law_span_spec (H := H) (D := (J, oJ) :: (C, oC) :: (DD, LCg.lst (c.map fun p => Value.ref p.1)) :: (spanObjs c ++ B)) (Fine.after FG F3.keep) (by show _ < _; simp only [depth_deeper]; omega) (by rfl) ho (fun p hp => led FG N3 hp) (.tail _ (.tail _ (.tail _ (List.mem_append_right _ (hDB _ ha))))) hro.2.1 hro.2.2 ?_
      intro fl2 vs2 tk6 h6 hs6 hfl6 hv6
      dsimp only at hs6 hfl6
      have F4 := F3.after hs6
      have N4 := news_add F3 hfl6 (N3.grown hs6)
      have hnew : ∀ q ∈ (J, oJ) :: (C, oC) :: (DD, LCg.lst (c.map fun p => Value.ref p.1)) :: (spanObjs c ++ B), fl2 ≠ q.1 := fun q hq => new_ne hfl6.2 (N3.get hq)
      refine LCg.CompEnd.intro F4 N4 (spanObjs (c ++ [(fl2, vs2)]) ++ B) ?_ ?_ (.inr ⟨_, List.mem_append_right _ hrB, rfl, _, rfl⟩) ⟨c ++ [(fl2, vs2)], rfl, ?_⟩
      · unfold spanObjs
        rw [List.map_append]
        intro p hp
        rcases List.mem_cons.mp hp with rfl | hp
        · exact .tail _ (.head _)
        rcases List.mem_cons.mp hp with rfl | hp
        · exact .tail _ (.tail _ (.head _))
        rcases List.mem_cons.mp hp with rfl | hp
        · exact .tail _ (.tail _ (.tail _ (.head _)))
        rcases List.mem_append.mp hp with hp | hp
        · rcases List.mem_append.mp hp with hp | hp
          · exact .tail _ (.tail _ (.tail _ (.tail _ (List.mem_append_left _ hp))))
          · obtain rfl : p = (fl2, listO vs2 vs2.length) := by simpa using hp
            exact .head _
        · exact .tail _ (.tail _ (.tail _ (.tail _ (List.mem_append_right _ hp))))
      · refine LCg.Off3.of fun p hp => ?_
        unfold spanObjs at hp
        rw [List.map_append] at hp
        rcases List.mem_append.mp hp with hp | hp
        · rcases List.mem_append.mp hp with hp | hp
          · exact off.mem p (List.mem_append_left _ hp)
          · obtain rfl : p = (fl2, listO vs2 vs2.length) := by simpa using hp
            exact ⟨hnew _ (.head _), hnew _ (.tail _ (.head _)), hnew _ (.tail _ (.tail _ (.head _)))⟩
        · exact off.mem p (List.mem_append_right _ hp)
      · refine ⟨by simp [p1], ?_, by simp, ?_⟩
        · rw [List.take_add_one, hri]
          exact All2.snoc p2 hv6
        · intro p hp q hq
          rcases List.mem_append.mp hp with hp | hp
          · exact p4 p hp q hq
          · obtain rfl : p = (fl2, vs2) := by simpa using hp
            exact hnew q (.tail _ (.tail _ (.tail _ (List.mem_append_right _ hq))))
    · rintro c ys ⟨p1, p2, rfl, p4⟩ DS hS tkS FS NS oS
      clear F9 N10
      have nS : ∀ p ∈ spanObjs c, ∀ q ∈ B, p.1 ≠ q.1 := fun p hp q hq => by
        obtain ⟨x, hx, rfl⟩ := List.mem_map.mp hp
        exact p4 x hx q hq
      have hc5B : (L' + 1 + 1 + 1 + 1 + 1, c5) ∈ B := by rw [← hB]; exact .tail _ (.tail _ (.tail _ (.tail _ (.head _))))
      have hDS5 : DS ≠ L' + 1 + 1 + 1 + 1 + 1 := (oS_ne oS _ (List.mem_append_right _ hc5B)).symm
      have nS5 : ∀ p ∈ spanObjs c, p.1 ≠ L' + 1 + 1 + 1 + 1 + 1 := fun p hp => nS p hp _ hc5B
      obtain ⟨gB, U, hgB⟩ : ∃ gB, UpdF (L' + 1 + 1 + 1 + 1 + 1) c5 B gB ∧ ∀ o', gB o' = (d, od) :: (sl, listO ws ws.length) :: (L' + 1 + 1 + 1 + 1 + 1 + 1 + 1, c7) :: (L' + 1 + 1 + 1 + 1 + 1 + 1, c6) :: (L' + 1 + 1 + 1 + 1 + 1, o') :: (L' + 1 + 1 + 1 + 1, c4) :: (L' + 1 + 1 + 1, c3') :: (L' + 1 + 1, c2) :: (L' + 1, c1) :: D := by
        rw [← hB]
        exact ⟨_, by k_updF, fun _ => rfl⟩
      refine storeX_C FS NS (by rfl) (UpdF.tail hDS5 (updF_app nS5 U)) e5 ?_
      intro h7 c5' F7 N7 e5'
      rw [hgB] at N7
      obtain ⟨led2, hled2⟩ : ∃ led2, (DS, LCg.lst (c.map fun p => Value.ref p.1)) :: (spanObjs c ++ ((d, od) :: (sl, listO ws ws.length) :: (L' + 1 + 1 + 1 + 1 + 1 + 1 + 1, c7) :: (L' + 1 + 1 + 1 + 1 + 1 + 1, c6) :: (L' + 1 + 1 + 1 + 1 + 1, c5') :: (L' + 1 + 1 + 1 + 1, c4) :: (L' + 1 + 1 + 1, c3') :: (L' + 1 + 1, c2) :: (L' + 1, c1) :: D)) = led2 := ⟨_, rfl⟩
      rw [hled2] at N7
      have q2 : ∀ p ∈ (d, od) :: (sl, listO ws ws.length) :: (L' + 1 + 1 + 1 + 1 + 1 + 1 + 1, c7) :: (L' + 1 + 1 + 1 + 1 + 1 + 1, c6) :: (L' + 1 + 1 + 1 + 1 + 1, c5') :: (L' + 1 + 1 + 1 + 1, c4) :: (L' + 1 + 1 + 1, c3') :: (L' + 1 + 1, c2) :: (L' + 1, c1) :: D, p ∈ led2 := fun p hp => by rw [← hled2]; exact .tail _ (List.mem_append_right _ hp)
      have k5 : (L' + 1 + 1 + 1 + 1 + 1, c5') ∈ led2 := q2 _ (.tail _ (.tail _ (.tail _ (.tail _ (.head _)))))
      have k2 : (L' + 1 + 1, c2) ∈ led2 := q2 _ (.tail _ (.tail _ (.tail _ (.tail _ (.tail _ (.tail _ (.tail _ (.head _))))))))
      have k1 : (L' + 1, c1) ∈ led2 := q2 _ (.tail _ (.tail _ (.tail _ (.tail _ (.tail _ (.tail _ (.tail _ (.tail _ (.head _)))))))))
      have kD : ∀ p ∈ D, p ∈ led2 := fun p hp => q2 _ (.tail _ (.tail _ (.tail _ (.tail _ (.tail _ (.tail _ (.tail _ (.tail _ (.tail _ hp)))))))))
      have kS : (DS, LCg.lst (c.map fun p => Value.ref p.1)) ∈ led2 := by rw [← hled2]; exact .head _
      have kO : ∀ p ∈ spanObjs c, p ∈ led2 := fun p hp => by rw [← hled2]; exact .tail _ (List.mem_append_left _ hp)
      clear FS NS
      repeat ((fail_if_success (with_reducible show wpAny _ _ (PySem.eval (Expr.ListComp _ _ _ _) _) _ _ _)); first | walk1 | (dsimp only; walk1))
      have hrk := kD _ hr
      refine pair_filter (led := led2) (fp := fp) (vs := fvs) (ep := fep) (fun p => !lawLies o (rows.getD p.2 Row.none) (spanL o (rows.getD p.2 Row.none)) p.1) (by rfl) (hfo.sub kD) (kD _ hf) (by omega) (by with_unfolding_all rfl) (by decide) (by rfl) (by decide) (by rfl) (by rfl) (by decide) ?_ F7 N7 (fun _ => rfl) (fun _ => rfl) (by decide) ?_ ?_
      · walk1
        exact ⟨rfl, rfl⟩
      · intro i p t1 t2 J oJ C oC DD m₂ h8 tk8 ys E' hp hC hx1 hx2 F8 N8 off8 ne8
        clear F7 N7
        have hp2 := hin p (List.mem_of_getElem? hp)
        obtain ⟨v, hv, a, u1, u2, u3, u4, rfl, ha⟩ := hrows.get (List.getElem?_eq_getElem hp2)
        have hro := hok _ (List.getElem_mem hp2)
        obtain ⟨⟨sa, svs⟩, hps, hsi⟩ := p2.get (i := p.2) (b := rows[p.2]) (by simp [hp2])
        have hsv : (c.map fun p => Value.ref p.1)[((p.2 : Nat) : Int).toNat]? = some (.ref sa) := by simp [hps]
        have hso : (sa, listO svs svs.length) ∈ led2 := kO _ (List.mem_map.mpr ⟨_, List.mem_of_getElem? hps, rfl⟩)
        have hv2 : vs[((p.2 : Nat) : Int).toNat]? = some (.ref a) := by simpa using hv
        have ha2 := kD _ ha
        clear hled2 q2
        repeat ((fail_if_success (with_reducible show wpAny _ _ (call (Value.ref 186) _) _ _ _)); first | walk1 | (dsimp only; walk1))
        with_reducible rename News _ _ _ _ => N8
        refine law_lies_spec (H := H) (n := p.1) (span := spanL o rows[p.2]) (r := rows[p.2]) (Fine.after FG F8.keep) (by show _ < _; simp only [depth_deeper]; omega) ho (fun q hq => led FG N8 hq) (.tail _ (.tail _ (.tail _ ha2))) hro.1 (.tail _ (.tail _ (.tail _ hso))) hsi ?_
        intro tk9 h9 hs9
        have F9 := F8.after hs9
        have N9 := N8.grown hs9
        walk1
        show FilterPost _ _ _ _ _ _ _ _
        refine FilterPost.intro F9 N9 ?_
        rw [show rows.getD p.2 Row.none = rows[p.2] by simp [hp2]]
      · intro DP hP tkP ysP FP NP hyP
        clear F7 N7
        replace hyP : IntsOf ysP (wrongFits o rows fp) := hyP
        repeat ((fail_if_success (with_reducible show wpAny _ _ (compareOp _ _ _) _ _ _)); first | walk1 | (dsimp only; walk1))
        with_reducible rename Fr _ _ _ _ => F1
        with_reducible rename News _ _ _ _ => N1
        refine ne_lists (ys := []) (News.isList N1 (.tail _ (.head _))) (News.isList N1 (.head _)) hyP .nil (by show un9 + 3 < cLine; have : un9 < 4000 := hU; unfold cLine; omega) ?_
        by_cases hW : wrongFits o rows fp = []
        · rw [decide_eq_true hW]
          repeat ((fail_if_success (with_reducible show wpAny _ _ (exec (Stmt.For _ _ _ _ _) _) _ _ _)); first | walk1 | (dsimp only; walk1))
          refine wpAny_For ?_
          repeat ((fail_if_success (with_reducible show wpAny _ _ (pyIter _) _ _ _)); first | walk1 | (dsimp only; walk1))
          with_reducible rename Fr _ _ _ _ => F1
          with_reducible rename News _ _ _ _ => N1
          refine PyProof.Rows.len_list (News.isList N1 (.tail _ (.tail _ hrk))) (by simp [hrows.len]; omega) ?_
          repeat ((fail_if_success (with_reducible show wpAny _ _ (pyIter _) _ _ _)); first | walk1 | (dsimp only; walk1))
          with_reducible rename Fr _ _ _ _ => F1
          with_reducible rename News _ _ _ _ => N1
          with_reducible rename IsRange _ _ _ _ _ _ _ _ => HR
          obtain ⟨R, hR⟩ : ∃ R, (DP, LCg.lst ysP) :: (DS, LCg.lst (c.map fun p => Value.ref p.1)) :: (d, od) :: (sl, listO ws ws.length) :: (L' + 1 + 1 + 1 + 1 + 1, c5') :: (L' + 1 + 1 + 1, c3') :: (L' + 1 + 1, c2) :: (L' + 1, c1) :: (spanObjs c ++ D) = R := ⟨_, rfl⟩
          have k7 : (L' + 1 + 1 + 1 + 1 + 1 + 1 + 1, c7) ∈ led2 := q2 _ (.tail _ (.tail _ (.head _)))
          have k6 : (L' + 1 + 1 + 1 + 1 + 1 + 1, c6) ∈ led2 := q2 _ (.tail _ (.tail _ (.tail _ (.head _))))
          have k4 : (L' + 1 + 1 + 1 + 1, c4) ∈ led2 := q2 _ (.tail _ (.tail _ (.tail _ (.tail _ (.tail _ (.head _))))))
          have k3 : (L' + 1 + 1 + 1, c3') ∈ led2 := q2 _ (.tail _ (.tail _ (.tail _ (.tail _ (.tail _ (.tail _ (.head _)))))))
          have kd : (d, od) ∈ led2 := q2 _ (.head _)
          have kl : (sl, listO ws ws.length) ∈ led2 := q2 _ (.tail _ (.head _))
          have N2 := kst_newsOf (l' := (DP, LCg.lst ysP) :: led2) N1 (fun p hp => .tail _ hp)
          have hRin : ∀ p ∈ R, p ∈ (DP, LCg.lst ysP) :: led2 := by
            rw [← hR]
            intro p hp
            rcases List.mem_cons.mp hp with rfl | hp
            · exact .head _
            refine .tail _ ?_
            rcases List.mem_cons.mp hp with rfl | hp
            · exact kS
            rcases List.mem_cons.mp hp with rfl | hp
            · exact kd
            rcases List.mem_cons.mp hp with rfl | hp
            · exact kl
            rcases List.mem_cons.mp hp with rfl | hp
            · exact k5
            rcases List.mem_cons.mp hp with rfl | hp
            · exact k3
            rcases List.mem_cons.mp hp with rfl | hp
            · exact k2
            rcases List.mem_cons.mp hp with rfl | hp
            · exact k1
            rcases List.mem_append.mp hp with hp | hp
            · exact kO p hp
            · exact kD p hp
          have hdd : ∀ v, od.data ≠ Data.cell v := by
            obtain ⟨_, _, ⟨_, _, _, h9, _⟩, _⟩ := hT
            intro v hv
            rw [h9] at hv
            cases hv
          have hRne : ∀ x cx v, (x, cx) ∈ led2 → cx.data = Data.cell v → @Ne Nat x (L' + 1 + 1 + 1 + 1 + 1) → @Ne Nat x (L' + 1 + 1 + 1) → @Ne Nat x (L' + 1 + 1) → @Ne Nat x (L' + 1) → (∀ p ∈ D, p.1 ≠ x) → ∀ p ∈ R, p.1 ≠ x := by
            intro x cx v hx hv n5 n3 n2 n1 nD p hp
            have hx2 := List.Mem.tail (DP, LCg.lst ysP) hx
            have hp2 := hRin p hp
            rw [← hR] at hp
            rcases List.mem_cons.mp hp with rfl | hp
            · exact ne_cell N2 hp2 hx2 hv (by simp)
            rcases List.mem_cons.mp hp with rfl | hp
            · exact ne_cell N2 hp2 hx2 hv (by simp)
            rcases List.mem_cons.mp hp with rfl | hp
            · exact ne_cell N2 hp2 hx2 hv hdd
            rcases List.mem_cons.mp hp with rfl | hp
            · exact ne_cell N2 hp2 hx2 hv (by simp)
            rcases List.mem_cons.mp hp with rfl | hp
            · exact Ne.symm n5
            rcases List.mem_cons.mp hp with rfl | hp
            · exact Ne.symm n3
            rcases List.mem_cons.mp hp with rfl | hp
            · exact Ne.symm n2
            rcases List.mem_cons.mp hp with rfl | hp
            · exact Ne.symm n1
            rcases List.mem_append.mp hp with hp | hp
            · obtain ⟨y, hy, rfl⟩ := List.mem_map.mp hp
              exact ne_cell N2 hp2 hx2 hv (by simp)
            · exact nD p hp
          have r7 := hRne _ _ _ k7 e7 (by omega) (by omega) (by omega) (by omega) a7
          have r6 := hRne _ _ _ k6 e6 (by omega) (by omega) (by omega) (by omega) a6
          have r4 := hRne _ _ _ k4 e4 (by omega) (by omega) (by omega) (by omega) a4
          have N3 : News g L' _ ((L' + 1 + 1 + 1 + 1 + 1 + 1 + 1, c7) :: (L' + 1 + 1 + 1 + 1 + 1 + 1, c6) :: (L' + 1 + 1 + 1 + 1, c4) :: R) := kst_newsOf N2 (fun p hp => by
            rcases List.mem_cons.mp hp with rfl | hp
            · exact .tail _ k7
            rcases List.mem_cons.mp hp with rfl | hp
            · exact .tail _ k6
            rcases List.mem_cons.mp hp with rfl | hp
            · exact .tail _ k4
            exact hRin p hp)
          have m5 : (L' + 1 + 1 + 1 + 1 + 1, c5') ∈ R := by rw [← hR]; exact .tail _ (.tail _ (.tail _ (.tail _ (.head _))))
          have m3 : (L' + 1 + 1 + 1, c3') ∈ R := by rw [← hR]; exact .tail _ (.tail _ (.tail _ (.tail _ (.tail _ (.head _)))))
          have m2 : (L' + 1 + 1, c2) ∈ R := by rw [← hR]; exact .tail _ (.tail _ (.tail _ (.tail _ (.tail _ (.tail _ (.head _))))))
          have m1 : (L' + 1, c1) ∈ R := by rw [← hR]; exact .tail _ (.tail _ (.tail _ (.tail _ (.tail _ (.tail _ (.tail _ (.head _)))))))
          have mS : (DS, LCg.lst (c.map fun p => Value.ref p.1)) ∈ R := by rw [← hR]; exact .tail _ (.head _)
          have md : (d, od) ∈ R := by rw [← hR]; exact .tail _ (.tail _ (.head _))
          have ml : (sl, listO ws ws.length) ∈ R := by rw [← hR]; exact .tail _ (.tail _ (.tail _ (.head _)))
          have mO : ∀ p ∈ spanObjs c, p ∈ R := fun p hp => by rw [← hR]; exact .tail _ (.tail _ (.tail _ (.tail _ (.tail _ (.tail _ (.tail _ (.tail _ (List.mem_append_left _ hp))))))))
          have mD : ∀ p ∈ D, p ∈ R := fun p hp => by rw [← hR]; exact .tail _ (.tail _ (.tail _ (.tail _ (.tail _ (.tail _ (.tail _ (.tail _ (List.mem_append_right _ hp))))))))
          refine for_rangeC (σ := WrS) (fun x => (L' + 1 + 1 + 1 + 1 + 1 + 1 + 1, x.k7) :: (L' + 1 + 1 + 1 + 1 + 1 + 1, x.k6) :: (L' + 1 + 1 + 1 + 1, x.k4) :: R) (fun i x => (∃ v, x.k7.data = Data.cell v) ∧ (∃ v, x.k6.data = Data.cell v) ∧ (∃ v, x.k4.data = Data.cell v) ∧ ∀ n < i, rowRight o (rows.getD n Row.none) n rows.length st fp = true) ⟨c7, c6, c4⟩ rows.length (by rfl) HR ⟨by omega, by simp [hrows.len]; omega⟩ (by simp [hrows.len]) F1 N3 ⟨⟨_, e7⟩, ⟨_, e6⟩, ⟨_, e4⟩, fun n hn => absurd hn (Nat.not_lt_zero _)⟩ ?_ ?_
          · rintro i ⟨x7, x6, x4⟩ t h8 tk8 it oit hi ⟨⟨v7, hv7⟩, ⟨v6, hv6⟩, ⟨v4, hv4⟩, hI⟩ F2 N4 hit
            dsimp only at N4 hv7 hv6 hv4 hit
            have n7 : @Ne Nat it (L' + 1 + 1 + 1 + 1 + 1 + 1 + 1) := Ne.symm (hit _ (.head _))
            have n6 : @Ne Nat it (L' + 1 + 1 + 1 + 1 + 1 + 1) := Ne.symm (hit _ (.tail _ (.head _)))
            have n4 : @Ne Nat it (L' + 1 + 1 + 1 + 1) := Ne.symm (hit _ (.tail _ (.tail _ (.head _))))
            have nR : ∀ p ∈ R, p.1 ≠ it := fun p hp => hit p (.tail _ (.tail _ (.tail _ hp)))
            obtain ⟨r, hrI⟩ : ∃ r, rows[i] = r := ⟨_, rfl⟩
            have hgD : rows.getD i Row.none = r := by rw [← hrI]; simp [hi]
            obtain ⟨v, hv, a, u1, u2, u3, u4, rfl, ha⟩ := hrows.get (List.getElem?_eq_getElem hi)
            rw [hrI] at ha
            have hro : okRow r := hrI ▸ hok _ (List.getElem_mem hi)
            obtain ⟨⟨sa, svs⟩, hps, hsi⟩ := p2.get (i := i) (b := r) (by simp [hi, hrI])
            dsimp only at hsi
            have hsv : (c.map fun p => Value.ref p.1)[((i : Nat) : Int).toNat]? = some (.ref sa) := by simp [hps]
            have hso : (sa, listO svs svs.length) ∈ R := mO _ (List.mem_map.mpr ⟨_, List.mem_of_getElem? hps, rfl⟩)
            have hv2 : vs[((i : Nat) : Int).toNat]? = some (.ref a) := by simpa using hv
            have ha2 := mD _ ha
            have hr2 := mD _ hr
            rw [Int.zero_add]
            clear hRin hRne N2 N3 N1 F1 hR q2 hled2
            repeat ((fail_if_success (with_reducible show wpAny _ _ (exec (Stmt.If _ _ _ _) _) _ _ _)); first | walk1 | (dsimp only; walk1))
            with_reducible rename Fr _ _ _ _ => F5
            with_reducible rename News _ _ _ _ => N5
            obtain ⟨x7, x6, x4, led4, N5, hE7, hE6, hE4, hEnd⟩ : ∃ (x7 x6 x4 : Obj) (led4 : List (Addr × Obj)), News g L' _ led4 ∧ x7.data = Data.cell (some (.ref sa)) ∧ x6.data = Data.cell (some (.int (i : Nat) t)) ∧ x4.data = Data.cell (some (.ref a)) ∧ (∀ p ∈ (it, oit) :: (L' + 1 + 1 + 1 + 1 + 1 + 1 + 1, x7) :: (L' + 1 + 1 + 1 + 1 + 1 + 1, x6) :: (L' + 1 + 1 + 1 + 1, x4) :: R, p ∈ led4) :=
              ⟨_, _, _, _, N5, by assumption, by assumption, by assumption, fun p hp => .tail _ hp⟩
            have g7 : (L' + 1 + 1 + 1 + 1 + 1 + 1 + 1, x7) ∈ led4 := hEnd _ (.tail _ (.head _))
            have g6 : (L' + 1 + 1 + 1 + 1 + 1 + 1, x6) ∈ led4 := hEnd _ (.tail _ (.tail _ (.head _)))
            have g4 : (L' + 1 + 1 + 1 + 1, x4) ∈ led4 := hEnd _ (.tail _ (.tail _ (.tail _ (.head _))))
            have gR : ∀ p ∈ R, p ∈ led4 := fun p hp => hEnd p (.tail _ (.tail _ (.tail _ (.tail _ hp))))
            have g5 := gR _ m5
            have g3 := gR _ m3
            have g2 := gR _ m2
            have g1 := gR _ m1
            have gd := gR _ md
            have gl := gR _ ml
            have gs := gR _ hso
            have ga := gR _ ha2
            have gr := gR _ hr2
            have gD : ∀ p ∈ D, p ∈ led4 := fun p hp => gR p (mD p hp)
            have hWF : rowRight o r i rows.length st fp = false → walkRight o rows fp = false := fun h => wr_false hss hi (by rw [hgD]; exact h)
            have hLne : ∀ p ∈ (L' + 1 + 1 + 1 + 1 + 1 + 1 + 1, x7) :: (L' + 1 + 1 + 1 + 1 + 1 + 1, x6) :: (L' + 1 + 1 + 1 + 1, x4) :: R, p.1 ≠ it := by
              intro p hp
              rcases List.mem_cons.mp hp with rfl | hp
              · exact Ne.symm n7
              rcases List.mem_cons.mp hp with rfl | hp
              · exact Ne.symm n6
              rcases List.mem_cons.mp hp with rfl | hp
              · exact Ne.symm n4
              exact nR p hp
            have hI2 : rowRight o r i rows.length st fp = true → ∀ n < i + 1, rowRight o (rows.getD n Row.none) n rows.length st fp = true := fun h n hn => by
              by_cases e : n = i
              · rw [e, hgD]; exact h
              · exact hI n (by omega)
            have hst1000 : st.length < 1000 := Nat.lt_of_le_of_lt (stood_len hss) ho
            obtain ⟨kind, wn, bf, af⟩ := r
            clear m5 m3 m2 m1 mS md ml mO mD r7 r6 r4 n7 n6 n4 nR hit hv7 hv6 hv4
            cases kind
            all_goals dsimp only [rowObj, wantedV, Kind.str] at ga
            all_goals (repeat ((fail_if_success (with_reducible show wpAny _ _ (call (Value.ref 203) _) _ _ _)); (fail_if_success (with_reducible show wpAny _ _ (call (Value.ref 208) _) _ _ _)); (fail_if_success (with_reducible show wpAny _ _ (PySem.eval (Expr.ListComp _ _ _ _) _) _ _ _)); first | walk1 | (dsimp only; walk1)))
            · with_reducible rename Fr _ _ _ _ => F6
              with_reducible rename News _ _ _ _ => N6
              replace N6 := kst_newsOf (l' := led4) N6 (fun p hp => .tail _ hp)
              dsimp only
              refine LCt.ListComp_T (F₀ := F6) (by with_unfolding_all rfl) (by decide) (by rfl) (by decide) (by rfl) ?_
              walk1
              refine LCt.CompSrcT.ledger (its := ws.toArray) (k := ws.length) (by rfl) F6 N6 gl (by simp [intsOf_len hws]; unfold sizeLine; omega) ?_
              intro hq2
              rw [show ws.toArray.size = st.length by simp [intsOf_len hws]]
              refine comp_filter led4 st (fun m => lawLies o ⟨.all, wn, bf, af⟩ (spanL o ⟨.all, wn, bf, af⟩) m && decide (i < (takenAt fp m).getD rows.length)) ws hws gl ?_ ?_ (fun _ => rfl) (fun _ => rfl) (by decide) _ 0 [] (by omega) .nil
              · intro i2 n t2 J oJ C oC DD m₂ h3 tk3 ys E' hi2 hC hx F3 N3 off ne
                clear F6 N6
                repeat ((fail_if_success (with_reducible show wpAny _ _ (call (Value.ref 186) _) _ _ _)); first | walk1 | (dsimp only; walk1))
                with_reducible rename News _ _ _ _ => N3
                refine law_lies_spec (H := H) (n := n) (span := spanL o ⟨.all, wn, bf, af⟩) (r := ⟨.all, wn, bf, af⟩) (t2 := u2) (Fine.after FG F3.keep) (by show _ < _; simp only [depth_deeper]; omega) ho (fun q hq => led FG N3 hq) (.tail _ (.tail _ (.tail _ ga))) hro.1 (.tail _ (.tail _ (.tail _ gs))) hsi ?_
                intro tkL hL hsL
                have F4 := F3.after hsL
                have N4 := N3.grown hsL
                clear F3 N3
                cases hb : lawLies o ⟨.all, wn, bf, af⟩ (spanL o ⟨.all, wn, bf, af⟩) n
                · repeat' ((fail_if_success (with_reducible show wpAny _ _ (call (Value.ref 203) _) _ _ _)); (fail_if_success (with_reducible show wpAny _ _ (call (Value.ref 208) _) _ _ _)); (fail_if_success (with_reducible show wpAny _ _ (PySem.eval (Expr.ListComp _ _ _ _) _) _ _ _)); first | walk1 | (dsimp only; walk1))
                  refine FilterPost.intro (by assumption) (by assumption) ?_
                  rw [hb]
                  rfl
                · repeat ((fail_if_success (with_reducible show wpAny _ _ (call (Value.builtin "len") _) _ _ _)); first | walk1 | (dsimp only; walk1))
                  with_reducible rename News _ _ _ _ => N4
                  refine PyProof.Rows.len_list (News.isList N4 (.tail _ (.tail _ (.tail _ gr)))) (by simp [hrows.len]; omega) ?_
                  have hvr : vs.toArray.size = rows.length := by simp [hrows.len]
                  repeat' ((fail_if_success (with_reducible show wpAny _ _ (call (Value.ref 203) _) _ _ _)); (fail_if_success (with_reducible show wpAny _ _ (call (Value.ref 208) _) _ _ _)); (fail_if_success (with_reducible show wpAny _ _ (PySem.eval (Expr.ListComp _ _ _ _) _) _ _ _)); first | walk1 | (dsimp only; walk1))
                  all_goals refine FilterPost.intro (by assumption) (by assumption) ?_
                  all_goals (rename (takenAt _ _ = _) => hk; rw [hk, hb, Bool.true_and])
                  all_goals simp
                  all_goals omega
              · intro ys1 hys1 D1 h1 tk1 F1 N1 o1
                clear F6 N6
                replace hys1 : IntsOf ys1 (lateOnes o ⟨.all, wn, bf, af⟩ i rows.length st fp) := hys1
                repeat ((fail_if_success (with_reducible show wpAny _ _ (compareOp _ _ _) _ _ _)); first | walk1 | (dsimp only; walk1))
                with_reducible rename Fr _ _ _ _ => F1
                with_reducible rename News _ _ _ _ => N1
                refine ne_lists (ys := []) (News.isList N1 (.tail _ (.head _))) (News.isList N1 (.head _)) hys1 .nil (by show un9 + 3 < cLine; have : un9 < 4000 := hU; unfold cLine; omega) ?_
                by_cases hb : lateOnes o ⟨.all, wn, bf, af⟩ i rows.length st fp = []
                · rw [decide_eq_true hb]
                  repeat' ((fail_if_success (with_reducible show wpAny _ _ (call (Value.ref 203) _) _ _ _)); (fail_if_success (with_reducible show wpAny _ _ (call (Value.ref 208) _) _ _ _)); (fail_if_success (with_reducible show wpAny _ _ (PySem.eval (Expr.ListComp _ _ _ _) _) _ _ _)); first | walk1 | (dsimp only; walk1))
                  with_reducible rename Fr _ _ _ _ => F9
                  with_reducible rename News _ _ _ _ => N9
                  exact TurnC.intro ⟨x7, x6, x4⟩ F9 N9 (fun p hp => .tail _ (.tail _ (hEnd p hp))) hLne ⟨⟨_, hE7⟩, ⟨_, hE6⟩, ⟨_, hE4⟩, hI2 (decide_eq_true hb)⟩
                · rw [decide_eq_false hb]
                  repeat' ((fail_if_success (with_reducible show wpAny _ _ (call (Value.ref 203) _) _ _ _)); (fail_if_success (with_reducible show wpAny _ _ (call (Value.ref 208) _) _ _ _)); (fail_if_success (with_reducible show wpAny _ _ (PySem.eval (Expr.ListComp _ _ _ _) _) _ _ _)); first | walk1 | (dsimp only; walk1))
                  with_reducible rename Fr _ _ _ _ => F9
                  with_reducible rename News _ _ _ _ => N9
                  show Q _ _
                  exact fin_bool (hQ _ _ (all_stand kOut F9 (fun p hp => (hD p hp).1) N9 fun p hp => .tail _ (.tail _ (gD p hp)))) (hWF (decide_eq_false hb))
            · with_reducible rename Fr _ _ _ _ => F6
              with_reducible rename News _ _ _ _ => N6
              refine law_leading_right_spec (H := H) (r := ⟨.leading, wn, bf, af⟩) (number := i) (span := spanL o ⟨.leading, wn, bf, af⟩) (stood := st) (fp := fp) (Fine.after FG F6.keep) (by show _ < _; simp only [depth_deeper]; omega) (by show un9 + 3 < 5000; have : un9 < 4000 := hU; omega) (by rfl) ho (fun q hq => led FG N6 hq) ga hro.1 gs hsi gl hws gd hT hst1000 ?_
              intro tkA hA hsA
              have F7 := F6.after hsA
              have N7 := N6.grown hsA
              clear F6 N6
              cases hb : leadingRight o ⟨.leading, wn, bf, af⟩ i (spanL o ⟨.leading, wn, bf, af⟩) st fp
              · repeat' ((fail_if_success (with_reducible show wpAny _ _ (call (Value.ref 203) _) _ _ _)); (fail_if_success (with_reducible show wpAny _ _ (call (Value.ref 208) _) _ _ _)); (fail_if_success (with_reducible show wpAny _ _ (PySem.eval (Expr.ListComp _ _ _ _) _) _ _ _)); first | walk1 | (dsimp only; walk1))
                with_reducible rename Fr _ _ _ _ => F9
                with_reducible rename News _ _ _ _ => N9
                show Q _ _
                exact fin_bool (hQ _ _ (all_stand kOut F9 (fun p hp => (hD p hp).1) N9 gD)) (hWF hb)
              · repeat' ((fail_if_success (with_reducible show wpAny _ _ (call (Value.ref 203) _) _ _ _)); (fail_if_success (with_reducible show wpAny _ _ (call (Value.ref 208) _) _ _ _)); (fail_if_success (with_reducible show wpAny _ _ (PySem.eval (Expr.ListComp _ _ _ _) _) _ _ _)); first | walk1 | (dsimp only; walk1))
                with_reducible rename Fr _ _ _ _ => F9
                with_reducible rename News _ _ _ _ => N9
                exact TurnC.intro ⟨x7, x6, x4⟩ F9 N9 (fun p hp => .tail _ (hEnd p hp)) hLne ⟨⟨_, hE7⟩, ⟨_, hE6⟩, ⟨_, hE4⟩, hI2 hb⟩
            · with_reducible rename Fr _ _ _ _ => F6
              with_reducible rename News _ _ _ _ => N6
              refine law_first_right_spec (H := H) (r := ⟨.first, wn, bf, af⟩) (number := i) (span := spanL o ⟨.first, wn, bf, af⟩) (stood := st) (fp := fp) (Fine.after FG F6.keep) (by show _ < _; simp only [depth_deeper]; omega) (by show un9 + 3 < 5000; have : un9 < 4000 := hU; omega) (by rfl) ho (fun q hq => led FG N6 hq) ga hro.1 gs hsi gl hws gd hT hst1000 ?_
              intro tkA hA hsA
              have F7 := F6.after hsA
              have N7 := N6.grown hsA
              clear F6 N6
              cases hb : firstRight o ⟨.first, wn, bf, af⟩ i (spanL o ⟨.first, wn, bf, af⟩) st fp
              · repeat' ((fail_if_success (with_reducible show wpAny _ _ (call (Value.ref 203) _) _ _ _)); (fail_if_success (with_reducible show wpAny _ _ (call (Value.ref 208) _) _ _ _)); (fail_if_success (with_reducible show wpAny _ _ (PySem.eval (Expr.ListComp _ _ _ _) _) _ _ _)); first | walk1 | (dsimp only; walk1))
                with_reducible rename Fr _ _ _ _ => F9
                with_reducible rename News _ _ _ _ => N9
                show Q _ _
                exact fin_bool (hQ _ _ (all_stand kOut F9 (fun p hp => (hD p hp).1) N9 gD)) (hWF hb)
              · repeat' ((fail_if_success (with_reducible show wpAny _ _ (call (Value.ref 203) _) _ _ _)); (fail_if_success (with_reducible show wpAny _ _ (call (Value.ref 208) _) _ _ _)); (fail_if_success (with_reducible show wpAny _ _ (PySem.eval (Expr.ListComp _ _ _ _) _) _ _ _)); first | walk1 | (dsimp only; walk1))
                with_reducible rename Fr _ _ _ _ => F9
                with_reducible rename News _ _ _ _ => N9
                exact TurnC.intro ⟨x7, x6, x4⟩ F9 N9 (fun p hp => .tail _ (hEnd p hp)) hLne ⟨⟨_, hE7⟩, ⟨_, hE6⟩, ⟨_, hE4⟩, hI2 hb⟩
            · with_reducible rename Fr _ _ _ _ => F6
              with_reducible rename News _ _ _ _ => N6
              replace N6 := kst_newsOf (l' := led4) N6 (fun p hp => .tail _ hp)
              dsimp only
              refine LCt.ListComp_T (F₀ := F6) (by with_unfolding_all rfl) (by decide) (by rfl) (by decide) (by rfl) ?_
              walk1
              refine LCt.CompSrcT.ledger (its := ws.toArray) (k := ws.length) (by rfl) F6 N6 gl (by simp [intsOf_len hws]; unfold sizeLine; omega) ?_
              intro hq2
              rw [show ws.toArray.size = st.length by simp [intsOf_len hws]]
              refine comp_filter led4 st (fun m => lawLies o ⟨.chars, wn, bf, af⟩ (spanL o ⟨.chars, wn, bf, af⟩) m && decide (i < (takenAt fp m).getD rows.length)) ws hws gl ?_ ?_ (fun _ => rfl) (fun _ => rfl) (by decide) _ 0 [] (by omega) .nil
              · intro i2 n t2 J oJ C oC DD m₂ h3 tk3 ys E' hi2 hC hx F3 N3 off ne
                clear F6 N6
                repeat ((fail_if_success (with_reducible show wpAny _ _ (call (Value.ref 186) _) _ _ _)); first | walk1 | (dsimp only; walk1))
                with_reducible rename News _ _ _ _ => N3
                refine law_lies_spec (H := H) (n := n) (span := spanL o ⟨.chars, wn, bf, af⟩) (r := ⟨.chars, wn, bf, af⟩) (t2 := u2) (Fine.after FG F3.keep) (by show _ < _; simp only [depth_deeper]; omega) ho (fun q hq => led FG N3 hq) (.tail _ (.tail _ (.tail _ ga))) hro.1 (.tail _ (.tail _ (.tail _ gs))) hsi ?_
                intro tkL hL hsL
                have F4 := F3.after hsL
                have N4 := N3.grown hsL
                clear F3 N3
                cases hb : lawLies o ⟨.chars, wn, bf, af⟩ (spanL o ⟨.chars, wn, bf, af⟩) n
                · repeat' ((fail_if_success (with_reducible show wpAny _ _ (call (Value.ref 203) _) _ _ _)); (fail_if_success (with_reducible show wpAny _ _ (call (Value.ref 208) _) _ _ _)); (fail_if_success (with_reducible show wpAny _ _ (PySem.eval (Expr.ListComp _ _ _ _) _) _ _ _)); first | walk1 | (dsimp only; walk1))
                  refine FilterPost.intro (by assumption) (by assumption) ?_
                  rw [hb]
                  rfl
                · repeat ((fail_if_success (with_reducible show wpAny _ _ (call (Value.builtin "len") _) _ _ _)); first | walk1 | (dsimp only; walk1))
                  with_reducible rename News _ _ _ _ => N4
                  refine PyProof.Rows.len_list (News.isList N4 (.tail _ (.tail _ (.tail _ gr)))) (by simp [hrows.len]; omega) ?_
                  have hvr : vs.toArray.size = rows.length := by simp [hrows.len]
                  repeat' ((fail_if_success (with_reducible show wpAny _ _ (call (Value.ref 203) _) _ _ _)); (fail_if_success (with_reducible show wpAny _ _ (call (Value.ref 208) _) _ _ _)); (fail_if_success (with_reducible show wpAny _ _ (PySem.eval (Expr.ListComp _ _ _ _) _) _ _ _)); first | walk1 | (dsimp only; walk1))
                  all_goals refine FilterPost.intro (by assumption) (by assumption) ?_
                  all_goals (rename (takenAt _ _ = _) => hk; rw [hk, hb, Bool.true_and])
                  all_goals simp
                  all_goals omega
              · intro ys1 hys1 D1 h1 tk1 F1 N1 o1
                clear F6 N6
                replace hys1 : IntsOf ys1 (lateOnes o ⟨.chars, wn, bf, af⟩ i rows.length st fp) := hys1
                repeat ((fail_if_success (with_reducible show wpAny _ _ (compareOp _ _ _) _ _ _)); first | walk1 | (dsimp only; walk1))
                with_reducible rename Fr _ _ _ _ => F1
                with_reducible rename News _ _ _ _ => N1
                refine ne_lists (ys := []) (News.isList N1 (.tail _ (.head _))) (News.isList N1 (.head _)) hys1 .nil (by show un9 + 3 < cLine; have : un9 < 4000 := hU; unfold cLine; omega) ?_
                by_cases hb : lateOnes o ⟨.chars, wn, bf, af⟩ i rows.length st fp = []
                · rw [decide_eq_true hb]
                  repeat' ((fail_if_success (with_reducible show wpAny _ _ (call (Value.ref 203) _) _ _ _)); (fail_if_success (with_reducible show wpAny _ _ (call (Value.ref 208) _) _ _ _)); (fail_if_success (with_reducible show wpAny _ _ (PySem.eval (Expr.ListComp _ _ _ _) _) _ _ _)); first | walk1 | (dsimp only; walk1))
                  with_reducible rename Fr _ _ _ _ => F9
                  with_reducible rename News _ _ _ _ => N9
                  exact TurnC.intro ⟨x7, x6, x4⟩ F9 N9 (fun p hp => .tail _ (.tail _ (hEnd p hp))) hLne ⟨⟨_, hE7⟩, ⟨_, hE6⟩, ⟨_, hE4⟩, hI2 (decide_eq_true hb)⟩
                · rw [decide_eq_false hb]
                  repeat' ((fail_if_success (with_reducible show wpAny _ _ (call (Value.ref 203) _) _ _ _)); (fail_if_success (with_reducible show wpAny _ _ (call (Value.ref 208) _) _ _ _)); (fail_if_success (with_reducible show wpAny _ _ (PySem.eval (Expr.ListComp _ _ _ _) _) _ _ _)); first | walk1 | (dsimp only; walk1))
                  with_reducible rename Fr _ _ _ _ => F9
                  with_reducible rename News _ _ _ _ => N9
                  show Q _ _
                  exact fin_bool (hQ _ _ (all_stand kOut F9 (fun p hp => (hD p hp).1) N9 fun p hp => .tail _ (.tail _ (gD p hp)))) (hWF (decide_eq_false hb))
          · rintro ⟨x7, x6, x4⟩ h8 tk8 ⟨_, _, _, hI⟩ F2 N4
            dsimp only at N4
            dsimp only
            repeat' (first | ((with_reducible show wpAny _ _ (exec (Stmt.Raise _ _ _) _) _ _ _); exfalso; omega) | (k_unfold; (try dsimp only)) | (k_end; wrow_close) | ((fail_if_success (with_reducible show wpAny _ _ (pyIter _) _ _ _)); (fail_if_success (with_reducible show wpAny _ _ (PySem.eval (Expr.ListComp _ _ _ _) _) _ _ _)); (fail_if_success (with_reducible show wpAny _ _ (PySem.exec (Stmt.Assign _ (Expr.ListComp _ _ _ _) _) _) _ _ _)); (fail_if_success (with_reducible show wpAny _ _ (isTrue (Expr.Compare (Expr.ListComp _ _ _ _) _ _ _) _ _) _ _ _)); (fail_if_success (with_reducible show wpAny _ _ (exec (Stmt.While _ _ _ _) _) _ _ _)); first | walk1 | (dsimp only; walk1) | (dsimp only [leadV, wantedV, optV, Kind.str]; walk1)) | (leave1; walk_say "STEP leave1"; try dsimp only))
            with_reducible rename Fr _ _ _ _ => F9
            with_reducible rename News _ _ _ _ => N9
            show Q _ _
            refine fin_bool (hQ _ _ (all_stand kOut F9 (fun p hp => (hD p hp).1) N9 fun p hp => .tail _ (.tail _ (.tail _ (mD p hp))))) ?_
            unfold walkRight
            rw [hss]
            dsimp only
            rw [decide_eq_true hW]
            simp only [Bool.true_and]
            exact List.all_eq_true.mpr fun n hn => hI n (List.mem_range.mp hn)
        · rw [decide_eq_false hW]
          repeat' (first | ((with_reducible show wpAny _ _ (exec (Stmt.Raise _ _ _) _) _ _ _); exfalso; omega) | (k_unfold; (try dsimp only)) | (k_end; wrow_close) | ((fail_if_success (with_reducible show wpAny _ _ (pyIter _) _ _ _)); (fail_if_success (with_reducible show wpAny _ _ (PySem.eval (Expr.ListComp _ _ _ _) _) _ _ _)); (fail_if_success (with_reducible show wpAny _ _ (PySem.exec (Stmt.Assign _ (Expr.ListComp _ _ _ _) _) _) _ _ _)); (fail_if_success (with_reducible show wpAny _ _ (isTrue (Expr.Compare (Expr.ListComp _ _ _ _) _ _ _) _ _) _ _ _)); (fail_if_success (with_reducible show wpAny _ _ (exec (Stmt.While _ _ _ _) _) _ _ _)); first | walk1 | (dsimp only; walk1) | (dsimp only [leadV, wantedV, optV, Kind.str]; walk1)) | (leave1; walk_say "STEP leave1"; try dsimp only))
          with_reducible rename Fr _ _ _ _ => F9
          with_reducible rename News _ _ _ _ => N9
          show Q _ _
          refine fin_bool (hQ _ _ (all_stand kOut F9 (fun p hp => (hD p hp).1) N9 fun p hp => .tail _ (.tail _ (kD p hp)))) ?_
          unfold walkRight
          rw [hss]
          dsimp only
          rw [decide_eq_false hW]
          rfl

end SFC
section SGA
variable {w : World} {A : Around} {E Q : Value → Shared → Prop} {s : Shared} {H : Heap}

theorem set_list {h₀ : Heap} {L l : Addr} {m : Str → Option Value} {news news' : List (Addr × Obj)} {vs : List Value} {ep : Nat} {k : Int} {t : Tok} {v : Value} {Q : Unit → Shared → Prop} (F : Fr h₀ L s.heap m) (N : News h₀ L s.heap news) (U : Upd l (listO vs ep) (listO (vs.set k.toNat v) ep) news news') (h0 : 0 ≤ k) (h1 : k < vs.length) (hfit : k < 100000)
    (h : ∀ h', Fr h₀ L h' m → News h₀ L h' news' → Q () { s with heap := h' }) :
    wpAny (model PySem.Challenge.rw_pb0229_01.row.prog w) A (setItem (.ref l) (.int k t) v) Q E s := by
  obtain ⟨pre, post, rfl, rfl, a, b⟩ := U.split
  have z := N (l, listO vs ep) (List.mem_append.mpr (.inr (.head _)))
  refine ki_setAt z.1 h0 (by omega) (by simp; omega) (h _ (F.change (Heap.SameBut.update ..) z.2.1 z.2.2) (ki_turn _ N a b ?_ ?_))
  · show vs.toArray.setIfInBounds k.toNat v = (vs.set k.toNat v).toArray
    apply Array.toList_inj.mp
    simp
  · simp
theorem ints_take {vs : List Value} {ys : List Int} (h : IntsAre vs ys) : ∀ k, IntsAre (vs.take k) (ys.take k) := by
  induction h with
  | nil => intro k; simp; exact .nil
  | cons n t _ ih =>
    intro k
    cases k with
    | zero => exact .nil
    | succ k => exact .cons n t (ih k)
theorem sum_ints {l : Addr} {vs : List Value} {ns : List Int} {Q : Value → Shared → Prop} (hh : A.handled = none) (hl : s.heap.IsList l vs.toArray) (hi : IntsAre vs ns)
    (h : ∀ x t h' tk', Sub s.heap h' → Q (.int x t) { s with heap := h', toks := tk' }) : wpAny (model PySem.Challenge.rw_pb0229_01.row.prog w) A (call (.builtin "sum") [.ref l]) Q E s := by
  obtain ⟨xs, hx⟩ := hi.allInts.items
  rw [show vs.toArray = intItems xs from hx] at hl
  exact sum_intListG hh hl fun h' tk t' hk => h _ _ _ _ hk
theorem fmod_nat (x : Int) {m : Nat} (h : 0 < m) : ∃ k : Nat, k < m ∧ x.fmod m = k := by
  have h1 := Int.fmod_nonneg_of_pos x (by omega : (0 : Int) < m)
  have h2 := Int.fmod_lt_of_pos x (by omega : (0 : Int) < m)
  exact ⟨(x.fmod m).toNat, by omega, by omega⟩

theorem ne_nil {l b : Addr} {vs : List Value} (hl : s.heap.IsList l vs.toArray) (hb : s.heap.IsList b #[]) (hu : A.units < cLine) (h : Q (.bool (!decide (vs = []))) s) :
    wpAny (model PySem.Challenge.rw_pb0229_01.row.prog w) A (compareOp .NotEq (.ref l) (.ref b)) Q E s := by
  refine cmp_ofNotEq ?_
  by_cases hs : vs = []
  · subst hs
    refine RcNeAt.lists (e := fun _ => true) hl hb rfl hu (fun j h1 h2 => absurd h1 (by simp)) PySem.Challenge.rw_pb0229_01.row.prog w E Q ?_
    exact h
  · refine RcNeAt.lists_lengths hl hb ?_ hu PySem.Challenge.rw_pb0229_01.row.prog w E Q ?_
    · have : vs.length ≠ 0 := fun e => hs (List.eq_nil_of_length_eq_zero e)
      simpa using this
    · rw [decide_eq_false hs] at h
      exact h
abbrev penO (cl : Addr) (turn : Nat) (t1 : Tok) (rest : Int) (t2 : Tok) (pe : Nat) : Obj := listO [.ref cl, .int (turn : Nat) t1, .int rest t2] pe

theorem pow_any {a b : Int} {t u : Tok} (hb : 0 < b ∧ b < 20) (ha : 0 ≤ a ∧ a < 2 ^ 200) (h : ∀ x t' tk', Q (.int x t') { s with toks := tk' }) : wpAny (model PySem.Challenge.rw_pb0229_01.row.prog w) A (binaryOp .Pow (.int a t) (.int b u)) Q E s := by
  by_cases h1 : (a == 0 || a == 1) = true
  · exact AutoIntOps.pow_1 (by omega) (by simp; omega) h1 (h _ _ _)
  · refine AutoIntOps.pow_4 (by omega) (by simp; omega) h1 (by simp; omega) ?_ (h _ _ _)
    unfold Builtin.Int.intTooBig Builtin.Int.intBits
    have h2 : ¬ (a == 0) = true := by
      intro e
      rw [e] at h1
      exact h1 rfl
    rw [if_neg h2]
    have h3 : a.natAbs.log2 < 200 := (Nat.log2_lt (by simp at h2; omega)).mpr (by omega)
    have h4 : ((a.natAbs.log2 + 1 : Nat) : Int) * b ≤ 200 * 20 := Int.mul_le_mul (by omega) (by omega) (by omega) (by omega)
    simp only [decide_eq_true_eq]
    unfold bitsLine
    omega
theorem mix_ok {turn : Nat} (x : Int) (h : turn < 1000) : 0 ≤ x.fmod 2147483629 * (2 * (turn : Int) + 9203) + 25409 * (turn : Int) * (turn : Int) + 41 ∧ x.fmod 2147483629 * (2 * (turn : Int) + 9203) + 25409 * (turn : Int) * (turn : Int) + 41 < 2 ^ 200 := by
  have a0 := Int.fmod_nonneg_of_pos x (by decide : (0 : Int) < 2147483629)
  have a1 := Int.fmod_lt_of_pos x (by decide : (0 : Int) < 2147483629)
  have b0 := Int.mul_nonneg a0 (by omega : 0 ≤ 2 * (turn : Int) + 9203)
  have b1 := Int.mul_le_mul (Int.le_of_lt a1) (by omega : 2 * (turn : Int) + 9203 ≤ 20000) (by omega) (by decide)
  have c0 := Int.mul_nonneg (by omega : 0 ≤ 25409 * (turn : Int)) (by omega : 0 ≤ (turn : Int))
  have c1 := Int.mul_le_mul (by omega : 25409 * (turn : Int) ≤ 25409 * 1000) (by omega : (turn : Int) ≤ 1000) (by omega) (by decide)
  omega
theorem pen_out {g H₁ h : Heap} {L pl cl : Addr} {m : Str → Option Value} {o1 o2 o3 : Obj} (kOut : ∀ h', Sub g h' → But ([(pl, o1), (cl, o2)].map (·.1)) H₁ h') (hp : H₁.get? pl = some o1) (hc : H₁.get? cl = some o2) (hne : pl ≠ cl) (F : Fr g L h m) (N : News g L h [(pl, o3), (cl, o2)]) : But [pl] H₁ h ∧ h.get? pl = some o3 := by
  refine ⟨fun b o e hb => ?_, N.get (.head _)⟩
  by_cases hbc : b = cl
  · subst hbc
    rw [hc] at e
    cases e
    exact N.get (.tail _ (.head _))
  · refine kOut h F.keep b o e ?_
    simp only [List.map_cons, List.map_nil, List.mem_cons, List.not_mem_nil, or_false, not_or]
    exact ⟨by simpa using hb, hbc⟩
theorem law_draw_spec {cl pl : Addr} {ce pe turn many : Nat} {rest : Int} {t1 t2 tm : Tok} {cvs : List Value} {cs : List Int} (G : Fine w H s.heap) (hA : A.depth < 650) (hU : A.units < 4000) (hh : A.handled = none)
    (hp : s.heap.get? pl = some (penO cl turn t1 rest t2 pe) ∧ H.get? pl = none) (hc : s.heap.get? cl = some (listO cvs ce) ∧ H.get? cl = none) (hi : IntsAre cvs cs) (hl : cvs.length < 1000) (hne : pl ≠ cl) (ht : turn < 1000) (hm : 0 < many ∧ many < 1000)
    (hQ : ∀ k t turn' t1' rest' t2' pe' tk' h', k < many → turn' ≤ turn + 1 → But [pl] s.heap h' → h'.get? pl = some (penO cl turn' t1' rest' t2' pe') → Q (.int (k : Nat) t) { s with heap := h', toks := tk' }) :
    wpAny (model PySem.Challenge.rw_pb0229_01.row.prog w) A (call (.ref 158) [.ref pl, .int many tm]) Q E s := by
  w_on
  obtain ⟨hd9, dp9, fr9, gs9, un9⟩ := A
  dsimp only at hA
  obtain rfl : hd9 = none := hh
  have X0 := G.X; revert X0; k_fill; intro X0; clear X0
  k_dflt (refine' enter (binds := [(Str.ofString "pen", .ref pl), (Str.ofString "many", .int many tm)]) G [(pl, penO cl turn t1 rest t2 pe), (cl, listO cvs ce)] ?kadr ?k6 ?k7 ?k8 ?k9 ?kB ?c5 ?_ ?c2 ?c3 ?c4; (case k6 => k_is); (case k7 => k_is); (case k8 => (simp only [recursionLimit]; omega)); (case k9 => exact BindsTo.of_eq rfl); (case c5 => decide); (case kB => exact locs rfl); (case c2 => exact rfl); (case c3 => exact rfl); (case c4 => exact rfl); (case kadr => exact two hp hc); intro g L' h₁ loose mean mg mb kBut FG X' T' F' N' kOut; (try dsimp only); (try k_fold))
  have hne2 : @Ne Nat cl pl := Ne.symm hne
  have hne3 : @Ne Nat pl cl := hne
  have hmz : (many : Int) ≠ 0 := by omega
  repeat' ((fail_if_success (with_reducible show wpAny _ _ (setItem _ _ _) _ _ _)); (fail_if_success (with_reducible show wpAny _ _ (call (Value.builtin "sum") _) _ _ _)); (fail_if_success (with_reducible show wpAny _ _ (binaryOp Operator.Pow _ _) _ _ _)); (fail_if_success (with_reducible show wpAny _ _ (compareOp CmpOp.NotEq (Value.ref _) (Value.ref _)) _ _ _)); first | walk1 | (dsimp only; walk1))
  · with_reducible rename Fr _ _ _ _ => F1
    with_reducible rename News _ _ _ _ => N1
    refine set_list F1 N1 (Upd.head (by simpa using hne2)) (by decide) (by simp) (by decide) ?_
    intro h2 F2 N2
    repeat' ((fail_if_success (with_reducible show wpAny _ _ (setItem _ _ _) _ _ _)); (fail_if_success (with_reducible show wpAny _ _ (call (Value.builtin "sum") _) _ _ _)); (fail_if_success (with_reducible show wpAny _ _ (binaryOp Operator.Pow _ _) _ _ _)); (fail_if_success (with_reducible show wpAny _ _ (compareOp CmpOp.NotEq (Value.ref _) (Value.ref _)) _ _ _)); first | walk1 | (dsimp only; walk1))
    with_reducible rename Fr _ _ _ _ => F3
    with_reducible rename News _ _ _ _ => N3
    show Q _ _
    obtain ⟨k, hk, e⟩ := fmod_nat rest hm.1
    rw [e]
    obtain ⟨o1, o2⟩ := pen_out kOut hp.1 hc.1 hne F3 N3
    exact hQ k _ turn _ _ _ pe _ _ hk (Nat.le_succ _) o1 o2
  · with_reducible rename Fr _ _ _ _ => F1
    with_reducible rename News _ _ _ _ => N1
    refine set_list F1 N1 (Upd.head (by simpa using hne2)) (by decide) (by simp) (by decide) ?_
    clear F1 N1
    intro h2 F2 N2
    rw [show (turn : Int) + 1 = ((turn + 1 : Nat) : Int) by omega] at N2
    obtain ⟨tX, N2⟩ : ∃ tX, News g L' h2 [(pl, penO cl (turn + 1) tX rest t2 pe), (cl, listO cvs ce)] := ⟨_, N2⟩
    dsimp only
    repeat' ((fail_if_success (with_reducible show wpAny _ _ (setItem _ _ _) _ _ _)); (fail_if_success (with_reducible show wpAny _ _ (call (Value.builtin "sum") _) _ _ _)); (fail_if_success (with_reducible show wpAny _ _ (binaryOp Operator.Pow _ _) _ _ _)); (fail_if_success (with_reducible show wpAny _ _ (compareOp CmpOp.NotEq (Value.ref _) (Value.ref _)) _ _ _)); first | walk1 | (dsimp only; walk1))
    rename_i DS vS h3 F3 N3 hI hC hL l1
    refine sum_ints (by rfl) (News.isList N3 (.head _)) hI ?_
    intro x tx h4 tk4 hs4
    have F4 := F3.after hs4
    have N4 := kst_newsOf (l' := [(pl, penO cl (turn + 1) tX rest t2 pe), (cl, listO cvs ce)]) (N3.grown hs4) (fun p hp => .tail _ hp)
    clear F3 N3
    repeat' ((fail_if_success (with_reducible show wpAny _ _ (setItem _ _ _) _ _ _)); (fail_if_success (with_reducible show wpAny _ _ (call (Value.builtin "sum") _) _ _ _)); (fail_if_success (with_reducible show wpAny _ _ (binaryOp Operator.Pow _ _) _ _ _)); (fail_if_success (with_reducible show wpAny _ _ (compareOp CmpOp.NotEq (Value.ref _) (Value.ref _)) _ _ _)); first | walk1 | (dsimp only; walk1))
    with_reducible rename Fr _ _ _ _ => F5
    with_reducible rename News _ _ _ _ => N5
    obtain ⟨cX, tC, F5⟩ : ∃ cX tC, Fr g L' _ (fun y => if y = Str.ofString "cell" then some (Value.int cX tC) else if y = Str.ofString "turn" then some (Value.int turn t1) else List.lookup y [(Str.ofString "pen", Value.ref pl), (Str.ofString "many", Value.int many tm)].reverse) := ⟨_, _, F5⟩
    refine ne_nil (News.isList N5 (.tail _ (.tail _ (.head _)))) (News.isList N5 (.head _)) (by show un9 + 3 < cLine; have : un9 < 4000 := hU; unfold cLine; omega) ?_
    replace N5 := kst_newsOf (l' := [(pl, penO cl (turn + 1) tX rest t2 pe), (cl, listO cvs ce)]) N5 (fun p hp => .tail _ hp)
    have hcl : cvs.length = cs.length := hi.length
    dsimp only
    by_cases hv : cvs = []
    · have hc0 : cs.length = 0 := by rw [← hcl, hv]; rfl
      rw [decide_eq_true hv]
      repeat' ((fail_if_success (with_reducible show wpAny _ _ (setItem _ _ _) _ _ _)); (fail_if_success (with_reducible show wpAny _ _ (call (Value.builtin "sum") _) _ _ _)); (fail_if_success (with_reducible show wpAny _ _ (binaryOp Operator.Pow _ _) _ _ _)); (fail_if_success (with_reducible show wpAny _ _ (compareOp CmpOp.NotEq (Value.ref _) (Value.ref _)) _ _ _)); first | walk1 | (dsimp only; walk1))
      have hb1 := Int.fmod_nonneg_of_pos (cX) (by decide : (0 : Int) < 2147483587)
      have hb2 := Int.fmod_lt_of_pos (cX) (by decide : (0 : Int) < 2147483587)
      dsimp only
      refine pow_any (by decide) ⟨by omega, by omega⟩ ?_
      intro x5 t5 tk5
      clear hb1 hb2
      repeat' ((fail_if_success (with_reducible show wpAny _ _ (setItem _ _ _) _ _ _)); (fail_if_success (with_reducible show wpAny _ _ (call (Value.builtin "sum") _) _ _ _)); (fail_if_success (with_reducible show wpAny _ _ (binaryOp Operator.Pow _ _) _ _ _)); (fail_if_success (with_reducible show wpAny _ _ (compareOp CmpOp.NotEq (Value.ref _) (Value.ref _)) _ _ _)); first | walk1 | (dsimp only; walk1))
      dsimp only
      refine pow_any (by decide) (mix_ok x5 ht) ?_
      intro x6 t6 tk6
      repeat' ((fail_if_success (with_reducible show wpAny _ _ (setItem _ _ _) _ _ _)); (fail_if_success (with_reducible show wpAny _ _ (call (Value.builtin "sum") _) _ _ _)); (fail_if_success (with_reducible show wpAny _ _ (binaryOp Operator.Pow _ _) _ _ _)); (fail_if_success (with_reducible show wpAny _ _ (compareOp CmpOp.NotEq (Value.ref _) (Value.ref _)) _ _ _)); first | walk1 | (dsimp only; walk1))
      with_reducible rename Fr _ _ _ _ => F9
      with_reducible rename News _ _ _ _ => N9
      show Q _ _
      obtain ⟨k, hk, e⟩ := fmod_nat ((x6.fmod 2147483579).fdiv 32) hm.1
      rw [e]
      obtain ⟨o1, o2⟩ := pen_out kOut hp.1 hc.1 hne F9 N9
      exact hQ k _ (turn + 1) _ _ _ pe _ _ hk (Nat.le_refl _) o1 o2
    · have hc0 : 0 < cs.length := by rw [← hcl]; exact List.length_pos_iff.mpr hv
      rw [decide_eq_false hv]
      repeat' ((fail_if_success (with_reducible show wpAny _ _ (setItem _ _ _) _ _ _)); (fail_if_success (with_reducible show wpAny _ _ (call (Value.builtin "sum") _) _ _ _)); (fail_if_success (with_reducible show wpAny _ _ (binaryOp Operator.Pow _ _) _ _ _)); (fail_if_success (with_reducible show wpAny _ _ (compareOp CmpOp.NotEq (Value.ref _) (Value.ref _)) _ _ _)); first | walk1 | (dsimp only; walk1))
      · refine pow_any (by decide) ⟨by omega, by omega⟩ ?_
        intro x8 t8 tk8
        repeat' ((fail_if_success (with_reducible show wpAny _ _ (setItem _ _ _) _ _ _)); (fail_if_success (with_reducible show wpAny _ _ (call (Value.builtin "sum") _) _ _ _)); (fail_if_success (with_reducible show wpAny _ _ (binaryOp Operator.Pow _ _) _ _ _)); (fail_if_success (with_reducible show wpAny _ _ (compareOp CmpOp.NotEq (Value.ref _) (Value.ref _)) _ _ _)); first | walk1 | (dsimp only; walk1))
        · refine pow_any (by decide) ⟨by omega, by omega⟩ ?_
          intro x9 t9 tk9
          repeat' ((fail_if_success (with_reducible show wpAny _ _ (setItem _ _ _) _ _ _)); (fail_if_success (with_reducible show wpAny _ _ (call (Value.builtin "sum") _) _ _ _)); (fail_if_success (with_reducible show wpAny _ _ (binaryOp Operator.Pow _ _) _ _ _)); (fail_if_success (with_reducible show wpAny _ _ (compareOp CmpOp.NotEq (Value.ref _) (Value.ref _)) _ _ _)); first | walk1 | (dsimp only; walk1))
          with_reducible rename Fr _ _ _ _ => F7
          with_reducible rename News _ _ _ _ => N7
          refine set_list F7 N7 (Upd.head (by simpa using hne2)) (by decide) (by simp) (by decide) ?_
          clear F7 N7
          intro h8 F8 N8
          repeat' ((fail_if_success (with_reducible show wpAny _ _ (setItem _ _ _) _ _ _)); (fail_if_success (with_reducible show wpAny _ _ (call (Value.builtin "sum") _) _ _ _)); (fail_if_success (with_reducible show wpAny _ _ (binaryOp Operator.Pow _ _) _ _ _)); (fail_if_success (with_reducible show wpAny _ _ (compareOp CmpOp.NotEq (Value.ref _) (Value.ref _)) _ _ _)); first | walk1 | (dsimp only; walk1))
          with_reducible rename Fr _ _ _ _ => F9
          with_reducible rename News _ _ _ _ => N9
          show Q _ _
          generalize hg : Int.fmod _ (many : Int) = r
          obtain ⟨k, hk, e⟩ := fmod_nat _ hm.1
          rw [hg] at e
          subst e
          obtain ⟨o1, o2⟩ := pen_out kOut hp.1 hc.1 hne F9 N9
          exact hQ k _ (turn + 1) _ _ _ pe _ _ hk (Nat.le_refl _) o1 o2
        · skip
          have hb1 := Int.fmod_nonneg_of_pos (cs.getD ((turn : Int).fmod (cs.length : Int)).toNat 0) (by decide : (0 : Int) < 2147483587)
          have hb2 := Int.fmod_lt_of_pos (cs.getD ((turn : Int).fmod (cs.length : Int)).toNat 0) (by decide : (0 : Int) < 2147483587)
          dsimp only
          refine pow_any (by decide) ⟨by omega, by omega⟩ ?_
          intro x5 t5 tk5
          clear hb1 hb2
          repeat' ((fail_if_success (with_reducible show wpAny _ _ (setItem _ _ _) _ _ _)); (fail_if_success (with_reducible show wpAny _ _ (call (Value.builtin "sum") _) _ _ _)); (fail_if_success (with_reducible show wpAny _ _ (binaryOp Operator.Pow _ _) _ _ _)); (fail_if_success (with_reducible show wpAny _ _ (compareOp CmpOp.NotEq (Value.ref _) (Value.ref _)) _ _ _)); first | walk1 | (dsimp only; walk1))
          dsimp only
          refine pow_any (by decide) (mix_ok x5 ht) ?_
          intro x6 t6 tk6
          repeat' ((fail_if_success (with_reducible show wpAny _ _ (setItem _ _ _) _ _ _)); (fail_if_success (with_reducible show wpAny _ _ (call (Value.builtin "sum") _) _ _ _)); (fail_if_success (with_reducible show wpAny _ _ (binaryOp Operator.Pow _ _) _ _ _)); (fail_if_success (with_reducible show wpAny _ _ (compareOp CmpOp.NotEq (Value.ref _) (Value.ref _)) _ _ _)); first | walk1 | (dsimp only; walk1))
          with_reducible rename Fr _ _ _ _ => F9
          with_reducible rename News _ _ _ _ => N9
          show Q _ _
          obtain ⟨k, hk, e⟩ := fmod_nat ((x6.fmod 2147483579).fdiv 32) hm.1
          rw [e]
          obtain ⟨o1, o2⟩ := pen_out kOut hp.1 hc.1 hne F9 N9
          exact hQ k _ (turn + 1) _ _ _ pe _ _ hk (Nat.le_refl _) o1 o2
      · skip
        have hb1 := Int.fmod_nonneg_of_pos (cs.getD ((turn : Int).fmod (cs.length : Int)).toNat 0) (by decide : (0 : Int) < 2147483587)
        have hb2 := Int.fmod_lt_of_pos (cs.getD ((turn : Int).fmod (cs.length : Int)).toNat 0) (by decide : (0 : Int) < 2147483587)
        dsimp only
        refine pow_any (by decide) ⟨by omega, by omega⟩ ?_
        intro x5 t5 tk5
        clear hb1 hb2
        repeat' ((fail_if_success (with_reducible show wpAny _ _ (setItem _ _ _) _ _ _)); (fail_if_success (with_reducible show wpAny _ _ (call (Value.builtin "sum") _) _ _ _)); (fail_if_success (with_reducible show wpAny _ _ (binaryOp Operator.Pow _ _) _ _ _)); (fail_if_success (with_reducible show wpAny _ _ (compareOp CmpOp.NotEq (Value.ref _) (Value.ref _)) _ _ _)); first | walk1 | (dsimp only; walk1))
        dsimp only
        refine pow_any (by decide) (mix_ok x5 ht) ?_
        intro x6 t6 tk6
        repeat' ((fail_if_success (with_reducible show wpAny _ _ (setItem _ _ _) _ _ _)); (fail_if_success (with_reducible show wpAny _ _ (call (Value.builtin "sum") _) _ _ _)); (fail_if_success (with_reducible show wpAny _ _ (binaryOp Operator.Pow _ _) _ _ _)); (fail_if_success (with_reducible show wpAny _ _ (compareOp CmpOp.NotEq (Value.ref _) (Value.ref _)) _ _ _)); first | walk1 | (dsimp only; walk1))
        with_reducible rename Fr _ _ _ _ => F9
        with_reducible rename News _ _ _ _ => N9
        show Q _ _
        obtain ⟨k, hk, e⟩ := fmod_nat ((x6.fmod 2147483579).fdiv 32) hm.1
        rw [e]
        obtain ⟨o1, o2⟩ := pen_out kOut hp.1 hc.1 hne F9 N9
        exact hQ k _ (turn + 1) _ _ _ pe _ _ hk (Nat.le_refl _) o1 o2

end SGA
section SGB
variable {w : World} {A : Around} {E Q : Value → Shared → Prop} {s : Shared} {H : Heap}

theorem law_pick_spec {cl pl sl : Addr} {ce pe se turn : Nat} {rest : Int} {t1 t2 : Tok} {cvs vs : List Value} {cs : List Int} (G : Fine w H s.heap) (hA : A.depth < 645) (hU : A.units < 3990) (hh : A.handled = none)
    (hp : s.heap.get? pl = some (penO cl turn t1 rest t2 pe) ∧ H.get? pl = none) (hc : s.heap.get? cl = some (listO cvs ce) ∧ H.get? cl = none) (hi : IntsAre cvs cs) (hl : cvs.length < 1000) (hne : pl ≠ cl) (ht : turn < 1000)
    (hs : s.heap.get? sl = some (listO vs se) ∧ H.get? sl = none) (hv : 0 < vs.length ∧ vs.length < 1000) (hns : sl ≠ pl ∧ sl ≠ cl)
    (hQ : ∀ v turn' t1' rest' t2' pe' tk' h', v ∈ vs → turn' ≤ turn + 1 → But [pl] s.heap h' → h'.get? pl = some (penO cl turn' t1' rest' t2' pe') → Q v { s with heap := h', toks := tk' }) :
    wpAny (model PySem.Challenge.rw_pb0229_01.row.prog w) A (call (.ref 165) [.ref pl, .ref sl]) Q E s := by
  w_on
  obtain ⟨hd9, dp9, fr9, gs9, un9⟩ := A
  dsimp only at hA
  obtain rfl : hd9 = none := hh
  have X0 := G.X; revert X0; k_fill; intro X0; clear X0
  k_dflt (refine' enter (binds := [(Str.ofString "pen", .ref pl), (Str.ofString "some", .ref sl)]) G [(pl, penO cl turn t1 rest t2 pe), (cl, listO cvs ce), (sl, listO vs se)] ?kadr ?k6 ?k7 ?k8 ?k9 ?kB ?c5 ?_ ?c2 ?c3 ?c4; (case k6 => k_is); (case k7 => k_is); (case k8 => (simp only [recursionLimit]; omega)); (case k9 => exact BindsTo.of_eq rfl); (case c5 => decide); (case kB => exact locs rfl); (case c2 => exact rfl); (case c3 => exact rfl); (case c4 => exact rfl); (case kadr => exact List.forall_mem_cons.mpr ⟨hp, two hc hs⟩); intro g L' h₁ loose mean mg mb kBut FG X' T' F' N' kOut; (try dsimp only); (try k_fold))
  repeat' ((fail_if_success (with_reducible show wpAny _ _ (call (Value.builtin "len") _) _ _ _)); (fail_if_success (with_reducible show wpAny _ _ (call (Value.ref 158) _) _ _ _)); first | walk1 | (dsimp only; walk1))
  refine PyProof.Rows.len_list (News.isList N' (.tail _ (.tail _ (.head _)))) (by simp; omega) ?_
  repeat' ((fail_if_success (with_reducible show wpAny _ _ (call (Value.ref 158) _) _ _ _)); first | walk1 | (dsimp only; walk1))
  with_reducible rename Fr _ _ _ _ => F2
  with_reducible rename News _ _ _ _ => N2
  refine law_draw_spec (H := H) (pl := pl) (cl := cl) (turn := turn) (rest := rest) (many := vs.length) (Fine.after FG F2.keep) (by show _ < _; simp only [depth_deeper]; omega) (by show un9 + 3 < 4000; have : un9 < 3990 := hU; omega) (by rfl) (led FG N2 (.head _)) (led FG N2 (.tail _ (.head _))) hi hl hne ht ⟨hv.1, hv.2⟩ ?_
  intro k t turn' t1' rest' t2' pe' tk3 h3 hk htu hb hg
  have hpL : pl ≠ L' ∧ g.get? pl = none := ⟨(N2 _ (.head _)).2.1, N2.fresh (.head _)⟩
  have F3 := fr_turn F2 hb hpL
  have N3 : News g L' h3 [(pl, penO cl turn' t1' rest' t2' pe'), (cl, listO cvs ce), (sl, listO vs se)] := news_turn N2 hb hg hpL (List.forall_mem_cons.mpr ⟨.inl rfl, two (.inr ⟨.tail _ (.head _), Ne.symm hne⟩) (.inr ⟨.tail _ (.tail _ (.head _)), hns.1⟩)⟩)
  dsimp only
  have hx : vs[((k : Nat) : Int).toNat]? = some vs[k] := by simp [hk]
  refine item_at N3 (.tail _ (.tail _ (.head _))) (by omega) hx (by omega) ?_
  show Q _ _
  refine hQ _ turn' _ _ _ pe' _ _ (List.getElem_mem hk) htu (fun b ob e hbp => ?_) hg
  by_cases h1 : b = cl
  · subst h1
    rw [hc.1] at e
    cases e
    exact N3.get (.tail _ (.head _))
  · by_cases h2 : b = sl
    · subst h2
      rw [hs.1] at e
      cases e
      exact N3.get (.tail _ (.tail _ (.head _)))
    · refine kOut h3 F3.keep b ob e ?_
      simp only [List.map_cons, List.map_nil, List.mem_cons, List.not_mem_nil, or_false, not_or]
      exact ⟨by simpa using hbp, h1, h2⟩

theorem law_pick_bytes {cl pl : Addr} {ce pe turn : Nat} {rest : Int} {t1 t2 tb : Tok} {cvs : List Value} {cs : List Int} {b : Array UInt8} (G : Fine w H s.heap) (hA : A.depth < 645) (hU : A.units < 3990) (hh : A.handled = none)
    (hp : s.heap.get? pl = some (penO cl turn t1 rest t2 pe) ∧ H.get? pl = none) (hc : s.heap.get? cl = some (listO cvs ce) ∧ H.get? cl = none) (hi : IntsAre cvs cs) (hl : cvs.length < 1000) (hne : pl ≠ cl) (ht : turn < 1000)
    (hv : 0 < b.size ∧ b.size < 1000)
    (hQ : ∀ (x : UInt8) t turn' t1' rest' t2' pe' tk' h', turn' ≤ turn + 1 → But [pl] s.heap h' → h'.get? pl = some (penO cl turn' t1' rest' t2' pe') → Q (.int (x.toNat : Nat) t) { s with heap := h', toks := tk' }) :
    wpAny (model PySem.Challenge.rw_pb0229_01.row.prog w) A (call (.ref 165) [.ref pl, .bytes b tb]) Q E s := by
  w_on
  obtain ⟨hd9, dp9, fr9, gs9, un9⟩ := A
  dsimp only at hA
  obtain rfl : hd9 = none := hh
  have X0 := G.X; revert X0; k_fill; intro X0; clear X0
  k_dflt (refine' enter (binds := [(Str.ofString "pen", .ref pl), (Str.ofString "some", .bytes b tb)]) G [(pl, penO cl turn t1 rest t2 pe), (cl, listO cvs ce)] ?kadr ?k6 ?k7 ?k8 ?k9 ?kB ?c5 ?_ ?c2 ?c3 ?c4; (case k6 => k_is); (case k7 => k_is); (case k8 => (simp only [recursionLimit]; omega)); (case k9 => exact BindsTo.of_eq rfl); (case c5 => decide); (case kB => exact locs rfl); (case c2 => exact rfl); (case c3 => exact rfl); (case c4 => exact rfl); (case kadr => exact two hp hc); intro g L' h₁ loose mean mg mb kBut FG X' T' F' N' kOut; (try dsimp only); (try k_fold))
  repeat' ((fail_if_success (with_reducible show wpAny _ _ (call (Value.ref 158) _) _ _ _)); first | walk1 | (dsimp only; walk1))
  with_reducible rename Fr _ _ _ _ => F2
  with_reducible rename News _ _ _ _ => N2
  refine law_draw_spec (H := H) (pl := pl) (cl := cl) (turn := turn) (rest := rest) (many := b.size) (Fine.after FG F2.keep) (by show _ < _; simp only [depth_deeper]; omega) (by show un9 + 3 < 4000; have : un9 < 3990 := hU; omega) (by rfl) (led FG N2 (.head _)) (led FG N2 (.tail _ (.head _))) hi hl hne ht ⟨hv.1, hv.2⟩ ?_
  intro k t turn' t1' rest' t2' pe' tk3 h3 hk htu hb hg
  have hpL : pl ≠ L' ∧ g.get? pl = none := ⟨(N2 _ (.head _)).2.1, N2.fresh (.head _)⟩
  have F3 := fr_turn F2 hb hpL
  have N3 : News g L' h3 [(pl, penO cl turn' t1' rest' t2' pe'), (cl, listO cvs ce)] := news_turn N2 hb hg hpL (two (.inl rfl) (.inr ⟨.tail _ (.head _), Ne.symm hne⟩))
  dsimp only
  obtain ⟨bl⟩ := b
  have hk2 : k < bl.length := hk
  refine KBy.item_N (x := bl) (by have := hv.2; simp at this; omega) (by omega) (by omega) ?_ (by with_unfolding_all rfl) (by intro _; with_unfolding_all rfl)
  show Q _ _
  obtain ⟨o1, o2⟩ := pen_out kOut hp.1 hc.1 hne F3 N3
  exact hQ _ _ turn' _ _ _ pe' _ _ htu o1 o2

end SGB
section SGC
variable {w : World} {A : Around} {E Q : Value → Shared → Prop} {s : Shared} {H : Heap}

theorem kind_of {v : Value} {t1 t2 t3 t4 t5 t6 : Tok} (h : v ∈ [Value.str (Str.ofString "ALL") t1, Value.str (Str.ofString "LEADING") t2, Value.str (Str.ofString "FIRST") t3, Value.str (Str.ofString "ALL") t4, Value.str (Str.ofString "LEADING") t5, Value.str (Str.ofString "CHARACTERS") t6]) : ∃ κ t, v = .str (Kind.str κ) t := by
  simp only [List.mem_cons, List.not_mem_nil, or_false] at h
  rcases h with rfl | rfl | rfl | rfl | rfl | rfl
  · exact ⟨.all, _, rfl⟩
  · exact ⟨.leading, _, rfl⟩
  · exact ⟨.first, _, rfl⟩
  · exact ⟨.all, _, rfl⟩
  · exact ⟨.leading, _, rfl⟩
  · exact ⟨.chars, _, rfl⟩

theorem pick_at {g : Heap} {L cl pl sl : Addr} {m : Str → Option Value} {ce pe se turn : Nat} {rest : Int} {t1 t2 : Tok} {cvs vs : List Value} {cs : List Int} {led9 : List (Addr × Obj)} (FG : Fine w H g) (F : Fr g L s.heap m) (N : News g L s.heap ((sl, listO vs se) :: (pl, penO cl turn t1 rest t2 pe) :: led9)) (hA : A.depth < 645) (hU : A.units < 3990) (hh : A.handled = none)
    (hc : (cl, listO cvs ce) ∈ led9) (hi : IntsAre cvs cs) (hl : cvs.length < 1000) (hn : ∀ p ∈ led9, p.1 ≠ pl) (ht : turn < 1000) (hv : 0 < vs.length ∧ vs.length < 1000) (hns : sl ≠ pl ∧ sl ≠ cl)
    (h : ∀ v turn' t1' rest' t2' pe' tk' h', v ∈ vs → turn' ≤ turn + 1 → Fr g L h' m → News g L h' ((pl, penO cl turn' t1' rest' t2' pe') :: led9) → Q v { s with heap := h', toks := tk' }) :
    wpAny (model PySem.Challenge.rw_pb0229_01.row.prog w) A (call (.ref 165) [.ref pl, .ref sl]) Q E s := by
  have hpL : pl ≠ L ∧ g.get? pl = none := ⟨(N _ (.tail _ (.head _))).2.1, N.fresh (.tail _ (.head _))⟩
  refine law_pick_spec (H := H) (FG.after F.keep) hA hU hh (led FG N (.tail _ (.head _))) (led FG N (.tail _ (.tail _ hc))) hi hl (Ne.symm (hn _ hc)) ht (led FG N (.head _)) hv hns ?_
  intro v turn' t1' rest' t2' pe' tk' h' hvm htu hb hg
  refine h v turn' t1' rest' t2' pe' tk' h' hvm htu (fr_turn F hb hpL) (news_turn N hb hg hpL fun p hp => ?_)
  rcases List.mem_cons.mp hp with rfl | hp
  · exact .inl rfl
  · exact .inr ⟨.tail _ (.tail _ hp), hn _ hp⟩
theorem wantedV_ne {t : Tok} {k : Kind} {b : Array UInt8} (h : k ≠ .chars) : wantedV t k b = .bytes b t := by
  cases k <;> first | rfl | exact absurd rfl h
theorem opt4 {v : Value} {a b : Array UInt8} {ta tb : Tok} (h : v ∈ [Value.none, Value.none, Value.bytes a ta, Value.bytes b tb]) (ha : 0 < a.size ∧ a.size < 1000) (hb : 0 < b.size ∧ b.size < 1000) : ∃ o t, v = optV t o ∧ okOpt o := by
  simp only [List.mem_cons, List.not_mem_nil, or_false] at h
  rcases h with rfl | rfl | rfl | rfl
  · exact ⟨none, 0, rfl, trivial⟩
  · exact ⟨none, 0, rfl, trivial⟩
  · exact ⟨some a, ta, rfl, ha⟩
  · exact ⟨some b, tb, rfl, hb⟩
theorem opt5 {v : Value} {a b c : Array UInt8} {ta tb tc : Tok} (h : v ∈ [Value.none, Value.none, Value.bytes a ta, Value.bytes b tb, Value.bytes c tc]) (ha : 0 < a.size ∧ a.size < 1000) (hb : 0 < b.size ∧ b.size < 1000) (hc : 0 < c.size ∧ c.size < 1000) : ∃ o t, v = optV t o ∧ okOpt o := by
  simp only [List.mem_cons, List.not_mem_nil, or_false] at h
  rcases h with rfl | rfl | rfl | rfl | rfl
  · exact ⟨none, 0, rfl, trivial⟩
  · exact ⟨none, 0, rfl, trivial⟩
  · exact ⟨some a, ta, rfl, ha⟩
  · exact ⟨some b, tb, rfl, hb⟩
  · exact ⟨some c, tc, rfl, hc⟩
theorem bytes6 {v : Value} {a b c d e f : Array UInt8} {ta tb tc td te tf : Tok} (h : v ∈ [Value.bytes a ta, Value.bytes b tb, Value.bytes c tc, Value.bytes d td, Value.bytes e te, Value.bytes f tf])
    (hp : (0 < a.size ∧ a.size < 1000) ∧ (0 < b.size ∧ b.size < 1000) ∧ (0 < c.size ∧ c.size < 1000) ∧ (0 < d.size ∧ d.size < 1000) ∧ (0 < e.size ∧ e.size < 1000) ∧ (0 < f.size ∧ f.size < 1000)) : ∃ o t, v = .bytes o t ∧ 0 < o.size ∧ o.size < 1000 := by
  simp only [List.mem_cons, List.not_mem_nil, or_false] at h
  rcases h with rfl | rfl | rfl | rfl | rfl | rfl
  · exact ⟨_, _, rfl, hp.1⟩
  · exact ⟨_, _, rfl, hp.2.1⟩
  · exact ⟨_, _, rfl, hp.2.2.1⟩
  · exact ⟨_, _, rfl, hp.2.2.2.1⟩
  · exact ⟨_, _, rfl, hp.2.2.2.2.1⟩
  · exact ⟨_, _, rfl, hp.2.2.2.2.2⟩
theorem law_row_spec {cl pl : Addr} {ce pe turn : Nat} {rest : Int} {t1 t2 : Tok} {cvs : List Value} {cs : List Int} (G : Fine w H s.heap) (hA : A.depth < 640) (hU : A.units < 3980) (hh : A.handled = none)
    (hp : s.heap.get? pl = some (penO cl turn t1 rest t2 pe) ∧ H.get? pl = none) (hc : s.heap.get? cl = some (listO cvs ce) ∧ H.get? cl = none) (hi : IntsAre cvs cs) (hl : cvs.length < 1000) (hne : pl ≠ cl) (ht : turn < 900)
    (hQ : ∀ a r u1 u2 u3 u4 turn' t1' rest' t2' pe' tk' h', okRow r → turn' ≤ turn + 4 → But [pl] s.heap h' → h'.get? pl = some (penO cl turn' t1' rest' t2' pe') → (h'.get? a = some (rowObj r u1 u2 u3 u4) ∧ s.heap.get? a = none) → Q (.ref a) { s with heap := h', toks := tk' }) :
    wpAny (model PySem.Challenge.rw_pb0229_01.row.prog w) A (call (.ref 172) [.ref pl]) Q E s := by
  w_on
  obtain ⟨hd9, dp9, fr9, gs9, un9⟩ := A
  dsimp only at hA
  obtain rfl : hd9 = none := hh
  have X0 := G.X; revert X0; k_fill; intro X0; clear X0
  k_dflt (refine' enter (binds := [(Str.ofString "pen", .ref pl)]) G [(pl, penO cl turn t1 rest t2 pe), (cl, listO cvs ce)] ?kadr ?k6 ?k7 ?k8 ?k9 ?kB ?c5 ?_ ?c2 ?c3 ?c4; (case k6 => k_is); (case k7 => k_is); (case k8 => (simp only [recursionLimit]; omega)); (case k9 => exact BindsTo.of_eq rfl); (case c5 => decide); (case kB => exact locs rfl); (case c2 => exact rfl); (case c3 => exact rfl); (case c4 => exact rfl); (case kadr => exact two hp hc); intro g L' h₁ loose mean mg mb kBut FG X' T' F' N' kOut; (try dsimp only); (try k_fold))
  have hne2 : ∀ p ∈ [(cl, listO cvs ce)], p.1 ≠ pl := List.forall_mem_singleton.mpr (Ne.symm hne)
  repeat' ((fail_if_success (with_reducible show wpAny _ _ (call (Value.ref 165) _) _ _ _)); (fail_if_success (with_reducible show wpAny _ _ (call (Value.ref 158) _) _ _ _)); (fail_if_success (with_reducible show wpAny _ _ (call (Value.ref 172) _) _ _ _)); first | walk1 | (dsimp only; walk1))
  with_reducible rename Fr _ _ _ _ => F1
  with_reducible rename News _ _ _ _ => N1
  rename_i l1
  refine pick_at (vs := [_, _, _, _, _, _]) (led9 := [(cl, listO cvs ce)]) FG F1 N1 (by show _ < _; simp only [depth_deeper]; omega) (by show un9 + 3 < 3990; have : un9 < 3980 := hU; omega) (by rfl) (.head _) hi hl hne2 (by omega) ⟨by simp, by simp⟩ ⟨Nat.ne_of_gt l1.1, Nat.ne_of_gt l1.2⟩ ?_
  clear F1 N1
  intro v n1 x1 r1 y1 p1 tk1 h1 hv1 hn1 F1 N1
  obtain ⟨κ, tκ, rfl⟩ := kind_of hv1
  clear hv1
  repeat' ((fail_if_success (with_reducible show wpAny _ _ (call (Value.ref 165) _) _ _ _)); (fail_if_success (with_reducible show wpAny _ _ (call (Value.ref 158) _) _ _ _)); (fail_if_success (with_reducible show wpAny _ _ (call (Value.ref 172) _) _ _ _)); first | walk1 | (dsimp only; walk1))
  · -- a row of CHARACTERS
    rename (_ == _) = true => hb
    obtain rfl : κ = .chars := by
      cases κ <;> first | rfl | exact absurd hb (by decide)
    with_reducible rename Fr _ _ _ _ => F1
    with_reducible rename News _ _ _ _ => N1
    rename_i l1
    refine pick_at (vs := [_, _, _, _]) (led9 := [(cl, listO cvs ce)]) FG F1 N1 (by show _ < _; simp only [depth_deeper]; omega) (by show un9 + 3 < 3990; have : un9 < 3980 := hU; omega) (by rfl) (.head _) hi hl hne2 (by omega) ⟨by simp, by simp⟩ ⟨Nat.ne_of_gt l1.1, Nat.ne_of_gt l1.2⟩ ?_
    clear F1 N1
    intro v n3 x3 r3 y3 p3 tk3 h3 hv3 hn3 F1 N1
    obtain ⟨bf, tf, rfl, hbf⟩ := opt4 hv3 (by decide) (by decide)
    clear hv3
    repeat' ((fail_if_success (with_reducible show wpAny _ _ (call (Value.ref 165) _) _ _ _)); (fail_if_success (with_reducible show wpAny _ _ (call (Value.ref 158) _) _ _ _)); (fail_if_success (with_reducible show wpAny _ _ (call (Value.ref 172) _) _ _ _)); first | walk1 | (dsimp only; walk1))
    with_reducible rename Fr _ _ _ _ => F1
    with_reducible rename News _ _ _ _ => N1
    rename_i l1
    refine pick_at (vs := [_, _, _, _, _]) (led9 := [(cl, listO cvs ce)]) FG F1 N1 (by show _ < _; simp only [depth_deeper]; omega) (by show un9 + 3 < 3990; have : un9 < 3980 := hU; omega) (by rfl) (.head _) hi hl hne2 (by omega) ⟨by simp, by simp⟩ ⟨Nat.ne_of_gt l1.1, Nat.ne_of_gt l1.2⟩ ?_
    clear F1 N1
    intro v n4 x4 r4 y4 p4 tk4 h4 hv4 hn4 F1 N1
    obtain ⟨af, ta, rfl, haf⟩ := opt5 hv4 (by decide) (by decide) (by decide)
    clear hv4
    repeat' ((fail_if_success (with_reducible show wpAny _ _ (call (Value.ref 165) _) _ _ _)); (fail_if_success (with_reducible show wpAny _ _ (call (Value.ref 158) _) _ _ _)); (fail_if_success (with_reducible show wpAny _ _ (call (Value.ref 172) _) _ _ _)); first | walk1 | (dsimp only; walk1))
    with_reducible rename Fr _ _ _ _ => F9
    with_reducible rename News _ _ _ _ => N9
    show Q _ _
    have N10 := kst_newsOf (l' := [(pl, penO cl n4 x4 r4 y4 p4), (cl, listO cvs ce)]) N9 (fun p hp => .tail _ hp)
    obtain ⟨o1, o2⟩ := pen_out kOut hp.1 hc.1 hne F9 N10
    rename_i l1
    refine hQ _ ⟨.chars, #[65], bf, af⟩ _ 0 _ _ n4 _ _ _ p4 _ _ ⟨(show 0 < 1 ∧ 1 < 1000 by decide), hbf, haf⟩ (by omega) o1 o2 ⟨N9.get (.head _), ?_⟩
    exact fresh_of kBut (N9.fresh (.head _)) (two (Nat.ne_of_lt l1.1) (Nat.ne_of_lt l1.2))
  · rename (_ == _) = false => hb
    have hκ : κ ≠ .chars := by
      rintro rfl
      exact absurd hb (by decide)
    with_reducible rename Fr _ _ _ _ => F1
    with_reducible rename News _ _ _ _ => N1
    rename_i l1
    refine pick_at (vs := [_, _, _, _, _, _]) (led9 := [(cl, listO cvs ce)]) FG F1 N1 (by show _ < _; simp only [depth_deeper]; omega) (by show un9 + 3 < 3990; have : un9 < 3980 := hU; omega) (by rfl) (.head _) hi hl hne2 (by omega) ⟨by simp, by simp⟩ ⟨Nat.ne_of_gt l1.1, Nat.ne_of_gt l1.2⟩ ?_
    clear F1 N1
    intro v n2 x2 r2 y2 p2 tk2 h2 hv2 hn2 F1 N1
    obtain ⟨wn, tw, rfl, hwn⟩ := bytes6 hv2 (by decide)
    clear hv2
    repeat' ((fail_if_success (with_reducible show wpAny _ _ (call (Value.ref 165) _) _ _ _)); (fail_if_success (with_reducible show wpAny _ _ (call (Value.ref 158) _) _ _ _)); (fail_if_success (with_reducible show wpAny _ _ (call (Value.ref 172) _) _ _ _)); first | walk1 | (dsimp only; walk1))
    with_reducible rename Fr _ _ _ _ => F1
    with_reducible rename News _ _ _ _ => N1
    rename_i l1
    refine pick_at (vs := [_, _, _, _]) (led9 := [(cl, listO cvs ce)]) FG F1 N1 (by show _ < _; simp only [depth_deeper]; omega) (by show un9 + 3 < 3990; have : un9 < 3980 := hU; omega) (by rfl) (.head _) hi hl hne2 (by omega) ⟨by simp, by simp⟩ ⟨Nat.ne_of_gt l1.1, Nat.ne_of_gt l1.2⟩ ?_
    clear F1 N1
    intro v n3 x3 r3 y3 p3 tk3 h3 hv3 hn3 F1 N1
    obtain ⟨bf, tf, rfl, hbf⟩ := opt4 hv3 (by decide) (by decide)
    clear hv3
    repeat' ((fail_if_success (with_reducible show wpAny _ _ (call (Value.ref 165) _) _ _ _)); (fail_if_success (with_reducible show wpAny _ _ (call (Value.ref 158) _) _ _ _)); (fail_if_success (with_reducible show wpAny _ _ (call (Value.ref 172) _) _ _ _)); first | walk1 | (dsimp only; walk1))
    with_reducible rename Fr _ _ _ _ => F1
    with_reducible rename News _ _ _ _ => N1
    rename_i l1
    refine pick_at (vs := [_, _, _, _, _]) (led9 := [(cl, listO cvs ce)]) FG F1 N1 (by show _ < _; simp only [depth_deeper]; omega) (by show un9 + 3 < 3990; have : un9 < 3980 := hU; omega) (by rfl) (.head _) hi hl hne2 (by omega) ⟨by simp, by simp⟩ ⟨Nat.ne_of_gt l1.1, Nat.ne_of_gt l1.2⟩ ?_
    clear F1 N1
    intro v n4 x4 r4 y4 p4 tk4 h4 hv4 hn4 F1 N1
    obtain ⟨af, ta, rfl, haf⟩ := opt5 hv4 (by decide) (by decide) (by decide)
    clear hv4
    repeat' ((fail_if_success (with_reducible show wpAny _ _ (call (Value.ref 165) _) _ _ _)); (fail_if_success (with_reducible show wpAny _ _ (call (Value.ref 158) _) _ _ _)); (fail_if_success (with_reducible show wpAny _ _ (call (Value.ref 172) _) _ _ _)); first | walk1 | (dsimp only; walk1))
    with_reducible rename Fr _ _ _ _ => F9
    with_reducible rename News _ _ _ _ => N9
    show Q _ _
    have N10 := kst_newsOf (l' := [(pl, penO cl n4 x4 r4 y4 p4), (cl, listO cvs ce)]) N9 (fun p hp => .tail _ hp)
    obtain ⟨o1, o2⟩ := pen_out kOut hp.1 hc.1 hne F9 N10
    rename_i l1
    refine hQ _ ⟨κ, wn, bf, af⟩ tκ tw tf ta n4 _ _ _ p4 _ _ ⟨hwn, hbf, haf⟩ (by omega) o1 o2 ⟨?_, ?_⟩
    · show _ = some (tupO [Value.str κ.str tκ, wantedV tw κ wn, optV tf bf, optV ta af])
      rw [wantedV_ne hκ]
      exact N9.get (.head _)
    · exact fresh_of kBut (N9.fresh (.head _)) (two (Nat.ne_of_lt l1.1) (Nat.ne_of_lt l1.2))

end SGC
section SGD
variable {w : World} {A : Around} {E Q : Value → Shared → Prop} {s : Shared} {H : Heap}

theorem law_pen_spec {sc : Addr} {svs : List Value} {ns : List Int} (G : Fine w H s.heap) (hA : A.depth < 645) (hU : A.units < 3990) (hh : A.handled = none)
    (hs : H.IsList sc svs.toArray) (hi : IntsAre svs ns) (hl : ns.length ≤ 1048576)
    (hQ : ∀ pl cl cvs cs x y pe tk' h', IntsAre cvs cs → cvs.length ≤ 48 → pl ≠ cl → Sub s.heap h' → (h'.get? pl = some (penO cl 0 x 0 y pe) ∧ s.heap.get? pl = none) → (h'.get? cl = some (listO cvs cvs.length) ∧ s.heap.get? cl = none) → Q (.ref pl) { s with heap := h', toks := tk' }) :
    wpAny (model PySem.Challenge.rw_pb0229_01.row.prog w) A (call (.ref 151) [.ref sc]) Q E s := by
  w_on
  obtain ⟨hd9, dp9, fr9, gs9, un9⟩ := A
  dsimp only at hA
  obtain rfl : hd9 = none := hh
  have X0 := G.X; revert X0; k_fill; intro X0; clear X0
  k_dflt (refine' enter (binds := [(Str.ofString "script", .ref sc)]) G [] ?kadr ?k6 ?k7 ?k8 ?k9 ?kB ?c5 ?_ ?c2 ?c3 ?c4; (case k6 => k_is); (case k7 => k_is); (case k8 => (simp only [recursionLimit]; omega)); (case k9 => exact BindsTo.of_eq rfl); (case c5 => decide); (case kB => exact locs rfl); (case c2 => exact rfl); (case c3 => exact rfl); (case c4 => exact rfl); (case kadr => exact fun _ h => nomatch h); intro g L' h₁ loose mean mg mb kBut FG X' T' F' N' kOut; (try dsimp only); (try k_fold))
  obtain ⟨so, hso, hsc, sn, hsd⟩ := hs
  have hg : g.IsList sc svs.toArray := ⟨so, FG.keep _ _ hso, hsc, sn, hsd⟩
  repeat' ((fail_if_success (with_reducible show wpAny _ _ (PySem.eval (Expr.ListComp _ _ _ _) _) _ _ _)); first | walk1 | (dsimp only; walk1))
  refine LCg.ListComp_U (F₀ := F') (by with_unfolding_all rfl) (by decide) (by rfl) (by decide) (by rfl) ?_
  repeat' ((fail_if_success (with_reducible show LCg.CompSrc _ _ _ _ _ _ _ _ _ _ _ _ _ _)); first | walk1 | (dsimp only; walk1))
  with_reducible rename Fr _ _ _ _ => F1
  with_reducible rename News _ _ _ _ => N1
  rename_i DS ws h1 hI hC hL l1
  obtain ⟨cs, hcs⟩ : ∃ cs, List.take 48 ns = cs := ⟨_, rfl⟩
  rw [hcs] at hI hC
  have hwl : ws.length = cs.length := hI.length
  refine LCg.CompSrc.ledger (its := ws.toArray) (k := 0) (by rfl) F1 N1 (.head _) (by simp [hwl, hC]; unfold sizeLine; omega) ?_
  intro hq
  rw [show ws.toArray.size = cs.length by simp [hwl]]
  refine comp_run (σ := Unit) (fun _ => [(DS, listO ws 0)]) (fun i _ ys => IntsAre ys (cs.take i)) cs.length ?_ ?_ cs.length 0 () [] (by omega) .nil
  · rintro i - ys v J oJ C oC DD m₂ h tk3 E' hil hys hv hC2 hx F2 N2 off ne
    obtain ⟨x, tx, hx2, rfl⟩ := ints_get hI (by simpa using hv)
    clear F1 N1
    repeat' ((fail_if_success (with_reducible show LCg.CompEnd _ _ _ _ _ _ _ _ _ _ _ _ _ _)); first | walk1 | (dsimp only; walk1))
    with_reducible rename Fr _ _ _ _ => F3
    with_reducible rename News _ _ _ _ => N3
    refine LCg.CompEnd.intro F3 N3 [(DS, listO ws 0)] (fun p hp => hp) off (.inr ⟨_, .head _, rfl, _, rfl⟩) ⟨(), rfl, ?_⟩
    rw [List.take_add_one, hx2]
    exact ints_snoc hys
  · rintro - ys hys
    rw [List.take_length] at hys
    repeat' ((fail_if_success (with_reducible show LCg.CompEnd _ _ _ _ _ _ _ _ _ _ _ _ _ _)); first | walk1 | (dsimp only; walk1))
    with_reducible rename Fr _ _ _ _ => F9
    with_reducible rename News _ _ _ _ => N9
    rename_i l1
    show Q _ _
    refine hQ _ _ ys cs _ _ _ _ _ hys ?_ (Nat.ne_of_gt l1.1) (out_sub (kOut _ F9.keep)) ⟨N9.get (.head _), ?_⟩ ⟨N9.get (.tail _ (.head _)), ?_⟩
    · rw [hys.length, hC]; omega
    · exact fresh_of kBut (N9.fresh (.head _)) (fun _ h => nomatch h)
    · exact fresh_of kBut (N9.fresh (.tail _ (.head _))) (fun _ h => nomatch h)

end SGD
section SPL
theorem lies_size {o wn : Array UInt8} {n : Nat} (hw : 0 < wn.size) (h : liesAt o wn n = true) : n + wn.size ≤ o.size := by
  have e : (o.extract n (n + wn.size)).size = wn.size := by rw [of_decide_eq_true h]
  rw [Array.size_extract] at e
  omega
theorem isIn_iff {x b : Array UInt8} : isIn x b = true ↔ ∃ i, i + b.size ≤ x.size ∧ x.extract i (i + b.size) = b := by
  unfold isIn Bytes.find?
  rw [List.find?_isSome]
  simp only [List.mem_map, List.mem_range, beq_iff_eq]
  constructor
  · rintro ⟨i, ⟨j, hj, rfl⟩, h⟩
    exact ⟨j + 0, by omega, h⟩
  · rintro ⟨i, hi, h⟩
    exact ⟨i, ⟨i, by omega, rfl⟩, h⟩
theorem isIn_prefix {o b : Array UInt8} {m : Nat} (hb : 0 < b.size) : isIn (o.extract 0 m) b = true ↔ ∃ i, i + b.size ≤ m ∧ liesAt o b i = true := by
  rw [isIn_iff]
  constructor
  · rintro ⟨i, hi, h⟩
    rw [Array.size_extract] at hi
    refine ⟨i, by omega, decide_eq_true ?_⟩
    rw [Array.extract_extract, show min (0 + (i + b.size)) m = i + b.size by omega, Nat.zero_add] at h
    exact h
  · rintro ⟨i, hi, h⟩
    have hs := lies_size hb h
    refine ⟨i, by rw [Array.size_extract]; omega, ?_⟩
    rw [Array.extract_extract, show min (0 + (i + b.size)) m = i + b.size by omega, Nat.zero_add]
    exact of_decide_eq_true h
theorem firstAt_some {o wn : Array UInt8} {k : Nat} (h : firstAt o wn = some k) : k < o.size ∧ liesAt o wn k = true ∧ ∀ j, j < k → liesAt o wn j = false := by
  unfold firstAt at h
  rw [List.find?_range_eq_some] at h
  exact ⟨by simpa using h.2.1, h.1, fun j hj => by simpa using h.2.2 j hj⟩
theorem firstAt_none {o wn : Array UInt8} (h : firstAt o wn = none) : ∀ j, j < o.size → liesAt o wn j = false := by
  unfold firstAt at h
  rw [List.find?_range_eq_none] at h
  exact fun j hj => by simpa using h j hj
theorem sEnd_le (o : Array UInt8) (bf : Option (Array UInt8)) : sEnd o bf ≤ o.size := by
  unfold sEnd
  split
  · exact Nat.le_refl _
  · split
    · exact Nat.le_refl _
    · exact Nat.le_of_lt (firstAt_some (by assumption)).1
theorem late_iff {o : Array UInt8} {r : Row} {n : Nat} (hn : n < o.size) (hb : okOpt r.bf) : lateAt o r n = false ↔ n < sEnd o r.bf := by
  unfold lateAt sEnd
  cases e : r.bf with
  | none => simp [hn]
  | some b =>
    rw [e] at hb
    dsimp only
    rw [← Bool.not_eq_true, isIn_prefix hb.1]
    cases f : firstAt o b with
    | none =>
      have h0 := firstAt_none f
      simp only [hn, iff_true]
      rintro ⟨i, hi, h⟩
      rw [h0 i (by omega)] at h
      cases h
    | some k =>
      obtain ⟨h1, h2, h3⟩ := firstAt_some f
      dsimp only
      constructor
      · intro h
        exact Nat.lt_of_not_le fun hk => h ⟨k, by omega, h2⟩
      · rintro h ⟨i, hi, hl⟩
        rw [h3 i (by omega)] at hl
        cases hl
theorem early_iff {o : Array UInt8} {r : Row} {n : Nat} (hn : n < o.size) (ha : okOpt r.af) : earlyAt o r n = false ↔ sBegin o r.af ≤ n := by
  unfold earlyAt sBegin
  cases e : r.af with
  | none => simp
  | some a =>
    rw [e] at ha
    dsimp only
    rw [Bool.not_eq_false', isIn_prefix ha.1]
    cases f : firstAt o a with
    | none =>
      have h0 := firstAt_none f
      dsimp only
      constructor
      · rintro ⟨i, hi, h⟩
        have := lies_size ha.1 h
        rw [h0 i (by have := ha.1; omega)] at h
        cases h
      · intro h
        omega
    | some k =>
      obtain ⟨h1, h2, h3⟩ := firstAt_some f
      dsimp only
      constructor
      · rintro ⟨i, hi, hl⟩
        rcases Nat.lt_or_ge i k with h | h
        · rw [h3 i h] at hl
          cases hl
        · omega
      · intro h
        exact ⟨k, h, h2⟩
theorem mem_span {o : Array UInt8} {r : Row} {n : Nat} (hr : okRow r) : n ∈ spanL o r ↔ sBegin o r.af ≤ n ∧ n < sEnd o r.bf := by
  unfold spanL spanTo
  rw [List.mem_filter, List.mem_range]
  have hle := sEnd_le o r.bf
  constructor
  · rintro ⟨hn, h⟩
    simp only [Bool.and_eq_true, Bool.not_eq_true'] at h
    exact ⟨(early_iff hn hr.2.2).mp h.2, (late_iff hn hr.2.1).mp h.1⟩
  · rintro ⟨h1, h2⟩
    have hn : n < o.size := by omega
    refine ⟨hn, ?_⟩
    simp only [Bool.and_eq_true, Bool.not_eq_true']
    exact ⟨(late_iff hn hr.2.1).mpr h2, (early_iff hn hr.2.2).mpr h1⟩
/-- a row could take here, but for what was taken before -/
def can (o : Array UInt8) (r : Row) (n : Nat) : Bool := decide (sBegin o r.af ≤ n) && decide (n + r.size ≤ sEnd o r.bf) && (decide (r.kind = .chars) || liesAt o r.wn n)
theorem lawLies_eq {o : Array UInt8} {r : Row} {n : Nat} (hr : okRow r) : lawLies o r (spanL o r) n = can o r n := by
  have h0 := hr.1.1
  unfold lawLies can Row.size
  rw [Bool.eq_iff_iff]
  cases hk : r.kind <;> simp only [Bool.and_eq_true, decide_eq_true_eq, mem_span hr, Bool.or_eq_true, reduceCtorEq, false_or, true_or, and_true] <;> constructor <;> intro h
  all_goals first
    | exact ⟨⟨h.1.2.1, by omega⟩, h.1.1⟩
    | exact ⟨⟨h.2, h.1.1, by omega⟩, by omega, by omega⟩
    | exact ⟨h.1, by omega⟩
    | omega
/-- a seeker is a row's -/
structure SkOf (o : Array UInt8) (r : Row) (k : Sk) : Prop where
  kind : k.kind = r.kind
  wn : k.wn = r.wn
  b : k.b = sBegin o r.af
  e : k.e = sEnd o r.bf
theorem SkOf.reach {o : Array UInt8} {r : Row} {k : Sk} (h : SkOf o r k) (n : Nat) : SkOf o r (k.reach n) ∧ (k.reach n).done = k.done := by
  unfold Sk.reach
  split
  · split
    · exact ⟨⟨h.kind, h.wn, h.b, h.e⟩, rfl⟩
    · exact ⟨h, rfl⟩
  · exact ⟨h, rfl⟩
theorem SkOf.took {o : Array UInt8} {r : Row} {k : Sk} (h : SkOf o r k) (n : Nat) : SkOf o r (k.took n) ∧ (k.took n).done = decide (r.kind = .first) := ⟨⟨h.kind, h.wn, h.b, h.e⟩, by rw [← h.kind]; rfl⟩
theorem SkOf.width {o : Array UInt8} {r : Row} {k : Sk} (h : SkOf o r k) : k.width = r.size := by
  unfold Sk.width Row.size
  rw [h.kind, h.wn]
  all_goals (cases r.kind <;> rfl)
theorem SkOf.fit {o : Array UInt8} {r : Row} {k : Sk} (h : SkOf o r k) (n : Nat) : (k.reach n).fit o n = (!k.done && can o r n && (!(decide (r.kind = .leading)) || decide ((k.reach n).lead = some n))) := by
  obtain ⟨h', hd⟩ := h.reach n
  unfold Sk.fit can
  rw [h'.width, h'.b, h'.e, h'.kind, h'.wn, hd]
  rw [Bool.eq_iff_iff]
  simp only [Bool.and_eq_true]
  constructor
  · rintro ⟨⟨⟨⟨a, b⟩, c⟩, d⟩, e⟩
    exact ⟨⟨a, ⟨b, c⟩, e⟩, d⟩
  · rintro ⟨⟨a, ⟨b, c⟩, e⟩, d⟩
    exact ⟨⟨⟨⟨a, b⟩, c⟩, d⟩, e⟩

/-- the places of a walk, each with its taker, as one seeker sees them -/
inductive Run (o : Array UInt8) (j : Nat) : Sk → List (Nat × Option Nat) → Prop
  | nil {k : Sk} : Run o j k []
  | cons {k : Sk} {n : Nat} {t : Option Nat} {rest : List (Nat × Option Nat)} (h1 : (k.reach n).fit o n = true → ∃ i, i ≤ j ∧ t = some i) (h2 : t = some j → (k.reach n).fit o n = true) (h3 : ∀ p ∈ rest, n < p.1)
      (h4 : t = some j → ∀ p, rest.head? = some p → p.1 = n + k.width) (h5 : Run o j (if t = some j then (k.reach n).took n else k.reach n) rest) : Run o j k ((n, t) :: rest)
def ownTr (j : Nat) (tr : List (Nat × Option Nat)) : List (Nat × Option Nat) := tr.filter fun p => decide (p.2 = some j)
section
variable {o : Array UInt8} {j : Nat} {r : Row}
theorem next_of {k : Sk} (h : SkOf o r k) (n : Nat) (t : Option Nat) : SkOf o r (if t = some j then (k.reach n).took n else k.reach n) := by
  split
  · exact ((h.reach n).1.took n).1
  · exact (h.reach n).1
theorem run_can : ∀ {tr : List (Nat × Option Nat)} {k : Sk}, Run o j k tr → SkOf o r k → ∀ p ∈ tr, p.2 = some j → can o r p.1 = true := by
  intro tr k h
  induction h with
  | nil => intro _ p hp; nomatch hp
  | @cons k n t rest h1 h2 h3 h4 h5 ih =>
    intro hk p hp e
    rcases List.mem_cons.mp hp with rfl | hp
    · have := h2 e
      rw [hk.fit] at this
      simp only [Bool.and_eq_true] at this
      exact this.1.2
    · exact ih (next_of hk n t) p hp e
theorem run_done : ∀ {tr : List (Nat × Option Nat)} {k : Sk}, Run o j k tr → SkOf o r k → k.done = true → ∀ p ∈ tr, p.2 ≠ some j := by
  intro tr k h
  induction h with
  | nil => intro _ _ p hp; nomatch hp
  | @cons k n t rest h1 h2 h3 h4 h5 ih =>
    intro hk hd p hp e
    have ht : t ≠ some j := fun e => by
      have := h2 e
      rw [hk.fit, hd] at this
      simp at this
    rcases List.mem_cons.mp hp with rfl | hp
    · exact ht e
    · rw [if_neg ht] at ih
      exact ih (hk.reach n).1 ((hk.reach n).2.trans hd) p hp e
theorem run_all (hl : r.kind ≠ .leading) (hf : r.kind ≠ .first) : ∀ {tr : List (Nat × Option Nat)} {k : Sk}, Run o j k tr → SkOf o r k → k.done = false → ∀ p ∈ tr, can o r p.1 = true → ∃ i, i ≤ j ∧ p.2 = some i := by
  intro tr k h
  induction h with
  | nil => intro _ _ p hp; nomatch hp
  | @cons k n t rest h1 h2 h3 h4 h5 ih =>
    intro hk hd p hp hc
    rcases List.mem_cons.mp hp with rfl | hp
    · refine h1 ?_
      rw [hk.fit, hd, hc]
      simp [hl]
    · refine ih (next_of hk n t) ?_ p hp hc
      split
      · rw [((hk.reach n).1.took n).2]
        simp [hf]
      · rw [(hk.reach n).2, hd]
def someF (o : Array UInt8) (r : Row) (j : Nat) (tr : List (Nat × Option Nat)) : List (Nat × Option Nat) := tr.filter fun p => can o r p.1 && decide (j ≤ p.2.getD j)
theorem filter_none {α : Type} {l : List α} {p : α → Bool} (h : ∀ x ∈ l, p x = false) : l.filter p = [] := by
  rw [List.filter_eq_nil_iff]
  intro x hx
  simp [h x hx]
theorem own_nil {tr : List (Nat × Option Nat)} (h : ∀ p ∈ tr, p.2 ≠ some j) : ownTr j tr = [] := filter_none fun p hp => by simp [h p hp]
theorem run_first (hf : r.kind = .first) : ∀ {tr : List (Nat × Option Nat)} {k : Sk}, Run o j k tr → SkOf o r k → k.done = false → ownTr j tr = (someF o r j tr).take 1 := by
  intro tr k h
  induction h with
  | nil => intro _ _; rfl
  | @cons k n t rest h1 h2 h3 h4 h5 ih =>
    intro hk hd
    have hfit : (k.reach n).fit o n = can o r n := by rw [hk.fit, hd, hf]; simp
    rw [hfit] at h1 h2
    unfold ownTr someF
    rw [List.filter_cons, List.filter_cons]
    by_cases ht : t = some j
    · have hc := h2 ht
      rw [if_pos ht] at h5
      have hn := own_nil (run_done h5 ((hk.reach n).1.took n).1 (by rw [((hk.reach n).1.took n).2, hf]; rfl))
      unfold ownTr at hn
      rw [hn]
      simp [ht, hc]
    · rw [if_neg ht] at h5 ih
      have := ih (hk.reach n).1 ((hk.reach n).2.trans hd)
      unfold ownTr someF at this
      have hno : (can o r n && decide (j ≤ t.getD j)) = false := by
        cases hc : can o r n with
        | false => rfl
        | true =>
          obtain ⟨i, hi, rfl⟩ := h1 hc
          have : i ≠ j := fun e => ht (by rw [e])
          simp
          omega
      simp only [ht, decide_false, Bool.false_eq_true, if_false, hno]
      exact this
def spanF (o : Array UInt8) (r : Row) (tr : List (Nat × Option Nat)) : List (Nat × Option Nat) := tr.filter fun p => decide (sBegin o r.af ≤ p.1 ∧ p.1 < sEnd o r.bf)
theorem run_idle (hl : r.kind = .leading) : ∀ {tr : List (Nat × Option Nat)} {k : Sk}, Run o j k tr → SkOf o r k → ∀ l, k.lead = some l → (∀ p ∈ tr, l < p.1) → ∀ p ∈ tr, p.2 ≠ some j := by
  intro tr k h
  induction h with
  | nil => intro _ l _ _ p hp; nomatch hp
  | @cons k n t rest h1 h2 h3 h4 h5 ih =>
    intro hk l hlead hlt p hp e
    have hr : k.reach n = k := by unfold Sk.reach; rw [hlead]
    have hln : l < n := hlt (n, t) (.head _)
    have ht : t ≠ some j := fun e => by
      have := h2 e
      rw [hk.fit, hr, hlead, hl] at this
      simp at this
      omega
    rcases List.mem_cons.mp hp with rfl | hp
    · exact ht e
    · rw [if_neg ht, hr] at ih
      exact ih hk l hlead (fun q hq => hlt q (.tail _ hq)) p hp e
/-- the word of a LEADING row, over the walk's places -/
def LeadWord (o : Array UInt8) (r : Row) (j : Nat) (tr : List (Nat × Option Nat)) : Prop :=
  ∃ c, c ≤ (spanF o r tr).length ∧ ownTr j tr = (spanF o r tr).take c ∧ (∀ i p, i < c → (spanF o r tr)[i]? = some p → p.2 = some j) ∧ (∀ p, (spanF o r tr)[c]? = some p → p.2 ≠ some j ∧ (can o r p.1 = true → ∃ i, i < j ∧ p.2 = some i))
theorem can_span {n : Nat} (h : can o r n = true) (hs : 0 < r.size) : sBegin o r.af ≤ n ∧ n < sEnd o r.bf := by
  unfold can at h
  simp only [Bool.and_eq_true, decide_eq_true_eq] at h
  omega
theorem run_lead (hl : r.kind = .leading) (hs : 0 < r.size) : ∀ {tr : List (Nat × Option Nat)} {k : Sk}, Run o j k tr → SkOf o r k → k.done = false → (∀ l, k.lead = some l → sBegin o r.af ≤ l ∧ ∀ p, tr.head? = some p → p.1 = l) → LeadWord o r j tr := by
  intro tr k h
  induction h with
  | nil => intro _ _ _; exact ⟨0, Nat.le_refl _, rfl, fun i p hi => absurd hi (Nat.not_lt_zero _), fun p hp => by simp [spanF] at hp⟩
  | @cons k n t rest h1 h2 h3 h4 h5 ih =>
    intro hk hd hlead
    have hkr := hk.reach n
    by_cases hin : sBegin o r.af ≤ n ∧ n < sEnd o r.bf
    · -- a place of the span
      have hsp : spanF o r ((n, t) :: rest) = (n, t) :: spanF o r rest := by
        unfold spanF
        rw [List.filter_cons, if_pos (by simpa using hin)]
      have hln : (k.reach n).lead = some n := by
        cases e : k.lead with
        | none =>
          unfold Sk.reach
          rw [e]
          dsimp only
          rw [hk.b, hk.e, if_pos hin]
        | some l =>
          have := (hlead l e).2 (n, t) rfl
          unfold Sk.reach
          rw [e]
          exact e.trans (by rw [← this])
      have hfit : (k.reach n).fit o n = can o r n := by rw [hk.fit, hd, hln, hl]; simp
      by_cases ht : t = some j
      · rw [if_pos ht] at h5 ih
        have htk := hkr.1.took n
        obtain ⟨c, c1, c2, c3, c4⟩ := ih htk.1 (by rw [htk.2, hl]; rfl) (fun l e => by
          have e2 : some (n + (k.reach n).width) = some l := e
          have e3 : n + (k.reach n).width = l := Option.some.inj e2
          rw [Sk.reach_width] at e3
          exact ⟨by omega, fun p hp => by rw [h4 ht p hp, e3]⟩)
        refine ⟨c + 1, by rw [hsp]; simpa using c1, ?_, ?_, ?_⟩
        · rw [hsp]
          unfold ownTr at c2 ⊢
          rw [List.filter_cons, if_pos (by simp [ht]), c2]
          rfl
        · intro i p hi hp
          rw [hsp] at hp
          cases i with
          | zero => simp at hp; rw [← hp]; exact ht
          | succ i => exact c3 i p (by omega) (by simpa using hp)
        · intro p hp
          rw [hsp] at hp
          exact c4 p (by simpa using hp)
      · rw [if_neg ht] at h5
        have hid := run_idle hl h5 hkr.1 n hln h3
        refine ⟨0, Nat.zero_le _, ?_, fun i p hi => absurd hi (Nat.not_lt_zero _), ?_⟩
        · rw [own_nil fun p hp => ?_]
          · rfl
          · rcases List.mem_cons.mp hp with rfl | hp
            · exact ht
            · exact hid p hp
        · intro p hp
          rw [hsp] at hp
          simp at hp
          subst hp
          refine ⟨ht, fun hc => ?_⟩
          obtain ⟨i, hi, e⟩ := h1 (hfit.trans hc)
          refine ⟨i, ?_, e⟩
          have : i ≠ j := fun e2 => ht (by rw [e, e2])
          omega
    · have hnc : can o r n = false := by
        cases e : can o r n with
        | false => rfl
        | true => exact absurd (can_span e hs) hin
      have ht : t ≠ some j := fun e => by
        have := h2 e
        rw [hk.fit, hnc] at this
        simp at this
      rw [if_neg ht] at h5 ih
      have hsp : spanF o r ((n, t) :: rest) = spanF o r rest := by
        unfold spanF
        rw [List.filter_cons, if_neg (by simpa using hin)]
      have how : ownTr j ((n, t) :: rest) = ownTr j rest := by
        unfold ownTr
        rw [List.filter_cons, if_neg (by simp [ht])]
      cases e : k.lead with
      | none =>
        have hr : (k.reach n) = k := by
          unfold Sk.reach
          rw [e]
          dsimp only
          rw [hk.b, hk.e, if_neg hin]
        obtain ⟨c, c1, c2, c3, c4⟩ := ih hkr.1 (hkr.2.trans hd) (fun l e2 => by rw [hr, e] at e2; cases e2)
        exact ⟨c, by rw [hsp]; exact c1, by rw [hsp, how]; exact c2, by rw [hsp]; exact c3, by rw [hsp]; exact c4⟩
      | some l =>
        obtain ⟨hb, hhd⟩ := hlead l e
        have hnl : n = l := hhd (n, t) rfl
        have hr : (k.reach n) = k := by unfold Sk.reach; rw [e]
        have hid := run_idle hl h5 hkr.1 l (by rw [hr]; exact e) (fun p hp => by have := h3 p hp; omega)
        have hsn : spanF o r rest = [] := filter_none fun p hp => by
          have := h3 p hp
          simp
          omega
        refine ⟨0, Nat.zero_le _, ?_, fun i p hi => absurd hi (Nat.not_lt_zero _), ?_⟩
        · rw [how, own_nil hid]; rfl
        · intro p hp
          rw [hsp, hsn] at hp
          simp at hp
end
/-- the walk's places, each with its taker -/
def trace (o : Array UInt8) : Nat → List Sk → Nat → List (Nat × Option Nat)
  | 0, _, _ => []
  | m + 1, ks, n => if n < o.size then
      match taker o n ks with
      | none => (n, none) :: trace o m (ks.map (·.reach n)) (n + 1)
      | some j => (n, some j) :: trace o m ((ks.map (·.reach n)).modify j (·.took n)) (n + ((ks[j]?).map Sk.width).getD 1)
    else []
def fpOf (tr : List (Nat × Option Nat)) : List (Nat × Nat) := tr.filterMap fun p => p.2.map fun i => (p.1, i)
theorem walk_trace (o : Array UInt8) : ∀ m ks n, walk o m ks n = fpOf (trace o m ks n)
  | 0, _, _ => rfl
  | m + 1, ks, n => by
    by_cases h : n < o.size
    · rw [walk, trace, if_pos h, if_pos h]
      cases e : taker o n ks with
      | none => dsimp only; rw [walk_trace]; rfl
      | some j => dsimp only; rw [walk_trace]; rfl
    · rw [walk, trace, if_neg h, if_neg h]; rfl
structure GoodKs (o : Array UInt8) (ks : List Sk) : Prop where
  width : ∀ k ∈ ks, 0 < k.width
  stop : ∀ k ∈ ks, k.e ≤ o.size
theorem reach_e (k : Sk) (n : Nat) : (k.reach n).e = k.e := by
  unfold Sk.reach
  split
  · split <;> rfl
  · rfl
/-- the seekers behind a place -/
def nextKs (n : Nat) (t : Option Nat) (ks : List Sk) : List Sk := match t with
  | none => ks.map (·.reach n)
  | some j => (ks.map (·.reach n)).modify j (·.took n)
theorem nextKs_get {n : Nat} {t : Option Nat} {ks : List Sk} {i : Nat} : (nextKs n t ks)[i]? = (ks[i]?).map fun k => if t = some i then (k.reach n).took n else k.reach n := by
  unfold nextKs
  cases t with
  | none => simp
  | some j =>
    simp only [List.getElem?_modify, List.getElem?_map, Option.some.injEq]
    cases ks[i]? with
    | none => simp
    | some k => by_cases h : j = i <;> simp [h]
theorem nextKs_length {n : Nat} {t : Option Nat} {ks : List Sk} : (nextKs n t ks).length = ks.length := by
  unfold nextKs
  cases t <;> simp
theorem GoodKs.next {o : Array UInt8} {ks : List Sk} (h : GoodKs o ks) (n : Nat) (t : Option Nat) : GoodKs o (nextKs n t ks) := by
  have key : ∀ k ∈ nextKs n t ks, ∃ k₀ ∈ ks, k.width = k₀.width ∧ k.e = k₀.e := by
    intro k hk
    obtain ⟨i, hi⟩ := List.getElem?_of_mem hk
    rw [nextKs_get] at hi
    obtain ⟨k₀, h0, rfl⟩ := Option.map_eq_some_iff.mp hi
    refine ⟨k₀, List.mem_of_getElem? h0, ?_⟩
    split
    · exact ⟨(Sk.took_width _ _).trans (Sk.reach_width _ _), reach_e _ _⟩
    · exact ⟨Sk.reach_width _ _, reach_e _ _⟩
  exact ⟨fun k hk => by obtain ⟨k₀, h0, e, _⟩ := key k hk; rw [e]; exact h.width k₀ h0, fun k hk => by obtain ⟨k₀, h0, _, e⟩ := key k hk; rw [e]; exact h.stop k₀ h0⟩
theorem taker_some {o : Array UInt8} {n j : Nat} {ks : List Sk} (h : taker o n ks = some j) : ∃ k, ks[j]? = some k ∧ (k.reach n).fit o n = true ∧ ∀ i k', i < j → ks[i]? = some k' → (k'.reach n).fit o n = false := by
  unfold taker at h
  rw [List.findIdx?_eq_some_iff_getElem] at h
  obtain ⟨h1, h2, h3⟩ := h
  refine ⟨ks[j], List.getElem?_eq_getElem h1, h2, fun i k' hi hk => ?_⟩
  have := h3 i hi
  obtain ⟨hl, e⟩ := List.getElem?_eq_some_iff.mp hk
  rw [e] at this
  simpa using this
theorem taker_none {o : Array UInt8} {n : Nat} {ks : List Sk} (h : taker o n ks = none) : ∀ k ∈ ks, (k.reach n).fit o n = false := by
  unfold taker at h
  rw [List.findIdx?_eq_none_iff] at h
  exact fun k hk => by simpa using h k hk
/-- how far a place goes -/
def stride (ks : List Sk) (t : Option Nat) : Nat := match t with
  | none => 1
  | some j => ((ks[j]?).map Sk.width).getD 1
theorem trace_step {o : Array UInt8} {m n : Nat} {ks : List Sk} (h : n < o.size) : trace o (m + 1) ks n = (n, taker o n ks) :: trace o m (nextKs n (taker o n ks) ks) (n + stride ks (taker o n ks)) := by
  rw [trace, if_pos h]
  cases taker o n ks <;> rfl
theorem trace_end {o : Array UInt8} {m n : Nat} {ks : List Sk} (h : ¬ n < o.size) : trace o m ks n = [] := by
  cases m with
  | zero => rfl
  | succ m => rw [trace, if_neg h]
theorem stride_pos {o : Array UInt8} {ks : List Sk} (h : GoodKs o ks) (t : Option Nat) : 0 < stride ks t := by
  cases t with
  | none => exact Nat.one_pos
  | some j =>
    show 0 < ((ks[j]?).map Sk.width).getD 1
    cases e : ks[j]? with
    | none => exact Nat.one_pos
    | some k => exact h.width k (List.mem_of_getElem? e)
theorem stride_le {o : Array UInt8} {ks : List Sk} {n : Nat} (h : GoodKs o ks) (hn : n < o.size) : n + stride ks (taker o n ks) ≤ o.size := by
  cases e : taker o n ks with
  | none => exact hn
  | some j =>
    obtain ⟨k, hk, hf, _⟩ := taker_some e
    show n + ((ks[j]?).map Sk.width).getD 1 ≤ o.size
    rw [hk]
    show n + k.width ≤ o.size
    have h1 := h.stop k (List.mem_of_getElem? hk)
    unfold Sk.fit at hf
    simp only [Bool.and_eq_true, decide_eq_true_eq] at hf
    have h2 := hf.1.1.2
    rw [Sk.reach_width, reach_e] at h2
    omega
theorem trace_ge {o : Array UInt8} : ∀ {m n : Nat} {ks : List Sk}, GoodKs o ks → ∀ p ∈ trace o m ks n, n ≤ p.1
  | 0, _, _, _, p, hp => nomatch hp
  | m + 1, n, ks, h, p, hp => by
    by_cases hn : n < o.size
    · rw [trace_step hn] at hp
      rcases List.mem_cons.mp hp with rfl | hp
      · exact Nat.le_refl _
      · exact Nat.le_trans (Nat.le_add_right _ _) (trace_ge (h.next n _) p hp)
    · rw [trace_end hn] at hp
      nomatch hp
theorem trace_head {o : Array UInt8} {m n : Nat} {ks : List Sk} {p : Nat × Option Nat} (h : (trace o m ks n).head? = some p) : p.1 = n := by
  cases m with
  | zero => simp [trace] at h
  | succ m =>
    by_cases hn : n < o.size
    · rw [trace_step hn] at h
      simp at h
      rw [← h]
    · rw [trace_end hn] at h
      simp at h
theorem trace_run {o : Array UInt8} {j : Nat} : ∀ {m n : Nat} {ks : List Sk} {k : Sk}, GoodKs o ks → ks[j]? = some k → Run o j k (trace o m ks n)
  | 0, _, _, _, _, _ => .nil
  | m + 1, n, ks, k, h, hk => by
    by_cases hn : n < o.size
    · rw [trace_step hn]
      have hst := stride_pos h (taker o n ks)
      refine .cons ?_ ?_ ?_ ?_ ?_
      · intro hf
        cases e : taker o n ks with
        | none =>
          rw [taker_none e k (List.mem_of_getElem? hk)] at hf
          cases hf
        | some i =>
          obtain ⟨k', hk', _, hlt⟩ := taker_some e
          refine ⟨i, ?_, rfl⟩
          rcases Nat.lt_or_ge j i with h1 | h1
          · rw [hlt j k h1 hk] at hf
            cases hf
          · exact h1
      · intro e
        obtain ⟨k', hk', hf, _⟩ := taker_some e
        rw [hk] at hk'
        cases hk'
        exact hf
      · intro p hp
        have := trace_ge (h.next n _) p hp
        omega
      · intro e p hp
        rw [trace_head hp, e]
        show n + ((ks[j]?).map Sk.width).getD 1 = n + k.width
        rw [hk]
        rfl
      · refine trace_run (h.next n _) ?_
        rw [nextKs_get, hk]
        rfl
    · rw [trace_end hn]
      exact .nil
theorem trace_asc {o : Array UInt8} : ∀ {m n : Nat} {ks : List Sk}, GoodKs o ks → ((trace o m ks n).map (·.1)).Pairwise (· < ·)
  | 0, _, _, _ => .nil
  | m + 1, n, ks, h => by
    by_cases hn : n < o.size
    · rw [trace_step hn, List.map_cons]
      have hst := stride_pos h (taker o n ks)
      refine .cons (fun x hx => ?_) (trace_asc (h.next n _))
      obtain ⟨p, hp, rfl⟩ := List.mem_map.mp hx
      have := trace_ge (h.next n _) p hp
      omega
    · rw [trace_end hn]
      exact .nil
theorem trace_stood {o : Array UInt8} (W : Nat → Nat) (step : Nat → Nat) : ∀ {m n : Nat} {ks : List Sk}, GoodKs o ks → (∀ j k, ks[j]? = some k → k.width = W j) → (∀ p ∈ trace o m ks n, step p.1 = match p.2 with | none => 1 | some j => W j) → o.size ≤ n + m → n ≤ o.size →
    stoodGo o.size step m n = ((trace o m ks n).map (·.1), o.size)
  | 0, n, ks, _, _, _, h1, h2 => by
    have : n = o.size := by omega
    subst this
    rfl
  | m + 1, n, ks, h, hW, hs, h1, h2 => by
    by_cases hn : n < o.size
    · rw [trace_step hn] at hs ⊢
      have hst := stride_pos h (taker o n ks)
      have he : step n = stride ks (taker o n ks) := by
        have := hs _ (.head _)
        dsimp only at this
        rw [this]
        cases e : taker o n ks with
        | none => rfl
        | some j =>
          obtain ⟨k, hk, _⟩ := taker_some e
          show W j = ((ks[j]?).map Sk.width).getD 1
          rw [hk]
          exact (hW j k hk).symm
      rw [stoodGo, if_pos hn, he]
      rw [trace_stood W step (h.next n _) ?_ (fun p hp => hs p (.tail _ hp)) (by omega) (stride_le h hn)]
      · rfl
      · intro j k hk
        rw [nextKs_get] at hk
        obtain ⟨k₀, h0, rfl⟩ := Option.map_eq_some_iff.mp hk
        rw [← hW j k₀ h0]
        split
        · exact (Sk.took_width _ _).trans (Sk.reach_width _ _)
        · exact Sk.reach_width _ _
    · rw [trace_end hn, stoodGo, if_neg hn]
      have : n = o.size := by omega
      subst this
      rfl
theorem trace_lt {o : Array UInt8} : ∀ {m n : Nat} {ks : List Sk}, ∀ p ∈ trace o m ks n, ∀ j, p.2 = some j → j < ks.length
  | 0, _, _, p, hp, _, _ => nomatch hp
  | m + 1, n, ks, p, hp, j, e => by
    by_cases hn : n < o.size
    · rw [trace_step hn] at hp
      rcases List.mem_cons.mp hp with rfl | hp
      · obtain ⟨k, hk, _⟩ := taker_some e
        exact (List.getElem?_eq_some_iff.mp hk).1
      · have := trace_lt p hp j e
        rwa [nextKs_length] at this
    · rw [trace_end hn] at hp
      nomatch hp
theorem trace_len {o : Array UInt8} : ∀ {m n : Nat} {ks : List Sk}, (trace o m ks n).length ≤ m
  | 0, _, _ => Nat.le_refl _
  | m + 1, n, ks => by
    by_cases hn : n < o.size
    · rw [trace_step hn, List.length_cons]
      exact Nat.succ_le_succ trace_len
    · rw [trace_end hn]
      exact Nat.zero_le _
theorem fpOf_fst (tr : List (Nat × Option Nat)) : (fpOf tr).map (·.1) = (tr.filter fun p => p.2.isSome).map (·.1) := by
  induction tr with
  | nil => rfl
  | cons p r ih =>
    obtain ⟨n, t⟩ := p
    unfold fpOf at ih ⊢
    cases t <;> simp [List.filterMap_cons, List.filter_cons, ih]
theorem mem_fpOf {tr : List (Nat × Option Nat)} {q : Nat × Nat} : q ∈ fpOf tr ↔ (q.1, some q.2) ∈ tr := by
  unfold fpOf
  rw [List.mem_filterMap]
  constructor
  · rintro ⟨⟨n, t⟩, hp, h⟩
    cases t with
    | none => simp at h
    | some i => simp at h; rw [← h]; exact hp
  · intro h
    exact ⟨_, h, rfl⟩
theorem taken_none {fp : List (Nat × Nat)} {n : Nat} (h : ∀ q ∈ fp, q.1 ≠ n) : takenAt fp n = none := by
  unfold takenAt
  rw [List.find?_eq_none.mpr fun q hq => by simp [h q hq]]
  rfl
theorem taken_of : ∀ {tr : List (Nat × Option Nat)}, (tr.map (·.1)).Pairwise (· < ·) → ∀ p ∈ tr, takenAt (fpOf tr) p.1 = p.2
  | [], _, p, hp => nomatch hp
  | (n, t) :: r, h, p, hp => by
    rw [List.map_cons, List.pairwise_cons] at h
    have hr : ∀ q ∈ fpOf r, n < q.1 := fun q hq => h.1 _ (List.mem_map_of_mem (f := (·.1)) (mem_fpOf.mp hq))
    rcases List.mem_cons.mp hp with rfl | hp
    · cases t with
      | none => exact taken_none (fp := fpOf r) fun q hq => Nat.ne_of_gt (hr q hq)
      | some j =>
        show takenAt ((n, j) :: fpOf r) n = some j
        unfold takenAt
        simp
    · have hlt : n < p.1 := h.1 _ (List.mem_map_of_mem hp)
      have ih := taken_of h.2 p hp
      cases t with
      | none => exact ih
      | some j =>
        show takenAt ((n, j) :: fpOf r) p.1 = p.2
        unfold takenAt at ih ⊢
        rw [List.find?_cons]
        have : ¬ n = p.1 := by omega
        simp only [this, decide_false]
        exact ih
/-- a filter of the places by place and taker -/
theorem stood_filter {tr : List (Nat × Option Nat)} (h : (tr.map (·.1)).Pairwise (· < ·)) (P : Nat → Option Nat → Bool) : (tr.map (·.1)).filter (fun n => P n (takenAt (fpOf tr) n)) = (tr.filter fun p => P p.1 p.2).map (·.1) := by
  rw [List.filter_map]
  congr 1
  exact List.filter_congr fun p hp => by simp only [Function.comp]; rw [taken_of h p hp]
section
variable {o : Array UInt8} {rows : List Row}
theorem sk_of (o : Array UInt8) (r : Row) : SkOf o r (r.sk o) := ⟨rfl, rfl, rfl, rfl⟩
theorem good_rows (h : ∀ r ∈ rows, okRow r) : GoodKs o (rows.map (·.sk o)) := by
  refine ⟨fun k hk => ?_, fun k hk => ?_⟩
  · obtain ⟨r, hr, rfl⟩ := List.mem_map.mp hk
    rw [(sk_of o r).width]
    unfold Row.size
    split
    · exact Nat.one_pos
    · exact (h r hr).1.1
  · obtain ⟨r, hr, rfl⟩ := List.mem_map.mp hk
    exact sEnd_le o r.bf
theorem row_size_pos {r : Row} (h : okRow r) : 0 < r.size := by
  unfold Row.size
  split
  · exact Nat.one_pos
  · exact h.1.1
/-- the places of the walk of these rows -/
def traceOf (o : Array UInt8) (rows : List Row) : List (Nat × Option Nat) := trace o o.size (rows.map (·.sk o)) 0
theorem fits_trace : fits o rows = fpOf (traceOf o rows) := walk_trace o _ _ _
theorem asc_of (h : ∀ r ∈ rows, okRow r) : ((traceOf o rows).map (·.1)).Pairwise (· < ·) := trace_asc (good_rows h)
theorem fits_nodup (o : Array UInt8) (rows : List Row) (h : ∀ r ∈ rows, okRow r) : ((fits o rows).map (·.1)).Nodup := by
  rw [fits_trace, fpOf_fst]
  have h1 : (((traceOf o rows).filter fun p => p.2.isSome).map (·.1)).Pairwise (· < ·) := (asc_of h).sublist ((List.filter_sublist).map _)
  exact h1.imp fun hab => Nat.ne_of_lt hab
theorem fits_lt (o : Array UInt8) (rows : List Row) : ∀ p ∈ fits o rows, p.2 < rows.length := by
  intro p hp
  rw [fits_trace] at hp
  have := trace_lt _ (mem_fpOf.mp hp) p.2 rfl
  simpa using this
theorem fits_len (o : Array UInt8) (rows : List Row) : (fits o rows).length ≤ o.size := by
  rw [fits_trace]
  exact Nat.le_trans (List.length_filterMap_le _ _) trace_len
theorem stood_of (h : ∀ r ∈ rows, okRow r) : lawStood o rows (fits o rows) = some ((traceOf o rows).map (·.1)) := by
  have ha := asc_of (o := o) h
  have hs := trace_stood (o := o) (fun j => ((rows[j]?).map Row.size).getD 1) (stepAt rows (fits o rows)) (m := o.size) (n := 0) (good_rows h) (fun j k hk => by
    rw [List.getElem?_map] at hk
    obtain ⟨r, hr, rfl⟩ := Option.map_eq_some_iff.mp hk
    rw [hr, (sk_of o r).width]
    rfl) (fun p hp => by
    unfold stepAt
    rw [fits_trace, taken_of ha p hp]
    cases p.2 <;> rfl) (by omega) (Nat.zero_le _)
  unfold lawStood
  dsimp only
  rw [hs]
  refine if_pos ⟨rfl, ?_⟩
  dsimp only
  rw [fits_trace, fpOf_fst]
  exact (stood_filter ha fun _ t => t.isSome).symm
theorem run_of (h : ∀ r ∈ rows, okRow r) {j : Nat} {r : Row} (hj : rows[j]? = some r) : Run o j (r.sk o) (traceOf o rows) := trace_run (good_rows h) (by rw [List.getElem?_map, hj]; rfl)
theorem first_ok (h : ∀ r ∈ rows, okRow r) {j : Nat} {r : Row} (hj : rows[j]? = some r) (hk : r.kind = .first) : firstRight o r j (spanL o r) ((traceOf o rows).map (·.1)) (fits o rows) = true := by
  have ha := asc_of (o := o) h
  have hr := h r (List.mem_of_getElem? hj)
  have hrun := run_first hk (run_of (o := o) h hj) (sk_of o r) rfl
  unfold firstRight firstSome
  refine decide_eq_true ?_
  rw [fits_trace, stood_filter ha fun _ t => decide (t = some j), stood_filter ha fun n t => lawLies o r (spanL o r) n && decide (j ≤ t.getD j), ← List.map_take]
  simp only [lawLies_eq hr]
  exact congrArg (List.map (·.1)) hrun
theorem late_ok (h : ∀ r ∈ rows, okRow r) {j : Nat} {r : Row} (hj : rows[j]? = some r) (hl : r.kind ≠ .leading) (hf : r.kind ≠ .first) : lateOnes o r j rows.length ((traceOf o rows).map (·.1)) (fits o rows) = [] := by
  have ha := asc_of (o := o) h
  have hr := h r (List.mem_of_getElem? hj)
  have hrun := run_all hl hf (run_of (o := o) h hj) (sk_of o r) rfl
  unfold lateOnes
  rw [fits_trace, stood_filter ha fun n t => lawLies o r (spanL o r) n && decide (j < t.getD rows.length)]
  rw [filter_none fun p hp => ?_]
  · rfl
  · rw [lawLies_eq hr]
    cases e : can o r p.1 with
    | false => rfl
    | true =>
      obtain ⟨i, hi, e2⟩ := hrun p hp e
      rw [e2]
      simp
      omega
theorem leading_ok (h : ∀ r ∈ rows, okRow r) {j : Nat} {r : Row} (hj : rows[j]? = some r) (hk : r.kind = .leading) : leadingRight o r j (spanL o r) ((traceOf o rows).map (·.1)) (fits o rows) = true := by
  have ha := asc_of (o := o) h
  have hr := h r (List.mem_of_getElem? hj)
  obtain ⟨c, c1, c2, c3, c4⟩ := run_lead hk (row_size_pos hr) (run_of (o := o) h hj) (sk_of o r) rfl (fun l e => by cases e)
  have hsm : ((traceOf o rows).map (·.1)).filter (fun n => decide (n ∈ spanL o r)) = (spanF o r (traceOf o rows)).map (·.1) := by
    rw [List.filter_map]
    unfold spanF
    congr 1
    refine List.filter_congr fun p _ => ?_
    rw [Function.comp, Bool.eq_iff_iff]
    simp only [decide_eq_true_eq]
    exact mem_span hr
  have hsub : ∀ p ∈ spanF o r (traceOf o rows), p ∈ traceOf o rows := fun p hp => (List.mem_filter.mp hp).1
  have hcnt : leadCount j ((spanF o r (traceOf o rows)).map (·.1)) (fits o rows) = c := by
    refine leadCount_eq (by simpa using c1) (fun i n hi hn => ?_) (fun n hn => ?_)
    · rw [List.getElem?_map] at hn
      obtain ⟨p, hp, rfl⟩ := Option.map_eq_some_iff.mp hn
      rw [fits_trace, taken_of ha p (hsub p (List.mem_of_getElem? hp))]
      exact c3 i p hi hp
    · rw [List.getElem?_map] at hn
      obtain ⟨p, hp, rfl⟩ := Option.map_eq_some_iff.mp hn
      rw [fits_trace, taken_of ha p (hsub p (List.mem_of_getElem? hp))]
      exact (c4 p hp).1
  rw [leadingRight_eq hsm hcnt]
  rw [Bool.and_eq_true]
  constructor
  · refine decide_eq_true ?_
    rw [fits_trace, stood_filter ha fun _ t => decide (t = some j), ← List.map_take]
    exact congrArg (List.map (·.1)) c2
  · rw [List.getElem?_map]
    cases e : (spanF o r (traceOf o rows))[c]? with
    | none => rfl
    | some p =>
      dsimp only [Option.map]
      rw [lawLies_eq hr, fits_trace, taken_of ha p (hsub p (List.mem_of_getElem? e))]
      cases hc : can o r p.1 with
      | false => rfl
      | true =>
        obtain ⟨i, hi, e2⟩ := (c4 p e).2 hc
        rw [e2]
        simp
        omega
theorem plain_law (o : Array UInt8) (rows : List Row) (h : ∀ r ∈ rows, okRow r) : walkRight o rows (fits o rows) = true := by
  unfold walkRight
  rw [stood_of h]
  dsimp only
  rw [Bool.and_eq_true]
  constructor
  · refine decide_eq_true ?_
    unfold wrongFits
    rw [filter_none fun p hp => ?_]
    · rfl
    · have hlt := fits_lt o rows p hp
      have hg : rows[p.2]? = some rows[p.2] := List.getElem?_eq_getElem hlt
      rw [fits_trace] at hp
      have hc := run_can (run_of (o := o) h hg) (sk_of o _) _ (mem_fpOf.mp hp) rfl
      rw [show rows.getD p.2 Row.none = rows[p.2] by simp [hlt], lawLies_eq (h _ (List.getElem_mem hlt))]
      dsimp only at hc
      rw [hc]
      rfl
  · rw [List.all_eq_true]
    intro j hj
    have hlt := List.mem_range.mp hj
    have hg : rows[j]? = some rows[j] := List.getElem?_eq_getElem hlt
    rw [show rows.getD j Row.none = rows[j] by simp [hlt]]
    unfold rowRight
    cases hk : rows[j].kind with
    | first => exact first_ok h hg hk
    | leading => exact leading_ok h hg hk
    | all => exact decide_eq_true (late_ok h hg (by rw [hk]; simp) (by rw [hk]; simp))
    | chars => exact decide_eq_true (late_ok h hg (by rw [hk]; simp) (by rw [hk]; simp))
end

end SPL
section SHA
section
variable {prog : Program} {w : World} {A : Around} {E Q : Value → Shared → Prop} {s : Shared} {l b : Addr} {vs us : List Value} {D1 D2 : List (Addr × Obj)} {fp : List (Nat × Nat)}
theorem range_all_true (n : Nat) : (List.range n).all (fun _ => true) = true := by simp
/-- two lists of the same pairs are equal -/
theorem ne_pairs (hl : s.heap.IsList l vs.toArray) (hb : s.heap.IsList b us.toArray) (h1 : ∀ p ∈ D1, s.heap.get? p.1 = some p.2) (h2 : ∀ p ∈ D2, s.heap.get? p.1 = some p.2) (hx : FoundAt D1 vs fp) (hy : FoundAt D2 us fp) (hu : A.units + 2 < cLine) (h : Q (.bool false) s) :
    wpAny (model prog w) A (compareOp .NotEq (.ref l) (.ref b)) Q E s := by
  refine cmp_ofNotEq ?_
  refine RcNeAt.lists (e := fun _ => true) hl hb (by simp [hx.len, hy.len]) (by omega) (fun j i1 i2 => ?_) prog w E Q ?_
  · obtain ⟨p, hp, a, t1, t2, e1, m1⟩ := hx.getL (List.getElem?_eq_getElem (by simpa using i1))
    obtain ⟨p', hp', a', u1, u2, e2, m2⟩ := hy.getL (List.getElem?_eq_getElem (by simpa using i2))
    rw [hp] at hp'
    cases hp'
    rw [List.getElem_toArray, List.getElem_toArray, e1, e2]
    by_cases haa : a = a'
    · subst haa
      exact EqAt.same _
    · refine EqAt.of_refs haa ?_
      have ht1 : s.heap.IsTuple a #[.int p.1 t1, .int p.2 t2] := ⟨_, h1 _ m1, rfl, _, rfl⟩
      have ht2 : s.heap.IsTuple a' #[.int p.1 u1, .int p.2 u2] := ⟨_, h2 _ m2, rfl, _, rfl⟩
      refine RcAt.tuples (A := A.in1) (e := fun _ => true) ht1 ht2 (by show A.units + 1 < cLine; omega) (fun j i1 i2 => ?_)
      match j, i1, i2 with
      | 0, _, _ =>
        have := EqAt.int_int (A := A.in1.in1) (s := s) (p.1 : Int) t1 (p.1 : Int) u1
        rwa [beq_self_eq_true] at this
      | 1, _, _ =>
        have := EqAt.int_int (A := A.in1.in1) (s := s) (p.2 : Int) t2 (p.2 : Int) u2
        rwa [beq_self_eq_true] at this
  · rw [range_all_true]
    exact h
end
variable {w : World} {A : Around} {E : Value → Shared → Prop} {s : Shared}
/-- a comprehension over a list of references with one test that never holds -/
theorem comp_none {α : Type} {h₀ : Heap} {L ax : Addr} {m : Str → Option Value} {env : Env} {ct : PySem.Expr} {x : Str} {px : Pos} {scope : Scope} {cl : List (Str × Addr)} {Fin : List Value → List (Addr × Obj) → Prop} {R : Value → α → Prop}
    (led : List (Addr × Obj)) (xs : List α) (vs : List Value) {k : Nat} (hv : All2 R vs xs) (hm : (ax, ({ cls := .type "list", data := .seq vs.toArray k } : Obj)) ∈ led)
    (turn : ∀ (i : Nat) (v : Value) (n : α) J oJ C oC D m₂ h tk (E' : Value → Shared → Prop), xs[i]? = some n → R v n → LCg.NsObj oC m₂ → m₂ x = some v → Fr h₀ L h m → News h₀ L h ((J, oJ) :: (C, oC) :: (D, LCg.lst []) :: led) → LCg.Off3 J C D led → ((@Ne Nat J C) ∧ (@Ne Nat J D) ∧ (@Ne Nat C D)) →
      wpAny (model PySem.Challenge.rw_pb0229_01.row.prog w) A (isTrue ct (compEnvC scope cl C env) (eval ct (compEnvC scope cl C env))) (FilterPost h₀ L m { s with heap := h, toks := tk } ((J, oJ) :: (C, oC) :: (D, LCg.lst []) :: led) false) E' { s with heap := h, toks := tk })
    (fin : Fin [] led) :
    ∀ k i, i + k = xs.length → LCt.CompRestT PySem.Challenge.rw_pb0229_01.row.prog w A h₀ L m env ct (.Name x px) x scope cl s (LCg.SrcAt h₀ ax vs.toArray) (fun i v => vs.toArray[i]? = some v) Fin k i [] led
  | 0, i, e => fin
  | k + 1, i, e => fun v J oJ C oC D m₂ h tk E' hP hC hx F N off ne => by
    obtain ⟨n, hn, hr⟩ := hv.getL (by simpa using hP)
    refine wpAny_mono (turn i v n J oJ C oC D m₂ h tk E' hn hr hC hx F N off ne) (fun ok s₂ q => ?_) fun _ _ e => e
    obtain ⟨rfl, h', tk', rfl, F', N'⟩ := q
    rw [if_neg (by simp)]
    exact LCg.CompEnd.intro F' N' led (fun q hq => hq) off (.inr ⟨_, hm, rfl, _, rfl⟩) (comp_none led xs vs hv hm turn fin k (i + 1) (by omega))

end SHA
section SHB
variable {w : World} {A : Around} {E Q : Value → Shared → Prop} {s : Shared} {H : Heap}

structure WRow where
  o : Array UInt8
  rows : List Row
  fp : List (Nat × Nat)
def WrittenAt (D : List (Addr × Obj)) (v : Value) (c : WRow) : Prop := ∃ a t1 l1 l2 vs ep fvs fep, v = .ref a ∧ (a, tupO [.bytes c.o t1, .ref l1, .ref l2]) ∈ D ∧ (l1, listO vs ep) ∈ D ∧ RowsAt D vs c.rows ∧ (l2, listO fvs fep) ∈ D ∧ FoundAt D fvs c.fp
theorem WrittenAt.sub {D D' : List (Addr × Obj)} (hs : ∀ p ∈ D, p ∈ D') {v : Value} {c : WRow} (h : WrittenAt D v c) : WrittenAt D' v c := by
  obtain ⟨a, t1, l1, l2, vs, ep, fvs, fep, e, h1, h2, h3, h4, h5⟩ := h
  exact ⟨a, t1, l1, l2, vs, ep, fvs, fep, e, hs _ h1, hs _ h2, h3.sub hs, hs _ h4, h5.sub hs⟩
def RowIn (D : List (Addr × Obj)) (v : Value) (r : Row) : Prop := ∃ a t1 t2 t3 t4, v = .ref a ∧ (a, rowObj r t1 t2 t3 t4) ∈ D
theorem rowAll {D : List (Addr × Obj)} {a : Addr} {b : Array UInt8} {t1 t2 : Tok} (h : (a, tupO [.str (Str.ofString "ALL") t1, .bytes b t2, .none, .none]) ∈ D) : RowIn D (.ref a) ⟨.all, b, none, none⟩ := ⟨a, t1, t2, 0, 0, rfl, h⟩
theorem rowLeading {D : List (Addr × Obj)} {a : Addr} {b : Array UInt8} {t1 t2 : Tok} (h : (a, tupO [.str (Str.ofString "LEADING") t1, .bytes b t2, .none, .none]) ∈ D) : RowIn D (.ref a) ⟨.leading, b, none, none⟩ := ⟨a, t1, t2, 0, 0, rfl, h⟩
theorem rowFirst {D : List (Addr × Obj)} {a : Addr} {b : Array UInt8} {t1 t2 : Tok} (h : (a, tupO [.str (Str.ofString "FIRST") t1, .bytes b t2, .none, .none]) ∈ D) : RowIn D (.ref a) ⟨.first, b, none, none⟩ := ⟨a, t1, t2, 0, 0, rfl, h⟩
theorem rowChars {D : List (Addr × Obj)} {a : Addr} {b c : Array UInt8} {t1 t2 t3 : Tok} (h : (a, tupO [.str (Str.ofString "CHARACTERS") t1, .none, .bytes b t2, .bytes c t3]) ∈ D) : RowIn D (.ref a) ⟨.chars, #[65], some b, some c⟩ := ⟨a, t1, 0, t2, t3, rfl, h⟩
theorem rowLead2 {D : List (Addr × Obj)} {a : Addr} {b c : Array UInt8} {t1 t2 t3 : Tok} (h : (a, tupO [.str (Str.ofString "LEADING") t1, .bytes b t2, .none, .bytes c t3]) ∈ D) : RowIn D (.ref a) ⟨.leading, b, none, some c⟩ := ⟨a, t1, t2, 0, t3, rfl, h⟩
def PairIn (D : List (Addr × Obj)) (v : Value) (p : Nat × Nat) : Prop := ∃ (a : Addr) (t1 t2 : Tok), v = .ref a ∧ (a, tupO [.int p.1 t1, .int p.2 t2]) ∈ D
theorem pairIn {D : List (Addr × Obj)} {a : Addr} (x y : Nat) {t1 t2 : Tok} (h : (a, tupO [.int x t1, .int y t2]) ∈ D) : PairIn D (.ref a) (x, y) := ⟨a, t1, t2, rfl, h⟩
theorem writtenAt {D : List (Addr × Obj)} {a l1 l2 : Addr} {t1 : Tok} {o : Array UInt8} {rows : List Row} {fp : List (Nat × Nat)} {vs fvs : List Value} {ep fep : Nat} (h1 : (a, tupO [.bytes o t1, .ref l1, .ref l2]) ∈ D) (h2 : (l1, listO vs ep) ∈ D) (h4 : (l2, listO fvs fep) ∈ D) (h3 : All2 (RowIn D) vs rows) (h5 : All2 (PairIn D) fvs fp) : WrittenAt D (.ref a) ⟨o, rows, fp⟩ :=
  ⟨a, t1, l1, l2, vs, ep, fvs, fep, rfl, h1, h2, h3, h4, h5⟩
theorem ne_lt {l : Addr} : ∀ {D : List (Addr × Obj)}, AllLt l D → ∀ p ∈ D, p.1 ≠ l
  | [], _, _, h => nomatch h
  | _ :: _, x, p, h => by
    rcases List.mem_cons.mp h with rfl | h
    · exact Nat.ne_of_lt x.1
    · exact ne_lt x.2 p h
def wr1 : WRow := ⟨#[65, 65, 65, 66], [⟨.all, #[65, 65], none, none⟩, ⟨.all, #[65], none, none⟩, ⟨.leading, #[66], none, none⟩], [(0, 0), (2, 1)]⟩
def wr2 : WRow := ⟨#[66, 66, 65], [⟨.leading, #[66], none, none⟩, ⟨.first, #[65], none, none⟩], [(0, 0), (1, 0), (2, 1)]⟩
def wr3 : WRow := ⟨#[66, 65, 66], [⟨.first, #[66], none, none⟩, ⟨.all, #[65], none, none⟩], [(0, 0), (1, 1)]⟩
def wr4 : WRow := ⟨#[65, 67, 66, 65, 67], [⟨.chars, #[65], some #[66, 65], some #[65]⟩, ⟨.leading, #[67], none, some #[66]⟩], [(1, 0)]⟩

theorem append_row {g : Heap} {L rl : Addr} {m : Str → Option Value} {vs : List Value} {n : Nat} {v : Value} (new : List (Addr × Obj)) {B : List (Addr × Obj)} (F : Fr g L s.heap m) (N : News g L s.heap (new ++ (rl, listO vs n) :: B)) (hn : ∀ p ∈ new, p.1 ≠ rl) (hB : ∀ p ∈ B, p.1 ≠ rl) (hz : vs.length ≤ 1000)
    (h : ∀ h', Fr g L h' m → News g L h' ((rl, listO (vs ++ [v]) (n + 1)) :: (new ++ B)) → (∀ p ∈ new ++ B, p.1 ≠ rl) → Q .none { s with heap := h' }) :
    wpAny (model PySem.Challenge.rw_pb0229_01.row.prog w) A (call (.builtin "list.append") [.ref rl, v]) Q E s := by
  have hall : ∀ p ∈ new ++ B, p.1 ≠ rl := fun p hp => (List.mem_append.mp hp).elim (hn p) (hB p)
  have N2 : News g L s.heap ((rl, listO vs n) :: (new ++ B)) := kst_newsOf N (fun p hp => by
    rcases List.mem_cons.mp hp with rfl | hp
    · exact List.mem_append_right _ (.head _)
    · rcases List.mem_append.mp hp with hp | hp
      · exact List.mem_append_left _ hp
      · exact List.mem_append_right _ (.tail _ hp))
  refine append_K F N2 (Upd.head hall) ?_ (by simp only [List.size_toArray]; unfold sizeLine; omega)
  intro h' F' N'
  simp only [List.push_toArray] at N'
  exact h h' F' N' hall
structure GoodW (c : WRow) : Prop where
  small : c.o.size < 1000
  ok : ∀ r ∈ c.rows, okRow r
  few : c.rows.length < 1000
  fit : fits c.o c.rows = c.fp
  fewp : c.fp.length < 1000
theorem good1 : GoodW wr1 := ⟨by decide, (List.forall_mem_cons.mpr ⟨⟨by decide, trivial, trivial⟩, (List.forall_mem_cons.mpr ⟨⟨by decide, trivial, trivial⟩, (List.forall_mem_cons.mpr ⟨⟨by decide, trivial, trivial⟩, (fun _ h => nomatch h)⟩)⟩)⟩), by decide, by decide +kernel, by decide⟩
theorem good2 : GoodW wr2 := ⟨by decide, (List.forall_mem_cons.mpr ⟨⟨by decide, trivial, trivial⟩, (List.forall_mem_cons.mpr ⟨⟨by decide, trivial, trivial⟩, (fun _ h => nomatch h)⟩)⟩), by decide, by decide +kernel, by decide⟩
theorem good3 : GoodW wr3 := ⟨by decide, (List.forall_mem_cons.mpr ⟨⟨by decide, trivial, trivial⟩, (List.forall_mem_cons.mpr ⟨⟨by decide, trivial, trivial⟩, (fun _ h => nomatch h)⟩)⟩), by decide, by decide +kernel, by decide⟩
theorem good4 : GoodW wr4 := ⟨by decide, (List.forall_mem_cons.mpr ⟨⟨by decide, (by decide : 0 < (#[66, 65] : Array UInt8).size ∧ (#[66, 65] : Array UInt8).size < 1000), (by decide : 0 < (#[65] : Array UInt8).size ∧ (#[65] : Array UInt8).size < 1000)⟩, (List.forall_mem_cons.mpr ⟨⟨by decide, trivial, (by decide : 0 < (#[66] : Array UInt8).size ∧ (#[66] : Array UInt8).size < 1000)⟩, (fun _ h => nomatch h)⟩)⟩), by decide, by decide +kernel, by decide⟩
theorem law_written_spec (G : Fine w H s.heap) (hA : A.depth < 550) (hU : A.units < 3000) (hh : A.handled = none)
    (hQ : ∀ tk' h', Sub s.heap h' → Q (.bool true) { s with heap := h', toks := tk' }) :
    wpAny (model PySem.Challenge.rw_pb0229_01.row.prog w) A (call (.ref 223) []) Q E s := by
  w_on
  obtain ⟨hd9, dp9, fr9, gs9, un9⟩ := A
  dsimp only at hA
  obtain rfl : hd9 = none := hh
  have X0 := G.X; revert X0; k_fill; intro X0; clear X0
  k_dflt (refine' enter (binds := []) G [] ?kadr ?k6 ?k7 ?k8 ?k9 ?kB ?c5 ?_ ?c2 ?c3 ?c4; (case k6 => k_is); (case k7 => k_is); (case k8 => (simp only [recursionLimit]; omega)); (case k9 => exact BindsTo.of_eq rfl); (case c5 => decide); (case kB => exact locs rfl); (case c2 => exact rfl); (case c3 => exact rfl); (case c4 => exact rfl); (case kadr => exact fun _ h => nomatch h); intro g L' h₁ loose mean mg mb kBut FG X' T' F' N' kOut; (try dsimp only); (try k_fold))
  iterate 74 (first | walk1 | (dsimp only; walk1))
  with_reducible rename Fr _ _ _ _ => F1
  with_reducible rename News _ _ _ _ => N1
  rename_i D1 _ _ D2 _ _ D3 _ _ L1 _ _ D4 _ _ D5 _ _ L2 _ _ D6 _ _ rl _ l1 h1
  obtain ⟨B, N1, hrl, hW⟩ : ∃ B, News g L' h1 ((rl, listO [.ref D6] 0) :: B) ∧ (∀ p ∈ B, p.1 ≠ rl) ∧ All2 (WrittenAt B) [.ref D6] [wr1] :=
    ⟨_, N1, ne_lt (by simp only [AllLt, and_true]; exact l1), .cons (writtenAt (by k_mem) (by k_mem) (by k_mem) (.cons (rowAll (by k_mem)) (.cons (rowAll (by k_mem)) (.cons (rowLeading (by k_mem)) .nil))) (.cons (pairIn 0 0 (by k_mem)) (.cons (pairIn 2 1 (by k_mem)) .nil))) .nil⟩
  clear l1
  repeat' ((fail_if_success (with_reducible show wpAny _ _ (getMethod _ _ _) _ _ _)); first | walk1 | (dsimp only; walk1))
  refine getMethod_list_append (N1.get (.head _)) rfl rfl ?_
  dsimp only
  refine callWith_method1 ?_
  repeat' ((fail_if_success (with_reducible show wpAny _ _ (call (Value.builtin "list.append") _) _ _ _)); first | walk1 | (dsimp only; walk1))
  dsimp only [List.cons_append, List.nil_append]
  with_reducible rename Fr _ _ _ _ => F2
  with_reducible rename News _ _ _ _ => N2
  rename_i d1 _ l1 d2 _ l2 d3 _ l3 d4 _ l4 d5 _ l5 d6 _ l6 d7 _ l7 d8 _ l8
  refine append_row [_, _, _, _, _, _, _, _] F2 N2 (List.forall_mem_cons.mpr ⟨Nat.ne_of_gt l8.2.2.2.2.2.2.2.1, (List.forall_mem_cons.mpr ⟨Nat.ne_of_gt l7.2.2.2.2.2.2.1, (List.forall_mem_cons.mpr ⟨Nat.ne_of_gt l6.2.2.2.2.2.1, (List.forall_mem_cons.mpr ⟨Nat.ne_of_gt l5.2.2.2.2.1, (List.forall_mem_cons.mpr ⟨Nat.ne_of_gt l4.2.2.2.1, (List.forall_mem_cons.mpr ⟨Nat.ne_of_gt l3.2.2.1, (List.forall_mem_cons.mpr ⟨Nat.ne_of_gt l2.2.1, (List.forall_mem_cons.mpr ⟨Nat.ne_of_gt l1.1, (fun _ h => nomatch h)⟩)⟩)⟩)⟩)⟩)⟩)⟩)⟩) hrl (by rw [hW.len]; decide) ?_
  clear F2 N2
  intro h2 F2 N2 hrl2
  obtain ⟨B, vs, N1, hrl, hW⟩ : ∃ B vs, News g L' h2 ((rl, listO vs 1) :: B) ∧ (∀ p ∈ B, p.1 ≠ rl) ∧ All2 (WrittenAt B) vs [wr1, wr2] :=
    ⟨_, _, N2, hrl2, (hW.mono fun _ _ h => WrittenAt.sub (fun p hp => .tail _ (.tail _ (.tail _ (.tail _ (.tail _ (.tail _ (.tail _ (.tail _ (hp))))))))) h).snoc (writtenAt (by k_mem) (by k_mem) (by k_mem) (.cons (rowLeading (by k_mem)) (.cons (rowFirst (by k_mem)) .nil)) (.cons (pairIn 0 0 (by k_mem)) (.cons (pairIn 1 0 (by k_mem)) (.cons (pairIn 2 1 (by k_mem)) .nil))))⟩
  clear N2 hrl2 l1 l2 l3 l4 l5 l6 l7 l8
  repeat' ((fail_if_success (with_reducible show wpAny _ _ (getMethod _ _ _) _ _ _)); first | walk1 | (dsimp only; walk1))
  refine getMethod_list_append (N1.get (.head _)) rfl rfl ?_
  dsimp only
  refine callWith_method1 ?_
  repeat' ((fail_if_success (with_reducible show wpAny _ _ (call (Value.builtin "list.append") _) _ _ _)); first | walk1 | (dsimp only; walk1))
  dsimp only [List.cons_append, List.nil_append]
  with_reducible rename Fr _ _ _ _ => F2
  with_reducible rename News _ _ _ _ => N2
  rename_i d1 _ l1 d2 _ l2 d3 _ l3 d4 _ l4 d5 _ l5 d6 _ l6 d7 _ l7
  refine append_row [_, _, _, _, _, _, _] F2 N2 (List.forall_mem_cons.mpr ⟨Nat.ne_of_gt l7.2.2.2.2.2.2.1, (List.forall_mem_cons.mpr ⟨Nat.ne_of_gt l6.2.2.2.2.2.1, (List.forall_mem_cons.mpr ⟨Nat.ne_of_gt l5.2.2.2.2.1, (List.forall_mem_cons.mpr ⟨Nat.ne_of_gt l4.2.2.2.1, (List.forall_mem_cons.mpr ⟨Nat.ne_of_gt l3.2.2.1, (List.forall_mem_cons.mpr ⟨Nat.ne_of_gt l2.2.1, (List.forall_mem_cons.mpr ⟨Nat.ne_of_gt l1.1, (fun _ h => nomatch h)⟩)⟩)⟩)⟩)⟩)⟩)⟩) hrl (by rw [hW.len]; decide) ?_
  clear F2 N2
  intro h2 F2 N2 hrl2
  obtain ⟨B, vs, N1, hrl, hW⟩ : ∃ B vs, News g L' h2 ((rl, listO vs 2) :: B) ∧ (∀ p ∈ B, p.1 ≠ rl) ∧ All2 (WrittenAt B) vs [wr1, wr2, wr3] :=
    ⟨_, _, N2, hrl2, (hW.mono fun _ _ h => WrittenAt.sub (fun p hp => .tail _ (.tail _ (.tail _ (.tail _ (.tail _ (.tail _ (.tail _ (hp)))))))) h).snoc (writtenAt (by k_mem) (by k_mem) (by k_mem) (.cons (rowFirst (by k_mem)) (.cons (rowAll (by k_mem)) .nil)) (.cons (pairIn 0 0 (by k_mem)) (.cons (pairIn 1 1 (by k_mem)) .nil)))⟩
  clear N2 hrl2 l1 l2 l3 l4 l5 l6 l7
  repeat' ((fail_if_success (with_reducible show wpAny _ _ (getMethod _ _ _) _ _ _)); first | walk1 | (dsimp only; walk1))
  refine getMethod_list_append (N1.get (.head _)) rfl rfl ?_
  dsimp only
  refine callWith_method1 ?_
  repeat' ((fail_if_success (with_reducible show wpAny _ _ (call (Value.builtin "list.append") _) _ _ _)); first | walk1 | (dsimp only; walk1))
  dsimp only [List.cons_append, List.nil_append]
  with_reducible rename Fr _ _ _ _ => F2
  with_reducible rename News _ _ _ _ => N2
  rename_i d1 _ l1 d2 _ l2 d3 _ l3 d4 _ l4 d5 _ l5 d6 _ l6
  refine append_row [_, _, _, _, _, _] F2 N2 (List.forall_mem_cons.mpr ⟨Nat.ne_of_gt l6.2.2.2.2.2.1, (List.forall_mem_cons.mpr ⟨Nat.ne_of_gt l5.2.2.2.2.1, (List.forall_mem_cons.mpr ⟨Nat.ne_of_gt l4.2.2.2.1, (List.forall_mem_cons.mpr ⟨Nat.ne_of_gt l3.2.2.1, (List.forall_mem_cons.mpr ⟨Nat.ne_of_gt l2.2.1, (List.forall_mem_cons.mpr ⟨Nat.ne_of_gt l1.1, (fun _ h => nomatch h)⟩)⟩)⟩)⟩)⟩)⟩) hrl (by rw [hW.len]; decide) ?_
  clear F2 N2
  intro h2 F2 N2 hrl2
  obtain ⟨B, vs, N1, hrl, hW⟩ : ∃ B vs, News g L' h2 ((rl, listO vs 3) :: B) ∧ (∀ p ∈ B, p.1 ≠ rl) ∧ All2 (WrittenAt B) vs [wr1, wr2, wr3, wr4] :=
    ⟨_, _, N2, hrl2, (hW.mono fun _ _ h => WrittenAt.sub (fun p hp => .tail _ (.tail _ (.tail _ (.tail _ (.tail _ (.tail _ (hp))))))) h).snoc (writtenAt (by k_mem) (by k_mem) (by k_mem) (.cons (rowChars (by k_mem)) (.cons (rowLead2 (by k_mem)) .nil)) (.cons (pairIn 1 0 (by k_mem)) .nil))⟩
  clear N2 hrl2 l1 l2 l3 l4 l5 l6
  have hgood : ∀ c ∈ [wr1, wr2, wr3, wr4], GoodW c := by
    simp only [List.forall_mem_cons]
    exact ⟨good1, good2, good3, good4, fun _ h => nomatch h⟩
  have hvl : vs.length = 4 := hW.len
  repeat' ((fail_if_success (with_reducible show wpAny _ _ (PySem.eval (Expr.ListComp _ _ _ _) _) _ _ _)); first | walk1 | (dsimp only; walk1))
  with_reducible rename Fr _ _ _ _ => F3
  with_reducible rename News _ _ _ _ => N3
  refine LCt.ListComp_T (F₀ := F3) (by with_unfolding_all rfl) (by decide) (by rfl) (by decide) (by rfl) ?_
  walk1
  refine LCt.CompSrcT.ledger (its := vs.toArray) (k := 3) (by rfl) F3 N3 (.head _) (by simp [hvl]; unfold sizeLine; omega) ?_
  intro hq
  rw [show vs.toArray.size = [wr1, wr2, wr3, wr4].length by simp [hvl]]
  refine comp_none ((rl, listO vs 3) :: B) [wr1, wr2, wr3, wr4] vs hW (.head _) ?_ ?_ _ 0 (by rfl)
  · intro i v c J oJ C oC DD m₂ h3 tk3 E' hi hc hC hx F4 N4 off ne
    obtain ⟨g1, g2, g3, g4, g5⟩ := hgood c (List.mem_of_getElem? hi)
    obtain ⟨a, t1, l1, l2, us, ep, fvs, fep, rfl, m1, m2, m3, m4, m5⟩ := hc
    clear F3 N3 hW
    obtain ⟨led, N5, hled⟩ : ∃ led, News g L' h3 led ∧ ∀ p ∈ (J, oJ) :: (C, oC) :: (DD, LCg.lst []) :: (rl, listO vs 3) :: B, p ∈ led := ⟨_, N4, fun p hp => hp⟩
    have hB : ∀ p ∈ B, p ∈ led := fun p hp => hled p (.tail _ (.tail _ (.tail _ (.tail _ hp))))
    have m1' := hB _ m1
    have mC := hled _ (.tail _ (.head _))
    clear N4
    repeat' ((fail_if_success (with_reducible show wpAny _ _ (call (Value.ref 218) _) _ _ _)); first | walk1 | (dsimp only; walk1))
    with_reducible rename News _ _ _ _ => N5
    have m2' := hB _ m2
    have m4' := hB _ m4
    refine law_fits_spec (H := H) (D := led) (rows := c.rows) (Fine.after FG F4.keep) (by show _ < _; simp only [depth_deeper]; omega) (by rfl) g1 (fun p hp => Mine.led FG N5 hp) m2' (m3.sub hB) g2 g3 ?_
    intro fl vs' tl tk4 h4 hs4 hnew hfa
    dsimp only at hs4 hnew
    have F5 := F4.after hs4
    have N6 := N5.grown hs4
    clear F4 N5
    rw [g4] at hfa
    repeat' ((fail_if_success (with_reducible show wpAny _ _ (compareOp _ _ _) _ _ _)); first | walk1 | (dsimp only; walk1))
    with_reducible rename News _ _ _ _ => N6
    refine ne_pairs (l := fl) (b := l2) (D1 := tl) (D2 := led) (fp := c.fp) ⟨_, (hnew _ (.head _)).1, rfl, _, rfl⟩ (News.isList N6 m4') (fun p hp => (hnew p (.tail _ hp)).1) (fun p hp => N6.get hp) hfa (m5.sub hB) (by show un9 + 3 + 2 < cLine; have : un9 < 3000 := hU; unfold cLine; omega) ?_
    repeat' ((fail_if_success (with_reducible show wpAny _ _ (call (Value.ref 213) _) _ _ _)); first | walk1 | (dsimp only; walk1))
    with_reducible rename News _ _ _ _ => N6
    refine law_walk_right_spec (H := H) (D := led) (rows := c.rows) (fp := c.fp) (fl := l2) (Fine.after FG F5.keep) (by show _ < _; simp only [depth_deeper]; omega) (by show un9 + 3 < 4000; have : un9 < 3000 := hU; omega) (by rfl) g1 (fun p hp => Mine.led FG N6 hp) m2' (m3.sub hB) g2 g3 m4' (m5.sub hB) (by rw [m5.len]; exact g5) (g4 ▸ fits_nodup c.o c.rows g2) (g4 ▸ fits_lt c.o c.rows) ?_
    intro tk5 h5 hs5
    dsimp only at hs5
    have F6 := F5.after hs5
    have N7 := N6.grown hs5
    clear F5 N6
    rw [show walkRight c.o c.rows c.fp = true from g4 ▸ plain_law c.o c.rows g2]
    repeat' ((fail_if_success (with_reducible show FilterPost _ _ _ _ _ _ _ _)); first | walk1 | (dsimp only; walk1))
    exact FilterPost.intro F6 (kst_newsOf N7 hled) rfl
  · intro DF hF tkF FF NF oF
    clear F3 N3
    repeat' ((fail_if_success (with_reducible show wpAny _ _ (compareOp _ _ _) _ _ _)); first | walk1 | (dsimp only; walk1))
    with_reducible rename Fr _ _ _ _ => F3
    with_reducible rename News _ _ _ _ => N3
    refine eq_lists (xs := []) (ys := []) (News.isList N3 (.tail _ (.head _))) (News.isList N3 (.head _)) .nil .nil (by show un9 + 3 < cLine; have : un9 < 3000 := hU; unfold cLine; omega) ?_
    show Q _ _
    exact fin_bool (hQ _ _ (out_sub (kOut _ F3.keep))) rfl

end SHB
section SHC
/-- the state between the law's turns -/
structure LwS where
  tn : Nat
  t1 : Tok
  rest : Int
  t2 : Tok
  pe : Nat
  u : Str → Option Value
structure PenOk (cvs : List Value) (cs : List Int) : Prop where
  nums : IntsAre cvs cs
  few : cvs.length < 1000
section
variable {w : World} {A : Around} {E Q : Value → Shared → Prop} {s : Shared} {H : Heap}
theorem draw_at {g : Heap} {L cl pl : Addr} {m : Str → Option Value} {ce pe turn many : Nat} {rest : Int} {t1 t2 tm : Tok} {cvs : List Value} {cs : List Int} {led9 : List (Addr × Obj)} (FG : Fine w H g) (F : Fr g L s.heap m) (N : News g L s.heap ((pl, penO cl turn t1 rest t2 pe) :: led9)) (hA : A.depth < 650) (hU : A.units < 4000) (hh : A.handled = none)
    (hc : (cl, listO cvs ce) ∈ led9) (hi : IntsAre cvs cs) (hl : cvs.length < 1000) (hn : ∀ p ∈ led9, p.1 ≠ pl) (ht : turn < 1000) (hm : 0 < many ∧ many < 1000)
    (h : ∀ k t turn' t1' rest' t2' pe' tk' h', k < many → turn' ≤ turn + 1 → Fr g L h' m → News g L h' ((pl, penO cl turn' t1' rest' t2' pe') :: led9) → Q (.int (k : Nat) t) { s with heap := h', toks := tk' }) :
    wpAny (model PySem.Challenge.rw_pb0229_01.row.prog w) A (call (.ref 158) [.ref pl, .int many tm]) Q E s := by
  have hpL : pl ≠ L ∧ g.get? pl = none := ⟨(N _ (.head _)).2.1, N.fresh (.head _)⟩
  refine law_draw_spec (H := H) (FG.after F.keep) hA hU hh (led FG N (.head _)) (led FG N (.tail _ hc)) hi hl (Ne.symm (hn _ hc)) ht hm ?_
  intro k t turn' t1' rest' t2' pe' tk' h' hk htu hb hg
  refine h k t turn' t1' rest' t2' pe' tk' h' hk htu (fr_turn F hb hpL) (news_turn N hb hg hpL fun p hp => ?_)
  rcases List.mem_cons.mp hp with rfl | hp
  · exact .inl rfl
  · exact .inr ⟨.tail _ hp, hn _ hp⟩
end
end SHC
end Mine
open PySem PySem.W PyProof.Rows PySem.Calls PySem.Spec
open PySem PySem.W PyProof.Rows PySem.Calls PySem.Spec PySem.Builtin
open PySem PySem.W PyProof.Rows PySem.Calls PySem.Spec PySem.Builtin PySem.F
open PySem PySem.W PyProof.Rows PySem.Calls PySem.Spec PySem.Builtin PySem.SeqAt
open Mine
theorem PySem.Challenge.cw_pb0229_01_holds : PySem.Challenge.rw_pb0229_01.Holds := by
  refine Mine.hd ?_
  k_go0
  all_goals try k_fold
  with_reducible rename Fr _ _ _ _ => F0
  with_reducible rename News _ _ _ _ => N0
  with_reducible rename Frag.In _ _ => KX
  with_reducible rename Top _ _ _ _ _ _ => TT
  with_reducible rename Heap.IsList _ _ _ => hLs
  with_reducible rename IntsAre _ _ => hIs
  rename _ = Data.cell _ => hcell
  rename (¬ _ < _) => hlen
  with_reducible rename World => w
  with_reducible rename Shared => s1
  with_reducible rename List Int => ns
  with_reducible rename List Value => svs
  with_reducible rename Obj => oc
  with_reducible rename Heap => h1
  obtain ⟨sc, hLs, F0⟩ : ∃ sc, s1.heap.IsList sc svs.toArray ∧ Fr s1.heap s1.heap.objs.size h1 (fun y => if y = Str.ofString "script" then some (.ref sc) else none) := ⟨_, hLs, F0⟩
  replace hcell : oc.data = Data.cell none := hcell
  have FG : Fine w s1.heap s1.heap := ⟨KX, ⟨_, _, _, _, TT⟩, fun _ _ e => e⟩
  repeat' ((fail_if_success (with_reducible show wpAny _ _ (call (Value.ref 223) _) _ _ _)); first | walk1 | (dsimp only; walk1))
  with_reducible rename Fr _ _ _ _ => F1
  with_reducible rename News _ _ _ _ => N1
  refine law_written_spec (H := s1.heap) (Fine.after FG F1.keep) (by show _ < _; simp only [depth_deeper]; decide) (by show 4 + 3 < 3000; decide) (by rfl) ?_
  intro tk2 h2 hs2
  dsimp only at hs2
  have F2 := F1.after hs2
  have N2 := N1.grown hs2
  repeat' ((fail_if_success (with_reducible show wpAny _ _ (call (Value.ref 151) _) _ _ _)); first | walk1 | (dsimp only; walk1))
  with_reducible rename Fr _ _ _ _ => F2
  with_reducible rename News _ _ _ _ => N2
  refine law_pen_spec (H := s1.heap) (Fine.after FG F2.keep) (by show _ < _; simp only [depth_deeper]; decide) (by show 4 + 3 < 3990; decide) (by rfl) hLs hIs (by omega) ?_
  intro pl cl cvs cs x y pe tk3 h3 hci hcl hne hs3 hp3 hc3
  dsimp only at hs3 hp3 hc3
  have hpk : PenOk cvs cs := ⟨hci, by omega⟩
  obtain ⟨ce, hc3⟩ : ∃ ce, (h3.get? cl = some (listO cvs ce) ∧ h2.get? cl = none) := ⟨_, hc3⟩
  have F3 := F2.after hs3
  have N3 := news_add F2 hp3 (news_add F2 hc3 (N2.grown hs3))
  have np : pl ≠ s1.heap.objs.size + 1 := new_ne hp3.2 (N2.get (.head _))
  have nc : cl ≠ s1.heap.objs.size + 1 := new_ne hc3.2 (N2.get (.head _))
  refine storeX_C F3 N3 (by rfl) (UpdF.tail np (UpdF.tail nc (UpdF.head fun _ h => nomatch h))) hcell ?_
  intro h4 oc4 F4 N4 hcell4
  repeat' ((fail_if_success (with_reducible show wpAny _ _ (pyIter _) _ _ _)); first | walk1 | (dsimp only; walk1))
  with_reducible rename Fr _ _ _ _ => F5
  with_reducible rename News _ _ _ _ => N5
  with_reducible rename IsRange _ _ _ _ _ _ _ _ => HR
  refine for_range (fun (c : LwS) => c.u) (fun (c : LwS) => (pl, penO cl c.tn c.t1 c.rest c.t2 c.pe) :: (cl, listO cvs ce) :: (s1.heap.objs.size + 1, oc4) :: []) (fun i c => c.tn ≤ 60 * i) ⟨0, x, 0, y, pe, _⟩ 2 (by rfl) HR ⟨by omega, by omega⟩ (by rfl) F5 N5 (fun z _ => rfl) rfl (Nat.le_refl _) (fun _ _ _ => rfl) ?_ ?_
  · rintro i ⟨tn, x1, r1, y1, p1, u⟩ t h6 tk6 own hi hI hown F6 N6
    dsimp only at hI F6 N6
    replace F6 : Fr s1.heap s1.heap.objs.size h6 (fun y => if y = Str.ofString "turn" then some (Value.int (0 + (i : Int)) t) else u y) := F6
    obtain ⟨R, hR⟩ : ∃ R, (cl, listO cvs ce) :: (s1.heap.objs.size + 1, oc4) :: own = R := ⟨_, rfl⟩
    have hRp : ∀ p ∈ R, p.1 ≠ pl := by
      rw [← hR]
      refine List.forall_mem_cons.mpr ⟨Ne.symm hne, List.forall_mem_cons.mpr ⟨Ne.symm np, fun p hp => hown.ne (.head _) p hp⟩⟩
    have mcl : (cl, listO cvs ce) ∈ R := by rw [← hR]; exact .head _
    have mce : (s1.heap.objs.size + 1, oc4) ∈ R := by rw [← hR]; exact .tail _ (.head _)
    replace N6 : News s1.heap s1.heap.objs.size h6 ((pl, penO cl tn x1 r1 y1 p1) :: R) := by rw [← hR]; exact N6
    clear F5 N5
    obtain ⟨led6, hled6⟩ : ∃ l, (pl, penO cl tn x1 r1 y1 p1) :: R = l := ⟨_, rfl⟩
    rw [hled6] at N6
    have mce6 : (s1.heap.objs.size + 1, oc4) ∈ led6 := hled6 ▸ .tail _ mce
    repeat' ((fail_if_success (with_reducible show wpAny _ _ (PySem.eval (Expr.ListComp _ _ _ _) _) _ _ _)); first | walk1 | (dsimp only; walk1))
    with_reducible rename Fr _ _ _ _ => F7
    with_reducible rename News _ _ _ _ => N7
    refine LCg.ListComp_U (F₀ := F7) (by with_unfolding_all rfl) (by decide) (by rfl) (by decide) (by rfl) ?_
    repeat' ((fail_if_success (with_reducible show wpAny _ _ (call (Value.ref 158) _) _ _ _)); first | walk1 | (dsimp only; walk1))
    with_reducible rename Fr _ _ _ _ => F7
    with_reducible rename News _ _ _ _ => N7
    rw [← hled6] at N7
    clear hled6 mce6 led6
    refine draw_at (many := 14) FG F7 N7 (by show _ < _; simp only [depth_deeper]; decide) (by show 4 + 3 < 4000; decide) (by rfl) mcl hpk.nums hpk.few hRp (by omega) (by decide) ?_
    clear F7 N7
    intro k tkk n1 x2 r2 y2 p2 tk7 h7 hk hn1 F8 N8
    repeat' ((fail_if_success (with_reducible show LCg.CompSrc _ _ _ _ _ _ _ _ _ _ _ _ _ _)); first | walk1 | (dsimp only; walk1))
    with_reducible rename Fr _ _ _ _ => F9
    with_reducible rename News _ _ _ _ => N9
    with_reducible rename IsRange _ _ _ _ _ _ _ _ => HR2
    refine LCg.CompSrc.range (n := k) (by rfl) F9 N9 HR2 (small_one (by omega) (by omega) (by omega) (by omega)) (by rw [rangeSize_nat]; omega) (by unfold sizeLine; omega) ?_
    intro g8
    refine comp_run (σ := LwS) (fun c => (pl, penO cl c.tn c.t1 c.rest c.t2 c.pe) :: R) (fun i c ys => c.tn ≤ n1 + i ∧ ∃ ns, IntsAre ys ns ∧ (∀ n ∈ ns, 0 ≤ n ∧ n < 256) ∧ ys.length = i) k ?_ ?_ k 0 ⟨n1, x2, r2, y2, p2, u⟩ [] (by omega) ⟨Nat.le_refl _, [], .nil, (fun _ h => nomatch h), rfl⟩
    · rintro i2 ⟨tn2, x3, r3, y3, p3, u3⟩ ys v J oJ C oC DD m₂ h tk8 E' hi2 ⟨hI2, bs, hb1, hb2, hb3⟩ hv hC hx F2 N2 off ne
      dsimp only at hI2 N2 off
      clear F9 N9
      have hLn : ∀ p ∈ (J, oJ) :: (C, oC) :: (DD, LCg.lst ys) :: R, p.1 ≠ pl := by
        have h0 := off.mem _ (.head _)
        exact List.forall_mem_cons.mpr ⟨Ne.symm h0.1, List.forall_mem_cons.mpr ⟨Ne.symm h0.2.1, List.forall_mem_cons.mpr ⟨Ne.symm h0.2.2, hRp⟩⟩⟩
      obtain ⟨led8, hled8⟩ : ∃ l, (J, oJ) :: (C, oC) :: (DD, LCg.lst ys) :: (pl, penO cl tn2 x3 r3 y3 p3) :: R = l := ⟨_, rfl⟩
      rw [hled8] at N2
      have mC : (C, oC) ∈ led8 := hled8 ▸ .tail _ (.head _)
      have mR : ∀ p ∈ R, p ∈ led8 := fun p hp => hled8 ▸ .tail _ (.tail _ (.tail _ (.tail _ hp)))
      have mce8 := mR _ mce
      have mp : (pl, penO cl tn2 x3 r3 y3 p3) ∈ led8 := hled8 ▸ .tail _ (.tail _ (.tail _ (.head _)))
      repeat' ((fail_if_success (with_reducible show wpAny _ _ (call (Value.ref 165) _) _ _ _)); first | walk1 | (dsimp only; walk1))
      have hpL : pl ≠ s1.heap.objs.size ∧ s1.heap.get? pl = none := ⟨(N2 _ mp).2.1, N2.fresh mp⟩
      refine law_pick_bytes (H := s1.heap) (cs := cs) (FG.after F2.keep) (by show _ < _; simp only [depth_deeper]; decide) (by show 4 + 3 < 3990; decide) (by rfl) (led FG N2 mp) (led FG N2 (mR _ mcl)) hpk.nums hpk.few hne (by omega) (by decide) ?_
      intro x8 tx n3 x9 r9 y9 p9 tk9 h9 hn3 hb9 hg9
      dsimp only at hb9
      have F3 := fr_turn F2 hb9 hpL
      have N3 : News s1.heap s1.heap.objs.size h9 ((J, oJ) :: (C, oC) :: (DD, LCg.lst ys) :: (pl, penO cl n3 x9 r9 y9 p9) :: R) := news_turn N2 hb9 hg9 hpL fun p hp => by
        rw [← hled8]
        rcases List.mem_cons.mp hp with rfl | hp
        · exact .inr ⟨.head _, hLn _ (.head _)⟩
        rcases List.mem_cons.mp hp with rfl | hp
        · exact .inr ⟨.tail _ (.head _), hLn _ (.tail _ (.head _))⟩
        rcases List.mem_cons.mp hp with rfl | hp
        · exact .inr ⟨.tail _ (.tail _ (.head _)), hLn _ (.tail _ (.tail _ (.head _)))⟩
        rcases List.mem_cons.mp hp with rfl | hp
        · exact .inl rfl
        · exact .inr ⟨.tail _ (.tail _ (.tail _ (.tail _ hp))), hRp _ hp⟩
      refine LCg.CompEnd.intro F3 N3 ((pl, penO cl n3 x9 r9 y9 p9) :: R) (fun p hp => hp) ⟨off.1, off.2⟩ trivial ⟨⟨n3, x9, r9, y9, p9, u⟩, rfl, ?_⟩
      refine ⟨by show n3 ≤ n1 + (i2 + 1); omega, bs ++ [((x8.toNat : Nat) : Int)], ints_snoc hb1, fun n hn => ?_, by simp [hb3]⟩
      rcases List.mem_append.mp hn with hn | hn
      · exact hb2 n hn
      · obtain rfl : n = ((x8.toNat : Nat) : Int) := by simpa using hn
        have := x8.toNat_lt
        omega
    · rintro ⟨tn2, x3, r3, y3, p3, u3⟩ ys ⟨hI2, bs, hb1, hb2, hb3⟩
      dsimp only at hI2
      clear F9 N9
      intro DF hF tkF FF NF oF
      repeat' ((fail_if_success (with_reducible show wpAny _ _ (call (Value.type "bytes") _) _ _ _)); first | walk1 | (dsimp only; walk1))
      with_reducible rename Fr _ _ _ _ => F9
      with_reducible rename News _ _ _ _ => N9
      refine bytes_K F9 N9 (News.isList N9 (.head _)) hb1 hb2 (by rw [hb3]; unfold sizeLine; omega) (by rfl) ?_
      intro hG tG tkG FG9 NG9 _
      generalize ho : (List.map (fun n : Int => n.toNat.toUInt8) bs).toArray = o
      have hosz : o.size < 1000 := by
        rw [← ho]
        have := hb1.length
        simp
        omega
      replace NG9 := kst_newsOf (l' := (pl, penO cl tn2 x3 r3 y3 p3) :: R) NG9 (fun p hp => .tail _ hp)
      clear F9 N9 hb1 hb2 hb3 ho
      dsimp only
      obtain ⟨led6, hled6⟩ : ∃ l, (pl, penO cl tn2 x3 r3 y3 p3) :: R = l := ⟨_, rfl⟩
      rw [hled6] at NG9
      have mce6 : (s1.heap.objs.size + 1, oc4) ∈ led6 := hled6 ▸ .tail _ mce
      repeat' ((fail_if_success (with_reducible show wpAny _ _ (PySem.eval (Expr.ListComp _ _ _ _) _) _ _ _)); (fail_if_success (with_reducible show wpAny _ _ (exec (Stmt.Assign _ (Expr.ListComp _ _ _ _) _) _) _ _ _)); first | walk1 | (dsimp only; walk1))
      with_reducible rename Fr _ _ _ _ => F9
      with_reducible rename News _ _ _ _ => N9
      refine LCg.Assign_ListComp_U (F₀ := by exact F9) (by rfl) (by with_unfolding_all rfl) (by with_unfolding_all rfl) (by decide) (by rfl) (by decide) (by rfl) (by rfl) (by rfl) ?_
      repeat' ((fail_if_success (with_reducible show wpAny _ _ (call (Value.ref 158) _) _ _ _)); first | walk1 | (dsimp only; walk1))
      with_reducible rename Fr _ _ _ _ => F7
      with_reducible rename News _ _ _ _ => N7
      rw [← hled6] at N7
      clear hled6 mce6 led6
      refine draw_at (many := 4) FG F7 N7 (by show _ < _; simp only [depth_deeper]; decide) (by show 4 + 3 < 4000; decide) (by rfl) mcl hpk.nums hpk.few hRp (by omega) (by decide) ?_
      clear F7 N7
      intro kr tkr nr xr rr yr pr tkr2 hr2 hkr hnr F8 N8
      repeat' ((fail_if_success (with_reducible show LCg.CompSrc _ _ _ _ _ _ _ _ _ _ _ _ _ _)); first | walk1 | (dsimp only; walk1))
      with_reducible rename Fr _ _ _ _ => F9
      with_reducible rename News _ _ _ _ => N9
      with_reducible rename IsRange _ _ _ _ _ _ _ _ => HR3
      refine LCg.CompSrc.range (n := 1 + kr) (by rfl) F9 N9 HR3 (small_one (by omega) (by omega) (by omega) (by omega)) (by rw [rangeSize_nat]; omega) (by unfold sizeLine; omega) ?_
      intro gr
      refine comp_run (σ := LwS × List (Addr × Obj)) (fun c => (pl, penO cl c.1.tn c.1.t1 c.1.rest c.1.t2 c.1.pe) :: (c.2 ++ R)) (fun i c ys => c.1.tn ≤ nr + 4 * i ∧ (∀ p ∈ c.2, p.1 ≠ pl) ∧ ∃ rows, All2 (RowIn c.2) ys rows ∧ (∀ r ∈ rows, okRow r) ∧ ys.length = i) (1 + kr) ?_ ?_ (1 + kr) 0 (⟨nr, xr, rr, yr, pr, u⟩, []) [] (by omega) ⟨Nat.le_refl _, (fun _ h => nomatch h), [], .nil, (fun _ h => nomatch h), rfl⟩
      · rintro i2 ⟨⟨tn4, x4, r4, y4, p4, u4⟩, ro⟩ ys v J oJ C oC DD m₂ h tk8 E' hi2 ⟨hI3, hro, rows, hw1, hw2, hw3⟩ hv hC hx F2 N2 off ne
        dsimp only at hI3 hro hw1 N2 off
        clear F9 N9
        have h0 := off.mem _ (.head _)
        obtain ⟨led8, hled8⟩ : ∃ l, (J, oJ) :: (C, oC) :: (DD, LCg.lst ys) :: (pl, penO cl tn4 x4 r4 y4 p4) :: (ro ++ R) = l := ⟨_, rfl⟩
        rw [hled8] at N2
        have mC : (C, oC) ∈ led8 := hled8 ▸ .tail _ (.head _)
        have mJ : (J, oJ) ∈ led8 := hled8 ▸ .head _
        have mDD : (DD, LCg.lst ys) ∈ led8 := hled8 ▸ .tail _ (.tail _ (.head _))
        have mR : ∀ p ∈ ro ++ R, p ∈ led8 := fun p hp => hled8 ▸ .tail _ (.tail _ (.tail _ (.tail _ hp)))
        have mce8 := mR _ (List.mem_append_right _ mce)
        have mp : (pl, penO cl tn4 x4 r4 y4 p4) ∈ led8 := hled8 ▸ .tail _ (.tail _ (.tail _ (.head _)))
        repeat' ((fail_if_success (with_reducible show wpAny _ _ (call (Value.ref 172) _) _ _ _)); first | walk1 | (dsimp only; walk1))
        have hpL : pl ≠ s1.heap.objs.size ∧ s1.heap.get? pl = none := ⟨(N2 _ mp).2.1, N2.fresh mp⟩
        refine law_row_spec (H := s1.heap) (cs := cs) (FG.after F2.keep) (by show _ < _; simp only [depth_deeper]; decide) (by show 4 + 3 < 3980; decide) (by rfl) (led FG N2 mp) (led FG N2 (mR _ (List.mem_append_right _ mcl))) hpk.nums hpk.few hne (by omega) ?_
        intro a rw' v1 v2 v3 v4 n5 x5 r5 y5 p5 tk9 h9 hok9 hn5 hb9 hg9 ha9
        dsimp only at hb9 ha9
        have F3 := fr_turn F2 hb9 hpL
        have hap : a ≠ pl := new_ne ha9.2 (N2.get mp)
        have hnew : ∀ q ∈ led8, a ≠ q.1 := fun q hq => new_ne ha9.2 (N2.get hq)
        have N3 : News s1.heap s1.heap.objs.size h9 ((a, rowObj rw' v1 v2 v3 v4) :: (J, oJ) :: (C, oC) :: (DD, LCg.lst ys) :: (pl, penO cl n5 x5 r5 y5 p5) :: (ro ++ R)) := by
          intro p hp
          rcases List.mem_cons.mp hp with rfl | hp
          · exact ⟨ha9.1, fr_at F2 ha9.2⟩
          refine news_turn N2 hb9 hg9 hpL (led' := (J, oJ) :: (C, oC) :: (DD, LCg.lst ys) :: (pl, penO cl n5 x5 r5 y5 p5) :: (ro ++ R)) (fun p hp => ?_) p hp
          rw [← hled8]
          rcases List.mem_cons.mp hp with rfl | hp
          · exact .inr ⟨.head _, Ne.symm h0.1⟩
          rcases List.mem_cons.mp hp with rfl | hp
          · exact .inr ⟨.tail _ (.head _), Ne.symm h0.2.1⟩
          rcases List.mem_cons.mp hp with rfl | hp
          · exact .inr ⟨.tail _ (.tail _ (.head _)), Ne.symm h0.2.2⟩
          rcases List.mem_cons.mp hp with rfl | hp
          · exact .inl rfl
          · exact .inr ⟨.tail _ (.tail _ (.tail _ (.tail _ hp))), (List.mem_append.mp hp).elim (hro _) (hRp _)⟩
        refine LCg.CompEnd.intro F3 N3 ((pl, penO cl n5 x5 r5 y5 p5) :: ((a, rowObj rw' v1 v2 v3 v4) :: ro ++ R)) (fun p hp => ?_) ⟨off.1, ⟨hnew _ mJ, hnew _ mC, hnew _ mDD⟩, off.2⟩ trivial ⟨(⟨n5, x5, r5, y5, p5, u⟩, (a, rowObj rw' v1 v2 v3 v4) :: ro), rfl, ?_⟩
        · rcases List.mem_cons.mp hp with rfl | hp
          · exact .tail _ (.head _)
          rcases List.mem_cons.mp hp with rfl | hp
          · exact .tail _ (.tail _ (.head _))
          rcases List.mem_cons.mp hp with rfl | hp
          · exact .tail _ (.tail _ (.tail _ (.head _)))
          rcases List.mem_cons.mp hp with rfl | hp
          · exact .tail _ (.tail _ (.tail _ (.tail _ (.head _))))
          rcases List.mem_cons.mp hp with rfl | hp
          · exact .head _
          · exact .tail _ (.tail _ (.tail _ (.tail _ (.tail _ hp))))
        · refine ⟨by show n5 ≤ nr + 4 * (i2 + 1); omega, List.forall_mem_cons.mpr ⟨hap, hro⟩, rows ++ [rw'], (hw1.mono fun _ _ ⟨b, c1, c2, c3, c4, e, hm⟩ => ⟨b, c1, c2, c3, c4, e, .tail _ hm⟩).snoc ⟨a, v1, v2, v3, v4, rfl, .head _⟩, fun r hr => ?_, by simp [hw3]⟩
          rcases List.mem_append.mp hr with hr | hr
          · exact hw2 r hr
          · obtain rfl : r = rw' := by simpa using hr
            exact hok9
      · rintro ⟨⟨tn4, x4, r4, y4, p4, u4⟩, ro⟩ ys ⟨hI3, hro, rows, hw1, hw2, hw3⟩
        dsimp only at hI3 hro hw1
        clear F9 N9
        intro DS hS tkS FS NS oS
        dsimp only at NS
        obtain ⟨led8, hled8⟩ : ∃ l, (DS, LCg.lst ys) :: (pl, penO cl tn4 x4 r4 y4 p4) :: (ro ++ R) = l := ⟨_, rfl⟩
        rw [hled8] at NS
        have mS : (DS, LCg.lst ys) ∈ led8 := hled8 ▸ .head _
        have hrows8 : RowsAt led8 ys rows := All2.mono hw1 fun _ _ ⟨b, c1, c2, c3, c4, e, hm⟩ => ⟨b, c1, c2, c3, c4, e, hled8 ▸ .tail _ (.tail _ (List.mem_append_left _ hm))⟩
        have hrl : rows.length < 1000 := by rw [← hw1.len, hw3]; omega
        have mend : ∀ p ∈ (pl, penO cl tn4 x4 r4 y4 p4) :: R, p ∈ led8 := fun p hp => by
          rw [← hled8]
          rcases List.mem_cons.mp hp with rfl | hp
          · exact .tail _ (.head _)
          · exact .tail _ (.tail _ (List.mem_append_right _ hp))
        clear oS hled8 hw1
        repeat' ((fail_if_success (with_reducible show wpAny _ _ (call (Value.ref 218) _) _ _ _)); first | walk1 | (dsimp only; walk1))
        with_reducible rename Fr _ _ _ _ => F9
        with_reducible rename News _ _ _ _ => N9
        refine law_fits_spec (H := s1.heap) (D := led8) (rows := rows) (FG.after F9.keep) (by show _ < _; simp only [depth_deeper]; decide) (by rfl) hosz (fun p hp => Mine.led FG N9 hp) mS hrows8 hw2 hrl ?_
        intro fl vf tl tkf hf hsf hnewf haf
        dsimp only at hsf hnewf
        have F10 := F9.after hsf
        have N10 : News s1.heap s1.heap.objs.size hf ((fl, listO vf vf.length) :: tl ++ led8) := fun p hp => by
          rcases List.mem_append.mp hp with hp | hp
          · exact ⟨(hnewf p hp).1, fr_at F9 (hnewf p hp).2⟩
          · exact (N9.grown hsf) p hp
        clear F9 N9
        obtain ⟨led9, hled9⟩ : ∃ l, (fl, listO vf vf.length) :: tl ++ led8 = l := ⟨_, rfl⟩
        rw [hled9] at N10
        have m8 : ∀ p ∈ led8, p ∈ led9 := fun p hp => hled9 ▸ List.mem_append_right _ hp
        have mfl : (fl, listO vf vf.length) ∈ led9 := hled9 ▸ .head _
        have mfa : FoundAt led9 vf (fits o rows) := All2.mono haf fun _ _ ⟨b, c1, c2, e, hm⟩ => ⟨b, c1, c2, e, hled9 ▸ .tail _ (List.mem_append_left _ hm)⟩
        have hvf : vf.length < 1000 := by
          rw [haf.len]
          exact Nat.lt_of_le_of_lt (fits_len o rows) hosz
        repeat' ((fail_if_success (with_reducible show wpAny _ _ (call (Value.ref 213) _) _ _ _)); first | walk1 | (dsimp only; walk1))
        with_reducible rename Fr _ _ _ _ => F10
        with_reducible rename News _ _ _ _ => N10
        refine law_walk_right_spec (H := s1.heap) (D := led9) (rows := rows) (fp := fits o rows) (FG.after F10.keep) (by show _ < _; simp only [depth_deeper]; decide) (by show 4 + 3 < 4000; decide) (by rfl) hosz (fun p hp => Mine.led FG N10 hp) (m8 _ mS) (hrows8.sub m8) hw2 hrl mfl mfa hvf (fits_nodup o rows hw2) (fits_lt o rows) ?_
        intro tkw hw hsw
        dsimp only at hsw
        have F11 := F10.after hsw
        have N11 := N10.grown hsw
        clear F10 N10
        rw [plain_law o rows hw2]
        repeat' (first | walk1 | (dsimp only; walk1))
        with_reducible rename Fr _ _ _ _ => F12
        with_reducible rename News _ _ _ _ => N12
        exact TurnEnd.intro ⟨tn4, x4, r4, y4, p4, _⟩ F12 (fun z hz => rfl) N12 (fun p hp => m8 p (mend p (by
          have hp2 : p ∈ (pl, penO cl tn4 x4 r4 y4 p4) :: ((cl, listO cvs ce) :: (s1.heap.objs.size + 1, oc4) :: own) := hp
          rw [hR] at hp2
          exact hp2))) (by show tn4 ≤ 60 * (i + 1); omega)
  · rintro ⟨tn, x1, r1, y1, p1, u⟩ u' h6 tk6 hI F6 N6
    dsimp only at F6 N6
    repeat' (first | ((with_reducible show wpAny _ _ (exec (Stmt.Raise _ _ _) _) _ _ _); exfalso; omega) | (k_unfold; (try dsimp only)) | (k_end; wrow_close) | ((fail_if_success (with_reducible show wpAny _ _ (pyIter _) _ _ _)); (fail_if_success (with_reducible show wpAny _ _ (exec (Stmt.While _ _ _ _) _) _ _ _)); first | walk1 | (dsimp only; walk1) | (dsimp only [leadV, wantedV, optV, Kind.str]; walk1)) | (leave1; walk_say "STEP leave1"; try dsimp only))
