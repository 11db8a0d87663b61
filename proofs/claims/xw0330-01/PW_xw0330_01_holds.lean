import PyProof.Rows.All
import Wide.All
import OpenK.AllK
import Wide.FinOn
import PySem.Challenge.RW_xw0330_01
set_option Elab.async false
set_option rowWalk.seconds 0
section
open PySem PySem.W PyProof.Rows
set_option Elab.async false
set_option maxRecDepth 100000
set_option maxHeartbeats 8000000
namespace Mine
open_top hd for PySem.Challenge.rw_xw0330_01
end Mine
end
section
open PySem PySem.W PyProof.Rows PySem.Spec PySem.Calls
set_option Elab.async false
set_option maxRecDepth 100000
set_option maxHeartbeats 8000000
namespace Mine
section
variable {w : World} {dp un : Nat} {gd : Option (List Code)} {cn : Str} {cs : Scope} {a : Addr} {ccd : Value} {cl : List (Str × Addr)} {outer : List Env} {A₀ : Around} {base h₀ : Heap} {L : Addr} {m : Str → Option Value} {s : Shared} {Q E : Value → Shared → Prop} {mean : ExcName → Option Value} {mg mb : Str → Option Value} {news : List (Addr × Obj)}

abbrev selfDict (P : Params) (k1 k2 : Tok) (r : Int) (tr : Tok) (l : Addr) (n : Nat) : Obj :=
  dictOf [⟨PyData.keyHash P (Str.ofString "ring"), .str (Str.ofString "ring") k1, .int r tr⟩, ⟨PyData.keyHash P (Str.ofString "parts"), .str (Str.ofString "parts") k2, .ref l⟩] n

theorem distance_spec {x y r : Int} {t u v : Tok} (B : Below A₀ base outer h₀) (F : Fr h₀ L s.heap m) (X : (hd.heap_39 w.params).In h₀) (N : News h₀ L s.heap news)
    (T : Top hd.view_39 (looseW hd.view_39 []) mean mg mb h₀) (hk : cs.kind = .function) (hdp : dp + 1 < recursionLimit) (hun : un + 8 < cLine) (hr : 0 < r)
    (hret : ∀ t h' tk', Fr h₀ L h' m → News h₀ L h' news → Q (.int ((y - x) % r) t) { s with heap := h', toks := tk' }) :
    wpAny (model PySem.Challenge.rw_xw0330_01.row.prog w) (ktrTop dp un gd cn cs L a ccd cl outer) (call (.ref 35) [.int x t, .int y u, .int r v]) Q E s := by
  w_top off
  k_with_none
  revert X; k_fill; intro X
  refine wpAny_call ?_
  k_dflt ktr_enter
  k_steps
  rw [Int.fmod_eq_emod_of_nonneg _ (Int.le_of_lt hr)]
  exact hret _ _ _ (by k_asm) (by k_asm)

theorem is_before_spec {x y r : Int} {t u v : Tok} (B : Below A₀ base outer h₀) (F : Fr h₀ L s.heap m) (X : (hd.heap_39 w.params).In h₀) (N : News h₀ L s.heap news)
    (T : Top hd.view_39 (looseW hd.view_39 []) mean mg mb h₀) (hk : cs.kind = .function) (hdp : dp + 2 < recursionLimit) (hun : un + 16 < cLine) (hr : 0 < r) (hr2 : r ≤ 2 ^ 32)
    (hno : 0 < (y - x) % r → r ≤ 2 * ((y - x) % r))
    (hret : ∀ h' tk', Fr h₀ L h' m → News h₀ L h' news → Q (.bool false) { s with heap := h', toks := tk' }) :
    wpAny (model PySem.Challenge.rw_xw0330_01.row.prog w) (ktrTop dp un gd cn cs L a ccd cl outer) (call (.ref 42) [.int x t, .int y u, .int r v]) Q E s := by
  k_with_none
  k_with "call ref" => (refine' distance_spec (by k_asm) (by k_asm) (by k_asm) (by k_asm) (by k_asm) (by first | exact rfl | assumption) ?kd ?ku (by assumption) ?_; (case kd => ktr_room); (case ku => ktr_units); intro t9 h9 tk9 F9 N9; (try dsimp only); (try k_fold))
  revert X; k_fill; intro X
  refine wpAny_call ?_
  k_dflt ktr_enter
  k_steps
  · refine cb_retB (fun _ => hret) (decide_eq_false ?_) (by k_asm) (by k_asm)
    simp only [decide_eq_true_eq] at *
    omega
  · refine cb_retB (fun _ => hret) (decide_eq_false ?_) (by k_asm) (by k_asm)
    simp only [decide_eq_true_eq, decide_eq_false_iff_not] at *
    omega

theorem off_back {x r q n : Int} (hx : 0 ≤ x) (hr : 0 < r) (hx2 : 2 * x ≤ r) (hq : q = (n + x) % r) : 0 < (n - q) % r → r ≤ 2 * ((n - q) % r) := by
  have e : (n - q) % r = (-x) % r := by rw [hq, Int.sub_emod, Int.emod_emod_of_dvd _ (Int.dvd_refl r), ← Int.sub_emod]; congr 1; omega
  rw [e]
  rcases Int.lt_or_eq_of_le hx with h | h
  · have e2 : (-x) % r = r - x := by
      rw [← Int.add_emod_right, Int.emod_eq_of_lt] <;> omega
    rw [e2]; omega
  · rw [← h]; simp
theorem off_there {x r q n : Int} (hx : 0 ≤ x) (hr : 0 < r) (hx2 : 2 * x ≤ r) (hq : q = (n + x) % r) : (q - n) % r = x := by
  have e : (q - n) % r = x % r := by rw [hq, Int.sub_emod, Int.emod_emod_of_dvd _ (Int.dvd_refl r), ← Int.sub_emod]; congr 1; omega
  rw [e, Int.emod_eq_of_lt hx (by omega)]

theorem offset_spec {q n r x : Int} {t u tr k1 k2 : Tok} {sa sd l nn : Nat} (B : Below A₀ base outer h₀) (F : Fr h₀ L s.heap m) (X : (hd.heap_39 w.params).In h₀) (N : News h₀ L s.heap news)
    (T : Top hd.view_39 (looseW hd.view_39 []) mean mg mb h₀) (hk : cs.kind = .function) (hdp : dp + 3 < recursionLimit) (hun : un + 24 < cLine)
    (hS : (sa, instObj 134 sd) ∈ news) (hD : (sd, selfDict w.params k1 k2 r tr l nn) ∈ news)
    (hr : 0 < r) (hr2 : r ≤ 2 ^ 32) (hx : 0 ≤ x) (hx2 : 2 * x ≤ r) (hq : q = (n + x) % r)
    (hret : ∀ t' h' tk', Fr h₀ L h' m → News h₀ L h' news → Q (.int x t') { s with heap := h', toks := tk' }) :
    wpAny (model PySem.Challenge.rw_xw0330_01.row.prog w) (ktrTop dp un gd cn cs L a ccd cl outer) (call (.ref 75) [.ref sa, .int q t, .int n u]) Q E s := by
  k_with_none
  k_with "call ref" => (refine' distance_spec (by k_asm) (by k_asm) (by k_asm) (by k_asm) (by k_asm) (by first | exact rfl | assumption) ?kd ?ku (by assumption) ?_; (case kd => ktr_room); (case ku => ktr_units); intro t9 h9 tk9 F9 N9; (try dsimp only); (try k_fold))
  k_with "call ref" => (refine' is_before_spec (by k_asm) (by k_asm) (by k_asm) (by k_asm) (by k_asm) (by first | exact rfl | assumption) ?kd ?ku (by assumption) (by assumption) (off_back hx hr hx2 hq) ?_; (case kd => ktr_room); (case ku => ktr_units); intro h9 tk9 F9 N9; (try dsimp only); (try k_fold))
  revert X; k_fill; intro X
  refine wpAny_call ?_
  k_dflt ktr_enter
  k_steps
  rw [off_there hx hr hx2 hq]
  exact hret _ _ _ (by k_asm) (by k_asm)
end
end Mine
end
section
open PySem PySem.W PyProof.Rows PySem.Spec PySem.Calls
set_option Elab.async false
set_option maxRecDepth 100000
set_option maxHeartbeats 4000000
namespace Mine

abbrev tupO (vs : List Value) : Obj := { cls := .type "tuple", data := .seq vs.toArray }
abbrev Piece := Int × Array UInt8
def PcIn (tl : List (Addr × Obj)) (v : Value) (p : Piece) : Prop := ∃ a t u, v = .ref a ∧ (a, tupO [.int p.1 t, .bytes p.2 u]) ∈ tl
inductive Pcs (tl : List (Addr × Obj)) : List Value → List Piece → Prop
  | nil : Pcs tl [] []
  | cons {v : Value} {p : Piece} {vs : List Value} {ps : List Piece} : PcIn tl v p → Pcs tl vs ps → Pcs tl (v :: vs) (p :: ps)
def AllTup (tl : List (Addr × Obj)) : Prop := ∀ p ∈ tl, p.2.cls = .type "tuple"

section
variable {tl tl' : List (Addr × Obj)} {v : Value} {p : Piece} {vs ws : List Value} {ps qs : List Piece}
theorem PcIn.mono (hs : ∀ p ∈ tl, p ∈ tl') (h : PcIn tl v p) : PcIn tl' v p := by
  obtain ⟨a, t, u, e, hm⟩ := h
  exact ⟨a, t, u, e, hs _ hm⟩
theorem Pcs.mono (hs : ∀ p ∈ tl, p ∈ tl') (h : Pcs tl vs ps) : Pcs tl' vs ps := by
  induction h with
  | nil => exact .nil
  | cons h _ ih => exact .cons (h.mono hs) ih
theorem Pcs.append (h : Pcs tl vs ps) (k : Pcs tl ws qs) : Pcs tl (vs ++ ws) (ps ++ qs) := by
  induction h with
  | nil => exact k
  | cons h _ ih => exact .cons h ih
theorem Pcs.one (h : PcIn tl v p) : Pcs tl [v] [p] := .cons h .nil
theorem Pcs.length (h : Pcs tl vs ps) : vs.length = ps.length := by
  induction h with
  | nil => rfl
  | cons _ _ ih => simp [ih]
theorem Pcs.get (h : Pcs tl vs ps) {i : Nat} {v : Value} (hv : vs[i]? = some v) : ∃ p, ps[i]? = some p ∧ PcIn tl v p := by
  induction h generalizing i with
  | nil => simp at hv
  | @cons v' p' vs' ps' h _ ih =>
    cases i with
    | zero => simp at hv; subst hv; exact ⟨p', rfl, h⟩
    | succ i => simpa using ih (by simpa using hv)
theorem Pcs.get' (h : Pcs tl vs ps) {i : Nat} {p : Piece} (hp : ps[i]? = some p) : ∃ v, vs[i]? = some v ∧ PcIn tl v p := by
  induction h generalizing i with
  | nil => simp at hp
  | @cons v' p' vs' ps' h _ ih =>
    cases i with
    | zero => simp at hp; subst hp; exact ⟨v', rfl, h⟩
    | succ i => simpa using ih (by simpa using hp)
theorem Pcs.snoc (h : Pcs tl vs (ps ++ [p])) : ∃ ws v, vs = ws ++ [v] ∧ Pcs tl ws ps ∧ PcIn tl v p := by
  induction ps generalizing vs with
  | nil =>
    cases h with
    | cons h r => cases r; exact ⟨[], _, rfl, .nil, h⟩
  | cons q qs ih =>
    cases h with
    | cons h r =>
      obtain ⟨ws, v, rfl, hr, hv⟩ := ih r
      exact ⟨_ :: ws, v, rfl, .cons h hr, hv⟩
theorem Pcs.split {ps qs : List Piece} (h : Pcs tl vs (ps ++ qs)) : ∃ us ws, vs = us ++ ws ∧ Pcs tl us ps ∧ Pcs tl ws qs := by
  induction ps generalizing vs with
  | nil => exact ⟨[], vs, rfl, .nil, h⟩
  | cons q r ih =>
    cases h with
    | cons h r =>
      obtain ⟨us, ws, rfl, hr, hv⟩ := ih r
      exact ⟨_ :: us, ws, rfl, .cons h hr, hv⟩
end

theorem news_add {h₀ h : Heap} {L : Addr} {news : List (Addr × Obj)} {p : Addr × Obj} (N : News h₀ L h news) (hp : p ∈ news) : News h₀ L h (p :: news) := by
  intro q hq
  rcases List.mem_cons.mp hq with rfl | hq
  · exact N _ hp
  · exact N _ hq
theorem news_sub {h₀ h : Heap} {L : Addr} {news news' : List (Addr × Obj)} (N : News h₀ L h news') (hs : ∀ p ∈ news, p ∈ news') : News h₀ L h news := fun p hp => N p (hs p hp)
theorem news_ne {h₀ h : Heap} {L : Addr} {news : List (Addr × Obj)} {p q : Addr × Obj} (N : News h₀ L h news) (hp : p ∈ news) (hq : q ∈ news) (hc : p.2.cls ≠ q.2.cls) : p.1 ≠ q.1 := by
  intro e
  have h1 := (N _ hp).1
  have h2 := (N _ hq).1
  rw [e, h2] at h1
  exact hc (congrArg Obj.cls (Option.some.inj h1).symm)

section
variable {prog : Program} {w : World} {A : Around} {E : Value → Shared → Prop} {s : Shared} {env : Env} {h₀ : Heap} {target : Expr} {body : List Stmt} {Q : Flow → Shared → Prop}

def TurnEnd (h₀ : Heap) (L I : Addr) (oI : Obj) (J : (Str → Option Value) → List (Addr × Obj) → Prop) (s₁ : Shared) (Q : Flow → Shared → Prop) (f : Flow) (s₂ : Shared) : Prop :=
  match f with
  | .ret v => Q (.ret v) s₂
  | .brk => Q .next s₂
  | _ => ∃ h' tk m' nx, s₂ = { s₁ with heap := h', toks := tk } ∧ Fr h₀ L h' m' ∧ News h₀ L h' ((I, oI) :: nx) ∧ (∀ p ∈ nx, p.1 ≠ I) ∧ J m' nx
theorem TurnEnd.next {L I : Addr} {oI : Obj} {J : (Str → Option Value) → List (Addr × Obj) → Prop} {s₁ : Shared} {h' : Heap} {tk : Nat} {m' : Str → Option Value} {nx news' : List (Addr × Obj)}
    (F : Fr h₀ L h' m') (N : News h₀ L h' news') (hI : (I, oI) ∈ news') (hn : ∀ p ∈ nx, p ∈ news') (hoff : ∀ p ∈ nx, p.1 ≠ I) (hJ : J m' nx) : TurnEnd h₀ L I oI J s₁ Q .next { s₁ with heap := h', toks := tk } :=
  ⟨h', tk, m', nx, rfl, F, news_sub N fun p hp => by rcases List.mem_cons.mp hp with rfl | hp; exact hI; exact hn p hp, hoff, hJ⟩
theorem TurnEnd.cont {L I : Addr} {oI : Obj} {J : (Str → Option Value) → List (Addr × Obj) → Prop} {s₁ : Shared} {h' : Heap} {tk : Nat} {m' : Str → Option Value} {nx news' : List (Addr × Obj)}
    (F : Fr h₀ L h' m') (N : News h₀ L h' news') (hI : (I, oI) ∈ news') (hn : ∀ p ∈ nx, p ∈ news') (hoff : ∀ p ∈ nx, p.1 ≠ I) (hJ : J m' nx) : TurnEnd h₀ L I oI J s₁ Q .cont { s₁ with heap := h', toks := tk } :=
  ⟨h', tk, m', nx, rfl, F, news_sub N fun p hp => by rcases List.mem_cons.mp hp with rfl | hp; exact hI; exact hn p hp, hoff, hJ⟩

theorem iter_listJ {l : Addr} {vs : List Value} {nn : Nat} {m₀ : Str → Option Value} {news : List (Addr × Obj)} (J : Nat → (Str → Option Value) → List (Addr × Obj) → Prop)
    (hh : A.handled = none) (hl : (l, listOf vs.toArray nn) ∈ news) (F : Fr h₀ env.locals s.heap m₀) (N : News h₀ env.locals s.heap news) (hj : J 0 m₀ news) (hkeep : ∀ i m nx, J i m nx → (l, listOf vs.toArray nn) ∈ nx)
    (turn : ∀ i v m₁ nx h tk I oI, vs[i]? = some v → J i m₁ nx → (∀ p ∈ nx, p.1 ≠ I) → Fr h₀ env.locals h m₁ → News h₀ env.locals h ((I, oI) :: nx) →
      wpAny (model prog w) A (assign target env v) (fun _ s₃ => wpAny (model prog w) A (execs body env) (TurnEnd h₀ env.locals I oI (J (i + 1)) { s with heap := h, toks := tk } Q) E s₃) E { s with heap := h, toks := tk })
    (done : ∀ m₁ nx h tk, J vs.length m₁ nx → Fr h₀ env.locals h m₁ → News h₀ env.locals h nx → Q .next { s with heap := h, toks := tk }) :
    wpAny (model prog w) A (pyIter (.ref l)) (fun it s₂ => TurnsAt prog w A h₀ env target body Q E it s₂) E s := by
  have hol : s.heap.get? l = some (listOf vs.toArray nn) := (N _ hl).1
  have hls : s.heap.IsList l vs.toArray := ⟨_, hol, rfl, nn, rfl⟩
  have hne : l ≠ s.heap.objs.size := Nat.ne_of_lt (Heap.lt_size hol)
  refine wpAny_pyIter_list hls ?_
  have W := KTurns.ofWalks (target := target) (Walks.list (prog := prog) (w := w) hh s.heap.objs.size l hne vs.toArray) fun i v s Q E st q => letGo_listiter st.1 q
  have hlen : vs.toArray.size = vs.length := by simp
  rw [hlen] at W
  refine ⟨_, _, _, vs.length, _, _, _, m₀, news, J, rfl, W, ?_, ?_, ?_, ⟨⟨_, Heap.get?_push_size _ rfl, rfl, rfl⟩, hls.at fun o e => Heap.get?_push_of_some _ e⟩, F.push _, (fun p hp => ⟨Heap.get?_push_of_some _ (N p hp).1, (N p hp).2⟩), hj, ?_, ?_⟩
  · intro hm
    rcases List.mem_cons.mp hm with e | hm
    · exact absurd F.ns.lt (e ▸ Nat.lt_irrefl _)
    · exact (N _ hl).2.1 ((List.mem_singleton.mp hm).symm)
  · intro b hb
    rw [List.mem_singleton.mp hb]
    exact next_is_new F
  · intro p hp hI
    exact absurd (Heap.lt_size (N p hp).1) ((List.mem_singleton.mp hI) ▸ Nat.lt_irrefl _)
  · intro i v m₁ news₁ hh' tk' own hin hP hJ hoff hown hget hfp hst F₁ N₁
    have hl₁ := hkeep _ _ _ hJ
    have hP' : vs[i]? = some v := by simpa using hP
    have hI0 : h₀.get? s.heap.objs.size = none := next_is_new F
    obtain ⟨⟨oI, hoI, _⟩, _⟩ := id hst
    have hIown : (s.heap.objs.size, oI) ∈ own := hfp _ (List.mem_cons.mpr (.inl rfl)) hI0 _ hoI
    have hlo : hh'.get? l = some (listOf vs.toArray nn) := (N₁ _ (List.mem_append.mpr (.inr hl₁))).1
    have hoff' : ∀ p ∈ news₁, p.1 ≠ s.heap.objs.size := fun p hp e => hoff p hp (List.mem_singleton.mpr e)
    have N₂ : News h₀ env.locals hh' ((s.heap.objs.size, oI) :: news₁) := fun p hp => by
      rcases List.mem_cons.mp hp with rfl | hp
      · exact N₁ _ (List.mem_append.mpr (.inl hIown))
      · exact N₁ _ (List.mem_append.mpr (.inr hp))
    refine wpAny_mono (turn i v m₁ news₁ hh' tk' _ oI hP' hJ hoff' F₁ N₂) (fun _ s₂ h₂ => wpAny_mono h₂ (fun f s₃ p => ?_) fun _ _ e => e) fun _ _ e => e
    have fin : (∃ h' tk m' nx, s₃ = { s with heap := h', toks := tk } ∧ Fr h₀ env.locals h' m' ∧ News h₀ env.locals h' ((s.heap.objs.size, oI) :: nx) ∧ (∀ p ∈ nx, p.1 ≠ s.heap.objs.size) ∧ J (i + 1) m' nx) →
        LoopStepU h₀ env.locals [s.heap.objs.size] own (J (i + 1)) { s with heap := hh', toks := tk' } .next s₃ := by
      rintro ⟨h', tk, m', nx, e, F', N', ha, hm⟩
      refine ⟨rfl, h', tk, m', nx, e, F', fun p hp => ?_, fun p hp hq => ha p hp (List.mem_singleton.mp hq), hm⟩
      rcases List.mem_append.mp hp with h | h
      · have h2 : hh'.get? p.1 = some p.2 := hget p h
        rcases List.mem_cons.mp (hown p h) with h1 | h1
        · rw [h1, hoI] at h2
          have h3 : p = (s.heap.objs.size, oI) := Prod.ext h1 (Option.some.inj h2).symm
          rw [h3]
          exact N' _ (List.mem_cons_self ..)
        · have h1' := List.mem_singleton.mp h1
          rw [h1', hlo] at h2
          have h3 : p = (l, listOf vs.toArray nn) := Prod.ext h1' (Option.some.inj h2).symm
          rw [h3]
          exact N' _ (List.mem_cons_of_mem _ (hkeep _ _ _ hm))
      · exact N' _ (List.mem_cons_of_mem _ h)
    cases f with
    | ret v => exact p
    | brk => exact p
    | next => exact fin p
    | cont => exact fin p
  · rintro h' tk m' news' F' N' _ hJ
    exact done m' news' h' tk hJ F' N'

theorem iter_rangeJ {x : Str} {r : Addr} {a₀ b₀ : Int} {t₀ u₀ v₀ : Tok} {n : Nat} {m₀ : Str → Option Value} {news : List (Addr × Obj)} (J : Nat → (Str → Option Value) → List (Addr × Obj) → Prop)
    (hh : A.handled = none) (hr : IsRange s.heap r a₀ b₀ 1 t₀ u₀ v₀) (hsmall : Builtin.Range.small a₀ b₀ 1 = true) (hsz : Builtin.Range.rangeSize a₀ b₀ 1 = (n : Int)) (F : Fr h₀ env.locals s.heap m₀) (N : News h₀ env.locals s.heap news) (hj : J 0 m₀ news)
    (turn : ∀ (i : Nat) t m₁ nx h tk I oI, i < n → J i m₁ nx → (∀ p ∈ nx, p.1 ≠ I) → Fr h₀ env.locals h (fun y => if y = x then some (.int (a₀ + (i : Int)) t) else m₁ y) → News h₀ env.locals h ((I, oI) :: nx) →
      wpAny (model prog w) A (execs body env) (TurnEnd h₀ env.locals I oI (J (i + 1)) { s with heap := h, toks := tk } Q) E { s with heap := h, toks := tk })
    (done : ∀ m₁ nx h tk, J n m₁ nx → Fr h₀ env.locals h m₁ → News h₀ env.locals h nx → Q .next { s with heap := h, toks := tk }) :
    wpAny (model prog w) A (pyIter (.ref r)) (fun it s₂ => LoopAtV prog w A h₀ env x body Q E it s₂) E s := by
  refine wpAny_pyIter_range hr hsmall ?_
  have W : Walks prog w A s.heap.objs.size [s.heap.objs.size] [s.heap.objs.size] n (fun i v => i < n ∧ ∃ t, v = .int (a₀ + i * 1) t)
      (fun i h => IsRangeIter h s.heap.objs.size (a₀ + (i : Nat) * 1) ((n : Int) - (i : Nat)) 1) := (Walks.range hh _ a₀ 1 n).bound
  refine ⟨_, _, _, n, _, _, m₀, news, J, rfl, W, ?_, ?_, ?_, (by show IsRangeIter _ _ _ _ _; rw [hsz]; simpa using Heap.get?_push_size _ rfl), F.push _, (fun p hp => ⟨Heap.get?_push_of_some _ (N p hp).1, (N p hp).2⟩), hj, ?_, ?_⟩
  · intro hm
    exact absurd F.ns.lt ((List.mem_singleton.mp hm) ▸ Nat.lt_irrefl _)
  · intro b hb
    rw [List.mem_singleton.mp hb]
    exact next_is_new F
  · intro p hp hI
    exact absurd (Heap.lt_size (N p hp).1) ((List.mem_singleton.mp hI) ▸ Nat.lt_irrefl _)
  · rintro i v m₁ news₁ s₁ own ⟨hh', tk', rfl⟩ hin ⟨_, t, rfl⟩ hJ hoff hown hget hfp hst F₁ N₁
    have hI0 : h₀.get? s.heap.objs.size = none := next_is_new F
    obtain ⟨oI, hoI⟩ : ∃ oI, hh'.get? s.heap.objs.size = some oI := ⟨_, hst⟩
    have hIown : (s.heap.objs.size, oI) ∈ own := hfp _ (List.mem_cons.mpr (.inl rfl)) hI0 _ hoI
    have hoff' : ∀ p ∈ news₁, p.1 ≠ s.heap.objs.size := fun p hp e => hoff p hp (List.mem_singleton.mpr e)
    have N₂ : News h₀ env.locals hh' ((s.heap.objs.size, oI) :: news₁) := fun p hp => by
      rcases List.mem_cons.mp hp with rfl | hp
      · exact N₁ _ (List.mem_append.mpr (.inl hIown))
      · exact N₁ _ (List.mem_append.mpr (.inr hp))
    have e1 : a₀ + (i : Int) * 1 = a₀ + (i : Int) := by omega
    rw [e1] at F₁
    refine wpAny_mono (turn i t m₁ news₁ hh' tk' _ oI hin hJ hoff' F₁ N₂) (fun f s₃ p => ?_) fun _ _ e => e
    have fin : (∃ h' tk m' nx, s₃ = { s with heap := h', toks := tk } ∧ Fr h₀ env.locals h' m' ∧ News h₀ env.locals h' ((s.heap.objs.size, oI) :: nx) ∧ (∀ p ∈ nx, p.1 ≠ s.heap.objs.size) ∧ J (i + 1) m' nx) →
        LoopStepU h₀ env.locals [s.heap.objs.size] own (J (i + 1)) { s with heap := hh', toks := tk' } .next s₃ := by
      rintro ⟨h', tk, m', nx, e, F', N', ha, hm⟩
      refine ⟨rfl, h', tk, m', nx, e, F', fun p hp => ?_, fun p hp hq => ha p hp (List.mem_singleton.mp hq), hm⟩
      rcases List.mem_append.mp hp with h | h
      · have h2 : hh'.get? p.1 = some p.2 := hget p h
        have h1 := List.mem_singleton.mp (hown p h)
        rw [h1, hoI] at h2
        have h3 : p = (s.heap.objs.size, oI) := Prod.ext h1 (Option.some.inj h2).symm
        rw [h3]
        exact N' _ (List.mem_cons_self ..)
      · exact N' _ (List.mem_cons_of_mem _ h)
    cases f with
    | ret v => exact .ret p
    | brk => exact .brk p
    | next => exact .next (fin p)
    | cont => exact .cont (fin p)
  · rintro h' tk m' news' F' N' _ hJ
    exact done m' news' h' tk hJ F' N'
end
end Mine
end
section
open PySem PySem.W PyProof.Rows PySem.Spec PySem.Calls PySem.SeqAt
set_option Elab.async false
set_option maxRecDepth 100000
set_option maxHeartbeats 4000000
namespace Mine
section
variable {prog : Program} {w : World} {A : Around} {E : Value → Shared → Prop} {s : Shared} {h₀ : Heap} {L : Addr} {tl tl' news : List (Addr × Obj)} {Q : Value → Shared → Prop}

theorem all_true (l : List Nat) : (l.all fun _ => true) = true := List.all_eq_true.mpr fun _ _ => rfl
theorem pc_eqAt {v v' : Value} {p : Piece} (N : News h₀ L s.heap news) (hs : ∀ p ∈ tl, p ∈ news) (hs' : ∀ p ∈ tl', p ∈ news) (h : PcIn tl v p) (h' : PcIn tl' v' p) (hu : A.units + 4 < cLine) : EqAt A s v v' true := by
  obtain ⟨a, t, u, rfl, hm⟩ := h
  obtain ⟨a', t', u', rfl, hm'⟩ := h'
  by_cases e : a = a'
  · subst e; exact EqAt.same _
  · have hl : s.heap.IsTuple a #[.int p.1 t, .bytes p.2 u] := ⟨_, (N _ (hs _ hm)).1, rfl, 0, rfl⟩
    have hl' : s.heap.IsTuple a' #[.int p.1 t', .bytes p.2 u'] := ⟨_, (N _ (hs' _ hm')).1, rfl, 0, rfl⟩
    have hall : ∀ j (h1 : j < (#[.int p.1 t, .bytes p.2 u] : Array Value).size) (h2 : j < (#[.int p.1 t', .bytes p.2 u'] : Array Value).size),
        EqAt A.in1 s (#[.int p.1 t, .bytes p.2 u] : Array Value)[j] (#[.int p.1 t', .bytes p.2 u'] : Array Value)[j] ((fun _ : Nat => true) j) := by
      intro j h1 h2
      match j, h1, h2 with
      | 0, _, _ => exact fun prog w E Q hq => wpAny_eqBool_int (by simpa using hq)
      | 1, _, _ => exact fun prog w E Q hq => eqBool_bytes (by simpa using hq)
      | j + 2, h1, _ => exact absurd h1 (by simp)
    have := RcAt.tuples (A := A) hl hl' (by omega) hall
    exact EqAt.of_refs e (by simpa [all_true] using this)

theorem eq_pieces {a b : Addr} {xs ys : List Value} {n k : Nat} {ps : List Piece} (N : News h₀ L s.heap news) (ha : (a, listOf xs.toArray n) ∈ news) (hb : (b, listOf ys.toArray k) ∈ news)
    (hx : Pcs tl xs ps) (hs : ∀ p ∈ tl, p ∈ news) (hy : Pcs tl' ys ps) (hs' : ∀ p ∈ tl', p ∈ news) (hu : A.units + 8 < cLine)
    (h : Q (.bool true) s) : wpAny (model prog w) A (compareOp .Eq (.ref a) (.ref b)) Q E s := by
  have hsz : xs.toArray.size = ys.toArray.size := by simp [hx.length, hy.length]
  refine eq_listAt (e := fun _ => true) ⟨_, (N _ ha).1, rfl, n, rfl⟩ ⟨_, (N _ hb).1, rfl, k, rfl⟩ hsz (by omega) ?_ (by rw [all_true]; exact h)
  intro j h1 h2
  have e1 : xs[j]? = some (xs.toArray[j]) := by simp at h1 ⊢
  have e2 : ys[j]? = some (ys.toArray[j]) := by simp at h2 ⊢
  obtain ⟨p, hp, i1⟩ := hx.get e1
  obtain ⟨q, hq, i2⟩ := hy.get e2
  rw [hp] at hq
  cases hq
  exact pc_eqAt N hs hs' i1 i2 (by simp; omega)
theorem ne_pieces {a b : Addr} {xs ys : List Value} {n k : Nat} {ps : List Piece} (N : News h₀ L s.heap news) (ha : (a, listOf xs.toArray n) ∈ news) (hb : (b, listOf ys.toArray k) ∈ news)
    (hx : Pcs tl xs ps) (hs : ∀ p ∈ tl, p ∈ news) (hy : Pcs tl' ys ps) (hs' : ∀ p ∈ tl', p ∈ news) (hu : A.units + 8 < cLine)
    (h : Q (.bool false) s) : wpAny (model prog w) A (compareOp .NotEq (.ref a) (.ref b)) Q E s := by
  have hsz : xs.toArray.size = ys.toArray.size := by simp [hx.length, hy.length]
  have R := RcNeAt.lists (A := A) (s := s) (e := fun _ => true) (l := a) (b := b) ⟨_, (N _ ha).1, rfl, n, rfl⟩ ⟨_, (N _ hb).1, rfl, k, rfl⟩ hsz (by omega) (by
    intro j h1 h2
    have e1 : xs[j]? = some (xs.toArray[j]) := by simp at h1 ⊢
    have e2 : ys[j]? = some (ys.toArray[j]) := by simp at h2 ⊢
    obtain ⟨p, hp, i1⟩ := hx.get e1
    obtain ⟨q, hq, i2⟩ := hy.get e2
    rw [hp] at hq
    cases hq
    exact pc_eqAt N hs hs' i1 i2 (by simp; omega))
  exact R prog w E Q (by rw [all_true]; exact h)
theorem ne_lens {a b : Addr} {xs ys : List Value} {n k : Nat} (N : News h₀ L s.heap news) (ha : (a, listOf xs.toArray n) ∈ news) (hb : (b, listOf ys.toArray k) ∈ news)
    (hne : xs.length ≠ ys.length) (hu : A.units + 8 < cLine)
    (h : Q (.bool true) s) : wpAny (model prog w) A (compareOp .NotEq (.ref a) (.ref b)) Q E s :=
  RcNeAt.lists_lengths (A := A) (s := s) (l := a) (b := b) ⟨_, (N _ ha).1, rfl, n, rfl⟩ ⟨_, (N _ hb).1, rfl, k, rfl⟩ (by simpa using hne) (by omega) prog w E Q h
/-- A list against the empty list. -/
theorem ne_nil {a b : Addr} {xs : List Value} {n k : Nat} (N : News h₀ L s.heap news) (ha : (a, listOf xs.toArray n) ∈ news) (hb : (b, listOf [].toArray k) ∈ news)
    (hu : A.units + 8 < cLine) (h : Q (.bool (decide (xs ≠ []))) s) : wpAny (model prog w) A (compareOp .NotEq (.ref a) (.ref b)) Q E s := by
  by_cases e : xs = []
  · subst e
    exact ne_pieces (tl := []) (tl' := []) N ha hb .nil (fun _ h => (nomatch h)) .nil (fun _ h => (nomatch h)) hu (by simpa using h)
  · refine ne_lens N ha hb (fun q => e (List.length_eq_zero_iff.mp q)) hu ?_
    simpa [e] using h
theorem item_list {value slice : PySem.Expr} {l : Addr} {us : List Value} {n : Nat} {k : Int} {u : Tok} {v : Value} (N : News h₀ L s.heap news) (hm : (l, listOf us.toArray n) ∈ news)
    (h0 : 0 ≤ k) (hfit : k < 2 ^ 63) (hv : us[k.toNat]? = some v) (h : Q v s)
    (hs : subscripted slice false (.ref l) (.int k u) = operate [.ref l, .int k u] (getItem (.ref l) (.int k u)) := by with_unfolding_all rfl) :
    wpAny (model prog w) A (subscriptTail value slice (.ref l) (.int k u)) Q E s := by
  have hl : s.heap.IsList l us.toArray := ⟨_, (N _ hm).1, rfl, n, rfl⟩
  exact tail_any hl.typeIs slot_list_getitem.lookup (wpAny_getItem_list hl h0 hfit (by simpa using hv) h) hs
theorem picked_zero (b : Array UInt8) : KBy.picked b (some 0) none = b := by
  rw [KBc.picked_eq]
  have e : clipAt b.size 0 = 0 := by rw [KBc.clip_lit]; simp
  simp only [Option.elim, e, List.drop_zero, Nat.sub_zero]
  rw [List.take_of_length_le (by simp), Array.toArray_toList]
theorem slice_all {value slice : PySem.Expr} {b : Array UInt8} {t u : Tok} {k : Int} {m : Str → Option Value} (hF : Fr h₀ L s.heap m) (hN : News h₀ L s.heap news) (hk : k = 0) (hz : b.size ≤ 16777216)
    (h : ∀ h' t' tk', Fr h₀ L h' m → News h₀ L h' news → Q (.bytes b t') { s with heap := h', toks := tk' })
    (hs : subscripted slice false (.bytes b t) (.ref s.heap.objs.size) = operate [.ref s.heap.objs.size, .bytes b t] (getItem (.bytes b t) (.ref s.heap.objs.size)) := by with_unfolding_all rfl)
    (ht : ∀ r, letTemporaryGo value (.bytes b t) r = pure () := by intro _; with_unfolding_all rfl) :
    wpAny (model prog w) A (subscriptTail value slice (.bytes b t) (.ref s.heap.objs.size)) Q E { s with heap := s.heap.push { cls := .type "slice", data := .fields #[.int k u, .none, .none] } } := by
  subst hk
  refine KBc.slice_K hF hN rfl (IsPart.int _ _) IsPart.none (by rw [KBw.ints_length]; exact hz) (fun h' t' k' F' N' _ => ?_) hs ht
  rw [picked_zero]
  exact h h' t' k' F' N'
theorem append_L {D : Addr} {m : Str → Option Value} {news' : List (Addr × Obj)} {us : List Value} {n : Nat} {x : Value} (F : Fr h₀ L s.heap m) (N : News h₀ L s.heap news) (U : Upd D (listOf us.toArray n) (listOf (us ++ [x]).toArray (n + 1)) news news')
    (hz : us.length ≤ 16777216) (h : ∀ h', Fr h₀ L h' m → News h₀ L h' news' → Q .none { s with heap := h' }) : wpAny (model prog w) A (call (.builtin "list.append") [.ref D, x]) Q E s :=
  append_K F N (by rw [List.push_toArray]; exact U) h (by rw [List.size_toArray, sizeLine_eq]; exact hz)
theorem pop_front {D : Addr} {m : Str → Option Value} {news' : List (Addr × Obj)} {us : List Value} {n : Nat} {x : Value} {u : Tok} (F : Fr h₀ L s.heap m) (N : News h₀ L s.heap news) (U : Upd D (listOf (x :: us).toArray n) (listOf us.toArray (n + 1)) news news')
    (hz : us.length + 1 ≤ 16777216) (h : ∀ h', Fr h₀ L h' m → News h₀ L h' news' → Q x { s with heap := h' }) : wpAny (model prog w) A (call (.builtin "list.pop") [.ref D, .int 0 u]) Q E s :=
  kl_popAt (k := 0) (p := []) (y := x) (q := us) F N rfl (by simp [seqIndex?]) rfl U (by rw [sizeLine_eq]; simpa using hz) h
theorem copy_L {D : Addr} {m : Str → Option Value} {us : List Value} {n : Nat} (F : Fr h₀ L s.heap m) (N : News h₀ L s.heap news) (hD : (D, listOf us.toArray n) ∈ news)
    (hz : us.length ≤ 16777216) (h : ∀ C c h', Fr h₀ L h' m → News h₀ L h' ((C, listOf us.toArray c) :: news) → (∀ q ∈ news, q.1 < C) → Q (.ref C) { s with heap := h' }) : wpAny (model prog w) A (call (.type "list") [.ref D]) Q E s :=
  list_copyK F N ⟨_, (N _ hD).1, rfl, n, rfl⟩ h (by rw [List.size_toArray, sizeLine_eq]; exact hz)
theorem add_L {a b : Addr} {m : Str → Option Value} {us vs : List Value} {n k : Nat} (F : Fr h₀ L s.heap m) (N : News h₀ L s.heap news) (ha : (a, listOf us.toArray n) ∈ news) (hb : (b, listOf vs.toArray k) ∈ news)
    (hz : us.length + vs.length ≤ 16777216) (h : ∀ D h', Fr h₀ L h' m → News h₀ L h' ((D, listOf (us ++ vs).toArray 0) :: news) → (∀ p ∈ news, p.1 < D) → Q (.ref D) { s with heap := h' }) : wpAny (model prog w) A (binaryOp .Add (.ref a) (.ref b)) Q E s :=
  kmk_add_lit F N ⟨_, (N _ ha).1, rfl, n, rfl⟩ ⟨_, (N _ hb).1, rfl, k, rfl⟩ rfl h (by rw [sizeLine_eq]; exact hz)
theorem tuple_L {M : Model} {m : Str → Option Value} {vs : List Value} (F : Fr h₀ L s.heap m) (N : News h₀ L s.heap news) (hz : vs.length ≤ 16777216)
    (h : ∀ D h', Fr h₀ L h' m → News h₀ L h' ((D, tupO vs) :: news) → (∀ p ∈ news, p.1 < D) → Q (.ref D) { s with heap := h' }) : wpAny M A (newTuple vs) Q E s :=
  newTuple_N F N (fun h' F' N' => h _ h' F' N' fun p hp => Heap.lt_size (N p hp).1) (by rw [sizeLine_eq]; exact hz)
theorem list_L {M : Model} {m : Str → Option Value} {vs : List Value} (F : Fr h₀ L s.heap m) (N : News h₀ L s.heap news) (hz : vs.length ≤ 16777216)
    (h : ∀ D h', Fr h₀ L h' m → News h₀ L h' ((D, listOf vs.toArray 0) :: news) → (∀ p ∈ news, p.1 < D) → Q (.ref D) { s with heap := h' }) : wpAny M A (newList vs) Q E s :=
  newList_K F N h (by rw [sizeLine_eq]; exact hz)
end
end Mine
end
section
open PySem PySem.W PyProof.Rows PySem.Spec PySem.Calls
set_option Elab.async false
set_option maxRecDepth 100000
set_option maxHeartbeats 4000000
namespace Mine
section
variable {prog : Program} {w : World} {A : Around} {E : Value → Shared → Prop} {s : Shared} {env : Env} {h₀ : Heap} {target : Expr} {body : List Stmt} {Q : Flow → Shared → Prop}

def Turned {σ : Type} (Led : σ → List (Addr × Obj)) (ps : σ → List (Str × Value)) (stored : List Str) (m₀ : Str → Option Value) (P : σ → Prop) (m : Str → Option Value) (nx : List (Addr × Obj)) : Prop :=
  ∃ c, nx = Led c ∧ P c ∧ (∀ p ∈ ps c, m p.1 = some p.2) ∧ (∀ z, (∀ p ∈ ps c, z ≠ p.1) → stored.contains z = false → m z = m₀ z)
theorem turned_fr {σ : Type} {ps : List (Str × Value)} {stored : List Str} {m₀ m₁ : Str → Option Value} {L : Addr} {h : Heap} (h1 : ∀ p ∈ ps, m₁ p.1 = some p.2) (h2 : ∀ z, (∀ p ∈ ps, z ≠ p.1) → stored.contains z = false → m₁ z = m₀ z)
    (F : Fr h₀ L h m₁) : Fr h₀ L h (kstB (fun z => if stored.contains z then m₁ z else m₀ z) ps) := by
  have em : kstB (fun z => if stored.contains z then m₁ z else m₀ z) ps = m₁ := by
    funext y
    refine kstB_eq h1 fun hy => ?_
    skip
    cases hc : stored.contains y with
    | true => rfl
    | false => exact (h2 y hy hc).symm
  rw [em]
  exact F

theorem iter_listS {σ : Type} {l : Addr} {vs : List Value} {nn : Nat} {m₀ : Str → Option Value} (Led : σ → List (Addr × Obj)) (ps : σ → List (Str × Value)) (stored : List Str) (P : Nat → σ → Prop) (c₀ : σ)
    (hh : A.handled = none) (hl : ∀ c, (l, listOf vs.toArray nn) ∈ Led c) (F : Fr h₀ env.locals s.heap m₀) (N : News h₀ env.locals s.heap (Led c₀)) (hk : ∀ p ∈ ps c₀, m₀ p.1 = some p.2) (hj : P 0 c₀)
    (turn : ∀ i v c (u : Str → Option Value) h tk I oI, vs[i]? = some v → P i c → (∀ p ∈ Led c, p.1 ≠ I) → Fr h₀ env.locals h (kstB (fun z => if stored.contains z then u z else m₀ z) (ps c)) → News h₀ env.locals h ((I, oI) :: Led c) →
      wpAny (model prog w) A (assign target env v) (fun _ s₃ => wpAny (model prog w) A (execs body env) (TurnEnd h₀ env.locals I oI (Turned Led ps stored m₀ (P (i + 1))) { s with heap := h, toks := tk } Q) E s₃) E { s with heap := h, toks := tk })
    (done : ∀ c (u : Str → Option Value) h tk, P vs.length c → Fr h₀ env.locals h (kstB (fun z => if stored.contains z then u z else m₀ z) (ps c)) → News h₀ env.locals h (Led c) → Q .next { s with heap := h, toks := tk }) :
    wpAny (model prog w) A (pyIter (.ref l)) (fun it s₂ => TurnsAt prog w A h₀ env target body Q E it s₂) E s := by
  refine iter_listJ (fun i => Turned Led ps stored m₀ (P i)) hh (hl c₀) F N ⟨c₀, rfl, hj, hk, fun _ _ _ => rfl⟩ (fun i m nx ⟨c, e, _⟩ => e ▸ hl c) ?_ ?_
  · rintro i v m₁ nx h tk I oI hv ⟨c, rfl, hp, h1, h2⟩ hoff F₁ N₁
    exact turn i v c m₁ h tk I oI hv hp hoff (turned_fr (σ := σ) h1 h2 F₁) N₁
  · rintro m₁ nx h tk ⟨c, rfl, hp, h1, h2⟩ F₁ N₁
    exact done c m₁ h tk hp (turned_fr (σ := σ) h1 h2 F₁) N₁

def Kept (news : List (Addr × Obj)) (stored : List Str) (m₀ m : Str → Option Value) (nx : List (Addr × Obj)) : Prop := nx = news ∧ ∀ z, stored.contains z = false → m z = m₀ z
theorem kept_fr {stored : List Str} {m₀ m₁ : Str → Option Value} {L : Addr} {h : Heap} (h2 : ∀ z, stored.contains z = false → m₁ z = m₀ z)
    (F : Fr h₀ L h m₁) : Fr h₀ L h (fun z => if stored.contains z then m₁ z else m₀ z) := by
  have em : (fun z => if stored.contains z then m₁ z else m₀ z) = m₁ := by
    funext y
    cases hc : stored.contains y with
    | true => rfl
    | false => exact (h2 y hc).symm
  rw [em]
  exact F
theorem iter_listK {l : Addr} {vs : List Value} {nn : Nat} {m₀ : Str → Option Value} {news : List (Addr × Obj)} (stored : List Str)
    (hh : A.handled = none) (hl : (l, listOf vs.toArray nn) ∈ news) (F : Fr h₀ env.locals s.heap m₀) (N : News h₀ env.locals s.heap news)
    (turn : ∀ (i : Nat) v (u : Str → Option Value) h tk I oI, vs[i]? = some v → (∀ p ∈ news, p.1 ≠ I) → Fr h₀ env.locals h (fun z => if stored.contains z then u z else m₀ z) → News h₀ env.locals h ((I, oI) :: news) →
      wpAny (model prog w) A (assign target env v) (fun _ s₃ => wpAny (model prog w) A (execs body env) (TurnEnd h₀ env.locals I oI (Kept news stored m₀) { s with heap := h, toks := tk } Q) E s₃) E { s with heap := h, toks := tk })
    (done : ∀ (u : Str → Option Value) h tk, Fr h₀ env.locals h (fun z => if stored.contains z then u z else m₀ z) → News h₀ env.locals h news → Q .next { s with heap := h, toks := tk }) :
    wpAny (model prog w) A (pyIter (.ref l)) (fun it s₂ => TurnsAt prog w A h₀ env target body Q E it s₂) E s := by
  refine iter_listJ (fun _ => Kept news stored m₀) hh hl F N ⟨rfl, fun _ _ => rfl⟩ (fun i m nx ⟨e, _⟩ => e ▸ hl) ?_ ?_
  · rintro i v m₁ nx h tk I oI hv ⟨rfl, h2⟩ hoff F₁ N₁
    exact turn i v m₁ h tk I oI hv hoff (kept_fr h2 F₁) N₁
  · rintro m₁ nx h tk ⟨rfl, h2⟩ F₁ N₁
    exact done m₁ h tk (kept_fr h2 F₁) N₁

theorem iter_rangeS {σ : Type} {x : Str} {r : Addr} {a₀ b₀ : Int} {t₀ u₀ v₀ : Tok} {n : Nat} {m₀ : Str → Option Value} (Led : σ → List (Addr × Obj)) (ps : σ → List (Str × Value)) (stored : List Str) (P : Nat → σ → Prop) (c₀ : σ) {news : List (Addr × Obj)}
    (hh : A.handled = none) (hr : IsRange s.heap r a₀ b₀ 1 t₀ u₀ v₀) (hsmall : Builtin.Range.small a₀ b₀ 1 = true) (hsz : Builtin.Range.rangeSize a₀ b₀ 1 = (n : Int)) (F : Fr h₀ env.locals s.heap m₀) (N : News h₀ env.locals s.heap news)
    (hsub : ∀ p ∈ Led c₀, p ∈ news) (hk : ∀ p ∈ ps c₀, m₀ p.1 = some p.2) (hj : P 0 c₀)
    (turn : ∀ (i : Nat) t c (u : Str → Option Value) h tk I oI, i < n → P i c → (∀ p ∈ Led c, p.1 ≠ I) → Fr h₀ env.locals h (fun y => if y = x then some (.int (a₀ + (i : Int)) t) else kstB (fun z => if stored.contains z then u z else m₀ z) (ps c) y) → News h₀ env.locals h ((I, oI) :: Led c) →
      wpAny (model prog w) A (execs body env) (TurnEnd h₀ env.locals I oI (Turned Led ps stored m₀ (P (i + 1))) { s with heap := h, toks := tk } Q) E { s with heap := h, toks := tk })
    (done : ∀ c (u : Str → Option Value) h tk, P n c → Fr h₀ env.locals h (kstB (fun z => if stored.contains z then u z else m₀ z) (ps c)) → News h₀ env.locals h (Led c) → Q .next { s with heap := h, toks := tk }) :
    wpAny (model prog w) A (pyIter (.ref r)) (fun it s₂ => LoopAtV prog w A h₀ env x body Q E it s₂) E s := by
  refine iter_rangeJ (fun i => Turned Led ps stored m₀ (P i)) hh hr hsmall hsz F (news_sub N hsub) ⟨c₀, rfl, hj, hk, fun _ _ _ => rfl⟩ ?_ ?_
  · rintro i t m₁ nx h tk I oI hv ⟨c, rfl, hp, h1, h2⟩ hoff F₁ N₁
    refine turn i t c m₁ h tk I oI hv hp hoff ?_ N₁
    have em : kstB (fun z => if stored.contains z then m₁ z else m₀ z) (ps c) = m₁ := by
      funext y
      refine kstB_eq h1 fun hy => ?_
      skip
      cases hc : stored.contains y with
      | true => rfl
      | false => exact (h2 y hy hc).symm
    rw [em]
    exact F₁
  · rintro m₁ nx h tk ⟨c, rfl, hp, h1, h2⟩ F₁ N₁
    exact done c m₁ h tk hp (turned_fr (σ := σ) h1 h2 F₁) N₁
end
end Mine
end
section
open PySem PySem.W PyProof.Rows PySem.Spec PySem.Calls
set_option Elab.async false
set_option maxRecDepth 100000
set_option maxHeartbeats 8000000
namespace Mine
local macro_rules | `(tactic| k_mem) => `(tactic| first | ktr_member | exact List.mem_cons_self .. | (refine List.mem_cons_of_mem _ ?_; k_mem))
def seqOf (nx r : Int) (K : List Piece) : List Piece := K.map fun p => ((nx + p.1) % r, p.2)
def GoodK (r : Int) (K : List Piece) : Prop := ∀ p ∈ K, 0 ≤ p.1 ∧ 2 * p.1 ≤ r
section
variable {w : World} {dp un : Nat} {gd : Option (List Code)} {cn : Str} {cs : Scope} {a : Addr} {ccd : Value} {cl : List (Str × Addr)} {outer : List Env} {A₀ : Around} {base h₀ : Heap} {L : Addr} {m : Str → Option Value} {s : Shared} {Q E : Value → Shared → Prop} {mean : ExcName → Option Value} {mg mb : Str → Option Value} {news : List (Addr × Obj)}

theorem forget_spec {nx r : Int} {u tr k1 k2 : Tok} {sa sd l nn n9 : Nat} {vs : List Value} {K : List Piece} {tl : List (Addr × Obj)} (B : Below A₀ base outer h₀) (F : Fr h₀ L s.heap m) (X : (hd.heap_39 w.params).In h₀) (N : News h₀ L s.heap news)
    (T : Top hd.view_39 (looseW hd.view_39 []) mean mg mb h₀) (hk : cs.kind = .function) (hdp : dp + 5 < recursionLimit) (hun : un + 50 < cLine)
    (hS : (sa, instObj 134 sd) ∈ news) (hD : (sd, selfDict w.params k1 k2 r tr l nn) ∈ news) (hL : (l, listOf vs.toArray n9) ∈ news) (hP : Pcs tl vs (seqOf nx r K)) (hs : ∀ p ∈ tl, p ∈ news)
    (hr : 0 < r) (hr2 : r ≤ 2 ^ 32) (hK : GoodK r K)
    (hret : ∀ h' tk', Fr h₀ L h' m → News h₀ L h' news → Q .none { s with heap := h', toks := tk' }) :
    wpAny (model PySem.Challenge.rw_xw0330_01.row.prog w) (ktrTop dp un gd cn cs L a ccd cl outer) (call (.ref 110) [.ref sa, .int nx u]) Q E s := by
  w_top off
  k_with_none
  k_with "compareOp NotEq ref ref" => (refine' ne_nil (by k_asm) (by k_mem) (by k_mem) ?ku ?_; (case ku => ktr_units); (try dsimp only))
  k_with "call ref" => (refine' offset_spec (by k_asm) (by k_asm) (by k_asm) (by k_asm) (by k_asm) (by first | exact rfl | assumption) ?kd ?ku (by k_mem) (by k_mem) hr hr2 (by assumption) (by assumption) (by rfl) ?_; (case kd => ktr_room); (case ku => ktr_units); intro t9 h9 tk9 F9 N9; (try dsimp only); (try k_fold))
  k_with "subscriptTail" => (refine' item_list (by k_asm) (by k_mem) ?h0 ?h1 ?h2 ?_ ?h3; (case h0 => decide); (case h1 => decide); (case h2 => exact rfl); (case h3 => with_unfolding_all rfl); (try dsimp only))
  revert X; k_fill; intro X
  cases K with
  | nil =>
    cases hP
    refine wpAny_call ?_
    k_dflt ktr_enter
    k_steps
    exact hret _ _ (by k_asm) (news_sub (by k_asm) fun _ h => List.mem_cons_of_mem _ h)
  | cons p K =>
    obtain ⟨x, b⟩ := p
    obtain ⟨hx, hx2⟩ := hK (x, b) (.head _)
    unfold seqOf at hP
    rw [List.map_cons] at hP
    cases hP with
    | cons hp hP =>
    obtain ⟨pa, pt, pu, rfl, hm⟩ := hp
    dsimp only at hm hx hx2
    have hm' := hs _ hm
    refine wpAny_call ?_
    k_dflt ktr_enter
    k_steps
    exact hret _ _ (by k_asm) (news_sub (by k_asm) fun _ h => List.mem_cons_of_mem _ h)
end
end Mine
end
section
open PySem PySem.W PyProof.Rows PySem.Spec PySem.Calls
set_option Elab.async false
set_option maxRecDepth 100000
set_option maxHeartbeats 8000000
namespace Mine
local macro_rules | `(tactic| k_mem) => `(tactic| first | ktr_member | exact List.mem_cons_self .. | (refine List.mem_cons_of_mem _ ?_; k_mem))
section
variable {w : World} {dp un : Nat} {gd : Option (List Code)} {cn : Str} {cs : Scope} {a : Addr} {ccd : Value} {cl : List (Str × Addr)} {outer : List Env} {A₀ : Around} {base h₀ : Heap} {L : Addr} {m : Str → Option Value} {s : Shared} {Q E : Value → Shared → Prop} {mean : ExcName → Option Value} {mg mb : Str → Option Value} {news : List (Addr × Obj)}

theorem missing_spec {nx r x : Int} {u t tr k1 k2 tb : Tok} {o : Array UInt8} {sa sd l nn n9 : Nat} {vs : List Value} {K : List Piece} {tl : List (Addr × Obj)} (B : Below A₀ base outer h₀) (F : Fr h₀ L s.heap m) (X : (hd.heap_39 w.params).In h₀) (N : News h₀ L s.heap news)
    (T : Top hd.view_39 (looseW hd.view_39 []) mean mg mb h₀) (hk : cs.kind = .function) (hdp : dp + 5 < recursionLimit) (hun : un + 50 < cLine)
    (hS : (sa, instObj 134 sd) ∈ news) (hD : (sd, selfDict w.params k1 k2 r tr l nn) ∈ news) (hL : (l, listOf vs.toArray n9) ∈ news) (hP : Pcs tl vs (seqOf nx r K)) (hs : ∀ p ∈ tl, p ∈ news)
    (hr : 0 < r) (hr2 : r ≤ 2 ^ 32) (hK : GoodK r K) (hx0 : 0 ≤ x) (hx1 : x ≤ 2 ^ 32) (ho : 0 < o.size) (ho2 : o.size ≤ 1000) (hend : ∀ p ∈ K, p.1 + (p.2.size : Int) ≤ x) (hsz : ∀ p ∈ K, p.2.size ≤ 1000)
    (hret : ∀ f T t u n h' tk', Fr h₀ L h' m → News h₀ L h' ((f, listOf [.ref T].toArray n) :: (T, tupO [.int x t, .bytes o u]) :: news) → (∀ p ∈ news, p.1 < f) → f < T → Q (.ref f) { s with heap := h', toks := tk' }) :
    wpAny (model PySem.Challenge.rw_xw0330_01.row.prog w) (ktrTop dp un gd cn cs L a ccd cl outer) (call (.ref 89) [.ref sa, .int x t, .bytes o tb, .int nx u]) Q E s := by
  w_top off
  k_with_none
  k_with "call ref" => (refine' offset_spec (by k_asm) (by k_asm) (by k_asm) (by k_asm) (by k_asm) (by first | exact rfl | assumption) ?kd ?ku (by k_mem) (by k_mem) hr hr2 (by assumption) (by assumption) (by rfl) ?_; (case kd => ktr_room); (case ku => ktr_units); intro t9 h9 tk9 F9 N9; (try dsimp only); (try k_fold))
  k_with "subscriptTail" => ((with_reducible rename Fr _ _ _ _ => F8); (with_reducible rename News _ _ _ _ => N8); (refine slice_all (s := ⟨_, _, _, _, _⟩) F8 N8 (by omega) (by omega) ?_); intro h8 t8 tk8 F9 N9; (try dsimp only); clear F8 N8)
  revert X; k_fill; intro X
  refine wpAny_call ?_
  k_dflt ktr_enter
  k_steps
  (with_unfolding_all refine' For_turns (by assumption) ?_)
  k_steps
  refine' iter_listK [Str.ofString "seq", Str.ofString "kept", Str.ofString "first", Str.ofString "last"] (by rfl) ?hl (by assumption) ?hN ?_ ?_
  case hN => assumption
  case hl => k_mem
  · intro i v u h₁ tk₁ I oI hv hoff F₁ N₁
    obtain ⟨p, hp, hpc⟩ := hP.get hv
    obtain ⟨pa, pt, pu, rfl, hm⟩ := hpc
    unfold seqOf at hp
    rw [List.getElem?_map] at hp
    obtain ⟨q, hq, rfl⟩ := Option.map_eq_some_iff.mp hp
    have hqK := List.mem_of_getElem? hq
    obtain ⟨qx, qb⟩ := q
    obtain ⟨hx', hx2'⟩ := hK _ hqK
    have hend' := hend _ hqK
    have hsz' := hsz _ hqK
    dsimp only at hm hx' hx2' hend' hsz'
    have hm' := hs _ hm
    try k_fold
    k_steps
    refine TurnEnd.cont (by assumption) (by assumption) ?_ ?_ hoff ⟨rfl, ?_⟩
    · k_mem
    · intro p hp; exact List.mem_cons_of_mem _ hp
    · intro z h3
      simp only [List.contains_cons, List.contains_nil, Bool.or_false, Bool.or_eq_false_iff, beq_eq_false_iff_ne, ne_eq] at h3
      simp [h3]
  · intro u h₁ tk₁ F₁ N₁
    try k_fold
    k_steps
    (with_reducible rename Fr _ _ _ _ => F8)
    (with_reducible rename News _ _ _ _ => N8)
    refine hret _ _ _ _ _ _ _ F8 (news_sub N8 (List.forall_mem_cons.mpr ⟨List.Mem.tail _ (List.Mem.tail _ (List.Mem.head _)), List.forall_mem_cons.mpr ⟨List.Mem.head _, fun p hp => ?_⟩⟩)) (by assumption) (ltN (by omega))
    exact List.Mem.tail _ (List.Mem.tail _ (List.Mem.tail _ hp))
end
end Mine
end
section
set_option Elab.async false
namespace Mine
def mg : List Piece → List Piece → List Piece
  | [], R => R
  | k :: K, R => R.takeWhile (fun p => decide (p.1 < k.1)) ++ k :: mg K (R.dropWhile fun p => decide (p.1 < k.1))
theorem mg_none (R : List Piece) : mg [] R = R := rfl
theorem mg_lt {k p : Piece} {K R : List Piece} (h : p.1 < k.1) : mg (k :: K) (p :: R) = p :: mg (k :: K) R := by
  simp only [mg, List.takeWhile_cons, List.dropWhile_cons, decide_eq_true h, if_true, List.cons_append]
theorem mg_ge {k p : Piece} {K R : List Piece} (h : ¬ p.1 < k.1) : mg (k :: K) (p :: R) = k :: mg K (p :: R) := by
  simp only [mg, List.takeWhile_cons, List.dropWhile_cons, decide_eq_false h, Bool.false_eq_true, if_false, List.nil_append]
theorem mg_nil {k : Piece} {K : List Piece} : mg (k :: K) [] = k :: mg K [] := rfl
theorem mg_length (K R : List Piece) : (mg K R).length = K.length + R.length := by
  induction K generalizing R with
  | nil => simp [mg]
  | cons k K ih =>
    simp only [mg, List.length_append, List.length_cons, ih]
    have := congrArg List.length (List.takeWhile_append_dropWhile (p := fun p : Piece => decide (p.1 < k.1)) (l := R))
    rw [List.length_append] at this
    omega
theorem tw_snoc {q : Piece → Bool} {F : List Piece} {f : Piece} (h : q f = false) : (F ++ [f]).takeWhile q = F.takeWhile q := by
  induction F with
  | nil => simp [h]
  | cons a F ih =>
    simp only [List.cons_append, List.takeWhile_cons, ih]
theorem dw_snoc {q : Piece → Bool} {F : List Piece} {f : Piece} (h : q f = false) : (F ++ [f]).dropWhile q = F.dropWhile q ++ [f] := by
  induction F with
  | nil => simp [h]
  | cons a F ih =>
    simp only [List.cons_append, List.dropWhile_cons, ih]
    split <;> rfl
theorem dw_mem {q : Piece → Bool} {F : List Piece} {f : Piece} (h : f ∈ F.dropWhile q) : f ∈ F := (List.dropWhile_suffix q).mem h
theorem mg_fresh {K F : List Piece} {f : Piece} (h : ∀ k ∈ K, k.1 ≤ f.1) : mg K (F ++ [f]) = mg K F ++ [f] := by
  induction K generalizing F with
  | nil => rfl
  | cons k K ih =>
    have hk : decide (f.1 < k.1) = false := decide_eq_false (by have := h k (.head _); omega)
    simp only [mg]
    rw [tw_snoc hk, dw_snoc hk, ih fun k' hk' => h k' (.tail _ hk')]
    simp
theorem tw_all {q : Piece → Bool} {F : List Piece} (h : ∀ f ∈ F, q f = true) : F.takeWhile q = F := by
  induction F with
  | nil => rfl
  | cons a F ih => simp only [List.takeWhile_cons, h a (.head _), if_true, ih fun f hf => h f (.tail _ hf)]
theorem dw_all {q : Piece → Bool} {F : List Piece} (h : ∀ f ∈ F, q f = true) : F.dropWhile q = [] := by
  induction F with
  | nil => rfl
  | cons a F ih => simp only [List.dropWhile_cons, h a (.head _), if_true, ih fun f hf => h f (.tail _ hf)]
theorem mg_kept {K F : List Piece} {k : Piece} (h : ∀ f ∈ F, f.1 < k.1) : mg (K ++ [k]) F = mg K F ++ [k] := by
  induction K generalizing F with
  | nil =>
    have h' : ∀ f ∈ F, (fun p : Piece => decide (p.1 < k.1)) f = true := fun f hf => decide_eq_true (h f hf)
    show F.takeWhile _ ++ k :: F.dropWhile _ = F ++ [k]
    rw [tw_all h', dw_all h']
  | cons a K ih =>
    simp only [List.cons_append, mg]
    rw [ih fun f hf => h f (dw_mem hf)]
    simp
end Mine
end
section
set_option Elab.async false
namespace Mine
def endOf (p : Piece) : Int := p.1 + (p.2.size : Int)
def jstep (A : List Piece) (p : Piece) : List Piece := match A.getLast? with
  | none => [p]
  | some l => if endOf l = p.1 then A.dropLast ++ [(l.1, l.2 ++ p.2)] else A ++ [p]
theorem jstep_nil (p : Piece) : jstep [] p = [p] := rfl
theorem jstep_eq {A : List Piece} {l p : Piece} (h : endOf l = p.1) : jstep (A ++ [l]) p = A ++ [(l.1, l.2 ++ p.2)] := by
  simp [jstep, h]
theorem jstep_ne {A : List Piece} {l p : Piece} (h : endOf l ≠ p.1) : jstep (A ++ [l]) p = A ++ [l] ++ [p] := by
  simp [jstep, h]
def jf (P : List Piece) : List Piece := P.foldl jstep []
theorem jf_take {P : List Piece} {i : Nat} {p : Piece} (h : P[i]? = some p) : jf (P.take (i + 1)) = jstep (jf (P.take i)) p := by
  unfold jf
  rw [List.take_add_one, h, List.foldl_append]
  rfl
theorem snoc_of : ∀ A : List Piece, A = [] ∨ ∃ B l, A = B ++ [l] := by
  intro A
  rcases List.eq_nil_or_concat A with h | ⟨B, l, h⟩
  · exact .inl h
  · exact .inr ⟨B, l, by rw [h, List.concat_eq_append]⟩
abbrev Sep (K : List Piece) : Prop := K.Pairwise fun a b => endOf a < b.1
theorem sep_fold {B : List Piece} : ∀ {A : List Piece}, Sep (A ++ B) → B.foldl jstep A = A ++ B := by
  induction B with
  | nil => intro A _; simp
  | cons b B ih =>
    intro A h
    have e : jstep A b = A ++ [b] := by
      rcases snoc_of A with rfl | ⟨A', l, rfl⟩
      · rfl
      · refine jstep_ne fun e => ?_
        have := (List.pairwise_append.mp h).2.2 l (List.mem_append.mpr (.inr (.head _))) b (.head _)
        omega
    rw [List.foldl_cons, e, ih (by rw [List.append_assoc]; exact h), List.append_assoc]
    rfl
theorem jf_sep {K : List Piece} (h : Sep K) : jf K = K := sep_fold (A := []) h
theorem jf_put {K : List Piece} {p : Piece} (h : Sep K) : jf (K ++ [p]) = jstep K p := by
  unfold jf
  rw [List.foldl_append, show K.foldl jstep [] = K from jf_sep h]
  rfl
theorem sep_put {K : List Piece} {p : Piece} (h : Sep K) (he : ∀ k ∈ K, endOf k ≤ p.1) : Sep (jstep K p) := by
  rcases snoc_of K with rfl | ⟨A, l, rfl⟩
  · exact List.pairwise_singleton ..
  · obtain ⟨hA, _, hl⟩ := List.pairwise_append.mp h
    by_cases e : endOf l = p.1
    · rw [jstep_eq e]
      refine List.pairwise_append.mpr ⟨hA, List.pairwise_singleton .., fun a ha b hb => ?_⟩
      rw [List.mem_singleton.mp hb]
      exact hl a ha l (.head _)
    · rw [jstep_ne e]
      have hl' := he l (List.mem_append.mpr (.inr (.head _)))
      refine List.pairwise_append.mpr ⟨h, List.pairwise_singleton .., fun a ha b hb => ?_⟩
      rw [List.mem_singleton.mp hb]
      rcases List.mem_append.mp ha with ha | ha
      · have := hl a ha l (.head _)
        unfold endOf at *
        omega
      · rw [List.mem_singleton.mp ha]
        omega
theorem jstep_mem {K : List Piece} {p q : Piece} (h : q ∈ jstep K p) : q ∈ K ∨ q = p ∨ ∃ l ∈ K, endOf l = p.1 ∧ q = (l.1, l.2 ++ p.2) := by
  rcases snoc_of K with rfl | ⟨A, l, rfl⟩
  · exact .inr (.inl (List.mem_singleton.mp h))
  · by_cases e : endOf l = p.1
    · rw [jstep_eq e] at h
      rcases List.mem_append.mp h with h | h
      · exact .inl (List.mem_append.mpr (.inl h))
      · exact .inr (.inr ⟨l, List.mem_append.mpr (.inr (.head _)), e, List.mem_singleton.mp h⟩)
    · rw [jstep_ne e] at h
      rcases List.mem_append.mp h with h | h
      · exact .inl h
      · exact .inr (.inl (List.mem_singleton.mp h))
theorem jstep_size {K : List Piece} {p : Piece} {n : Nat} (h : ∀ q ∈ K, q.2.size ≤ n) : ∀ q ∈ jstep K p, q.2.size ≤ n + p.2.size := by
  intro q hq
  rcases jstep_mem hq with hq | rfl | ⟨l, hl, _, rfl⟩
  · have := h q hq; omega
  · omega
  · have := h l hl
    simp only [Array.size_append]
    omega
theorem jstep_length (K : List Piece) (p : Piece) : (jstep K p).length ≤ K.length + 1 := by
  rcases snoc_of K with rfl | ⟨A, l, rfl⟩
  · simp [jstep_nil]
  · by_cases e : endOf l = p.1
    · rw [jstep_eq e]; simp
    · rw [jstep_ne e]; simp
theorem jf_length (P : List Piece) : (jf P).length ≤ P.length := by
  suffices h : ∀ A : List Piece, (P.foldl jstep A).length ≤ A.length + P.length by simpa [jf] using h []
  induction P with
  | nil => simp
  | cons p P ih =>
    intro A
    have h1 := ih (jstep A p)
    have h2 := jstep_length A p
    simp only [List.foldl_cons, List.length_cons]
    omega
end Mine
end
section
open PySem PySem.W PyProof.Rows PySem.Spec PySem.Calls
set_option Elab.async false
set_option maxRecDepth 100000
set_option maxHeartbeats 8000000
namespace Mine
local macro_rules | `(tactic| walk_at $s:str) => `(tactic| k_extra $s)
local macro_rules | `(tactic| k_all) => `(tactic| assumption)
local macro_rules | `(tactic| k_mem) => `(tactic| first | with_reducible assumption | ktr_member | exact List.mem_cons_self .. | (refine List.mem_cons_of_mem _ ?_; k_mem) | (refine List.mem_append.mpr (.inr ?_); k_mem))
def Hold (P : Prop) : Prop := P
theorem Hold.mk {P : Prop} (h : P) : Hold P := h
section
variable {prog : Program} {w : World} {A : Around} {E : Value → Shared → Prop} {s : Shared} {h₀ : Heap} {L : Addr} {news : List (Addr × Obj)} {Q : Value → Shared → Prop}
theorem nn_nil {a b : Addr} {n k : Nat} (N : News h₀ L s.heap news) (ha : (a, listOf [].toArray n) ∈ news) (hb : (b, listOf [].toArray k) ∈ news)
    (hu : A.units + 8 < cLine) (h : Q (.bool false) s) : wpAny (model prog w) A (compareOp .NotEq (.ref a) (.ref b)) Q E s := ne_nil N ha hb hu h
theorem nn_cons {a b : Addr} {x : Value} {xs : List Value} {n k : Nat} (N : News h₀ L s.heap news) (ha : (a, listOf (x :: xs).toArray n) ∈ news) (hb : (b, listOf [].toArray k) ∈ news)
    (hu : A.units + 8 < cLine) (h : Q (.bool true) s) : wpAny (model prog w) A (compareOp .NotEq (.ref a) (.ref b)) Q E s := ne_nil N ha hb hu (by simpa using h)
end
theorem mem_r {α : Type} {x : α} {a b : List α} (h : x ∈ b) : x ∈ a ++ b := List.mem_append.mpr (.inr h)
theorem mg_room {tl news : List (Addr × Obj)} {us rs : List Value} {fd rp K' K R : List Piece} (h1 : Pcs tl us fd) (h2 : Pcs news rs rp) (he : fd ++ mg K' rp = mg K R) (hl : K.length + R.length ≤ 1000) : us.length + rs.length ≤ 1000 := by
  have e := congrArg List.length he
  rw [List.length_append, mg_length, mg_length] at e
  have := h1.length
  have := h2.length
  omega
structure MSt where
  us : List Value
  n : Nat
  rs : List Value
  k : Nat
  tl : List (Addr × Obj)
def MSt.led (f C : Addr) (news : List (Addr × Obj)) (c : MSt) : List (Addr × Obj) := (f, listOf c.us.toArray c.n) :: (C, listOf c.rs.toArray c.k) :: (c.tl ++ news)
def MSt.ok (C : Addr) (news : List (Addr × Obj)) (K R : List Piece) (i : Nat) (c : MSt) : Prop :=
  (∀ p ∈ c.tl, C < p.1) ∧ AllTup c.tl ∧ ∃ fd rp, Pcs (c.tl ++ news) c.us fd ∧ Pcs news c.rs rp ∧ fd ++ mg (K.drop i) rp = mg K R
theorem drop_get {K : List Piece} {i : Nat} {q : Piece} (h : K[i]? = some q) : K.drop i = q :: K.drop (i + 1) := by
  obtain ⟨hi, rfl⟩ := List.getElem?_eq_some_iff.mp h
  exact List.drop_eq_getElem_cons hi
theorem MSt.next {C d : Addr} {news tl : List (Addr × Obj)} {us rs : List Value} {n k i : Nat} {K R fd rp : List Piece} {qx : Int} {qb : Array UInt8} {t u : Tok} (ht : ∀ p ∈ tl, C < p.1) (hta : AllTup tl) (hd : C < d) (hfd : Pcs (tl ++ news) us fd) (hrp : Pcs news rs rp)
    (he : fd ++ mg (K.drop i) rp = mg K R) (hq : K[i]? = some (qx, qb)) (hge : ∀ p rp', rp = p :: rp' → ¬ p.1 < qx) : MSt.ok C news K R (i + 1) ⟨us ++ [.ref d], n, rs, k, (d, tupO [.int qx t, .bytes qb u]) :: tl⟩ := by
  refine ⟨fun p hp => ?_, fun p hp => ?_, fd ++ [(qx, qb)], rp, (hfd.mono fun p hp => List.mem_cons_of_mem _ hp).append (.one ⟨d, t, u, rfl, .head _⟩), hrp, ?_⟩
  · rcases List.mem_cons.mp hp with rfl | hp
    · exact hd
    · exact ht p hp
  · rcases List.mem_cons.mp hp with rfl | hp
    · rfl
    · exact hta p hp
  · rw [← he, drop_get hq, List.append_assoc]
    congr 1
    cases rp with
    | nil => rfl
    | cons p rp => exact (mg_ge (hge p rp rfl)).symm
theorem MSt.less {fd rp K R : List Piece} {i : Nat} {q p : Piece} (he : fd ++ mg (K.drop i) (p :: rp) = mg K R) (hq : K[i]? = some q) (hl : p.1 < q.1) : (fd ++ [p]) ++ mg (K.drop i) rp = mg K R := by
  rw [← he, drop_get hq, mg_lt hl, List.append_assoc]
  rfl
section
variable {w : World} {dp un : Nat} {gd : Option (List Code)} {cn : Str} {cs : Scope} {a : Addr} {ccd : Value} {cl : List (Str × Addr)} {outer : List Env} {A₀ : Around} {base h₀ : Heap} {L : Addr} {m : Str → Option Value} {s : Shared} {Q E : Value → Shared → Prop} {mean : ExcName → Option Value} {mg' mb : Str → Option Value} {news : List (Addr × Obj)}

theorem merged_spec {nx r : Int} {u tr k1 k2 : Tok} {sa sd l nn n9 fr n8 : Nat} {vs fs : List Value} {K R : List Piece} (B : Below A₀ base outer h₀) (F : Fr h₀ L s.heap m) (X : (hd.heap_39 w.params).In h₀) (N : News h₀ L s.heap news)
    (T : Top hd.view_39 (looseW hd.view_39 []) mean mg' mb h₀) (hk : cs.kind = .function) (hdp : dp + 5 < recursionLimit) (hun : un + 50 < cLine)
    (hS : (sa, instObj 134 sd) ∈ news) (hD : (sd, selfDict w.params k1 k2 r tr l nn) ∈ news) (hL : (l, listOf vs.toArray n9) ∈ news) (hP : Pcs news vs (seqOf nx r K)) (hR : (fr, listOf fs.toArray n8) ∈ news) (hF : Pcs news fs R)
    (hr : 0 < r) (hr2 : r ≤ 2 ^ 32) (hK : GoodK r K) (hlen : K.length + R.length ≤ 1000)
    (hret : ∀ f us n tl h' tk', Fr h₀ L h' m → News h₀ L h' ((f, listOf us.toArray n) :: (tl ++ news)) → (∀ p ∈ tl ++ news, p.1 < f) → AllTup tl → (∀ p ∈ tl, ∀ q ∈ news, q.1 < p.1) → Pcs (tl ++ news) us (mg K R) → Q (.ref f) { s with heap := h', toks := tk' }) :
    wpAny (model PySem.Challenge.rw_xw0330_01.row.prog w) (ktrTop dp un gd cn cs L a ccd cl outer) (call (.ref 96) [.ref sa, .ref fr, .int nx u]) Q E s := by
  w_top off
  k_with_none
  k_with "call ref" => (refine' offset_spec (by k_asm) (by k_asm) (by k_asm) (by k_asm) (by k_asm) (by first | exact rfl | assumption) ?kd ?ku (by k_mem) (by k_mem) hr hr2 (by assumption) (by assumption) (by rfl) ?_; (case kd => ktr_room); (case ku => ktr_units); intro t9 h9 tk9 F9 N9; (try dsimp only); (try k_fold))
  k_with "call type:list" => (refine' copy_L (by k_asm) (by k_asm) (by k_mem) ?h1 ?_; (case h1 => (have h1 := hF.length; omega)); intro C9 c9 h9 F9 N9 l9; (try dsimp only); (try k_fold))
  k_with "newList" => (refine' list_L (by k_asm) (by k_asm) (by decide) ?_; intro f9 h9 F9 N9 l8; (try dsimp only); (try k_fold))
  revert X; k_fill; intro X
  refine wpAny_call ?_
  k_dflt ktr_enter
  k_steps
  (with_unfolding_all refine' For_turns (by assumption) ?_)
  k_steps
  have hfC := ltN (l9 (f9, _) (.head _))
  (with_reducible rename Fr _ _ _ _ => F8)
  (with_reducible rename News _ _ _ _ => N8)
  refine' iter_listS (MSt.led f9 C9 news) (fun _ => []) [Str.ofString "seq", Str.ofString "kept", Str.ofString "first"] (MSt.ok C9 news K R) ⟨[], 0, fs, c9, []⟩ (by rfl) ?hl F8 ?hN (fun _ h => nomatch h) ?hj ?_ ?_
  case hN =>
    refine news_sub N8 fun p hp => ?_
    simp only [MSt.led, List.nil_append, List.mem_cons] at hp
    rcases hp with rfl | rfl | hp <;> k_mem
  case hl => intro c; exact .tail _ (.tail _ (List.mem_append.mpr (.inr hL)))
  case hj => exact ⟨fun _ h => (nomatch h), fun _ h => (nomatch h), [], R, .nil, hF, rfl⟩
  · rintro i v ⟨us, n, rs, k, tl⟩ u h₁ tk₁ I oI hv ⟨ht, hta, fd, rp, hfd, hrp, he⟩ hoff F₁ N₁
    clear F8 N8
    dsimp only [MSt.led] at hoff N₁ ht hta hfd hrp
    obtain ⟨p, hp, hpc⟩ := hP.get hv
    obtain ⟨pa, pt, pu, rfl, hm⟩ := hpc
    unfold seqOf at hp
    rw [List.getElem?_map] at hp
    obtain ⟨q, hq, rfl⟩ := Option.map_eq_some_iff.mp hp
    have hqK := List.mem_of_getElem? hq
    obtain ⟨qx, qb⟩ := q
    obtain ⟨hx', hx2'⟩ := hK _ hqK
    dsimp only at hm hx' hx2'
    have hm' : (pa, tupO [Value.int ((nx + qx) % r) pt, Value.bytes qb pu]) ∈ tl ++ news := List.mem_append.mpr (.inr hm)
    have hIf := neN (hoff (f9, _) (.head _))
    have hIC := neN (hoff (C9, _) (.tail _ (.head _)))
    have hofC : ∀ p ∈ tl ++ news, p.1 ≠ C9 := fun p hp => (List.mem_append.mp hp).elim (fun h e => absurd (ht p h) (e ▸ Nat.lt_irrefl _)) (fun h e => absurd (l9 p (.tail _ h)) (e ▸ Nat.lt_irrefl _))
    have hofF : ∀ p ∈ tl ++ news, p.1 ≠ f9 := fun p hp => (List.mem_append.mp hp).elim (fun h e => absurd (Nat.lt_trans hfC (ht p h)) (e ▸ Nat.lt_irrefl _)) (fun h e => absurd (l8 p h) (e ▸ Nat.lt_irrefl _))
    k_with "exec While BoolOp cons nil" => ((with_reducible rename Fr _ _ _ _ => F8); (with_reducible rename News _ _ _ _ => N8); (with_unfolding_all refine' ksw_while (σ := MSt) (fun c => (I, oI) :: (f9, listOf c.us.toArray c.n) :: (C9, listOf c.rs.toArray c.k) :: (tl ++ news)) (fun _ => []) (fun _ => True) [] (fun c => ∃ fd rp, Pcs (tl ++ news) c.us fd ∧ Pcs news c.rs rp ∧ fd ++ mg (K.drop i) rp = mg K R) (fun c => c.rs.length) ⟨us, n, rs, k, tl⟩ F8 N8 trivial (fun _ h => nomatch h) ⟨fd, rp, hfd, hrp, he⟩ (id (α := Hold _) ?_)))
    try k_fold
    k_steps
    refine Hold.mk ?_
    rintro ⟨us, n, rs, k, _⟩ u h tk _ ⟨fd, rp, hfd, hrp, he⟩ F₁ N₁
    dsimp only at hfd hrp N₁
    k_with "newList" => (refine' list_L (by k_asm) (by k_asm) (by decide) ?_; intro e9 h9 F9 N9 l8; (k_lt l8); (try dsimp only); (try k_fold))
    k_with "compareOp NotEq ref ref" => (refine' nn_nil (by k_asm) (by k_mem) (by k_mem) ?ku ?_; (case ku => ktr_units); (try dsimp only))
    k_with "compareOp NotEq ref ref" => (refine' nn_cons (by k_asm) (by k_mem) (by k_mem) ?ku ?_; (case ku => ktr_units); (try dsimp only))
    k_with "subscriptTail" => (refine' item_list (by k_asm) (by k_mem) ?h0 ?h1 ?h2 ?_ ?h3; (case h0 => decide); (case h1 => decide); (case h2 => exact rfl); (case h3 => with_unfolding_all rfl); (try dsimp only))
    k_with "call builtin:list.pop" => (refine' pop_front (by k_asm) (by k_asm) ?ku ?kz ?_; (case ku => k_upd); (case kz => omega); (intro h9 F9 N9); (try dsimp only); (try k_fold))
    k_with "call builtin:list.append" => (refine' append_L (by k_asm) (by k_asm) ?ku ?kz ?_; (case ku => k_upd); (case kz => omega); (intro h9 F9 N9); (try dsimp only); (try k_fold))
    have hroom := mg_room hfd hrp he hlen
    k_with "newTuple" => (refine' tuple_L (by k_asm) (by k_asm) ?kz ?_; (case kz => exact Nat.le_of_ble_eq_true rfl); intro d9 h9 F9 N9 l7; (have l6 := l7); (k_lt l7); (try dsimp only); (try k_fold))
    have hout : ∀ {rs' : List Value} {k' : Nat} {d : Addr} {o : Obj}, I < d → ∀ p ∈ MSt.led f9 C9 news ⟨us ++ [.ref d], n + 1, rs', k', (d, o) :: tl⟩, p.1 ≠ I := by
      intro rs' k' d o hd p hp
      simp only [MSt.led, List.mem_cons, List.cons_append] at hp
      rcases hp with rfl | rfl | rfl | hp
      · exact hIf
      · exact hIC
      · exact fun e => absurd hd (e ▸ Nat.lt_irrefl _)
      · exact hoff p (.tail _ (.tail _ hp))
    cases hrp with
    | nil =>
      try k_fold
      k_steps
      (with_reducible rename Fr _ _ _ _ => F8)
      (with_reducible rename News _ _ _ _ => N8)
      refine TurnEnd.next F8 N8 (by k_mem) ?_ (hout l7.2.1) ⟨⟨us ++ [.ref d9], n + 1, [], k, (d9, tupO [.int qx t9, .bytes qb pu]) :: tl⟩, rfl, MSt.next ht hta (ltN (by omega)) hfd .nil he hq (fun _ _ e => nomatch e), fun _ h => (nomatch h), ?_⟩
      · intro p hp
        simp only [MSt.led, List.mem_cons, List.cons_append] at hp
        rcases hp with rfl | rfl | rfl | hp <;> k_mem
      · intro z _ h3
        simp only [List.contains_cons, List.contains_nil, Bool.or_false, Bool.or_eq_false_iff, beq_eq_false_iff_ne, ne_eq] at h3
        simp [kstB, h3]
    | cons hp hrp =>
      obtain ⟨ra, rt, ru, rfl, hm3⟩ := hp
      have hm3' := mem_r (a := tl) hm3
      simp only [List.length_cons] at hroom
      try k_fold
      k_steps
      · (with_reducible rename Fr _ _ _ _ => F8)
        (with_reducible rename News _ _ _ _ => N8)
        refine ksw_end ⟨us ++ [.ref ra], n + 1, _, k + 1, tl⟩ F8 N8 ?_ trivial (fun _ h => nomatch h) ?_ ⟨_, _, hfd.append (.one ⟨ra, rt, ru, rfl, hm3'⟩), hrp, MSt.less he hq (by show _ < qx; omega)⟩ (Nat.lt_succ_self _)
        · intro p hp
          simp only [List.mem_cons] at hp
          rcases hp with rfl | rfl | rfl | hp <;> k_mem
        · intro z _ h3
          rfl
      · (with_reducible rename Fr _ _ _ _ => F8)
        (with_reducible rename News _ _ _ _ => N8)
        refine TurnEnd.next F8 N8 (by k_mem) ?_ (hout l7.2.1) ⟨⟨us ++ [.ref d9], n + 1, _, k, (d9, tupO [.int qx t9, .bytes qb pu]) :: tl⟩, rfl, MSt.next ht hta (ltN (by omega)) hfd (.cons ⟨ra, rt, ru, rfl, hm3⟩ hrp) he hq (fun p rp' e => by cases e; omega), fun _ h => (nomatch h), ?_⟩
        · intro p hp
          simp only [MSt.led, List.mem_cons, List.cons_append] at hp
          rcases hp with rfl | rfl | rfl | hp <;> k_mem
        · intro z _ h3
          simp only [List.contains_cons, List.contains_nil, Bool.or_false, Bool.or_eq_false_iff, beq_eq_false_iff_ne, ne_eq] at h3
          simp [kstB, h3]
  · rintro ⟨us, n, rs, k, tl⟩ u h₁ tk₁ ⟨ht, hta, fd, rp, hfd, hrp, he⟩ F₁ N₁
    clear F8 N8
    dsimp only [MSt.led] at N₁ ht hta hfd hrp
    have hvl := hP.length
    have hroom := mg_room hfd hrp he hlen
    rw [hvl, show (seqOf nx r K).length = K.length from List.length_map .., List.drop_length, mg_none] at he
    k_with "binaryOp Add ref ref" => (refine' add_L (by k_asm) (by k_asm) (by k_mem) (by k_mem) ?kz ?_; (case kz => omega); intro d9 h9 F9 N9 l7; (try dsimp only); (try k_fold))
    try k_fold
    k_steps
    (with_reducible rename News _ _ _ _ => N8)
    refine hret d9 _ 0 _ _ _ (by k_asm) (news_sub N8 ?_) (fun p hp => l7 p (.tail _ (.tail _ hp))) hta (fun p hp q hq => Nat.lt_trans (l9 q (.tail _ hq)) (ht p hp)) (he ▸ hfd.append (hrp.mono fun p hp => mem_r hp))
    intro p hp
    rcases List.mem_cons.mp hp with rfl | hp
    · exact .head _
    · exact .tail _ (.tail _ (.tail _ hp))
end
end Mine
end
section
open PySem PySem.W PyProof.Rows PySem.Spec PySem.Calls
set_option Elab.async false
set_option maxRecDepth 100000
set_option maxHeartbeats 8000000
namespace Mine
local macro_rules | `(tactic| walk_at $s:str) => `(tactic| k_extra $s)
local macro_rules | `(tactic| k_all) => `(tactic| assumption)
local macro_rules | `(tactic| k_mem) => `(tactic| first | with_reducible assumption | ktr_member | exact List.mem_cons_self .. | (refine List.mem_cons_of_mem _ ?_; k_mem) | (refine List.mem_append.mpr (.inr ?_); k_mem))
section
variable {prog : Program} {w : World} {A : Around} {E : Value → Shared → Prop} {s : Shared} {h₀ : Heap} {L : Addr} {news : List (Addr × Obj)} {Q : Value → Shared → Prop}
theorem item_last {value slice : PySem.Expr} {l : Addr} {us : List Value} {n : Nat} {u : Tok} {v : Value} (N : News h₀ L s.heap news) (hm : (l, listOf (us ++ [v]).toArray n) ∈ news) (h : Q v s)
    (hs : subscripted slice false (.ref l) (.int (-1) u) = operate [.ref l, .int (-1) u] (getItem (.ref l) (.int (-1) u)) := by with_unfolding_all rfl) :
    wpAny (model prog w) A (subscriptTail value slice (.ref l) (.int (-1) u)) Q E s := by
  have hl : s.heap.IsList l (us ++ [v]).toArray := ⟨_, (N _ hm).1, rfl, n, rfl⟩
  have hsz : (us ++ [v]).toArray.size = us.length + 1 := by simp
  refine tail_any hl.typeIs slot_list_getitem.lookup (wpAny_getItem_list_neg hl (by decide) (by rw [hsz]; omega) (by decide) ?_ h) hs
  rw [hsz, show ((-1 : Int) + ((us.length + 1 : Nat) : Int)).toNat = us.length by omega]
  simp
theorem setL_last {us : List Value} {v x : Value} : ki_setL (us ++ [v]) us.length x = some (us ++ [x]) := by
  induction us with
  | nil => rfl
  | cons a us ih => simp only [List.cons_append, List.length_cons, ki_setL, ih]
theorem set_last {D : Addr} {m : Str → Option Value} {news' : List (Addr × Obj)} {us : List Value} {n : Nat} {v x : Value} {u : Tok} {Q : Unit → Shared → Prop} (F : Fr h₀ L s.heap m) (N : News h₀ L s.heap news) (U : Upd D (listOf (us ++ [v]).toArray n) (listOf (us ++ [x]).toArray n) news news')
    (h : ∀ h', Fr h₀ L h' m → News h₀ L h' news' → Q () { s with heap := h' }) : wpAny (model prog w) A (setItem (.ref D) (.int (-1) u) x) Q E s := by
  refine ki_setNeg (j := us.length) F N (by decide) (by decide) ?_ setL_last U h
  have hsz : (us ++ [v]).toArray.size = us.length + 1 := by simp
  rw [hsz, PySem.seqIndex_neg (by decide) (by omega)]
  exact congrArg some (by omega)
end
structure JSt where
  us : List Value
  n : Nat
  tl : List (Addr × Obj)
  ev : Value
def JSt.led (f : Addr) (news : List (Addr × Obj)) (c : JSt) : List (Addr × Obj) := (f, listOf c.us.toArray c.n) :: (c.tl ++ news)
def EvOk (ev : Value) (fd : List Piece) : Prop := (fd = [] ∧ ev = .none) ∨ ∃ A l t, fd = A ++ [l] ∧ ev = .int (endOf l) t
def JSt.ok (f : Addr) (nx r : Int) (P : List Piece) (i : Nat) (c : JSt) : Prop :=
  (∀ p ∈ c.tl, f < p.1) ∧ AllTup c.tl ∧ Pcs c.tl c.us (seqOf nx r (jf (P.take i))) ∧ (∀ p ∈ jf (P.take i), p.2.size ≤ 1000 * i) ∧ EvOk c.ev (jf (P.take i))
theorem seqOf_append (nx r : Int) (A B : List Piece) : seqOf nx r (A ++ B) = seqOf nx r A ++ seqOf nx r B := List.map_append
theorem JSt.step {f d : Addr} {nx r : Int} {tl : List (Addr × Obj)} {us' : List Value} {n i : Nat} {P : List Piece} {p : Piece} {ev : Value} {vs : List Value} (ht : ∀ p ∈ tl, f < p.1) (hta : AllTup tl) (hd : f < d)
    (hp : P[i]? = some p) (hfd : Pcs ((d, tupO vs) :: tl) us' (seqOf nx r (jstep (jf (P.take i)) p))) (hz : ∀ p ∈ jf (P.take i), p.2.size ≤ 1000 * i) (hpz : p.2.size ≤ 1000) (hev : EvOk ev (jstep (jf (P.take i)) p)) :
    JSt.ok f nx r P (i + 1) ⟨us', n, (d, tupO vs) :: tl, ev⟩ := by
  unfold JSt.ok
  dsimp only
  rw [jf_take hp]
  refine ⟨fun p hp => ?_, fun p hp => ?_, hfd, fun q hq => ?_, hev⟩
  · rcases List.mem_cons.mp hp with rfl | hp
    · exact hd
    · exact ht p hp
  · rcases List.mem_cons.mp hp with rfl | hp
    · rfl
    · exact hta p hp
  · have := jstep_size hz q hq
    omega
section
variable {w : World} {dp un : Nat} {gd : Option (List Code)} {cn : Str} {cs : Scope} {a : Addr} {ccd : Value} {cl : List (Str × Addr)} {outer : List Env} {A₀ : Around} {base h₀ : Heap} {L : Addr} {m : Str → Option Value} {s : Shared} {Q E : Value → Shared → Prop} {mean : ExcName → Option Value} {mg' mb : Str → Option Value} {news : List (Addr × Obj)}
theorem plus_spec {x y r : Int} {t u v : Tok} (B : Below A₀ base outer h₀) (F : Fr h₀ L s.heap m) (X : (hd.heap_39 w.params).In h₀) (N : News h₀ L s.heap news)
    (T : Top hd.view_39 (looseW hd.view_39 []) mean mg' mb h₀) (hk : cs.kind = .function) (hdp : dp + 1 < recursionLimit) (hun : un + 8 < cLine) (hr : 0 < r)
    (hret : ∀ t h' tk', Fr h₀ L h' m → News h₀ L h' news → Q (.int ((x + y) % r) t) { s with heap := h', toks := tk' }) :
    wpAny (model PySem.Challenge.rw_xw0330_01.row.prog w) (ktrTop dp un gd cn cs L a ccd cl outer) (call (.ref 28) [.int x t, .int y u, .int r v]) Q E s := by
  w_top off
  k_with_none
  revert X; k_fill; intro X
  refine wpAny_call ?_
  k_dflt ktr_enter
  k_steps
  rw [Int.fmod_eq_emod_of_nonneg _ (Int.le_of_lt hr)]
  exact hret _ _ _ (by k_asm) (by k_asm)

theorem joined_spec {nx r : Int} {u tr k1 k2 : Tok} {sa sd l nn pl n8 : Nat} {ps : List Value} {P : List Piece} (B : Below A₀ base outer h₀) (F : Fr h₀ L s.heap m) (X : (hd.heap_39 w.params).In h₀) (N : News h₀ L s.heap news)
    (T : Top hd.view_39 (looseW hd.view_39 []) mean mg' mb h₀) (hk : cs.kind = .function) (hdp : dp + 5 < recursionLimit) (hun : un + 50 < cLine)
    (hS : (sa, instObj 134 sd) ∈ news) (hD : (sd, selfDict w.params k1 k2 r tr l nn) ∈ news) (hR : (pl, listOf ps.toArray n8) ∈ news) (hP : Pcs news ps P)
    (hr : 0 < r) (hr2 : r ≤ 2 ^ 32) (hlen : P.length ≤ 1000) (hsz : ∀ p ∈ P, p.2.size ≤ 1000)
    (hret : ∀ f us n tl h' tk', Fr h₀ L h' m → News h₀ L h' ((f, listOf us.toArray n) :: (tl ++ news)) → (∀ p ∈ news, p.1 < f) → AllTup tl → (∀ p ∈ tl, f < p.1) → Pcs tl us (seqOf nx r (jf P)) → Q (.ref f) { s with heap := h', toks := tk' }) :
    wpAny (model PySem.Challenge.rw_xw0330_01.row.prog w) (ktrTop dp un gd cn cs L a ccd cl outer) (call (.ref 103) [.ref sa, .ref pl, .int nx u]) Q E s := by
  k_with_none
  k_with "call ref" => (refine' plus_spec (by k_asm) (by k_asm) (by k_asm) (by k_asm) (by k_asm) (by first | exact rfl | assumption) ?kd ?ku hr ?_; (case kd => ktr_room); (case ku => ktr_units); intro t9 h9 tk9 F9 N9; (try dsimp only); (try k_fold))
  k_with "newList" => (refine' list_L (by k_asm) (by k_asm) (by decide) ?_; intro f9 h9 F9 N9 l8; (try dsimp only); (try k_fold))
  revert X; k_fill; intro X
  refine wpAny_call ?_
  k_dflt ktr_enter
  k_steps
  (with_unfolding_all refine' For_turns (by assumption) ?_)
  k_steps
  (with_reducible rename Fr _ _ _ _ => F8)
  (with_reducible rename News _ _ _ _ => N8)
  refine' iter_listS (JSt.led f9 news) (fun c => [(Str.ofString "end", c.ev)]) [Str.ofString "first", Str.ofString "octets", Str.ofString "seq", Str.ofString "ahead"] (JSt.ok f9 nx r P) ⟨[], 0, [], .none⟩ (by rfl) ?hl F8 ?hN ?hk ?hj ?_ ?_
  case hN =>
    refine news_sub N8 fun p hp => ?_
    simp only [JSt.led, List.nil_append, List.mem_cons] at hp
    rcases hp with rfl | hp <;> k_mem
  case hl => intro c; exact .tail _ (List.mem_append.mpr (.inr hR))
  case hk => intro p hp; rw [List.mem_singleton.mp hp]; rfl
  case hj => exact ⟨fun _ h => (nomatch h), fun _ h => (nomatch h), .nil, fun _ h => (nomatch h), .inl ⟨rfl, rfl⟩⟩
  · rintro i v ⟨us, n, tl, ev⟩ u h₁ tk₁ I oI hv ⟨ht, hta, hfd, hz, hev⟩ hoff F₁ N₁
    clear F8 N8
    dsimp only [JSt.led] at hoff N₁ ht hta hfd hev F₁
    obtain ⟨p, hp, hpc⟩ := hP.get hv
    obtain ⟨pa, pt, pu, rfl, hm⟩ := hpc
    have hpK := List.mem_of_getElem? hp
    have hpz := hsz _ hpK
    obtain ⟨px, pb⟩ := p
    dsimp only at hm hpz
    have hm' : (pa, tupO [Value.int px pt, Value.bytes pb pu]) ∈ tl ++ news := mem_r hm
    have hIf := neN (hoff (f9, _) (.head _))
    have hofF : ∀ p ∈ tl ++ news, p.1 ≠ f9 := fun p hp => (List.mem_append.mp hp).elim (fun h e => absurd (ht p h) (e ▸ Nat.lt_irrefl _)) (fun h e => absurd (l8 p h) (e ▸ Nat.lt_irrefl _))
    have hi := (List.getElem?_eq_some_iff.mp hp).1
    have hul : us.length ≤ 1000 := by
      have h1 := hfd.length
      rw [show (seqOf nx r (jf (P.take i))).length = (jf (P.take i)).length from List.length_map ..] at h1
      have h2 := jf_length (P.take i)
      rw [List.length_take] at h2
      omega
    k_with "newTuple" => (refine' tuple_L (by k_asm) (by k_asm) ?kz ?_; (case kz => exact Nat.le_of_ble_eq_true rfl); intro d9 h9 F9 N9 l7; (have l6 := l7); (k_lt l7); (try dsimp only); (try k_fold))
    k_with "call builtin:list.append" => (refine' append_L (by k_asm) (by k_asm) ?ku ?kz ?_; (case ku => k_upd); (case kz => omega); (intro h9 F9 N9); (try dsimp only); (try k_fold))
    generalize hfe : jf (P.take i) = fd at hfd hz hev
    have hout : ∀ {us' : List Value} {n' : Nat} {d : Addr} {o : Obj} {ev' : Value}, I < d → ∀ p ∈ JSt.led f9 news ⟨us', n', (d, o) :: tl, ev'⟩, p.1 ≠ I := by
      intro us' n' d o ev' hd p hp
      simp only [JSt.led, List.mem_cons, List.cons_append] at hp
      rcases hp with rfl | rfl | hp
      · exact hIf
      · exact fun e => absurd hd (e ▸ Nat.lt_irrefl _)
      · exact hoff p (.tail _ hp)
    rcases hev with ⟨rfl, rfl⟩ | ⟨A, l, t, rfl, rfl⟩
    · cases hfd
      try k_fold
      k_steps
      (with_reducible rename Fr _ _ _ _ => F8)
      (with_reducible rename News _ _ _ _ => N8)
      refine' TurnEnd.next F8 N8 (by k_mem) ?hn1 (hout l7.1) ⟨⟨[] ++ [.ref d9], n + 1, (d9, tupO [.int ((nx + px) % r) t9, .bytes pb pu]) :: tl, .int (px + (pb.size : Int)) ?te1⟩, rfl, ?hok1, ?hps1, ?hfr1⟩
      case hps1 => intro p hp; rw [List.mem_singleton.mp hp]; rfl
      case hn1 =>
        intro p hp
        simp only [JSt.led, List.mem_cons, List.cons_append] at hp
        rcases hp with rfl | rfl | hp <;> k_mem
      case hfr1 =>
        intro z h2 h3
        simp only [List.forall_mem_cons, List.not_mem_nil, false_implies, implies_true, and_true, ne_eq] at h2
        simp only [List.contains_cons, List.contains_nil, Bool.or_false, Bool.or_eq_false_iff, beq_eq_false_iff_ne, ne_eq] at h3
        simp [kstB, h2, h3]
      case hok1 =>
        refine JSt.step ht hta (ltN (by omega)) hp ?_ (by rw [hfe]; exact hz) hpz ?_
        · rw [hfe]
          exact .one ⟨d9, _, _, rfl, .head _⟩
        · rw [hfe]
          exact .inr ⟨[], _, _, rfl, rfl⟩
    · rw [seqOf_append] at hfd
      obtain ⟨us0, v, rfl, h0, hv1⟩ := hfd.snoc
      obtain ⟨va, vt, vu, rfl, hvm⟩ := hv1
      obtain ⟨lx, lb⟩ := l
      have hlz := hz (lx, lb) (List.mem_append.mpr (.inr (.head _)))
      dsimp only at hvm hlz
      have hvm' : (va, tupO [Value.int ((nx + lx) % r) vt, Value.bytes lb vu]) ∈ tl ++ news := List.mem_append.mpr (.inl hvm)
      k_with "subscriptTail" => (refine' item_last (by k_asm) (by k_mem) ?_ ?h3; (case h3 => with_unfolding_all rfl); (try dsimp only))
      k_with "setItem ref int" => (refine' set_last (by k_asm) (by k_asm) ?ku ?_; (case ku => k_upd); (intro h9 F9 N9); (try dsimp only); (try k_fold))
      k_with "binaryOp Add bytes bytes" => (refine KBy.add_bytes (by omega) ?_; intro t8 k8; (try dsimp only); (try k_fold))
      try k_fold
      k_steps
      · (with_reducible rename Fr _ _ _ _ => F8)
        (with_reducible rename News _ _ _ _ => N8)
        refine' TurnEnd.next F8 N8 (by k_mem) ?hn2 (hout l7.1) ⟨⟨us0 ++ [.ref d9], n, (d9, tupO [.int ((nx + lx) % r) vt, .bytes (lb ++ pb) t8]) :: tl, .int (px + (pb.size : Int)) ?te2⟩, rfl, ?hok2, ?hps2, ?hfr2⟩
        case hps2 => intro p hp; rw [List.mem_singleton.mp hp]; rfl
        case hn2 =>
          intro p hp
          simp only [JSt.led, List.mem_cons, List.cons_append] at hp
          rcases hp with rfl | rfl | hp <;> k_mem
        case hfr2 =>
          intro z h2 h3
          simp only [List.forall_mem_cons, List.not_mem_nil, false_implies, implies_true, and_true, ne_eq] at h2
          simp only [List.contains_cons, List.contains_nil, Bool.or_false, Bool.or_eq_false_iff, beq_eq_false_iff_ne, ne_eq] at h3
          simp [kstB, h2, h3]
        case hok2 =>
          have e0 : endOf (lx, lb) = px := by omega
          have e : jstep (A ++ [(lx, lb)]) (px, pb) = A ++ [(lx, lb ++ pb)] := jstep_eq e0
          have e2 : px + (pb.size : Int) = endOf (lx, lb ++ pb) := by
            unfold endOf at e0 ⊢
            simp only [Array.size_append] at e0 ⊢
            omega
          refine JSt.step ht hta (ltN (by omega)) hp ?_ (by rw [hfe]; exact hz) hpz ?_
          · rw [hfe, e, seqOf_append]
            exact (h0.mono fun p hp => List.mem_cons_of_mem _ hp).append (.one ⟨d9, _, _, rfl, .head _⟩)
          · rw [hfe, e]
            exact .inr ⟨A, _, _, rfl, by rw [e2]⟩
      · (with_reducible rename Fr _ _ _ _ => F8)
        (with_reducible rename News _ _ _ _ => N8)
        refine' TurnEnd.next F8 N8 (by k_mem) ?hn3 (hout l7.1) ⟨⟨us0 ++ [.ref va] ++ [.ref d9], n + 1, (d9, tupO [.int ((nx + px) % r) t9, .bytes pb pu]) :: tl, .int (px + (pb.size : Int)) ?te3⟩, rfl, ?hok3, ?hps3, ?hfr3⟩
        case hps3 => intro p hp; rw [List.mem_singleton.mp hp]; rfl
        case hn3 =>
          intro p hp
          simp only [JSt.led, List.mem_cons, List.cons_append] at hp
          rcases hp with rfl | rfl | hp <;> k_mem
        case hfr3 =>
          intro z h2 h3
          simp only [List.forall_mem_cons, List.not_mem_nil, false_implies, implies_true, and_true, ne_eq] at h2
          simp only [List.contains_cons, List.contains_nil, Bool.or_false, Bool.or_eq_false_iff, beq_eq_false_iff_ne, ne_eq] at h3
          simp [kstB, h2, h3]
        case hok3 =>
          have e : jstep (A ++ [(lx, lb)]) (px, pb) = A ++ [(lx, lb)] ++ [(px, pb)] := jstep_ne (show endOf (lx, lb) ≠ px by omega)
          refine JSt.step ht hta (ltN (by omega)) hp ?_ (by rw [hfe]; exact hz) hpz ?_
          · rw [hfe, e, seqOf_append, seqOf_append]
            exact (hfd.mono fun p hp => List.mem_cons_of_mem _ hp).append (.one ⟨d9, _, _, rfl, .head _⟩)
          · rw [hfe, e]
            exact .inr ⟨_, _, _, rfl, rfl⟩
  · rintro ⟨us, n, tl, ev⟩ u h₁ tk₁ ⟨ht, hta, hfd, hz, hev⟩ F₁ N₁
    clear F8 N8
    dsimp only [JSt.led] at N₁ ht hta hfd hev F₁
    rw [show ps.length = P.length from hP.length, List.take_length] at hfd
    try k_fold
    k_steps
    exact hret f9 _ _ _ _ _ (by k_asm) (by k_asm) l8 hta ht hfd
end
end Mine
end
section
open PySem PySem.W PyProof.Rows PySem.Spec PySem.Calls
set_option Elab.async false
set_option maxRecDepth 100000
set_option maxHeartbeats 8000000
namespace Mine
local macro_rules | `(tactic| walk_at $s:str) => `(tactic| k_extra $s)
local macro_rules | `(tactic| k_all) => `(tactic| assumption)
local macro_rules | `(tactic| k_mem) => `(tactic| first | with_reducible assumption | ktr_member | exact List.mem_cons_self .. | (refine List.mem_cons_of_mem _ ?_; k_mem) | (refine List.mem_append.mpr (.inr ?_); k_mem))
theorem mg_nilR : ∀ K : List Piece, mg K [] = K
  | [] => rfl
  | k :: K => by rw [mg_nil, mg_nilR K]
theorem mg_put {K : List Piece} {p : Piece} (h : ∀ k ∈ K, k.1 ≤ p.1) : mg K [p] = K ++ [p] := by
  have := mg_fresh (F := []) h
  rw [List.nil_append, mg_nilR] at this
  exact this
theorem upd_app {d : Addr} {o o' : Obj} {a b : List (Addr × Obj)} : ∀ {t : List (Addr × Obj)}, (∀ p ∈ t, p.1 ≠ d) → Upd d o o' a b → Upd d o o' (t ++ a) (t ++ b)
  | [], _, U => U
  | p :: t, h, U => .tail (h p (.head _)) (upd_app (fun q hq => h q (.tail _ hq)) U)
local macro_rules | `(tactic| k_upd) => `(tactic| k_extra "upd")
theorem upd_mem {d : Addr} {o o' : Obj} {a b : List (Addr × Obj)} (U : Upd d o o' a b) : (d, o) ∈ a := by
  obtain ⟨pre, post, rfl, _⟩ := U.split
  exact List.mem_append.mpr (.inr (.head _))
section
variable {w : World} {dp un : Nat} {gd : Option (List Code)} {cn : Str} {cs : Scope} {a : Addr} {ccd : Value} {cl : List (Str × Addr)} {outer : List Env} {A₀ : Around} {base h₀ : Heap} {L : Addr} {m : Str → Option Value} {s : Shared} {Q E : Value → Shared → Prop} {mean : ExcName → Option Value} {mg' mb : Str → Option Value} {news : List (Addr × Obj)}
theorem put_spec {nx r x q : Int} {u t tr k1 k2 tb : Tok} {o : Array UInt8} {sa sd l n9 : Nat} {vs : List Value} {K : List Piece} {tl : List (Addr × Obj)} {ng : Addr → List (Addr × Obj)} (B : Below A₀ base outer h₀) (F : Fr h₀ L s.heap m) (X : (hd.heap_39 w.params).In h₀) (N : News h₀ L s.heap news)
    (T : Top hd.view_39 (looseW hd.view_39 []) mean mg' mb h₀) (hk : cs.kind = .function) (hdp : dp + 8 < recursionLimit) (hun : un + 100 < cLine)
    (hS : (sa, instObj 134 sd) ∈ news) (U : ∀ l', Upd sd (selfDict w.params k1 k2 r tr l 2) (selfDict w.params k1 k2 r tr l' 2) news (ng l')) (hL : (l, listOf vs.toArray n9) ∈ news) (hP : Pcs tl vs (seqOf nx r K)) (hs : ∀ p ∈ tl, p ∈ news)
    (hr : 0 < r) (hr2 : r ≤ 2 ^ 32) (hK : GoodK r K) (hx0 : 0 ≤ x) (hx2 : 2 * x ≤ r) (ho : 0 < o.size) (ho2 : o.size ≤ 1000) (hend : ∀ p ∈ K, endOf p ≤ x) (hsz : ∀ p ∈ K, p.2.size ≤ 1000) (hsep : Sep K) (hlen : K.length ≤ 100) (hq : q = (nx + x) % r)
    (hret : ∀ l' vs' n' tl' h' tk', Fr h₀ L h' m → News h₀ L h' ((l', listOf vs'.toArray n') :: (tl' ++ ng l')) → (∀ p ∈ news, p.1 < l') → AllTup tl' → (∀ p ∈ tl', ∀ q ∈ news, q.1 < p.1) → (∀ p ∈ tl', p.1 ≠ l') → Pcs tl' vs' (seqOf nx r (jstep K (x, o))) → Q .none { s with heap := h', toks := tk' }) :
    wpAny (model PySem.Challenge.rw_xw0330_01.row.prog w) (ktrTop dp un gd cn cs L a ccd cl outer) (call (.ref 82) [.ref sa, .int q t, .bytes o tb, .int nx u]) Q E s := by
  have hD := upd_mem (U 0)
  have hend' : ∀ p ∈ K, p.1 + (p.2.size : Int) ≤ x := hend
  have hx1 : x ≤ 2 ^ 32 := by omega
  w_top off
  k_with_none
  k_with "call ref" => (refine' forget_spec (by k_asm) (by k_asm) (by k_asm) (by k_asm) (by k_asm) (by first | exact rfl | assumption) ?kd ?ku (by k_mem) (by k_mem) (by k_mem) hP hs hr hr2 hK ?_; (case kd => ktr_room); (case ku => ktr_units); intro h9 tk9 F9 N9; (try dsimp only); (try k_fold))
  k_with "call ref" => (refine' offset_spec (by k_asm) (by k_asm) (by k_asm) (by k_asm) (by k_asm) (by first | exact rfl | assumption) ?kd ?ku (by k_mem) (by k_mem) hr hr2 hx0 hx2 hq ?_; (case kd => ktr_room); (case ku => ktr_units); intro t9 h9 tk9 F9 N9; (try dsimp only); (try k_fold))
  k_with "call ref" => (refine' missing_spec (by k_asm) (by k_asm) (by k_asm) (by k_asm) (by k_asm) (by first | exact rfl | assumption) ?kd ?ku (by k_mem) (by k_mem) (by k_mem) hP hs hr hr2 hK hx0 hx1 ho ho2 hend' hsz ?_; (case kd => ktr_room); (case ku => ktr_units); intro f8 T8 t8 u8 n8 h9 tk9 F9 N9 l8 l7; (replace l7 := ltN l7); (try dsimp only); (try k_fold))
  have hle : ∀ k ∈ K, k.1 ≤ x := fun k hk => by have := hend' k hk; omega
  have hl2 : K.length + [(x, o)].length ≤ 1000 := by simp only [List.length_singleton]; omega
  have hl3 : (K ++ [(x, o)]).length ≤ 1000 := by rw [List.length_append]; exact hl2
  have hz3 : ∀ p ∈ K ++ [(x, o)], p.2.size ≤ 1000 := by
    intro p hp
    rcases List.mem_append.mp hp with hp | hp
    · exact hsz p hp
    · rw [List.mem_singleton.mp hp]; exact ho2
  k_with "call ref" => (refine' merged_spec (K := K) (R := [(x, o)]) (by k_asm) (by k_asm) (by k_asm) (by k_asm) (by k_asm) (by first | exact rfl | assumption) ?kd ?ku (by k_mem) (by k_mem) (by k_mem) (hP.mono ?hm1) (by k_mem) (.one ⟨T8, t8, u8, rfl, ?hm2⟩) hr hr2 hK hl2 ?_; (case kd => ktr_room); (case ku => ktr_units); (case hm1 => (intro p hp; (have hp := hs p hp); k_mem)); (case hm2 => k_mem); intro M8 us8 m8 tl8 h9 tk9 F9 N9 lM hta8 lt8 hP8; (rw [mg_put hle] at hP8); (try dsimp only); (try k_fold))
  k_with "call ref" => (refine' joined_spec (P := K ++ [(x, o)]) (by k_asm) (by k_asm) (by k_asm) (by k_asm) (by k_asm) (by first | exact rfl | assumption) ?kd ?ku (by k_mem) (by k_mem) (by k_mem) (hP8.mono ?hm1) hr hr2 hl3 hz3 ?_; (case kd => ktr_room); (case ku => ktr_units); (case hm1 => (intro p hp; exact List.mem_cons_of_mem _ hp)); intro J8 vs8 n9 tlJ h9 tk9 F9 N9 lJ htaJ ltJ hPJ; (rw [jf_put hsep] at hPJ); (try dsimp only); (try k_fold))
  k_with "newList" => (refine' list_L (by k_asm) (by k_asm) (by decide) ?_; intro e8 h9 F9 N9 l9; (try dsimp only); (try k_fold))
  k_with "compareOp NotEq ref ref" => (refine' nn_cons (by k_asm) (by k_mem) (by k_mem) ?ku ?_; (case ku => ktr_units); (try dsimp only))
  k_with "upd" => exact .tail (Nat.ne_of_gt (lJ (sd, _) (by k_mem))) (upd_app (fun p hp => Nat.ne_of_gt (Nat.lt_trans (lJ (sd, _) (by k_mem)) (ltJ p hp))) (.tail (Nat.ne_of_gt (lM (sd, _) (by k_mem))) (upd_app (fun p hp => Nat.ne_of_gt (lt8 p hp (sd, _) (by k_mem))) (.tail (Nat.ne_of_gt (l9 (sd, _) (by k_mem))) (.tail (Nat.ne_of_gt (l8 (sd, _) hD)) (.tail (Nat.ne_of_gt (Nat.lt_trans (l8 (sd, _) hD) l7)) (U J8)))))))
  revert X; k_fill; intro X
  refine wpAny_call ?_
  k_dflt ktr_enter
  k_steps
  (with_reducible rename News _ _ _ _ => N8)
  have hin : ∀ q ∈ news, q.1 < J8 := fun q hq => lJ q (by k_mem)
  refine hret J8 vs8 n9 tlJ _ _ (by k_asm) (news_sub N8 fun p hp => ?_) hin htaJ (fun p hp q hq => Nat.lt_trans (hin q hq) (ltJ p hp)) (fun p hp => Nat.ne_of_gt (ltJ p hp)) hPJ
  rcases List.mem_cons.mp hp with rfl | hp
  · k_mem
  · rcases List.mem_append.mp hp with hp | hp
    · exact List.mem_cons_of_mem _ (List.mem_append.mpr (.inl hp))
    · k_mem
end
end Mine
end
section
open PySem PySem.W PyProof.Rows PySem.Spec PySem.Calls
set_option Elab.async false
set_option maxRecDepth 100000
set_option maxHeartbeats 8000000
namespace Mine
local macro_rules | `(tactic| walk_at $s:str) => `(tactic| k_extra $s)
local macro_rules | `(tactic| k_all) => `(tactic| assumption)
local macro_rules | `(tactic| k_mem) => `(tactic| first | with_reducible assumption | ktr_member | exact List.mem_cons_self .. | (refine List.mem_cons_of_mem _ ?_; k_mem) | (refine List.mem_append.mpr (.inr ?_); k_mem) | k_extra "mem")
local macro_rules | `(tactic| k_upd) => `(tactic| k_extra "upd")
abbrev srcO (a : Int) (ta : Tok) (b : Int) (tb : Tok) (n : Nat) : Obj := listOf [.int a ta, .int b tb].toArray n
theorem upd_mem' {d : Addr} {o o' : Obj} {a b : List (Addr × Obj)} (U : Upd d o o' a b) : (d, o') ∈ b := by
  obtain ⟨pre, post, _, rfl, _⟩ := U.split
  exact List.mem_append.mpr (.inr (.head _))
section
variable {prog : Program} {w : World} {A : Around} {E : Value → Shared → Prop} {s : Shared} {h₀ : Heap} {L : Addr} {news : List (Addr × Obj)}
theorem set0 {D : Addr} {m : Str → Option Value} {news' : List (Addr × Obj)} {n : Nat} {v y x : Value} {u : Tok} {Q : Unit → Shared → Prop} (F : Fr h₀ L s.heap m) (N : News h₀ L s.heap news) (U : Upd D (listOf [v, y].toArray n) (listOf [x, y].toArray n) news news')
    (h : ∀ h', Fr h₀ L h' m → News h₀ L h' news' → Q () { s with heap := h' }) : wpAny (model prog w) A (setItem (.ref D) (.int 0 u) x) Q E s :=
  ki_set F N (by decide) (by decide) rfl U h
theorem set1 {D : Addr} {m : Str → Option Value} {news' : List (Addr × Obj)} {n : Nat} {v y x : Value} {u : Tok} {Q : Unit → Shared → Prop} (F : Fr h₀ L s.heap m) (N : News h₀ L s.heap news) (U : Upd D (listOf [y, v].toArray n) (listOf [y, x].toArray n) news news')
    (h : ∀ h', Fr h₀ L h' m → News h₀ L h' news' → Q () { s with heap := h' }) : wpAny (model prog w) A (setItem (.ref D) (.int 1 u) x) Q E s :=
  ki_set F N (by decide) (by decide) rfl U h
end
section
variable {w : World} {dp un : Nat} {gd : Option (List Code)} {cn : Str} {cs : Scope} {a : Addr} {ccd : Value} {cl : List (Str × Addr)} {outer : List Env} {A₀ : Around} {base h₀ : Heap} {L : Addr} {m : Str → Option Value} {s : Shared} {Q E : Value → Shared → Prop} {mean : ExcName → Option Value} {mg' mb : Str → Option Value} {news : List (Addr × Obj)}
theorem take_spec {c b top : Int} {ta tb tt : Tok} {S n : Nat} {ng : Obj → List (Addr × Obj)} (B : Below A₀ base outer h₀) (F : Fr h₀ L s.heap m) (X : (hd.heap_39 w.params).In h₀) (N : News h₀ L s.heap news)
    (T : Top hd.view_39 (looseW hd.view_39 []) mean mg' mb h₀) (hk : cs.kind = .function) (hdp : dp + 1 < recursionLimit) (hun : un + 8 < cLine)
    (U : ∀ o', Upd S (srcO c ta b tb n) o' news (ng o')) (hc : 0 ≤ c) (hb : 0 ≤ b) (hb2 : b < 2147483647) (ht : 0 < top) (ht2 : top ≤ 1000)
    (hret : ∀ d t c' ta' b' tb' h' tk', 0 ≤ d → d < top → 0 ≤ c' → 0 ≤ b' → b' < 2147483647 → Fr h₀ L h' m → News h₀ L h' (ng (srcO c' ta' b' tb' n)) → Q (.int d t) { s with heap := h', toks := tk' }) :
    wpAny (model PySem.Challenge.rw_xw0330_01.row.prog w) (ktrTop dp un gd cn cs L a ccd cl outer) (call (.ref 152) [.ref S, .int top tt]) Q E s := by
  have hm0 := upd_mem (U (srcO c ta b tb n))
  have hm1 : ∀ o', (S, o') ∈ ng o' := fun o' => upd_mem' (U o')
  w_top off
  k_with_none
  k_with "upd" => exact U _
  k_with "mem" => exact hm1 _
  k_with "setItem ref int" => (refine' set0 (by k_asm) (by k_asm) ?ku ?_; (case ku => k_upd); (intro h9 F9 N9); (try dsimp only); (try k_fold))
  k_with "setItem ref int" => (refine' set1 (by k_asm) (by k_asm) ?ku ?_; (case ku => k_upd); (intro h9 F9 N9); (try dsimp only); (try k_fold))
  k_with "subscriptTail" => (refine' item_list (by k_asm) (by k_mem) ?h0 ?h1 ?h2 ?_ ?h3; (case h0 => decide); (case h1 => decide); (case h2 => exact rfl); (case h3 => with_unfolding_all rfl); (try dsimp only))
  revert X; k_fill; intro X
  refine wpAny_call ?_
  k_dflt ktr_enter
  k_steps
  · refine' hret _ _ ?c ?ta ?b ?tb _ _ (Int.fmod_nonneg_of_pos _ ht) (Int.fmod_lt_of_pos _ ht) ?h1 ?h2 ?h3 (by k_asm) ?hN
    case hN => assumption
    · exact Int.fdiv_nonneg hc (Int.le_of_lt ht)
    · exact hb
    · exact hb2
  · refine' hret _ _ ?c2 ?ta2 ?b2 ?tb2 _ _ (Int.fmod_nonneg_of_pos _ ht) (Int.fmod_lt_of_pos _ ht) ?h4 ?h5 ?h6 (by k_asm) ?hN2
    case hN2 => assumption
    · exact hc
    · exact Int.fmod_nonneg_of_pos _ (by decide)
    · exact Int.fmod_lt_of_pos _ (by decide)
theorem one_spec {c b g0 g1 : Int} {ta tb t0 t1 : Tok} {S n th n2 : Nat} {ng : Obj → List (Addr × Obj)} (B : Below A₀ base outer h₀) (F : Fr h₀ L s.heap m) (X : (hd.heap_39 w.params).In h₀) (N : News h₀ L s.heap news)
    (T : Top hd.view_39 (looseW hd.view_39 []) mean mg' mb h₀) (hk : cs.kind = .function) (hdp : dp + 2 < recursionLimit) (hun : un + 16 < cLine)
    (U : ∀ o', Upd S (srcO c ta b tb n) o' news (ng o')) (hth : (th, listOf [.int g0 t0, .int g1 t1].toArray n2) ∈ news) (hne : ∀ o', (th, listOf [.int g0 t0, .int g1 t1].toArray n2) ∈ ng o') (hc : 0 ≤ c) (hb : 0 ≤ b) (hb2 : b < 2147483647)
    (hret : ∀ d t c' ta' b' tb' h' tk', (d = g0 ∨ d = g1) → 0 ≤ c' → 0 ≤ b' → b' < 2147483647 → Fr h₀ L h' m → News h₀ L h' (ng (srcO c' ta' b' tb' n)) → Q (.int d t) { s with heap := h', toks := tk' }) :
    wpAny (model PySem.Challenge.rw_xw0330_01.row.prog w) (ktrTop dp un gd cn cs L a ccd cl outer) (call (.ref 159) [.ref S, .ref th]) Q E s := by
  k_with_none
  k_with "upd" => exact U _
  k_with "mem" => exact hne _
  k_with "call ref" => (refine' take_spec (by k_asm) (by k_asm) (by k_asm) (by k_asm) (by k_asm) (by first | exact rfl | assumption) ?kd ?ku U hc hb hb2 (by decide) (by decide) ?_; (case kd => ktr_room); (case ku => ktr_units); intro d9 t9 c9 ta9 b9 tb9 h9 tk9 hd0 hd1 hc9 hb9 hb99 F9 N9; (have hd2 : d9 < 2 := hd1); (have hd3 : d9 = 0 ∨ d9 = 1 := by omega); (clear hd1 hd2 hd0); (rcases hd3 with rfl | rfl) <;> ((try dsimp only); (try k_fold)))
  k_with "subscriptTail" => (refine' item_list (by k_asm) (by k_mem) ?h0 ?h1 ?h2 ?_ ?h3; (case h0 => decide); (case h1 => decide); (case h2 => exact rfl); (case h3 => with_unfolding_all rfl); (try dsimp only))
  revert X; k_fill; intro X
  refine wpAny_call ?_
  k_dflt ktr_enter
  k_steps
  · exact hret _ _ c9 ta9 b9 tb9 _ _ (.inl rfl) hc9 hb9 hb99 (by k_asm) (by assumption)
  · exact hret _ _ c9 ta9 b9 tb9 _ _ (.inr rfl) hc9 hb9 hb99 (by k_asm) (by assumption)
end
end Mine
end
section
set_option Elab.async false
namespace Mine
structure LI (i : Nat) (here : Int) (K F : List Piece) : Prop where
  h0 : 0 ≤ here
  h1 : here ≤ 2 + 6 * (i : Int)
  kl : K.length ≤ i
  fl : F.length ≤ i
  kz : ∀ p ∈ K, p.2.size ≤ 4 * i
  fz : ∀ p ∈ F, p.2.size ≤ 4 * i
  kp : ∀ p ∈ K, 0 ≤ p.1 ∧ 0 < p.2.size ∧ endOf p ≤ here
  fp : ∀ p ∈ F, 0 ≤ p.1 ∧ 0 < p.2.size ∧ endOf p ≤ here
  sep : Sep K
  ap : ∀ k ∈ K, ∀ f ∈ F, endOf f ≤ k.1 ∨ endOf k ≤ f.1
variable {i : Nat} {here d : Int} {K F A : List Piece} {o : Array UInt8} {l : Piece}
theorem LI.start (h : 0 ≤ d) (h2 : d < 3) : LI 0 d [] [] :=
  ⟨h, by omega, Nat.le_refl _, Nat.le_refl _, fun _ h => (nomatch h), fun _ h => (nomatch h), fun _ h => (nomatch h), fun _ h => (nomatch h), List.Pairwise.nil, fun _ h => (nomatch h)⟩
theorem endOf_mk (x : Int) (b : Array UInt8) : endOf (x, b) = x + (b.size : Int) := rfl
theorem LI.fresh (h : LI i here K F) (hd : 0 ≤ d) (hd2 : d < 3) (ho : 0 < o.size) (ho2 : o.size ≤ 4) : LI (i + 1) (here + d + (o.size : Int)) K (F ++ [(here + d, o)]) := by
  refine ⟨by have := h.h0; omega, by have := h.h1; omega, by have := h.kl; omega, by have := h.fl; simp only [List.length_append, List.length_singleton]; omega, fun p hp => by have := h.kz p hp; omega, fun p hp => ?_, fun p hp => ?_, fun p hp => ?_, h.sep, fun k hk f hf => ?_⟩
  · rcases List.mem_append.mp hp with hp | hp
    · have := h.fz p hp; omega
    · rw [List.mem_singleton.mp hp]; show o.size ≤ _; omega
  · obtain ⟨a, b, e⟩ := h.kp p hp
    exact ⟨a, b, by omega⟩
  · rcases List.mem_append.mp hp with hp | hp
    · obtain ⟨a, b, e⟩ := h.fp p hp
      exact ⟨a, b, by omega⟩
    · rw [List.mem_singleton.mp hp]
      have := h.h0
      exact ⟨by show 0 ≤ here + d; omega, ho, by rw [endOf_mk]; omega⟩
  · rcases List.mem_append.mp hf with hf | hf
    · exact h.ap k hk f hf
    · rw [List.mem_singleton.mp hf]
      exact .inr (by have := (h.kp k hk).2.2; show endOf k ≤ here + d; omega)
theorem LI.mg_fresh (h : LI i here K F) (hd : 0 ≤ d) : mg K (F ++ [(here + d, o)]) = mg K F ++ [(here + d, o)] :=
  Mine.mg_fresh fun k hk => by
    have := (h.kp k hk).2.2
    unfold endOf at this
    show k.1 ≤ here + d
    omega
theorem LI.end_le (h : LI i here K F) (hd : 0 ≤ d) : ∀ k ∈ K, endOf k ≤ here + d := fun k hk => by have := (h.kp k hk).2.2; omega
theorem LI.mg_kept (h : LI i here K F) (hd : 0 ≤ d) : mg (K ++ [(here + d, o)]) F = mg K F ++ [(here + d, o)] :=
  Mine.mg_kept fun f hf => by
    obtain ⟨_, b, e⟩ := h.fp f hf
    unfold endOf at e
    show f.1 < here + d
    omega
theorem LI.before (h : LI i here (A ++ [l]) F) (hd : 0 ≤ d) (he : endOf l = here + d) : ∀ f ∈ F, f.1 < l.1 := fun f hf => by
  have hl : l ∈ A ++ [l] := List.mem_append.mpr (.inr (.head _))
  obtain ⟨_, b, e⟩ := h.fp f hf
  obtain ⟨_, b2, e2⟩ := h.kp l hl
  rcases h.ap l hl f hf with q | q
  · unfold endOf at *; omega
  · unfold endOf at *; omega
theorem LI.mg_last (h : LI i here (A ++ [l]) F) (hd : 0 ≤ d) (he : endOf l = here + d) : mg (A ++ [l]) F = mg A F ++ [l] ∧ mg (A ++ [(l.1, l.2 ++ o)]) F = mg A F ++ [(l.1, l.2 ++ o)] :=
  ⟨Mine.mg_kept (h.before hd he), Mine.mg_kept (h.before hd he)⟩
theorem LI.kept (h : LI i here K F) (hd : 0 ≤ d) (hd2 : d < 3) (ho : 0 < o.size) (ho2 : o.size ≤ 4) : LI (i + 1) (here + d + (o.size : Int)) (jstep K (here + d, o)) F := by
  have hh0 := h.h0
  refine ⟨by omega, by have := h.h1; omega, by have := h.kl; have := jstep_length K (here + d, o); omega, by have := h.fl; omega, fun p hp => ?_, fun p hp => by have := h.fz p hp; omega, fun p hp => ?_, fun p hp => ?_, sep_put h.sep (h.end_le hd), fun k hk f hf => ?_⟩
  · have := jstep_size h.kz p hp
    have e : ((here + d, o) : Piece).2.size = o.size := rfl
    omega
  · rcases jstep_mem hp with hp | rfl | ⟨l, hl, he, rfl⟩
    · obtain ⟨a, b, e⟩ := h.kp p hp
      exact ⟨a, b, by omega⟩
    · exact ⟨by show 0 ≤ here + d; omega, ho, by rw [endOf_mk]; omega⟩
    · obtain ⟨a, b, e⟩ := h.kp l hl
      refine ⟨a, by show 0 < (l.2 ++ o).size; rw [Array.size_append]; omega, ?_⟩
      have he' : endOf l = here + d := he
      unfold endOf at he' ⊢
      show l.1 + (((l.2 ++ o).size : Nat) : Int) ≤ _
      rw [Array.size_append]
      omega
  · obtain ⟨a, b, e⟩ := h.fp p hp
    exact ⟨a, b, by omega⟩
  · obtain ⟨_, b, e⟩ := h.fp f hf
    rcases jstep_mem hk with hk | rfl | ⟨l, hl, he, rfl⟩
    · exact h.ap k hk f hf
    · exact .inl (by show endOf f ≤ here + d; omega)
    · rcases h.ap l hl f hf with q | q
      · exact .inl q
      · have he' : endOf l = here + d := he
        unfold endOf at *
        omega
end Mine
end
section
open PySem PySem.W PyProof.Rows PySem.Spec PySem.Calls
set_option Elab.async false
set_option maxRecDepth 100000
set_option maxHeartbeats 4000000
namespace Mine
theorem Hold.out {P : Prop} (h : Hold P) : P := h
section
variable {prog : Program} {w : World} {A : Around} {E : Value → Shared → Prop} {s : Shared} {h₀ : Heap} {L : Addr} {news : List (Addr × Obj)} {m : Str → Option Value}
theorem rep_ints (x : Int) (t : Tok) : ∀ k : Nat, IntsAre (List.replicate k [Value.int x t]).flatten (List.replicate k x)
  | 0 => .nil
  | k + 1 => by
    rw [List.replicate_succ, List.replicate_succ, List.flatten_cons]
    exact .cons x t (rep_ints x t k)
theorem bytes_rep {D n k : Nat} {x : Int} {t : Tok} {Q : Value → Shared → Prop} (F : Fr h₀ L s.heap m) (N : News h₀ L s.heap news) (hm : (D, listOf (List.replicate k [Value.int x t]).flatten.toArray n) ∈ news) (hh : A.handled = none) (hx : 0 ≤ x) (hx2 : x < 256) (hk : k ≤ 1000)
    (h : ∀ b t' h' tk', b.size = k → Fr h₀ L h' m → News h₀ L h' news → Q (.bytes b t') { s with heap := h', toks := tk' }) : wpAny (model prog w) A (call (.type "bytes") [.ref D]) Q E s :=
  KBa.make_K F N hh ⟨_, (N _ hm).1, rfl, n, rfl⟩ (rep_ints x t k) (fun y hy => by rw [List.eq_of_mem_replicate hy]; exact ⟨hx, hx2⟩) (by rw [List.length_replicate]; omega)
    fun h' t' k' F' N' _ => h _ _ _ _ (by rw [byteArr_size, List.length_replicate]) F' N'
theorem tup_item0 {value slice : PySem.Expr} {x : Addr} {a b : Value} {u : Tok} {Q : Value → Shared → Prop} (N : News h₀ L s.heap news) (hm : (x, tupO [a, b]) ∈ news) (h : Q a s)
    (hs : subscripted slice false (.ref x) (.int 0 u) = operate [.ref x, .int 0 u] (getItem (.ref x) (.int 0 u)) := by with_unfolding_all rfl) :
    wpAny (model prog w) A (subscriptTail value slice (.ref x) (.int 0 u)) Q E s :=
  item_tupleT (j := 0) (l := [a, b]) (News.isTup N hm) (by decide) (by decide) rfl rfl h hs
theorem tup_item1 {value slice : PySem.Expr} {x : Addr} {a b : Value} {u : Tok} {Q : Value → Shared → Prop} (N : News h₀ L s.heap news) (hm : (x, tupO [a, b]) ∈ news) (h : Q b s)
    (hs : subscripted slice false (.ref x) (.int 1 u) = operate [.ref x, .int 1 u] (getItem (.ref x) (.int 1 u)) := by with_unfolding_all rfl) :
    wpAny (model prog w) A (subscriptTail value slice (.ref x) (.int 1 u)) Q E s :=
  item_tupleT (j := 1) (l := [a, b]) (News.isTup N hm) (by decide) (by decide) rfl rfl h hs
theorem eqI_true {a b : Int} {t u : Tok} {Q : Value → Shared → Prop} (e : a = b) (h : Q (.bool true) s) : wpAny (model prog w) A (compareOp .Eq (.int a t) (.int b u)) Q E s := PyProof.Rows.eq_int (by simpa [e] using h)
theorem eqI_false {a b : Int} {t u : Tok} {Q : Value → Shared → Prop} (e : a ≠ b) (h : Q (.bool false) s) : wpAny (model prog w) A (compareOp .Eq (.int a t) (.int b u)) Q E s := PyProof.Rows.eq_int (by rw [beq_eq_false_iff_ne.mpr e]; exact h)
theorem nn_snoc {a b : Addr} {x : Value} {xs : List Value} {n k : Nat} {Q : Value → Shared → Prop} (N : News h₀ L s.heap news) (ha : (a, listOf (xs ++ [x]).toArray n) ∈ news) (hb : (b, listOf [].toArray k) ∈ news)
    (hu : A.units + 8 < cLine) (h : Q (.bool true) s) : wpAny (model prog w) A (compareOp .NotEq (.ref a) (.ref b)) Q E s := ne_nil N ha hb hu (by simpa using h)
end
theorem news_put {h₀ h : Heap} {L : Addr} {J t1 t2 t3 a0 a1 a2 a3 a4 a5 a6 a7 a8 a9 : Addr × Obj} {tJ tl news : List (Addr × Obj)} (N : News h₀ L h (J :: (tJ ++ (t1 :: t2 :: t3 :: a0 :: a1 :: a2 :: a3 :: a4 :: a5 :: a6 :: a7 :: a8 :: a9 :: (tl ++ news))))) :
    News h₀ L h (J :: a0 :: a1 :: a2 :: a3 :: a4 :: a5 :: a6 :: a7 :: a8 :: a9 :: ((tJ ++ tl) ++ news)) := by
  refine fun p hp => N p ?_
  simp only [List.mem_cons, List.mem_append, or_assoc] at hp ⊢
  rcases hp with h | h | h | h | h | h | h | h | h | h | h | h | h | h <;> simp only [h, true_or, or_true]
theorem small7 {d : Int} (h : 0 ≤ d) (h2 : d < 7) : Builtin.Range.small 0 d 1 = true := by
  have e : d = 0 ∨ d = 1 ∨ d = 2 ∨ d = 3 ∨ d = 4 ∨ d = 5 ∨ d = 6 := by omega
  rcases e with rfl | rfl | rfl | rfl | rfl | rfl | rfl <;> decide
theorem size7 {d : Int} (h : 0 ≤ d) (h2 : d < 7) : Builtin.Range.rangeSize 0 d 1 = (d.toNat : Int) := by
  have e : d = 0 ∨ d = 1 ∨ d = 2 ∨ d = 3 ∨ d = 4 ∨ d = 5 ∨ d = 6 := by omega
  rcases e with rfl | rfl | rfl | rfl | rfl | rfl | rfl <;> decide
structure RSt where
  c : Int
  ta : Tok
  b : Int
  tb : Tok
  here : Int
  th : Tok
  pl : Addr
  pvs : List Value
  pn : Nat
  kvs : List Value
  kn : Nat
  fvs : List Value
  fn : Nat
  dvs : List Value
  dn : Nat
  tl : List (Addr × Obj)
abbrev rled (P : Params) (k1 k2 tr : Tok) (r : Int) (n : Nat) (S xA dA lC lD lE cR cW : Addr) (oR oW : Obj) (news : List (Addr × Obj)) (z : RSt) : List (Addr × Obj) :=
  (S, srcO z.c z.ta z.b z.tb n) :: (xA, instObj 134 dA) :: (dA, selfDict P k1 k2 r tr z.pl 2) :: (z.pl, listOf z.pvs.toArray z.pn) :: (lC, listOf z.kvs.toArray z.kn) :: (lD, listOf z.fvs.toArray z.fn) :: (lE, listOf z.dvs.toArray z.dn) :: (cW, oW) :: (cR, oR) :: (z.tl ++ news)
def RSt.ok (aw r : Int) (lB lE : Addr) (i : Nat) (z : RSt) : Prop :=
  0 ≤ z.c ∧ 0 ≤ z.b ∧ z.b < 2147483647 ∧ (@Eq Nat z.pl lB ∨ @LT.lt Nat _ lE z.pl) ∧ AllTup z.tl ∧ (∀ p ∈ z.tl, @LT.lt Nat _ lE p.1) ∧
  ∃ K F, LI i z.here K F ∧ Pcs z.tl z.pvs (seqOf aw r K) ∧ Pcs z.tl z.kvs K ∧ Pcs z.tl z.fvs F ∧ Pcs z.tl z.dvs (mg K F)
end Mine
end
section
open PySem PySem.W PyProof.Rows PySem.Spec PySem.Calls PyProof.Rows.LCg
set_option Elab.async false
set_option maxRecDepth 100000
set_option maxHeartbeats 4000000
namespace Mine
theorem comp_loop {prog : Program} {w : World} {A : Around} {h₀ : Heap} {L : Addr} {m : Str → Option Value} {env : Env} {elt : PySem.Expr} {x x₂ : Str} {scope : Scope} {cl : List (Str × Addr)} {s : Shared} {S : List (Addr × Obj) → Prop} {Fin : List Value → List (Addr × Obj) → Prop}
    {vs : List Value} {K : List Piece} {tl base : List (Addr × Obj)} (f : Piece → Piece) (hP : Pcs tl vs K) (hs : ∀ p ∈ tl, p ∈ base)
    (turn : ∀ (px : Int) (pb : Array UInt8) (t u : Tok) (tq : List (Addr × Obj)) (I : Addr) (oI : Obj) (C : Addr) (oC : Obj) (D : Addr) (ys : List Value) (m₂ : Str → Option Value) (h : Heap) (tk : Nat) (E' : Value → Shared → Prop) (rest : Value → List (Addr × Obj) → Prop),
      NsObj oC m₂ → m₂ x = some (.int px t) → m₂ x₂ = some (.bytes pb u) → Fr h₀ L h m → News h₀ L h ((I, oI) :: (C, oC) :: (D, LCg.lst ys) :: (tq ++ base)) → Off3 I C D (tq ++ base) → ((@Ne Nat I C) ∧ (@Ne Nat I D) ∧ (@Ne Nat C D)) →
      (∀ d t' u', rest (.ref d) ((d, tupO [.int (f (px, pb)).1 t', .bytes (f (px, pb)).2 u']) :: (tq ++ base))) →
      wpAny (model prog w) A (eval elt (compEnvC scope cl C env)) (CompEnd h₀ L m { s with heap := h, toks := tk } I oI C oC D (LCg.lst ys) S rest) E' { s with heap := h, toks := tk })
    (fin : ∀ ys tq, Pcs tq ys (K.map f) → Fin ys (tq ++ base)) :
    LCp.CompRestP prog w A h₀ L m env elt x x₂ scope cl s S (fun i v => vs.toArray[i]? = some v) Fin vs.toArray.size 0 [] base := by
  have main : ∀ (k i : Nat) (ys : List Value) (tq : List (Addr × Obj)), i + k = vs.length → Pcs tq ys ((K.take i).map f) →
      LCp.CompRestP prog w A h₀ L m env elt x x₂ scope cl s S (fun i v => vs.toArray[i]? = some v) Fin k i ys (tq ++ base) := by
    intro k
    induction k with
    | zero =>
      intro i ys tq hi hq
      refine LCp.CompRestP.zero (fin ys tq ?_)
      rw [show i = K.length by have := hP.length; omega, List.take_length] at hq
      exact hq
    | succ k ih =>
      intro i ys tq hi hq
      refine LCp.CompRestP.succ fun v hv => ?_
      obtain ⟨p, hp, a, t, u, rfl, hm⟩ := hP.get (show vs[i]? = some v by simpa using hv)
      refine ⟨a, _, _, _, _, rfl, List.mem_append.mpr (.inr (hs _ hm)), rfl, rfl, ?_⟩
      intro I oI C oC D m₂ h tk E' hC hx hy F N off ne
      refine turn p.1 p.2 t u tq I oI C oC D ys m₂ h tk E' _ hC hx hy F N off ne fun d t' u' => ?_
      refine ih (i + 1) (ys ++ [.ref d]) ((d, _) :: tq) (by omega) ?_
      rw [List.take_add_one, hp, List.map_append]
      exact (hq.mono fun p hp => .tail _ hp).append (.one ⟨d, t', u', rfl, .head _⟩)
  have := main vs.length 0 [] [] (by omega) .nil
  simpa using this
end Mine
end
section
open PySem PySem.W PyProof.Rows PySem.Spec PySem.Calls
set_option Elab.async false
set_option maxRecDepth 100000
set_option maxHeartbeats 8000000
namespace Mine
local macro_rules | `(tactic| walk_at $s:str) => `(tactic| k_extra $s)
local macro_rules | `(tactic| k_all) => `(tactic| first | with_reducible assumption | k_extra "all")
theorem un2 {a b c l : Nat} (h : a + c < l) (e : b ≤ c) : a + b < l := by omega
theorem un3 {a b c d l : Nat} (h : a + c < l) (e : d + b ≤ c) : a + d + b < l := by omega
theorem un4 {a b c d f l : Nat} (h : a + c < l) (e : d + f + b ≤ c) : a + d + f + b < l := by omega
theorem pl_ne {pl lB lE : Nat} (h : pl = lB ∨ lE < pl) (X : Nat) (h1 : X ≠ lB) (h2 : X ≤ lE) : X ≠ pl := by omega
local macro_rules | `(tactic| k_ne) => `(tactic| first | with_reducible assumption | (with_reducible refine Ne.symm ?_; with_reducible assumption) | (refine neN ?_; (try dsimp only); first | with_reducible assumption | (with_reducible refine Ne.symm ?_; with_reducible assumption) | omega))
local macro_rules | `(tactic| ktr_room) => `(tactic| ((try simp only [depth_under_make, depth_under_kw, depth_in1, depth_deeper, depth_caller]); (try dsimp only [ktrTop]); first | exact un2 (by assumption) (by decide) | exact un3 (by assumption) (by decide) | exact un4 (by assumption) (by decide) | omega))
local macro_rules | `(tactic| ktr_units) => `(tactic| ((try simp only [units_in1, units_deeper, Around.mark_units, units_caller]); (try dsimp only [ktrTop]); first | exact un2 (by assumption) (by decide) | exact un3 (by assumption) (by decide) | exact un4 (by assumption) (by decide) | omega))
local macro_rules | `(tactic| k_room) => `(tactic| ktr_room)
local macro_rules | `(tactic| k_mem) => `(tactic| k_extra "memR")
section
variable {w : World} {dp un : Nat} {gd : Option (List Code)} {cn : Str} {cs : Scope} {a : Addr} {ccd : Value} {cl : List (Str × Addr)} {outer : List Env} {A₀ : Around} {base h₀ : Heap} {L : Addr} {m : Str → Option Value} {s : Shared} {Q E : Value → Shared → Prop} {mean : ExcName → Option Value} {mg' mb : Str → Option Value} {news : List (Addr × Obj)}
theorem row_spec {c b : Int} {ta tb : Tok} {S n : Nat} (B : Below A₀ base outer h₀) (F : Fr h₀ L s.heap m) (X : (hd.heap_39 w.params).In h₀) (N : News h₀ L s.heap ((S, srcO c ta b tb n) :: news))
    (T : Top hd.view_39 (looseW hd.view_39 []) mean mg' mb h₀) (hk : cs.kind = .function) (hdp : dp + 20 < recursionLimit) (hun : un + 200 < cLine)
    (hoS : ∀ p ∈ news, p.1 ≠ S) (hc : 0 ≤ c) (hb : 0 ≤ b) (hb2 : b < 2147483647)
    (hret : ∀ c' ta' b' tb' h' tk', 0 ≤ c' → 0 ≤ b' → b' < 2147483647 → Fr h₀ L h' m → News h₀ L h' ((S, srcO c' ta' b' tb' n) :: news) → Q (.bool true) { s with heap := h', toks := tk' }) :
    wpAny (model PySem.Challenge.rw_xw0330_01.row.prog w) (ktrTop dp un gd cn cs L a ccd cl outer) (call (.ref 164) [.ref S]) Q E s := by
  w_top off
  k_with_none
  k_with "memR" => first | with_reducible assumption | ktr_member | exact List.mem_cons_self .. | (refine List.mem_cons_of_mem _ ?_; k_extra "memR") | (refine List.mem_append.mpr (.inl ?_); with_reducible assumption) | (refine List.mem_append.mpr (.inr ?_); k_extra "memR")
  k_with "call ref" => k_dflt (refine' take_spec (by k_asm) (by k_asm) (by k_asm) (by k_asm) (by k_asm) (by first | exact rfl | assumption) ?kd ?ku ?kU ?ka ?kb ?kc ?kt1 ?kt2 ?_; (case kd => ktr_room); (case ku => ktr_units); (case kU => (intro o'; k_upd)); (case ka => with_reducible assumption); (case kb => with_reducible assumption); (case kc => with_reducible assumption); (case kt1 => decide); (case kt2 => decide); clear hc hb hb2; first | ((have z9 := hx2); clear z9; intro d3 t9 c9 ta9 b9 tb9 h9 tk9 hy3 hx3 hc hb hb2 F9 N9) | ((have z9 := hx1); clear z9; intro d2 t2 c9 ta9 b9 tb9 h9 tk9 hy2 hx2 hc hb hb2 F9 N9) | (intro d1 t9 c9 ta9 b9 tb9 h9 tk9 hy1 hx1 hc hb hb2 F9 N9); (try dsimp only at N9); (try dsimp only); (try k_fold))
  k_with "call ref" => k_dflt (refine' one_spec (by k_asm) (by k_asm) (by k_asm) (by k_asm) (by k_asm) (by first | exact rfl | assumption) ?kd ?ku ?kU (by k_mem) ?kM ?ka ?kb ?kc ?_; (case kd => ktr_room); (case ku => ktr_units); (case kU => (intro o'; k_upd)); (case ka => with_reducible assumption); (case kb => with_reducible assumption); (case kc => with_reducible assumption); (case kM => (intro o'; (try dsimp only); k_mem)); clear hc hb hb2; intro r tr c9 ta9 b9 tb9 h9 tk9 hrr hc hb hb2 F9 N9; (try dsimp only at N9); (replace hrr : r = 128 ∨ r = 4294967296 := hrr.imp id (fun e => e.trans (show (2:Int) ^ Int.toNat 32 = 4294967296 by decide))); (have hr : 0 < r := by omega); (have hr2 : r ≤ 2 ^ 32 := by omega); (have hr3 : 128 ≤ r := by omega); clear hrr; (try dsimp only); (try k_fold))
  k_with "call ref" => k_dflt (refine' call_cls ?k1 ?k2 ?k3 ?k4 ?k5 ?k6 ?_; (case k1 => k_asm); (case k2 => k_asm); (case k3 => k_asm); (case k4 => k_is); (case k5 => k_is); (case k6 => k_is); k_whole; intro xA dA h9 F9 N9 oA oX; (k_lt oA); (k_lt2 oX); (try k_sweep); k_enter)
  k_with "storeName" => k_dflt (refine' storeX_C ?F ?N ?c ?U ?d ?_ ?a ?b; (case a => rfl); (case b => rfl); (case F => k_asm); (case N => k_asm); (case c => rfl); (case U => k_updF); (case d => k_asm); k_whole; first | ((have z9 := dR); clear z9; intro h9 oW F9 N9 dW; revert dW; generalize Int.fmod _ _ = aw; intro dW) | (intro h9 oR F9 N9 dR); (try dsimp only at N9); (try k_sweep))
  k_with "newList" => k_dflt (refine' list_L (by k_asm) (by k_asm) ?kz ?_; (case kz => exact Nat.le_of_ble_eq_true rfl); first | ((have z9 := qD); clear z9; intro lE h9 F9 N9 qE; (k_lt qE)) | ((have z9 := qC); clear z9; intro lD h9 F9 N9 qD; (k_lt qD)) | ((have z9 := qB); clear z9; intro lC h9 F9 N9 qC; (k_lt qC)) | ((have z9 := qA); clear z9; intro lB h9 F9 N9 qB; (k_lt qB)) | (intro lA h9 F9 N9 qA; (k_lt qA)); (try dsimp only); (try k_fold))
  k_with "call type:range" => k_dflt ((with_reducible rename Fr _ _ _ _ => F8); (with_reducible rename News _ _ _ _ => N8); (with_unfolding_all refine range1_rows F8 N8 ?_); intro h9 tk9 t9 u9 v9 R9 F9 N9 K9; clear F8 N8; (try dsimp only); (try k_fold))
  k_with "pyIter ref" => (refine Hold.out ?_)
  revert X; k_fill; intro X
  refine wpAny_call ?_
  k_dflt (refine' code_defC ?k1 ?k2 ?k3 ?k4 ?k5 ?kA ?kF ?kK ?k6 ?k7 ?k8 ?k9 ?kB ?kD ?_ ?c2 ?c3 ?c4; (case kA => exact rfl); (case kF => exact rfl); (case kK => assumption); (case k1 => k_asm); (case k2 => k_asm); (case k3 => k_asm); (case k4 => k_asm); (case k5 => k_asm); (case k6 => k_is); (case k7 => k_is); (case k8 => ktr_room); (case k9 => exact BindsTo.of_eq rfl); (case kB => exact rfl); (case kD => decide +kernel); (case c2 => exact rfl); (case c3 => exact rfl); (case c4 => exact rfl); k_whole)
  intro g' L' h' tk' cells' FG' F' N' Y' B' X' T' l1
  have hSL := ltN (l1 (S, _) (.head _))
  have hnL : ∀ p ∈ news, @LT.lt Nat _ p.1 L' := fun p hp => l1 p (.tail _ hp)
  k_with "all" => (intro p hp; (have hp1 := hnL p hp); (refine neN ?_); omega)
  obtain ⟨o1, o2, hE9, y1, y2⟩ := CellsAre.two Y'
  clear Y'
  subst hE9
  replace y1 : o1.data = .cell none := y1
  replace y2 : o2.data = .cell none := y2
  (try simp only [List.cons_append, List.nil_append] at N')
  (try dsimp only)
  (try k_fold)
  k_steps
  refine Hold.mk ?_
  have c1 := hSL
  have c2 := ltN oA.2.1
  have c3 := ltN oX
  have c4 := ltN qB.1
  have c5 := ltN qC.1
  have c6 := ltN qD.1
  have c7 := ltN qE.1
  dsimp only at c1
  (with_reducible rename Fr _ _ _ _ => F8)
  (with_reducible rename News _ _ _ _ => N8)
  refine' iter_rangeS (n := d3.toNat) (rled w.params ?k1 ?k2 tr r n S xA dA lC lD lE (L' + 1) (L' + 1 + 1) oR oW news) (fun z => [(Str.ofString "here", .int z.here z.th)]) [Str.ofString "octets", Str.ofString "is_fresh", Str.ofString "turn"] (RSt.ok aw r lB lE) ⟨c9, ta9, b9, tb9, d2, t2, lB, [], 0, [], 0, [], 0, [], 0, []⟩ (by rfl) R9 (small7 hy3 hx3) (size7 hy3 hx3) F8 N8 ?hsub ?hk ?hj ?_ ?_
  case hsub =>
    intro p hp
    simp only [rled, List.nil_append, List.mem_cons] at hp
    rcases hp with rfl | rfl | rfl | rfl | rfl | rfl | rfl | rfl | rfl | hp <;> k_mem
  case hk => intro p hp; rw [List.mem_singleton.mp hp]; rfl
  case hj => exact ⟨hc, hb, hb2, .inl rfl, fun _ h => (nomatch h), fun _ h => (nomatch h), [], [], LI.start hy2 hx2, .nil, .nil, .nil, .nil⟩
  · rintro i t ⟨c, ta, b, tb, here, th, pl, pvs, pn, kvs, kn, fvs, fn, dvs, dn, tl⟩ u h₁ tk₁ I oI hi ⟨hc, hb, hb2, hpl, hta, htl, K, G, li, hpv, hkv, hfv, hdv⟩ hoff F₁ N₁
    clear F8 N8 qA qB qC qD qE oA oX l1 hSL
    dsimp only [rled] at hoff N₁ F₁ hc hb hb2 hpl hta htl hpv hkv hfv hdv li
    have hIS := neN (hoff (S, _) (by k_mem))
    have hIA := neN (hoff (dA, _) (by k_mem))
    have hIC := neN (hoff (lC, _) (by k_mem))
    have hID := neN (hoff (lD, _) (by k_mem))
    have hIE := neN (hoff (lE, _) (by k_mem))
    dsimp only at hIS hIA hIC hID hIE
    have offX : ∀ X : Nat, @LT.lt Nat _ L' X → @LE.le Nat _ X lE → ∀ p ∈ tl ++ news, p.1 ≠ X := fun X h1 h2 p hp => by
      rcases List.mem_append.mp hp with hp | hp
      · have := htl p hp; exact neN (by omega)
      · have := hnL p hp; exact neN (by omega)
    have offS : ∀ p ∈ tl ++ news, p.1 ≠ S := fun p hp => by
      rcases List.mem_append.mp hp with hp | hp
      · have := htl p hp; exact neN (by omega)
      · exact hoS p hp
    have offA := offX dA (by omega) (by omega)
    have offC := offX lC (by omega) (by omega)
    have offD := offX lD (by omega) (by omega)
    have offE := offX lE (by omega) (by omega)
    clear offX
    have hi6 : i < 6 := by omega
    clear hx3 hy3 hx2 hy2 hx1 hy1 
    have plX := pl_ne hpl
    have plS := plX S (by omega) (by omega)
    have plxA := plX xA (by omega) (by omega)
    have pldA := plX dA (by omega) (by omega)
    have pllC := plX lC (by omega) (by omega)
    have pllD := plX lD (by omega) (by omega)
    have pllE := plX lE (by omega) (by omega)
    have plcR := plX (L' + 1) (by omega) (by omega)
    have plcW := plX (L' + 1 + 1) (by omega) (by omega)
    clear plX
    k_with "call ref" => k_dflt (refine' take_spec (by k_asm) (by k_asm) (by k_asm) (by k_asm) (by k_asm) (by first | exact rfl | assumption) ?kd ?ku ?kU ?ka ?kb ?kc ?kt1 ?kt2 ?_; (case kd => ktr_room); (case ku => ktr_units); (case kU => (intro o'; k_extra "updR")); (case ka => with_reducible assumption); (case kb => with_reducible assumption); (case kc => with_reducible assumption); (case kt1 => decide); (case kt2 => decide); clear hc hb hb2; first | ((have z9 := hz2); clear z9; intro e3 t9 c9 ta9 b9 tb9 h9 tk9 hw3 hz3 hc hb hb2 F9 N9) | ((have z9 := hz1); clear z9; intro e2 t9 c9 ta9 b9 tb9 h9 tk9 hw2 hz2 hc hb hb2 F9 N9) | (intro e1 t9 c9 ta9 b9 tb9 h9 tk9 hw1 hz1 hc hb hb2 F9 N9); (try dsimp only at N9); (try dsimp only); (try k_fold))
    k_with "allR" => first | with_reducible assumption | (refine' List.forall_mem_cons.mpr ⟨?a, ?b⟩; (case a => k_ne); (case b => k_extra "allR")) | k_extra "all"
    k_with "updR" => first | (refine' Upd.head ?a; (case a => k_extra "allR")) | (refine' Upd.tail ?a ?b; (case a => k_ne); (case b => k_extra "updR")) | (refine upd_app ?_ ?_; (k_all); (k_extra "updR"))
    k_with "newList" => k_dflt (refine' list_L (by k_asm) (by k_asm) ?kz ?_; (case kz => exact Nat.le_of_ble_eq_true rfl); intro e8 h9 F9 N9 q8; (replace q8 := ltN (q8 (lE, _) (by k_mem))); (try dsimp only); (try k_fold))
    k_with "call type:bytes" => k_dflt (refine' bytes_rep (by k_asm) (by k_asm) ?hm ?hh ?h0 ?h1 ?h2 ?_; (case hm => k_mem); (case hh => rfl); (case h0 => omega); (case h1 => omega); (case h2 => omega); intro o to h9 tk9 hos F9 N9; (try dsimp only); (try k_fold))
    k_with "newTuple" => k_dflt (refine' tuple_L (by k_asm) (by k_asm) ?kz ?_; (case kz => exact Nat.le_of_ble_eq_true rfl); first | ((have z9 := r1); clear z9; intro p2 h9 F9 N9 r2; (have r2I := ltN (r2 (I, _) (by k_mem))); (replace r2 := ltN (r2 (lE, _) (by k_mem)))) | ((have z9 := r0); clear z9; intro p1 h9 F9 N9 r1; (have r1I := ltN (r1 (I, _) (by k_mem))); (replace r1 := ltN (r1 (lE, _) (by k_mem)))) | (intro p0 h9 F9 N9 r0; (replace r0 := ltN (r0 (lE, _) (by k_mem)))); (try dsimp only); (try k_fold))
    k_with "call builtin:list.append" => k_dflt (refine' append_L (by k_asm) (by k_asm) ?ku ?kz ?_; (case ku => k_extra "updR"); (case kz => omega); (intro h9 F9 N9); (try dsimp only at N9); (try dsimp only); (try k_fold))
    have hlk : kvs.length ≤ 6 := by have h1 := hkv.length; have h2 := li.kl; omega
    have hlf : fvs.length ≤ 6 := by have h1 := hfv.length; have h2 := li.fl; omega
    have hld : dvs.length ≤ 12 := by have h1 := hdv.length; have h2 := li.kl; have h3 := li.fl; rw [mg_length] at h1; omega
    have hh0 := li.h0
    have hh1 := li.h1
    have hKg : GoodK r K := fun p hp => by
      obtain ⟨a, b, e⟩ := li.kp p hp
      unfold endOf at e
      exact ⟨a, by omega⟩
    have hKz : ∀ p ∈ K, p.2.size ≤ 1000 := fun p hp => by have := li.kz p hp; omega
    have hKl : K.length ≤ 100 := by have := li.kl; omega
    have hts : ∀ p ∈ tl, p ∈ tl ++ news := fun p hp => List.mem_append.mpr (.inl hp)
    have hoffT : ∀ p ∈ tl ++ news, p.1 ≠ I := fun p hp => hoff p (by k_mem)
    have hIx := neN (hoff (xA, _) (by k_mem))
    have hIp := neN (hoff (pl, _) (by k_mem))
    have hIr := neN (hoff (L' + 1, _) (by k_mem))
    have hIw := neN (hoff (L' + 1 + 1, _) (by k_mem))
    dsimp only at hIx hIp hIr hIw
    k_with "call ref" => k_dflt (refine' put_spec (K := K) (tl := tl) (x := here + e1) (by k_asm) (by k_asm) (by k_asm) (by k_asm) (by k_asm) (by first | exact rfl | assumption) ?kd ?ku (by k_mem) ?kU (by k_mem) hpv ?hs hr hr2 hKg ?hx0 ?hx2 ?ho ?ho2 (li.end_le hw1) hKz li.sep hKl ?hq ?_; (case kd => ktr_room); (case ku => ktr_units); (case kU => (intro l'; k_extra "updR")); (case hs => (intro p hp; (have hp := hts p hp); k_mem)); (case hx0 => omega); (case hx2 => omega); (case ho => omega); (case ho2 => omega); (case hq => exact Int.fmod_eq_emod_of_nonneg _ (Int.le_of_lt hr)); intro J9 vJ nJ tJ h9 tk9 F9 N9 oJ taJ ltJ neJ hJ; (have hJI := ltN (oJ (I, _) (by k_mem))); (replace oJ := ltN (oJ (lE, _) (by k_mem))); (have htJI : ∀ p ∈ tJ, @LT.lt Nat _ I p.1 := fun p hp => ltJ p hp (I, _) (by k_mem)); (have htJ : ∀ p ∈ tJ, @LT.lt Nat _ lE p.1 := fun p hp => ltJ p hp (lE, _) (by k_mem)); clear ltJ neJ; (try dsimp only at N9); (replace N9 := news_put N9); (have hmJ : ∀ p ∈ tJ, p ∈ tJ ++ tl := fun p hp => List.mem_append.mpr (.inl hp)); (have hmT : ∀ p ∈ tl, p ∈ tJ ++ tl := fun p hp => List.mem_append.mpr (.inr hp)); (have htaq : AllTup (tJ ++ tl) := fun p hp => (List.mem_append.mp hp).elim (taJ p) (hta p)); (have htlq : ∀ p ∈ tJ ++ tl, @LT.lt Nat _ lE p.1 := fun p hp => (List.mem_append.mp hp).elim (htJ p) (htl p)); (have hoffQ : ∀ p ∈ (tJ ++ tl) ++ news, p.1 ≠ I := fun p hp => (List.mem_append.mp hp).elim (fun h => (List.mem_append.mp h).elim (fun h => Nat.ne_of_gt (htJI p h)) (fun h => hoffT p (List.mem_append.mpr (.inl h)))) (fun h => hoffT p (List.mem_append.mpr (.inr h)))); (replace hJ := hJ.mono hmJ); (replace hkv := hkv.mono hmT); (replace hfv := hfv.mono hmT); (replace hdv := hdv.mono hmT); (generalize tJ ++ tl = tq at N9 hmJ hmT htaq htlq hoffQ hJ hkv hfv hdv); (have offQ : ∀ X : Nat, @LT.lt Nat _ L' X → @LE.le Nat _ X lE → ∀ p ∈ tq ++ news, p.1 ≠ X := fun X h1 h2 p hp => (List.mem_append.mp hp).elim (fun hp => (by (have h3 := htlq p hp); exact neN (by omega))) (fun hp => (by (have h3 := hnL p hp); exact neN (by omega)))); (have offQC := offQ lC (by omega) (by omega)); (have offQE := offQ lE (by omega) (by omega)); clear offQ hmJ hmT htJ htJI hpv; (try dsimp only at N9); (try dsimp only); (try k_fold))
    k_with "compareOp NotEq ref ref" => (refine Hold.out ?_)
    try k_fold
    k_steps
    · (with_reducible rename Fr _ _ _ _ => F8)
      (with_reducible rename News _ _ _ _ => N8)
      refine' TurnEnd.next F8 N8 (by k_mem) ?hnA ?hoA ⟨⟨c9, ta9, b9, tb9, here + e1 + (o.size : Int), ?thA, pl, pvs, pn, kvs, kn, fvs ++ [.ref p1], fn + 1, dvs ++ [.ref p2], dn + 1, (p2, tupO [.int (here + e1) ?x1, .bytes o ?x2]) :: (p1, tupO [.int (here + e1) ?x3, .bytes o ?x4]) :: tl⟩, rfl, ⟨hc, hb, hb2, ?plA, ?htaA, ?htlA, K, G ++ [(here + e1, o)], li.fresh hw1 hz1 (by omega) (by omega), ?v1A, ?v2A, ?v3A, ?v4A⟩, ?psA, ?frA⟩
      case psA => intro p hp; rw [List.mem_singleton.mp hp]; rfl
      case hnA =>
        intro p hp
        simp only [rled, List.mem_cons, List.mem_append, or_assoc] at hp
        rcases hp with rfl | rfl | rfl | rfl | rfl | rfl | rfl | rfl | rfl | rfl | rfl | hp | hp <;> k_mem
      case hoA =>
        intro p hp
        simp only [rled, List.mem_cons, List.mem_append, or_assoc] at hp
        rcases hp with rfl | rfl | rfl | rfl | rfl | rfl | rfl | rfl | rfl | rfl | rfl | hp | hp
        all_goals first | (k_ne; done) | exact hoffT p (List.mem_append.mpr (.inl hp)) | exact hoffT p (List.mem_append.mpr (.inr hp)) | exact hoffJ p hp
      case frA =>
        intro z h2 h3
        simp only [List.forall_mem_cons, List.not_mem_nil, false_implies, implies_true, and_true, ne_eq] at h2
        simp only [List.contains_cons, List.contains_nil, Bool.or_false, Bool.or_eq_false_iff, beq_eq_false_iff_ne, ne_eq] at h3
        simp [kstB, h2, h3]
      case plA => exact hpl
      case htaA =>
        intro p hp
        rcases List.mem_cons.mp hp with rfl | hp
        · rfl
        · rcases List.mem_cons.mp hp with rfl | hp
          · rfl
          · exact hta p hp
      case htlA =>
        intro p hp
        rcases List.mem_cons.mp hp with rfl | hp
        · exact r2
        · rcases List.mem_cons.mp hp with rfl | hp
          · exact r1
          · exact htl p hp
      case v1A => exact hpv.mono fun p hp => .tail _ (.tail _ hp)
      case v2A => exact hkv.mono fun p hp => .tail _ (.tail _ hp)
      case v3A => exact (hfv.mono fun p hp => .tail _ (.tail _ hp)).append (.one ⟨p1, _, _, rfl, .tail _ (.head _)⟩)
      case v4A => rw [li.mg_fresh hw1]; exact (hdv.mono fun p hp => .tail _ (.tail _ hp)).append (.one ⟨p2, _, _, rfl, .head _⟩)
    · refine Hold.mk ?_
      k_with "compareOp NotEq ref ref" => (refine' nn_nil (by k_asm) (by k_mem) (by k_mem) ?ku ?_; (case ku => ktr_units); (try dsimp only))
      k_with "compareOp NotEq ref ref" => (refine' nn_snoc (by k_asm) (by k_mem) (by k_mem) ?ku ?_; (case ku => ktr_units); (try dsimp only))
      k_with "subscriptTail Name UnaryOp ref int" => (refine' item_last (by k_asm) (by k_mem) ?_ ?h3; (case h3 => with_unfolding_all rfl); (try dsimp only))
      k_with "setItem ref int" => k_dflt (refine' set_last (by k_asm) (by k_asm) ?ku ?_; (case ku => k_extra "updR"); (intro h9 F9 N9); (try dsimp only at N9); (try dsimp only); (try k_fold))
      k_with "binaryOp Add bytes bytes" => (refine KBy.add_bytes (by omega) ?_; intro t8 k8; (try dsimp only); (try k_fold))
      rcases snoc_of K with rfl | ⟨A, l, rfl⟩
      · cases hkv
        try k_fold
        k_steps
        (with_reducible rename Fr _ _ _ _ => F8)
        (with_reducible rename News _ _ _ _ => N8)
        refine' TurnEnd.next F8 N8 (by k_mem) ?hnB ?hoB ⟨⟨c9, ta9, b9, tb9, here + e1 + (o.size : Int), ?thB, J9, vJ, nJ, [] ++ [.ref p1], kn + 1, fvs, fn, dvs ++ [.ref p2], dn + 1, (p2, tupO [.int (here + e1) ?x1B, .bytes o ?x2B]) :: (p1, tupO [.int (here + e1) ?x3B, .bytes o ?x4B]) :: tq⟩, rfl, ⟨hc, hb, hb2, ?plB, ?htaB, ?htlB, [] ++ [(here + e1, o)], G, li.kept hw1 hz1 (by omega) (by omega), ?v1B, ?v2B, ?v3B, ?v4B⟩, ?psB, ?frB⟩
        case psB => intro p hp; rw [List.mem_singleton.mp hp]; rfl
        case hnB =>
          intro p hp
          simp only [rled, List.mem_cons, List.mem_append, or_assoc] at hp
          rcases hp with rfl | rfl | rfl | rfl | rfl | rfl | rfl | rfl | rfl | rfl | rfl | hp | hp <;> k_mem
        case hoB =>
          intro p hp
          simp only [rled, List.mem_cons, List.mem_append, or_assoc] at hp
          rcases hp with rfl | rfl | rfl | rfl | rfl | rfl | rfl | rfl | rfl | rfl | rfl | hp | hp
          all_goals first | (k_ne; done) | exact hoffQ p (List.mem_append.mpr (.inl hp)) | exact hoffQ p (List.mem_append.mpr (.inr hp))
        case frB =>
          intro z h2 h3
          simp only [List.forall_mem_cons, List.not_mem_nil, false_implies, implies_true, and_true, ne_eq] at h2
          simp only [List.contains_cons, List.contains_nil, Bool.or_false, Bool.or_eq_false_iff, beq_eq_false_iff_ne, ne_eq] at h3
          simp [kstB, h2, h3]
        case plB => exact .inr oJ
        case htaB =>
          intro p hp
          rcases List.mem_cons.mp hp with rfl | hp
          · rfl
          rcases List.mem_cons.mp hp with rfl | hp
          · rfl
          exact htaq p hp
        case htlB =>
          intro p hp
          rcases List.mem_cons.mp hp with rfl | hp
          · exact r2
          rcases List.mem_cons.mp hp with rfl | hp
          · exact r1
          exact htlq p hp
        case v1B => exact  hJ.mono fun p hp => .tail _ (.tail _ hp)
        case v2B => exact (.one ⟨p1, _, _, rfl, .tail _ (.head _)⟩)
        case v3B => exact hfv.mono fun p hp => .tail _ (.tail _ hp)
        case v4B => rw [li.mg_kept hw1]; exact (hdv.mono fun p hp => .tail _ (.tail _ hp)).append (.one ⟨p2, _, _, rfl, .head _⟩)
      · obtain ⟨ks0, v, rfl, hks, hv1⟩ := hkv.snoc
        obtain ⟨va, vt, vu, rfl, hvm⟩ := hv1
        obtain ⟨lx, lb⟩ := l
        have hlz := hKz (lx, lb) (List.mem_append.mpr (.inr (.head _)))
        dsimp only at hvm hlz
        have hvm' : (va, tupO [Value.int lx vt, Value.bytes lb vu]) ∈ tq ++ news := List.mem_append.mpr (.inl hvm)
        k_with "subscriptTail" => (refine' tup_item1 (by k_asm) (show (va, tupO [Value.int lx vt, Value.bytes lb vu]) ∈ _ by k_mem) ?_ ?h3; (case h3 => with_unfolding_all rfl); (try dsimp only))
        k_with "subscriptTail" => (refine' tup_item0 (by k_asm) (show (va, tupO [Value.int lx vt, Value.bytes lb vu]) ∈ _ by k_mem) ?_ ?h3; (case h3 => with_unfolding_all rfl); (try dsimp only))
        by_cases he : lx + (lb.size : Int) = here + e1
        · k_with "compareOp Eq int int" => (refine eqI_true (by omega) ?_; (try dsimp only))
          have hml := LI.mg_last (o := o) li hw1 he
          have hjs : jstep (A ++ [(lx, lb)]) (here + e1, o) = A ++ [(lx, lb ++ o)] := jstep_eq he
          have hdv' := hdv
          rw [hml.1] at hdv'
          obtain ⟨ds0, dv, rfl, hds, hdl⟩ := hdv'.snoc
          clear hdv'
          try k_fold
          k_steps
          (with_reducible rename Fr _ _ _ _ => F8)
          (with_reducible rename News _ _ _ _ => N8)
          refine' TurnEnd.next F8 N8 (by k_mem) ?hnC ?hoC ⟨⟨c9, ta9, b9, tb9, here + e1 + (o.size : Int), ?thC, J9, vJ, nJ, ks0 ++ [.ref p1], kn, fvs, fn, ds0 ++ [.ref p1], dn, (p1, tupO [.int lx ?x1C, .bytes (lb ++ o) ?x2C]) :: tq⟩, rfl, ⟨hc, hb, hb2, ?plC, ?htaC, ?htlC, A ++ [(lx, lb ++ o)], G, hjs ▸ li.kept hw1 hz1 (by omega) (by omega), ?v1C, ?v2C, ?v3C, ?v4C⟩, ?psC, ?frC⟩
          case psC => intro p hp; rw [List.mem_singleton.mp hp]; rfl
          case hnC =>
            intro p hp
            simp only [rled, List.mem_cons, List.mem_append, or_assoc] at hp
            rcases hp with rfl | rfl | rfl | rfl | rfl | rfl | rfl | rfl | rfl | rfl | hp | hp <;> k_mem
          case hoC =>
            intro p hp
            simp only [rled, List.mem_cons, List.mem_append, or_assoc] at hp
            rcases hp with rfl | rfl | rfl | rfl | rfl | rfl | rfl | rfl | rfl | rfl | hp | hp
            all_goals first | (k_ne; done) | exact hoffQ p (List.mem_append.mpr (.inl hp)) | exact hoffQ p (List.mem_append.mpr (.inr hp))
          case frC =>
            intro z h2 h3
            simp only [List.forall_mem_cons, List.not_mem_nil, false_implies, implies_true, and_true, ne_eq] at h2
            simp only [List.contains_cons, List.contains_nil, Bool.or_false, Bool.or_eq_false_iff, beq_eq_false_iff_ne, ne_eq] at h3
            simp [kstB, h2, h3]
          case plC => exact .inr oJ
          case htaC =>
            intro p hp
            rcases List.mem_cons.mp hp with rfl | hp
            · rfl
            exact htaq p hp
          case htlC =>
            intro p hp
            rcases List.mem_cons.mp hp with rfl | hp
            · exact r1
            exact htlq p hp
          case v1C => rw [← hjs]; exact hJ.mono fun p hp => .tail _ hp
          case v2C => exact (hks.mono fun p hp => .tail _ hp).append (.one ⟨p1, _, _, rfl, .head _⟩)
          case v3C => exact hfv.mono fun p hp => .tail _ hp
          case v4C => rw [hml.2]; exact (hds.mono fun p hp => .tail _ hp).append (.one ⟨p1, _, _, rfl, .head _⟩)
        · k_with "compareOp Eq int int" => (refine eqI_false (by omega) ?_; (try dsimp only))
          have hjs : jstep (A ++ [(lx, lb)]) (here + e1, o) = A ++ [(lx, lb)] ++ [(here + e1, o)] := jstep_ne he
          try k_fold
          k_steps
          (with_reducible rename Fr _ _ _ _ => F8)
          (with_reducible rename News _ _ _ _ => N8)
          refine' TurnEnd.next F8 N8 (by k_mem) ?hnD ?hoD ⟨⟨c9, ta9, b9, tb9, here + e1 + (o.size : Int), ?thD, J9, vJ, nJ, ks0 ++ [.ref va] ++ [.ref p1], kn + 1, fvs, fn, dvs ++ [.ref p2], dn + 1, (p2, tupO [.int (here + e1) ?x1D, .bytes o ?x2D]) :: (p1, tupO [.int (here + e1) ?x3D, .bytes o ?x4D]) :: tq⟩, rfl, ⟨hc, hb, hb2, ?plD, ?htaD, ?htlD, A ++ [(lx, lb)] ++ [(here + e1, o)], G, hjs ▸ li.kept hw1 hz1 (by omega) (by omega), ?v1D, ?v2D, ?v3D, ?v4D⟩, ?psD, ?frD⟩
          case psD => intro p hp; rw [List.mem_singleton.mp hp]; rfl
          case hnD =>
            intro p hp
            simp only [rled, List.mem_cons, List.mem_append, or_assoc] at hp
            rcases hp with rfl | rfl | rfl | rfl | rfl | rfl | rfl | rfl | rfl | rfl | rfl | hp | hp <;> k_mem
          case hoD =>
            intro p hp
            simp only [rled, List.mem_cons, List.mem_append, or_assoc] at hp
            rcases hp with rfl | rfl | rfl | rfl | rfl | rfl | rfl | rfl | rfl | rfl | rfl | hp | hp
            all_goals first | (k_ne; done) | exact hoffQ p (List.mem_append.mpr (.inl hp)) | exact hoffQ p (List.mem_append.mpr (.inr hp))
          case frD =>
            intro z h2 h3
            simp only [List.forall_mem_cons, List.not_mem_nil, false_implies, implies_true, and_true, ne_eq] at h2
            simp only [List.contains_cons, List.contains_nil, Bool.or_false, Bool.or_eq_false_iff, beq_eq_false_iff_ne, ne_eq] at h3
            simp [kstB, h2, h3]
          case plD => exact .inr oJ
          case htaD =>
            intro p hp
            rcases List.mem_cons.mp hp with rfl | hp
            · rfl
            rcases List.mem_cons.mp hp with rfl | hp
            · rfl
            exact htaq p hp
          case htlD =>
            intro p hp
            rcases List.mem_cons.mp hp with rfl | hp
            · exact r2
            rcases List.mem_cons.mp hp with rfl | hp
            · exact r1
            exact htlq p hp
          case v1D => exact hjs ▸ hJ.mono fun p hp => .tail _ (.tail _ hp)
          case v2D => exact (hkv.mono fun p hp => .tail _ (.tail _ hp)).append (.one ⟨p1, _, _, rfl, .tail _ (.head _)⟩)
          case v3D => exact hfv.mono fun p hp => .tail _ (.tail _ hp)
          case v4D => rw [li.mg_kept hw1]; exact (hdv.mono fun p hp => .tail _ (.tail _ hp)).append (.one ⟨p2, _, _, rfl, .head _⟩)
  · rintro ⟨c, ta, b, tb, here, th, pl, pvs, pn, kvs, kn, fvs, fn, dvs, dn, tl⟩ u h₁ tk₁ ⟨hc, hb, hb2, hpl, hta, htl, K, G, li, hpv, hkv, hfv, hdv⟩ F₁ N₁
    clear F8 N8 qA qB qC qD qE oA oX l1 hSL
    dsimp only [rled] at N₁ F₁ hc hb hb2 hpl hta htl hpv hkv hfv hdv li
    have hi6 : d3.toNat ≤ 6 := by omega
    have hKl := li.kl
    have hGl := li.fl
    have hlk := hkv.length
    have hlf := hfv.length
    have hh1 := li.h1
    have hKg : GoodK r K := fun p hp => by
      obtain ⟨a, b, e⟩ := li.kp p hp
      unfold endOf at e
      exact ⟨a, by omega⟩
    have hlen : K.length + G.length ≤ 1000 := by omega
    have hts : ∀ p ∈ tl, p ∈ tl ++ news := fun p hp => List.mem_append.mpr (.inl hp)
    k_with "call type:list" => k_dflt (refine' copy_L (by k_asm) (by k_asm) (by k_mem) ?h1 ?_; (case h1 => omega); intro C9 c9 h9 F9 N9 l9; (try dsimp only); (try k_fold))
    k_with "call ref" => k_dflt (refine' merged_spec (K := K) (R := G) (by k_asm) (by k_asm) (by k_asm) (by k_asm) (by k_asm) (by first | exact rfl | assumption) ?kd ?ku (by k_mem) (by k_mem) (by k_mem) (hpv.mono ?hm1) (by k_mem) (hfv.mono ?hm2) hr hr2 hKg hlen ?_; (case kd => ktr_room); (case ku => ktr_units); (case hm1 => (intro p hp; (have hp := hts p hp); k_mem)); (case hm2 => (intro p hp; (have hp := hts p hp); k_mem)); intro M8 us8 m8 tl8 h9 tk9 F9 N9 lM hta8 lt8 hP8; (try dsimp only); (try k_fold))
    k_with "compareOp NotEq ref ref" => k_dflt (refine' ne_pieces (by k_asm) (by k_mem) (by k_mem) hP8 ?hs hdv ?hs' ?ku ?_; (case ku => ktr_units); (case hs => (intro p hp; exact List.mem_cons_of_mem _ hp)); (case hs' => (intro p hp; (have hp := hts p hp); k_mem)); (try dsimp only))
    k_with "compareOp NotEq ref ref" => k_dflt (refine' ne_pieces (by k_asm) (by k_mem) (by k_mem) hfv ?hs hfv ?hs' ?ku ?_; (case ku => ktr_units); (case hs => (intro p hp; (have hp := hts p hp); k_mem)); (case hs' => (intro p hp; (have hp := hts p hp); k_mem)); (try dsimp only))
    k_with "SrcLP" => k_dflt (refine' LCp.SrcLP.ledger (by rfl) (by k_asm) (by k_asm) ?hm ?sz ?_; (case hm => exact (show (lC, listOf kvs.toArray kn) ∈ _ by k_mem)); (case sz => (rw [List.size_toArray, sizeLine_eq]; omega)); (refine Hold.out ?_))
    try k_fold
    k_steps
    refine Hold.mk ?_
    intro g
    k_with "newTuple" => k_dflt (refine' tuple_L (by k_asm) (by k_asm) ?kz ?_; (case kz => exact Nat.le_of_ble_eq_true rfl); intro d9 h9 F9 N9 l7; (try dsimp only); (try k_fold))
    k_with "compareOp Eq ref ref" => (refine Hold.out ?_)
    refine' comp_loop (K := K) (fun p => ((aw + p.1) % r, p.2)) hkv ?hs ?turn ?fin
    case hs => intro p hp; have hp := hts p hp; k_mem
    case turn =>
      intro px pb t u tq I oI C oC D ys m₂ h tk E' rest hC hx hy F' N' off ne hrest
      try k_fold
      k_steps
      (with_reducible rename Fr _ _ _ _ => F8)
      (with_reducible rename News _ _ _ _ => N8)
      rw [Int.fmod_eq_emod_of_nonneg (aw + px) (Int.le_of_lt hr)] at N8
      refine' LCg.CompEnd.intro F8 N8 _ ?sub ?off ?hS (hrest d9 _ _)
      case sub =>
        intro p hp
        rcases List.mem_cons.mp hp with rfl | hp
        · exact .tail _ (.head _)
        rcases List.mem_cons.mp hp with rfl | hp
        · exact .tail _ (.tail _ (.head _))
        rcases List.mem_cons.mp hp with rfl | hp
        · exact .tail _ (.tail _ (.tail _ (.head _)))
        rcases List.mem_cons.mp hp with rfl | hp
        · exact .head _
        exact .tail _ (.tail _ (.tail _ (.tail _ hp)))
      case off => exact ⟨⟨Nat.ne_of_gt (l7 (I, _) (.head _)), Nat.ne_of_gt (l7 (C, _) (.tail _ (.head _))), Nat.ne_of_gt (l7 (D, _) (.tail _ (.tail _ (.head _))))⟩, off⟩
      case hS => exact .inr ⟨_, (show (lC, listOf kvs.toArray kn) ∈ _ by k_mem), rfl, _, rfl⟩
    case fin =>
      intro ys tq hq D h tk F' N' off
      try k_fold
      k_steps
      refine Hold.mk ?_
      refine' eq_pieces (tl := tl) (tl' := tq) (by k_asm) (by k_mem) (show (D, listOf ys.toArray ys.length) ∈ _ by k_mem) hpv ?hs2 hq ?hs3 ?ku2 ?_
      case hs2 => intro p hp; have hp := hts p hp; k_mem
      case hs3 => intro p hp; exact .tail _ (List.mem_append.mpr (.inl hp))
      case ku2 => ktr_units
      try dsimp only
      k_steps
      (with_reducible rename News _ _ _ _ => N8)
      refine hret c ta b tb _ _ hc hb hb2 (by k_asm) (news_sub N8 fun p hp => ?_)
      rcases List.mem_cons.mp hp with rfl | hp
      · k_mem
      · have hp : p ∈ tl ++ news := List.mem_append.mpr (.inr hp)
        k_mem
end
end Mine
end
section
open PySem PySem.W PyProof.Rows PySem.Spec PySem.Calls
set_option Elab.async false
set_option maxRecDepth 100000
set_option maxHeartbeats 8000000
namespace Mine
theorem upd_cases {d : Addr} {o o' : Obj} {a b : List (Addr × Obj)} {p : Addr × Obj} (U : Upd d o o' a b) (hp : p ∈ b) : p = (d, o') ∨ (p ∈ a ∧ p.1 ≠ d) := by
  obtain ⟨pre, post, rfl, rfl, h1, h2⟩ := U.split
  rcases List.mem_append.mp hp with hp | hp
  · exact .inr ⟨List.mem_append.mpr (.inl hp), h1 p hp⟩
  · rcases List.mem_cons.mp hp with rfl | hp
    · exact .inl rfl
    · exact .inr ⟨List.mem_append.mpr (.inr (.tail _ hp)), h2 p hp⟩
theorem good_end {cl : Str → Option Addr} {mean : ExcName → Option Value} {args : List WData} {s₁ : Shared} {h' : Heap} {tk : Nat} (K : ∀ b o, s₁.heap.get? b = some o → h'.get? b = some o) (hg : s₁.gens = #[]) :
    GoodW PySem.Challenge.rw_xw0330_01.row.claim cl mean args s₁ (.ok (.ret (.bool true))) { heap := h', gens := s₁.gens, drawn := s₁.drawn, toks := tk, os := s₁.os } :=
  ⟨.inl ⟨.bool true, .bool true, [], rfl, fun _ => rfl, .bool true, (by with_unfolding_all rfl), fun _ => ⟨List.nodup_nil, fun _ h => nomatch h⟩⟩, K, rfl, hg⟩
theorem great0 (x : Int) (P : Prop) [Decidable P] : 0 ≤ (if -1 - x > x then -1 - x else x) * (if P then 1 else 0) :=
  Int.mul_nonneg (by split <;> omega) (by split <;> decide)
section
variable {w : World} {dp un : Nat} {gd : Option (List Code)} {cn : Str} {cs : Scope} {a : Addr} {ccd : Value} {cl : List (Str × Addr)} {outer : List Env} {A₀ : Around} {base h₀ : Heap} {L : Addr} {m : Str → Option Value} {s : Shared} {Q E : Value → Shared → Prop} {mean : ExcName → Option Value} {mg' mb : Str → Option Value} {news : List (Addr × Obj)}
theorem row_specU {c b : Int} {ta tb : Tok} {S n : Nat} {ng : Obj → List (Addr × Obj)} (B : Below A₀ base outer h₀) (F : Fr h₀ L s.heap m) (X : (hd.heap_39 w.params).In h₀) (N : News h₀ L s.heap news)
    (T : Top hd.view_39 (looseW hd.view_39 []) mean mg' mb h₀) (hk : cs.kind = .function) (hdp : dp + 20 < recursionLimit) (hun : un + 200 < cLine)
    (U : ∀ o', Upd S (srcO c ta b tb n) o' news (ng o')) (hc : 0 ≤ c) (hb : 0 ≤ b) (hb2 : b < 2147483647)
    (hret : ∀ c' ta' b' tb' h' tk', 0 ≤ c' → 0 ≤ b' → b' < 2147483647 → Fr h₀ L h' m → News h₀ L h' (ng (srcO c' ta' b' tb' n)) → Q (.bool true) { s with heap := h', toks := tk' }) :
    wpAny (model PySem.Challenge.rw_xw0330_01.row.prog w) (ktrTop dp un gd cn cs L a ccd cl outer) (call (.ref 164) [.ref S]) Q E s := by
  obtain ⟨pre, post, rfl, _, h1, h2⟩ := (U (srcO c ta b tb n)).split
  refine row_spec (ta := ta) (tb := tb) (n := n) (news := pre ++ post) B F X (news_sub N fun p hp => ?_) T hk hdp hun (fun p hp => ?_) hc hb hb2 fun c' ta' b' tb' h' tk' hc' hb' hb2' F' N' => hret c' ta' b' tb' h' tk' hc' hb' hb2' F' (news_sub N' fun p hp => ?_)
  · rcases List.mem_cons.mp hp with rfl | hp
    · exact List.mem_append.mpr (.inr (.head _))
    · rcases List.mem_append.mp hp with hp | hp
      · exact List.mem_append.mpr (.inl hp)
      · exact List.mem_append.mpr (.inr (.tail _ hp))
  · rcases List.mem_append.mp hp with hp | hp
    · exact h1 p hp
    · exact h2 p hp
  · rcases upd_cases (U _) hp with rfl | ⟨hp, hne⟩
    · exact .head _
    · rcases List.mem_append.mp hp with hp | hp
      · exact .tail _ (List.mem_append.mpr (.inl hp))
      · rcases List.mem_cons.mp hp with rfl | hp
        · exact absurd rfl hne
        · exact .tail _ (List.mem_append.mpr (.inr hp))
end
end Mine
end
section
open PySem PySem.W PyProof.Rows PySem.Spec PySem.Calls
set_option Elab.async false
set_option maxRecDepth 100000
set_option maxHeartbeats 8000000
namespace Mine
local macro_rules | `(tactic| walk_at $s:str) => `(tactic| k_extra $s)
local macro_rules | `(tactic| k_mem) => `(tactic| k_extra "memR")
theorem law_holds : PySem.Challenge.rw_xw0330_01.Holds := by
  refine hd ?_
  w_top off
  k_with_none
  k_with "memR" => first | with_reducible assumption | ktr_member | exact List.mem_cons_self .. | (refine List.mem_cons_of_mem _ ?_; k_extra "memR") | (refine List.mem_append.mpr (.inl ?_); with_reducible assumption) | (refine List.mem_append.mpr (.inr ?_); k_extra "memR")
  k_with "call ref" => k_dflt (refine' put_spec (K := []) (tl := []) (x := 4) (by k_asm) (by k_asm) (by k_asm) (by k_asm) (by k_asm) (by first | exact rfl | assumption) ?kd ?ku (by k_mem) ?kU (by k_mem) .nil (fun _ h => nomatch h) ?hr ?hr2 (fun _ h => nomatch h) (by decide) ?hx2 ?ho ?ho2 (fun _ h => nomatch h) (fun _ h => nomatch h) List.Pairwise.nil ?hl ?hq ?_; (case kd => ktr_room); (case ku => ktr_units); (case kU => (intro l'; k_upd)); (case hr => decide); (case hr2 => decide); (case hx2 => decide); (case ho => decide); (case ho2 => decide); (case hl => decide); (case hq => decide); intro J9 vJ nJ tJ h9 tk9 F9 N9 oJ taJ ltJ neJ hJ; (try dsimp only at N9); (try dsimp only); (try k_fold))
  k_with "call ref" => k_dflt (refine' merged_spec (K := [(4, _)]) (R := [(0, _), (8, _)]) (by k_asm) (by k_asm) (by k_asm) (by k_asm) (by k_asm) (by first | exact rfl | assumption) ?kd ?ku (by k_mem) (by k_mem) (by k_mem) (hJ.mono ?hm1) ?hfr (.cons ⟨_, _, _, rfl, ?hm2⟩ (.cons ⟨_, _, _, rfl, ?hm3⟩ .nil)) ?hr ?hr2 ?hK ?hlen ?_; (case kd => ktr_room); (case ku => ktr_units); (case hfr => k_mem); (case hm1 => (intro p hp; k_mem)); (case hm2 => k_mem); (case hm3 => k_mem); (case hr => decide); (case hr2 => decide); (case hK => (intro p hp; (rw [List.mem_singleton.mp hp]); exact ⟨by decide, by decide⟩)); (case hlen => decide); intro M8 us8 m8 tl8 h9 tk9 F9 N9 lM hta8 lt8 hP8; (try dsimp only); (try k_fold))
  k_with "compareOp NotEq ref ref" => (refine Hold.out ?_)
  k_go0
  (all_goals try k_fold)
  k_steps
  refine Hold.mk ?_
  show wpAny _ _ (compareOp .NotEq (.ref _) (.ref _)) _ _ _
  refine' ne_pieces (ps := [(0, _), (4, _), (8, _)]) (by k_asm) (by k_mem) (by k_mem) hP8 ?hs (.cons ⟨_, _, _, rfl, ?m1⟩ (.cons ⟨_, _, _, rfl, ?m2⟩ (.cons ⟨_, _, _, rfl, ?m3⟩ .nil))) (fun _ h => h) ?ku ?_
  case m1 => k_mem
  case m2 => k_mem
  case m3 => k_mem
  case hs => exact fun p hp => .tail _ (.tail _ (.tail _ (.tail _ (.tail _ hp))))
  case ku => ktr_units
  try dsimp only
  k_with "call ref" => ((show wpAny _ _ (call (Value.ref 145) _) _ _ _); (refine Hold.out ?_))
  k_steps
  refine Hold.mk ?_
  (with_reducible rename Fr _ _ _ _ => F8)
  (with_reducible rename News _ _ _ _ => N8)
  replace N8 := news_sub N8 (news := []) (fun _ h => nomatch h)
  clear hP8 lM hta8 lt8 hJ oJ taJ ltJ neJ
  k_with "call ref" => fail "no"
  k_with_none
  k_with "memR" => first | with_reducible assumption | ktr_member | exact List.mem_cons_self .. | (refine List.mem_cons_of_mem _ ?_; k_extra "memR") | (refine List.mem_append.mpr (.inl ?_); with_reducible assumption) | (refine List.mem_append.mpr (.inr ?_); k_extra "memR")
  k_with "call ref" => ((show wpAny _ _ (call (Value.ref 164) _) _ _ _); (refine Hold.out ?_))
  try k_fold
  k_steps
  · refine Hold.mk ?_
    refine' row_specU (by k_asm) (by k_asm) (by k_asm) (by k_asm) (by k_asm) (by first | exact rfl | assumption) ?kdA0 ?kuA0 ?kUA0 ?kaA0 ?kbA0 ?kcA0 ?_
    case kdA0 => ktr_room
    case kuA0 => ktr_units
    case kUA0 => (intro o'; k_upd)
    case kaA0 => first | with_reducible assumption | exact great0 _ _
    case kbA0 => first | with_reducible assumption | exact Int.fmod_nonneg_of_pos _ (by decide)
    case kcA0 => first | with_reducible assumption | exact Int.fmod_lt_of_pos _ (by decide)
    intro cA0 taA0 bA0 tbA0 h9 tk9 hc hb hb2 F9 N9; (try dsimp only at N9); (try dsimp only); (try k_fold)
    k_steps
    refine Hold.mk ?_
    refine' row_specU (by k_asm) (by k_asm) (by k_asm) (by k_asm) (by k_asm) (by first | exact rfl | assumption) ?kdA1 ?kuA1 ?kUA1 ?kaA1 ?kbA1 ?kcA1 ?_
    case kdA1 => ktr_room
    case kuA1 => ktr_units
    case kUA1 => (intro o'; k_upd)
    case kaA1 => first | with_reducible assumption | exact great0 _ _
    case kbA1 => first | with_reducible assumption | exact Int.fmod_nonneg_of_pos _ (by decide)
    case kcA1 => first | with_reducible assumption | exact Int.fmod_lt_of_pos _ (by decide)
    intro cA1 taA1 bA1 tbA1 h9 tk9 hc hb hb2 F9 N9; (try dsimp only at N9); (try dsimp only); (try k_fold)
    k_steps
    refine Hold.mk ?_
    refine' row_specU (by k_asm) (by k_asm) (by k_asm) (by k_asm) (by k_asm) (by first | exact rfl | assumption) ?kdA2 ?kuA2 ?kUA2 ?kaA2 ?kbA2 ?kcA2 ?_
    case kdA2 => ktr_room
    case kuA2 => ktr_units
    case kUA2 => (intro o'; k_upd)
    case kaA2 => first | with_reducible assumption | exact great0 _ _
    case kbA2 => first | with_reducible assumption | exact Int.fmod_nonneg_of_pos _ (by decide)
    case kcA2 => first | with_reducible assumption | exact Int.fmod_lt_of_pos _ (by decide)
    intro cA2 taA2 bA2 tbA2 h9 tk9 hc hb hb2 F9 N9; (try dsimp only at N9); (try dsimp only); (try k_fold)
    k_steps
    refine Hold.mk ?_
    refine' row_specU (by k_asm) (by k_asm) (by k_asm) (by k_asm) (by k_asm) (by first | exact rfl | assumption) ?kdA3 ?kuA3 ?kUA3 ?kaA3 ?kbA3 ?kcA3 ?_
    case kdA3 => ktr_room
    case kuA3 => ktr_units
    case kUA3 => (intro o'; k_upd)
    case kaA3 => first | with_reducible assumption | exact great0 _ _
    case kbA3 => first | with_reducible assumption | exact Int.fmod_nonneg_of_pos _ (by decide)
    case kcA3 => first | with_reducible assumption | exact Int.fmod_lt_of_pos _ (by decide)
    intro cA3 taA3 bA3 tbA3 h9 tk9 hc hb hb2 F9 N9; (try dsimp only at N9); (try dsimp only); (try k_fold)
    repeat' (first | (k_unfold; (try dsimp only)) | walk1 | (dsimp only; walk1) | (leave1; walk_say "STEP leave1"; try dsimp only) | fail "no step")
    dsimp only
    exact good_end (Fr.keep (by k_asm)) (by assumption)
  · refine Hold.mk ?_
    refine' row_specU (by k_asm) (by k_asm) (by k_asm) (by k_asm) (by k_asm) (by first | exact rfl | assumption) ?kdB0 ?kuB0 ?kUB0 ?kaB0 ?kbB0 ?kcB0 ?_
    case kdB0 => ktr_room
    case kuB0 => ktr_units
    case kUB0 => (intro o'; k_upd)
    case kaB0 => first | with_reducible assumption | exact great0 _ _
    case kbB0 => first | with_reducible assumption | exact Int.fmod_nonneg_of_pos _ (by decide)
    case kcB0 => first | with_reducible assumption | exact Int.fmod_lt_of_pos _ (by decide)
    intro cB0 taB0 bB0 tbB0 h9 tk9 hc hb hb2 F9 N9; (try dsimp only at N9); (try dsimp only); (try k_fold)
    k_steps
    refine Hold.mk ?_
    refine' row_specU (by k_asm) (by k_asm) (by k_asm) (by k_asm) (by k_asm) (by first | exact rfl | assumption) ?kdB1 ?kuB1 ?kUB1 ?kaB1 ?kbB1 ?kcB1 ?_
    case kdB1 => ktr_room
    case kuB1 => ktr_units
    case kUB1 => (intro o'; k_upd)
    case kaB1 => first | with_reducible assumption | exact great0 _ _
    case kbB1 => first | with_reducible assumption | exact Int.fmod_nonneg_of_pos _ (by decide)
    case kcB1 => first | with_reducible assumption | exact Int.fmod_lt_of_pos _ (by decide)
    intro cB1 taB1 bB1 tbB1 h9 tk9 hc hb hb2 F9 N9; (try dsimp only at N9); (try dsimp only); (try k_fold)
    k_steps
    refine Hold.mk ?_
    refine' row_specU (by k_asm) (by k_asm) (by k_asm) (by k_asm) (by k_asm) (by first | exact rfl | assumption) ?kdB2 ?kuB2 ?kUB2 ?kaB2 ?kbB2 ?kcB2 ?_
    case kdB2 => ktr_room
    case kuB2 => ktr_units
    case kUB2 => (intro o'; k_upd)
    case kaB2 => first | with_reducible assumption | exact great0 _ _
    case kbB2 => first | with_reducible assumption | exact Int.fmod_nonneg_of_pos _ (by decide)
    case kcB2 => first | with_reducible assumption | exact Int.fmod_lt_of_pos _ (by decide)
    intro cB2 taB2 bB2 tbB2 h9 tk9 hc hb hb2 F9 N9; (try dsimp only at N9); (try dsimp only); (try k_fold)
    k_steps
    refine Hold.mk ?_
    refine' row_specU (by k_asm) (by k_asm) (by k_asm) (by k_asm) (by k_asm) (by first | exact rfl | assumption) ?kdB3 ?kuB3 ?kUB3 ?kaB3 ?kbB3 ?kcB3 ?_
    case kdB3 => ktr_room
    case kuB3 => ktr_units
    case kUB3 => (intro o'; k_upd)
    case kaB3 => first | with_reducible assumption | exact great0 _ _
    case kbB3 => first | with_reducible assumption | exact Int.fmod_nonneg_of_pos _ (by decide)
    case kcB3 => first | with_reducible assumption | exact Int.fmod_lt_of_pos _ (by decide)
    intro cB3 taB3 bB3 tbB3 h9 tk9 hc hb hb2 F9 N9; (try dsimp only at N9); (try dsimp only); (try k_fold)
    repeat' (first | (k_unfold; (try dsimp only)) | walk1 | (dsimp only; walk1) | (leave1; walk_say "STEP leave1"; try dsimp only) | fail "no step")
    dsimp only
    exact good_end (Fr.keep (by k_asm)) (by assumption)
end Mine
end
theorem PySem.Challenge.cw_xw0330_01_holds : PySem.Challenge.rw_xw0330_01.Holds :=
  Mine.law_holds
