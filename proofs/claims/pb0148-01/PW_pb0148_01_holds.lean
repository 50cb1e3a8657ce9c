import PyProof.Rows.All
import Wide.All
import OpenK.AllK
import Wide.FinOn
import Lean
import PySem.Challenge.RW_pb0148_01
open PySem PySem.W PySem.Calls PyProof.Rows
set_option Elab.async false
set_option maxRecDepth 100000
namespace Mine
set_option maxHeartbeats 8000000 in
open_top hd for PySem.Challenge.rw_pb0148_01


section
variable {prog : Program} {w : World} {A : Around} {s : Shared} {K : Frag} {R : Result → Shared → Prop} {name qual : Str} {params : Arguments} {body : List Stmt} {scope : Scope} {dV kV doc pm cdv ct oc : Value} {an od : Option Addr} {osl : Array (Option Value)} {f : Addr} {args : Args} {binds : List (Str × Value)}

theorem foot_base {foot : List (Addr × Obj)} {h h₁ : Heap} {L : Addr} {m : Str → Option Value} (hf : ∀ p ∈ foot, h.get? p.1 = some p.2) (hL : L = h.objs.size)
    (hn : h₁.Ns L m) (hk : ∀ b o, h.get? b = some o → h₁.get? b = some o) :
    Fr (hideAll h (foot.map (·.1))) L h₁ m ∧ News (hideAll h (foot.map (·.1))) L h₁ foot := by
  subst hL
  refine ⟨⟨hn, fun b o e => hk b o (of_hideAll _ e), Nat.le_of_eq (hideAll_size _ _)⟩, fun p hp => ⟨hk _ _ (hf p hp), Nat.ne_of_lt (Heap.lt_size (hf p hp)), hideAll_none _ (List.mem_map_of_mem hp)⟩⟩

theorem hidden_none {h : Heap} {as : List Addr} {a : Addr} (e : h.get? a = none) : (hideAll h as).get? a = none :=
  Option.eq_none_iff_forall_ne_some.mpr fun o q => by rw [of_hideAll _ q] at e; cases e

/-- a def without cells is entered: the base is the heap at the call less the footprint -/
theorem enter_plain (foot : List (Addr × Obj)) (hf : ∀ p ∈ foot, s.heap.get? p.1 = some p.2) (hX : K.In (hideAll s.heap (foot.map (·.1)))) (hlim : s.heap.NoLimit)
    (ho : K.lookup f = some ⟨oc, od, .func (fnOf name qual params body scope dV kV doc pm an cdv ct), osl⟩) (hcd : codeIn K cdv qual = true) (hroom : A.depth < recursionLimit)
    (hbind : BindsTo s (fnOf name qual params body scope dV kV doc pm an cdv ct) args binds) (hloc : ∀ y ∈ binds, scope.names.lookup y.1 = some .local)
    (h : ∀ L' h₁ tk, Fr (hideAll s.heap (foot.map (·.1))) L' h₁ (fun y => binds.reverse.lookup y) → News (hideAll s.heap (foot.map (·.1))) L' h₁ foot → L' = s.heap.objs.size →
      wpAny (model prog w) (A.deeper (envOf qual scope L' f cdv)) (execs body (envOf qual scope L' f cdv))
        (fun fl s' => R (.ok (.ret (match fl with | .ret v => v | _ => .none))) s')
        (fun _ _ => False)
        { s with heap := h₁, toks := tk })
    (hcell : ∀ x ∈ scope.names, x.2 ≠ .cell) (hco : scope.isCoroutine = false := by rfl) (hgen : scope.isGenerator = false := by rfl) (hk : scope.kind = .function := by rfl) : codeAny (model prog w) A (.call (.ref f) args) R s := by
  have X' : K.In s.heap := fun a o e => of_hideAll _ (hX a o e)
  refine codeAny_call_def (fd := fnOf name qual params body scope dV kV doc pm an cdv ct) (body := body) (binds := binds) hroom (X' _ _ ho) rfl hlim (codeRec_of X' hcd) rfl hbind hcell hloc (fun h₁ hns hk₁ => ?_) hco hgen hk
  have B := foot_base (L := s.heap.objs.size) hf rfl hns hk₁
  exact wpAny_mono (h _ h₁ _ B.1 B.2 rfl) (fun _ _ y => y) fun _ _ y => y.elim

/-- a def with cells -/
theorem enter_cells (foot : List (Addr × Obj)) (hf : ∀ p ∈ foot, s.heap.get? p.1 = some p.2) (hX : K.In (hideAll s.heap (foot.map (·.1)))) (hlim : s.heap.NoLimit)
    (ho : K.lookup f = some ⟨oc, od, .func (fnOf name qual params body scope dV kV doc pm an cdv ct), osl⟩) (hcd : codeIn K cdv qual = true) (hroom : A.depth < recursionLimit)
    (hbind : BindsTo s (fnOf name qual params body scope dV kV doc pm an cdv ct) args binds)
    (hkind : (binds.all fun y => scope.names.lookup y.1 == some .local || scope.names.lookup y.1 == some .cell) = true)
    (hnd : ((cellsFrom 0 scope.names []).map (·.1)).Nodup)
    (h : ∀ L' h₁ tk cells, Fr (hideAll s.heap (foot.map (·.1))) L' h₁ (bindL (envOfC qual scope L' f cdv).kindOf binds fun _ => none) → News (hideAll s.heap (foot.map (·.1))) L' h₁ (cells ++ foot) →
      CellsAre (bindC (envOfC qual scope L' f cdv).kindOf binds fun _ => none) (cellsFrom (L' + 1) scope.names []) cells → (∀ p ∈ foot, p.1 < L') → L' = s.heap.objs.size →
      wpAny (model prog w) (A.deeper (envOfC qual scope L' f cdv)) (execs body (envOfC qual scope L' f cdv))
        (fun fl s' => R (.ok (.ret (match fl with | .ret v => v | _ => .none))) s')
        (fun _ _ => False)
        { s with heap := h₁, toks := tk })
    (hco : scope.isCoroutine = false := by rfl) (hgen : scope.isGenerator = false := by rfl) (hk : scope.kind = .function := by rfl) : codeAny (model prog w) A (.call (.ref f) args) R s := by
  have X' : K.In s.heap := fun a o e => of_hideAll _ (hX a o e)
  refine codeAny_call_function hroom (X' _ _ ho) rfl hco hgen rfl (codeRec_of X' hcd) (hbind _ _ _ _ ?_)
  refine wpAny_newFunctionEnv_cells hk (kindsX hkind _) fun env' he s' x => ?_
  subst he
  refine ⟨hlim.keeps x.toInCall.keep, codeAny_func ?_⟩
  obtain ⟨h₁, tk, rfl, _⟩ := x.done
  have own := Cl.news (h₀ := s.heap) (Nat.le_refl _) fun n c hm => ⟨x.cell n c (lookup_of_mem_nodup (by rw [cellsFrom_names scope.names 0 _ [] [] rfl] at hnd; exact hnd) hm), x.above n c hm⟩
  obtain ⟨cells, fresh, are⟩ := own
  have B := foot_base (L := s.heap.objs.size) hf rfl x.toInCall.ns x.toInCall.keep
  have N : News (hideAll s.heap (foot.map (·.1))) s.heap.objs.size h₁ (cells ++ foot) := fun p hp => (List.mem_append.mp hp).elim (fun hp => ⟨(fresh p hp).1, (fresh p hp).2.1, hidden_none (fresh p hp).2.2⟩) (B.2 p)
  exact wpAny_mono (h _ h₁ tk cells B.1 N are (fun p hp => Heap.lt_size (hf p hp)) rfl) (fun _ _ y => y) fun _ _ y => y.elim
end

abbrev PR : Program := PySem.Challenge.rw_pb0148_01.row.prog

/-- all of h is in h' -/
def Kp (h h' : Heap) : Prop := ∀ b o, h.get? b = some o → h'.get? b = some o

structure Amb (w : World) (A : Around) (n : Nat) (h : Heap) : Prop where
  K : (hd.heap_39 w.params).In h
  T : ∃ mean mg mb, Top hd.view_39 (looseW hd.view_39 []) mean mg mb h
  handled : A.handled = none
  depth : A.depth + n < recursionLimit
  units : A.units + 10 * n < cLine

theorem Amb.keeps {w : World} {A : Around} {n : Nat} {h h' : Heap} (C : Amb w A n h) (k : Kp h h') : Amb w A n h' :=
  ⟨C.K.keeps k, let ⟨a, b, c, T⟩ := C.T; ⟨a, b, c, T.keeps k⟩, C.handled, C.depth, C.units⟩

structure Row where
  cl : Int
  adv : Int
  un : Bool

/-- a row's tuple -/
def IsRow (h : Heap) (v : Value) (r : Row) : Prop :=
  ∃ a v0 t1 t2 v3 v4 v5, v = .ref a ∧ IsTup h a [v0, .int r.cl t1, .int r.adv t2, v3, v4, v5, .bool r.un].toArray ∧ handedIn v0 = true ∧ handedIn v3 = true ∧ handedIn v4 = true ∧ handedIn v5 = true

structure ShapedAt (h : Heap) (a : Addr) (vs : List Value) (rs : List Row) : Prop where
  ex : ∃ dx es n l ib, InstAt h a (instObj 45 dx) 45 (some (dictOf es n)) ∧ getL "rows" es = some (some (.ref l)) ∧ getL "is_backward" es = some (some (.bool ib)) ∧ h.IsList l vs.toArray
  rows : Paired (IsRow h) vs rs
  few : vs.length ≤ 1000

def inB (b e : Int) (r : Row) : Bool := decide (b ≤ r.cl) && decide (r.cl < e)
def advOf (rs : List Row) (b e : Int) : Int := ((rs.filter (inB b e)).map (·.adv)).sum

def marker (_ : OpenLaw) (_ : Params → Frag) : Prop := True

theorem paired_at {α β : Type} {F : α → β → Prop} : ∀ {l₁ : List α} {l₂ : List β}, Paired F l₁ l₂ → ∀ (i : Nat) {v : α}, l₁[i]? = some v → ∀ (hi : i < l₂.length), F v l₂[i]
  | _, _, .nil, _, _, _, hi => absurd hi (Nat.not_lt_zero _)
  | _, _, .cons h _, 0, _, e, _ => by simp at e; subst e; exact h
  | _, _, .cons _ t, i + 1, _, e, hi => by simpa using paired_at t i (by simpa using e) (by simpa using hi)

/-- a walk over two paired lists: what holds of the part done decides what is left to do -/
theorem over_pairs {α β σ : Type} {F : α → β → Prop} {vs : List α} {bs : List β} (hp : Paired F vs bs) (Inv : List β → σ → Prop) (Go : Nat → Nat → σ → Prop) (stop : ∀ st, Inv bs st → Go 0 bs.length st)
    (turn : ∀ pre b post v st, bs = pre ++ b :: post → vs[pre.length]? = some v → F v b → Inv pre st → (∀ st', Inv (pre ++ [b]) st' → Go post.length (pre.length + 1) st') → Go (post.length + 1) pre.length st) :
    ∀ st, Inv [] st → Go vs.length 0 st := by
  suffices all : ∀ post pre, bs = pre ++ post → ∀ st, Inv pre st → Go post.length pre.length st by
    rw [hp.length]
    exact all bs [] rfl
  intro post
  induction post with
  | nil =>
    rintro pre rfl st q
    rw [List.append_nil] at stop
    exact stop st q
  | cons b post ih =>
    intro pre e st q
    have hlt : pre.length < bs.length := by rw [e]; simp
    have hv := List.getElem?_eq_getElem (l := vs) (hp.length ▸ hlt)
    have hb : bs[pre.length] = b := by simp [e]
    exact turn pre b post _ st e hv (hb ▸ paired_at hp _ hv hlt) q fun st' q' => by
      have := ih (pre ++ [b]) (by rw [e]; simp) st' q'
      rwa [List.length_append] at this
theorem end_then {h₀ : Heap} {L I C D : Addr} {m : Str → Option Value} {s₁ s₂ : Shared} {oI oC oD : Obj} {S : List (Addr × Obj) → Prop} {f g : Value → List (Addr × Obj) → Prop} {y : Value} (q : LCg.CompEnd h₀ L m s₁ I oI C oC D oD S f y s₂) (k : ∀ nw, f y nw → g y nw) :
    LCg.CompEnd h₀ L m s₁ I oI C oC D oD S g y s₂ :=
  let ⟨h', tk, nw, e, F, N, off, hS, r⟩ := q
  ⟨h', tk, nw, e, F, N, off, hS, k nw r⟩
section
variable {prog : Program} {w : World} {A : Around} {h₀ : Heap} {L : Addr} {m : Str → Option Value} {env : Env} {ct elt : Expr} {x : Str} {scope : Scope} {cl : List (Str × Addr)} {s : Shared} {S : List (Addr × Obj) → Prop} {Fin : List Value → List (Addr × Obj) → Prop} {news : List (Addr × Obj)}
open LCg LCt

theorem comp_paired {β : Type} {F : Value → β → Prop} {vs : List Value} {bs : List β} (hp : Paired F vs bs) (Inv : List β → List Value → List (Addr × Obj) → Prop) (h0 : Inv [] [] news)
    (turn : ∀ pre b post v ys news I oI C oC D m₂ h tk (E' : Value → Shared → Prop), bs = pre ++ b :: post → F v b → Inv pre ys news → NsObj oC m₂ → m₂ x = some v → Fr h₀ L h m → News h₀ L h ((I, oI) :: (C, oC) :: (D, lst ys) :: news) → Off3 I C D news → ((@Ne Nat I C) ∧ (@Ne Nat I D) ∧ (@Ne Nat C D)) →
      wpAny (model prog w) A (isTrue ct (compEnvC scope cl C env) (eval ct (compEnvC scope cl C env))) (fun ok s' => if ok = true then
        wpAny (model prog w) A (eval elt (compEnvC scope cl C env)) (CompEnd h₀ L m { s with heap := h, toks := tk } I oI C oC D (lst ys) S (fun y news' => Inv (pre ++ [b]) (ys ++ [y]) news')) E' s'
        else CompEnd h₀ L m { s with heap := h, toks := tk } I oI C oC D (lst ys) S (fun _ news' => Inv (pre ++ [b]) ys news') Value.none s') E' { s with heap := h, toks := tk })
    (fin : ∀ ys news, Inv bs ys news → Fin ys news) : CompRestT prog w A h₀ L m env ct elt x scope cl s S (fun i v => vs.toArray[i]? = some v) Fin vs.toArray.size 0 [] news := by
  rw [List.size_toArray]
  refine over_pairs hp (fun pre (st : List Value × List (Addr × Obj)) => Inv pre st.1 st.2) (fun j i st => CompRestT prog w A h₀ L m env ct elt x scope cl s S (fun i v => vs.toArray[i]? = some v) Fin j i st.1 st.2) (fun st q => CompRestT.zero (fin _ _ q)) (fun pre b post v st e hv hF q go => CompRestT.succ fun v' I oI C oC D m₂ h tk E' hv' hC hx F' N off ne => ?_) ([], news) h0
  obtain rfl : v = v' := Option.some.inj (hv.symm.trans (by simpa using hv'))
  refine wpAny_mono (turn pre b post v st.1 st.2 I oI C oC D m₂ h tk E' e hF q hC hx F' N off ne) (fun ok s₂ r => ?_) fun _ _ e => e
  by_cases hok : ok = true
  · rw [if_pos hok] at r ⊢
    exact wpAny_mono r (fun y _ r => end_then r fun nw k => go (st.1 ++ [y], nw) k) fun _ _ e => e
  · rw [if_neg hok] at r ⊢
    exact end_then r fun nw k => go (st.1, nw) k
end

section
variable {w : World} {A : Around} {h₀ : Heap} {L a dx l : Addr} {m : Str → Option Value} {s : Shared} {es : List DictEntry} {n : Nat} {expr : Bool} {Q : Value → Shared → Prop} {E : Value → Shared → Prop}
theorem inst_keeps {h h' : Heap} {x C : Addr} {ox : Obj} {od : Obj} (I : InstAt h x ox C (some od)) (k : Kp h h') : InstAt h' x ox C (some od) := by
  obtain ⟨h1, h2, h3, h4⟩ := I
  exact ⟨k _ _ h1, h2, h3, by revert h4; cases ox.dict <;> simp <;> exact fun e => k _ _ e⟩
theorem sh_rows (F : Fr h₀ L s.heap m) (X : (hd.heap_39 w.params).In h₀) (I : InstAt h₀ a (instObj 45 dx) 45 (some (dictOf es n))) (hg : getL "rows" es = some (some (.ref l))) (h : Q (.ref l) { s with toks := s.toks + 1 }) :
    wpAny (model PR w) A (getAttr (.ref a) "rows" expr) Q E s := by
  have mk : marker PySem.Challenge.rw_pb0148_01 hd.heap_39 := by w_top off; k_fill; exact trivial
  exact get_own F X (inst_keeps I F.keep) (by k_is) (by k_is) (by k_is) (by k_is) hg rfl h
theorem sh_back {ib : Bool} (F : Fr h₀ L s.heap m) (X : (hd.heap_39 w.params).In h₀) (I : InstAt h₀ a (instObj 45 dx) 45 (some (dictOf es n))) (hg : getL "is_backward" es = some (some (.bool ib))) (h : Q (.bool ib) { s with toks := s.toks + 1 }) :
    wpAny (model PR w) A (getAttr (.ref a) "is_backward" expr) Q E s := by
  have mk : marker PySem.Challenge.rw_pb0148_01 hd.heap_39 := by w_top off; k_fill; exact trivial
  exact get_own F X (inst_keeps I F.keep) (by k_is) (by k_is) (by k_is) (by k_is) hg rfl h
end

section
variable {α : Type} {p : α → Bool} {f : α → Int} {pre : List α} {r : α} {ys : List Value} {t : Tok}
theorem ints_snoc_yes (hys : IntsAre ys ((pre.filter p).map f)) (hp : p r = true) : IntsAre (ys ++ [.int (f r) t]) (((pre ++ [r]).filter p).map f) := by
  rw [List.filter_append, List.map_append]
  refine IntsAre.append hys ?_
  simp only [List.filter_cons, hp, if_true, List.filter_nil, List.map_cons, List.map_nil]
  exact .cons _ _ .nil
theorem ints_snoc_no (hys : IntsAre ys ((pre.filter p).map f)) (hp : p r = false) : IntsAre ys (((pre ++ [r]).filter p).map f) := by
  rw [List.filter_append, List.map_append]
  simpa [List.filter_cons, hp] using hys
end

theorem amb_of {w : World} {A : Around} {n : Nat} {h₀ h : Heap} {mean : ExcName → Option Value} {mg mb : Str → Option Value} (X : (hd.heap_39 w.params).In h₀) (T : Top hd.view_39 (looseW hd.view_39 []) mean mg mb h₀) (k : Kp h₀ h)
    (hh : A.handled = none) (hd' : A.depth + n < recursionLimit) (hu : A.units + 10 * n < cLine) : Amb w A n h := ⟨X.keeps k, ⟨mean, mg, mb, T.keeps k⟩, hh, hd', hu⟩

theorem ints_paired {vs : List Value} {ns : List Int} (h : IntsAre vs ns) : Paired (fun v n => ∃ t, v = .int n t) vs ns := by
  induction h with
  | nil => exact .nil
  | cons n t _ ih => exact .cons ⟨t, rfl⟩ ih

theorem IsRow.keeps {h h' : Heap} {v : Value} {r : Row} (x : IsRow h v r) (k : Kp h h') : IsRow h' v r :=
  let ⟨a, v0, t1, t2, v3, v4, v5, e, ht, r⟩ := x
  ⟨a, v0, t1, t2, v3, v4, v5, e, ht.keeps k, r⟩
theorem list_keeps {h h' : Heap} {a : Addr} {its : Array Value} (x : h.IsList a its) (k : Kp h h') : h'.IsList a its := let ⟨o, ho, r⟩ := x; ⟨o, k _ _ ho, r⟩
theorem ShapedAt.keeps {h h' : Heap} {a : Addr} {vs : List Value} {rs : List Row} (x : ShapedAt h a vs rs) (k : Kp h h') : ShapedAt h' a vs rs :=
  ⟨let ⟨dx, es, n, l, ib, I, g, g2, hl⟩ := x.ex; ⟨dx, es, n, l, ib, inst_keeps I k, g, g2, list_keeps hl k⟩, Paired.mono (fun _ _ r => r.keeps k) x.rows, x.few⟩

theorem led_list {h₀ h : Heap} {L l : Addr} {news : List (Addr × Obj)} {its : Array Value} {n : Nat} (N : News h₀ L h news) (hm : (l, PySem.W.listOf its n) ∈ news) : h.IsList l its := ⟨_, (N _ hm).1, rfl, n, rfl⟩
section
variable {prog : Program} {w : World} {A : Around} {E : Value → Shared → Prop} {s : Shared} {h₀ : Heap} {L l : Addr} {m : Str → Option Value} {news : List (Addr × Obj)} {vs : List Value} {n : Nat} {Q : Value → Shared → Prop}
theorem my_len (N : News h₀ L s.heap news) (hm : (l, PySem.W.listOf vs.toArray n) ∈ news) (hz : vs.length ≤ 1000) (h : Q (.int vs.length (s.toks + 1)) { s with toks := s.toks + 1 + 1 }) :
    wpAny (model prog w) A (call (.builtin "len") [.ref l]) Q E s :=
  call_len_list (led_list N hm) (by rw [List.size_toArray]; omega) (by rw [List.size_toArray]; exact h)
end

/-- the pen: [cells, great, state, place] -/
def PenObj (cells : Addr) (k : Int) (po : Obj) : Prop := ∃ g st t1 t2 t3 n, po = PySem.W.listOf [.ref cells, .int g t1, .int st t2, .int k t3].toArray n ∧ 0 ≤ st ∧ st < 2147483647
def CellsAt (h : Heap) (cells : Addr) : Prop := ∃ cs ns, h.IsList cells (List.toArray cs) ∧ IntsAre cs ns ∧ cs.length ≤ 1000
theorem CellsAt.keeps {h h' : Heap} {cells : Addr} (x : CellsAt h cells) (k : Kp h h') : CellsAt h' cells := let ⟨cs, ns, hl, r⟩ := x; ⟨cs, ns, list_keeps hl k, r⟩

theorem amb_hide {w : World} {A : Around} {n : Nat} {h₀ h : Heap} {L p : Addr} {o : Obj} {news : List (Addr × Obj)} {mean : ExcName → Option Value} {mg mb : Str → Option Value} (X : (hd.heap_39 w.params).In h₀) (T : Top hd.view_39 (looseW hd.view_39 []) mean mg mb h₀) (k : Kp h₀ h)
    (N : News h₀ L h news) (hm : (p, o) ∈ news)
    (hh : A.handled = none) (hd' : A.depth + n < recursionLimit) (hu : A.units + 10 * n < cLine) : Amb w A n (hideAll h [p]) := by
  have st : Kp h₀ (hideAll h [p]) := fun b o' e => hideAll_get _ (k b o' e) (by
    intro hb
    rw [List.mem_singleton] at hb
    subst hb
    have := (N _ hm).2.2
    rw [this] at e; cases e)
  exact ⟨X.keeps st, ⟨mean, mg, mb, T.keeps st⟩, hh, hd', hu⟩
section
variable {prog : Program} {w : World} {A : Around} {E : Value → Shared → Prop} {s : Shared} {h₀ : Heap} {L l : Addr} {m : Str → Option Value} {vs : List Value} {ns : List Int} {Q : Value → Shared → Prop}
theorem my_lenB (F : Fr h₀ L s.heap m) (hl : h₀.IsList l vs.toArray) (hz : vs.length ≤ 1000) (h : Q (.int vs.length (s.toks + 1)) { s with toks := s.toks + 1 + 1 }) :
    wpAny (model prog w) A (call (.builtin "len") [.ref l]) Q E s :=
  call_len_list (list_keeps hl F.keep) (by rw [List.size_toArray]; omega) (by rw [List.size_toArray]; exact h)
theorem my_item_int {value slice : PySem.Expr} {k : Int} {u : Tok} (hl : s.heap.IsList l vs.toArray) (hi : IntsAre vs ns) (h0 : 0 ≤ k) (hk : k < vs.length) (hhi : k < 2 ^ 63) (h : ∀ n t, ns[k.toNat]? = some n → Q (.int n t) s)
    (hs : subscripted slice false (.ref l) (.int k u) = operate [.ref l, .int k u] (getItem (.ref l) (.int k u)) := by with_unfolding_all rfl) :
    wpAny (model prog w) A (subscriptTail value slice (.ref l) (.int k u)) Q E s := by
  have hlt : k.toNat < vs.length := by omega
  obtain ⟨n, t, e1, e2⟩ := IntsAre.at hi k.toNat vs[k.toNat] (by simp [hlt])
  refine item_litK hl h0 hhi (v := .int n t) ?_ (h n t e2) hs
  rw [List.getElem?_eq_getElem hlt, e1]
end

section
variable {prog : Program} {w : World} {A : Around} {h₀ : Heap} {L : Addr} {m : Str → Option Value} {env : Env} {elt : Expr} {x : Str} {scope : Scope} {cl : List (Str × Addr)} {s : Shared} {S : List (Addr × Obj) → Prop} {Fin : List Value → List (Addr × Obj) → Prop} {news : List (Addr × Obj)}
open LCg LCt
theorem comp_paired_U {β : Type} {F : Value → β → Prop} {vs : List Value} {bs : List β} (hp : Paired F vs bs) (Inv : List β → List Value → List (Addr × Obj) → Prop) (h0 : Inv [] [] news)
    (turn : ∀ pre b post v ys news I oI C oC D m₂ h tk (E' : Value → Shared → Prop), bs = pre ++ b :: post → F v b → Inv pre ys news → NsObj oC m₂ → m₂ x = some v → Fr h₀ L h m → News h₀ L h ((I, oI) :: (C, oC) :: (D, lst ys) :: news) → Off3 I C D news → ((@Ne Nat I C) ∧ (@Ne Nat I D) ∧ (@Ne Nat C D)) →
      wpAny (model prog w) A (eval elt (compEnvC scope cl C env)) (CompEnd h₀ L m { s with heap := h, toks := tk } I oI C oC D (lst ys) S (fun y news' => Inv (pre ++ [b]) (ys ++ [y]) news')) E' { s with heap := h, toks := tk })
    (fin : ∀ ys news, Inv bs ys news → Fin ys news) : CompRest prog w A h₀ L m env elt x scope cl s S (fun i v => vs.toArray[i]? = some v) Fin vs.toArray.size 0 [] news := by
  rw [List.size_toArray]
  refine over_pairs hp (fun pre (st : List Value × List (Addr × Obj)) => Inv pre st.1 st.2) (fun j i st => CompRest prog w A h₀ L m env elt x scope cl s S (fun i v => vs.toArray[i]? = some v) Fin j i st.1 st.2) (fun st q => CompRest.zero (fin _ _ q)) (fun pre b post v st e hv hF q go => CompRest.succ fun v' I oI C oC D m₂ h tk E' hv' hC hx F' N off ne => ?_) ([], news) h0
  obtain rfl : v = v' := Option.some.inj (hv.symm.trans (by simpa using hv'))
  exact wpAny_mono (turn pre b post v st.1 st.2 I oI C oC D m₂ h tk E' e hF q hC hx F' N off ne) (fun y _ r => end_then r fun nw k => go (st.1 ++ [y], nw) k) fun _ _ e => e
end
theorem ints_snoc {α : Type} {f : α → Int} {pre : List α} {r : α} {ys : List Value} {t : Tok} (hys : IntsAre ys (pre.map f)) : IntsAre (ys ++ [.int (f r) t]) ((pre ++ [r]).map f) := by
  rw [List.map_append]
  exact IntsAre.append hys (.cons _ _ .nil)
theorem cells_ne {h : Heap} {cells pen c : Addr} {ys rest : List Value} {ns : List Int} {n k : Nat} (h1 : h.get? cells = some (PySem.W.listOf ys.toArray n)) (h2 : h.get? pen = some (PySem.W.listOf (.ref c :: rest).toArray k)) (hi : IntsAre ys ns) : cells ≠ pen := by
  intro e
  subst e
  rw [h1] at h2
  have e1 := Obj.mk.inj (Option.some.inj h2)
  have e2 := (Data.seq.inj e1.2.2.1).1
  have e3 : ys = .ref c :: rest := by simpa using e2
  subst e3
  cases hi


theorem valueAt_app {K : Type} [DecidableEq K] (kvs : List (K × Value)) (k : K) (v : Value) (y : K) (h : valueAt kvs y = none ∨ y ≠ k) : valueAt (kvs ++ [(k, v)]) y = if y = k then some v else valueAt kvs y := by
  unfold valueAt at h ⊢
  rw [List.find?_append]
  by_cases e : y = k
  · subst e
    rcases h with h | h
    · rw [Option.map_eq_none_iff] at h
      simp [h]
    · exact absurd rfl h
  · rw [if_neg e]
    have e' : ¬ k = y := fun q => e q.symm
    simp [e']
theorem valueAt_map {K : Type} [DecidableEq K] (k : K) (v : Value) (y : K) : ∀ (kvs : List (K × Value)), kvs.any (fun kv => kv.1 = k) = true ∨ y ≠ k → valueAt (kvs.map fun kv => if kv.1 = k then (kv.1, v) else kv) y = if y = k then some v else valueAt kvs y
  | [], h => by
    rcases h with h | h
    · cases h
    · rw [if_neg h]; rfl
  | (k', v') :: r, h => by
    have ih := valueAt_map k v y r
    unfold valueAt at ih ⊢
    by_cases e : k' = k
    · subst e
      by_cases e2 : y = k'
      · subst e2; simp
      · have e3 : ¬ k' = y := fun q => e2 q.symm
        rw [if_neg e2] at ih ⊢
        simpa [e3] using ih (.inr e2)
    · by_cases e2 : y = k
      · subst e2
        have h' : r.any (fun kv => kv.1 = y) = true := by
          rcases h with h | h
          · simpa [e] using h
          · exact absurd rfl h
        rw [if_pos rfl] at ih ⊢
        simpa [e] using ih (.inl h')
      · rw [if_neg e2] at ih ⊢
        by_cases e3 : k' = y
        · subst e3; simp [e]
        · simpa [e, e3] using ih (.inr e2)
theorem valueAt_stored {K : Type} [DecidableEq K] (kvs : List (K × Value)) (k : K) (v : Value) (y : K) : valueAt (stored kvs k v) y = if y = k then some v else valueAt kvs y := by
  unfold stored
  by_cases ha : kvs.any (fun kv => kv.1 = k)
  · rw [if_pos ha]
    exact valueAt_map k v y kvs (.inl ha)
  · rw [if_neg ha]
    refine valueAt_app kvs k v y ?_
    by_cases e : y = k
    · subst e
      left
      unfold valueAt
      rw [Option.map_eq_none_iff, List.find?_eq_none]
      intro x hx
      simp only [List.any_eq_true, not_exists, not_and] at ha
      exact ha x hx
    · exact .inr e


section
variable {prog : Program} {w : World} {A : Around} {E : Value → Shared → Prop} {s : Shared} {env : Env} {h₀ : Heap} {x : Str} {px : Pos} {body : List Stmt} {Q : Flow → Shared → Prop}

/-- what stands in h outside of wr stands in h' -/
def Past (wr : List Addr) (h h' : Heap) : Prop := ∀ b o, b ∉ wr → h.get? b = some o → h'.get? b = some o
theorem Past.fr {wr : List Addr} {h h' : Heap} {L : Addr} {m : Str → Option Value} (k : Past wr h h') (hL : L ∉ wr) (hwr : ∀ b ∈ wr, h₀.get? b = none) (F : Fr h₀ L h m) : Fr h₀ L h' m where
  ns := F.ns.at' fun _ e => k _ _ hL e
  keep := fun b o e => k b o (fun q => by rw [hwr b q] at e; cases e) (F.keep b o e)
  above := F.above
theorem Past.news {wr : List Addr} {h h' : Heap} {L : Addr} {led : List (Addr × Obj)} (k : Past wr h h') (hled : ∀ p ∈ led, p.1 ∉ wr) (N : News h₀ L h led) : News h₀ L h' led :=
  fun p hp => ⟨k _ _ (hled p hp) (N p hp).1, (N p hp).2⟩
theorem Past.then {wr : List Addr} {h h' h'' : Heap} (k : Past wr h h') (q : ∀ b o, h'.get? b = some o → h''.get? b = some o) : Past wr h h'' := fun b o hb e => q b o (k b o hb e)

def ForEnd (h₀ : Heap) (L I : Addr) (oI : Obj) (J : (Str → Option Value) → List (Addr × Obj) → Prop) (s₀ s' : Shared) : Prop :=
  ∃ h' tk m' nx', s' = { s₀ with heap := h', toks := tk } ∧ Fr h₀ L h' m' ∧ News h₀ L h' ((I, oI) :: nx') ∧ (∀ p ∈ nx', p.1 ≠ I) ∧ J m' nx'
def ForPost (h₀ : Heap) (L I : Addr) (oI : Obj) (J : (Str → Option Value) → List (Addr × Obj) → Prop) (s₀ : Shared) (Q : Flow → Shared → Prop) (f : Flow) (s' : Shared) : Prop :=
  match f with
  | .ret v => Q (.ret v) s'
  | .brk => Q .next s'
  | _ => ForEnd h₀ L I oI J s₀ s'

theorem for_loop {I : Addr} {fp : List Addr} {n : Nat} {P : Nat → Value → Prop} {St : Nat → Heap → Prop} {m : Str → Option Value} {nx : List (Addr × Obj)} (J : Nat → (Str → Option Value) → List (Addr × Obj) → Prop)
    (W : Walks prog w A I fp [I] n P St) (hx : env.kindOf x = some .local) (hp : (env.scope.kind == .class || (env.scope.kind == .module && env.locals != env.globals)) = false)
    (hLf : env.locals ∉ fp) (hI0 : h₀.get? I = none) (hoff : ∀ p ∈ nx, p.1 ≠ I) (hIo : ∀ i h, St i h → ∃ o, h.get? I = some o)
    (hSt : ∀ i h h' o, St i h → h.get? I = some o → h'.get? I = some o → (∀ b o, h₀.get? b = some o → h'.get? b = some o) → St i h')
    (hst : St 0 s.heap) (F : Fr h₀ env.locals s.heap m) (N : News h₀ env.locals s.heap nx) (hj : J 0 m nx)
    (turn : ∀ i v m₁ nx h tk oI, i < n → P i v → J i m₁ nx → Fr h₀ env.locals h (fun y => if y = x then some v else m₁ y) → News h₀ env.locals h ((I, oI) :: nx) → (∀ p ∈ nx, p.1 ≠ I) →
      wpAny (model prog w) A (execs body env) (ForPost h₀ env.locals I oI (J (i + 1)) s Q) (fun _ _ => False) { s with heap := h, toks := tk })
    (done : ∀ m₁ nx h tk, J n m₁ nx → Fr h₀ env.locals h m₁ → News h₀ env.locals h nx → Q .next { s with heap := h, toks := tk }) :
    codeAny (model prog w) A (.forLoop (.Name x px) (.ref I) body [] env) (fun r s' => match r with | .ok f => Q f s' | .error e => cameBackBy (model prog w) A env E e s') s := by
  have hIL : I ≠ env.locals := fun e => hLf (e ▸ W.sub I (List.mem_singleton.mpr rfl))
  have hL : env.locals ∉ [I] := fun q => hIL (List.mem_singleton.mp q).symm
  have hwr : ∀ b ∈ [I], h₀.get? b = none := fun b q => List.mem_singleton.mp q ▸ hI0
  have free : ∀ {l : List (Addr × Obj)}, (∀ p ∈ l, p.1 ≠ I) → ∀ p ∈ l, p.1 ∉ [I] := fun q p hp e => q p hp (List.mem_singleton.mp e)
  refine codeAny_forLoop (fun k s' => ∃ i g tk m' l, i + k = n ∧ s' = { s with heap := g, toks := tk } ∧ St i g ∧ Fr h₀ env.locals g m' ∧ News h₀ env.locals g l ∧ (∀ p ∈ l, p.1 ≠ I) ∧ J i m' l) ?_ n ⟨0, _, _, m, nx, Nat.zero_add n, rfl, hst, F, N, hoff, hj⟩
  rintro k s' ⟨i, g, tk, m', l, hik, rfl, st, Fg, Ng, off, hJ⟩
  cases k with
  | zero =>
    obtain rfl : i = n := hik
    refine W.done _ _ _ st fun g₁ tk₁ k₁ => ?_
    have k₁ : Past [I] g g₁ := k₁
    exact wpAny_execs_nil (done m' l g₁ tk₁ hJ (k₁.fr hL hwr Fg) (k₁.news (free off) Ng))
  | succ k =>
    have hlt : i < n := by omega
    refine W.item i _ _ _ hlt st fun v g₁ tk₁ hP st₁ k₁ => ?_
    have k₁ : Past [I] g g₁ := k₁
    have F₁ := k₁.fr hL hwr Fg
    refine wpAny_assign_Name (wpAny_storeName_local hx F₁.ns (fun g₂ hn hs => ?_) hp)
    have up := fun b (hb : b ≠ env.locals) (o : Obj) (e : g₁.get? b = some o) => (hs.2 b hb).trans e
    have st₂ : St (i + 1) g₂ := W.frame _ _ _ st₁ fun b hb o e => up b (fun q => hLf (q ▸ hb)) o e
    obtain ⟨oI, eI⟩ := hIo _ _ st₂
    have N₂ : News h₀ env.locals g₂ ((I, oI) :: l) := fun p hp => (List.mem_cons.mp hp).elim (fun e => e ▸ ⟨eI, hIL, hI0⟩) ((k₁.news (free off) Ng).set hs p)
    have on : ∀ s₃, ForEnd h₀ env.locals I oI (J (i + 1)) s s₃ → ∃ k', k' < k + 1 ∧ ∃ i g tk m' l, i + k' = n ∧ s₃ = { s with heap := g, toks := tk } ∧ St i g ∧ Fr h₀ env.locals g m' ∧ News h₀ env.locals g l ∧ (∀ p ∈ l, p.1 ≠ I) ∧ J i m' l :=
      fun _ ⟨g₃, tk₃, m₃, l₃, e, F₃, N₃, off₃, J₃⟩ => ⟨k, Nat.lt_succ_self k, i + 1, g₃, tk₃, m₃, l₃, by omega, e, hSt _ _ _ _ st₂ eI (N₃ (I, oI) List.mem_cons_self).1 F₃.keep, F₃, fun p hp => N₃ p (List.mem_cons_of_mem _ hp), off₃, J₃⟩
    refine wpAny_mono (turn i v m' l _ _ oI hlt hP hJ (F₁.set hn hs) N₂ off) (fun f s₃ q => ?_) fun _ _ e => e.elim
    match f, q with
    | .ret _, q => exact q
    | .brk, q => exact q
    | .cont, q => exact on s₃ q
    | .next, q => exact on s₃ q

theorem for_range {r : Addr} {a₀ b₀ : Int} {t₀ u₀ v₀ : Tok} {n : Nat} {m : Str → Option Value} {nx : List (Addr × Obj)} (J : Nat → (Str → Option Value) → List (Addr × Obj) → Prop)
    (hh : A.handled = none) (hr : IsRange s.heap r a₀ b₀ 1 t₀ u₀ v₀) (hsmall : Builtin.Range.small a₀ b₀ 1 = true) (hn : Builtin.Range.rangeSize a₀ b₀ 1 = (n : Int))
    (hx : env.kindOf x = some .local) (hp : (env.scope.kind == .class || (env.scope.kind == .module && env.locals != env.globals)) = false)
    (F : Fr h₀ env.locals s.heap m) (N : News h₀ env.locals s.heap nx) (hj : J 0 m nx)
    (turn : ∀ i t m₁ nx h tk I oI, i < n → J i m₁ nx → Fr h₀ env.locals h (fun y => if y = x then some (.int (a₀ + (i : Int)) t) else m₁ y) → News h₀ env.locals h ((I, oI) :: nx) → (∀ p ∈ nx, p.1 ≠ I) →
      wpAny (model prog w) A (execs body env) (ForPost h₀ env.locals I oI (J (i + 1)) s Q) (fun _ _ => False) { s with heap := h, toks := tk })
    (done : ∀ m₁ nx h tk, J n m₁ nx → Fr h₀ env.locals h m₁ → News h₀ env.locals h nx → Q .next { s with heap := h, toks := tk }) :
    wpAny (model prog w) A (pyIter (.ref r)) (fun it s₂ => codeAny (model prog w) A (.forLoop (.Name x px) it body [] env) (fun r s' => match r with | .ok f => Q f s' | .error e => cameBackBy (model prog w) A env E e s') s₂) E s := by
  refine wpAny_pyIter_range hr hsmall ?_
  refine for_loop (s := { s with heap := _ }) (fp := [s.heap.objs.size]) J (LCg.range_walks hh a₀ n) hx hp ?_ (next_is_new F) (fun p hp => Nat.ne_of_lt (Heap.lt_size (N p hp).1)) (fun i h st => ⟨_, st⟩) ?_ (by show IsRangeIter _ _ _ _ _; rw [hn]; simpa using Heap.get?_push_size _ rfl)
    (F.keeps fun _ _ e => Heap.get?_push_of_some _ e) (N.grown fun _ _ e => Heap.get?_push_of_some _ e) hj ?_ done
  · intro hm
    exact absurd F.ns.lt ((List.mem_singleton.mp hm) ▸ Nat.lt_irrefl _)
  · intro i h h' o st e e' _
    have st' : h.get? s.heap.objs.size = some _ := st
    show h'.get? s.heap.objs.size = some _
    rw [e', ← e]; exact st'
  · rintro i v m₁ nx h tk oI hi ⟨t, rfl⟩ hJ F₁ N₁ hoff
    exact turn i t m₁ nx h tk _ oI hi hJ F₁ N₁ hoff

theorem for_base {ax : Addr} {vs : List Value} {m : Str → Option Value} {nx : List (Addr × Obj)} (J : Nat → (Str → Option Value) → List (Addr × Obj) → Prop)
    (hh : A.handled = none) (hl : h₀.IsList ax vs.toArray)
    (hx : env.kindOf x = some .local) (hp : (env.scope.kind == .class || (env.scope.kind == .module && env.locals != env.globals)) = false)
    (F : Fr h₀ env.locals s.heap m) (N : News h₀ env.locals s.heap nx) (hj : J 0 m nx)
    (turn : ∀ i v m₁ nx h tk I oI, vs[i]? = some v → J i m₁ nx → Fr h₀ env.locals h (fun y => if y = x then some v else m₁ y) → News h₀ env.locals h ((I, oI) :: nx) → (∀ p ∈ nx, p.1 ≠ I) →
      wpAny (model prog w) A (execs body env) (ForPost h₀ env.locals I oI (J (i + 1)) s Q) (fun _ _ => False) { s with heap := h, toks := tk })
    (done : ∀ m₁ nx h tk, J vs.length m₁ nx → Fr h₀ env.locals h m₁ → News h₀ env.locals h nx → Q .next { s with heap := h, toks := tk }) :
    wpAny (model prog w) A (pyIter (.ref ax)) (fun it s₂ => codeAny (model prog w) A (.forLoop (.Name x px) it body [] env) (fun r s' => match r with | .ok f => Q f s' | .error e => cameBackBy (model prog w) A env E e s') s₂) E s := by
  have hls := list_keeps hl F.keep
  have hlt : ax < h₀.objs.size := by obtain ⟨_, e, _⟩ := hl; exact Heap.lt_size e
  have hlt' : ax < s.heap.objs.size := by obtain ⟨_, e, _⟩ := hls; exact Heap.lt_size e
  refine wpAny_pyIter_list hls ?_
  refine for_loop (s := { s with heap := _ }) (I := s.heap.objs.size) (fp := [s.heap.objs.size, ax]) (n := vs.length) (P := fun i v => vs.toArray[i]? = some v) (St := fun i h => h.IsListIter s.heap.objs.size ax i ∧ h.IsList ax vs.toArray) J (by have W := Walks.list (prog := prog) (w := w) hh s.heap.objs.size ax (Nat.ne_of_lt hlt') vs.toArray; rw [List.size_toArray] at W; exact W) hx hp ?_ (next_is_new F) (fun p hp => Nat.ne_of_lt (Heap.lt_size (N p hp).1)) (fun i h st => by obtain ⟨o, e, _⟩ := st.1; exact ⟨o, e⟩) ?_
    ⟨⟨_, Heap.get?_push_size _ rfl, rfl, rfl⟩, hls.push _⟩ (F.keeps fun _ _ e => Heap.get?_push_of_some _ e) (N.grown fun _ _ e => Heap.get?_push_of_some _ e) hj ?_ done
  · intro hm
    rcases List.mem_cons.mp hm with e | hm
    · exact absurd F.ns.lt (e ▸ Nat.lt_irrefl _)
    · exact absurd (Nat.lt_of_lt_of_le hlt F.above) ((List.mem_singleton.mp hm) ▸ Nat.lt_irrefl _)
  · intro i h h' o st e e' k
    exact ⟨by obtain ⟨o', q, r⟩ := st.1; exact ⟨o', by rw [e', ← e]; exact q, r⟩, list_keeps hl k⟩
  · intro i v m₁ nx h tk oI _ hP hJ F₁ N₁ hoff
    exact turn i v m₁ nx h tk _ oI (by simpa using hP) hJ F₁ N₁ hoff
end

theorem fr_of {h₀ h : Heap} {L : Addr} {x : Str} {m₁ : Str → Option Value} {v : Option Value} {ps : List (Str × Value)} (h1 : ∀ p ∈ ps, m₁ p.1 = some p.2) (F : Fr h₀ L h (fun y => if y = x then v else m₁ y)) :
    Fr h₀ L h (fun y => if y = x then v else kstB m₁ ps y) := by
  have e : kstB m₁ ps = m₁ := funext fun z => kstB_eq h1 fun _ => rfl
  rw [e]; exact F
theorem fr_of' {h₀ h : Heap} {L : Addr} {m₁ : Str → Option Value} {ps : List (Str × Value)} (h1 : ∀ p ∈ ps, m₁ p.1 = some p.2) (F : Fr h₀ L h m₁) :
    Fr h₀ L h (fun y => kstB m₁ ps y) := by
  have e : kstB m₁ ps = m₁ := funext fun z => kstB_eq h1 fun _ => rfl
  rw [e]; exact F

/-- a row's tuple as an object -/
def RowObj (o : Obj) (r : Row) : Prop :=
  ∃ v0 t1 t2 v3 v4 v5 n, o = { cls := .type "tuple", data := .seq (List.toArray [v0, .int r.cl t1, .int r.adv t2, v3, v4, v5, .bool r.un]) n } ∧ handedIn v0 = true ∧ handedIn v3 = true ∧ handedIn v4 = true ∧ handedIn v5 = true
def RowIn (led : List (Addr × Obj)) (v : Value) (r : Row) : Prop := ∃ a o, v = .ref a ∧ (a, o) ∈ led ∧ RowObj o r
theorem RowIn.isRow {h₀ h : Heap} {L : Addr} {led : List (Addr × Obj)} {v : Value} {r : Row} (x : RowIn led v r) (N : News h₀ L h led) : IsRow h v r := by
  obtain ⟨a, o, rfl, hm, v0, t1, t2, v3, v4, v5, n, rfl, q⟩ := x
  exact ⟨a, v0, t1, t2, v3, v4, v5, rfl, ⟨_, (N _ hm).1, rfl, n, rfl⟩, q⟩
theorem RowIn.more {led led' : List (Addr × Obj)} {v : Value} {r : Row} (x : RowIn led v r) (k : ∀ p ∈ led, p ∈ led') : RowIn led' v r :=
  let ⟨a, o, e, hm, q⟩ := x
  ⟨a, o, e, k _ hm, q⟩

theorem fr_pen {h₀ h h' : Heap} {L pen : Addr} {po : Obj} {m : Str → Option Value} {led : List (Addr × Obj)} (F : Fr h₀ L h m) (N : News h₀ L h led) (hm : (pen, po) ∈ led) (k : ∀ b o, b ≠ pen → h.get? b = some o → h'.get? b = some o) : Fr h₀ L h' m := by
  have hL := (N _ hm).2.1
  have h0 := (N _ hm).2.2
  exact ⟨F.ns.at' fun o e => k L o (Ne.symm hL) e, fun b o e => k b o (fun q => by subst q; rw [show h₀.get? b = none from h0] at e; cases e) (F.keep b o e), F.above⟩
theorem news_pen {h₀ h h' : Heap} {L pen : Addr} {po po' : Obj} {led led' : List (Addr × Obj)} (N : News h₀ L h led) (U : Upd pen po po' led led') (k : ∀ b o, b ≠ pen → h.get? b = some o → h'.get? b = some o) (g : h'.get? pen = some po') : News h₀ L h' led' := by
  obtain ⟨pre, post, rfl, rfl, a, b⟩ := U.split
  intro p hp
  rcases List.mem_append.mp hp with q | q
  · have P := N p (List.mem_append_left _ q); exact ⟨k _ _ (a p q) P.1, P.2⟩
  · rcases List.mem_cons.mp q with rfl | q
    · exact ⟨g, (N (pen, po) (by simp)).2⟩
    · have P := N p (List.mem_append_right _ (.tail _ q)); exact ⟨k _ _ (b p q) P.1, P.2⟩

theorem my_append {prog : Program} {w : World} {A : Around} {E : Value → Shared → Prop} {s : Shared} {h₀ : Heap} {L l : Addr} {m : Str → Option Value} {news news' : List (Addr × Obj)} {vs : List Value} {n : Nat} {v : Value} {Q : Value → Shared → Prop}
    (F : Fr h₀ L s.heap m) (N : News h₀ L s.heap news) (U : Upd l (PySem.W.listOf vs.toArray n) (PySem.W.listOf (vs ++ [v]).toArray (n + 1)) news news') (hz : vs.length ≤ 1000)
    (h : ∀ h', Fr h₀ L h' m → News h₀ L h' news' → Q .none { s with heap := h' }) : wpAny (model prog w) A (call (.builtin "list.append") [.ref l, v]) Q E s := by
  have hm : (l, PySem.W.listOf vs.toArray n) ∈ news := by
    obtain ⟨pre, post, rfl, _, _, _⟩ := U.split
    simp
  refine append_at (N _ hm).1 (fun h' hs hg => h h' (fr_pen F N hm fun b o hb e => hs.extBut b o hb e) (news_pen N U (fun b o hb e => hs.extBut b o hb e) ?_)) (by rw [List.size_toArray, PySem.sizeLine_eq]; omega)
  rw [hg]
  simp [PySem.W.listOf]

theorem fresh_lt {h₀ h : Heap} {L D : Addr} {news : List (Addr × Obj)} (N : News h₀ L h news) (f : h.get? D = none) : ∀ p ∈ news, p.1 ≠ D := fun p hp e => by
  have := (N p hp).1
  rw [e, f] at this; cases this
theorem news_new {h₀ h h' : Heap} {L D : Addr} {o : Obj} {m : Str → Option Value} {news : List (Addr × Obj)} (F : Fr h₀ L h m) (N : News h₀ L h news) (k : Kp h h') (f : h.get? D = none) (g : h'.get? D = some o) : News h₀ L h' ((D, o) :: news) := fun p hp => by
  rcases List.mem_cons.mp hp with rfl | hp
  · refine ⟨g, ?_, ?_⟩
    · rintro rfl
      obtain ⟨oL, _, _, e, _⟩ := F.ns
      rw [show h.get? D = none from f] at e; cases e
    · cases q : h₀.get? D with
      | none => rfl
      | some o' => have := F.keep _ _ q; rw [show h.get? D = none from f] at this; cases this
  · exact ⟨k _ _ (N p hp).1, (N p hp).2⟩
theorem my_add_lists {prog : Program} {w : World} {A : Around} {E : Value → Shared → Prop} {s : Shared} {h₀ : Heap} {L : Addr} {m : Str → Option Value} {news : List (Addr × Obj)} {l b : Addr} {vs ws : List Value} {Q : Value → Shared → Prop} (F : Fr h₀ L s.heap m) (N : News h₀ L s.heap news) (hl : s.heap.IsList l vs.toArray) (hb : s.heap.IsList b ws.toArray) (h1 : vs.length ≤ 1000) (h2 : ws.length ≤ 1000)
    (h : ∀ D h', Fr h₀ L h' m → News h₀ L h' ((D, PySem.W.listOf (vs ++ ws).toArray 0) :: news) → (∀ p ∈ news, p.1 < D) → Q (.ref D) { s with heap := h' }) :
    wpAny (model prog w) A (binaryOp .Add (.ref l) (.ref b)) Q E s :=
  add_lists F N hl hb (fun h' F' N' => h _ h' F' N' fun p hp => Heap.lt_size (N p hp).1) (by rw [PySem.sizeLine_eq]; omega)
theorem news_two {h₀ h : Heap} {L : Addr} {x y : Addr × Obj} {r : List (Addr × Obj)} (N : News h₀ L h (x :: y :: r)) : News h₀ L h [x, y] := fun p hp => N p (by
  simp only [List.mem_cons, List.not_mem_nil, or_false] at hp
  rcases hp with rfl | rfl <;> simp)

/-- these objects are new in h' -/
def FreshIn (h h' : Heap) (l : List (Addr × Obj)) : Prop := ∀ p ∈ l, h.get? p.1 = none ∧ h'.get? p.1 = some p.2
theorem fresh_of {h h' : Heap} {L : Addr} {led l : List (Addr × Obj)} (N : News h L h' led) (k : ∀ p ∈ l, p ∈ led) : FreshIn h h' l := fun p hp => ⟨(N _ (k p hp)).2.2, (N _ (k p hp)).1⟩
theorem news_fresh {h₀ h h' : Heap} {L : Addr} {l : List (Addr × Obj)} {m : Str → Option Value} {news : List (Addr × Obj)} (F : Fr h₀ L h m) (N : News h₀ L h news) (k : Kp h h') (f : FreshIn h h' l) : News h₀ L h' (news ++ l) := fun p hp => by
  rcases List.mem_append.mp hp with hp | hp
  · exact ⟨k _ _ (N p hp).1, (N p hp).2⟩
  · exact news_new F N k (f p hp).1 (f p hp).2 p List.mem_cons_self
theorem fresh_cons {h h' : Heap} {l : List (Addr × Obj)} {D : Addr} {o : Obj} (f : h.get? D = none) (g : h'.get? D = some o) (q : FreshIn h h' l) : FreshIn h h' ((D, o) :: l) := List.forall_mem_cons.mpr ⟨⟨f, g⟩, q⟩


section
variable {prog : Program} {w : World} {A : Around} {E : Value → Shared → Prop} {s : Shared} {h₀ : Heap} {L : Addr} {m : Str → Option Value} {news : List (Addr × Obj)}

/-- a slice's three fields, read -/
theorem slice_read {sl : Addr} {a b c : Value} {Q : Value × Value × Value → Shared → Prop} (hs : s.heap.IsSliceOf sl a b c) (h : Q (a, b, c) s) : wpAny (model prog w) A (Builtin.Slice.sliceFields (.ref sl)) Q E s :=
  let ⟨_, ho, _, hd⟩ := hs
  wpAny_bind (wpAny_field ho hd rfl (wpAny_bind (wpAny_field ho hd rfl (wpAny_bind (wpAny_field ho hd rfl (wpAny_pure h))))))
theorem slice_part {v : Value} {i : Option Int} {Q : Option Int → Shared → Prop} (p : IsPart v i) (h : Q i s) : wpAny (model prog w) A (Builtin.Slice.slicePartIndex v) Q E s := by
  cases p with
  | none => exact slicePart_none h
  | int => exact slicePart_int h
/-- a slice without a step, laid on a length -/
theorem slice_laid {sl : Addr} {a b : Value} {i j : Option Int} {n : Nat} {Q : Int × Int × Nat → Shared → Prop} (hs : s.heap.IsSliceOf sl a b .none) (pa : IsPart a i) (pb : IsPart b j)
    (h : ∀ lo hi, Builtin.Slice.sliceAdjust i j 1 (n : Int) = (lo, hi) → Q (lo, 1, Builtin.Slice.slicePlaces lo hi 1) s) : wpAny (model prog w) A (Builtin.Slice.sliceApplied (.ref sl) (pure (n : Int))) Q E s :=
  wpAny_bind (slice_read hs (wpAny_bind (slicePart_none (wpAny_bind (slice_part pa (wpAny_bind (slice_part pb (wpAny_bind (wpAny_pure (wpAny_pure (h _ _ rfl)))))))))))
theorem first_one {n : Nat} (hn : 1 ≤ n) : Builtin.Slice.sliceAdjust none (some 1) 1 (n : Int) = (0, 1) := by
  have : min (1 : Int) n = 1 := by omega
  simp [Builtin.Slice.sliceAdjust, this]

/-- t[a:b] of a tuple, where the slice is not the whole of it -/
theorem tuple_cut {t sl : Addr} {items : Array Value} {lo : Int} {k : Nat} {Q : Value → Shared → Prop} (ht : IsTup s.heap t items) (hT : s.TypeIs (.ref sl) "slice") (hk : k ≠ items.size) (hks : k ≤ sizeLine)
    (hap : ∀ (B : Around) (Q' : Int × Int × Nat → Shared → Prop) (E' : Value → Shared → Prop), Q' (lo, 1, k) s → wpAny (model prog w) B (Builtin.Slice.sliceApplied (.ref sl) (pure (items.size : Int))) Q' E' s)
    (h : Q (.ref s.heap.objs.size) { s with heap := s.heap.push { cls := .type "tuple", data := .seq ((List.range k).filterMap fun (j : Nat) => items[(lo + (j : Int) * 1).toNat]?).toArray } }) : wpAny (model prog w) A (getItem (.ref t) (.ref sl)) Q E s := by
  have hroom : sizeOk (.seq ((List.range k).filterMap fun (j : Nat) => items[(lo + (j : Int) * 1).toNat]?).toArray) := by
    have := List.length_filterMap_le (fun (j : Nat) => items[(lo + (j : Int) * 1).toNat]?) (List.range k)
    rw [List.length_range] at this
    show _ ≤ sizeLine
    rw [List.size_toArray]
    exact Nat.le_trans this hks
  have hpart : (lo == 0 && (1 : Int) == 1 && k == items.size) = false := by simp [hk]
  have hbody : ∀ (B : Around) (Q' : Fin → Shared → Prop) (E' : Value → Shared → Prop), Q' (.done (.ret (.ref s.heap.objs.size))) { s with heap := s.heap.push { cls := .type "tuple", data := .seq ((List.range k).filterMap fun (j : Nat) => items[(lo + (j : Int) * 1).toNat]?).toArray } } →
      wpAny (model prog w) B (Builtin.«tuple.__getitem__» ⟨[.ref t, .ref sl], []⟩) Q' E' s := fun B Q' E' hq => by
    refine wpAny_bind (wpAny_pure (wpAny_bind (tupleItemsOf_ ht (wpAny_bind (wpAny_typeOf hT (wpAny_bind (hap B _ _ ?_)))))))
    dsimp only
    rw [hpart]
    exact wpAny_bind (wpAny_newObj_type (wpAny_pure hq) hroom)
  exact wpAny_holding (wpAny_bind (wpAny_sequenceKey ht.typeIs (by decide) (wpAny_bind (wpAny_callSpecial?_slot (name := Str.ofString "__getitem__") ht.typeIs slot_tuple_getitem (wpAny_call_entry slot_tuple_getitem ht.typeIs entry_tuple_getitem (hbody _ _ _ ⟨_, rfl, wpAny_pure h⟩) (args_tuple_getitem _ _))))))

theorem slice_tuple_one {value slice : Expr} {t : Addr} {v0 v1 : Value} {vs : List Value} {u : Tok} {Q : Value → Shared → Prop}
    (F : Fr h₀ L s.heap m) (N : News h₀ L s.heap news) (ht : IsTup s.heap t (v0 :: v1 :: vs).toArray)
    (h : ∀ D h', Fr h₀ L h' m → News h₀ L h' ((D, { cls := .type "tuple", data := .seq [v0].toArray }) :: news) → (∀ p ∈ news, p.1 < D) → Q (.ref D) { s with heap := h' })
    (hs : subscripted slice false (.ref t) (.ref s.heap.objs.size) = operate [.ref s.heap.objs.size, .ref t] (getItem (.ref t) (.ref s.heap.objs.size)) := by with_unfolding_all rfl)
    (hg : ∀ r, letTemporaryGo value (.ref t) r = pure () := by intro _; with_unfolding_all rfl) :
    wpAny (model prog w) A (subscriptTail value slice (.ref t) (.ref s.heap.objs.size)) Q E { s with heap := s.heap.push { cls := .type "slice", data := .fields #[.none, .int 1 u, .none] } } := by
  have keep : ∀ b o, s.heap.get? b = some o → (s.heap.push { cls := .type "slice", data := .fields #[.none, .int 1 u, .none] }).get? b = some o := fun _ _ e => Heap.get?_push_of_some _ e
  have hS : (s.heap.push { cls := .type "slice", data := .fields #[.none, .int 1 u, .none] }).IsSliceOf s.heap.objs.size .none (.int 1 u) .none := Heap.IsSliceOf.new ..
  have hz : (s.heap.push { cls := .type "slice", data := .fields #[.none, .int 1 u, .none] }).objs.size = s.heap.objs.size + 1 := Heap.size_push ..
  generalize s.heap.push { cls := .type "slice", data := .fields #[.none, .int 1 u, .none] } = g at keep hS hz ⊢
  have htg := ht.keeps keep
  have hSt : Shared.TypeIs { s with heap := g } (.ref s.heap.objs.size) "slice" := let ⟨_, ho, hc, _⟩ := hS; ⟨_, ho, hc⟩
  refine subscriptTail_ops (s := { s with heap := g }) htg.typeIs slot_tuple_getitem.lookup (tuple_cut (lo := 0) (k := 1) htg hSt (by simp) (by decide) (fun B Q' E' hq => slice_laid hS .none (.int 1 u) fun lo hi e => ?_) ?_) hs hg
  · rw [first_one (by simp)] at e
    cases e
    exact hq
  · have e : ((List.range 1).filterMap fun (j : Nat) => (v0 :: v1 :: vs).toArray[((0 : Int) + (j : Int) * 1).toNat]?).toArray = [v0].toArray := by simp [List.range_succ]
    rw [e]
    have Fg := F.keeps keep
    exact h _ _ (Fg.push _) (News.push Fg (N.grown keep) _) fun p hp => Heap.lt_size (keep _ _ (N p hp).1)

theorem slice_tuple_from' {value slice : Expr} {t : Addr} {vs : List Value} {k : Int} {u : Tok} {Q : Value → Shared → Prop}
    (F : Fr h₀ L s.heap m) (N : News h₀ L s.heap news) (ht : IsTup s.heap t vs.toArray) (h1 : 1 ≤ k) (ha : k ≤ vs.length) (hl : vs.length ≤ 1000)
    (h : ∀ D h', Fr h₀ L h' m → News h₀ L h' ((D, { cls := .type "tuple", data := .seq (vs.drop k.toNat).toArray }) :: news) → (∀ p ∈ news, p.1 < D) → Q (.ref D) { s with heap := h' })
    (hs : subscripted slice false (.ref t) (.ref s.heap.objs.size) = operate [.ref s.heap.objs.size, .ref t] (getItem (.ref t) (.ref s.heap.objs.size)) := by with_unfolding_all rfl)
    (hg : ∀ r, letTemporaryGo value (.ref t) r = pure () := by intro _; with_unfolding_all rfl) :
    wpAny (model prog w) A (subscriptTail value slice (.ref t) (.ref s.heap.objs.size)) Q E { s with heap := s.heap.push { cls := .type "slice", data := .fields #[.int k u, .none, .none] } } := by
  have e : k = (k.toNat : Int) := by omega
  have key := slice_tuple_from (prog := prog) (w := w) (A := A) (E := E) (value := value) (slice := slice) (a := k.toNat) (u := u) (Q := Q) F N ht (by omega) (by rw [List.size_toArray]; omega) (fun h' F' N' => h _ h' F' (by simpa using N') fun p hp => Nat.lt_succ_of_lt (Heap.lt_size (N p hp).1)) hs hg (by rw [List.size_toArray, PySem.sizeLine_eq]; omega)
  rw [← e] at key
  exact key
end
theorem add_tuples' {prog : Program} {w : World} {A : Around} {E : Value → Shared → Prop} {s : Shared} {h₀ : Heap} {L : Addr} {m : Str → Option Value} {news : List (Addr × Obj)} {t b : Addr} {v1 v2 : Value} {vs ws : List Value} {Q : Value → Shared → Prop} (F : Fr h₀ L s.heap m) (N : News h₀ L s.heap news) (ht : IsTup s.heap t (v1 :: vs).toArray) (hb : IsTup s.heap b (v2 :: ws).toArray) (hl : vs.length + ws.length ≤ 1000)
    (h2 : ∀ D h', Fr h₀ L h' m → News h₀ L h' ((D, { cls := .type "tuple", data := .seq (v1 :: vs ++ v2 :: ws).toArray }) :: news) → (∀ p ∈ news, p.1 < D) → Q (.ref D) { s with heap := h' }) :
    wpAny (model prog w) A (binaryOp .Add (.ref t) (.ref b)) Q E s :=
  add_tuples F N ht hb (fun e => nomatch e) (fun _ e => nomatch e) (fun _ _ h' F' N' => h2 _ h' F' N' fun p hp => Heap.lt_size (N p hp).1) (by simp only [List.length_cons]; rw [PySem.sizeLine_eq]; omega)


section
variable {prog : Program} {w : World} {A : Around} {E : Value → Shared → Prop} {s : Shared} {env : Env} {h₀ : Heap} {test : PySem.Expr} {pos : Pos} {body : List Stmt} {Q : Flow → Shared → Prop}

def WhilePost (h₀ : Heap) (L : Addr) (J : Nat → (Str → Option Value) → List (Addr × Obj) → Prop) (n : Nat) (s₀ : Shared) (Q : Flow → Shared → Prop) (f : Flow) (s' : Shared) : Prop :=
  match f with
  | .ret v => Q (.ret v) s'
  | .brk => Q .next s'
  | _ => ∃ k h' tk m' nx', k < n ∧ s' = { s₀ with heap := h', toks := tk } ∧ Fr h₀ L h' m' ∧ News h₀ L h' nx' ∧ J k m' nx'

theorem while_loop {m : Str → Option Value} {nx : List (Addr × Obj)} (J : Nat → (Str → Option Value) → List (Addr × Obj) → Prop) (n : Nat)
    (F : Fr h₀ env.locals s.heap m) (N : News h₀ env.locals s.heap nx) (hj : J n m nx)
    (turn : ∀ n m₁ nx h tk, J n m₁ nx → Fr h₀ env.locals h m₁ → News h₀ env.locals h nx →
      wpAny (model prog w) A (isTrue test env (eval test env)) (fun b s₂ => if b = true then wpAny (model prog w) A (execs body env) (WhilePost h₀ env.locals J n s Q) (fun _ _ => False) s₂ else Q .next s₂) (fun _ _ => False) { s with heap := h, toks := tk }) :
    wpAny (model prog w) A (exec (.While test body [] pos) env) Q E s := by
  refine wpAny_While (codeAny_whileLoop (fun k s' => ∃ h' tk m' nx', s' = { s with heap := h', toks := tk } ∧ Fr h₀ env.locals h' m' ∧ News h₀ env.locals h' nx' ∧ J k m' nx') ?_ n ⟨s.heap, s.toks, m, nx, rfl, F, N, hj⟩)
  rintro k s' ⟨h', tk, m', nx', rfl, F', N', hJ⟩
  refine wpAny_mono (turn k m' nx' h' tk hJ F' N') (fun b s₂ hb => ?_) fun _ _ e => e.elim
  cases b with
  | true =>
    simp only [if_true] at hb ⊢
    refine wpAny_mono hb (fun f s₃ h₃ => ?_) fun _ _ e => e.elim
    cases f with
    | ret v => exact h₃
    | brk => exact h₃
    | cont =>
      obtain ⟨k', h₄, tk₄, m₄, nx₄, hlt, e, F₄, N₄, hJ₄⟩ := h₃
      exact ⟨k', hlt, h₄, tk₄, m₄, nx₄, e, F₄, N₄, hJ₄⟩
    | next =>
      obtain ⟨k', h₄, tk₄, m₄, nx₄, hlt, e, F₄, N₄, hJ₄⟩ := h₃
      exact ⟨k', hlt, h₄, tk₄, m₄, nx₄, e, F₄, N₄, hJ₄⟩
  | false =>
    simp only [Bool.false_eq_true, if_false] at hb ⊢
    exact wpAny_execs_nil hb
end


/-- the places of a set's table stand in rising order -/
def Rises (xs : Array Nat) : Prop := xs.toList.Pairwise (· < ·)
theorem rises_lt {xs : Array Nat} (h : Rises xs) {i k d : Nat} (hi : i < k) (hk : k < xs.size) : xs.getD i d < xs.getD k d := by
  have := List.pairwise_iff_getElem.mp h i k (by simp; omega) (by simpa using hk) hi
  have h1 : i < xs.size := by omega
  simpa [Array.getD, h1, hk] using this
theorem below_go {xs : Array Nat} {j : Nat} (h : Rises xs) : ∀ (fuel lo hi : Nat), lo ≤ hi → hi ≤ xs.size → hi - lo ≤ fuel → (∀ i, i < lo → xs.getD i j < j) → (∀ i, hi ≤ i → i < xs.size → j ≤ xs.getD i j) →
    SetTable.below.go xs j fuel lo hi ≤ xs.size ∧ (∀ i, i < SetTable.below.go xs j fuel lo hi → xs.getD i j < j) ∧ ∀ i, SetTable.below.go xs j fuel lo hi ≤ i → i < xs.size → j ≤ xs.getD i j
  | 0, lo, hi, h1, h2, h3, h4, h5 => by
    unfold SetTable.below.go
    exact ⟨by omega, h4, fun i hi' hs => h5 i (by omega) hs⟩
  | fuel + 1, lo, hi, h1, h2, h3, h4, h5 => by
    unfold SetTable.below.go
    by_cases hlt : lo < hi
    · rw [if_pos hlt]
      dsimp only
      by_cases hm : xs.getD ((lo + hi) / 2) j < j
      · rw [if_pos hm]
        refine below_go h fuel _ _ (by omega) h2 (by omega) (fun i hi' => ?_) h5
        by_cases e : i = (lo + hi) / 2
        · subst e; exact hm
        · exact Nat.lt_trans (rises_lt h (k := (lo + hi) / 2) (by omega) (by omega)) hm
      · rw [if_neg hm]
        refine below_go h fuel _ _ (by omega) (by omega) (by omega) h4 fun i hi' hs => ?_
        by_cases e : i = (lo + hi) / 2
        · subst e; omega
        · have := rises_lt h (d := j) (i := (lo + hi) / 2) (k := i) (by omega) hs
          omega
    · rw [if_neg hlt]
      exact ⟨by omega, h4, fun i hi' hs => h5 i (by omega) hs⟩
theorem below_spec {xs : Array Nat} (h : Rises xs) (j : Nat) : SetTable.below xs j ≤ xs.size ∧ (∀ i, i < SetTable.below xs j → xs.getD i j < j) ∧ ∀ i, SetTable.below xs j ≤ i → i < xs.size → j ≤ xs.getD i j :=
  below_go h xs.size 0 xs.size (Nat.zero_le _) (Nat.le_refl _) (by omega) (fun i hi => absurd hi (Nat.not_lt_zero _)) fun i hi hs => absurd hs (by omega)
theorem getD_any {xs : Array Nat} {i a b : Nat} (h : i < xs.size) : xs.getD i a = xs.getD i b := by simp [Array.getD, h]
theorem below_at {xs : Array Nat} (h : Rises xs) {i slot : Nat} (hi : i ≤ xs.size) (hs : slot = if i = 0 then 0 else xs.getD (i - 1) 0 + 1) : SetTable.below xs slot = i := by
  obtain ⟨h1, h2, h3⟩ := below_spec h slot
  rcases Nat.lt_trichotomy (SetTable.below xs slot) i with q | q | q
  · have h4 := h3 (i - 1) (by omega) (by omega)
    rw [if_neg (by omega)] at hs
    rw [getD_any (b := 0) (by omega)] at h4
    omega
  · exact q
  · have h4 := h2 i q
    have hlt : i < xs.size := by omega
    by_cases e : i = 0
    · rw [if_pos e] at hs; omega
    · rw [if_neg e] at hs
      have h5 := rises_lt h (d := 0) (i := i - 1) (k := i) (by omega) hlt
      rw [getD_any (b := 0) hlt] at h4
      omega
theorem rises_insert {xs : Array Nat} (h : Rises xs) {j : Nat} (hn : xs[SetTable.below xs j]? ≠ some j) : Rises (SetTable.insertAt xs (SetTable.below xs j) j) := by
  obtain ⟨h1, h2, h3⟩ := below_spec h j
  unfold Rises
  rw [SetTable.toList_insertAt, List.pairwise_append, List.pairwise_cons]
  have hl : ∀ a ∈ xs.toList.take (SetTable.below xs j), a < j := by
    intro a ha
    obtain ⟨i, hi, rfl⟩ := List.mem_iff_getElem.mp ha
    rw [List.length_take] at hi
    have := h2 i (by omega)
    have hs : i < xs.size := by simp at hi; omega
    simpa [Array.getD, hs] using this
  have hr : ∀ a ∈ xs.toList.drop (SetTable.below xs j), j < a := by
    intro a ha
    obtain ⟨i, hi, rfl⟩ := List.mem_iff_getElem.mp ha
    rw [List.length_drop, Array.length_toList] at hi
    have hs : SetTable.below xs j + i < xs.size := by omega
    have h4 := h3 (SetTable.below xs j + i) (by omega) hs
    have e : (xs.toList.drop (SetTable.below xs j))[i]'(by rw [List.length_drop, Array.length_toList]; exact hi) = xs.getD (SetTable.below xs j + i) j := by simp [Array.getD, hs]
    rw [e]
    refine Nat.lt_of_le_of_ne h4 fun q => ?_
    by_cases e0 : i = 0
    · subst e0
      apply hn
      have hs' : SetTable.below xs j < xs.size := by omega
      simp only [Nat.add_zero] at q
      rw [Array.getElem?_eq_getElem hs']
      simp [Array.getD, hs'] at q
      rw [← q]
    · have hs' : SetTable.below xs j < xs.size := by omega
      have h5 := rises_lt h (d := j) (i := SetTable.below xs j) (k := SetTable.below xs j + i) (by omega) hs
      have h6 := h3 (SetTable.below xs j) (Nat.le_refl _) hs'
      omega
  refine ⟨h.sublist (List.take_sublist _ _), ⟨hr, h.sublist (List.drop_sublist _ _)⟩, fun a ha b hb => ?_⟩
  rcases List.mem_cons.mp hb with rfl | hb
  · exact hl a ha
  · exact Nat.lt_trans (hl a ha) (hr b hb)
theorem rises_range (n : Nat) : Rises (Array.range n) := by
  unfold Rises
  rw [Array.toList_range]
  exact List.pairwise_lt_range
theorem has_none (j : Nat) : SetTable.has #[] j = false := by simp [SetTable.has]
theorem slot_cases {t : SetTable} (hd : t.dummies = #[]) (j : Nat) : (∃ i, t.slot j = .live i) ∨ (t.slot j = .empty ∧ t.place[SetTable.below t.place j]? ≠ some j) := by
  unfold SetTable.slot
  dsimp only
  by_cases h : (t.place[SetTable.below t.place j]? == some j) = true
  · rw [if_pos h]; exact .inl ⟨_, rfl⟩
  · rw [if_neg h, hd, has_none, if_neg (by simp)]
    exact .inr ⟨rfl, fun q => h (by simp [q])⟩
theorem advance_dummy (t : SetTable) (p : SetTable.Probe) : (t.advance p).dummy = p.dummy := by
  unfold SetTable.advance
  split <;> rfl
theorem probe_go {t : SetTable} (hd : t.dummies = #[]) {hashAt : Nat → Int} {h : Int} : ∀ (fuel : Nat) (p : SetTable.Probe), p.dummy = none → ∀ j d, SetTable.probe.go t hashAt h fuel p = some (.empty j d) →
    d = none ∧ t.place[SetTable.below t.place j]? ≠ some j
  | 0, p, hp, j, d, e => by unfold SetTable.probe.go at e; cases e
  | fuel + 1, p, hp, j, d, e => by
    unfold SetTable.probe.go at e
    rcases slot_cases hd p.j with ⟨i, hs⟩ | ⟨hs, hn⟩
    · rw [hs] at e
      dsimp only at e
      split at e
      · cases e
      · exact probe_go hd fuel _ (by rw [advance_dummy]; exact hp) j d e
    · rw [hs] at e
      dsimp only at e
      cases e
      exact ⟨hp, hn⟩
/-- a table without gaps in its order -/
def TabOk (led : Bool) (t : SetTable) : Prop := Rises t.place ∧ t.dummies = #[] ∧ t.led = led
theorem tab_fresh (led : Bool) : TabOk led (.fresh 0 0 led) := ⟨List.Pairwise.nil, rfl, rfl⟩
theorem tab_standIn {led : Bool} {t : SetTable} (h : TabOk led t) (n : Nat) : TabOk led (t.standIn n) := ⟨rises_range n, rfl, h.2.2⟩
theorem tab_orStandIn {led : Bool} {t : SetTable} (h : TabOk led t) (n : Nat) : TabOk led (t.orStandIn n) := by
  unfold SetTable.orStandIn
  split
  · exact h
  · exact tab_standIn h n
theorem tab_layNew {led : Bool} {t : SetTable} (h : TabOk led t) (es : Array (Int × Value)) (k : Int) (x : Value) : TabOk led (layNew t es k x).2.1 := by
  unfold layNew
  cases hf : t.freeSlot k with
  | none => exact tab_standIn h _
  | some q =>
    obtain ⟨slot, b⟩ := q
    dsimp only
    refine tab_orStandIn ?_ _
    obtain ⟨h1, h2, h3⟩ := h
    unfold SetTable.freeSlot at hf
    split at hf
    · rename_i j d hp
      have := probe_go h2 _ _ (by unfold SetTable.probeStart; rfl) _ _ hp
      obtain ⟨rfl, hn⟩ := this
      simp only [Option.getD_none, Option.isSome_none, Option.some.injEq, Prod.mk.injEq] at hf
      obtain ⟨rfl, rfl⟩ := hf
      refine ⟨rises_insert h1 hn, ?_, h3⟩
      show (if SetTable.has t.dummies j then _ else t.dummies) = #[]
      rw [h2, has_none]; rfl
    · cases hf
theorem tab_laid {mask finger moves : Nat} {led plain : Bool} {hs : Array Int} {t : SetTable} {o : Array Nat} (e : SetTable.laid mask finger moves led plain hs = some (t, o)) : TabOk led t := by
  unfold SetTable.laid at e
  cases ho : SetTable.layClean mask hs with
  | none => rw [ho] at e; cases e
  | some owner =>
    rw [ho] at e
    simp only [Option.bind_eq_bind, Option.bind_some] at e
    cases e
    refine ⟨?_, rfl, rfl⟩
    show (List.map _ (List.filterMap _ _)).toArray.toList.Pairwise (· < ·)
    rw [List.toList_toArray, List.map_filterMap]
    refine List.Pairwise.filterMap (R := (· < ·)) _ ?_ (List.pairwise_lt_range (n := mask + 1))
    intro a a' haa b hb b' hb'
    have e1 : b = a := by
      cases q : owner.getD a none <;> simp_all
    have e2 : b' = a' := by
      cases q : owner.getD a' none <;> simp_all
    rw [e1, e2]; exact haa
theorem tab_relayAll {led : Bool} {t : SetTable} (h : TabOk led t) (es : Array (Int × Value)) (n : Nat) : TabOk led (relayAll t es n).2.1 := by
  unfold relayAll
  cases hr : t.relaid (es.map (·.1)) n with
  | none => exact tab_standIn h _
  | some q =>
    obtain ⟨t', o⟩ := q
    dsimp only
    split
    · have := tab_laid hr
      rw [h.2.2] at this; exact this
    · exact tab_standIn h _
theorem erase_perm {α : Type} : ∀ (l : List α) (i : Nat) (x : α), l[i]? = some x → List.Perm (x :: l.eraseIdx i) l
  | [], i, x, h => by simp at h
  | a :: r, 0, x, h => by simp at h; subst h; exact .refl _
  | a :: r, i + 1, x, h => by
    simp only [List.getElem?_cons_succ] at h
    exact (List.Perm.swap a x _).trans ((erase_perm r i x h).cons a)
theorem pick_go {α : Type} (next : Nat → Nat) : ∀ (fuel k : Nat) (left : List α) (out : Array α), left.length ≤ fuel → List.Perm (pickOrder.go next fuel k left out).toList (out.toList ++ left)
  | 0, k, left, out, h => by
    obtain rfl : left = [] := List.eq_nil_of_length_eq_zero (by omega)
    unfold pickOrder.go; simp
  | fuel + 1, k, left, out, h => by
    unfold pickOrder.go
    cases e : left[next k % left.length]? with
    | none =>
      dsimp only
      cases left with
      | nil => simp
      | cons a r =>
        have := List.getElem?_eq_none_iff.mp e
        have h2 := Nat.mod_lt (next k) (show 0 < (a :: r).length by simp)
        omega
    | some x =>
      dsimp only
      have hlt : next k % left.length < left.length := by
        rcases Nat.lt_or_ge (next k % left.length) left.length with q | q
        · exact q
        · rw [List.getElem?_eq_none q] at e; cases e
      have hlen := List.length_eraseIdx_of_lt hlt
      refine (pick_go next fuel (k + 1) _ _ (by omega)).trans ?_
      rw [Array.toList_push, List.append_assoc]
      exact List.Perm.append_left _ (erase_perm _ _ _ e)
theorem pick_perm {α : Type} (next : Nat → Nat) (xs : Array α) : List.Perm (pickOrder next xs).toList xs.toList := by
  have := pick_go next xs.size 0 xs.toList #[] (by simp)
  unfold pickOrder
  simpa using this
theorem wpAny_choose {M : Model} {A : Around} {E : Value → Shared → Prop} {s : Shared} {src : Source} {n : Nat} {Q : Nat → Shared → Prop} (hn : n ≠ 0) (h : ∀ i dr, i < n → Q i { s with drawn := dr }) : wpAny M A (choose src n) Q E s :=
  fun _ _ _ => ⟨hn, h _ _ (Nat.mod_lt _ (Nat.pos_of_ne_zero hn))⟩
theorem wpAny_drawOrder {α : Type} {M : Model} {A : Around} {E : Value → Shared → Prop} : ∀ (n : Nat) (xs : List α) (s : Shared) {Q : List α → Shared → Prop}, xs.length = n → (∀ ys dr, List.Perm ys xs → Q ys { s with drawn := dr }) → wpAny M A (drawOrder n xs) Q E s
  | 0, xs, s, Q, hl, h => by
    obtain rfl : xs = [] := List.eq_nil_of_length_eq_zero hl
    unfold drawOrder
    exact wpAny_pure (h [] s.drawn (.refl _))
  | n + 1, [], s, Q, hl, h => by cases hl
  | n + 1, x :: r, s, Q, hl, h => by
    unfold drawOrder
    refine wpAny_bind (wpAny_choose (by simp) fun i dr hi => ?_)
    have hget : (x :: r)[i]? = some ((x :: r)[i]) := List.getElem?_eq_getElem hi
    rw [hget]
    dsimp only
    refine wpAny_bind (wpAny_drawOrder n _ _ (by rw [List.length_eraseIdx_of_lt hi, hl]; rfl) fun ys dr' hp => ?_)
    exact wpAny_pure (h _ dr' ((hp.cons _).trans (erase_perm _ _ _ hget)))


def kvi : Value → Int
  | .int n _ => n
  | _ => 0
def byText (w : World) : Bool := w.params.followText "set-order"
/-- the elements and the table of a set of ints -/
structure SetGood (w : World) (hash : Int → Int) (es : Array (Int × Value)) (t : SetTable) (ks : List Int) : Prop where
  el : ∀ e ∈ es.toList, ∃ k tk, e = (hash k, .int k tk)
  eq : es.toList.map (fun e => kvi e.2) = ks
  nd : ks.Nodup
  lt : es.size < scanBound
  fits : t.fits es.size = true
  tab : TabOk (!byText w) t
abbrev setO (es : Array (Int × Value)) (ep : Nat) (t : SetTable) : Obj := { cls := .type "set", dict := none, data := .set es ep t, slots := #[] }
def SetIs (w : World) (hash : Int → Int) (o : Obj) (ks : List Int) : Prop := ∃ es ep t, o = setO es ep t ∧ SetGood w hash es t ks
theorem SetGood.perm {w : World} {hash : Int → Int} {es es' : Array (Int × Value)} {t t' : SetTable} {ks : List Int} (h : SetGood w hash es t ks) (p : List.Perm es'.toList es.toList) (hf : t'.fits es'.size = true) (ht : TabOk (!byText w) t') :
    ∃ ks', SetGood w hash es' t' ks' ∧ List.Perm ks' ks := by
  have hp : List.Perm (es'.toList.map fun e => kvi e.2) ks := by rw [← h.eq]; exact p.map _
  refine ⟨_, ⟨fun e he => h.el e (p.mem_iff.mp he), rfl, hp.nodup_iff.mpr h.nd, ?_, hf, ht⟩, hp⟩
  have := p.length_eq
  simp only [Array.length_toList] at this
  rw [this]; exact h.lt
theorem SetGood.len {w : World} {hash : Int → Int} {es : Array (Int × Value)} {t : SetTable} {ks : List Int} (h : SetGood w hash es t ks) : ks.length = es.size := by
  rw [← h.eq, List.length_map, Array.length_toList]

section
variable {prog : Program} {w : World} {A : Around} {E : Value → Shared → Prop} {s : Shared}
theorem SetGood.elems {es : Array (Int × Value)} {t : SetTable} {ks : List Int} (h : SetGood w (intKind prog w).hash es t ks) : ElemsOf (intKind prog w) es.toList := fun e he => by
  obtain ⟨k, tk, rfl⟩ := h.el e he
  exact ⟨⟨k, intKind_is _ _ _ _, rfl⟩, rfl⟩
theorem SetGood.no {es : Array (Int × Value)} {t : SetTable} {ks : List Int} (h : SetGood w (intKind prog w).hash es t ks) {k : Int} (hr : es.toList.findIdx? (fun e => (intKind prog w).is k e.2) = none) : k ∉ ks := fun hm => by
  rw [← h.eq] at hm
  obtain ⟨e, he, rfl⟩ := List.mem_map.mp hm
  have := List.findIdx?_eq_none_iff.mp hr e he
  obtain ⟨k', tk, rfl⟩ := h.el e he
  have q := intKind_is prog w k' tk
  change (intKind prog w).is k' (.int k' tk) = false at this
  rw [q] at this; cases this
theorem SetGood.yes {es : Array (Int × Value)} {t : SetTable} {ks : List Int} (h : SetGood w (intKind prog w).hash es t ks) {k : Int} {j : Nat} (hr : es.toList.findIdx? (fun e => (intKind prog w).is k e.2) = some j) : k ∈ ks := by
  obtain ⟨hj, hpj, _⟩ := List.findIdx?_eq_some_iff_getElem.mp hr
  have he := List.getElem_mem hj
  obtain ⟨k', tk, e⟩ := h.el _ he
  rw [e] at hpj
  have q := KeyKind.is_eq_decide (intKind_is prog w k' tk) k
  rw [q] at hpj
  have := of_decide_eq_true hpj
  rw [← h.eq]
  refine List.mem_map.mpr ⟨_, he, ?_⟩
  rw [e, this]; rfl
theorem set_store {a : Addr} {h : Heap} {es es' : Array (Int × Value)} {ep : Nat} {t t' : SetTable} (ho : h.get? a = some (setO es ep t)) : (h.update a (Obj.putSet es' t')).get? a = some (setO es' (ep + 1) t') := by
  have := Heap.get?_update_self (Obj.putSet es' t') ho (by rw [putSet_of es' t' rfl]; rfl)
  rw [putSet_of es' t' rfl] at this; exact this
/-- a table laid out anew keeps a good set good, up to the order of its elements -/
theorem SetGood.relaid {hash : Int → Int} {es : Array (Int × Value)} {t : SetTable} {ks : List Int} (G : SetGood w hash es t ks) (n : Nat) :
    ∃ ks', SetGood w hash (relayAll t es n).1 (relayAll t es n).2.1 ks' ∧ List.Perm ks' ks := G.perm (relayAll_perm t es n) (relayAll_fits t es n) (tab_relayAll G.tab es n)
/-- a good set with an element more, laid into its table -/
theorem SetGood.more {hash : Int → Int} {es : Array (Int × Value)} {t : SetTable} {ks : List Int} (G : SetGood w hash es t ks) {k : Int} (tk : Tok) (hk : k ∉ ks) (hroom : ks.length + 1 < scanBound) :
    ∃ ks', SetGood w hash (layNew t es (hash k) (.int k tk)).1 (layNew t es (hash k) (.int k tk)).2.1 ks' ∧ List.Perm ks' (ks ++ [k]) := by
  have hp := layNew_perm t es (hash k) (.int k tk)
  rw [Array.toList_push] at hp
  have hks : List.Perm ((layNew t es (hash k) (.int k tk)).1.toList.map fun e => kvi e.2) (ks ++ [k]) := by
    have := hp.map fun e => kvi e.2
    rw [List.map_append, G.eq] at this
    exact this
  have hlen := hks.length_eq
  rw [List.length_map, List.length_append, Array.length_toList] at hlen
  refine ⟨_, ⟨fun e he => ?_, rfl, hks.nodup_iff.mpr (List.nodup_append.mpr ⟨G.nd, by simp, fun x hx y hy e => hk ?_⟩), by simp only [List.length_cons, List.length_nil] at hlen; omega, layNew_fits t es (hash k) (.int k tk), tab_layNew G.tab es (hash k) (.int k tk)⟩, hks⟩
  · rcases List.mem_append.mp (hp.mem_iff.mp he) with q | q
    · exact G.el e q
    · exact ⟨k, tk, List.mem_singleton.mp q⟩
  · rw [List.mem_singleton] at hy
    exact hy ▸ e ▸ hx

theorem set_add {a : Addr} {o : Obj} {ks : List Int} {k : Int} {tk : Tok} {Q : Bool → Shared → Prop} (ho : s.heap.get? a = some o) (hI : SetIs w (intKind prog w).hash o ks) (hroom : ks.length + 1 < scanBound)
    (h : ∀ h' o' ks' b, Heap.SameBut a s.heap h' → h'.get? a = some o' → SetIs w (intKind prog w).hash o' ks' → (∀ y, y ∈ ks' ↔ y ∈ ks ∨ y = k) → ks'.length ≤ ks.length + 1 → Q b { s with heap := h' }) :
    wpAny (model prog w) A (setAddHashed a (.int k tk) ((intKind prog w).hash k)) Q E s := by
  obtain ⟨es, ep, t, rfl, hG⟩ := hI
  have hE := hG.elems
  have hlen := hG.len
  unfold setAddHashed setAddHashedIn
  refine wpAny_holding (wpAny_bind (wpAny_setState_of ho rfl hG.fits ?_))
  dsimp only
  rw [byScan_of rfl hG.lt hE]
  simp only [↓reduceIte]
  unfold setAddByScan
  refine wpAny_bind ?_
  refine wpAny_bind (wpAny_rule ?_)
  refine wpAny_bind (wpAny_setScan_of (knd := intKind prog w) (intKind_is _ _ _ _) ho rfl hG.fits hE ?_)
  cases hr : List.findIdx? (fun e => (intKind prog w).is k e.2) es.toList with
  | some j =>
    dsimp only
    refine wpAny_pure (wpAny_pure ?_)
    have hm := hG.yes hr
    exact h s.heap _ ks _ (Heap.SameBut.refl _ _) ho ⟨_, _, _, rfl, hG⟩ (fun y => ⟨.inl, fun q => q.elim id fun e => e ▸ hm⟩) (by omega)
  | none =>
    dsimp only
    have hno := hG.no hr
    have quiet : ∀ (B : Around) (c : Bool) (x : String) (s₁ : Shared) (Q' : Unit → Shared → Prop) (E' : Value → Shared → Prop), Q' () s₁ → wpAny (model prog w) B (match c with | true => rule x | false => pure ()) Q' E' s₁ := fun B c x s₁ Q' E' q => by
      cases c
      · exact wpAny_pure q
      · exact wpAny_rule q
    obtain ⟨ks₁, G₁, p₁⟩ := hG.more tk hno hroom
    generalize layNew t es ((intKind prog w).hash k) (.int k tk) = laid at G₁ ⊢
    obtain ⟨es₁, t₁, dummy, gave⟩ := laid
    dsimp only at G₁ ⊢
    have told : ∀ h' o' ks' b, Heap.SameBut a s.heap h' → h'.get? a = some o' → SetIs w (intKind prog w).hash o' ks' → List.Perm ks' ks₁ → Q b { s with heap := h' } := fun h' o' ks' b sb g S p =>
      h h' o' ks' b sb g S (fun y => by rw [(p.trans p₁).mem_iff, List.mem_append, List.mem_singleton]) (by rw [(p.trans p₁).length_eq, List.length_append]; exact Nat.le_refl _)
    have s₁ := Heap.SameBut.update s.heap a (Obj.putSet es₁ t₁)
    have o₁ := set_store (es' := es₁) (t' := t₁) ho
    obtain ⟨ks₂, G₂, p₂⟩ := G₁.relaid (SetTable.grown es₁.size)
    refine wpAny_bind (quiet _ _ _ _ _ _ ?_)
    have int : plainKind (Value.int k tk) = true := rfl
    split
    case' isTrue =>
      refine wpAny_bind ?_
      rw [hashByValue_scannable 8 rfl]
      refine wpAny_pure ?_
      simp only [int, if_true]
    case' isFalse =>
      refine wpAny_bind (wpAny_pure ?_)
      simp only [↓reduceIte]
    all_goals
      refine wpAny_bind (wpAny_storeSet_of ho rfl ?_ (fits_of_scanBound G₁.lt))
      split
      · refine wpAny_bind (quiet _ _ _ _ _ _ (wpAny_bind (wpAny_storeSet_of o₁ rfl (wpAny_pure ?_) (fits_of_scanBound G₂.lt))))
        exact wpAny_pure (told _ _ ks₂ _ (s₁.trans (Heap.SameBut.update _ a _)) (set_store o₁) ⟨_, _, _, rfl, G₂⟩ p₂)
      · exact wpAny_pure (wpAny_pure (told _ _ ks₁ _ s₁ o₁ ⟨_, _, _, rfl, G₁⟩ (.refl _)))
end


section
variable {prog : Program} {w : World} {A : Around}

/-- one turn of the loop that set(..) runs: ask the source; at its end the loop ends; else add and go on -/
theorem set_turn {R : Result → Shared → Prop} {s : Shared} {D I : Addr}
    (h : wpAny (model prog w) A.in1 (pyNext (.ref I)) (fun r s₁ => match r with
      | none => R (.ok (.ret .none)) s₁
      | some v => wpAny (model prog w) A.in1 (setAdd D v) (fun _ s₂ => codeAny (model prog w) A (.builtin "set.update.loop" ⟨[.ref D, .ref I], []⟩) R s₂) (fun e s' => R (.error e) s') s₁) (fun e s' => R (.error e) s') s) :
    codeAny (model prog w) A (.builtin "set.update.loop" ⟨[.ref D, .ref I], []⟩) R s := by
  have hp := PyProof.Rows.F.plain_set_update_loop
  apply codeAny_builtin PyProof.Rows.F.entry_set_update_loop
  rw [Around.under_plainId hp]
  apply wpAny_bind
  apply wpAny_mono h _ fun _ _ e => e
  intro r s₁ h₁
  match r, h₁ with
  | none, h₁ => exact wpAny_pure h₁
  | some v, h₁ => exact wpAny_bind (wpAny_holding (wpAny_mono h₁ (fun _ _ h₂ => wpAny_pure ⟨plainId_quiet hp _, h₂⟩) fun _ _ e => e))

/-- set.add of an int -/
theorem set_add_int {s : Shared} {a : Addr} {o : Obj} {ks : List Int} {k : Int} {tk : Tok} {E : Value → Shared → Prop} {Q : Bool → Shared → Prop} (ho : s.heap.get? a = some o) (hI : SetIs w (intKind prog w).hash o ks) (hroom : ks.length + 1 < scanBound)
    (h : ∀ h' o' ks' b, Heap.SameBut a s.heap h' → h'.get? a = some o' → SetIs w (intKind prog w).hash o' ks' → (∀ y, y ∈ ks' ↔ y ∈ ks ∨ y = k) → ks'.length ≤ ks.length + 1 → Q b { s with heap := h', toks := s.toks + 1 }) :
    wpAny (model prog w) A (setAdd a (.int k tk)) Q E s :=
  wpAny_holding (wpAny_bind ((intKind prog w).pyHash (intKind_is _ _ _ _) (set_add (s := { s with toks := s.toks + 1 }) ho hI hroom h)))

/-- the first n values of a list are met: which keys are in the set then -/
def Met (ns : List Int) (i : Nat) (ks : List Int) : Prop := (∀ y, y ∈ ks ↔ y ∈ ns.take i) ∧ ks.length ≤ i
theorem Met.next {ns ks ks' : List Int} {i : Nat} (h : Met ns i ks) (hi : i < ns.length) (hm : ∀ y, y ∈ ks' ↔ y ∈ ks ∨ y = ns[i]) (hl : ks'.length ≤ ks.length + 1) : Met ns (i + 1) ks' := by
  refine ⟨fun y => ?_, by have := h.2; omega⟩
  rw [hm, h.1, List.take_add_one, List.mem_append, List.getElem?_eq_getElem hi]
  simp

/-- the loop over a list of ints: what it leaves, by the number of the values still to come -/
theorem set_fill {R : Result → Shared → Prop} {D I l : Addr} {items : Array Value} {ns : List Int} (hh : A.in1.handled = none) (hi : IntsAre items.toList ns) (hb : ns.length + 1 < scanBound) (hDI : D ≠ I) (hDl : D ≠ l) (hlI : l ≠ I) :
    ∀ (more : Nat) (s : Shared) (o : Obj) (ks : List Int), more ≤ ns.length → s.heap.IsListIter I l (ns.length - more) → s.heap.IsList l items → s.heap.get? D = some o → SetIs w (intKind prog w).hash o ks → Met ns (ns.length - more) ks →
      (∀ h' tk o' ks', h'.get? D = some o' → SetIs w (intKind prog w).hash o' ks' → Met ns ns.length ks' → (∀ b ob, b ≠ D → b ≠ I → s.heap.get? b = some ob → h'.get? b = some ob) → R (.ok (.ret .none)) { s with heap := h', toks := tk }) →
      codeAny (model prog w) A (.builtin "set.update.loop" ⟨[.ref D, .ref I], []⟩) R s := by
  have hlen : items.size = ns.length := by simpa using hi.length
  have W := Walks.list (prog := prog) (w := w) hh I l hlI items
  rw [hlen] at W
  have hDw : D ∉ [I] := fun q => hDI (List.mem_singleton.mp q)
  intro more
  induction more with
  | zero =>
    intro s o ks _ hI hl hD hS hM hR
    refine set_turn (W.done _ _ _ ⟨hI, hl⟩ fun h' tk hk => hR h' tk o ks (hk D o hDw hD) hS hM fun b ob _ hbI e => hk b ob (fun q => hbI (List.mem_singleton.mp q)) e)
  | succ more ih =>
    intro s o ks hle hI hl hD hS hM hR
    have hlt : ns.length - (more + 1) < ns.length := by omega
    have hnx : ns.length - (more + 1) + 1 = ns.length - more := by omega
    refine set_turn (W.item _ _ _ _ hlt ⟨hI, hl⟩ fun v h₁ tk₁ hv st₁ hk₁ => ?_)
    rw [hnx] at st₁
    obtain ⟨t, rfl⟩ := IntsAre.int_at hi _ v (by rw [Array.getElem?_toList]; exact hv)
    refine set_add_int (s := { s with heap := h₁, toks := tk₁ }) (hk₁ D o hDw hD) hS (by have := hM.2; omega) fun h₂ o₂ ks₂ _ sb g₂ S₂ m₂ l₂ => ?_
    have M₂ := hM.next hlt (by simpa [List.getD_eq_getElem?_getD, List.getElem?_eq_getElem hlt] using m₂) l₂
    rw [hnx] at M₂
    have up : ∀ b ob, b ≠ D → h₁.get? b = some ob → h₂.get? b = some ob := fun b ob hb e => (sb.2 b hb).trans e
    refine ih _ o₂ ks₂ (by omega) (st₁.1.at fun ob e => up I ob (Ne.symm hDI) e) (st₁.2.at fun ob e => up l ob (Ne.symm hDl) e) g₂ S₂ M₂ fun h' tk o' ks' g' S' M' k' => hR h' tk o' ks' g' S' M' fun b ob hbD hbI e => ?_
    exact k' b ob hbD hbI (up b ob hbD (hk₁ b ob (fun q => hbI (List.mem_singleton.mp q)) e))
end

section
variable {prog : Program} {w : World} {A : Around} {E : Value → Shared → Prop} {s : Shared}

/-- set.__new__: a fresh set; its table is led by the world's setting -/
theorem set_new (a : Value) {Q₁ : Value → Shared → Prop} (h : Q₁ (.ref s.heap.objs.size) { s with heap := s.heap.push (setO #[] 0 (.fresh 0 0 (!byText w))) }) :
    codeAny (model prog w) A (.call (.builtin "set.__new__") ⟨[.type "set", a], []⟩) (wants Q₁ E) s := by
  have hsub := sub_set_self
  apply codeAny_call_builtin PySem.F.plain_set_new PySem.F.entry_set_new
  apply wpAny_of_eq (PySem.F.newCall_set_1 a)
  cases s
  unfold Builtin.«set.__new__» Builtin.Frozenset.newClass
  repeat (first | exact h | wp_step | apply wpAny_askSetting | apply wpAny_alloc | (simp only [newObj]; done))

/-- set.update's way with a list of ints, from an empty set -/
theorem set_update {id : String} {D l : Addr} {items : Array Value} {ns : List Int} {Q : Unit → Shared → Prop} (hh : A.handled = none) (hD : s.heap.get? D = some (setO #[] 0 (.fresh 0 0 (!byText w)))) (hl : s.heap.IsList l items) (hlD : l ≠ D) (hi : IntsAre items.toList ns) (hb : ns.length + 1 < scanBound)
    (h : ∀ h' tk o ks, h'.get? D = some o → SetIs w (intKind prog w).hash o ks → Met ns ns.length ks → (∀ b ob, b ≠ D → s.heap.get? b = some ob → h'.get? b = some ob) → Q () { s with heap := h', toks := tk }) :
    wpAny (model prog w) A (Builtin.Frozenset.updateFrom id D (.ref l)) Q E s := by
  have hT : s.TypeIs (.ref l) "list" := hl.typeIs
  have ltD := Heap.lt_size hD
  have ltl : l < s.heap.objs.size := by obtain ⟨_, e, _⟩ := hl; exact Heap.lt_size e
  unfold Builtin.Frozenset.updateFrom Builtin.Frozenset.isAnySet
  refine wpAny_bind (wpAny_bind (wpAny_isInstance hT PySem.F.sub_list_set (wpAny_isInstance hT PySem.F.sub_list_frozenset ?_)))
  refine wpAny_bind (wpAny_typeOf hT ?_)
  refine wpAny_bind (wpAny_pyIter_list hl ?_)
  refine wpAny_bind (wpAny_runValue ?_)
  refine set_fill (s := { s with heap := s.heap.push _ }) (by simpa using hh) hi hb (Nat.ne_of_lt ltD) (Ne.symm hlD) (Nat.ne_of_lt ltl) ns.length _ [] (Nat.le_refl _) ?_ (hl.push _) (Heap.get?_push_of_some _ hD) ?_ ?_ ?_
  · rw [Nat.sub_self]
    exact ⟨_, Heap.get?_push_size _ rfl, rfl, rfl⟩
  · exact ⟨#[], 0, _, rfl, ⟨fun e he => by simp at he, rfl, .nil, by unfold scanBound; decide, rfl, tab_fresh _⟩⟩
  · rw [Nat.sub_self]
    exact ⟨fun y => by simp, Nat.le_refl _⟩
  · intro h' tk o ks g S M k
    exact wpAny_pure (h h' tk o ks g S M fun b ob hb e => k b ob hb (Nat.ne_of_lt (Heap.lt_size e)) (Heap.get?_push_of_some _ e))

/-- set.__init__ with a list of ints, on a fresh set -/
theorem set_init {D l : Addr} {items : Array Value} {ns : List Int} {Q : Value → Shared → Prop} (hh : A.handled = none) (hD : s.heap.get? D = some (setO #[] 0 (.fresh 0 0 (!byText w)))) (hl : s.heap.IsList l items) (hlD : l ≠ D) (hi : IntsAre items.toList ns) (hb : ns.length + 1 < scanBound)
    (h : ∀ h' tk o ks, h'.get? D = some o → SetIs w (intKind prog w).hash o ks → Met ns ns.length ks → (∀ b ob, b ≠ D → s.heap.get? b = some ob → h'.get? b = some ob) → Q .none { s with heap := h', toks := tk }) :
    codeAny (model prog w) A (.call (.builtin "set.__init__") ⟨[.ref D, .ref l], []⟩) (wants Q E) s := by
  have hT : s.TypeIs (.ref D) "set" := ⟨_, hD, rfl⟩
  refine codeAny_call_builtin PySem.F.called_set.init.plain PySem.F.entry_set_init (check_set_init_1 hT ?_)
  have fill := fun (B : Around) (hB : B.handled = none) (Q' : Unit → Shared → Prop) (E' : Value → Shared → Prop) => set_update (prog := prog) (A := B) (E := E') (id := "set.__init__") (Q := Q') hB hD hl hlD hi hb
  unfold Builtin.«set.__init__» noKeywords
  generalize Builtin.Frozenset.updateFrom = U at fill ⊢
  wp_walk
  refine fill _ (by simpa using hh) _ _ fun h' tk o ks g S M k => ?_
  exact wpAny_pure (h h' tk o ks g S M k)

/-- set(a): a fresh set is laid, then its __init__ runs -/
theorem set_typed {a : Value} {Q : Value → Shared → Prop}
    (h : codeAny (model prog w) A.in1 (.call (.builtin "set.__init__") ⟨[.ref s.heap.objs.size, a], []⟩) (wants (fun r s₂ => r = .none ∧ Q (.ref s.heap.objs.size) s₂) E) { s with heap := s.heap.push (setO #[] 0 (.fresh 0 0 (!byText w))) }) :
    wpAny (model prog w) A (call (.type "set") [a]) Q E s := by
  have hC := PySem.F.called_set
  obtain ⟨_, _, hmro⟩ := hC.mro
  have hmade := hC.made
  have hsub := hC.sub
  have hnt := hC.notType
  have hcan := hC.canCreate
  have hcheck := PySem.F.typeCall_set_1 a
  have hT : Shared.TypeIs { s with heap := s.heap.push (setO #[] 0 (.fresh 0 0 (!byText w))) } (.ref s.heap.objs.size) "set" := ⟨_, Heap.get?_push_size _ rfl, rfl⟩
  have hlook := hC.init.lookup
  have hbind := hC.init.bind (.ref s.heap.objs.size)
  apply wpAny_call
  apply codeAny_of_tree
  refine wpAny_pure (Q := fun fin s' => _) ⟨Code.quiet_builtin _ (by decide +kernel), codeAny_builtin PySem.F.entry_type_call ?_⟩
  rw [Around.under_plain (weight_type_call_type "set" [a] []) rfl]
  repeat (any_goals (first | assumption | wp_step))
  refine codeAny_mono (set_new a (E := E) (Q₁ := fun v s₁ => v = .ref s.heap.objs.size ∧ s₁ = { s with heap := s.heap.push (setO #[] 0 (.fresh 0 0 (!byText w))) }) ⟨rfl, rfl⟩) fun r s₁ hr => ?_
  match r, hr with
  | .error _, hr => exact hr
  | .ok (.ret _), hr =>
    obtain ⟨e1, e2⟩ := hr
    subst e1 e2
    repeat (any_goals (first | assumption | wp_step))
    refine codeAny_mono h fun r₂ s₂ hr₂ => ?_
    match r₂, hr₂ with
    | .error _, hr₂ => exact hr₂
    | .ok (.ret _), hr₂ =>
      obtain ⟨e3, hq⟩ := hr₂
      subst e3
      repeat (any_goals (first | assumption | wp_step))

theorem set_of_list {l : Addr} {items : Array Value} {ns : List Int} {Q : Value → Shared → Prop}
    (hh : A.handled = none) (hl : s.heap.IsList l items) (hi : IntsAre items.toList ns) (hb : ns.length + 1 < scanBound)
    (h : ∀ (h' : Heap) (tk : Nat) o ks, h'.get? s.heap.objs.size = some o → SetIs w (intKind prog w).hash o ks → (∀ y, y ∈ ks ↔ y ∈ ns) → ks.length ≤ ns.length →
      (∀ b ob, s.heap.get? b = some ob → h'.get? b = some ob) → Q (.ref s.heap.objs.size) { s with heap := h', toks := tk }) :
    wpAny (model prog w) A (call (.type "set") [.ref l]) Q E s := by
  have ltl : l < s.heap.objs.size := by obtain ⟨_, e, _⟩ := hl; exact Heap.lt_size e
  refine set_typed (set_init (by simpa using hh) (Heap.get?_push_size _ rfl) (hl.push _) (Nat.ne_of_lt ltl) hi hb fun h' tk o ks g S M k => ⟨rfl, h h' tk o ks g S (fun y => ?_) M.2 fun b ob e => ?_⟩)
  · rw [M.1, List.take_length]
  · exact k b ob (Nat.ne_of_lt (Heap.lt_size e)) (Heap.get?_push_of_some _ e)

theorem set_call {h₀ : Heap} {L l : Addr} {m : Str → Option Value} {news : List (Addr × Obj)} {vs : List Value} {ns : List Int} {Q : Value → Shared → Prop} (F : Fr h₀ L s.heap m) (N : News h₀ L s.heap news) (hh : A.handled = none)
    (hl : s.heap.IsList l vs.toArray) (hi : IntsAre vs ns) (hb : ns.length + 1 < scanBound)
    (h : ∀ D h' (tk : Nat) o ks, Fr h₀ L h' m → News h₀ L h' ((D, o) :: news) → (∀ p ∈ news, p.1 < D) → SetIs w (intKind prog w).hash o ks → (∀ y, y ∈ ks ↔ y ∈ ns) → ks.length ≤ ns.length → Q (.ref D) { s with heap := h', toks := tk }) :
    wpAny (model prog w) A (call (.type "set") [.ref l]) Q E s := by
  exact set_of_list hh hl (by simpa using hi) hb fun h' tk o ks g S hm hlen k => h _ h' tk o ks (F.keeps k) (fun p hp => by
    rcases List.mem_cons.mp hp with e | hp
    · subst e; exact ⟨g, Ne.symm (Nat.ne_of_lt F.ns.lt), next_is_new F⟩
    · exact N.grown k p hp) (fun p hp => Heap.lt_size (N p hp).1) S hm hlen
end


theorem entry_set_iter' : entryFor table "set.__iter__" = some Builtin.«frozenset.__iter__» := entryFor_alias (id' := "frozenset.__iter__") (by kernel_rfl) rfl (by decide +kernel) (by kernel_rfl)
theorem setit_sub : isSubtype (.type "set_iterator") (.type "set_iterator") = pure true := by rw [isSubtype_type]; kernel_rfl
theorem setit_look : typeLookup (.type "set_iterator") "__next__" = pure (some (.builtin "set_iterator.__next__")) := by rw [typeLookup_type, builtinLookup_eq_fast]; kernel_rfl
theorem slot_setit_next : Slot "set_iterator" "__next__" "set_iterator.__next__" := .of (n := "__next__") setit_look (by decide +kernel) (by decide +kernel) (by decide +kernel) (.inl (by decide +kernel)) setit_sub
theorem entry_setit_next : entryFor table "set_iterator.__next__" = some Builtin.«set_iterator.__next__» := entryFor_of_tree (by kernel_rfl)
theorem args_setit_next (a : Value) : argsOk "set_iterator.__next__" ⟨[a], []⟩ := by unfold argsOk; kernel_rfl
abbrev setIt (first : Value) (i : Nat) (a : Addr) (n ep : Nat) : Obj := { cls := .type "set_iterator", dict := none, data := .fields #[first, .int i 0, .ref a, .int n 0, .int ep 0], slots := #[] }

section
variable {prog : Program} {w : World} {A : Around} {E : Value → Shared → Prop} {s : Shared}
theorem set_iter_led {a : Addr} {es : Array (Int × Value)} {ep : Nat} {t : SetTable} {Q : Value → Shared → Prop} (ho : s.heap.get? a = some (setO es ep t)) (hf : t.fits es.size = true)
    (hd : (!byText w && (!t.plain && decide (es.size > 1))) = false) (hQ : Q (.ref s.heap.objs.size) { s with heap := s.heap.push (setIt (.int 0 0) 0 a es.size ep) }) :
    wpAny (model prog w) A (pyIter (.ref a)) Q E s := by
  have hT : s.TypeIs (.ref a) "set" := ⟨_, ho, rfl⟩
  refine wpAny_pyIter_slot hT PySem.F.slot_set_iter (wpAny_call_entry PySem.F.slot_set_iter hT entry_set_iter' ?_ (PySem.F.args_set_iter_1 _))
  unfold Builtin.«frozenset.__iter__»
  refine wpAny_bind (wpAny_pure ?_)
  refine wpAny_bind ?_
  unfold Builtin.Frozenset.sizeOf
  refine wpAny_bind (wpAny_setEntries_of ho rfl hf (wpAny_pure ?_))
  unfold setDrawn
  refine wpAny_bind (wpAny_bind (wpAny_setState_of ho rfl hf ?_))
  dsimp only
  unfold setsByText
  refine wpAny_bind (wpAny_bind (wpAny_askSetting (wpAny_pure ?_)))
  refine wpAny_pure ?_
  show wpAny _ _ (if (!byText w && (!t.plain && decide (es.size > 1))) = true then _ else _) _ _ _
  rw [hd, if_neg (by simp)]
  refine wpAny_bind (wpAny_pure ?_)
  refine wpAny_bind (wpAny_setEpoch_of ho rfl hf ?_)
  refine wpAny_bind (wpAny_newObj_type ?_)
  exact wpAny_pure ⟨_, rfl, "set_iterator", _, ⟨_, Heap.get?_push_size _ rfl, rfl⟩, slot_setit_next.lookup, hQ⟩

theorem set_iter_drawn {a : Addr} {es : Array (Int × Value)} {ep : Nat} {t : SetTable} {Q : Value → Shared → Prop} (ho : s.heap.get? a = some (setO es ep t)) (hf : t.fits es.size = true)
    (hd : (!byText w && (!t.plain && decide (es.size > 1))) = true) (hb : es.size < scanBound)
    (hQ : ∀ (ps : List Nat) dr, List.Perm ps (List.range es.size) → Q (.ref (s.heap.objs.size + 1)) { s with heap := (s.heap.push { cls := .type "tuple", data := .seq (List.toArray (ps.map fun (i : Nat) => rawInt i)) }).push (setIt (.ref s.heap.objs.size) 0 a es.size ep), drawn := dr }) :
    wpAny (model prog w) A (pyIter (.ref a)) Q E s := by
  have hT : s.TypeIs (.ref a) "set" := ⟨_, ho, rfl⟩
  refine wpAny_pyIter_slot hT PySem.F.slot_set_iter (wpAny_call_entry PySem.F.slot_set_iter hT entry_set_iter' ?_ (PySem.F.args_set_iter_1 _))
  unfold Builtin.«frozenset.__iter__»
  refine wpAny_bind (wpAny_pure ?_)
  refine wpAny_bind ?_
  unfold Builtin.Frozenset.sizeOf
  refine wpAny_bind (wpAny_setEntries_of ho rfl hf (wpAny_pure ?_))
  unfold setDrawn
  refine wpAny_bind (wpAny_bind (wpAny_setState_of ho rfl hf ?_))
  dsimp only
  unfold setsByText
  refine wpAny_bind (wpAny_bind (wpAny_askSetting (wpAny_pure ?_)))
  refine wpAny_pure ?_
  show wpAny _ _ (if (!byText w && (!t.plain && decide (es.size > 1))) = true then _ else _) _ _ _
  rw [hd, if_pos rfl]
  refine wpAny_bind (wpAny_drawOrder _ _ _ (by simp) fun ps dr hp => ?_)
  have hlen : ps.length = es.size := by simpa using hp.length_eq
  refine wpAny_bind (wpAny_newObj_type ?_ (by show (List.toArray (ps.map fun (i : Nat) => rawInt i)).size ≤ _; rw [List.size_toArray, List.length_map, hlen]; exact fits_of_scanBound hb))
  have ho' : (s.heap.push { cls := .type "tuple", data := .seq (List.toArray (ps.map fun (i : Nat) => rawInt i)) }).get? a = some (setO es ep t) := Heap.get?_push_of_some _ ho
  refine wpAny_bind (wpAny_setEpoch_of (s := { s with heap := _, drawn := dr }) ho' rfl hf ?_)
  refine wpAny_bind (wpAny_newObj_type ?_)
  have hsz : (s.heap.push { cls := .type "tuple", data := .seq (List.toArray (ps.map fun (i : Nat) => rawInt i)) }).objs.size = s.heap.objs.size + 1 := Heap.size_push ..
  have q := hQ ps dr hp
  rw [← hsz] at q
  exact wpAny_pure ⟨_, rfl, "set_iterator", _, ⟨_, Heap.get?_push_size _ rfl, rfl⟩, slot_setit_next.lookup, q⟩

/-- next(it) for a set's iterator: what its slot does, and an end told by StopIteration -/
theorem setit_turn {it : Addr} {Q : Option Value → Shared → Prop} (hT : s.TypeIs (.ref it) "set_iterator")
    (h : wpAny (model prog w) A.in1 (Builtin.«set_iterator.__next__» ⟨[.ref it], []⟩) (fun fin s' => ∃ v, fin = .done (.ret v) ∧ Q (some v) s') (fun e s' => s'.TypeIs e "StopIteration" ∧ Q none s') s) :
    wpAny (model prog w) A (pyNext (.ref it)) Q E s := by
  refine wpAny_bind (wpAny_attempt (wpAny_callSpecial?_slot (name := Str.ofString "__next__") hT slot_setit_next (wpAny_call_entry slot_setit_next hT entry_setit_next ?_ (args_setit_next _))))
  refine wpAny_mono h (fun fin s' q => ?_) fun e s' q => wpAny_bind (wpAny_isInstance q.1 isSubtype_stop (wpAny_pure q.2))
  obtain ⟨v, e, k⟩ := q
  exact ⟨v, e, wpAny_pure k⟩
/-- a new StopIteration is raised -/
theorem stop_raised {α : Type} {Q : α → Shared → Prop} (hh : A.handled = none) (h : ∀ h' e, (∀ b o, s.heap.get? b = some o → h'.get? b = some o) → Shared.TypeIs { s with heap := h' } (.ref e) "StopIteration" → E (.ref e) { s with heap := h' }) :
    wpAny (model prog w) A (newExc (.type "StopIteration") [] >>= fun e => (raiseNew e : Sem α)) Q E s := by
  have noFirst : firstArgMember (.type "StopIteration") [] = pure Value.none := rfl
  refine wpAny_bind (wpAny_bind (wpAny_newTuple (wpAny_bind ?_)))
  rw [noFirst]
  exact wpAny_pure (wpAny_newObj_type (wpAny_raiseNew_none hh (h _ _ (fun _ _ e => Heap.get?_push_of_some _ (Heap.get?_push_of_some _ e)) ⟨_, Heap.get?_push_size _ rfl, rfl⟩)) (by size_fits))
theorem set_next_slot {a it : Addr} {sl i ep nx : Nat} {x : Value} {es : Array (Int × Value)} {t : SetTable} {Q : Option Value → Shared → Prop} (hi : s.heap.get? it = some (setIt (.int sl 0) i a es.size ep)) (ho : s.heap.get? a = some (setO es ep t)) (hf : t.fits es.size = true)
    (hn : ∀ (A' : Around) (E' : Value → Shared → Prop) (Q' : Option (Value × Nat) → Shared → Prop), Q' (some (x, nx)) s → wpAny (model prog w) A' (setNext a sl i ep) Q' E' s)
    (hQ : ∀ h', h'.get? it = some (setIt (.int nx 0) (i + 1) a es.size ep) → Heap.SameBut it s.heap h' → Q (some x) { s with heap := h' }) :
    wpAny (model prog w) A (pyNext (.ref it)) Q E s := by
  refine setit_turn ⟨_, hi, rfl⟩ (wpAny_bind (wpAny_pure (wpAny_bind (wpAny_fieldsOf hi rfl (wpAny_bind (wpAny_setEntries_of ho rfl hf ?_))))))
  rw [if_neg (by simp)]
  refine wpAny_bind (hn _ _ _ (wpAny_bind (wpAny_setField_rec hi (by simp) fun g₁ i₁ k₁ => ?_)))
  exact wpAny_bind (wpAny_setField_rec (s := { s with heap := g₁ }) i₁ (by simp) fun g₂ i₂ k₂ => wpAny_pure ⟨x, rfl, hQ g₂ i₂ (k₁.trans k₂)⟩)
theorem set_next_drawn {a it tp : Addr} {i ep : Nat} {p n' : Nat} {x : Value × Nat} {xs : Array Value} {e : Int × Value} {es : Array (Int × Value)} {t : SetTable} {Q : Option Value → Shared → Prop} (hi : s.heap.get? it = some (setIt (.ref tp) i a es.size ep)) (ho : s.heap.get? a = some (setO es ep t)) (hf : t.fits es.size = true)
    (htp : s.heap.get? tp = some { cls := .type "tuple", data := .seq xs n' }) (hx : xs[i]? = some (.int p 0)) (he : es[p]? = some e)
    (hQ : ∀ h', h'.get? it = some (setIt (.ref tp) (i + 1) a es.size ep) → Heap.SameBut it s.heap h' → Q (some e.2) { s with heap := h' }) :
    wpAny (model prog w) A (pyNext (.ref it)) Q E s := by
  refine setit_turn ⟨_, hi, rfl⟩ (wpAny_bind (wpAny_pure (wpAny_bind (wpAny_fieldsOf hi rfl (wpAny_bind (wpAny_setEntries_of ho rfl hf ?_))))))
  rw [if_neg (by simp)]
  refine wpAny_bind (wpAny_bind (wpAny_load htp (wpAny_pure ?_)))
  simp only [Int.toNat_natCast, hx]
  refine wpAny_bind (wpAny_bind (wpAny_setState_of ho rfl hf ?_))
  simp only [bne_self_eq_false, Bool.false_eq_true, if_false]
  refine wpAny_bind (wpAny_pure ?_)
  simp only [Int.toNat_natCast, he]
  refine wpAny_pure (wpAny_bind (wpAny_setField_rec hi (by simp) ?_))
  intro g₁ i₁ k₁
  exact wpAny_pure ⟨e.2, rfl, hQ g₁ i₁ k₁⟩
end


theorem setit_look_iter : typeLookup (.type "set_iterator") "__iter__" = pure (some (.builtin "set_iterator.__iter__")) := by rw [typeLookup_type, builtinLookup_eq_fast]; kernel_rfl
theorem slot_setit_iter' : Slot "set_iterator" "__iter__" "set_iterator.__iter__" := .of (n := "__iter__") setit_look_iter (by decide +kernel) (by decide +kernel) (by decide +kernel) (.inl (by decide +kernel)) setit_sub
theorem entry_setit_iter : entryFor table "set_iterator.__iter__" = some Builtin.«dict_keyiterator.__iter__» := entryFor_alias (id' := "dict_keyiterator.__iter__") (by kernel_rfl) rfl (by decide +kernel) (by kernel_rfl)
theorem args_setit_iter (a : Value) : argsOk "set_iterator.__iter__" ⟨[a], []⟩ := by unfold argsOk; kernel_rfl
section
variable {prog : Program} {w : World} {A : Around} {E : Value → Shared → Prop} {s : Shared}
theorem setit_self {it : Addr} {f : Value} {i n ep : Nat} {a : Addr} {Q : Value → Shared → Prop} (hi : s.heap.get? it = some (setIt f i a n ep)) (h : Q (.ref it) s) : wpAny (model prog w) A (pyIter (.ref it)) Q E s := by
  have hT : s.TypeIs (.ref it) "set_iterator" := ⟨_, hi, rfl⟩
  refine wpAny_pyIter_slot hT slot_setit_iter' (wpAny_call_entry slot_setit_iter' hT entry_setit_iter ?_ (args_setit_iter _))
  show wpAny _ _ (ret (.ref it)) _ _ s
  exact wpAny_pure ⟨_, rfl, "set_iterator", _, hT, slot_setit_next.lookup, h⟩
theorem set_end_slot {a it : Addr} {sl i ep : Nat} {es : Array (Int × Value)} {t : SetTable} {Q : Option Value → Shared → Prop} (hh : A.handled = none) (hi : s.heap.get? it = some (setIt (.int sl 0) i a es.size ep)) (ho : s.heap.get? a = some (setO es ep t)) (hf : t.fits es.size = true)
    (hn : ∀ (A' : Around) (E' : Value → Shared → Prop) (Q' : Option (Value × Nat) → Shared → Prop), Q' none s → wpAny (model prog w) A' (setNext a sl i ep) Q' E' s)
    (hQ : ∀ h', Heap.ExtBut it s.heap h' → Q none { s with heap := h' }) :
    wpAny (model prog w) A (pyNext (.ref it)) Q E s := by
  refine setit_turn ⟨_, hi, rfl⟩ (wpAny_bind (wpAny_pure (wpAny_bind (wpAny_fieldsOf hi rfl (wpAny_bind (wpAny_setEntries_of ho rfl hf ?_))))))
  rw [if_neg (by simp)]
  refine wpAny_bind (hn _ _ _ (wpAny_bind (wpAny_setField hi rfl (by simp) ?_)))
  exact stop_raised hh fun g e k T => ⟨T, hQ g fun b o hb q => k b o ((Heap.SameBut.update s.heap it _).extBut b o hb q)⟩
theorem set_end_drawn {a it tp : Addr} {i ep n' : Nat} {xs : Array Value} {es : Array (Int × Value)} {t : SetTable} {Q : Option Value → Shared → Prop} (hh : A.handled = none) (hi : s.heap.get? it = some (setIt (.ref tp) i a es.size ep)) (ho : s.heap.get? a = some (setO es ep t)) (hf : t.fits es.size = true)
    (htp : s.heap.get? tp = some { cls := .type "tuple", data := .seq xs n' }) (hx : xs[i]? = none) (hQ : ∀ h', Heap.ExtBut it s.heap h' → Q none { s with heap := h' }) :
    wpAny (model prog w) A (pyNext (.ref it)) Q E s := by
  refine setit_turn ⟨_, hi, rfl⟩ (wpAny_bind (wpAny_pure (wpAny_bind (wpAny_fieldsOf hi rfl (wpAny_bind (wpAny_setEntries_of ho rfl hf ?_))))))
  rw [if_neg (by simp)]
  refine wpAny_bind (wpAny_bind (wpAny_load htp (wpAny_pure ?_)))
  simp only [Int.toNat_natCast, hx]
  refine wpAny_bind (wpAny_setField_rec hi (by simp) fun g₁ i₁ k₁ => wpAny_bind (wpAny_setField (s := { s with heap := g₁ }) i₁ rfl (by simp) ?_))
  exact stop_raised hh fun g e k T => ⟨T, hQ g fun b o hb q => k b o ((Heap.SameBut.update g₁ it _).extBut b o hb (k₁.extBut b o hb q))⟩

/-- what the next element of a set is, by its slot -/
def NextAt (prog : Program) (w : World) (a : Addr) (es : Array (Int × Value)) (ep : Nat) (t : SetTable) (sl i : Nat) (r : Option (Value × Nat)) : Prop :=
  ∀ (s : Shared) (A' : Around) (E' : Value → Shared → Prop) (Q' : Option (Value × Nat) → Shared → Prop), s.heap.get? a = some (setO es ep t) → Q' r s → wpAny (model prog w) A' (setNext a sl i ep) Q' E' s
theorem next_text {a : Addr} {es : Array (Int × Value)} {ep : Nat} {t : SetTable} (hf : t.fits es.size = true) (hb : byText w = true) (sl i : Nat) : NextAt prog w a es ep t sl i (((pickOrder (w.params.setOrder a ep) es)[i]?).map fun e => (e.2, sl)) := by
  intro s A' E' Q' ho hq
  unfold setNext
  refine wpAny_bind (wpAny_setState_of ho rfl hf ?_)
  dsimp only
  unfold setWalk setsByText
  refine wpAny_bind (wpAny_bind (wpAny_askSetting (wpAny_pure ?_)))
  show wpAny _ _ (if byText w = true then _ else _) _ _ _
  rw [hb, if_pos rfl, if_neg (by simp)]
  refine wpAny_bind (wpAny_bind (wpAny_setState_of ho rfl hf ?_))
  dsimp only
  refine wpAny_bind (wpAny_bind (wpAny_askSetting (wpAny_pure ?_)))
  show wpAny _ _ (if byText w = true then _ else _) _ _ _
  rw [hb, if_pos rfl]
  refine wpAny_bind (wpAny_askSetting ?_)
  exact wpAny_pure (wpAny_pure hq)
theorem next_led {a : Addr} {es : Array (Int × Value)} {ep : Nat} {t : SetTable} (hf : t.fits es.size = true) (hb : byText w = false) (ht : TabOk true t) (hd : (!t.plain && decide (es.size > 1)) = false) (sl i : Nat) :
    NextAt prog w a es ep t sl i (match es[SetTable.below t.place sl]?, t.place[SetTable.below t.place sl]? with | some (_, x), some j => some (x, j + 1) | _, _ => none) := by
  intro s A' E' Q' ho hq
  unfold setNext
  refine wpAny_bind (wpAny_setState_of ho rfl hf ?_)
  dsimp only
  unfold setsByText
  refine wpAny_bind (wpAny_bind (wpAny_askSetting (wpAny_pure ?_)))
  show wpAny _ _ (if byText w = true then _ else _) _ _ _
  rw [hb, if_neg (by simp)]
  show wpAny _ _ (if (!t.plain && decide (es.size > 1)) = true then _ else _) _ _ _
  rw [hd, if_neg (by simp)]
  show wpAny _ _ ((if (!t.led && !es.isEmpty) = true then _ else _) >>= _) _ _ _
  rw [ht.2.2, if_neg (by simp)]
  exact wpAny_bind (wpAny_pure (wpAny_pure hq))
end


section
variable {prog : Program} {w : World} {A : Around} {E : Value → Shared → Prop} {s : Shared}
/-- an order of a set's elements by slots -/
structure Order (prog : Program) (w : World) (a : Addr) (es : Array (Int × Value)) (ep : Nat) (t : SetTable) (vals : List Value) (slots : Nat → Nat) : Prop where
  zero : slots 0 = 0
  len : vals.length = es.size
  step : ∀ i v, vals[i]? = some v → NextAt prog w a es ep t (slots i) i (some (v, slots (i + 1)))
  stop : NextAt prog w a es ep t (slots es.size) es.size none
theorem order_of {a : Addr} {es : Array (Int × Value)} {ep : Nat} {t : SetTable} {ks : List Int} {hash : Int → Int} (G : SetGood w hash es t ks) (hd : (!byText w && (!t.plain && decide (es.size > 1))) = false) :
    ∃ vals slots, Order prog w a es ep t vals slots ∧ List.Perm vals (es.toList.map (·.2)) := by
  cases hb : byText w with
  | true =>
    have hp := pick_perm (w.params.setOrder a ep) es
    have hl := hp.length_eq
    simp only [Array.length_toList] at hl
    refine ⟨(pickOrder (w.params.setOrder a ep) es).toList.map (·.2), fun _ => 0, ⟨rfl, by simp [hl], fun i v hv => ?_, ?_⟩, hp.map _⟩
    · have := next_text (prog := prog) (a := a) (ep := ep) G.fits hb 0 i
      have e : ((pickOrder (w.params.setOrder a ep) es)[i]?).map (fun e => (e.2, 0)) = some (v, 0) := by
        rw [List.getElem?_map] at hv
        cases q : (pickOrder (w.params.setOrder a ep) es).toList[i]? with
        | none => rw [q] at hv; cases hv
        | some x =>
          rw [q] at hv
          rw [Array.getElem?_toList] at q
          rw [q]
          cases hv; rfl
      rwa [e] at this
    · have := next_text (prog := prog) (a := a) (ep := ep) G.fits hb 0 es.size
      rw [Array.getElem?_eq_none (by omega)] at this
      exact this
  | false =>
    rw [hb] at hd
    simp only [Bool.not_false, Bool.true_and] at hd
    have ht := G.tab
    rw [hb] at ht
    have hf := G.fits
    have hps : t.place.size = es.size := by
      simp only [SetTable.fits, Bool.and_eq_true, beq_iff_eq] at hf
      exact hf.1
    refine ⟨es.toList.map (·.2), fun i => if i = 0 then 0 else t.place.getD (i - 1) 0 + 1, ⟨rfl, by simp, fun i v hv => ?_, ?_⟩, .refl _⟩
    · have hi : i < es.size := by
        rcases Nat.lt_or_ge i es.size with q | q
        · exact q
        · rw [List.getElem?_eq_none (by simpa using q)] at hv; cases hv
      have := next_led (prog := prog) (w := w) (a := a) (ep := ep) G.fits hb ht hd (if i = 0 then 0 else t.place.getD (i - 1) 0 + 1) i
      rw [below_at ht.1 (by omega) rfl] at this
      have hip : i < t.place.size := by omega
      rw [Array.getElem?_eq_getElem hi, Array.getElem?_eq_getElem hip] at this
      have e : v = es[i].2 := by
        simp [hi] at hv
        exact hv.symm
      subst e
      have e2 : (if i + 1 = 0 then 0 else t.place.getD (i + 1 - 1) 0 + 1) = t.place[i] + 1 := by simp [Array.getD, hip]
      rw [e2]
      exact this
    · have := next_led (prog := prog) (w := w) (a := a) (ep := ep) G.fits hb ht hd (if es.size = 0 then 0 else t.place.getD (es.size - 1) 0 + 1) es.size
      rw [below_at ht.1 (by omega) rfl, Array.getElem?_eq_none (Nat.le_refl _)] at this
      exact this
theorem walks_slot (hh : A.handled = none) {I a : Addr} (hne : a ≠ I) {es : Array (Int × Value)} {ep : Nat} {t : SetTable} {vals : List Value} {slots : Nat → Nat} (hf : t.fits es.size = true) (O : Order prog w a es ep t vals slots) :
    Walks prog w A I [I, a] [I] es.size (fun i v => vals[i]? = some v) (fun i h => h.get? I = some (setIt (.int (slots i : Int) 0) i a es.size ep) ∧ h.get? a = some (setO es ep t)) where
  sub := fun b hb => by simp at hb; simp [hb]
  frame := fun _ _ _ st hk => ⟨hk I (by simp) _ st.1, hk a (by simp) _ st.2⟩
  item := fun i s Q E hi st hQ => by
    obtain ⟨v, hv⟩ : ∃ v, vals[i]? = some v := ⟨vals[i]'(by rw [O.len]; exact hi), by simp [O.len, hi]⟩
    exact set_next_slot st.1 st.2 hf (fun A' E' Q' q => O.step i v hv s A' E' Q' st.2 q) fun h' g' sb => hQ v h' s.toks hv ⟨g', (sb.2 a hne).trans st.2⟩ fun b o hb e => (sb.2 b (fun q => hb (by simp [q]))).trans e
  done := fun s Q E st hQ => set_end_slot hh st.1 st.2 hf (fun A' E' Q' q => O.stop s A' E' Q' st.2 q) fun h' he => hQ h' s.toks fun b o hb e => he b o (fun q => hb (by simp [q])) e
  self := fun _ _ _ _ st hQ => setit_self st.1 hQ
theorem walks_drawn (hh : A.handled = none) {I a tp : Addr} (hne : a ≠ I) (hnt : tp ≠ I) {es : Array (Int × Value)} {ep n' : Nat} {t : SetTable} {ps : List Nat} {vals : List Value} (hf : t.fits es.size = true) (hlen : ps.length = es.size)
    (hv : ∀ (i p : Nat), ps[i]? = some p → ∃ e : Int × Value, es[p]? = some e ∧ vals[i]? = some e.2) :
    Walks prog w A I [I, a, tp] [I] es.size (fun i v => vals[i]? = some v) (fun i h => h.get? I = some (setIt (.ref tp) i a es.size ep) ∧ h.get? a = some (setO es ep t) ∧ h.get? tp = some { cls := .type "tuple", data := .seq (List.toArray (ps.map fun (i : Nat) => rawInt i)) n' }) where
  sub := fun b hb => by simp at hb; simp [hb]
  frame := fun _ _ _ st hk => ⟨hk I (by simp) _ st.1, hk a (by simp) _ st.2.1, hk tp (by simp) _ st.2.2⟩
  item := fun i s Q E hi st hQ => by
    have hi' : i < ps.length := by omega
    obtain ⟨e, he, hve⟩ := hv i ps[i] (List.getElem?_eq_getElem hi')
    exact set_next_drawn (x := (.none, 0)) st.1 st.2.1 hf st.2.2 (p := ps[i]) (n' := n') (by simp [hi', rawInt]) he fun h' g' sb => hQ e.2 h' s.toks hve ⟨g', (sb.2 a hne).trans st.2.1, (sb.2 tp hnt).trans st.2.2⟩ fun b o hb e => (sb.2 b (fun q => hb (by simp [q]))).trans e
  done := fun s Q E st hQ => set_end_drawn hh st.1 st.2.1 hf st.2.2 (by simp [hlen]) fun h' he => hQ h' s.toks fun b o hb e => he b o (fun q => hb (by simp [q])) e
  self := fun _ _ _ _ st hQ => setit_self st.1 hQ

/-- walks over a set: the iterator and what it gives -/
theorem set_walks {a : Addr} {es : Array (Int × Value)} {ep : Nat} {t : SetTable} {ks : List Int} {hash : Int → Int} {Q : Value → Shared → Prop} (hh : ∀ A' : Around, A'.handled = none → A'.handled = none) (G : SetGood w hash es t ks) (ho : s.heap.get? a = some (setO es ep t))
    (hQ : ∀ I h₁ dr fp vals St, (∀ b o, s.heap.get? b = some o → h₁.get? b = some o) → s.heap.get? I = none → (∀ b ∈ fp, b = I ∨ b = a ∨ s.heap.objs.size ≤ b ∧ b < h₁.objs.size) → List.Perm vals (es.toList.map (·.2)) → h₁.get? I ≠ none →
      (∀ A' : Around, A'.handled = none → Walks prog w A' I fp [I] es.size (fun i v => vals[i]? = some v) St) → St 0 h₁ → (∀ i h, St i h → ∃ o, h.get? I = some o) → Q (.ref I) { s with heap := h₁, drawn := dr }) :
    wpAny (model prog w) A (pyIter (.ref a)) Q E s := by
  have hlt : a < s.heap.objs.size := Heap.lt_size ho
  have hnone : ∀ b, s.heap.objs.size ≤ b → s.heap.get? b = none := fun b hb => by
    cases q : s.heap.get? b with
    | none => rfl
    | some o => exact absurd (Heap.lt_size q) (Nat.not_lt.mpr hb)
  cases hd : (!byText w && (!t.plain && decide (es.size > 1))) with
  | false =>
    obtain ⟨vals, slots, O, hp⟩ := order_of (prog := prog) (a := a) (ep := ep) G hd
    refine set_iter_led ho G.fits hd ?_
    refine hQ s.heap.objs.size _ s.drawn [s.heap.objs.size, a] vals _ (fun b o e => Heap.get?_push_of_some _ e) (hnone _ (Nat.le_refl _)) (fun b hb => ?_) hp ?_ (fun A' hA => walks_slot hA (Nat.ne_of_lt hlt) G.fits O) ?_ (fun i h st => ⟨_, st.1⟩)
    · simp only [List.mem_cons, List.not_mem_nil, or_false] at hb
      rcases hb with h | h
      · exact .inl h
      · exact .inr (.inl h)
    · rw [Heap.get?_push_size _ rfl]; simp
    · refine ⟨?_, Heap.get?_push_of_some _ ho⟩
      rw [O.zero]
      exact Heap.get?_push_size _ rfl
  | true =>
    refine set_iter_drawn ho G.fits hd G.lt fun ps dr hp => ?_
    have hlen : ps.length = es.size := by simpa using hp.length_eq
    have hsz : (s.heap.push { cls := .type "tuple", data := .seq (List.toArray (ps.map fun (i : Nat) => rawInt i)) }).objs.size = s.heap.objs.size + 1 := Heap.size_push ..
    have keep : ∀ b o, s.heap.get? b = some o → ((s.heap.push { cls := .type "tuple", data := .seq (List.toArray (ps.map fun (i : Nat) => rawInt i)) }).push (setIt (.ref s.heap.objs.size) 0 a es.size ep)).get? b = some o :=
      fun b o e => Heap.get?_push_of_some _ (Heap.get?_push_of_some _ e)
    have gI : ((s.heap.push { cls := .type "tuple", data := .seq (List.toArray (ps.map fun (i : Nat) => rawInt i)) }).push (setIt (.ref s.heap.objs.size) 0 a es.size ep)).get? (s.heap.objs.size + 1) = some (setIt (.ref s.heap.objs.size) 0 a es.size ep) := by
      rw [← hsz]; exact Heap.get?_push_size _ rfl
    have hpp : List.Perm (ps.filterMap fun p => es[p]?) es.toList := by
      have := hp.filterMap fun p => es[p]?
      rwa [filterMap_getElem?_range] at this
    have hall : ∀ p ∈ ps, p < es.size := fun p hm => by have := hp.mem_iff.mp hm; simpa using this
    have hmap : ∀ l : List Nat, (∀ p ∈ l, p < es.size) → (l.filterMap fun p => es[p]?) = l.map fun p => es.getD p (0, .none) := by
      intro l
      induction l with
      | nil => intro _; rfl
      | cons p r ih =>
        intro h
        have h1 := h p List.mem_cons_self
        rw [List.filterMap_cons_some (b := es.getD p (0, .none)) (by simp [Array.getD, h1]), ih fun q hq => h q (List.mem_cons_of_mem _ hq)]; rfl
    rw [hmap ps hall] at hpp
    refine hQ (s.heap.objs.size + 1) _ dr [s.heap.objs.size + 1, a, s.heap.objs.size] (ps.map fun p => (es.getD p (0, .none)).2) _ keep (hnone _ (Nat.le_succ _)) (fun b hb => ?_) ?_ (by rw [gI]; simp)
      (fun A' hA => walks_drawn (n' := 0) (ps := ps) hA (Nat.ne_of_lt (Nat.lt_succ_of_lt hlt)) (Nat.ne_of_lt (Nat.lt_succ_self _)) G.fits hlen fun i p hi => ?_) ⟨gI, keep _ _ ho, ?_⟩ (fun i h st => ⟨_, st.1⟩)
    · simp only [List.mem_cons, List.not_mem_nil, or_false] at hb
      rcases hb with h | h | h
      · exact .inl h
      · exact .inr (.inl h)
      · subst h
        exact .inr (.inr ⟨Nat.le_refl _, Nat.lt_trans (Nat.lt_succ_self _) (Heap.lt_size gI)⟩)
    · have := hpp.map (·.2)
      rwa [List.map_map] at this
    · have hm := hall p (List.mem_of_getElem? hi)
      exact ⟨es.getD p (0, .none), by simp [Array.getD, hm], by rw [List.getElem?_map, hi]; rfl⟩
    · exact Heap.get?_push_of_some _ (Heap.get?_push_size _ rfl)
end

section
variable {prog : Program} {w : World} {A : Around} {E : Value → Shared → Prop} {s : Shared}
theorem set_no_list : (Value.type "set" == Value.type "list") = false := by decide
theorem set_no_tuple : (Value.type "set" == Value.type "tuple") = false := by decide
theorem items_eq {vals : List Value} {acc : Array Value} {n : Nat} (hl : vals.length = n) (h : ItemsOf (fun i v => vals[i]? = some v) acc n) : acc.toList = vals := by
  refine List.ext_getElem? fun i => ?_
  rw [Array.getElem?_toList]
  cases q : acc[i]? with
  | some v => exact (h.2 i v q).symm
  | none =>
    have := Array.getElem?_eq_none_iff.mp q
    have h2 := h.1
    rw [List.getElem?_eq_none (by rw [hl]; omega)]
theorem set_hint {a : Addr} {es : Array (Int × Value)} {ep : Nat} {t : SetTable} {Q : Bool → Shared → Prop} (ho : s.heap.get? a = some (setO es ep t)) (h : Q false s) : wpAny (model prog w) A (Builtin.List.listLengthHint (.ref a)) Q E s := by
  have hT : s.TypeIs (.ref a) "set" := ⟨_, ho, rfl⟩
  have own : isSubtype (.type "set") (.type "set") = pure true := sub_set_self
  have look := PySem.F.slot_set_len.lookup
  have split : splitId "set.__len__" = some ("set", "__len__") := by decide +kernel
  cases s
  unfold Builtin.List.listLengthHint
  refine wpAny_bind (wpAny_specialOf hT look ?_)
  dsimp only
  rw [split]
  repeat (any_goals (first | exact h | assumption | wp_step))
theorem ints_kvi : ∀ {vals : List Value}, (∀ v ∈ vals, ∃ k tk, v = .int k tk) → IntsAre vals (vals.map kvi)
  | [], _ => .nil
  | v :: r, h => by
    obtain ⟨k, tk, rfl⟩ := h v List.mem_cons_self
    exact .cons k tk (ints_kvi fun v hv => h v (List.mem_cons_of_mem _ hv))
theorem collect_set {a : Addr} {o : Obj} {ks : List Int} {hash : Int → Int} {Q : List Value → Shared → Prop} (hh : A.handled = none) (ho : s.heap.get? a = some o) (hI : SetIs w hash o ks)
    (hQ : ∀ h' tk dr vals ns, (∀ b o, s.heap.get? b = some o → h'.get? b = some o) → s.heap.objs.size ≤ h'.objs.size → IntsAre vals ns → List.Perm ns ks → Q vals { s with heap := h', toks := tk, drawn := dr }) :
    wpAny (model prog w) A (collect (.ref a)) Q E s := by
  obtain ⟨es, ep, t, rfl, G⟩ := hI
  have hlt : a < s.heap.objs.size := Heap.lt_size ho
  have hSa : s.heap.objs.size ≠ a := Nat.ne_of_gt hlt
  unfold collect
  refine wpAny_bind (wpAny_runValue (codeAny_builtin PySem.F.entry_proto_collect ?_))
  rw [Around.under_plainId PySem.F.plain_proto_collect _]
  show wpAny _ A.in1 (newList [] >>= fun l => again (.builtin "list.__iadd__" ⟨[l, .ref a], []⟩)) _ _ s
  refine wpAny_bind (wpAny_newObj_type ?_)
  refine wpAny_pure ⟨plainId_quiet PySem.F.plain_list_iadd _, codeAny_builtin PySem.F.entry_list_iadd ?_⟩
  rw [Around.under_plainId PySem.F.plain_list_iadd _]
  show wpAny _ A.in1 (Builtin.List.listExtendWith (.ref s.heap.objs.size) (.ref a) (.ref s.heap.objs.size)) _ _ _
  have hsz : (s.heap.push { cls := .type "list", data := .seq ([] : List Value).toArray }).objs.size = s.heap.objs.size + 1 := Heap.size_push ..
  have hS₁ : (s.heap.push { cls := .type "list", data := .seq ([] : List Value).toArray }).get? s.heap.objs.size = some { cls := .type "list", data := .seq ([] : List Value).toArray } := Heap.get?_push_size _ rfl
  have ho₁ : (s.heap.push { cls := .type "list", data := .seq ([] : List Value).toArray }).get? a = some (setO es ep t) := Heap.get?_push_of_some _ ho
  have keep₁ : ∀ b o, s.heap.get? b = some o → (s.heap.push { cls := .type "list", data := .seq ([] : List Value).toArray }).get? b = some o := fun b o e => Heap.get?_push_of_some _ e
  generalize s.heap.push { cls := .type "list", data := .seq ([] : List Value).toArray } = g₁ at hsz hS₁ ho₁ keep₁ ⊢
  unfold Builtin.List.listExtendWith
  refine wpAny_bind (wpAny_typeOf (T := "set") ⟨_, ho₁, rfl⟩ ?_)
  have h1 : Builtin.List.listSameRef (.ref s.heap.objs.size) (.ref a) = false := by simp [Builtin.List.listSameRef, hSa]
  simp only [h1, set_no_list, set_no_tuple, Bool.or_false, Bool.false_eq_true, if_false]
  refine wpAny_bind (set_walks (s := { s with heap := g₁ }) (fun _ h => h) G ho₁ fun I h₁ dr fp vals St k hI0 hfp hp _ W st _ => ?_)
  have hlen : vals.length = es.size := by simpa using hp.length_eq
  have hSI : s.heap.objs.size ≠ I := fun e => by
    rw [← e] at hI0
    rw [show g₁.get? s.heap.objs.size = none from hI0] at hS₁; cases hS₁
  have hSf : s.heap.objs.size ∉ fp := fun hm => by
    rcases hfp _ hm with e | e | ⟨e, _⟩
    · exact hSI e
    · exact hSa e
    · have e' : g₁.objs.size ≤ s.heap.objs.size := e
      rw [hsz] at e'
      exact absurd e' (Nat.not_succ_le_self _)
  have hS₂ := k _ _ hS₁
  have key : ∀ (h : Heap) (c₁ tk : Nat) (R : Result → Shared → Prop), St 0 h → (∀ b o, b ≠ s.heap.objs.size → g₁.get? b = some o → h.get? b = some o) → h.get? s.heap.objs.size = some { cls := .type "list", data := .seq #[] c₁ } →
      (∀ h' tk' acc' c', (∀ b o, b ≠ s.heap.objs.size → g₁.get? b = some o → h'.get? b = some o) → h'.get? s.heap.objs.size = some { cls := .type "list", dict := none, data := .seq acc' c', slots := #[] } → acc'.toList = vals → R (.ok (.ret (.ref s.heap.objs.size))) { s with heap := h', toks := tk', drawn := dr }) →
      codeAny (model prog w) A (.builtin "list.extend.loop" ⟨[.ref s.heap.objs.size, .ref I, .ref s.heap.objs.size], []⟩) R { s with heap := h, toks := tk, drawn := dr } := by
    intro h c₁ tk R hst hk hS hR
    refine codeAny_extend_loopS (W A.in1 (by simpa using hh)).toS (fits_of_scanBound G.lt) _ hSf _ es.size 0 _ #[] c₁ rfl (Nat.zero_le _) hst hS (ItemsOf.nil _) fun s' acc' c' hm hS' hacc => ?_
    have noI : ∀ b ob, g₁.get? b = some ob → b ≠ I := fun b ob e q => by
      rw [q, show g₁.get? I = none from hI0] at e
      cases e
    have same := Moved.eq_with hm
    rw [same]
    exact hR _ _ acc' c' (fun b ob hb e => hm.heap b ob (by simp only [List.mem_cons, List.not_mem_nil, or_false, not_or]; exact ⟨hb, noI b ob e⟩) (hk b ob hb e)) hS' (items_eq hlen hacc)
  have fin : ∀ h' tk' acc' c', (∀ b o, b ≠ s.heap.objs.size → g₁.get? b = some o → h'.get? b = some o) → h'.get? s.heap.objs.size = some { cls := .type "list", dict := none, data := .seq acc' c', slots := #[] } → acc'.toList = vals → Q acc'.toList { s with heap := h', toks := tk', drawn := dr } := by
    intro h' tk' acc' c' hk hg ha
    rw [ha]
    have hint : ∀ v ∈ vals, ∃ k tk, v = .int k tk := fun v hv => by
      obtain ⟨e, he, rfl⟩ := List.mem_map.mp (hp.mem_iff.mp hv)
      obtain ⟨k, tk, rfl⟩ := G.el e he
      exact ⟨k, tk, rfl⟩
    refine hQ h' tk' dr vals (vals.map kvi) (fun b o e => hk b o (fun q => by subst q; exact absurd (Heap.lt_size e) (Nat.lt_irrefl _)) (keep₁ _ _ e)) (Nat.le_of_lt (Heap.lt_size hg)) (ints_kvi hint) ?_
    have := hp.map kvi
    rw [List.map_map] at this
    rw [← G.eq]; exact this
  refine wpAny_bind (wpAny_holding (set_hint (s := { s with heap := h₁, drawn := dr }) (k _ _ ho₁) ?_))
  refine wpAny_ite_split (fun _ => ?_) (fun _ => wpAny_pure ⟨plainId_quiet PySem.F.plain_extend_loop _, key h₁ _ s.toks _ st (fun b o _ e => k b o e) hS₂ (fun h' tk' acc' c' hk hg ha => wpAny_bind (wpAny_load hg (wpAny_pure (fin h' tk' acc' c' hk hg ha))))⟩)
  refine wpAny_bind (wpAny_rule ?_)
  refine wpAny_bind ?_
  show wpAny _ _ (updateSeq s.heap.objs.size (·.push .none) >>= fun _ => updateSeq s.heap.objs.size (·.pop)) _ _ _
  refine wpAny_bind (wpAny_updateSeq hS₂ rfl ?_)
  have hS₃ := Heap.get?_update_self (Obj.mapSeq (·.push Value.none)) hS₂ rfl
  refine wpAny_updateSeq (hz := by seq_fits) hS₃ rfl ?_
  have hS₄ := Heap.get?_update_self (Obj.mapSeq (·.pop)) hS₃ rfl
  have past : ∀ b ob, b ≠ s.heap.objs.size → h₁.get? b = some ob → ((h₁.update s.heap.objs.size (Obj.mapSeq (·.push Value.none))).update s.heap.objs.size (Obj.mapSeq (·.pop))).get? b = some ob := fun b ob hb e => by
    rw [Heap.get?_update_other _ _ (Ne.symm hb), Heap.get?_update_other _ _ (Ne.symm hb), e]
  exact wpAny_pure ⟨plainId_quiet PySem.F.plain_extend_loop _, key _ _ _ _ ((W A hh).frame 0 _ _ st fun b hb ob e => past b ob (fun q => hSf (q ▸ hb)) e) (fun b ob hb e => past b ob hb (k b ob e)) hS₄ (fun h' tk' acc' c' hk hg ha => wpAny_bind (wpAny_load hg (wpAny_pure (fin h' tk' acc' c' hk hg ha))))⟩
end
section
variable {prog : Program} {w : World} {A : Around} {E : Value → Shared → Prop} {s : Shared}
theorem sorted_set {h₀ : Heap} {L a : Addr} {m : Str → Option Value} {news : List (Addr × Obj)} {o : Obj} {ks : List Int} {hash : Int → Int} {Q : Value → Shared → Prop} (F : Fr h₀ L s.heap m) (N : News h₀ L s.heap news) (hp : (a, o) ∈ news) (hI : SetIs w hash o ks) (hh : A.handled = none) (h64 : ks.length < 64)
    (h : ∀ D h' tk dr ds ns n, Fr h₀ L h' m → News h₀ L h' ((D, PySem.W.listOf (List.toArray ds) n) :: news) → (∀ p ∈ news, p.1 < D) → IntsAre ds ns → List.Perm ns ks → ns.Pairwise (· ≤ ·) → Q (.ref D) { s with heap := h', toks := tk, drawn := dr }) :
    wpAny (model prog w) A (call (.builtin "sorted") [.ref a]) Q E s := by
  refine PySem.Calls.call_function_entry kind_sorted plain_sorted entry_sorted (args_sorted1 _) ?_
  unfold Builtin.«sorted»
  refine wpAny_bind (m := checkCount "sorted" 1 1 _) (wpAny_pure ?_)
  refine wpAny_bind (collect_set (by simpa using hh) (N _ hp).1 hI fun h₁ tk dr vals ns k hmono hi hpm => ?_)
  have h64' : vals.length < 64 := by rw [hi.length, hpm.length_eq]; exact h64
  refine wpAny_bind (wpAny_newList ?_ (hsz := by rw [PySem.sizeLine_eq]; omega))
  have hoL : (h₁.push (seqObj "list" vals.toArray 0)).get? h₁.objs.size = some (seqObj "list" vals.toArray 0) := Heap.get?_push_size _ rfl
  refine wpAny_bind (wpAny_holding (wpAny_call_entry (s := { s with heap := _, toks := tk, drawn := dr }) slot_list_sort ⟨_, hoL, rfl⟩ entry_list_sort (list_sort_tree hoL hi h64' fun out ns' a1 a2 a3 => ⟨_, rfl, ?_⟩) (args_list_sort _)))
  have k₂ : ∀ b o, s.heap.get? b = some o → (sortedHeap (h₁.push (seqObj "list" vals.toArray 0)) h₁.objs.size vals out).get? b = some o := fun b o e => by
    have e1 := k b o e
    have hlt := Heap.lt_size e1
    rw [sortedHeap_old (Nat.ne_of_lt hlt) (by rw [size_push']; exact Nat.lt_succ_of_lt hlt)]
    exact Heap.get?_push_of_some _ e1
  obtain ⟨e, he⟩ := sortedHeap_at (vs := vals) (out := out) hoL
  have F' := PyProof.Rows.Fr.kept F k₂
  have N' := PyProof.Rows.News.kept_cons F N k₂ hmono he
  refine wpAny_pure ⟨_, rfl, h _ _ tk dr out.toList ns' e F' (by simpa [PySem.W.listOf] using N') (fun p hp => Nat.lt_of_lt_of_le (Heap.lt_size (N p hp).1) hmono) a1 (a2.trans hpm) a3⟩
end


section
local macro_rules | `(tactic| walk_at "getAttr ref") => `(tactic| (k_here; (with_reducible show wpAny _ _ (getAttr (Value.ref _) (PySem.Str.ofString "rows") _) _ _ _); refine sh_rows (by k_asm) (by k_asm) (by assumption) (by assumption) ?_))

local macro_rules | `(tactic| walk_at "getAttr ref") => `(tactic| (k_here; (with_reducible show wpAny _ _ (getAttr (Value.ref _) (PySem.Str.ofString "is_backward") _) _ _ _); refine sh_back (by k_asm) (by k_asm) (by assumption) (by assumption) ?_))
local macro_rules | `(tactic| walk_at "MY amb") => `(tactic| (refine amb_of (by k_asm) (by k_asm) (Fr.keep (by k_asm)) rfl ?_ ?_ <;> (simp only [depth_deeper, units_deeper, depth_in1, units_in1]; omega)))


local macro_rules | `(tactic| walk_at "call builtin:len") => `(tactic| (k_here; (with_reducible show wpAny _ _ (call (Value.builtin "len") [Value.ref _]) _ _ _); (with_unfolding_all refine' my_len ?k1 ?k2 ?k3 ?_; (case k1 => k_asm); (case k2 => k_mem); (case k3 => omega); k_whole)))

local macro_rules | `(tactic| walk_at "subscriptTail") => `(tactic| (k_here; (with_reducible show wpAny _ _ (subscriptTail _ _ (Value.ref _) (Value.int _ _)) _ _ _); (with_unfolding_all refine' item_litK ?k1 ?k2 ?k3 ?k4 ?_ ?k6; (case k1 => first | exact led_list (by k_asm) (by k_mem) | exact Fr.lst (by k_asm) (by assumption)); (case k2 => first | decide | omega); (case k3 => first | decide | omega); (case k4 => first | rfl | assumption); (case k6 => with_unfolding_all rfl); k_whole)))

local macro_rules | `(tactic| walk_at "call builtin:len") => `(tactic| (k_here; (with_reducible show wpAny _ _ (call (Value.builtin "len") [Value.ref _]) _ _ _); (with_unfolding_all refine' my_lenB ?k1 ?k2 ?k3 ?_; (case k1 => k_asm); (case k2 => assumption); (case k3 => omega); k_whole)))
local macro_rules | `(tactic| walk_at "subscriptTail") => `(tactic| (k_here; (with_reducible show wpAny _ _ (subscriptTail _ _ (Value.ref _) (Value.int _ _)) _ _ _); (with_unfolding_all refine' my_item_int ?k1 ?k2 ?k3 ?k4 ?k5 ?_ ?k6; (case k1 => first | exact led_list (by k_asm) (by k_mem) | exact list_keeps (by assumption) (Fr.keep (by k_asm))); (case k2 => assumption); (case k3 => omega); (case k4 => omega); (case k5 => omega); (case k6 => with_unfolding_all rfl); k_whole); intro n' t' e'))



local macro_rules | `(tactic| walk_at "call builtin:list.append") => `(tactic| (k_here; (with_reducible show wpAny _ _ (call (Value.builtin _) [Value.ref _, _]) _ _ _); k_dflt (refine' my_append ?k1 ?k2 ?k3 ?z ?_; (case k1 => k_asm); (case k2 => k_asm); (case k3 => k_upd); (case z => omega); k_whole); intro h' F' N'; (try k_sweep)))

local macro_rules | `(tactic| walk_at "execs cons Assign cons") => `(tactic| (k_here; (with_reducible refine wpAny_execs_cons ?_); (try dsimp only)))

local macro_rules | `(tactic| k_all) => `(tactic| first | assumption | fail "k_all: none")

local macro_rules | `(tactic| walk_at "binaryOp Add ref ref") => `(tactic| (k_here; (with_reducible show wpAny _ _ (binaryOp _ (Value.ref _) (Value.ref _)) _ _ _); (with_unfolding_all refine' my_add_lists ?k1 ?k2 ?k3 ?k4 ?k5 ?k6 ?_; (case k1 => k_asm); (case k2 => k_asm); (case k3 => exact led_list (by k_asm) (by k_mem)); (case k4 => exact led_list (by k_asm) (by k_mem)); (case k5 => first | decide | omega | (simp only [List.length_append, List.length_cons, List.length_nil]; omega)); (case k6 => first | decide | omega | (simp only [List.length_append, List.length_cons, List.length_nil]; omega))); intro D' h' F' N' l1; (try k_lt l1); (try dsimp only); (try k_sweep)))




local macro_rules | `(tactic| walk_at "MY ne0") => `(tactic| (with_reducible first | assumption | exact Ne.symm (by assumption) | exact Nat.ne_of_gt (by assumption) | exact Nat.ne_of_lt (by assumption)))
local macro_rules | `(tactic| k_ne) => `(tactic| (refine neN ?_; (try dsimp only); first | walk_at "MY ne0" | ((repeat (with_reducible first | (rename (_ < _ ∧ _) => h9; obtain ⟨_, _⟩ := h9) | (rename (_ ≠ _ ∧ _) => h9; obtain ⟨_, _⟩ := h9) | (rename ((_ ≠ _ ∧ _) ∧ _) => h9; obtain ⟨_, _⟩ := h9))); walk_at "MY ne0")))


theorem inB_yes {b e : Int} {r : Row} (h1 : b ≤ r.cl) (h2 : r.cl < e) : inB b e r = true := by simp [inB, h1, h2]
theorem inB_no {b e : Int} {r : Row} (h : ¬ b ≤ r.cl ∨ ¬ r.cl < e) : inB b e r = false := by
  rcases h with h | h <;> simp [inB, h]
set_option maxHeartbeats 4000000 in
theorem adv_spec {w : World} {A : Around} {s : Shared} {R : Result → Shared → Prop} {a : Addr} {vs : List Value} {rs : List Row} {b e : Int} {tb te : Tok}
    (C : Amb w A 1 s.heap) (S : ShapedAt s.heap a vs rs)
    (h : ∀ h' tk t, Kp s.heap h' → R (.ok (.ret (.int (advOf rs b e) t))) { s with heap := h', toks := tk }) :
    codeAny (model PR w) A (.call (.ref 69) ⟨[.ref a, .int b tb, .int e te], []⟩) R s := by
  have mk : marker PySem.Challenge.rw_pb0148_01 hd.heap_39 := by w_top off; k_fill; exact trivial
  obtain ⟨KX, ⟨mean, mg, mb, T⟩, hh, hdp, hun⟩ := C
  obtain ⟨hd', dp, fr, gd, un⟩ := A
  obtain rfl : hd' = none := hh
  dsimp only at hdp hun
  obtain ⟨⟨dx, es, n, l, ib, I, hg, hgb, hl⟩, hrows, hfew⟩ := S
  refine enter_cells (K := hd.heap_39 w.params) [] (by intro p hp; cases hp) KX T.nolimit (by k_is) (by k_is) (by dsimp only; omega) (BindsTo.of_eq rfl) (by rfl) (by decide +kernel) (fun L h₁ tk cells F N Y hL0 hL => ?_)
  change Fr s.heap L h₁ _ at F
  change News s.heap L h₁ _ at N
  k_cells Y
  simp only [List.cons_append, List.nil_append] at N
  clear hL0
  try dsimp only
  (repeat' (first | (k_unfold; (try dsimp only)) | ((( (fail_if_success (with_reducible show wpAny _ _ (eval (Expr.ListComp _ _ _ _) _) _ _ _)); (fail_if_success (with_reducible show wpAny _ _ (exec (Stmt.Assign _ (Expr.ListComp _ _ _ _) _) _) _ _ _)); (fail_if_success (with_reducible show wpAny _ _ (exec (Stmt.For _ _ _ _ _) _) _ _ _)); (fail_if_success (with_reducible show wpAny _ _ (exec (Stmt.While _ _ _ _) _) _ _ _)); (fail_if_success (with_reducible show wpAny _ _ (pyIter (Value.ref _)) _ _ _)); (fail_if_success (with_reducible show LCt.CompSrcT _ _ _ _ _ _ _ _ _ _ _ _ _ _ _)); (fail_if_success (with_reducible show LCt.CompRestT _ _ _ _ _ _ _ _ _ _ _ _ _ _ _ _ _ _ _ _)); (fail_if_success (with_reducible show LCg.CompSrc _ _ _ _ _ _ _ _ _ _ _ _ _ _)))); first | walk1 | (dsimp only; walk1) | (leave1; walk_say "STEP leave1"; try dsimp only)) | fail "no step"))
  k_dflt (refine LCt.ListComp_T (F₀ := by k_asm) (by with_unfolding_all rfl) (by decide) (by rfl) (by decide) (by rfl) ?_)
  try dsimp only
  (repeat' (first | (k_unfold; (try dsimp only)) | ((( (fail_if_success (with_reducible show wpAny _ _ (eval (Expr.ListComp _ _ _ _) _) _ _ _)); (fail_if_success (with_reducible show wpAny _ _ (exec (Stmt.Assign _ (Expr.ListComp _ _ _ _) _) _) _ _ _)); (fail_if_success (with_reducible show wpAny _ _ (exec (Stmt.For _ _ _ _ _) _) _ _ _)); (fail_if_success (with_reducible show wpAny _ _ (exec (Stmt.While _ _ _ _) _) _ _ _)); (fail_if_success (with_reducible show wpAny _ _ (pyIter (Value.ref _)) _ _ _)); (fail_if_success (with_reducible show LCt.CompSrcT _ _ _ _ _ _ _ _ _ _ _ _ _ _ _)); (fail_if_success (with_reducible show LCt.CompRestT _ _ _ _ _ _ _ _ _ _ _ _ _ _ _ _ _ _ _ _)); (fail_if_success (with_reducible show LCg.CompSrc _ _ _ _ _ _ _ _ _ _ _ _ _ _)))); first | walk1 | (dsimp only; walk1) | (leave1; walk_say "STEP leave1"; try dsimp only)) | fail "no step"))
  k_dflt (refine LCt.CompSrcT.base (by rfl) (by k_asm) (by k_asm) (by assumption) (by rw [List.size_toArray, PySem.sizeLine_eq]; omega) ?_)
  intro g
  try dsimp only
  refine comp_paired hrows (fun pre ys news' => news' = _ ∧ IntsAre ys ((pre.filter (inB b e)).map (·.adv))) ⟨rfl, .nil⟩ ?_ ?_
  · intro pre r post v ys news I oI C oC D m₂ h tk E' hbs hr hinv hC hx F' N' off ne
    obtain ⟨rfl, hys⟩ := hinv
    obtain ⟨ar, v0, t1, t2, v3, v4, v5, rfl, ht, _⟩ := hr
    (try simp only [LCg.Off3, and_true] at off)
    try dsimp only
    k_fold
    (repeat' (first | (k_unfold; (try dsimp only)) | ((( (fail_if_success (with_reducible show wpAny _ _ (eval (Expr.ListComp _ _ _ _) _) _ _ _)); (fail_if_success (with_reducible show wpAny _ _ (exec (Stmt.Assign _ (Expr.ListComp _ _ _ _) _) _) _ _ _)); (fail_if_success (with_reducible show wpAny _ _ (exec (Stmt.For _ _ _ _ _) _) _ _ _)); (fail_if_success (with_reducible show wpAny _ _ (exec (Stmt.While _ _ _ _) _) _ _ _)); (fail_if_success (with_reducible show wpAny _ _ (pyIter (Value.ref _)) _ _ _)); (fail_if_success (with_reducible show LCt.CompSrcT _ _ _ _ _ _ _ _ _ _ _ _ _ _ _)); (fail_if_success (with_reducible show LCt.CompRestT _ _ _ _ _ _ _ _ _ _ _ _ _ _ _ _ _ _ _ _)); (fail_if_success (with_reducible show LCg.CompSrc _ _ _ _ _ _ _ _ _ _ _ _ _ _)))); first | walk1 | (dsimp only; walk1) | (leave1; walk_say "STEP leave1"; try dsimp only)) | fail "no step"))
    all_goals first | exact ints_snoc_yes hys (inB_yes (by assumption) (by assumption)) | exact ints_snoc_no hys (inB_no (.inl (by assumption))) | exact ints_snoc_no hys (inB_no (.inr (by assumption)))
  · rintro ys news ⟨rfl, hys⟩
    (repeat' (first | (k_unfold; (try dsimp only)) | ((( (fail_if_success (with_reducible show wpAny _ _ (eval (Expr.ListComp _ _ _ _) _) _ _ _)); (fail_if_success (with_reducible show wpAny _ _ (exec (Stmt.Assign _ (Expr.ListComp _ _ _ _) _) _) _ _ _)); (fail_if_success (with_reducible show wpAny _ _ (exec (Stmt.For _ _ _ _ _) _) _ _ _)); (fail_if_success (with_reducible show wpAny _ _ (exec (Stmt.While _ _ _ _) _) _ _ _)); (fail_if_success (with_reducible show wpAny _ _ (pyIter (Value.ref _)) _ _ _)); (fail_if_success (with_reducible show LCt.CompSrcT _ _ _ _ _ _ _ _ _ _ _ _ _ _ _)); (fail_if_success (with_reducible show LCt.CompRestT _ _ _ _ _ _ _ _ _ _ _ _ _ _ _ _ _ _ _ _)); (fail_if_success (with_reducible show LCg.CompSrc _ _ _ _ _ _ _ _ _ _ _ _ _ _)))); first | walk1 | (dsimp only; walk1) | (leave1; walk_say "STEP leave1"; try dsimp only)) | fail "no step"))
    exact h _ _ _ (Fr.keep (by assumption))


section
local macro_rules | `(tactic| walk_at "PAD 0") => `(tactic| skip)
def laterOf (ps : List Int) (b : Int) : List Int := ps.filter (fun p => decide (b < p))
def narrowOf (rs : List Row) (ps : List Int) (b w : Int) : List Int := (laterOf ps b).filter (fun p => decide (advOf rs b p ≤ w))
def isLineEnd (rs : List Row) (ps : List Int) (b w e : Int) : Prop :=
  (narrowOf rs ps b w = [] ∧ (laterOf ps b).head? = some e) ∨ (e ∈ narrowOf rs ps b w ∧ ∀ x ∈ narrowOf rs ps b w, x ≤ e)

local macro_rules | `(tactic| walk_at "call ref") => `(tactic| (k_here; (with_reducible show wpAny _ _ (call (Value.ref 69) _) _ _ _); refine wpAny_call (adv_spec (by walk_at "MY amb") (ShapedAt.keeps (by assumption) (Fr.keep (by k_asm))) ?_); ((intro h9 tk9 t9 k9; (have F9 := Fr.keeps (by k_asm) k9); (have N9 := News.grown (by k_asm) k9); clear k9; (try dsimp only); (try k_sweep)))))

local macro_rules | `(tactic| walk_at "call builtin:max") => `(tactic| (k_here; (with_reducible show wpAny _ _ (call (Value.builtin "max") [Value.ref _]) _ _ _); (with_unfolding_all refine' kso_max ?k1 ?k2 ?k3 ?k4 ?k5 ?k6 ?_; (case k1 => k_asm); (case k2 => k_asm); (case k3 => exact led_list (by k_asm) (by k_mem)); (case k4 => assumption); (case k5 => omega); (case k6 => rfl); k_whole); intro h' M' t' k' F' N' a' b'; (try k_sweep)))

set_option maxHeartbeats 4000000 in
theorem line_end_spec {w : World} {A : Around} {s : Shared} {R : Result → Shared → Prop} {a lp : Addr} {vs ps : List Value} {rs : List Row} {places : List Int} {b wd : Int} {tb tw : Tok}
    (C : Amb w A 3 s.heap) (S : ShapedAt s.heap a vs rs) (hl : s.heap.IsList lp ps.toArray) (hi : IntsAre ps places) (hlen : ps.length ≤ 1000) (hlater : laterOf places b ≠ [])
    (h : ∀ h' tk t e, Kp s.heap h' → isLineEnd rs places b wd e → R (.ok (.ret (.int e t))) { s with heap := h', toks := tk }) :
    codeAny (model PR w) A (.call (.ref 74) ⟨[.ref a, .ref lp, .int b tb, .int wd tw], []⟩) R s := by
  have mk : marker PySem.Challenge.rw_pb0148_01 hd.heap_39 := by w_top off; k_fill; exact trivial
  obtain ⟨KX, ⟨mean, mg, mb, T⟩, hh, hdp, hun⟩ := C
  obtain ⟨hd', dp, fr, gd, un⟩ := A
  obtain rfl : hd' = none := hh
  dsimp only at hdp hun
  refine enter_cells (K := hd.heap_39 w.params) [] (by intro p hp; cases hp) KX T.nolimit (by k_is) (by k_is) (by dsimp only; omega) (BindsTo.of_eq rfl) (by rfl) (by decide +kernel) (fun L h₁ tk cells F N Y hL0 hL => ?_)
  change Fr s.heap L h₁ _ at F
  change News s.heap L h₁ _ at N
  k_cells Y
  simp only [List.cons_append, List.nil_append] at N
  clear hL0
  try dsimp only
  (repeat' (first | (k_unfold; (try dsimp only)) | ((( (fail_if_success (with_reducible show wpAny _ _ (eval (Expr.ListComp _ _ _ _) _) _ _ _)); (fail_if_success (with_reducible show wpAny _ _ (exec (Stmt.Assign _ (Expr.ListComp _ _ _ _) _) _) _ _ _)); (fail_if_success (with_reducible show wpAny _ _ (exec (Stmt.For _ _ _ _ _) _) _ _ _)); (fail_if_success (with_reducible show wpAny _ _ (exec (Stmt.While _ _ _ _) _) _ _ _)); (fail_if_success (with_reducible show wpAny _ _ (pyIter (Value.ref _)) _ _ _)); (fail_if_success (with_reducible show LCt.CompSrcT _ _ _ _ _ _ _ _ _ _ _ _ _ _ _)); (fail_if_success (with_reducible show LCt.CompRestT _ _ _ _ _ _ _ _ _ _ _ _ _ _ _ _ _ _ _ _)); (fail_if_success (with_reducible show LCg.CompSrc _ _ _ _ _ _ _ _ _ _ _ _ _ _)))); first | walk1 | (dsimp only; walk1) | (leave1; walk_say "STEP leave1"; try dsimp only)) | fail "no step"))
  ((k_dflt (refine LCt.Assign_ListComp_T (F₀ := by k_asm) (by rfl) (by with_unfolding_all rfl) (by with_unfolding_all rfl) (by decide) (by rfl) (by decide) (by rfl) (by rfl) (by rfl) ?_); (try dsimp only)))
  (repeat' (first | (k_unfold; (try dsimp only)) | ((( (fail_if_success (with_reducible show wpAny _ _ (eval (Expr.ListComp _ _ _ _) _) _ _ _)); (fail_if_success (with_reducible show wpAny _ _ (exec (Stmt.Assign _ (Expr.ListComp _ _ _ _) _) _) _ _ _)); (fail_if_success (with_reducible show wpAny _ _ (exec (Stmt.For _ _ _ _ _) _) _ _ _)); (fail_if_success (with_reducible show wpAny _ _ (exec (Stmt.While _ _ _ _) _) _ _ _)); (fail_if_success (with_reducible show wpAny _ _ (pyIter (Value.ref _)) _ _ _)); (fail_if_success (with_reducible show LCt.CompSrcT _ _ _ _ _ _ _ _ _ _ _ _ _ _ _)); (fail_if_success (with_reducible show LCt.CompRestT _ _ _ _ _ _ _ _ _ _ _ _ _ _ _ _ _ _ _ _)); (fail_if_success (with_reducible show LCg.CompSrc _ _ _ _ _ _ _ _ _ _ _ _ _ _)))); first | walk1 | (dsimp only; walk1) | (leave1; walk_say "STEP leave1"; try dsimp only)) | fail "no step"))
  ((k_dflt (refine LCt.CompSrcT.base (by rfl) (by k_asm) (by k_asm) (by assumption) (by rw [List.size_toArray, PySem.sizeLine_eq]; omega) ?_); intro g; (try dsimp only)))
  refine comp_paired (ints_paired hi) (fun pre ys news' => news' = _ ∧ IntsAre ys ((pre.filter (fun p => decide (b < p))).map id)) ⟨rfl, .nil⟩ ?_ ?_
  · rintro pre r post v ys news I oI C oC D m₂ h tk E' hbs ⟨t, rfl⟩ ⟨rfl, hys⟩ hC hx F' N' off ne
    (try simp only [LCg.Off3, and_true] at off)
    try dsimp only
    k_fold
    (repeat' (first | (k_unfold; (try dsimp only)) | ((( (fail_if_success (with_reducible show wpAny _ _ (eval (Expr.ListComp _ _ _ _) _) _ _ _)); (fail_if_success (with_reducible show wpAny _ _ (exec (Stmt.Assign _ (Expr.ListComp _ _ _ _) _) _) _ _ _)); (fail_if_success (with_reducible show wpAny _ _ (exec (Stmt.For _ _ _ _ _) _) _ _ _)); (fail_if_success (with_reducible show wpAny _ _ (exec (Stmt.While _ _ _ _) _) _ _ _)); (fail_if_success (with_reducible show wpAny _ _ (pyIter (Value.ref _)) _ _ _)); (fail_if_success (with_reducible show LCt.CompSrcT _ _ _ _ _ _ _ _ _ _ _ _ _ _ _)); (fail_if_success (with_reducible show LCt.CompRestT _ _ _ _ _ _ _ _ _ _ _ _ _ _ _ _ _ _ _ _)); (fail_if_success (with_reducible show LCg.CompSrc _ _ _ _ _ _ _ _ _ _ _ _ _ _)))); first | walk1 | (dsimp only; walk1) | (leave1; walk_say "STEP leave1"; try dsimp only)) | fail "no step"))
    all_goals first | exact ints_snoc_yes (f := id) hys (decide_eq_true (by assumption)) | exact ints_snoc_no hys (decide_eq_false (by assumption)) | w_report
  rintro ys news ⟨rfl, hys⟩
  rw [List.map_id] at hys
  have hlenL : ys.length ≤ 1000 := by
    have e1 := hys.length
    have e2 := hi.length
    have e3 := List.length_filter_le (fun p => decide (b < p)) places
    omega
  (repeat' (first | (k_unfold; (try dsimp only)) | ((( (fail_if_success (with_reducible show wpAny _ _ (eval (Expr.ListComp _ _ _ _) _) _ _ _)); (fail_if_success (with_reducible show wpAny _ _ (exec (Stmt.Assign _ (Expr.ListComp _ _ _ _) _) _) _ _ _)); (fail_if_success (with_reducible show wpAny _ _ (exec (Stmt.For _ _ _ _ _) _) _ _ _)); (fail_if_success (with_reducible show wpAny _ _ (exec (Stmt.While _ _ _ _) _) _ _ _)); (fail_if_success (with_reducible show wpAny _ _ (pyIter (Value.ref _)) _ _ _)); (fail_if_success (with_reducible show LCt.CompSrcT _ _ _ _ _ _ _ _ _ _ _ _ _ _ _)); (fail_if_success (with_reducible show LCt.CompRestT _ _ _ _ _ _ _ _ _ _ _ _ _ _ _ _ _ _ _ _)); (fail_if_success (with_reducible show LCg.CompSrc _ _ _ _ _ _ _ _ _ _ _ _ _ _)))); first | walk1 | (dsimp only; walk1) | (leave1; walk_say "STEP leave1"; try dsimp only)) | fail "no step"))
  ((k_dflt (refine LCt.Assign_ListComp_T (F₀ := by k_asm) (by rfl) (by with_unfolding_all rfl) (by with_unfolding_all rfl) (by decide) (by rfl) (by decide) (by rfl) (by rfl) (by rfl) ?_); (try dsimp only)))
  (repeat' (first | (k_unfold; (try dsimp only)) | ((( (fail_if_success (with_reducible show wpAny _ _ (eval (Expr.ListComp _ _ _ _) _) _ _ _)); (fail_if_success (with_reducible show wpAny _ _ (exec (Stmt.Assign _ (Expr.ListComp _ _ _ _) _) _) _ _ _)); (fail_if_success (with_reducible show wpAny _ _ (exec (Stmt.For _ _ _ _ _) _) _ _ _)); (fail_if_success (with_reducible show wpAny _ _ (exec (Stmt.While _ _ _ _) _) _ _ _)); (fail_if_success (with_reducible show wpAny _ _ (pyIter (Value.ref _)) _ _ _)); (fail_if_success (with_reducible show LCt.CompSrcT _ _ _ _ _ _ _ _ _ _ _ _ _ _ _)); (fail_if_success (with_reducible show LCt.CompRestT _ _ _ _ _ _ _ _ _ _ _ _ _ _ _ _ _ _ _ _)); (fail_if_success (with_reducible show LCg.CompSrc _ _ _ _ _ _ _ _ _ _ _ _ _ _)))); first | walk1 | (dsimp only; walk1) | (leave1; walk_say "STEP leave1"; try dsimp only)) | fail "no step"))
  ((k_dflt (refine LCt.CompSrcT.ledger (by rfl) (by k_asm) (by k_asm) (by k_mem) (by rw [List.size_toArray, PySem.sizeLine_eq]; omega) ?_); intro g; (try dsimp only)))
  refine comp_paired (ints_paired hys) (fun pre zs news' => news' = _ ∧ IntsAre zs ((pre.filter (fun p => decide (advOf rs b p ≤ wd))).map id)) ⟨rfl, .nil⟩ ?_ ?_
  · rintro pre r post v zs news I oI C oC D m₂ h tk E' hbs ⟨t, rfl⟩ ⟨rfl, hzs⟩ hC hx F' N' off ne
    (try simp only [LCg.Off3, and_true] at off)
    try dsimp only
    k_fold
    (repeat' (first | (k_unfold; (try dsimp only)) | ((( (fail_if_success (with_reducible show wpAny _ _ (eval (Expr.ListComp _ _ _ _) _) _ _ _)); (fail_if_success (with_reducible show wpAny _ _ (exec (Stmt.Assign _ (Expr.ListComp _ _ _ _) _) _) _ _ _)); (fail_if_success (with_reducible show wpAny _ _ (exec (Stmt.For _ _ _ _ _) _) _ _ _)); (fail_if_success (with_reducible show wpAny _ _ (exec (Stmt.While _ _ _ _) _) _ _ _)); (fail_if_success (with_reducible show wpAny _ _ (pyIter (Value.ref _)) _ _ _)); (fail_if_success (with_reducible show LCt.CompSrcT _ _ _ _ _ _ _ _ _ _ _ _ _ _ _)); (fail_if_success (with_reducible show LCt.CompRestT _ _ _ _ _ _ _ _ _ _ _ _ _ _ _ _ _ _ _ _)); (fail_if_success (with_reducible show LCg.CompSrc _ _ _ _ _ _ _ _ _ _ _ _ _ _)))); first | walk1 | (dsimp only; walk1) | (leave1; walk_say "STEP leave1"; try dsimp only)) | fail "no step"))
    all_goals first | exact ints_snoc_yes (f := id) hzs (decide_eq_true (by assumption)) | exact ints_snoc_no hzs (decide_eq_false (by assumption)) | w_report
  rintro zs news ⟨rfl, hzs⟩
  rw [List.map_id] at hzs
  obtain ⟨e0, r0, he0⟩ := List.exists_cons_of_ne_nil hlater
  have hys0 := hys
  rw [show List.filter (fun p => decide (b < p)) places = e0 :: r0 from he0] at hys0
  have hlenZ : zs.length ≤ 1000 := by
    have e1 := hzs.length
    have e2 := hys.length
    have e3 := List.length_filter_le (fun p => decide (advOf rs b p ≤ wd)) (List.filter (fun p => decide (b < p)) places)
    omega
  cases hys0 with
  | cons _ t0 hys1 =>
  have hzl := hzs.length
  (repeat' (first | (k_unfold; (try dsimp only)) | ((( (fail_if_success (with_reducible show wpAny _ _ (eval (Expr.ListComp _ _ _ _) _) _ _ _)); (fail_if_success (with_reducible show wpAny _ _ (exec (Stmt.Assign _ (Expr.ListComp _ _ _ _) _) _) _ _ _)); (fail_if_success (with_reducible show wpAny _ _ (exec (Stmt.For _ _ _ _ _) _) _ _ _)); (fail_if_success (with_reducible show wpAny _ _ (exec (Stmt.While _ _ _ _) _) _ _ _)); (fail_if_success (with_reducible show wpAny _ _ (pyIter (Value.ref _)) _ _ _)); (fail_if_success (with_reducible show LCt.CompSrcT _ _ _ _ _ _ _ _ _ _ _ _ _ _ _)); (fail_if_success (with_reducible show LCt.CompRestT _ _ _ _ _ _ _ _ _ _ _ _ _ _ _ _ _ _ _ _)); (fail_if_success (with_reducible show LCg.CompSrc _ _ _ _ _ _ _ _ _ _ _ _ _ _)))); first | walk1 | (dsimp only; walk1) | (leave1; walk_say "STEP leave1"; try dsimp only)) | fail "no step"))
  · exact h _ _ _ _ (Fr.keep (by assumption)) (.inr ⟨by assumption, by assumption⟩)
  · refine h _ _ _ _ (Fr.keep (by assumption)) (.inl ⟨?_, by rw [he0]; rfl⟩)
    rename_i hz
    have e1 := hzs.length
    have e2 : zs.length = 0 := by omega
    refine List.eq_nil_of_length_eq_zero ?_
    show (List.filter (fun p => decide (advOf rs b p ≤ wd)) (List.filter (fun p => decide (b < p)) places)).length = 0
    rw [← e1]; exact e2


end

set_option maxHeartbeats 4000000 in
theorem draw_spec {w : World} {A : Around} {s : Shared} {R : Result → Shared → Prop} {pen cells : Addr} {po : Obj} {k lim : Int} {tl : Tok}
    (C : Amb w A 1 (hideAll s.heap [pen])) (ho : s.heap.get? pen = some po) (P : PenObj cells k po) (Cl : CellsAt s.heap cells) (hne : cells ≠ pen) (hk : 0 ≤ k) (hk2 : k ≤ 1000) (hl0 : 0 < lim) (hl1 : lim ≤ 1000)
    (h : ∀ h' tk t d po', (∀ b o, b ≠ pen → s.heap.get? b = some o → h'.get? b = some o) → PenObj cells (k + 1) po' → h'.get? pen = some po' → 0 ≤ d → d < lim → R (.ok (.ret (.int d t))) { s with heap := h', toks := tk }) :
    codeAny (model PR w) A (.call (.ref 105) ⟨[.ref pen, .int lim tl], []⟩) R s := by
  have mk : marker PySem.Challenge.rw_pb0148_01 hd.heap_39 := by w_top off; k_fill; exact trivial
  obtain ⟨KX, ⟨mean, mg, mb, T⟩, hh, hdp, hun⟩ := C
  obtain ⟨hd', dp, fr, gd, un⟩ := A
  obtain rfl : hd' = none := hh
  dsimp only at hdp hun
  obtain ⟨g, st, t1, t2, t3, n, rfl, hs0, hs1⟩ := P
  obtain ⟨cs, ns, hl, hi, hlen⟩ := Cl
  refine enter_plain (K := hd.heap_39 w.params) [(pen, _)] (by intro p hp; rw [List.mem_singleton] at hp; subst hp; exact ho) KX (T.nolimit.keeps fun b o e => of_hideAll _ e) (by k_is) (by k_is) (by dsimp only; omega) (BindsTo.of_eq rfl) (locs rfl) (fun L h₁ tk F N hL => ?_) (by decide)
  change Fr (hideAll s.heap [pen]) L h₁ _ at F
  change News (hideAll s.heap [pen]) L h₁ _ at N
  have hlg : (hideAll s.heap [pen]).IsList cells cs.toArray := by
    obtain ⟨o, e, r⟩ := hl
    exact ⟨o, hideAll_get _ e (by simpa using hne), r⟩
  have back : ∀ h' : Heap, (∀ b o, (hideAll s.heap [pen]).get? b = some o → h'.get? b = some o) → ∀ b o, b ≠ pen → s.heap.get? b = some o → h'.get? b = some o :=
    fun h' k b o hb e => k b o (hideAll_get _ e (by simpa using hb))
  generalize hideAll s.heap [pen] = gg at *
  try dsimp only
  (repeat' (first | (k_unfold; (try dsimp only)) | ((( (fail_if_success (with_reducible show wpAny _ _ (eval (Expr.ListComp _ _ _ _) _) _ _ _)); (fail_if_success (with_reducible show wpAny _ _ (exec (Stmt.Assign _ (Expr.ListComp _ _ _ _) _) _) _ _ _)); (fail_if_success (with_reducible show wpAny _ _ (exec (Stmt.For _ _ _ _ _) _) _ _ _)); (fail_if_success (with_reducible show wpAny _ _ (exec (Stmt.While _ _ _ _) _) _ _ _)); (fail_if_success (with_reducible show wpAny _ _ (pyIter (Value.ref _)) _ _ _)); (fail_if_success (with_reducible show LCt.CompSrcT _ _ _ _ _ _ _ _ _ _ _ _ _ _ _)); (fail_if_success (with_reducible show LCt.CompRestT _ _ _ _ _ _ _ _ _ _ _ _ _ _ _ _ _ _ _ _)); (fail_if_success (with_reducible show LCg.CompSrc _ _ _ _ _ _ _ _ _ _ _ _ _ _)))); first | walk1 | (dsimp only; walk1) | (leave1; walk_say "STEP leave1"; try dsimp only)) | fail "no step"))
  all_goals (dsimp only; refine h _ _ _ _ _ (back _ (Fr.keep (by assumption))) ⟨_, _, _, _, _, _, rfl, ?_, ?_⟩ (News.get (by assumption) (List.Mem.head _)) ?_ ?_)
  all_goals first | assumption | exact Int.fmod_nonneg_of_pos _ (by decide) | exact Int.fmod_lt_of_pos _ (by decide) | exact Int.fmod_nonneg_of_pos _ hl0 | exact Int.fmod_lt_of_pos _ hl0


section
local macro_rules | `(tactic| walk_at "PAD 0") => `(tactic| skip)
theorem pen_fold : ∀ (l : List Int) (a : Int), 0 ≤ a → a < 2147483647 → 0 ≤ List.foldl (fun a' n' => (a' * 48271 + Int.fmod n' 2147483647 + 12345).fmod 2147483647) a l ∧ List.foldl (fun a' n' => (a' * 48271 + Int.fmod n' 2147483647 + 12345).fmod 2147483647) a l < 2147483647
  | [], a, h0, h1 => ⟨h0, h1⟩
  | n :: l, a, _, _ => pen_fold l _ (Int.fmod_nonneg_of_pos _ (by decide)) (Int.fmod_lt_of_pos _ (by decide))

set_option maxHeartbeats 4000000 in
theorem pen_spec {w : World} {A : Around} {s : Shared} {R : Result → Shared → Prop} {l : Addr} {vs : List Value} {ns : List Int}
    (C : Amb w A 1 s.heap) (hl : s.heap.IsList l vs.toArray) (hi : IntsAre vs ns) (hlen : vs.length ≤ 1000)
    (h : ∀ h' tk pen cells po, Kp s.heap h' → s.heap.get? pen = none → s.heap.get? cells = none → PenObj cells 0 po → h'.get? pen = some po → CellsAt h' cells → cells ≠ pen → R (.ok (.ret (.ref pen))) { s with heap := h', toks := tk }) :
    codeAny (model PR w) A (.call (.ref 98) ⟨[.ref l], []⟩) R s := by
  have mk : marker PySem.Challenge.rw_pb0148_01 hd.heap_39 := by w_top off; k_fill; exact trivial
  obtain ⟨KX, ⟨mean, mg, mb, T⟩, hh, hdp, hun⟩ := C
  obtain ⟨hd', dp, fr, gd, un⟩ := A
  obtain rfl : hd' = none := hh
  dsimp only at hdp hun
  refine enter_plain (K := hd.heap_39 w.params) [] (by intro p hp; cases hp) KX T.nolimit (by k_is) (by k_is) (by dsimp only; omega) (BindsTo.of_eq rfl) (locs rfl) (fun L h₁ tk F N hL => ?_) (by decide)
  change Fr s.heap L h₁ _ at F
  change News s.heap L h₁ _ at N
  try dsimp only
  (repeat' (first | (k_unfold; (try dsimp only)) | ((( (fail_if_success (with_reducible show wpAny _ _ (eval (Expr.ListComp _ _ _ _) _) _ _ _)); (fail_if_success (with_reducible show wpAny _ _ (exec (Stmt.Assign _ (Expr.ListComp _ _ _ _) _) _) _ _ _)); (fail_if_success (with_reducible show wpAny _ _ (exec (Stmt.For _ _ _ _ _) _) _ _ _)); (fail_if_success (with_reducible show wpAny _ _ (exec (Stmt.While _ _ _ _) _) _ _ _)); (fail_if_success (with_reducible show wpAny _ _ (pyIter (Value.ref _)) _ _ _)); (fail_if_success (with_reducible show LCt.CompSrcT _ _ _ _ _ _ _ _ _ _ _ _ _ _ _)); (fail_if_success (with_reducible show LCt.CompRestT _ _ _ _ _ _ _ _ _ _ _ _ _ _ _ _ _ _ _ _)); (fail_if_success (with_reducible show LCg.CompSrc _ _ _ _ _ _ _ _ _ _ _ _ _ _)))); first | walk1 | (dsimp only; walk1) | (leave1; walk_say "STEP leave1"; try dsimp only)) | fail "no step"))
  ((k_dflt (refine LCg.Assign_ListComp_U (F₀ := by k_asm) (by rfl) (by with_unfolding_all rfl) (by with_unfolding_all rfl) (by decide) (by rfl) (by decide) (by rfl) (by rfl) (by rfl) ?_); (try dsimp only)))
  (repeat' (first | (k_unfold; (try dsimp only)) | ((( (fail_if_success (with_reducible show wpAny _ _ (eval (Expr.ListComp _ _ _ _) _) _ _ _)); (fail_if_success (with_reducible show wpAny _ _ (exec (Stmt.Assign _ (Expr.ListComp _ _ _ _) _) _) _ _ _)); (fail_if_success (with_reducible show wpAny _ _ (exec (Stmt.For _ _ _ _ _) _) _ _ _)); (fail_if_success (with_reducible show wpAny _ _ (exec (Stmt.While _ _ _ _) _) _ _ _)); (fail_if_success (with_reducible show wpAny _ _ (pyIter (Value.ref _)) _ _ _)); (fail_if_success (with_reducible show LCt.CompSrcT _ _ _ _ _ _ _ _ _ _ _ _ _ _ _)); (fail_if_success (with_reducible show LCt.CompRestT _ _ _ _ _ _ _ _ _ _ _ _ _ _ _ _ _ _ _ _)); (fail_if_success (with_reducible show LCg.CompSrc _ _ _ _ _ _ _ _ _ _ _ _ _ _)))); first | walk1 | (dsimp only; walk1) | (leave1; walk_say "STEP leave1"; try dsimp only)) | fail "no step"))
  rename (IntsAre _ (List.take 48 ns)) => hI
  have hw := IntsAre.length hI
  have hnl := IntsAre.length hi
  simp only [List.length_take] at hw
  ((k_dflt (refine LCg.CompSrc.ledger (by rfl) (by k_asm) (by k_asm) (by k_mem) (by rw [List.size_toArray, PySem.sizeLine_eq]; omega) ?_); intro g; (try dsimp only)))
  refine comp_paired_U (ints_paired hI) (fun pre ys news' => news' = _ ∧ IntsAre ys (pre.map id)) ⟨rfl, .nil⟩ ?_ ?_
  · rintro pre r post v ys news I oI C oC D m₂ h tk E' hbs ⟨t, rfl⟩ ⟨rfl, hys⟩ hC hx F' N' off ne
    (try simp only [LCg.Off3, and_true] at off)
    try dsimp only
    k_fold
    (repeat' (first | (k_unfold; (try dsimp only)) | ((( (fail_if_success (with_reducible show wpAny _ _ (eval (Expr.ListComp _ _ _ _) _) _ _ _)); (fail_if_success (with_reducible show wpAny _ _ (exec (Stmt.Assign _ (Expr.ListComp _ _ _ _) _) _) _ _ _)); (fail_if_success (with_reducible show wpAny _ _ (exec (Stmt.For _ _ _ _ _) _) _ _ _)); (fail_if_success (with_reducible show wpAny _ _ (exec (Stmt.While _ _ _ _) _) _ _ _)); (fail_if_success (with_reducible show wpAny _ _ (pyIter (Value.ref _)) _ _ _)); (fail_if_success (with_reducible show LCt.CompSrcT _ _ _ _ _ _ _ _ _ _ _ _ _ _ _)); (fail_if_success (with_reducible show LCt.CompRestT _ _ _ _ _ _ _ _ _ _ _ _ _ _ _ _ _ _ _ _)); (fail_if_success (with_reducible show LCg.CompSrc _ _ _ _ _ _ _ _ _ _ _ _ _ _)))); first | walk1 | (dsimp only; walk1) | (leave1; walk_say "STEP leave1"; try dsimp only)) | fail "no step"))
    all_goals first | exact ints_snoc (f := id) hys | w_report
  rintro ys news ⟨rfl, hys⟩
  rw [List.map_id] at hys
  have hyl := IntsAre.length hys
  have fin : ∀ {h' : Heap} {tk : Nat} {pen c : Addr} {g st : Int} {t1 t2 t3 : Tok} {n k : Nat} {m : Str → Option Value} {rest : List (Addr × Obj)}, Fr s.heap L h' m → News s.heap L h' ((pen, PySem.W.listOf [.ref c, .int g t1, .int st t2, .int 0 t3].toArray n) :: rest) →
      (c, PySem.W.listOf ys.toArray k) ∈ rest → 0 ≤ st → st < 2147483647 → R (.ok (.ret (.ref pen))) { s with heap := h', toks := tk } := fun F N hm h1 h2 =>
    h _ _ _ _ _ F.keep (N.fresh (List.Mem.head _)) (N.fresh (List.Mem.tail _ hm)) ⟨_, _, _, _, _, _, rfl, h1, h2⟩ (N.get (List.Mem.head _)) ⟨ys, _, led_list N (List.Mem.tail _ hm), hys, by omega⟩ (cells_ne (N.get (List.Mem.tail _ hm)) (N.get (List.Mem.head _)) hys)
  simp only [List.length_take] at hyl
  (repeat' (first | (k_unfold; (try dsimp only)) | walk1 | (dsimp only; walk1) | fail "no step"))
  all_goals (dsimp only; exact fin (by assumption) (by assumption) (by k_mem) (pen_fold _ 1 (by decide) (by decide)).1 (pen_fold _ 1 (by decide) (by decide)).2)


end

section
local macro_rules | `(tactic| walk_at "PAD 0") => `(tactic| skip)
local macro_rules | `(tactic| walk_at "call ref") => `(tactic| (k_here; (with_reducible show wpAny _ _ (call (Value.ref 105) _) _ _ _); (refine wpAny_call (draw_spec (amb_hide (by k_asm) (by k_asm) (Fr.keep (by k_asm)) (by k_asm) (by k_mem) rfl ?_ ?_) (News.get (by k_asm) (by k_mem)) (by assumption) (CellsAt.keeps (by assumption) (Fr.keep (by k_asm))) (by assumption) (by omega) (by omega) (by first | decide | omega) (by first | decide | omega) ?_)); rotate_left; rotate_left; (intro h9 tk9 t9 d9 po9 k9 P9 g9 lo9 hi9; (have F9 := fr_pen (by k_asm) (by k_asm) (by k_mem) k9); (have N9 := news_pen (by k_asm) (by k_upd) k9 g9); clear k9 g9; (try dsimp only); (try k_sweep)); rotate_left; (all_goals first | (simp only [depth_deeper, units_deeper, depth_in1, units_in1]; omega) | skip)))

/-- rows as the law draws them: clusters rise strictly from 0, advances from 0 on -/
def WfRows (rs : List Row) (c : Int) : Prop :=
  (rs = [] ∧ c = 0) ∨ (∃ r, rs.head? = some r ∧ r.cl = 0) ∧ (rs.map (·.cl)).Pairwise (· < ·) ∧ (∀ r ∈ rs, 0 ≤ r.adv ∧ r.cl ≤ c) ∧ 0 ≤ c

def RowsInv (pen cells : Addr) (k : Int) (i : Nat) (m : Str → Option Value) (nx : List (Addr × Obj)) : Prop :=
  ∃ (l : Addr) (c : Int) (ct : Tok) (k' : Int) (po' : Obj) (vs : List Value) (rs : List Row) (nn : Nat) (tups : List (Addr × Obj)),
    (∀ p ∈ [((Str.ofString "rows"), Value.ref l), ((Str.ofString "cluster"), .int c ct), ((Str.ofString "pen"), .ref pen)], m p.1 = some p.2) ∧ nx = (l, PySem.W.listOf vs.toArray nn) :: (pen, po') :: tups ∧ PenObj cells k' po' ∧ 0 ≤ k' ∧ k' ≤ k + 1 + 3 * (i : Int) ∧ pen < l ∧
    (∀ p ∈ tups, p.1 ≠ pen) ∧ (∀ p ∈ tups, p.1 ≠ l) ∧ Paired (RowIn tups) vs rs ∧ rs.length = i ∧ WfRows rs c

theorem wf_snoc {rs : List Row} {c : Int} {r : Row} (hw : WfRows rs c) (hc : (rs = [] ∧ r.cl = c) ∨ (rs ≠ [] ∧ c < r.cl)) (ha : 0 ≤ r.adv) : WfRows (rs ++ [r]) r.cl := by
  rcases hw with ⟨rfl, rfl⟩ | ⟨⟨r0, h0, h1⟩, hp, ha', hc0⟩
  · rcases hc with ⟨_, e⟩ | ⟨e, _⟩
    · exact .inr ⟨⟨r, rfl, e⟩, by simp, by simp [ha], by omega⟩
    · exact absurd rfl e
  · rcases hc with ⟨e, _⟩ | ⟨_, hlt⟩
    · subst e; cases h0
    · refine .inr ⟨⟨r0, by rw [List.head?_append, h0]; rfl, h1⟩, ?_, ?_, by omega⟩
      · rw [List.map_append, List.pairwise_append]
        refine ⟨hp, by simp, ?_⟩
        intro a hma b hmb
        obtain ⟨x, hx, rfl⟩ := List.mem_map.mp hma
        simp only [List.map_cons, List.map_nil, List.mem_singleton] at hmb
        subst hmb
        have := (ha' x hx).2
        omega
      · intro x hx
        rcases List.mem_append.mp hx with hx | hx
        · have := ha' x hx; omega
        · rw [List.mem_singleton] at hx; subst hx; exact ⟨ha, Int.le_refl _⟩
theorem rows_end {h₀ h' : Heap} {L I l pen cells D : Addr} {oI to po : Obj} {m' : Str → Option Value} {k k2 : Int} {i nn : Nat} {vs : List Value} {rs : List Row} {r : Row} {tups : List (Addr × Obj)} {ct : Tok} {s : Shared} {tk : Nat} {Q : Flow → Shared → Prop}
    (F : Fr h₀ L h' m') (N : News h₀ L h' ((D, to) :: (I, oI) :: (l, PySem.W.listOf (vs ++ [Value.ref D]).toArray nn) :: (pen, po) :: tups)) (l1 : I < D ∧ l < D ∧ pen < D ∧ AllLt D tups)
    (o1 : l ≠ I) (o2 : pen ≠ I) (o3 : ∀ p ∈ tups, p.1 ≠ I) (hlt : pen < l) (htp : ∀ p ∈ tups, p.1 ≠ pen) (htl : ∀ p ∈ tups, p.1 ≠ l)
    (hm : ∀ p ∈ [((Str.ofString "rows"), Value.ref l), ((Str.ofString "cluster"), .int r.cl ct), ((Str.ofString "pen"), .ref pen)], m' p.1 = some p.2)
    (P : PenObj cells k2 po) (h0 : 0 ≤ k2) (h1 : k2 ≤ k + 1 + 3 * ((i + 1 : Nat) : Int)) (hR : Paired (RowIn tups) vs rs) (ho : RowObj to r) (hlen : rs.length = i) (hw : WfRows (rs ++ [r]) r.cl) :
    ForPost h₀ L I oI (RowsInv pen cells k (i + 1)) s Q .next { s with heap := h', toks := tk } := by
  have e1 : D ≠ I := Nat.ne_of_gt l1.1
  have e2 : D ≠ l := Nat.ne_of_gt l1.2.1
  have e3 : D ≠ pen := Nat.ne_of_gt l1.2.2.1
  refine ⟨h', tk, m', (l, PySem.W.listOf (vs ++ [Value.ref D]).toArray nn) :: (pen, po) :: (D, to) :: tups, rfl, F, fun p hp => N p (by simp only [List.mem_cons] at hp ⊢; rcases hp with h | h | h | h | h <;> simp [h]), ?_,
    l, r.cl, ct, k2, po, vs ++ [Value.ref D], rs ++ [r], nn, (D, to) :: tups, hm, rfl, P, h0, h1, hlt, ?_, ?_, ?_, by rw [List.length_append, hlen]; rfl, hw⟩
  · simp only [List.forall_mem_cons]
    exact ⟨o1, o2, e1, o3⟩
  · simp only [List.forall_mem_cons]
    exact ⟨e3, htp⟩
  · simp only [List.forall_mem_cons]
    exact ⟨e2, htl⟩
  · exact Paired.snoc (Paired.mono (fun _ _ x => x.more fun p hp => List.mem_cons_of_mem _ hp) hR) ⟨D, to, rfl, List.mem_cons_self, ho⟩

set_option maxHeartbeats 4000000 in
theorem rows_spec {w : World} {A : Around} {s : Shared} {R : Result → Shared → Prop} {pen cells : Addr} {po : Obj} {k : Int}
    (C : Amb w A 3 (hideAll s.heap [pen])) (ho : s.heap.get? pen = some po) (P : PenObj cells k po) (Cl : CellsAt s.heap cells) (hne : cells ≠ pen) (hk : 0 ≤ k) (hk2 : k ≤ 100)
    (h : ∀ h' tk T l vs rs c tc k' po' n n2 tups, (∀ b o, b ≠ pen → s.heap.get? b = some o → h'.get? b = some o) → PenObj cells k' po' → h'.get? pen = some po' → 0 ≤ k' → k' ≤ k + 100 →
      h'.get? T = some { cls := .type "tuple", data := .seq (List.toArray [.ref l, .int (c + 1) tc]) n2 } → h'.get? l = some (PySem.W.listOf (List.toArray vs) n) → s.heap.get? l = none → s.heap.get? T = none → FreshIn s.heap h' tups → Paired (RowIn tups) vs rs → rs ≠ [] → rs.length ≤ 10 → WfRows rs c → R (.ok (.ret (.ref T))) { s with heap := h', toks := tk }) :
    codeAny (model PR w) A (.call (.ref 112) ⟨[.ref pen], []⟩) R s := by
  have mk : marker PySem.Challenge.rw_pb0148_01 hd.heap_39 := by w_top off; k_fill; exact trivial
  obtain ⟨KX, ⟨mean, mg, mb, T⟩, hh, hdp, hun⟩ := C
  obtain ⟨hd', dp, fr, gd, un⟩ := A
  obtain rfl : hd' = none := hh
  dsimp only at hdp hun
  refine enter_plain (K := hd.heap_39 w.params) [(pen, _)] (by intro p hp; rw [List.mem_singleton] at hp; subst hp; exact ho) KX (T.nolimit.keeps fun b o e => of_hideAll _ e) (by k_is) (by k_is) (by dsimp only; omega) (BindsTo.of_eq rfl) (locs rfl) (fun L h₁ tk F N hL => ?_) (by decide)
  change Fr (hideAll s.heap [pen]) L h₁ _ at F
  change News (hideAll s.heap [pen]) L h₁ _ at N
  have hlg : CellsAt (hideAll s.heap [pen]) cells := by
    obtain ⟨cs, ns, ⟨o, e, r⟩, q⟩ := Cl
    exact ⟨cs, ns, ⟨o, hideAll_get _ e (by simpa using hne), r⟩, q⟩
  have back : ∀ h' : Heap, (∀ b o, (hideAll s.heap [pen]).get? b = some o → h'.get? b = some o) → ∀ b o, b ≠ pen → s.heap.get? b = some o → h'.get? b = some o :=
    fun h' k b o hb e => k b o (hideAll_get _ e (by simpa using hb))
  have fresh : ∀ b, b ≠ pen → (hideAll s.heap [pen]).get? b = none → s.heap.get? b = none := fun b hb e => by
    cases q : s.heap.get? b with
    | none => rfl
    | some o => rw [hideAll_get _ q (by simpa using hb)] at e; cases e
  generalize hideAll s.heap [pen] = gg at *
  try dsimp only
  (repeat' (first | (k_unfold; (try dsimp only)) | ((( (fail_if_success (with_reducible show wpAny _ _ (eval (Expr.ListComp _ _ _ _) _) _ _ _)); (fail_if_success (with_reducible show wpAny _ _ (exec (Stmt.Assign _ (Expr.ListComp _ _ _ _) _) _) _ _ _)); (fail_if_success (with_reducible show wpAny _ _ (exec (Stmt.For _ _ _ _ _) _) _ _ _)); (fail_if_success (with_reducible show wpAny _ _ (exec (Stmt.While _ _ _ _) _) _ _ _)); (fail_if_success (with_reducible show wpAny _ _ (pyIter (Value.ref _)) _ _ _)); (fail_if_success (with_reducible show LCt.CompSrcT _ _ _ _ _ _ _ _ _ _ _ _ _ _ _)); (fail_if_success (with_reducible show LCt.CompRestT _ _ _ _ _ _ _ _ _ _ _ _ _ _ _ _ _ _ _ _)); (fail_if_success (with_reducible show LCg.CompSrc _ _ _ _ _ _ _ _ _ _ _ _ _ _)))); first | walk1 | (dsimp only; walk1) | (leave1; walk_say "STEP leave1"; try dsimp only)) | fail "no step"))
  refine wpAny_For ?_ (by intro _; rfl)
  (repeat' (first | (k_unfold; (try dsimp only)) | ((( (fail_if_success (with_reducible show wpAny _ _ (eval (Expr.ListComp _ _ _ _) _) _ _ _)); (fail_if_success (with_reducible show wpAny _ _ (exec (Stmt.Assign _ (Expr.ListComp _ _ _ _) _) _) _ _ _)); (fail_if_success (with_reducible show wpAny _ _ (exec (Stmt.For _ _ _ _ _) _) _ _ _)); (fail_if_success (with_reducible show wpAny _ _ (exec (Stmt.While _ _ _ _) _) _ _ _)); (fail_if_success (with_reducible show wpAny _ _ (pyIter (Value.ref _)) _ _ _)); (fail_if_success (with_reducible show LCt.CompSrcT _ _ _ _ _ _ _ _ _ _ _ _ _ _ _)); (fail_if_success (with_reducible show LCt.CompRestT _ _ _ _ _ _ _ _ _ _ _ _ _ _ _ _ _ _ _ _)); (fail_if_success (with_reducible show LCg.CompSrc _ _ _ _ _ _ _ _ _ _ _ _ _ _)))); first | walk1 | (dsimp only; walk1) | (leave1; walk_say "STEP leave1"; try dsimp only)) | fail "no step"))
  rename IsRange _ _ _ _ _ _ _ _ => hr
  refine for_range (n := _) (RowsInv pen cells k) rfl hr (small_one (by decide) (by decide) (by omega) (by omega)) (rangeSize_nat _ _) (by rfl) (by rfl) (by k_asm) (by k_asm) ?_ ?_ ?_
  · refine' ⟨_, 0, _, _, _, [], [], _, [], ?names, rfl, by assumption, by omega, by omega, by assumption, (fun _ h => nomatch h), (fun _ h => nomatch h), .nil, rfl, .inl ⟨rfl, rfl⟩⟩
    case names => ((repeat' (first | exact List.forall_mem_nil _ | (refine List.forall_mem_cons.mpr ⟨?_, ?_⟩; k_dflt rfl))))
  · intro i t m₁ nx h tk I oI hi hJ F₁ N₁ hoff
    obtain ⟨l, c, ct, k', po', vs, rs, nn, tups, hm, rfl, P', hk0, hk1, hlt, htp, htl, hR, hlen, hwf⟩ := hJ
    have F₂ := fr_of hm F₁
    have hvl : vs.length ≤ 1000 := by have := hR.length; omega
    clear F₁
    simp only [List.forall_mem_cons] at hoff
    obtain ⟨o1, o2, o3⟩ := hoff
    replace o1 : @Ne Nat l I := o1
    replace o2 : @Ne Nat pen I := o2
    replace hlt := ltN hlt
    show wpAny _ _ _ _ _ _
    k_fold
    (repeat' (first | (k_unfold; (try dsimp only)) | ((( (fail_if_success (with_reducible show wpAny _ _ (eval (Expr.ListComp _ _ _ _) _) _ _ _)); (fail_if_success (with_reducible show wpAny _ _ (exec (Stmt.Assign _ (Expr.ListComp _ _ _ _) _) _) _ _ _)); (fail_if_success (with_reducible show wpAny _ _ (exec (Stmt.For _ _ _ _ _) _) _ _ _)); (fail_if_success (with_reducible show wpAny _ _ (exec (Stmt.While _ _ _ _) _) _ _ _)); (fail_if_success (with_reducible show wpAny _ _ (pyIter (Value.ref _)) _ _ _)); (fail_if_success (with_reducible show LCt.CompSrcT _ _ _ _ _ _ _ _ _ _ _ _ _ _ _)); (fail_if_success (with_reducible show LCt.CompRestT _ _ _ _ _ _ _ _ _ _ _ _ _ _ _ _ _ _ _ _)); (fail_if_success (with_reducible show LCg.CompSrc _ _ _ _ _ _ _ _ _ _ _ _ _ _)))); first | walk1 | (dsimp only; walk1) | (leave1; walk_say "STEP leave1"; try dsimp only)) | fail "no step"))
    · refine rows_end (r := ⟨_, _, _⟩) (by assumption) (by assumption) (by assumption) o1 o2 o3 hlt htp htl (by ((repeat' (first | exact List.forall_mem_nil _ | (refine List.forall_mem_cons.mpr ⟨?_, ?_⟩; k_dflt rfl))))) (by assumption) (by omega) (by omega) hR (by exact ⟨_, _, _, _, _, _, _, rfl, rfl, rfl, rfl, rfl⟩) hlen (by
        refine wf_snoc hwf (.inr ⟨?_, ?_⟩) (by assumption)
        · intro e
          rw [e] at hlen
          simp at hlen
          omega
        · dsimp only
          omega)
    · refine rows_end (r := ⟨_, _, _⟩) (by assumption) (by assumption) (by assumption) o1 o2 o3 hlt htp htl (by ((repeat' (first | exact List.forall_mem_nil _ | (refine List.forall_mem_cons.mpr ⟨?_, ?_⟩; k_dflt rfl))))) (by assumption) (by omega) (by omega) hR (by exact ⟨_, _, _, _, _, _, _, rfl, rfl, rfl, rfl, rfl⟩) hlen (by
        refine wf_snoc hwf (.inl ⟨?_, rfl⟩) (by assumption)
        apply List.eq_nil_of_length_eq_zero
        omega)
  · rintro m₁ nx h' tk ⟨l, c, ct, k', po', vs, rs, nn, tups, hm, rfl, P', hk0, hk1, hlt, htp, htl, hR, hlen, hwf⟩ F₁ N₁
    have F₂ := fr_of' hm F₁
    clear F₁
    replace hlt := ltN hlt
    dsimp only
    (repeat' (first | (k_unfold; (try dsimp only)) | ((( (fail_if_success (with_reducible show wpAny _ _ (eval (Expr.ListComp _ _ _ _) _) _ _ _)); (fail_if_success (with_reducible show wpAny _ _ (exec (Stmt.Assign _ (Expr.ListComp _ _ _ _) _) _) _ _ _)); (fail_if_success (with_reducible show wpAny _ _ (exec (Stmt.For _ _ _ _ _) _) _ _ _)); (fail_if_success (with_reducible show wpAny _ _ (exec (Stmt.While _ _ _ _) _) _ _ _)); (fail_if_success (with_reducible show wpAny _ _ (pyIter (Value.ref _)) _ _ _)); (fail_if_success (with_reducible show LCt.CompSrcT _ _ _ _ _ _ _ _ _ _ _ _ _ _ _)); (fail_if_success (with_reducible show LCt.CompRestT _ _ _ _ _ _ _ _ _ _ _ _ _ _ _ _ _ _ _ _)); (fail_if_success (with_reducible show LCg.CompSrc _ _ _ _ _ _ _ _ _ _ _ _ _ _)))); first | walk1 | (dsimp only; walk1) | (leave1; walk_say "STEP leave1"; try dsimp only)) | fail "no step"))
    rename (l < _ ∧ pen < _ ∧ _) => l1
    obtain ⟨_, q2, _⟩ := l1
    refine h _ _ _ l vs rs c _ k' po' nn _ tups (back _ (Fr.keep (by assumption))) P' (News.get (by assumption) (by k_mem)) hk0 (by omega) (News.get (by assumption) (List.Mem.head _)) (News.get (by assumption) (by k_mem)) (fresh _ (Nat.ne_of_gt hlt) (News.fresh (by assumption) (by k_mem))) (fresh _ (Nat.ne_of_gt q2) (News.fresh (by assumption) (List.Mem.head _))) (fun p hp => ⟨fresh _ (htp p hp) (News.fresh (by assumption) (List.mem_cons_of_mem _ (List.mem_cons_of_mem _ (List.mem_cons_of_mem _ hp)))), (by assumption : News _ _ _ _) _ (List.mem_cons_of_mem _ (List.mem_cons_of_mem _ (List.mem_cons_of_mem _ hp))) |>.1⟩) hR ?_ (by omega) hwf
    intro e
    rw [e] at hlen
    simp only [List.length_nil] at hlen
    omega


end

set_option maxHeartbeats 4000000 in
theorem init_spec {w : World} {A : Around} {s : Shared} {R : Result → Shared → Prop} {x dx l : Addr} {ib : Bool}
    (C : Amb w A 1 (hideAll s.heap [x, dx])) (hx : s.heap.get? x = some (instObj 45 dx)) (hd' : s.heap.get? dx = some (dictOf [] 0)) (hne : dx < x)
    (h : ∀ h' tk es n, (∀ b o, b ≠ dx → s.heap.get? b = some o → h'.get? b = some o) → h'.get? dx = some (dictOf es n) → getL "rows" es = some (some (.ref l)) → getL "is_backward" es = some (some (.bool ib)) → R (.ok (.ret .none)) { s with heap := h', toks := tk }) :
    codeAny (model PR w) A (.call (.ref 35) ⟨[.ref x, .ref l, .bool ib], []⟩) R s := by
  have mk : marker PySem.Challenge.rw_pb0148_01 hd.heap_39 := by w_top off; k_fill; exact trivial
  obtain ⟨KX, ⟨mean, mg, mb, T⟩, hh, hdp, hun⟩ := C
  obtain ⟨hd'', dp, fr, gd, un⟩ := A
  obtain rfl : hd'' = none := hh
  dsimp only at hdp hun
  refine enter_plain (K := hd.heap_39 w.params) [(x, _), (dx, _)] (by simp only [List.forall_mem_cons]; exact ⟨hx, hd', fun _ h => nomatch h⟩) KX (T.nolimit.keeps fun b o e => of_hideAll _ e) (by k_is) (by k_is) (by dsimp only; omega) (BindsTo.of_eq rfl) (locs rfl) (fun L h₁ tk F N hL => ?_) (by decide)
  change Fr (hideAll s.heap [x, dx]) L h₁ _ at F
  change News (hideAll s.heap [x, dx]) L h₁ _ at N
  have back : ∀ h' : Heap, (∀ b o, (hideAll s.heap [x, dx]).get? b = some o → h'.get? b = some o) → h'.get? x = some (instObj 45 dx) → ∀ b o, b ≠ dx → s.heap.get? b = some o → h'.get? b = some o := by
    intro h' k gx b o hb e
    by_cases hbx : b = x
    · subst hbx; rw [hx] at e; cases e; exact gx
    · exact k b o (hideAll_get _ e (by simp [hbx, hb]))
  generalize hideAll s.heap [x, dx] = gg at *
  replace hne := ltN hne
  try dsimp only
  (repeat' (first | (k_unfold; (try dsimp only)) | ((( (fail_if_success (with_reducible show wpAny _ _ (eval (Expr.ListComp _ _ _ _) _) _ _ _)); (fail_if_success (with_reducible show wpAny _ _ (exec (Stmt.Assign _ (Expr.ListComp _ _ _ _) _) _) _ _ _)); (fail_if_success (with_reducible show wpAny _ _ (exec (Stmt.For _ _ _ _ _) _) _ _ _)); (fail_if_success (with_reducible show wpAny _ _ (exec (Stmt.While _ _ _ _) _) _ _ _)); (fail_if_success (with_reducible show wpAny _ _ (pyIter (Value.ref _)) _ _ _)); (fail_if_success (with_reducible show LCt.CompSrcT _ _ _ _ _ _ _ _ _ _ _ _ _ _ _)); (fail_if_success (with_reducible show LCt.CompRestT _ _ _ _ _ _ _ _ _ _ _ _ _ _ _ _ _ _ _ _)); (fail_if_success (with_reducible show LCg.CompSrc _ _ _ _ _ _ _ _ _ _ _ _ _ _)))); first | walk1 | (dsimp only; walk1) | (leave1; walk_say "STEP leave1"; try dsimp only)) | fail "no step"))
  exact h _ _ _ _ (back _ (Fr.keep (by assumption)) (News.get (by assumption) (List.Mem.head _))) (News.get (by assumption) (List.Mem.tail _ (List.Mem.head _))) rfl rfl

theorem hide2_keep {h₀ h : Heap} {L x dx : Addr} {o1 o2 : Obj} {news : List (Addr × Obj)} (k : Kp h₀ h) (N : News h₀ L h ((x, o1) :: (dx, o2) :: news)) : Kp h₀ (hideAll h [x, dx]) := fun b o e => hideAll_get _ (k b o e) (by
  have e1 := (N (x, o1) (by simp)).2.2
  have e2 := (N (dx, o2) (by simp)).2.2
  simp only [List.mem_cons, List.not_mem_nil, or_false, not_or]
  exact ⟨fun q => (by subst q; rw [show h₀.get? b = none from e1] at e; cases e), fun q => (by subst q; rw [show h₀.get? b = none from e2] at e; cases e)⟩)

theorem shaped_new {w : World} {A : Around} {E : Value → Shared → Prop} {s : Shared} {h₀ : Heap} {L l : Addr} {ib : Bool} {m : Str → Option Value} {mean : ExcName → Option Value} {mg mb : Str → Option Value} {news : List (Addr × Obj)} {Q : Value → Shared → Prop}
    (F : Fr h₀ L s.heap m) (X : (hd.heap_39 w.params).In h₀) (T : Top hd.view_39 (looseW hd.view_39 []) mean mg mb h₀) (N : News h₀ L s.heap news) (hh : A.handled = none) (hd' : A.depth + 2 < recursionLimit) (hu : A.units + 20 < cLine)
    (h : ∀ x dx es n h' tk, Fr h₀ L h' m → News h₀ L h' ((x, instObj 45 dx) :: (dx, dictOf es n) :: news) → (∀ p ∈ news, p.1 < dx) → dx < x → getL "rows" es = some (some (.ref l)) → getL "is_backward" es = some (some (.bool ib)) → Q (.ref x) { s with heap := h', toks := tk }) :
    wpAny (model PR w) A (call (.ref 45) [.ref l, .bool ib]) Q E s := by
  have mk : marker PySem.Challenge.rw_pb0148_01 hd.heap_39 := by w_top off; k_fill; exact trivial
  refine call_cls F X N (by k_is) (fI := 35) (by k_is) (by k_is) fun x dx h' F' N' l1 l2 => ?_
  refine init_spec ?_ (N' (x, _) List.mem_cons_self).1 (N' (dx, _) (List.mem_cons_of_mem _ List.mem_cons_self)).1 l2 ?_
  · refine amb_of X T (hide2_keep F'.keep N') ?_ ?_ ?_
    · exact hh
    · show A.depth + 1 + 1 < recursionLimit
      omega
    · show A.units + 1 + 10 * 1 < cLine
      omega
  · intro h9 tk9 es n k9 g9 e1 e2
    refine ⟨rfl, ?_⟩
    have hm : (dx, dictOf [] 0) ∈ (x, instObj 45 dx) :: (dx, dictOf [] 0) :: news := by simp
    refine h x dx es n h9 tk9 (fr_pen F' N' hm k9) (news_pen N' (.tail (Nat.ne_of_gt l2) (.head fun p hp => Nat.ne_of_lt (l1 p hp))) k9 g9) l1 l2 e1 e2


section
local macro_rules | `(tactic| walk_at "subscriptTail") => `(tactic| (k_here; (with_reducible show wpAny _ _ (subscriptTail _ _ (Value.ref _) (Value.ref _)) _ _ _); (with_unfolding_all first
  | (refine' slice_tuple_one ?k1 ?k2 ?k3 ?_ ?k4 ?k5; (case k1 => k_asm); (case k2 => k_asm); (case k3 => exact IsTup.keeps (by assumption) (Fr.keep (by k_asm))); (case k4 => rfl); (case k5 => exact fun _ => rfl))
  | (refine' slice_tuple_from' ?k1 ?k2 ?k3 ?k6 ?k7 ?k8 ?_ ?k4 ?k5; (case k1 => k_asm); (case k2 => k_asm); (case k3 => exact IsTup.keeps (by assumption) (Fr.keep (by k_asm))); (case k6 => decide); (case k7 => simp); (case k8 => simp); (case k4 => rfl); (case k5 => exact fun _ => rfl))); intro D' h' F' N' l1; (try k_lt l1); (try simp only [Int.toNat_ofNat, List.drop_succ_cons, List.drop_zero] at N'); (try dsimp only); (try k_sweep)))
local macro_rules | `(tactic| walk_at "binaryOp Add ref ref") => `(tactic| (k_here; (with_reducible show wpAny _ _ (binaryOp _ (Value.ref _) (Value.ref _)) _ _ _); (with_unfolding_all refine' add_tuples' ?k1 ?k2 ?k3 ?k4 ?k5 ?_; (case k1 => k_asm); (case k2 => k_asm); (case k3 => exact News.isTup (by k_asm) (by k_mem)); (case k4 => exact News.isTup (by k_asm) (by k_mem)); (case k5 => simp)); intro D' h' F' N' l1; (try k_lt l1); (try simp only [List.cons_append, List.nil_append] at N'); (try dsimp only); (try k_sweep)))

structure ShapedIn (led : List (Addr × Obj)) (a : Addr) (vs : List Value) (rs : List Row) : Prop where
  ex : ∃ dx es n l nl ib, (a, instObj 45 dx) ∈ led ∧ (dx, dictOf es n) ∈ led ∧ getL "rows" es = some (some (.ref l)) ∧ getL "is_backward" es = some (some (.bool ib)) ∧ (l, PySem.W.listOf vs.toArray nl) ∈ led
  rows : Paired (RowIn led) vs rs
  few : vs.length ≤ 1000
theorem ShapedIn.at {h₀ h : Heap} {L a : Addr} {led : List (Addr × Obj)} {vs : List Value} {rs : List Row} (x : ShapedIn led a vs rs) (N : News h₀ L h led) : ShapedAt h a vs rs := by
  obtain ⟨⟨dx, es, n, l, nl, ib, h1, h2, h3, h4, h5⟩, hr, hf⟩ := x
  exact ⟨⟨dx, es, n, l, ib, InstAt.of_news N h1 h2, h3, h4, led_list N h5⟩, Paired.mono (fun _ _ y => y.isRow N) hr, hf⟩
theorem ShapedIn.more {led led' : List (Addr × Obj)} {a : Addr} {vs : List Value} {rs : List Row} (x : ShapedIn led a vs rs) (k : ∀ p ∈ led, p ∈ led') : ShapedIn led' a vs rs := by
  obtain ⟨⟨dx, es, n, l, nl, ib, h1, h2, h3, h4, h5⟩, hr, hf⟩ := x
  exact ⟨⟨dx, es, n, l, nl, ib, k _ h1, k _ h2, h3, h4, k _ h5⟩, Paired.mono (fun _ _ y => y.more k) hr, hf⟩

def shiftRow (b : Int) (r : Row) : Row := ⟨r.cl - b, r.adv, r.un⟩
def cutOf (rs : List Row) (b e : Int) : List Row := (rs.filter (inB b e)).map (shiftRow b)

local macro_rules | `(tactic| walk_at "call ref") => `(tactic| (k_here; (with_reducible show wpAny _ _ (call (Value.ref 45) _) _ _ _); (refine shaped_new (by k_asm) (by k_asm) (by k_asm) (by k_asm) rfl ?_ ?_ ?_); rotate_left; rotate_left; (intro x9 dx9 es9 n9 h9 tk9 F9 N9 l9 q9 e9 f9; (try k_lt l9); (try k_lt2 q9); (try dsimp only); (try k_sweep)); rotate_left; (all_goals first | (simp only [depth_deeper, units_deeper, depth_in1, units_in1]; omega) | skip)))

def BtInv (a : Addr) (rs : List Row) (b e : Int) (tb te : Tok) (i : Nat) (m : Str → Option Value) (nx : List (Addr × Obj)) : Prop :=
  ∃ (l : Addr) (vs : List Value) (nn : Nat) (tups : List (Addr × Obj)),
    (∀ p ∈ [((Str.ofString "rows"), Value.ref l), ((Str.ofString "begin"), .int b tb), ((Str.ofString "end"), .int e te), ((Str.ofString "shaped"), .ref a)], m p.1 = some p.2) ∧ nx = (l, PySem.W.listOf vs.toArray nn) :: tups ∧
    (∀ p ∈ tups, p.1 ≠ l) ∧ Paired (RowIn tups) vs (cutOf (rs.take i) b e) ∧ vs.length ≤ i

theorem cut_snoc {rs : List Row} {b e : Int} {i : Nat} {r : Row} (hr : rs[i]? = some r) : cutOf (rs.take (i + 1)) b e = cutOf (rs.take i) b e ++ (if inB b e r then [shiftRow b r] else []) := by
  have e1 : rs.take (i + 1) = rs.take i ++ [r] := by rw [List.take_add_one, hr]; rfl
  rw [e1]
  unfold cutOf
  rw [List.filter_append, List.map_append]
  cases h : inB b e r <;> simp [List.filter_cons, h]

section
variable {h₀ h' : Heap} {L I l a D : Addr} {oI to : Obj} {m' : Str → Option Value} {b e : Int} {i nn : Nat} {vs : List Value} {rs : List Row} {r : Row} {tups led : List (Addr × Obj)} {tb te : Tok} {s : Shared} {tk : Nat} {Q : Flow → Shared → Prop}
theorem bt_yes (F : Fr h₀ L h' m') (N : News h₀ L h' led) (hD : (D, to) ∈ led) (hI : (I, oI) ∈ led) (hl : (l, PySem.W.listOf (vs ++ [Value.ref D]).toArray nn) ∈ led) (ht : ∀ p ∈ tups, p ∈ led)
    (o1 : l ≠ I) (o3 : ∀ p ∈ tups, p.1 ≠ I) (htl : ∀ p ∈ tups, p.1 ≠ l) (eD : D ≠ I) (eDl : D ≠ l)
    (hm : ∀ p ∈ [((Str.ofString "rows"), Value.ref l), ((Str.ofString "begin"), .int b tb), ((Str.ofString "end"), .int e te), ((Str.ofString "shaped"), .ref a)], m' p.1 = some p.2)
    (hR : Paired (RowIn tups) vs (cutOf (rs.take i) b e)) (hlen : vs.length ≤ i) (hr : rs[i]? = some r) (hin : inB b e r = true) (ho : RowObj to (shiftRow b r)) :
    ForPost h₀ L I oI (BtInv a rs b e tb te (i + 1)) s Q .next { s with heap := h', toks := tk } := by
  refine ⟨h', tk, m', (l, PySem.W.listOf (vs ++ [Value.ref D]).toArray nn) :: (D, to) :: tups, rfl, F, fun p hp => ?_, ?_, l, vs ++ [Value.ref D], nn, (D, to) :: tups, hm, rfl, ?_, ?_, by rw [List.length_append]; simp; exact hlen⟩
  · simp only [List.mem_cons] at hp
    rcases hp with rfl | rfl | rfl | hp
    · exact N _ hI
    · exact N _ hl
    · exact N _ hD
    · exact N _ (ht _ hp)
  · simp only [List.forall_mem_cons]
    exact ⟨o1, eD, o3⟩
  · simp only [List.forall_mem_cons]
    exact ⟨eDl, htl⟩
  · rw [cut_snoc hr, if_pos hin]
    exact Paired.snoc (Paired.mono (fun _ _ x => x.more fun p hp => List.mem_cons_of_mem _ hp) hR) ⟨D, to, rfl, List.mem_cons_self, ho⟩
theorem bt_no (F : Fr h₀ L h' m') (N : News h₀ L h' ((I, oI) :: (l, PySem.W.listOf vs.toArray nn) :: tups))
    (o1 : l ≠ I) (o3 : ∀ p ∈ tups, p.1 ≠ I) (htl : ∀ p ∈ tups, p.1 ≠ l)
    (hm : ∀ p ∈ [((Str.ofString "rows"), Value.ref l), ((Str.ofString "begin"), .int b tb), ((Str.ofString "end"), .int e te), ((Str.ofString "shaped"), .ref a)], m' p.1 = some p.2)
    (hR : Paired (RowIn tups) vs (cutOf (rs.take i) b e)) (hlen : vs.length ≤ i) (hr : rs[i]? = some r) (hin : inB b e r = false) :
    ForPost h₀ L I oI (BtInv a rs b e tb te (i + 1)) s Q .next { s with heap := h', toks := tk } := by
  refine ⟨h', tk, m', (l, PySem.W.listOf vs.toArray nn) :: tups, rfl, F, N, ?_, l, vs, nn, tups, hm, rfl, htl, ?_, Nat.le_succ_of_le hlen⟩
  · simp only [List.forall_mem_cons]
    exact ⟨o1, o3⟩
  · rw [cut_snoc hr, if_neg (by simp [hin]), List.append_nil]
    exact hR
end

set_option maxHeartbeats 4000000 in
theorem between_spec {w : World} {A : Around} {s : Shared} {R : Result → Shared → Prop} {a : Addr} {vs : List Value} {rs : List Row} {b e : Int} {tb te : Tok}
    (C : Amb w A 3 s.heap) (S : ShapedAt s.heap a vs rs)
    (h : ∀ h' tk a' vs' obs, Kp s.heap h' → FreshIn s.heap h' obs → ShapedIn obs a' vs' (cutOf rs b e) → R (.ok (.ret (.ref a'))) { s with heap := h', toks := tk }) :
    codeAny (model PR w) A (.call (.ref 88) ⟨[.ref a, .int b tb, .int e te], []⟩) R s := by
  have mk : marker PySem.Challenge.rw_pb0148_01 hd.heap_39 := by w_top off; k_fill; exact trivial
  obtain ⟨KX, ⟨mean, mg, mb, T⟩, hh, hdp, hun⟩ := C
  obtain ⟨hd', dp, fr, gd, un⟩ := A
  obtain rfl : hd' = none := hh
  dsimp only at hdp hun
  obtain ⟨⟨dx, es, n, l0, ib, I0, hg, hgb, hl⟩, hrows, hfew⟩ := S
  refine enter_plain (K := hd.heap_39 w.params) [] (by intro p hp; cases hp) KX T.nolimit (by k_is) (by k_is) (by dsimp only; omega) (BindsTo.of_eq rfl) (locs rfl) (fun L h₁ tk F N hL => ?_) (by decide)
  change Fr s.heap L h₁ _ at F
  change News s.heap L h₁ _ at N
  try dsimp only
  (repeat' (first | (k_unfold; (try dsimp only)) | ((( (fail_if_success (with_reducible show wpAny _ _ (eval (Expr.ListComp _ _ _ _) _) _ _ _)); (fail_if_success (with_reducible show wpAny _ _ (exec (Stmt.Assign _ (Expr.ListComp _ _ _ _) _) _) _ _ _)); (fail_if_success (with_reducible show wpAny _ _ (exec (Stmt.For _ _ _ _ _) _) _ _ _)); (fail_if_success (with_reducible show wpAny _ _ (exec (Stmt.While _ _ _ _) _) _ _ _)); (fail_if_success (with_reducible show wpAny _ _ (pyIter (Value.ref _)) _ _ _)); (fail_if_success (with_reducible show LCt.CompSrcT _ _ _ _ _ _ _ _ _ _ _ _ _ _ _)); (fail_if_success (with_reducible show LCt.CompRestT _ _ _ _ _ _ _ _ _ _ _ _ _ _ _ _ _ _ _ _)); (fail_if_success (with_reducible show LCg.CompSrc _ _ _ _ _ _ _ _ _ _ _ _ _ _)))); first | walk1 | (dsimp only; walk1) | (leave1; walk_say "STEP leave1"; try dsimp only)) | fail "no step"))
  refine wpAny_For ?_ (by intro _; rfl)
  (repeat' (first | (k_unfold; (try dsimp only)) | ((( (fail_if_success (with_reducible show wpAny _ _ (eval (Expr.ListComp _ _ _ _) _) _ _ _)); (fail_if_success (with_reducible show wpAny _ _ (exec (Stmt.Assign _ (Expr.ListComp _ _ _ _) _) _) _ _ _)); (fail_if_success (with_reducible show wpAny _ _ (exec (Stmt.For _ _ _ _ _) _) _ _ _)); (fail_if_success (with_reducible show wpAny _ _ (exec (Stmt.While _ _ _ _) _) _ _ _)); (fail_if_success (with_reducible show wpAny _ _ (pyIter (Value.ref _)) _ _ _)); (fail_if_success (with_reducible show LCt.CompSrcT _ _ _ _ _ _ _ _ _ _ _ _ _ _ _)); (fail_if_success (with_reducible show LCt.CompRestT _ _ _ _ _ _ _ _ _ _ _ _ _ _ _ _ _ _ _ _)); (fail_if_success (with_reducible show LCg.CompSrc _ _ _ _ _ _ _ _ _ _ _ _ _ _)))); first | walk1 | (dsimp only; walk1) | (leave1; walk_say "STEP leave1"; try dsimp only)) | fail "no step"))
  refine for_base (BtInv a rs b e tb te) rfl hl (by rfl) (by rfl) (by k_asm) (by k_asm) ?_ ?_ ?_
  · refine' ⟨_, [], _, [], ?names, rfl, (fun _ h => nomatch h), .nil, Nat.le_refl _⟩
    case names => ((repeat' (first | exact List.forall_mem_nil _ | (refine List.forall_mem_cons.mpr ⟨?_, ?_⟩; k_dflt rfl))))
  · rintro i v m₁ nx h tk I oI hv ⟨l, vs', nn, tups, hm, rfl, htl, hR, hlen⟩ F₁ N₁ hoff
    have F₂ := fr_of hm F₁
    clear F₁
    have hib : i < rs.length := by
      have e1 := hrows.length
      have : i < vs.length := by
        rcases Nat.lt_or_ge i vs.length with q | q
        · exact q
        · rw [List.getElem?_eq_none q] at hv; cases hv
      omega
    obtain ⟨ar, v0, t1, t2, v3, v4, v5, rfl, ht, hv0, hv3, hv4, hv5⟩ := paired_at hrows i hv hib
    have hvl : vs'.length ≤ 1000 := by have := hrows.length; omega
    simp only [List.forall_mem_cons] at hoff
    obtain ⟨o1, o3⟩ := hoff
    replace o1 : @Ne Nat l I := o1
    show wpAny _ _ _ _ _ _
    k_fold
    (repeat' (first | (k_unfold; (try dsimp only)) | ((( (fail_if_success (with_reducible show wpAny _ _ (eval (Expr.ListComp _ _ _ _) _) _ _ _)); (fail_if_success (with_reducible show wpAny _ _ (exec (Stmt.Assign _ (Expr.ListComp _ _ _ _) _) _) _ _ _)); (fail_if_success (with_reducible show wpAny _ _ (exec (Stmt.For _ _ _ _ _) _) _ _ _)); (fail_if_success (with_reducible show wpAny _ _ (exec (Stmt.While _ _ _ _) _) _ _ _)); (fail_if_success (with_reducible show wpAny _ _ (pyIter (Value.ref _)) _ _ _)); (fail_if_success (with_reducible show LCt.CompSrcT _ _ _ _ _ _ _ _ _ _ _ _ _ _ _)); (fail_if_success (with_reducible show LCt.CompRestT _ _ _ _ _ _ _ _ _ _ _ _ _ _ _ _ _ _ _ _)); (fail_if_success (with_reducible show LCg.CompSrc _ _ _ _ _ _ _ _ _ _ _ _ _ _)))); first | walk1 | (dsimp only; walk1) | (leave1; walk_say "STEP leave1"; try dsimp only)) | fail "no step"))
    · have hin : inB b e rs[i] = true := inB_yes (by assumption) (by assumption)
      rename (_ < _ ∧ _ < _ ∧ _ < _ ∧ _ < _ ∧ I < _ ∧ l < _ ∧ _) => l1
      obtain ⟨_, _, _, _, q1, q2, _⟩ := l1
      refine bt_yes (r := rs[i]) (by assumption) (by assumption) List.mem_cons_self (by k_mem) (by k_mem) (fun p hp => by (repeat (first | exact hp | refine List.mem_cons_of_mem _ ?_))) o1 o3 htl (Nat.ne_of_gt q1) (Nat.ne_of_gt q2) (by ((repeat' (first | exact List.forall_mem_nil _ | (refine List.forall_mem_cons.mpr ⟨?_, ?_⟩; k_dflt rfl))))) hR hlen (by simp [hib]) hin ?_
      exact ⟨_, _, _, _, _, _, _, rfl, hv0, hv3, hv4, hv5⟩
    · exact bt_no (r := rs[i]) (by assumption) (by assumption) o1 o3 htl (by ((repeat' (first | exact List.forall_mem_nil _ | (refine List.forall_mem_cons.mpr ⟨?_, ?_⟩; k_dflt rfl))))) hR hlen (by simp [hib]) (inB_no (.inr (by assumption)))
    · exact bt_no (r := rs[i]) (by assumption) (by assumption) o1 o3 htl (by ((repeat' (first | exact List.forall_mem_nil _ | (refine List.forall_mem_cons.mpr ⟨?_, ?_⟩; k_dflt rfl))))) hR hlen (by simp [hib]) (inB_no (.inl (by assumption)))
  · rintro m₁ nx h' tk ⟨l, vs', nn, tups, hm, rfl, htl, hR, hlen⟩ F₁ N₁
    have F₂ := fr_of' hm F₁
    clear F₁
    rw [hrows.length, List.take_length] at hR
    dsimp only
    (repeat' (first | (k_unfold; (try dsimp only)) | ((( (fail_if_success (with_reducible show wpAny _ _ (eval (Expr.ListComp _ _ _ _) _) _ _ _)); (fail_if_success (with_reducible show wpAny _ _ (exec (Stmt.Assign _ (Expr.ListComp _ _ _ _) _) _) _ _ _)); (fail_if_success (with_reducible show wpAny _ _ (exec (Stmt.For _ _ _ _ _) _) _ _ _)); (fail_if_success (with_reducible show wpAny _ _ (exec (Stmt.While _ _ _ _) _) _ _ _)); (fail_if_success (with_reducible show wpAny _ _ (pyIter (Value.ref _)) _ _ _)); (fail_if_success (with_reducible show LCt.CompSrcT _ _ _ _ _ _ _ _ _ _ _ _ _ _ _)); (fail_if_success (with_reducible show LCt.CompRestT _ _ _ _ _ _ _ _ _ _ _ _ _ _ _ _ _ _ _ _)); (fail_if_success (with_reducible show LCg.CompSrc _ _ _ _ _ _ _ _ _ _ _ _ _ _)))); first | walk1 | (dsimp only; walk1) | (leave1; walk_say "STEP leave1"; try dsimp only)) | fail "no step"))
    exact h _ _ _ vs' _ (Fr.keep (by assumption)) (fresh_of (by assumption) fun _ hp => hp) ⟨⟨_, _, _, l, _, ib, by k_mem, by k_mem, by assumption, by assumption, by k_mem⟩, Paired.mono (fun _ _ x => x.more fun p hp => List.mem_cons_of_mem _ (List.mem_cons_of_mem _ (List.mem_cons_of_mem _ hp))) hR, by omega⟩


end

theorem list_no_keys : typeLookup (.type "list") "keys" = pure none := by rw [typeLookup_type, builtinLookup_eq_fast]; kernel_rfl
section
variable {prog : Program} {w : World} {A : Around} {E : Value → Shared → Prop} {s : Shared}
abbrev listO (xs : Array Value) (k : Nat) (sl : Array (Option Value)) : Obj := { cls := .type "list", dict := none, data := .seq xs k, slots := sl }
/-- x.name where lists have no such name, asked quietly: none, and all that stood stands -/
theorem list_lacks {a : Addr} {xs : Array Value} {k : Nat} {sl : Array (Option Value)} {name : Str} {Q : Option Value → Shared → Prop} (hx : s.heap.get? a = some (listO xs k sl)) (hA : A.handled = none) (hmiss : typeLookup (.type "list") name = pure none)
    (hname : (["__module__", "__name__", "__qualname__", "__doc__", "__annotations__"] : List Str).contains name = false) (hsz : name.length + 100 ≤ sizeLine)
    (h : ∀ h' tk, (∀ b ob, s.heap.get? b = some ob → h'.get? b = some ob) → Q none { s with heap := h', toks := tk }) : wpAny (model prog w) A (getAttr? (.ref a) name) Q E s := by
  have noHook := am_list_getattr_none
  have isAttr := sub_AttributeError
  have slot := PySem.F.slot_list_getattribute
  have look := slot.lookup
  have bind := slot.bind (.ref a)
  cases s with | mk H g d t os =>
  have hT : ∀ t, (⟨H, g, d, t, os⟩ : Shared).TypeIs (.ref a) "list" := fun _ => ⟨_, hx, rfl⟩
  have raise : ∀ (B : Around) (t : Nat) (u : Tok) (Q' E' : Value → Shared → Prop), B.handled = none → (∀ h' tk e, Heap.NewAttrErr H h' e (.ref a) name → E' (.ref e) ⟨h', g, d, tk, os⟩) →
      wpAny (model prog w) B (call (.builtin "list.__getattribute__") [.ref a, .str name u]) Q' E' ⟨H, g, d, t, os⟩ := fun B t u Q' E' hB kE =>
    call_meets slot (hT t) am_entry_list_getattribute (PySem.F.args_list_getattribute_2 _ _) (meets_getattribute_miss_list a xs k sl name u hmiss hname hsz) ⟨hx, hB, kE⟩
  unfold getAttr? getAttrBy? getAttrBy
  repeat (any_goals (first | assumption | exact hT _ | ((with_reducible show wpAny _ _ (call _ _ _) _ _ _); refine raise _ _ _ _ _ hA ?_) | wp_step))
  intro g₁ t₁ e new
  obtain ⟨_, _, here⟩ := new.there
  show wpAny _ _ (getattributeRaised _ _ _ _ _ _ _) _ _ _
  repeat (any_goals (first | exact h _ _ new.keeps | assumption | wp_step))
end
theorem plain_dict_update_loop : plainId "dict.update.loop" = true := by decide +kernel
theorem entry_dict_update_loop : entryFor table "dict.update.loop" = some Builtin.«dict.update.loop» := entryFor_of_tree (by kernel_rfl)
/-- the value at v is a pair of an int and x -/
def PairTo (h : Heap) (v : Value) (k : Int) (x : Value) : Prop := ∃ a t, v = .ref a ∧ IsTup h a [.int k t, x].toArray
section
variable {prog : Program} {w : World} {A : Around} {E : Value → Shared → Prop} {s : Shared}
theorem pairItems_tup {a : Addr} {xs : Array Value} {Q : List Value → Shared → Prop} (ht : IsTup s.heap a xs) (h : Q xs.toList s) : wpAny (model prog w) A (Builtin.Dict.pairItems (.ref a)) Q E s := by
  obtain ⟨o, ho, hc, n, hd⟩ := ht
  unfold Builtin.Dict.pairItems
  refine wpAny_bind (wpAny_typeOf (T := "tuple") ⟨o, ho, hc⟩ ?_)
  rw [if_pos (by decide)]
  unfold seqItems?
  refine wpAny_bind (wpAny_bind (wpAny_load ho ?_))
  rw [hd]
  exact wpAny_pure (wpAny_pure h)
theorem dict_loop {R : Result → Shared → Prop} {I D : Addr} {fp wr : List Addr} {n : Nat} {P : Nat → Value → Prop} {St : Nat → Heap → Prop} {H : Heap} {x : Value} (W : Walks prog w A.in1 I fp wr n P St) (hDf : D ∉ fp) (hn : n ≤ 1000) (val : Nat → Int)
    (hval : ∀ i v, P i v → PairTo H v (val i) x) :
    ∀ (k i : Nat) (s : Shared) (kvs : List (Int × Value)) (u : Tok), n - i = k → i ≤ n → St i s.heap → (∀ b o, H.get? b = some o → s.heap.get? b = some o) → (∀ b o, H.get? b = some o → b ∉ wr ∧ b ≠ D) → s.heap.DictOf (intKind prog w) D kvs → kvs.length ≤ i →
      (∀ y, (valueAt kvs y).isSome = true ↔ ∃ j, j < i ∧ val j = y) →
      (∀ h' tk kvs', (∀ b o, H.get? b = some o → h'.get? b = some o) → (∀ b o, b ∉ wr → b ≠ D → s.heap.get? b = some o → h'.get? b = some o) → h'.DictOf (intKind prog w) D kvs' → (∀ y, (valueAt kvs' y).isSome = true ↔ ∃ j, j < n ∧ val j = y) → kvs'.length ≤ n → R (.ok (.ret .none)) { s with heap := h', toks := tk }) →
      codeAny (model prog w) A (.builtin "dict.update.loop" ⟨[.ref D, .ref I, .int i u, .none], []⟩) R s := by
  intro k
  induction k with
  | zero =>
    intro i s kvs u hk hi hst hH hHw hD hl hm hR
    obtain rfl : i = n := by omega
    refine codeAny_builtin entry_dict_update_loop ?_
    rw [Around.under_plainId plain_dict_update_loop _]
    show wpAny _ A.in1 (pyNext (.ref I) >>= _) _ _ s
    refine wpAny_bind (W.done s _ _ hst fun h' tk hk' => ?_)
    show wpAny _ A.in1 (Builtin.Dict.addKeywords D [] >>= _) _ _ _
    refine wpAny_bind (wpAny_pure ?_)
    refine wpAny_pure (hR h' tk kvs (fun b o e => hk' b o (hHw b o e).1 (hH b o e)) (fun b o hb _ e => hk' b o hb e) ?_ hm hl)
    obtain ⟨o, es, ep, ho, r⟩ := hD
    exact ⟨o, es, ep, hk' _ _ (fun q => hDf (W.sub _ q)) ho, r⟩
  | succ k ih =>
    intro i s kvs u hk hi hst hH hHw hD hl hm hR
    have hlt : i < n := by omega
    refine codeAny_builtin entry_dict_update_loop ?_
    rw [Around.under_plainId plain_dict_update_loop _]
    show wpAny _ A.in1 (pyNext (.ref I) >>= _) _ _ s
    refine wpAny_bind (W.item i s _ _ hlt hst fun v h₁ tk hP hst₁ hk₁ => ?_)
    obtain ⟨a, t, rfl, ht⟩ := hval i v hP
    have hH₁ : ∀ b o, H.get? b = some o → h₁.get? b = some o := fun b o e => hk₁ b o (hHw b o e).1 (hH b o e)
    have ht₁ : IsTup h₁ a [.int (val i) t, x].toArray := by
      obtain ⟨o, ho, r⟩ := ht
      exact ⟨o, hH₁ _ _ ho, r⟩
    have hD₁ : h₁.DictOf (intKind prog w) D kvs := by
      obtain ⟨o, es, ep, ho, r⟩ := hD
      exact ⟨o, es, ep, hk₁ _ _ (fun q => hDf (W.sub _ q)) ho, r⟩
    show wpAny _ _ (holding _ (_ >>= _) >>= _) _ _ _
    refine wpAny_bind (wpAny_holding (wpAny_bind (wpAny_tryCatch (pairItems_tup (s := { s with heap := h₁, toks := tk }) ht₁ ?_))))
    show wpAny _ _ (holding [_, _] (dictSet D _ _)) _ _ _
    refine wpAny_holding (wpAny_dictSet_pairs (knd := intKind prog w) (k := val i) (intKind_is _ _ _ _) hD₁ (fun h₂ hD₂ hs => ?_) (by rw [PySem.sizeLine_eq]; omega))
    have hfr : ∀ b o, b ≠ D → h₁.get? b = some o → h₂.get? b = some o := fun b o hb e => (hs.2 b hb).trans e
    have hl2 := stored_length_le kvs (val i) x
    refine wpAny_pure ⟨plainId_quiet plain_dict_update_loop _, ih (i + 1) _ _ 0 (by omega) hlt (W.frame _ _ _ hst₁ fun b hb o e => hfr b o (fun q => hDf (q ▸ hb)) e) (fun b o e => hfr b o (hHw b o e).2 (hH₁ b o e)) hHw hD₂ (by omega) (fun y => ?_) fun h' tk' kvs' k1 k2 k3 k4 k5 => ?_⟩
    · rw [valueAt_stored]
      constructor
      · intro hy
        by_cases e : y = val i
        · exact ⟨i, by omega, e.symm⟩
        · rw [if_neg e, hm y] at hy
          obtain ⟨j, hj, e2⟩ := hy
          exact ⟨j, by omega, e2⟩
      · rintro ⟨j, hj, rfl⟩
        by_cases e : val j = val i
        · rw [if_pos e]; rfl
        · rw [if_neg e, hm]
          refine ⟨j, ?_, rfl⟩
          by_cases e2 : j = i
          · subst e2; exact absurd rfl e
          · omega
    · exact hR h' tk' kvs' k1 (fun b o hb hbD e => k2 b o hb hbD (hfr b o hbD (hk₁ b o hb e))) k3 k4 k5
end
section
variable {prog : Program} {w : World} {A : Around} {E : Value → Shared → Prop} {s : Shared}
theorem dict_of_list {l : Addr} {ol : Obj} {items : Array Value} {nl : Nat} {ks : List Int} {x : Value} {Q : Value → Shared → Prop} (hh : A.handled = none) (hol : s.heap.get? l = some ol) (hc : ol.cls = .type "list") (hdat : ol.data = .seq items nl) (hdict : ol.dict = none)
    (hp : Paired (fun v k => PairTo s.heap v k x) items.toList ks) (hsz : items.size ≤ 1000)
    (h : ∀ h' tk kvs, (∀ b o, s.heap.get? b = some o → h'.get? b = some o) → h'.DictOf (intKind prog w) s.heap.objs.size kvs → (∀ y, (valueAt kvs y).isSome = true ↔ y ∈ ks) → kvs.length ≤ ks.length → Q (.ref s.heap.objs.size) { s with heap := h', toks := tk }) :
    wpAny (model prog w) A (call (.type "dict") [.ref l]) Q E s := by
  have hkl : items.size = ks.length := by have := hp.length; simpa using this
  have hls : l < s.heap.objs.size := Heap.lt_size hol
  refine callType_codes (Q₁ := fun obj s₁ => obj = .ref s.heap.objs.size ∧ s₁ = { s with heap := s.heap.push { cls := .type "dict", data := .dict #[] } }) PySem.F.kt_called_dict (PySem.F.kt_typeCall_dict_1 _) PySem.F.entry_dict_init (kt_code_dict_new _ ⟨rfl, rfl⟩) ?_
  rintro obj s₁ ⟨rfl, rfl⟩
  have hnew : (s.heap.push { cls := .type "dict", data := .dict #[] }).DictOf (intKind prog w) s.heap.objs.size [] := Heap.DictOf.new s.heap
  have keep₁ : ∀ b o, s.heap.get? b = some o → (s.heap.push { cls := .type "dict", data := .dict #[] }).get? b = some o := fun b o e => Heap.get?_push_of_some _ e
  have hsz₁ : (s.heap.push { cls := .type "dict", data := .dict #[] }).objs.size = s.heap.objs.size + 1 := Heap.size_push ..
  generalize s.heap.push { cls := .type "dict", data := .dict #[] } = g₁ at hnew keep₁ hsz₁ ⊢
  refine ⟨hnew.typeIs, PySem.F.args_dict_init_2 _ _, ?_⟩
  unfold Builtin.«dict.__init__»
  refine wpAny_bind ?_
  unfold Builtin.Dict.selfAndRest
  refine wpAny_bind (wpAny_notOrdered_dict hnew.typeIs ?_)
  show wpAny _ _ (pure (s.heap.objs.size, [Value.ref l])) _ _ _
  refine wpAny_pure ?_
  show wpAny _ _ (Builtin.Dict.updateFrom "dict.__init__" s.heap.objs.size (.ref l) [] .none) _ _ _
  unfold Builtin.Dict.updateFrom
  refine wpAny_bind (wpAny_typeOf (T := "list") ⟨_, keep₁ _ _ hol, hc⟩ ?_)
  rw [if_pos (by decide)]
  have eo : ol = listO items nl ol.slots := by
    cases ol; cases hc; cases hdat; cases hdict; rfl
  refine wpAny_bind (list_lacks ((keep₁ _ _ hol).trans (congrArg some eo)) (by simpa using hh) list_no_keys (by decide) (by rw [PySem.sizeLine_eq]; decide) fun g₂ tk k₂ => ?_)
  rw [if_pos (by rfl)]
  refine wpAny_bind (wpAny_rule ?_)
  have hl₂ : g₂.IsList l items := ⟨_, k₂ _ _ (keep₁ _ _ hol), hc, nl, hdat⟩
  refine wpAny_bind (wpAny_pyIter_list (s := { s with heap := g₂, toks := tk }) hl₂ ?_)
  have hlg : l < g₂.objs.size := Heap.lt_size (k₂ _ _ (keep₁ _ _ hol))
  have hD₂ : g₂.DictOf (intKind prog w) s.heap.objs.size [] := by
    obtain ⟨o, es, ep, ho, r⟩ := hnew
    exact ⟨o, es, ep, k₂ _ _ ho, r⟩
  have hDlt : s.heap.objs.size < g₂.objs.size := by
    obtain ⟨o, es, ep, ho, r⟩ := hD₂
    exact Heap.lt_size ho
  have hold : ∀ b o, s.heap.get? b = some o → b < s.heap.objs.size := fun b o e => Heap.lt_size e
  refine wpAny_pure ⟨plainId_quiet plain_dict_update_loop _, dict_loop (H := s.heap) (x := x) (Walks.list (by simpa using hh) _ l (Nat.ne_of_lt hlg) items) ?_ hsz (fun i => ks.getD i 0) (fun i v hv => ?_) items.size 0 _ [] 0 (by omega) (Nat.zero_le _)
    ⟨⟨_, Heap.get?_push_size _ rfl, rfl, rfl⟩, hl₂.push _⟩ (fun b o e => Heap.get?_push_of_some _ (k₂ _ _ (keep₁ _ _ e))) (fun b o e => ⟨?_, Nat.ne_of_lt (hold b o e)⟩) (hD₂.push _) (Nat.zero_le _) (fun y => ⟨fun q => (nomatch q), fun ⟨j, hj, _⟩ => absurd hj (Nat.not_lt_zero _)⟩) fun h' tk' kvs' k1 _ k3 k4 k5 => ?_⟩
  · simp only [List.mem_cons, List.not_mem_nil, or_false, not_or]
    exact ⟨Nat.ne_of_lt hDlt, Nat.ne_of_gt hls⟩
  · have hi : i < ks.length := by
      rcases Nat.lt_or_ge i items.size with q | q
      · omega
      · rw [Array.getElem?_eq_none q] at hv; cases hv
    have := paired_at hp i (by rw [Array.getElem?_toList]; exact hv) hi
    have e1 : ks.getD i 0 = ks[i] := by simp [List.getD, hi]
    rw [e1]; exact this
  · rw [List.mem_singleton]
    exact Nat.ne_of_lt (Nat.lt_trans (hold b o e) hDlt)
  · refine ⟨rfl, h h' tk' kvs' k1 k3 (fun y => ?_) (by omega)⟩
    rw [k4 y]
    constructor
    · rintro ⟨j, hj, rfl⟩
      have hj' : j < ks.length := by omega
      have e1 : ks.getD j 0 = ks[j] := by simp [List.getD, hj']
      rw [e1]; exact List.getElem_mem hj'
    · intro hy
      obtain ⟨j, hj, rfl⟩ := List.mem_iff_getElem.mp hy
      exact ⟨j, by omega, by simp [List.getD, hj]⟩
theorem dict_call {h₀ : Heap} {L l : Addr} {m : Str → Option Value} {news : List (Addr × Obj)} {vs : List Value} {n : Nat} {ks : List Int} {x : Value} {Q : Value → Shared → Prop} (F : Fr h₀ L s.heap m) (N : News h₀ L s.heap news) (hh : A.handled = none) (hbig : h₀.NoLimit)
    (hl : (l, PySem.W.listOf vs.toArray n) ∈ news) (hp : Paired (fun v k => PairTo s.heap v k x) vs ks) (hsz : vs.length ≤ 1000)
    (h : ∀ D h' tk o kvs, Fr h₀ L h' m → News h₀ L h' ((D, o) :: news) → (∀ p ∈ news, p.1 < D) → (D == sysModules) = false → o.IsDictOf (intKind prog w) kvs → (∀ y, (valueAt kvs y).isSome = true ↔ y ∈ ks) → Q (.ref D) { s with heap := h', toks := tk }) :
    wpAny (model prog w) A (call (.type "dict") [.ref l]) Q E s := by
  refine dict_of_list hh (N _ hl).1 rfl rfl rfl (by simpa using hp) (by rw [List.size_toArray]; exact hsz) fun h' tk kvs k hD hm _ => ?_
  obtain ⟨o, ho, hd⟩ := Heap.dictOf_iff.mp hD
  have F' := PyProof.Rows.Fr.kept F k
  exact h _ h' tk o kvs F' (PyProof.Rows.News.kept_cons F N k (Nat.le_refl _) ho) (fun p hp => Heap.lt_size (N p hp).1) (F.notModules (modules_low hbig)) hd hm
end


section
local macro_rules | `(tactic| walk_at "PAD 0") => `(tactic| skip)
local macro_rules | `(tactic| walk_at "PAD 1") => `(tactic| skip)
local macro_rules | `(tactic| walk_at "PAD 2") => `(tactic| skip)
local macro_rules | `(tactic| walk_at "PAD 3") => `(tactic| skip)
theorem sorted_strict : ∀ {l : List Int}, l.Pairwise (· ≤ ·) → l.Nodup → l.Pairwise (· < ·)
  | [], _, _ => .nil
  | a :: r, h, hn => by
    rw [List.pairwise_cons] at h ⊢
    rw [List.nodup_cons] at hn
    refine ⟨fun b hb => ?_, sorted_strict h.2 hn.2⟩
    have := h.1 b hb
    have hne : a ≠ b := fun e => hn.1 (e ▸ hb)
    omega
theorem SetIs.nodup {w : World} {hash : Int → Int} {o : Obj} {ks : List Int} (h : SetIs w hash o ks) : ks.Nodup := by
  obtain ⟨_, _, _, _, G⟩ := h
  exact G.nd

local macro_rules | `(tactic| walk_at "call type:set") => `(tactic| (k_here; (with_reducible show wpAny _ _ (call (Value.type "set") [Value.ref _]) _ _ _); (with_unfolding_all refine' set_call ?k1 ?k2 ?k3 ?k4 ?k5 ?k6 ?_; (case k1 => k_asm); (case k2 => k_asm); (case k3 => rfl); (case k4 => exact led_list (by k_asm) (by k_mem)); (case k5 => assumption); (case k6 => assumption)); intro D' h' tk' o' ks' F' N' l1 hS' hm' hl'; (try k_lt l1); (try dsimp only); (try k_sweep)))
local macro_rules | `(tactic| walk_at "call builtin:sorted") => `(tactic| (k_here; (with_reducible show wpAny _ _ (call (Value.builtin "sorted") [Value.ref _]) _ _ _); (with_unfolding_all refine' sorted_set ?k1 ?k2 ?k3 ?k4 ?k5 ?k6 ?_; (case k1 => k_asm); (case k2 => k_asm); rotate_left 1; (case k4 => assumption); (case k3 => k_mem); (case k5 => rfl); (case k6 => omega)); intro D' h' tk' dr' ds' ns' n' F' N' l1 hi' hp' hs'; (try k_lt l1); (try dsimp only); (try k_sweep)))

set_option maxHeartbeats 4000000 in
theorem clusters_spec {w : World} {A : Around} {s : Shared} {R : Result → Shared → Prop} {a : Addr} {vs : List Value} {rs : List Row}
    (C : Amb w A 1 s.heap) (S : ShapedAt s.heap a vs rs) (hlen : rs.length ≤ 60)
    (h : ∀ h' tk dr D ds ps n, Kp s.heap h' → s.heap.get? D = none → h'.get? D = some (PySem.W.listOf (List.toArray ds) n) → IntsAre ds ps → ps.Pairwise (· < ·) → ps.length ≤ rs.length → (∀ p, p ∈ ps ↔ ∃ r ∈ rs, r.cl = p) → R (.ok (.ret (.ref D))) { s with heap := h', toks := tk, drawn := dr }) :
    codeAny (model PR w) A (.call (.ref 54) ⟨[.ref a], []⟩) R s := by
  have mk : marker PySem.Challenge.rw_pb0148_01 hd.heap_39 := by w_top off; k_fill; exact trivial
  obtain ⟨KX, ⟨mean, mg, mb, T⟩, hh, hdp, hun⟩ := C
  obtain ⟨hd', dp, fr, gd, un⟩ := A
  obtain rfl : hd' = none := hh
  dsimp only at hdp hun
  obtain ⟨⟨dx, es, n, l, ib, I, hg, hgb, hl⟩, hrows, hfew⟩ := S
  refine enter_plain (K := hd.heap_39 w.params) [] (by intro p hp; cases hp) KX T.nolimit (by k_is) (by k_is) (by dsimp only; omega) (BindsTo.of_eq rfl) (locs rfl) (fun L h₁ tk F N hL => ?_) (by decide)
  change Fr s.heap L h₁ _ at F
  change News s.heap L h₁ _ at N
  try dsimp only
  (repeat' (first | (k_unfold; (try dsimp only)) | ((( (fail_if_success (with_reducible show wpAny _ _ (eval (Expr.ListComp _ _ _ _) _) _ _ _)); (fail_if_success (with_reducible show wpAny _ _ (exec (Stmt.Assign _ (Expr.ListComp _ _ _ _) _) _) _ _ _)); (fail_if_success (with_reducible show wpAny _ _ (exec (Stmt.For _ _ _ _ _) _) _ _ _)); (fail_if_success (with_reducible show wpAny _ _ (exec (Stmt.While _ _ _ _) _) _ _ _)); (fail_if_success (with_reducible show wpAny _ _ (pyIter (Value.ref _)) _ _ _)); (fail_if_success (with_reducible show LCt.CompSrcT _ _ _ _ _ _ _ _ _ _ _ _ _ _ _)); (fail_if_success (with_reducible show LCt.CompRestT _ _ _ _ _ _ _ _ _ _ _ _ _ _ _ _ _ _ _ _)); (fail_if_success (with_reducible show LCg.CompSrc _ _ _ _ _ _ _ _ _ _ _ _ _ _)))); first | walk1 | (dsimp only; walk1) | (leave1; walk_say "STEP leave1"; try dsimp only)) | fail "no step"))
  ((k_dflt (refine LCg.ListComp_U (F₀ := by k_asm) (by with_unfolding_all rfl) (by decide) (by rfl) (by decide) (by rfl) ?_); (try dsimp only)))
  (repeat' (first | (k_unfold; (try dsimp only)) | ((( (fail_if_success (with_reducible show wpAny _ _ (eval (Expr.ListComp _ _ _ _) _) _ _ _)); (fail_if_success (with_reducible show wpAny _ _ (exec (Stmt.Assign _ (Expr.ListComp _ _ _ _) _) _) _ _ _)); (fail_if_success (with_reducible show wpAny _ _ (exec (Stmt.For _ _ _ _ _) _) _ _ _)); (fail_if_success (with_reducible show wpAny _ _ (exec (Stmt.While _ _ _ _) _) _ _ _)); (fail_if_success (with_reducible show wpAny _ _ (pyIter (Value.ref _)) _ _ _)); (fail_if_success (with_reducible show LCt.CompSrcT _ _ _ _ _ _ _ _ _ _ _ _ _ _ _)); (fail_if_success (with_reducible show LCt.CompRestT _ _ _ _ _ _ _ _ _ _ _ _ _ _ _ _ _ _ _ _)); (fail_if_success (with_reducible show LCg.CompSrc _ _ _ _ _ _ _ _ _ _ _ _ _ _)))); first | walk1 | (dsimp only; walk1) | (leave1; walk_say "STEP leave1"; try dsimp only)) | fail "no step"))
  ((k_dflt (refine LCg.CompSrc.base (by rfl) (by k_asm) (by k_asm) (by assumption) (by rw [List.size_toArray, PySem.sizeLine_eq]; omega) ?_); intro g; (try dsimp only)))
  refine comp_paired_U hrows (fun pre ys news' => news' = _ ∧ IntsAre ys (pre.map (·.cl))) ⟨rfl, .nil⟩ ?_ ?_
  · rintro pre r post v ys news I oI C oC D m₂ h tk E' hbs hr ⟨rfl, hys⟩ hC hx F' N' off ne
    obtain ⟨ar, v0, t1, t2, v3, v4, v5, rfl, ht, _⟩ := hr
    (try simp only [LCg.Off3, and_true] at off)
    try dsimp only
    k_fold
    (repeat' (first | (k_unfold; (try dsimp only)) | ((( (fail_if_success (with_reducible show wpAny _ _ (eval (Expr.ListComp _ _ _ _) _) _ _ _)); (fail_if_success (with_reducible show wpAny _ _ (exec (Stmt.Assign _ (Expr.ListComp _ _ _ _) _) _) _ _ _)); (fail_if_success (with_reducible show wpAny _ _ (exec (Stmt.For _ _ _ _ _) _) _ _ _)); (fail_if_success (with_reducible show wpAny _ _ (exec (Stmt.While _ _ _ _) _) _ _ _)); (fail_if_success (with_reducible show wpAny _ _ (pyIter (Value.ref _)) _ _ _)); (fail_if_success (with_reducible show LCt.CompSrcT _ _ _ _ _ _ _ _ _ _ _ _ _ _ _)); (fail_if_success (with_reducible show LCt.CompRestT _ _ _ _ _ _ _ _ _ _ _ _ _ _ _ _ _ _ _ _)); (fail_if_success (with_reducible show LCg.CompSrc _ _ _ _ _ _ _ _ _ _ _ _ _ _)))); first | walk1 | (dsimp only; walk1) | (leave1; walk_say "STEP leave1"; try dsimp only)) | fail "no step"))
    all_goals first | exact ints_snoc hys | w_report
  · rintro ys news ⟨rfl, hys⟩
    have hyl := hys.length
    rw [List.length_map] at hyl
    have hsb : (rs.map (·.cl)).length + 1 < scanBound := by rw [List.length_map]; unfold scanBound; omega
    have hyl2 : (rs.map (·.cl)).length ≤ 60 := by rw [List.length_map]; omega
    (repeat' (first | (k_unfold; (try dsimp only)) | ((( (fail_if_success (with_reducible show wpAny _ _ (eval (Expr.ListComp _ _ _ _) _) _ _ _)); (fail_if_success (with_reducible show wpAny _ _ (exec (Stmt.Assign _ (Expr.ListComp _ _ _ _) _) _) _ _ _)); (fail_if_success (with_reducible show wpAny _ _ (exec (Stmt.For _ _ _ _ _) _) _ _ _)); (fail_if_success (with_reducible show wpAny _ _ (exec (Stmt.While _ _ _ _) _) _ _ _)); (fail_if_success (with_reducible show wpAny _ _ (pyIter (Value.ref _)) _ _ _)); (fail_if_success (with_reducible show LCt.CompSrcT _ _ _ _ _ _ _ _ _ _ _ _ _ _ _)); (fail_if_success (with_reducible show LCt.CompRestT _ _ _ _ _ _ _ _ _ _ _ _ _ _ _ _ _ _ _ _)); (fail_if_success (with_reducible show LCg.CompSrc _ _ _ _ _ _ _ _ _ _ _ _ _ _)))); first | walk1 | (dsimp only; walk1) | (leave1; walk_say "STEP leave1"; try dsimp only)) | fail "no step"))
    rename List.Perm _ _ => hpm
    rename SetIs _ _ _ _ => hset
    rename (List.Pairwise (· ≤ ·) _) => hpw
    rename (∀ y, y ∈ _ ↔ y ∈ List.map _ _) => hmem
    rename (List.length _ ≤ List.length (List.map _ _)) => hle
    rename IntsAre _ _ => hints
    refine h _ _ _ _ _ _ _ (Fr.keep (by assumption)) (News.fresh (by assumption) List.mem_cons_self) (News.get (by assumption) List.mem_cons_self) hints (sorted_strict hpw (hpm.nodup_iff.mpr hset.nodup)) ?_ fun p => ?_
    · rw [hpm.length_eq]
      simp only [List.length_map] at hle
      omega
    · rw [hpm.mem_iff, hmem p]
      simp [List.mem_map]

set_option maxHeartbeats 4000000 in
theorem risky_spec {w : World} {A : Around} {s : Shared} {R : Result → Shared → Prop} {a : Addr} {vs : List Value} {rs : List Row}
    (C : Amb w A 1 s.heap) (S : ShapedAt s.heap a vs rs) (hlen : rs.length ≤ 60)
    (h : ∀ h' tk dr D ds ps n, Kp s.heap h' → s.heap.get? D = none → h'.get? D = some (PySem.W.listOf (List.toArray ds) n) → IntsAre ds ps → ps.Pairwise (· < ·) → ps.length ≤ rs.length → (∀ p, p ∈ ps ↔ ∃ r ∈ rs, r.cl = p ∧ r.un = true) → R (.ok (.ret (.ref D))) { s with heap := h', toks := tk, drawn := dr }) :
    codeAny (model PR w) A (.call (.ref 59) ⟨[.ref a], []⟩) R s := by
  have mk : marker PySem.Challenge.rw_pb0148_01 hd.heap_39 := by w_top off; k_fill; exact trivial
  obtain ⟨KX, ⟨mean, mg, mb, T⟩, hh, hdp, hun⟩ := C
  obtain ⟨hd', dp, fr, gd, un⟩ := A
  obtain rfl : hd' = none := hh
  dsimp only at hdp hun
  obtain ⟨⟨dx, es, n, l, ib, I, hg, hgb, hl⟩, hrows, hfew⟩ := S
  refine enter_plain (K := hd.heap_39 w.params) [] (by intro p hp; cases hp) KX T.nolimit (by k_is) (by k_is) (by dsimp only; omega) (BindsTo.of_eq rfl) (locs rfl) (fun L h₁ tk F N hL => ?_) (by decide)
  change Fr s.heap L h₁ _ at F
  change News s.heap L h₁ _ at N
  try dsimp only
  (repeat' (first | (k_unfold; (try dsimp only)) | ((( (fail_if_success (with_reducible show wpAny _ _ (eval (Expr.ListComp _ _ _ _) _) _ _ _)); (fail_if_success (with_reducible show wpAny _ _ (exec (Stmt.Assign _ (Expr.ListComp _ _ _ _) _) _) _ _ _)); (fail_if_success (with_reducible show wpAny _ _ (exec (Stmt.For _ _ _ _ _) _) _ _ _)); (fail_if_success (with_reducible show wpAny _ _ (exec (Stmt.While _ _ _ _) _) _ _ _)); (fail_if_success (with_reducible show wpAny _ _ (pyIter (Value.ref _)) _ _ _)); (fail_if_success (with_reducible show LCt.CompSrcT _ _ _ _ _ _ _ _ _ _ _ _ _ _ _)); (fail_if_success (with_reducible show LCt.CompRestT _ _ _ _ _ _ _ _ _ _ _ _ _ _ _ _ _ _ _ _)); (fail_if_success (with_reducible show LCg.CompSrc _ _ _ _ _ _ _ _ _ _ _ _ _ _)))); first | walk1 | (dsimp only; walk1) | (leave1; walk_say "STEP leave1"; try dsimp only)) | fail "no step"))
  ((k_dflt (refine LCt.ListComp_T (F₀ := by k_asm) (by with_unfolding_all rfl) (by decide) (by rfl) (by decide) (by rfl) ?_); (try dsimp only)))
  (repeat' (first | (k_unfold; (try dsimp only)) | ((( (fail_if_success (with_reducible show wpAny _ _ (eval (Expr.ListComp _ _ _ _) _) _ _ _)); (fail_if_success (with_reducible show wpAny _ _ (exec (Stmt.Assign _ (Expr.ListComp _ _ _ _) _) _) _ _ _)); (fail_if_success (with_reducible show wpAny _ _ (exec (Stmt.For _ _ _ _ _) _) _ _ _)); (fail_if_success (with_reducible show wpAny _ _ (exec (Stmt.While _ _ _ _) _) _ _ _)); (fail_if_success (with_reducible show wpAny _ _ (pyIter (Value.ref _)) _ _ _)); (fail_if_success (with_reducible show LCt.CompSrcT _ _ _ _ _ _ _ _ _ _ _ _ _ _ _)); (fail_if_success (with_reducible show LCt.CompRestT _ _ _ _ _ _ _ _ _ _ _ _ _ _ _ _ _ _ _ _)); (fail_if_success (with_reducible show LCg.CompSrc _ _ _ _ _ _ _ _ _ _ _ _ _ _)))); first | walk1 | (dsimp only; walk1) | (leave1; walk_say "STEP leave1"; try dsimp only)) | fail "no step"))
  ((k_dflt (refine LCt.CompSrcT.base (by rfl) (by k_asm) (by k_asm) (by assumption) (by rw [List.size_toArray, PySem.sizeLine_eq]; omega) ?_); intro g; (try dsimp only)))
  refine comp_paired hrows (fun pre ys news' => news' = _ ∧ IntsAre ys ((pre.filter (·.un)).map (·.cl))) ⟨rfl, .nil⟩ ?_ ?_
  · rintro pre r post v ys news I oI C oC D m₂ h tk E' hbs hr ⟨rfl, hys⟩ hC hx F' N' off ne
    obtain ⟨ar, v0, t1, t2, v3, v4, v5, rfl, ht, _⟩ := hr
    (try simp only [LCg.Off3, and_true] at off)
    try dsimp only
    k_fold
    (repeat' (first | (k_unfold; (try dsimp only)) | ((( (fail_if_success (with_reducible show wpAny _ _ (eval (Expr.ListComp _ _ _ _) _) _ _ _)); (fail_if_success (with_reducible show wpAny _ _ (exec (Stmt.Assign _ (Expr.ListComp _ _ _ _) _) _) _ _ _)); (fail_if_success (with_reducible show wpAny _ _ (exec (Stmt.For _ _ _ _ _) _) _ _ _)); (fail_if_success (with_reducible show wpAny _ _ (exec (Stmt.While _ _ _ _) _) _ _ _)); (fail_if_success (with_reducible show wpAny _ _ (pyIter (Value.ref _)) _ _ _)); (fail_if_success (with_reducible show LCt.CompSrcT _ _ _ _ _ _ _ _ _ _ _ _ _ _ _)); (fail_if_success (with_reducible show LCt.CompRestT _ _ _ _ _ _ _ _ _ _ _ _ _ _ _ _ _ _ _ _)); (fail_if_success (with_reducible show LCg.CompSrc _ _ _ _ _ _ _ _ _ _ _ _ _ _)))); first | walk1 | (dsimp only; walk1) | (leave1; walk_say "STEP leave1"; try dsimp only)) | fail "no step"))
    all_goals first | exact ints_snoc_yes hys (by assumption) | exact ints_snoc_no hys (by assumption) | w_report
  · rintro ys news ⟨rfl, hys⟩
    have hyl := hys.length
    rw [List.length_map] at hyl
    have hfl := List.length_filter_le (fun r : Row => r.un) rs
    have hsb : ((rs.filter (·.un)).map (·.cl)).length + 1 < scanBound := by rw [List.length_map]; unfold scanBound; omega
    have hyl2 : ((rs.filter (·.un)).map (·.cl)).length ≤ 60 := by rw [List.length_map]; omega
    (repeat' (first | (k_unfold; (try dsimp only)) | ((( (fail_if_success (with_reducible show wpAny _ _ (eval (Expr.ListComp _ _ _ _) _) _ _ _)); (fail_if_success (with_reducible show wpAny _ _ (exec (Stmt.Assign _ (Expr.ListComp _ _ _ _) _) _) _ _ _)); (fail_if_success (with_reducible show wpAny _ _ (exec (Stmt.For _ _ _ _ _) _) _ _ _)); (fail_if_success (with_reducible show wpAny _ _ (exec (Stmt.While _ _ _ _) _) _ _ _)); (fail_if_success (with_reducible show wpAny _ _ (pyIter (Value.ref _)) _ _ _)); (fail_if_success (with_reducible show LCt.CompSrcT _ _ _ _ _ _ _ _ _ _ _ _ _ _ _)); (fail_if_success (with_reducible show LCt.CompRestT _ _ _ _ _ _ _ _ _ _ _ _ _ _ _ _ _ _ _ _)); (fail_if_success (with_reducible show LCg.CompSrc _ _ _ _ _ _ _ _ _ _ _ _ _ _)))); first | walk1 | (dsimp only; walk1) | (leave1; walk_say "STEP leave1"; try dsimp only)) | fail "no step"))
    rename List.Perm _ _ => hpm
    rename SetIs _ _ _ _ => hset
    rename (List.Pairwise (· ≤ ·) _) => hpw
    rename (∀ y, y ∈ _ ↔ y ∈ List.map _ _) => hmem
    rename (List.length _ ≤ List.length (List.map _ _)) => hle
    rename IntsAre _ _ => hints
    refine h _ _ _ _ _ _ _ (Fr.keep (by assumption)) (News.fresh (by assumption) List.mem_cons_self) (News.get (by assumption) List.mem_cons_self) hints (sorted_strict hpw (hpm.nodup_iff.mpr hset.nodup)) ?_ fun p => ?_
    · rw [hpm.length_eq]
      simp only [List.length_map] at hle
      omega
    · rw [hpm.mem_iff, hmem p]
      simp only [List.mem_map, List.mem_filter]
      exact ⟨fun ⟨r, ⟨a, b⟩, c⟩ => ⟨r, a, c, b⟩, fun ⟨r, a, c, b⟩ => ⟨r, ⟨a, b⟩, c⟩⟩


end

section
def IsBreaks (rs : List Row) (len : Int) (ps : List Int) : Prop :=
  ps.Pairwise (· < ·) ∧ ps.length ≤ rs.length ∧ ∀ p, p ∈ ps ↔ (0 < p ∧ p < len ∧ (∃ r ∈ rs, r.cl = p) ∧ ¬ ∃ r ∈ rs, r.cl = p ∧ r.un = true)

def PairToIn (led : List (Addr × Obj)) (v : Value) (k : Int) : Prop := ∃ a o t n, v = .ref a ∧ (a, o) ∈ led ∧ o = { cls := .type "tuple", data := .seq (List.toArray [.int k t, .bool true]) n }
theorem PairToIn.more {led led' : List (Addr × Obj)} {v : Value} {k : Int} (x : PairToIn led v k) (q : ∀ p ∈ led, p ∈ led') : PairToIn led' v k :=
  let ⟨a, o, t, n, e, hm, r⟩ := x
  ⟨a, o, t, n, e, q _ hm, r⟩
theorem news_pick {h₀ h : Heap} {L : Addr} {x0 x1 x2 c1 c2 : Addr × Obj} {r : List (Addr × Obj)} (N : News h₀ L h (x0 :: x1 :: x2 :: c1 :: c2 :: r)) : News h₀ L h [x0, c1, c2] := fun p hp => N p (by
  simp only [List.mem_cons, List.not_mem_nil, or_false] at hp
  rcases hp with rfl | rfl | rfl <;> simp)
theorem pick_lt {D : Addr} {x1 x2 : Addr × Obj} {c1 c2 : Addr} {o1 o2 : Obj} {r : List (Addr × Obj)} (h : ∀ p ∈ x1 :: x2 :: (c1, o1) :: (c2, o2) :: r, p.1 < D) : c1 < D ∧ c2 < D := ⟨h (c1, o1) (by simp), h (c2, o2) (by simp)⟩
theorem pairs_at {h₀ h : Heap} {L : Addr} {led obs : List (Addr × Obj)} {ys : List Value} {ks : List Int} (N : News h₀ L h led) (hsub : ∀ p ∈ obs, p ∈ led) (hys : Paired (PairToIn obs) ys ks) : Paired (fun v k => PairTo h v k (.bool true)) ys ks := by
  refine Paired.mono (fun v k q => ?_) hys
  obtain ⟨a, o, t, n, rfl, hm, rfl⟩ := q
  exact ⟨a, t, rfl, _, (N (a, _) (hsub _ hm)).1, rfl, n, rfl⟩
open LCg in
theorem pair_end {h₀ h' : Heap} {L T I C D ax : Addr} {m : Str → Option Value} {oI oC to : Obj} {ys : List Value} {base obs : List (Addr × Obj)} {its : Array Value} {kk : Nat} {s₀ : Shared} {tk : Nat} {pre : List Int} {k : Int} {t : Tok}
    (F : Fr h₀ L h' m) (N : News h₀ L h' ((T, to) :: (I, oI) :: (C, oC) :: (D, lst ys) :: (base ++ obs))) (off : Off3 I C D (base ++ obs)) (l1 : I < T ∧ C < T ∧ D < T ∧ AllLt T (base ++ obs)) (hax : (ax, PySem.W.listOf its kk) ∈ base)
    (hys : Paired (PairToIn obs) ys pre) (ho : to = { cls := .type "tuple", data := .seq (List.toArray [.int k t, .bool true]) }) :
    CompEnd h₀ L m s₀ I oI C oC D (lst ys) (SrcAt h₀ ax its) (fun y news' => ∃ obs, news' = base ++ obs ∧ Paired (PairToIn obs) (ys ++ [y]) (pre ++ [k])) (.ref T) { s₀ with heap := h', toks := tk } := by
  refine CompEnd.intro F N (base ++ (obs ++ [(T, to)])) (fun p hp => ?_) (Off3.of fun p hp => ?_) (.inr ⟨_, List.mem_append_left _ hax, rfl, _, rfl⟩) ⟨obs ++ [(T, to)], rfl, Paired.snoc (Paired.mono (fun _ _ q => q.more fun p hp => List.mem_append_left _ hp) hys) ⟨T, to, t, 0, rfl, by simp, ho⟩⟩
  · simp only [List.mem_cons, List.mem_append, List.not_mem_nil, or_false] at hp ⊢
    rcases hp with h | h | h | h | h | h <;> simp [h]
  · rw [← List.append_assoc] at hp
    rcases List.mem_append.mp hp with hp | hp
    · exact off.mem p hp
    · rw [List.mem_singleton] at hp
      subst hp
      exact ⟨Nat.ne_of_gt l1.1, Nat.ne_of_gt l1.2.1, Nat.ne_of_gt l1.2.2.1⟩
local macro_rules | `(tactic| walk_at "call ref") => `(tactic| (k_here; (with_reducible show wpAny _ _ (call (Value.ref 59) _) _ _ _); refine wpAny_call (risky_spec (by walk_at "MY amb") (ShapedAt.keeps (by assumption) (Fr.keep (by k_asm))) (by assumption) ?_); (intro h9 tk9 dr9 D9 ds9 ps9 n9 k9 f9 g9 i9 z9 b9 u9; (have l9 := fresh_lt (by k_asm) f9); (have N9 := news_new (by k_asm) (by k_asm) k9 f9 g9); (have F9 := Fr.keeps (by k_asm) k9); clear k9 f9 g9; (try k_lt l9); (try dsimp only); (try k_sweep))))
local macro_rules | `(tactic| walk_at "call ref") => `(tactic| (k_here; (with_reducible show wpAny _ _ (call (Value.ref 54) _) _ _ _); refine wpAny_call (clusters_spec (by walk_at "MY amb") (ShapedAt.keeps (by assumption) (Fr.keep (by k_asm))) (by assumption) ?_); (intro h9 tk9 dr9 D9 ds9 ps9 n9 k9 f9 g9 i9 z9 b9 c9; (have l9 := fresh_lt (by k_asm) f9); (have N9 := news_new (by k_asm) (by k_asm) k9 f9 g9); (have F9 := Fr.keeps (by k_asm) k9); clear k9 f9 g9; (try k_lt l9); (try dsimp only); (try k_sweep))))

local macro_rules | `(tactic| walk_at "compareOp NotIn int ref") => `(tactic| (k_here; (refine wpAny_notIn_of (knd := PySem.intKind _ _) (intKind_is _ _ _ _) (by assumption) (kda_dict (by k_asm) (by k_mem) (by assumption)).mapOf ?_)))

set_option maxHeartbeats 4000000 in
theorem break_spec {w : World} {A : Around} {s : Shared} {R : Result → Shared → Prop} {a : Addr} {vs : List Value} {rs : List Row} {len : Int} {tl : Tok}
    (C : Amb w A 3 s.heap) (S : ShapedAt s.heap a vs rs) (hlen : rs.length ≤ 60)
    (h : ∀ h' tk dr D ds ps n, Kp s.heap h' → s.heap.get? D = none → h'.get? D = some (PySem.W.listOf (List.toArray ds) n) → IntsAre ds ps → ds.length ≤ 60 → IsBreaks rs len ps → R (.ok (.ret (.ref D))) { s with heap := h', toks := tk, drawn := dr }) :
    codeAny (model PR w) A (.call (.ref 64) ⟨[.ref a, .int len tl], []⟩) R s := by
  have mk : marker PySem.Challenge.rw_pb0148_01 hd.heap_39 := by w_top off; k_fill; exact trivial
  obtain ⟨KX, ⟨mean, mg, mb, T⟩, hh, hdp, hun⟩ := C
  obtain ⟨hd', dp, fr, gd, un⟩ := A
  obtain rfl : hd' = none := hh
  dsimp only at hdp hun
  have hnl := T.nolimit
  refine enter_cells (K := hd.heap_39 w.params) [] (by intro p hp; cases hp) KX T.nolimit (by k_is) (by k_is) (by dsimp only; omega) (BindsTo.of_eq rfl) (by rfl) (by decide +kernel) (fun L h₁ tk cells F N Y hL0 hL => ?_)
  change Fr s.heap L h₁ _ at F
  change News s.heap L h₁ _ at N
  k_cells Y
  simp only [List.cons_append, List.nil_append] at N
  clear hL0
  try dsimp only
  (repeat' (first | (k_unfold; (try dsimp only)) | ((( (fail_if_success (with_reducible show wpAny _ _ (eval (Expr.ListComp _ _ _ _) _) _ _ _)); (fail_if_success (with_reducible show wpAny _ _ (exec (Stmt.Assign _ (Expr.ListComp _ _ _ _) _) _) _ _ _)); (fail_if_success (with_reducible show wpAny _ _ (exec (Stmt.For _ _ _ _ _) _) _ _ _)); (fail_if_success (with_reducible show wpAny _ _ (exec (Stmt.While _ _ _ _) _) _ _ _)); (fail_if_success (with_reducible show wpAny _ _ (pyIter (Value.ref _)) _ _ _)); (fail_if_success (with_reducible show LCt.CompSrcT _ _ _ _ _ _ _ _ _ _ _ _ _ _ _)); (fail_if_success (with_reducible show LCt.CompRestT _ _ _ _ _ _ _ _ _ _ _ _ _ _ _ _ _ _ _ _)); (fail_if_success (with_reducible show LCg.CompSrc _ _ _ _ _ _ _ _ _ _ _ _ _ _)))); first | walk1 | (dsimp only; walk1) | (leave1; walk_say "STEP leave1"; try dsimp only)) | fail "no step"))
  ((k_dflt (refine LCg.ListComp_U (F₀ := by k_asm) (by with_unfolding_all rfl) (by decide) (by rfl) (by decide) (by rfl) ?_); (try dsimp only)))
  (repeat' (first | (k_unfold; (try dsimp only)) | ((( (fail_if_success (with_reducible show wpAny _ _ (eval (Expr.ListComp _ _ _ _) _) _ _ _)); (fail_if_success (with_reducible show wpAny _ _ (exec (Stmt.Assign _ (Expr.ListComp _ _ _ _) _) _) _ _ _)); (fail_if_success (with_reducible show wpAny _ _ (exec (Stmt.For _ _ _ _ _) _) _ _ _)); (fail_if_success (with_reducible show wpAny _ _ (exec (Stmt.While _ _ _ _) _) _ _ _)); (fail_if_success (with_reducible show wpAny _ _ (pyIter (Value.ref _)) _ _ _)); (fail_if_success (with_reducible show LCt.CompSrcT _ _ _ _ _ _ _ _ _ _ _ _ _ _ _)); (fail_if_success (with_reducible show LCt.CompRestT _ _ _ _ _ _ _ _ _ _ _ _ _ _ _ _ _ _ _ _)); (fail_if_success (with_reducible show LCg.CompSrc _ _ _ _ _ _ _ _ _ _ _ _ _ _)))); first | walk1 | (dsimp only; walk1) | (leave1; walk_say "STEP leave1"; try dsimp only)) | fail "no step"))
  rename IntsAre _ _ => hints
  have hdl := hints.length
  ((k_dflt (refine LCg.CompSrc.ledger (by rfl) (by k_asm) (by k_asm) (by k_mem) (by rw [List.size_toArray, PySem.sizeLine_eq]; omega) ?_); intro g; (try dsimp only)))
  refine comp_paired_U (ints_paired hints) (fun pre ys news' => ∃ obs, news' = _ ++ obs ∧ Paired (PairToIn obs) ys pre) ⟨[], (List.append_nil _).symm, .nil⟩ ?_ ?_
  · rintro pre k post v ys news I oI C oC D m₂ h tk E' hbs ⟨t, rfl⟩ ⟨obs, rfl, hys⟩ hC hx F' N' off ne
    (try simp only [LCg.Off3, and_true] at off)
    try dsimp only
    k_fold
    (repeat' (first | (k_unfold; (try dsimp only)) | ((( (fail_if_success (with_reducible show wpAny _ _ (eval (Expr.ListComp _ _ _ _) _) _ _ _)); (fail_if_success (with_reducible show wpAny _ _ (exec (Stmt.Assign _ (Expr.ListComp _ _ _ _) _) _) _ _ _)); (fail_if_success (with_reducible show wpAny _ _ (exec (Stmt.For _ _ _ _ _) _) _ _ _)); (fail_if_success (with_reducible show wpAny _ _ (exec (Stmt.While _ _ _ _) _) _ _ _)); (fail_if_success (with_reducible show wpAny _ _ (pyIter (Value.ref _)) _ _ _)); (fail_if_success (with_reducible show LCt.CompSrcT _ _ _ _ _ _ _ _ _ _ _ _ _ _ _)); (fail_if_success (with_reducible show LCt.CompRestT _ _ _ _ _ _ _ _ _ _ _ _ _ _ _ _ _ _ _ _)); (fail_if_success (with_reducible show LCg.CompSrc _ _ _ _ _ _ _ _ _ _ _ _ _ _)))); first | walk1 | (dsimp only; walk1) | (leave1; walk_say "STEP leave1"; try dsimp only)) | fail "no step"))
    exact pair_end (by assumption) (by assumption) off (by assumption) (by k_mem) hys rfl
  · rintro ys news ⟨obs, rfl, hobs⟩
    have hyl := hobs.length
    (repeat' (first | (k_unfold; (try dsimp only)) | ((( (fail_if_success (with_reducible show wpAny _ _ (eval (Expr.ListComp _ _ _ _) _) _ _ _)); (fail_if_success (with_reducible show wpAny _ _ (exec (Stmt.Assign _ (Expr.ListComp _ _ _ _) _) _) _ _ _)); (fail_if_success (with_reducible show wpAny _ _ (exec (Stmt.For _ _ _ _ _) _) _ _ _)); (fail_if_success (with_reducible show wpAny _ _ (exec (Stmt.While _ _ _ _) _) _ _ _)); (fail_if_success (with_reducible show wpAny _ _ (pyIter (Value.ref _)) _ _ _)); (fail_if_success (with_reducible show LCt.CompSrcT _ _ _ _ _ _ _ _ _ _ _ _ _ _ _)); (fail_if_success (with_reducible show LCt.CompRestT _ _ _ _ _ _ _ _ _ _ _ _ _ _ _ _ _ _ _ _)); (fail_if_success (with_reducible show LCg.CompSrc _ _ _ _ _ _ _ _ _ _ _ _ _ _)))); first | walk1 | (dsimp only; walk1) | (leave1; walk_say "STEP leave1"; try dsimp only)) | fail "no step"))
    refine dict_call (x := .bool true) (by k_asm) (by k_asm) rfl hnl (by k_mem) (pairs_at (by k_asm) (fun p hp => by simp [hp]) hobs) (by omega) fun Dd hd tkd od kvs Fd Nd ltd lod hod hkv => ?_
    have lt2 := pick_lt ltd
    have lt3 := ltN lt2.1
    have lt4 := ltN lt2.2
    replace Nd := news_pick Nd
    clear ltd
    k_sweep
    dsimp only
    (repeat' (first | (k_unfold; (try dsimp only)) | ((( (fail_if_success (with_reducible show wpAny _ _ (eval (Expr.ListComp _ _ _ _) _) _ _ _)); (fail_if_success (with_reducible show wpAny _ _ (exec (Stmt.Assign _ (Expr.ListComp _ _ _ _) _) _) _ _ _)); (fail_if_success (with_reducible show wpAny _ _ (exec (Stmt.For _ _ _ _ _) _) _ _ _)); (fail_if_success (with_reducible show wpAny _ _ (exec (Stmt.While _ _ _ _) _) _ _ _)); (fail_if_success (with_reducible show wpAny _ _ (pyIter (Value.ref _)) _ _ _)); (fail_if_success (with_reducible show LCt.CompSrcT _ _ _ _ _ _ _ _ _ _ _ _ _ _ _)); (fail_if_success (with_reducible show LCt.CompRestT _ _ _ _ _ _ _ _ _ _ _ _ _ _ _ _ _ _ _ _)); (fail_if_success (with_reducible show LCg.CompSrc _ _ _ _ _ _ _ _ _ _ _ _ _ _)))); first | walk1 | (dsimp only; walk1) | (leave1; walk_say "STEP leave1"; try dsimp only)) | fail "no step"))
    rename IntsAre _ _ => hints
    have hdl2 := hints.length
    ((k_dflt (refine LCt.ListComp_T (F₀ := by k_asm) (by with_unfolding_all rfl) (by decide) (by rfl) (by decide) (by rfl) ?_); (try dsimp only)))
    (repeat' (first | (k_unfold; (try dsimp only)) | ((( (fail_if_success (with_reducible show wpAny _ _ (eval (Expr.ListComp _ _ _ _) _) _ _ _)); (fail_if_success (with_reducible show wpAny _ _ (exec (Stmt.Assign _ (Expr.ListComp _ _ _ _) _) _) _ _ _)); (fail_if_success (with_reducible show wpAny _ _ (exec (Stmt.For _ _ _ _ _) _) _ _ _)); (fail_if_success (with_reducible show wpAny _ _ (exec (Stmt.While _ _ _ _) _) _ _ _)); (fail_if_success (with_reducible show wpAny _ _ (pyIter (Value.ref _)) _ _ _)); (fail_if_success (with_reducible show LCt.CompSrcT _ _ _ _ _ _ _ _ _ _ _ _ _ _ _)); (fail_if_success (with_reducible show LCt.CompRestT _ _ _ _ _ _ _ _ _ _ _ _ _ _ _ _ _ _ _ _)); (fail_if_success (with_reducible show LCg.CompSrc _ _ _ _ _ _ _ _ _ _ _ _ _ _)))); first | walk1 | (dsimp only; walk1) | (leave1; walk_say "STEP leave1"; try dsimp only)) | fail "no step"))
    rename IntsAre _ _ => hints2
    have hdl3 := hints2.length
    ((k_dflt (refine LCt.CompSrcT.ledger (by rfl) (by k_asm) (by k_asm) (by k_mem) (by rw [List.size_toArray, PySem.sizeLine_eq]; omega) ?_); intro g; (try dsimp only)))
    refine comp_paired (ints_paired hints2) (fun pre ys news' => news' = _ ∧ IntsAre ys ((pre.filter (fun p => decide (0 < p ∧ p < len ∧ (valueAt kvs p).isSome = false))).map id)) ⟨rfl, .nil⟩ ?_ ?_
    · rintro pre r post v ys2 news I oI C oC D m₂ h tk E' hbs ⟨t, rfl⟩ ⟨rfl, hys⟩ hC hx F' N' off ne
      (try simp only [LCg.Off3, and_true] at off)
      try dsimp only
      k_fold
      (repeat' (first | (k_unfold; (try dsimp only)) | ((( (fail_if_success (with_reducible show wpAny _ _ (eval (Expr.ListComp _ _ _ _) _) _ _ _)); (fail_if_success (with_reducible show wpAny _ _ (exec (Stmt.Assign _ (Expr.ListComp _ _ _ _) _) _) _ _ _)); (fail_if_success (with_reducible show wpAny _ _ (exec (Stmt.For _ _ _ _ _) _) _ _ _)); (fail_if_success (with_reducible show wpAny _ _ (exec (Stmt.While _ _ _ _) _) _ _ _)); (fail_if_success (with_reducible show wpAny _ _ (pyIter (Value.ref _)) _ _ _)); (fail_if_success (with_reducible show LCt.CompSrcT _ _ _ _ _ _ _ _ _ _ _ _ _ _ _)); (fail_if_success (with_reducible show LCt.CompRestT _ _ _ _ _ _ _ _ _ _ _ _ _ _ _ _ _ _ _ _)); (fail_if_success (with_reducible show LCg.CompSrc _ _ _ _ _ _ _ _ _ _ _ _ _ _)))); first | walk1 | (dsimp only; walk1) | (leave1; walk_say "STEP leave1"; try dsimp only)) | fail "no step"))
      all_goals first
        | exact ints_snoc_no (f := id) hys (decide_eq_false fun q => absurd q.1 (by assumption))
        | exact ints_snoc_no (f := id) hys (decide_eq_false fun q => absurd q.2.1 (by assumption))
        | exact ints_snoc_yes (f := id) hys (decide_eq_true ⟨by assumption, by assumption, by assumption⟩)
        | exact ints_snoc_no (f := id) hys (decide_eq_false fun q => absurd (by assumption : (valueAt kvs r).isSome = true) (by rw [q.2.2]; simp))
        | w_report
    · rintro ys2 news ⟨rfl, hys2⟩
      rw [List.map_id] at hys2
      rename (∀ p, p ∈ _ ↔ ∃ r, r ∈ rs ∧ r.cl = p) => hc1
      rename (List.Pairwise _ _) => hpw1
      rename (List.length _ ≤ rs.length) => hle1
      obtain ⟨all, hall, hpw, hle, hc, hi2⟩ : ∃ all : List Int, (∀ p, p ∈ all ↔ ∃ r, r ∈ rs ∧ r.cl = p) ∧ all.Pairwise (· < ·) ∧ all.length ≤ rs.length ∧ True ∧ IntsAre ys2 (all.filter (fun p => decide (0 < p ∧ p < len ∧ (valueAt kvs p).isSome = false))) := ⟨_, hc1, hpw1, hle1, trivial, hys2⟩
      clear hc1 hpw1 hle1
      have hfl := List.length_filter_le (fun p => decide (0 < p ∧ p < len ∧ (valueAt kvs p).isSome = false)) all
      have hyl2 := hi2.length
      (repeat' (first | (k_unfold; (try dsimp only)) | ((( (fail_if_success (with_reducible show wpAny _ _ (eval (Expr.ListComp _ _ _ _) _) _ _ _)); (fail_if_success (with_reducible show wpAny _ _ (exec (Stmt.Assign _ (Expr.ListComp _ _ _ _) _) _) _ _ _)); (fail_if_success (with_reducible show wpAny _ _ (exec (Stmt.For _ _ _ _ _) _) _ _ _)); (fail_if_success (with_reducible show wpAny _ _ (exec (Stmt.While _ _ _ _) _) _ _ _)); (fail_if_success (with_reducible show wpAny _ _ (pyIter (Value.ref _)) _ _ _)); (fail_if_success (with_reducible show LCt.CompSrcT _ _ _ _ _ _ _ _ _ _ _ _ _ _ _)); (fail_if_success (with_reducible show LCt.CompRestT _ _ _ _ _ _ _ _ _ _ _ _ _ _ _ _ _ _ _ _)); (fail_if_success (with_reducible show LCg.CompSrc _ _ _ _ _ _ _ _ _ _ _ _ _ _)))); first | walk1 | (dsimp only; walk1) | (leave1; walk_say "STEP leave1"; try dsimp only)) | fail "no step"))
      refine h _ _ _ _ _ _ _ (Fr.keep (by assumption)) (News.fresh (by assumption) List.mem_cons_self) (News.get (by assumption) List.mem_cons_self) hi2 (by omega) ⟨List.Pairwise.filter _ hpw, by omega, fun p => ?_⟩
      rw [List.mem_filter, hall p, decide_eq_true_eq]
      have hk := hkv p
      rename (∀ p, p ∈ _ ↔ ∃ r, r ∈ rs ∧ r.cl = p ∧ r.un = true) => hu
      rw [hu p] at hk
      constructor
      · rintro ⟨q1, q2, q3, q4⟩
        exact ⟨q2, q3, q1, fun q => by rw [hk.mpr q] at q4; cases q4⟩
      · rintro ⟨q1, q2, q3, q4⟩
        refine ⟨q3, q1, q2, ?_⟩
        cases e : (valueAt kvs p).isSome with
        | false => rfl
        | true => exact absurd (hk.mp e) q4


end

section
local macro_rules | `(tactic| walk_at "PAD 0") => `(tactic| skip)
local macro_rules | `(tactic| walk_at "PAD 1") => `(tactic| skip)
local macro_rules | `(tactic| walk_at "PAD 2") => `(tactic| skip)
local macro_rules | `(tactic| walk_at "PAD 3") => `(tactic| skip)
/-- the lines found up to a place -/
inductive LinesTo (rs : List Row) (ps : List Int) (w len : Int) : Int → List (Int × Int) → Prop
  | nil : LinesTo rs ps w len 0 []
  | snoc {b e : Int} {ls : List (Int × Int)} : LinesTo rs ps w len b ls → b < len → isLineEnd rs ps b w e → LinesTo rs ps w len e (ls ++ [(b, e)])

def PairObj (o : Obj) (p : Int × Int) : Prop := ∃ t1 t2 n, o = { cls := .type "tuple", data := .seq (List.toArray [.int p.1 t1, .int p.2 t2]) n }
def PairIn (led : List (Addr × Obj)) (v : Value) (p : Int × Int) : Prop := ∃ a o, v = .ref a ∧ (a, o) ∈ led ∧ PairObj o p
def IsPair (h : Heap) (v : Value) (p : Int × Int) : Prop := ∃ a t1 t2, v = .ref a ∧ IsTup h a [.int p.1 t1, .int p.2 t2].toArray
theorem PairIn.isPair {h₀ h : Heap} {L : Addr} {led : List (Addr × Obj)} {v : Value} {p : Int × Int} (x : PairIn led v p) (N : News h₀ L h led) : IsPair h v p := by
  obtain ⟨a, o, rfl, hm, t1, t2, n, rfl⟩ := x
  exact ⟨a, t1, t2, rfl, _, (N _ hm).1, rfl, n, rfl⟩
theorem PairIn.more {led led' : List (Addr × Obj)} {v : Value} {p : Int × Int} (x : PairIn led v p) (k : ∀ p ∈ led, p ∈ led') : PairIn led' v p :=
  let ⟨a, o, e, hm, q⟩ := x
  ⟨a, o, e, k _ hm, q⟩
theorem IsPair.keeps {h h' : Heap} {v : Value} {p : Int × Int} (x : IsPair h v p) (k : Kp h h') : IsPair h' v p :=
  let ⟨a, t1, t2, e, ht⟩ := x
  ⟨a, t1, t2, e, ht.keeps k⟩

local macro_rules | `(tactic| walk_at "call ref") => `(tactic| (k_here; (with_reducible show wpAny _ _ (call (Value.ref 64) _) _ _ _); refine wpAny_call (break_spec (by walk_at "MY amb") (ShapedAt.keeps (by assumption) (Fr.keep (by k_asm))) (by assumption) ?_); (intro h9 tk9 dr9 D9 ds9 ps9 n9 k9 f9 g9 i9 z9 b9; (have l9 := fresh_lt (by k_asm) f9); (have N9 := news_new (by k_asm) (by k_asm) k9 f9 g9); (have F9 := Fr.keeps (by k_asm) k9); clear k9 f9 g9; (try k_lt l9); (try dsimp only); (try k_sweep))))

theorem later_mem {ps : List Int} {b e : Int} : e ∈ laterOf ps b ↔ e ∈ ps ∧ b < e := by simp [laterOf]
theorem lineEnd_later {rs : List Row} {ps : List Int} {b w e : Int} (h : isLineEnd rs ps b w e) : e ∈ laterOf ps b := by
  rcases h with ⟨_, h⟩ | ⟨h, _⟩
  · exact List.mem_of_mem_head? (by rw [h]; rfl)
  · exact (List.mem_filter.mp h).1
theorem later_less {ps : List Int} {b e : Int} (h : e ∈ laterOf ps b) : (laterOf ps e).length + 1 ≤ (laterOf ps b).length := by
  obtain ⟨he, hb⟩ := later_mem.mp h
  unfold laterOf
  clear h
  induction ps with
  | nil => cases he
  | cons p r ih =>
    have mono : ∀ l : List Int, (l.filter (fun p => decide (e < p))).length ≤ (l.filter (fun p => decide (b < p))).length := by
      intro l
      induction l with
      | nil => exact Nat.le_refl _
      | cons x l ih2 =>
        by_cases h1 : e < x
        · have h2 : b < x := by omega
          simp only [List.filter_cons, h1, h2, decide_true, if_true, List.length_cons]; omega
        · by_cases h2 : b < x
          · simp only [List.filter_cons, h1, h2, decide_true, decide_false, if_true, Bool.false_eq_true, if_false, List.length_cons]; omega
          · simp only [List.filter_cons, h1, h2, decide_false, Bool.false_eq_true, if_false]; exact ih2
    by_cases hep : e = p
    · subst hep
      have h1 : ¬ e < e := by omega
      simp only [List.filter_cons, h1, hb, decide_true, decide_false, if_true, Bool.false_eq_true, if_false, List.length_cons]
      have := mono r
      omega
    · have her : e ∈ r := by
        rcases List.mem_cons.mp he with q | q
        · exact absurd q hep
        · exact q
      have := ih her
      by_cases h1 : e < p
      · have h2 : b < p := by omega
        simp only [List.filter_cons, h1, h2, decide_true, if_true, List.length_cons]; omega
      · by_cases h2 : b < p
        · simp only [List.filter_cons, h1, h2, decide_true, decide_false, if_true, Bool.false_eq_true, if_false, List.length_cons]; omega
        · simp only [List.filter_cons, h1, h2, decide_false, Bool.false_eq_true, if_false]; omega

theorem later_ne {ps : List Int} {b len : Int} (h : b < len) : laterOf (ps ++ [len]) b ≠ [] := by
  have : len ∈ laterOf (ps ++ [len]) b := later_mem.mpr ⟨by simp, h⟩
  intro e; rw [e] at this; cases this

def LnInv (a : Addr) (rs : List Row) (ps : List Int) (wd len : Int) (tw tl : Tok) (n : Nat) (m : Str → Option Value) (nx : List (Addr × Obj)) : Prop :=
  ∃ (lf lp : Addr) (b : Int) (tb : Tok) (ls : List (Int × Int)) (vs pv : List Value) (nn pn : Nat) (tups : List (Addr × Obj)),
    (∀ p ∈ [((Str.ofString "shaped"), Value.ref a), ((Str.ofString "length"), .int len tl), ((Str.ofString "width"), .int wd tw), ((Str.ofString "places"), .ref lp), ((Str.ofString "found"), .ref lf), ((Str.ofString "begin"), .int b tb)], m p.1 = some p.2) ∧
    nx = (lf, PySem.W.listOf vs.toArray nn) :: (lp, PySem.W.listOf pv.toArray pn) :: tups ∧ (∀ p ∈ tups, p.1 ≠ lf) ∧ lp < lf ∧ IntsAre pv (ps ++ [len]) ∧ pv.length ≤ 61 ∧ Paired (PairIn tups) vs ls ∧ LinesTo rs (ps ++ [len]) wd len b ls ∧ b ≤ len ∧
    n = (laterOf (ps ++ [len]) b).length ∧ vs.length + n ≤ 61

theorem ln_end {h₀ h' : Heap} {L lf lp a D : Addr} {to : Obj} {m' : Str → Option Value} {b e wd len : Int} {nn pn : Nat} {vs pv : List Value} {rs : List Row} {ps : List Int} {ls : List (Int × Int)} {tups : List (Addr × Obj)} {te tw tl : Tok} {s : Shared} {tk : Nat} {Q : Flow → Shared → Prop}
    (F : Fr h₀ L h' m') (N : News h₀ L h' ((D, to) :: (lf, PySem.W.listOf (vs ++ [Value.ref D]).toArray nn) :: (lp, PySem.W.listOf pv.toArray pn) :: tups)) (l1 : lf < D ∧ lp < D ∧ AllLt D tups) (htl : ∀ p ∈ tups, p.1 ≠ lf) (hlt : lp < lf)
    (hip : IntsAre pv (ps ++ [len])) (hpl : pv.length ≤ 61) (hR : Paired (PairIn tups) vs ls) (hln : LinesTo rs (ps ++ [len]) wd len b ls) (hb : b < len) (he : isLineEnd rs (ps ++ [len]) b wd e)
    (hm : ∀ p ∈ [((Str.ofString "shaped"), Value.ref a), ((Str.ofString "length"), .int len tl), ((Str.ofString "width"), .int wd tw), ((Str.ofString "places"), .ref lp), ((Str.ofString "found"), .ref lf), ((Str.ofString "begin"), .int e te)], m' p.1 = some p.2)
    (ho : PairObj to (b, e)) (hvl : vs.length + (laterOf (ps ++ [len]) b).length ≤ 61) (hple : ∀ p ∈ ps, p ≤ len) :
    WhilePost h₀ L (LnInv a rs ps wd len tw tl) (laterOf (ps ++ [len]) b).length s Q .next { s with heap := h', toks := tk } := by
  have hlat := lineEnd_later he
  have hless := later_less hlat
  have hel : e ≤ len := by
    rcases List.mem_append.mp (later_mem.mp hlat).1 with q | q
    · exact hple e q
    · rw [List.mem_singleton] at q; omega
  refine ⟨(laterOf (ps ++ [len]) e).length, h', tk, m', (lf, PySem.W.listOf (vs ++ [Value.ref D]).toArray nn) :: (lp, PySem.W.listOf pv.toArray pn) :: (D, to) :: tups, by omega, rfl, F, fun p hp => N p ?_,
    lf, lp, e, te, ls ++ [(b, e)], vs ++ [Value.ref D], pv, nn, pn, (D, to) :: tups, hm, rfl, ?_, hlt, hip, hpl, ?_, .snoc hln hb he, hel, rfl, ?_⟩
  · simp only [List.mem_cons] at hp ⊢
    rcases hp with h | h | h | h <;> simp [h]
  · simp only [List.forall_mem_cons]
    exact ⟨Nat.ne_of_gt l1.1, htl⟩
  · exact Paired.snoc (Paired.mono (fun _ _ x => x.more fun p hp => List.mem_cons_of_mem _ hp) hR) ⟨D, to, rfl, List.mem_cons_self, ho⟩
  · simp only [List.length_append, List.length_cons, List.length_nil]
    omega

local macro_rules | `(tactic| walk_at "call ref") => `(tactic| (k_here; (with_reducible show wpAny _ _ (call (Value.ref 74) _) _ _ _); refine wpAny_call (line_end_spec (by walk_at "MY amb") (ShapedAt.keeps (by assumption) (Fr.keep (by k_asm))) (led_list (by k_asm) (by k_mem)) (by assumption) (by omega) (by first | assumption | exact later_ne (by assumption)) ?_); (intro h9 tk9 t9 e9 k9 le9; (have N9 := News.grown (by k_asm) k9); (have F9 := Fr.keeps (by k_asm) k9); clear k9; (try dsimp only); (try k_sweep))))

set_option maxHeartbeats 4000000 in
theorem lines_spec {w : World} {A : Around} {s : Shared} {R : Result → Shared → Prop} {a : Addr} {vs : List Value} {rs : List Row} {len wd : Int} {tl tw : Tok}
    (C : Amb w A 5 s.heap) (S : ShapedAt s.heap a vs rs) (hlen : rs.length ≤ 60) (hl0 : 0 < len)
    (h : ∀ h' tk dr D ds ps ls n tups, Kp s.heap h' → s.heap.get? D = none → h'.get? D = some (PySem.W.listOf (List.toArray ds) n) → FreshIn s.heap h' tups → (∀ p ∈ tups, p.1 ≠ D) → Paired (PairIn tups) ds ls → ds.length ≤ 61 → IsBreaks rs len ps → LinesTo rs (ps ++ [len]) wd len len ls → R (.ok (.ret (.ref D))) { s with heap := h', toks := tk, drawn := dr }) :
    codeAny (model PR w) A (.call (.ref 81) ⟨[.ref a, .int len tl, .int wd tw], []⟩) R s := by
  have mk : marker PySem.Challenge.rw_pb0148_01 hd.heap_39 := by w_top off; k_fill; exact trivial
  obtain ⟨KX, ⟨mean, mg, mb, T⟩, hh, hdp, hun⟩ := C
  obtain ⟨hd', dp, fr, gd, un⟩ := A
  obtain rfl : hd' = none := hh
  dsimp only at hdp hun
  refine enter_plain (K := hd.heap_39 w.params) [] (by intro p hp; cases hp) KX T.nolimit (by k_is) (by k_is) (by dsimp only; omega) (BindsTo.of_eq rfl) (locs rfl) (fun L h₁ tk F N hL => ?_) (by decide)
  change Fr s.heap L h₁ _ at F
  change News s.heap L h₁ _ at N
  try dsimp only
  (repeat' (first | (k_unfold; (try dsimp only)) | ((( (fail_if_success (with_reducible show wpAny _ _ (eval (Expr.ListComp _ _ _ _) _) _ _ _)); (fail_if_success (with_reducible show wpAny _ _ (exec (Stmt.Assign _ (Expr.ListComp _ _ _ _) _) _) _ _ _)); (fail_if_success (with_reducible show wpAny _ _ (exec (Stmt.For _ _ _ _ _) _) _ _ _)); (fail_if_success (with_reducible show wpAny _ _ (exec (Stmt.While _ _ _ _) _) _ _ _)); (fail_if_success (with_reducible show wpAny _ _ (pyIter (Value.ref _)) _ _ _)); (fail_if_success (with_reducible show LCt.CompSrcT _ _ _ _ _ _ _ _ _ _ _ _ _ _ _)); (fail_if_success (with_reducible show LCt.CompRestT _ _ _ _ _ _ _ _ _ _ _ _ _ _ _ _ _ _ _ _)); (fail_if_success (with_reducible show LCg.CompSrc _ _ _ _ _ _ _ _ _ _ _ _ _ _)))); first | walk1 | (dsimp only; walk1) | (leave1; walk_say "STEP leave1"; try dsimp only)) | fail "no step"))
  rename IntsAre _ _ => hi9
  rename IsBreaks _ _ _ => hb9
  rename (List.length _ ≤ 60) => hz9
  obtain ⟨ps, hb, hi⟩ : ∃ ps, IsBreaks rs len ps ∧ IntsAre _ ps := ⟨_, hb9, hi9⟩
  clear hb9 hi9
  have hps := hi.length
  have hsub := List.length_filter_le (fun p => decide (0 < p)) (ps ++ [len])
  simp only [List.length_append, List.length_cons, List.length_nil] at hsub
  refine while_loop (LnInv a rs ps wd len tw tl) (laterOf (ps ++ [len]) 0).length (by k_asm) (news_two (by k_asm)) ?_ ?_
  · refine' ⟨_, _, 0, _, [], [], _, _, _, [], ?names, rfl, (fun _ h => nomatch h), ?lt, IntsAre.append hi (.cons _ _ .nil), ?pl, .nil, .nil, by omega, rfl, ?vl⟩
    case names => ((repeat' (first | exact List.forall_mem_nil _ | (refine List.forall_mem_cons.mpr ⟨?_, ?_⟩; k_dflt rfl))))
    case lt => refine ltN ?_; omega
    case pl => simp only [List.length_append, List.length_cons, List.length_nil]; omega
    case vl => simp only [List.length_nil]; unfold laterOf; omega
  · rintro n m₁ nx h9 tk9 ⟨lf, lp, b, tb, ls, vs', pv, nn, pn, tups, hm, rfl, htl, hlt, hip, hpl, hR, hln, hble, rfl, hvl⟩ F₁ N₁
    have F₂ := fr_of' hm F₁
    clear F₁
    replace hlt := ltN hlt
    dsimp only
    (repeat' (first | (k_unfold; (try dsimp only)) | ((( (fail_if_success (with_reducible show wpAny _ _ (eval (Expr.ListComp _ _ _ _) _) _ _ _)); (fail_if_success (with_reducible show wpAny _ _ (exec (Stmt.Assign _ (Expr.ListComp _ _ _ _) _) _) _ _ _)); (fail_if_success (with_reducible show wpAny _ _ (exec (Stmt.For _ _ _ _ _) _) _ _ _)); (fail_if_success (with_reducible show wpAny _ _ (exec (Stmt.While _ _ _ _) _) _ _ _)); (fail_if_success (with_reducible show wpAny _ _ (pyIter (Value.ref _)) _ _ _)); (fail_if_success (with_reducible show LCt.CompSrcT _ _ _ _ _ _ _ _ _ _ _ _ _ _ _)); (fail_if_success (with_reducible show LCt.CompRestT _ _ _ _ _ _ _ _ _ _ _ _ _ _ _ _ _ _ _ _)); (fail_if_success (with_reducible show LCg.CompSrc _ _ _ _ _ _ _ _ _ _ _ _ _ _)))); first | walk1 | (dsimp only; walk1) | (leave1; walk_say "STEP leave1"; try dsimp only)) | fail "no step"))
    · exact ln_end (by assumption) (by assumption) (by assumption) htl hlt hip hpl hR hln (by assumption) (by assumption) (by ((repeat' (first | exact List.forall_mem_nil _ | (refine List.forall_mem_cons.mpr ⟨?_, ?_⟩; k_dflt rfl))))) (by exact ⟨_, _, _, rfl⟩) hvl fun p hp => Int.le_of_lt ((hb.2.2 p).mp hp).2.1
    · dsimp only
      have e1 : b = len := by omega
      subst e1
      exact h _ _ _ lf vs' ps ls nn tups (Fr.keep (by assumption)) (News.fresh (by assumption) List.mem_cons_self) (News.get (by assumption) List.mem_cons_self) (fresh_of (by assumption) fun p hp => List.mem_cons_of_mem _ (List.mem_cons_of_mem _ hp)) htl hR (by omega) hb hln


end

section
section
variable {prog : Program} {w : World} {A : Around} {h₀ : Heap} {L : Addr} {m : Str → Option Value} {env : Env} {elt : PySem.Expr} {x x₂ : Str} {scope : Scope} {cl : List (Str × Addr)} {s : Shared} {S : List (Addr × Obj) → Prop} {Fin : List Value → List (Addr × Obj) → Prop} {news tups : List (Addr × Obj)}
open LCg LCp
theorem comp_paired_P {vs : List Value} {bs : List (Int × Int)} (hp : Paired (PairIn tups) vs bs) (Inv : List (Int × Int) → List Value → List (Addr × Obj) → Prop) (h0 : Inv [] [] news) (hsub : ∀ pre ys news, Inv pre ys news → ∀ p ∈ tups, p ∈ news)
    (turn : ∀ pre b post ys news I oI C oC D m₂ h tk (E' : Value → Shared → Prop) t1 t2, bs = pre ++ b :: post → Inv pre ys news → NsObj oC m₂ → m₂ x = some (.int b.1 t1) → m₂ x₂ = some (.int b.2 t2) → Fr h₀ L h m → News h₀ L h ((I, oI) :: (C, oC) :: (D, lst ys) :: news) → Off3 I C D news → ((@Ne Nat I C) ∧ (@Ne Nat I D) ∧ (@Ne Nat C D)) →
      wpAny (model prog w) A (eval elt (compEnvC scope cl C env)) (CompEnd h₀ L m { s with heap := h, toks := tk } I oI C oC D (lst ys) S (fun y news' => Inv (pre ++ [b]) (ys ++ [y]) news')) E' { s with heap := h, toks := tk })
    (fin : ∀ ys news, Inv bs ys news → Fin ys news) : CompRestP prog w A h₀ L m env elt x x₂ scope cl s S (fun i v => vs.toArray[i]? = some v) Fin vs.toArray.size 0 [] news := by
  rw [List.size_toArray]
  refine over_pairs hp (fun pre (st : List Value × List (Addr × Obj)) => Inv pre st.1 st.2) (fun j i st => CompRestP prog w A h₀ L m env elt x x₂ scope cl s S (fun i v => vs.toArray[i]? = some v) Fin j i st.1 st.2) (fun st q => CompRestP.zero (fin _ _ q)) (fun pre b post v st e hv hF q go => CompRestP.succ fun v' hv' => ?_) ([], news) h0
  obtain rfl : v = v' := Option.some.inj (hv.symm.trans (by simpa using hv'))
  obtain ⟨T, oT, eT, hT, t1, t2, nT, rfl⟩ := hF
  exact ⟨T, _, _, _, nT, eT, hsub _ _ _ q _ hT, rfl, rfl, fun I oI C oC D m₂ h tk E' hC hx hx2 F' N off ne =>
    wpAny_mono (turn pre b post st.1 st.2 I oI C oC D m₂ h tk E' t1 t2 e q hC hx hx2 F' N off ne) (fun y _ r => end_then r fun nw k => go (st.1 ++ [y], nw) k) fun _ _ e => e⟩
end

section
variable {prog : Program} {w : World} {A : Around} {h₀ : Heap} {L ax : Addr} {its : Array Value} {kk : Nat} {m : Str → Option Value} {env : Env} {elt : PySem.Expr} {x x₂ : Str} {scope : Scope} {cl : List (Str × Addr)} {s : Shared} {Fin : List Value → List (Addr × Obj) → Prop} {news tups : List (Addr × Obj)}
open LCg LCp
/-- a comprehension over pairs whose element makes objects -/
theorem comp_objs {vs : List Value} {bs : List (Int × Int)} (hp : Paired (PairIn tups) vs bs) (hsub : ∀ p ∈ tups, p ∈ news) (hax : (ax, PySem.W.listOf its kk) ∈ news) (G : List (Addr × Obj) → Value → (Int × Int) → Prop)
    (hG : ∀ l l' v b, G l v b → (∀ p ∈ l, p ∈ l') → G l' v b)
    (turn : ∀ b obs I oI C oC D ys m₂ h tk (E' : Value → Shared → Prop) t1 t2, b ∈ bs → NsObj oC m₂ → m₂ x = some (.int b.1 t1) → m₂ x₂ = some (.int b.2 t2) → Fr h₀ L h m → News h₀ L h ((I, oI) :: (C, oC) :: (D, lst ys) :: (news ++ obs)) →
      wpAny (model prog w) A (eval elt (compEnvC scope cl C env)) (fun y s' => ∃ h' tk' more, s' = { s with heap := h', toks := tk' } ∧ Kp h h' ∧ FreshIn h h' more ∧ G more y b) E' { s with heap := h, toks := tk })
    (fin : ∀ ys obs, Paired (G obs) ys bs → Fin ys (news ++ obs)) : CompRestP prog w A h₀ L m env elt x x₂ scope cl s (SrcAt h₀ ax its) (fun i v => vs.toArray[i]? = some v) Fin vs.toArray.size 0 [] news := by
  refine comp_paired_P hp (fun pre ys news' => ∃ obs, news' = news ++ obs ∧ Paired (G obs) ys pre) ⟨[], by simp, .nil⟩ ?_ ?_ ?_
  · rintro pre ys news' ⟨obs, rfl, _⟩ p hp
    exact List.mem_append_left _ (hsub p hp)
  · rintro pre b post ys news' I oI C oC D m₂ h tk E' t1 t2 hbs ⟨obs, rfl, hys⟩ hC hx hx2 F N off ne
    refine wpAny_mono (turn b obs I oI C oC D ys m₂ h tk E' t1 t2 (by rw [hbs]; simp) hC hx hx2 F N) (fun y s' hy => ?_) fun _ _ e => e
    obtain ⟨h', tk', more, rfl, k, f, g⟩ := hy
    have N' := news_fresh F N k f
    refine CompEnd.intro (F.keeps k) N' (news ++ (obs ++ more)) (fun p hp => ?_) (Off3.of fun p hp => ?_) (.inr ⟨_, List.mem_append_left _ hax, rfl, _, rfl⟩) ⟨obs ++ more, rfl, Paired.snoc (Paired.mono (fun _ _ q => hG _ _ _ _ q fun p hp => List.mem_append_left _ hp) hys) (hG _ _ _ _ g fun p hp => List.mem_append_right _ hp)⟩
    · simp only [List.mem_cons, List.mem_append] at hp ⊢
      rcases hp with h | h | h | h | h | h <;> simp [h]
    · rw [← List.append_assoc] at hp
      rcases List.mem_append.mp hp with hp | hp
      · exact off.mem p hp
      · have e := fun q hq => fresh_lt N (f p hp).1 q hq
        exact ⟨fun q => e (I, oI) (by simp) q.symm, fun q => e (C, oC) (by simp) q.symm, fun q => e (D, lst ys) (by simp) q.symm⟩
  · rintro ys news' ⟨obs, rfl, hys⟩
    exact fin ys obs hys
end

local macro_rules | `(tactic| walk_at "call ref") => `(tactic| (k_here; (with_reducible show wpAny _ _ (call (Value.ref 81) _) _ _ _); refine wpAny_call (lines_spec (by walk_at "MY amb") (ShapedAt.keeps (by assumption) (Fr.keep (by k_asm))) (by assumption) (by assumption) ?_); (intro h9 tk9 dr9 D9 ds9 ps9 ls9 n9 tups9 k9 f9 g9 q9 u9 r9 z9 b9 l9; (have N9 := news_fresh (by k_asm) (by k_asm) k9 (fresh_cons f9 g9 q9)); (try simp only [List.cons_append, List.nil_append] at N9); (have F9 := Fr.keeps (by k_asm) k9); clear k9 f9 g9; (try dsimp only); (try k_sweep))))

set_option maxHeartbeats 4000000 in
theorem slines_spec {w : World} {A : Around} {s : Shared} {R : Result → Shared → Prop} {a : Addr} {vs : List Value} {rs : List Row} {len wd : Int} {tl tw : Tok}
    (C : Amb w A 6 s.heap) (S : ShapedAt s.heap a vs rs) (hlen : rs.length ≤ 60) (hl0 : 0 < len)
    (h : ∀ h' tk dr D ds ps ls n obs, Kp s.heap h' → FreshIn s.heap h' ((D, PySem.W.listOf (List.toArray ds) n) :: obs) → IsBreaks rs len ps → LinesTo rs (ps ++ [len]) wd len len ls → Paired (fun v (p : Int × Int) => ∃ a' vs', v = .ref a' ∧ ShapedIn obs a' vs' (cutOf rs p.1 p.2)) ds ls → R (.ok (.ret (.ref D))) { s with heap := h', toks := tk, drawn := dr }) :
    codeAny (model PR w) A (.call (.ref 93) ⟨[.ref a, .int len tl, .int wd tw], []⟩) R s := by
  have mk : marker PySem.Challenge.rw_pb0148_01 hd.heap_39 := by w_top off; k_fill; exact trivial
  obtain ⟨KX, ⟨mean, mg, mb, T⟩, hh, hdp, hun⟩ := C
  obtain ⟨hd', dp, fr, gd, un⟩ := A
  obtain rfl : hd' = none := hh
  dsimp only at hdp hun
  refine enter_cells (K := hd.heap_39 w.params) [] (by intro p hp; cases hp) KX T.nolimit (by k_is) (by k_is) (by dsimp only; omega) (BindsTo.of_eq rfl) (by rfl) (by decide +kernel) (fun L h₁ tk cells F N Y hL0 hL => ?_)
  change Fr s.heap L h₁ _ at F
  change News s.heap L h₁ _ at N
  k_cells Y
  simp only [List.cons_append, List.nil_append] at N
  clear hL0
  try dsimp only
  (repeat' (first | (k_unfold; (try dsimp only)) | ((( (fail_if_success (with_reducible show wpAny _ _ (eval (Expr.ListComp _ _ _ _) _) _ _ _)); (fail_if_success (with_reducible show wpAny _ _ (exec (Stmt.Assign _ (Expr.ListComp _ _ _ _) _) _) _ _ _)); (fail_if_success (with_reducible show wpAny _ _ (exec (Stmt.For _ _ _ _ _) _) _ _ _)); (fail_if_success (with_reducible show wpAny _ _ (exec (Stmt.While _ _ _ _) _) _ _ _)); (fail_if_success (with_reducible show wpAny _ _ (pyIter (Value.ref _)) _ _ _)); (fail_if_success (with_reducible show LCt.CompSrcT _ _ _ _ _ _ _ _ _ _ _ _ _ _ _)); (fail_if_success (with_reducible show LCt.CompRestT _ _ _ _ _ _ _ _ _ _ _ _ _ _ _ _ _ _ _ _)); (fail_if_success (with_reducible show LCg.CompSrc _ _ _ _ _ _ _ _ _ _ _ _ _ _)))); first | walk1 | (dsimp only; walk1) | (leave1; walk_say "STEP leave1"; try dsimp only)) | fail "no step"))
  k_dflt (refine LCp.ListComp_P (F₀ := by k_asm) (by with_unfolding_all rfl) (by decide) (by rfl) (by decide) (by rfl) (by rfl) (by decide) ?_)
  try dsimp only
  (repeat' (first | (k_unfold; (try dsimp only)) | ((( (fail_if_success (with_reducible show wpAny _ _ (eval (Expr.ListComp _ _ _ _) _) _ _ _)); (fail_if_success (with_reducible show wpAny _ _ (exec (Stmt.Assign _ (Expr.ListComp _ _ _ _) _) _) _ _ _)); (fail_if_success (with_reducible show wpAny _ _ (exec (Stmt.For _ _ _ _ _) _) _ _ _)); (fail_if_success (with_reducible show wpAny _ _ (exec (Stmt.While _ _ _ _) _) _ _ _)); (fail_if_success (with_reducible show wpAny _ _ (pyIter (Value.ref _)) _ _ _)); (fail_if_success (with_reducible show LCt.CompSrcT _ _ _ _ _ _ _ _ _ _ _ _ _ _ _)); (fail_if_success (with_reducible show LCt.CompRestT _ _ _ _ _ _ _ _ _ _ _ _ _ _ _ _ _ _ _ _)); (fail_if_success (with_reducible show LCg.CompSrc _ _ _ _ _ _ _ _ _ _ _ _ _ _)))); first | walk1 | (dsimp only; walk1) | (leave1; walk_say "STEP leave1"; try dsimp only)) | fail "no step"))
  rename IsBreaks _ _ _ => hb9
  rename (List.length _ ≤ 61) => hz9
  rename FreshIn _ _ _ => hq9
  rename Paired (PairIn _) _ _ => hr9
  rename LinesTo _ _ _ _ _ _ => hl9
  k_dflt (refine LCp.SrcLP.ledger (by rfl) (by k_asm) (by k_asm) (by k_mem) (by rw [List.size_toArray, PySem.sizeLine_eq]; omega) ?_)
  intro g
  try dsimp only
  refine comp_objs hr9 (fun p hp => List.mem_cons_of_mem _ (List.mem_cons_of_mem _ hp)) (by k_mem) (fun l v p => ∃ a' vs', v = .ref a' ∧ ShapedIn l a' vs' (cutOf rs p.1 p.2)) ?_ ?_ ?_
  · rintro l l' v b ⟨a', vs', e, q⟩ k
    exact ⟨a', vs', e, q.more k⟩
  · rintro ⟨b1, b2⟩ obs I oI C oC D ys m₂ h9 tk9 E' t1 t2 hbs hC hx hx2 F' N'
    dsimp only at hx hx2 ⊢
    k_fold
    (repeat' (first | (k_unfold; (try dsimp only)) | ((( (fail_if_success (with_reducible show wpAny _ _ (eval (Expr.ListComp _ _ _ _) _) _ _ _)); (fail_if_success (with_reducible show wpAny _ _ (exec (Stmt.Assign _ (Expr.ListComp _ _ _ _) _) _) _ _ _)); (fail_if_success (with_reducible show wpAny _ _ (exec (Stmt.For _ _ _ _ _) _) _ _ _)); (fail_if_success (with_reducible show wpAny _ _ (exec (Stmt.While _ _ _ _) _) _ _ _)); (fail_if_success (with_reducible show wpAny _ _ (pyIter (Value.ref _)) _ _ _)); (fail_if_success (with_reducible show LCt.CompSrcT _ _ _ _ _ _ _ _ _ _ _ _ _ _ _)); (fail_if_success (with_reducible show LCt.CompRestT _ _ _ _ _ _ _ _ _ _ _ _ _ _ _ _ _ _ _ _)); (fail_if_success (with_reducible show LCg.CompSrc _ _ _ _ _ _ _ _ _ _ _ _ _ _)))); first | walk1 | (dsimp only; walk1) | (leave1; walk_say "STEP leave1"; try dsimp only)) | fail "no step"))
    refine wpAny_call (between_spec (by walk_at "MY amb") (ShapedAt.keeps S (Fr.keep (by k_asm))) ?_)
    intro h' tk' a' vs' more k f g
    exact ⟨h', tk', more, rfl, k, f, a', vs', rfl, g⟩
  · intro ys obs hys
    (repeat' (first | (k_unfold; (try dsimp only)) | ((( (fail_if_success (with_reducible show wpAny _ _ (eval (Expr.ListComp _ _ _ _) _) _ _ _)); (fail_if_success (with_reducible show wpAny _ _ (exec (Stmt.Assign _ (Expr.ListComp _ _ _ _) _) _) _ _ _)); (fail_if_success (with_reducible show wpAny _ _ (exec (Stmt.For _ _ _ _ _) _) _ _ _)); (fail_if_success (with_reducible show wpAny _ _ (exec (Stmt.While _ _ _ _) _) _ _ _)); (fail_if_success (with_reducible show wpAny _ _ (pyIter (Value.ref _)) _ _ _)); (fail_if_success (with_reducible show LCt.CompSrcT _ _ _ _ _ _ _ _ _ _ _ _ _ _ _)); (fail_if_success (with_reducible show LCt.CompRestT _ _ _ _ _ _ _ _ _ _ _ _ _ _ _ _ _ _ _ _)); (fail_if_success (with_reducible show LCg.CompSrc _ _ _ _ _ _ _ _ _ _ _ _ _ _)))); first | walk1 | (dsimp only; walk1) | (leave1; walk_say "STEP leave1"; try dsimp only)) | fail "no step"))
    exact h _ _ _ _ ys _ _ ys.length obs (Fr.keep (by assumption)) (fresh_of (by assumption) fun p hp => by
      simp only [List.mem_cons, List.mem_append] at hp ⊢
      rcases hp with h | h <;> simp [h]) hb9 hl9 hys


end

section
local macro_rules | `(tactic| walk_at "PAD 0") => `(tactic| skip)
local macro_rules | `(tactic| walk_at "PAD 1") => `(tactic| skip)
/-- a piece from place j to place i that a line may be -/
def okPiece (rs : List Row) (ps : List Int) (w : Int) (j i : Nat) : Prop := i = j + 1 ∨ advOf rs (ps.getD j 0) (ps.getD i 0) ≤ w
def isBest (rs : List Row) (ps : List Int) (w : Int) (f : Nat → Int) (i : Nat) : Prop :=
  (∃ j, j < i ∧ okPiece rs ps w j i ∧ f i = f j + 1) ∧ ∀ j, j < i → okPiece rs ps w j i → f i ≤ f j + 1
def IsFewest (rs : List Row) (ps : List Int) (w n : Int) : Prop :=
  ∃ f : Nat → Int, f 0 = 0 ∧ (∀ i, 1 ≤ i → i < ps.length → isBest rs ps w f i) ∧ n = f (ps.length - 1)

theorem getD_of {ps : List Int} {j : Nat} {n : Int} (h : ps[j]? = some n) : ps.getD j 0 = n := by simp [List.getD, h]
/-- what the dict holds: the fewest up to the place j -/
def Holds (ps : List Int) (f : Nat → Int) (i : Nat) (kvs : List (Int × Value)) : Prop := ∀ j, j ≤ i → ∃ t, valueAt kvs (ps.getD j 0) = some (.int (f j) t)
def BestInv (rs : List Row) (ps : List Int) (w : World) (a lp : Addr) (wd : Int) (tw : Tok) (i : Nat) (m : Str → Option Value) (nx : List (Addr × Obj)) : Prop :=
  ∃ (d : Addr) (od : Obj) (kvs : List (Int × Value)) (f : Nat → Int),
    (∀ p ∈ [((Str.ofString "shaped"), Value.ref a), ((Str.ofString "places"), .ref lp), ((Str.ofString "width"), .int wd tw), ((Str.ofString "best"), .ref d)], m p.1 = some p.2) ∧ nx = [(d, od)] ∧ od.IsDictOf (PySem.intKind PR w) kvs ∧ kvs.length ≤ i + 1 ∧ Holds ps f i kvs ∧ f 0 = 0 ∧ ∀ j, 1 ≤ j → j ≤ i → isBest rs ps wd f j
def FoundInv (rs : List Row) (ps : List Int) (f : Nat → Int) (a lp d I : Addr) (od oI : Obj) (i : Nat) (tat : Tok) (wd : Int) (tw : Tok) (j : Nat) (m : Str → Option Value) (nx : List (Addr × Obj)) : Prop :=
  ∃ (lf : Addr) (vs : List Value) (xs : List Int) (nn : Nat),
    (∀ p ∈ [((Str.ofString "shaped"), Value.ref a), ((Str.ofString "places"), .ref lp), ((Str.ofString "width"), .int wd tw), ((Str.ofString "best"), .ref d), ((Str.ofString "at"), .int (1 + (i : Int)) tat), ((Str.ofString "found"), .ref lf)], m p.1 = some p.2) ∧ nx = [(lf, PySem.W.listOf vs.toArray nn), (I, oI), (d, od)] ∧ I < lf ∧ d < lf ∧ IntsAre vs xs ∧ xs.length ≤ j ∧
    (∀ x ∈ xs, ∃ k, k < i + 1 ∧ okPiece rs ps wd k (i + 1) ∧ x = f k + 1) ∧ ∀ k, k < j → okPiece rs ps wd k (i + 1) → f k + 1 ∈ xs

theorem news_three {h₀ h : Heap} {L : Addr} {x y z : Addr × Obj} {r : List (Addr × Obj)} {q : Addr × Obj} (N : News h₀ L h (q :: x :: y :: z :: r)) : News h₀ L h [x, y, z] := fun p hp => N p (by
  simp only [List.mem_cons, List.not_mem_nil, or_false] at hp
  rcases hp with rfl | rfl | rfl <;> simp)

local macro_rules | `(tactic| walk_at "call ref") => `(tactic| (k_here; (with_reducible show wpAny _ _ (call (Value.ref 69) _) _ _ _); refine wpAny_call (adv_spec (by walk_at "MY amb") (ShapedAt.keeps (by assumption) (Fr.keep (by k_asm))) ?_); ((intro h9 tk9 t9 k9; (have F9 := Fr.keeps (by k_asm) k9); (have N9 := News.grown (by k_asm) k9); clear k9; (try dsimp only); (try k_sweep)))))
theorem found_no {h₀ h' : Heap} {L I₂ lf a lp d I : Addr} {oI₂ od oI : Obj} {m' : Str → Option Value} {rs : List Row} {ps : List Int} {f : Nat → Int} {i j nn : Nat} {t tw : Tok} {wd : Int} {vs : List Value} {xs : List Int} {s : Shared} {tk : Nat} {Q : Flow → Shared → Prop}
    (F : Fr h₀ L h' m') (N : News h₀ L h' ((I₂, oI₂) :: (lf, PySem.W.listOf vs.toArray nn) :: (I, oI) :: (d, od) :: [])) (p1 : lf ≠ I₂) (p2 : I ≠ I₂) (p3 : d ≠ I₂) (q1 : I < lf) (q2 : d < lf)
    (hm : ∀ p ∈ [((Str.ofString "shaped"), Value.ref a), ((Str.ofString "places"), .ref lp), ((Str.ofString "width"), .int wd tw), ((Str.ofString "best"), .ref d), ((Str.ofString "at"), .int (1 + (i : Int)) t), ((Str.ofString "found"), .ref lf)], m' p.1 = some p.2)
    (hxs : IntsAre vs xs) (hxl : xs.length ≤ j) (hx1 : ∀ x ∈ xs, ∃ k, k < i + 1 ∧ okPiece rs ps wd k (i + 1) ∧ x = f k + 1) (hx2 : ∀ k, k < j → okPiece rs ps wd k (i + 1) → f k + 1 ∈ xs) (hno : ¬ okPiece rs ps wd j (i + 1)) :
    ForPost h₀ L I₂ oI₂ (FoundInv rs ps f a lp d I od oI i t wd tw (j + 1)) s Q .next { s with heap := h', toks := tk } := by
  refine ⟨h', tk, m', _, rfl, F, N, by simp [p1, p2, p3], lf, vs, xs, nn, hm, rfl, q1, q2, hxs, by omega, hx1, fun k hk ho => ?_⟩
  by_cases e : k = j
  · subst e; exact absurd ho hno
  · exact hx2 k (by omega) ho
theorem found_yes {h₀ h' : Heap} {L I₂ lf a lp d I : Addr} {oI₂ od oI : Obj} {m' : Str → Option Value} {rs : List Row} {ps : List Int} {f : Nat → Int} {i j k' nn : Nat} {t t3 tw : Tok} {wd : Int} {vs : List Value} {xs : List Int} {s : Shared} {tk : Nat} {Q : Flow → Shared → Prop}
    (F : Fr h₀ L h' m') (N : News h₀ L h' ((I₂, oI₂) :: (lf, PySem.W.listOf (vs.toArray.push (Value.int (f k' + 1) t3)) nn) :: (I, oI) :: (d, od) :: [])) (p1 : lf ≠ I₂) (p2 : I ≠ I₂) (p3 : d ≠ I₂) (q1 : I < lf) (q2 : d < lf)
    (hm : ∀ p ∈ [((Str.ofString "shaped"), Value.ref a), ((Str.ofString "places"), .ref lp), ((Str.ofString "width"), .int wd tw), ((Str.ofString "best"), .ref d), ((Str.ofString "at"), .int (1 + (i : Int)) t), ((Str.ofString "found"), .ref lf)], m' p.1 = some p.2)
    (hxs : IntsAre vs xs) (hxl : xs.length ≤ j) (hx1 : ∀ x ∈ xs, ∃ k, k < i + 1 ∧ okPiece rs ps wd k (i + 1) ∧ x = f k + 1) (hx2 : ∀ k, k < j → okPiece rs ps wd k (i + 1) → f k + 1 ∈ xs) (hk' : k' = j) (hj : j < i + 1) (ho : okPiece rs ps wd j (i + 1)) :
    ForPost h₀ L I₂ oI₂ (FoundInv rs ps f a lp d I od oI i t wd tw (j + 1)) s Q .next { s with heap := h', toks := tk } := by
  subst hk'
  rw [List.push_toArray] at N
  refine ⟨h', tk, m', _, rfl, F, N, by simp [p1, p2, p3], lf, _, xs ++ [f k' + 1], nn, hm, rfl, q1, q2, IntsAre.append hxs (.cons _ _ .nil), by simpa using hxl, fun x hx => ?_, fun k hk hok => ?_⟩
  · rcases List.mem_append.mp hx with hx | hx
    · exact hx1 x hx
    · rw [List.mem_singleton] at hx
      exact ⟨k', hj, ho, hx⟩
  · by_cases e : k = k'
    · subst e; simp
    · exact List.mem_append_left _ (hx2 k (by omega) hok)
theorem best_congr {rs : List Row} {ps : List Int} {wd : Int} {f g : Nat → Int} {i : Nat} (e : ∀ k, k ≤ i → f k = g k) (h : isBest rs ps wd f i) : isBest rs ps wd g i := by
  obtain ⟨⟨j, h1, h2, h3⟩, h4⟩ := h
  refine ⟨⟨j, h1, h2, ?_⟩, fun j hj ho => ?_⟩
  · rw [← e i (Nat.le_refl _), ← e j (by omega)]; exact h3
  · rw [← e i (Nat.le_refl _), ← e j (by omega)]; exact h4 j hj ho
theorem nodup_getD {ps : List Int} (h : ps.Pairwise (· < ·)) {i j : Nat} (hi : i < ps.length) (hj : j < ps.length) (e : ps.getD i 0 = ps.getD j 0) : i = j := by
  simp only [List.getD_eq_getElem?_getD, List.getElem?_eq_getElem hi, List.getElem?_eq_getElem hj, Option.getD_some] at e
  rw [List.pairwise_iff_getElem] at h
  rcases Nat.lt_trichotomy i j with q | q | q
  · have := h i j hi hj q; omega
  · exact q
  · have := h j i hj hi q; omega
theorem best_end {h₀ h' : Heap} {L lf a lp d I : Addr} {w : World} {olf od oI : Obj} {m' : Str → Option Value} {rs : List Row} {ps : List Int} {f : Nat → Int} {i k' : Nat} {t tw : Tok} {wd M : Int} {kvs : List (Int × Value)} {xs : List Int} {s : Shared} {tk : Nat} {Q : Flow → Shared → Prop}
    (F : Fr h₀ L h' m') (N : News h₀ L h' ((lf, olf) :: (I, oI) :: (d, od) :: [])) (o1 : d ≠ I)
    (hm : ∀ p ∈ [((Str.ofString "shaped"), Value.ref a), ((Str.ofString "places"), .ref lp), ((Str.ofString "width"), .int wd tw), ((Str.ofString "best"), .ref d)], m' p.1 = some p.2)
    (hd : od.IsDictOf (PySem.intKind PR w) (stored kvs (ps.getD k' 0) (.int M t))) (hkl : kvs.length ≤ i + 1) (hold : Holds ps f i kvs) (hf0 : f 0 = 0) (hbest : ∀ j, 1 ≤ j → j ≤ i → isBest rs ps wd f j) (hM : M ∈ xs) (hmin : ∀ a, a ∈ xs → M ≤ a)
    (hx1 : ∀ x ∈ xs, ∃ k, k < i + 1 ∧ okPiece rs ps wd k (i + 1) ∧ x = f k + 1) (hx2 : ∀ k, k < i + 1 → okPiece rs ps wd k (i + 1) → f k + 1 ∈ xs) (hk' : k' = i + 1) (hin : i + 1 < ps.length) (hnd : ps.Pairwise (· < ·)) :
    ForPost h₀ L I oI (BestInv rs ps w a lp wd tw (i + 1)) s Q .next { s with heap := h', toks := tk } := by
  subst hk'
  have hg : ∀ k, k ≤ i → (fun j => if j = i + 1 then M else f j) k = f k := fun k hk => if_neg (by omega)
  refine ⟨h', tk, m', [(d, od)], rfl, F, fun p hp => N p ?_, by simp [o1], d, od, _, fun j => if j = i + 1 then M else f j, hm, rfl, hd, ?_, fun j hj => ?_, ?_, fun j h1 h2 => ?_⟩
  · simp only [List.mem_cons, List.not_mem_nil, or_false] at hp ⊢
    rcases hp with h | h <;> simp [h]
  · have := stored_length_le kvs (ps.getD (i + 1) 0) (.int M t)
    omega
  · dsimp only
    rw [valueAt_stored]
    by_cases e : j = i + 1
    · subst e
      rw [if_pos rfl, if_pos rfl]
      exact ⟨_, rfl⟩
    · rw [if_neg e, if_neg fun q => e (nodup_getD hnd (by omega) hin q)]
      exact hold j (by omega)
  · show (if 0 = i + 1 then M else f 0) = 0
    rw [if_neg (by omega)]; exact hf0
  · by_cases e : j = i + 1
    · subst e
      obtain ⟨k, h3, h4, h5⟩ := hx1 M hM
      refine ⟨⟨k, h3, h4, ?_⟩, fun k hk ho => ?_⟩
      · rw [hg k (by omega)]; dsimp only; rw [if_pos rfl]; exact h5
      · rw [hg k (by omega)]; dsimp only; rw [if_pos rfl]; exact hmin _ (hx2 k hk ho)
    · exact best_congr (fun k hk => (hg k (by omega)).symm) (hbest j h1 (by omega))
theorem best_read {prog : Program} {w : World} {A : Around} {E : Value → Shared → Prop} {s : Shared} {h₀ : Heap} {L d : Addr} {news : List (Addr × Obj)} {od : Obj} {kvs : List (Int × Value)} {ps : List Int} {f : Nat → Int} {i k : Nat} {u : Tok} {value slice : PySem.Expr} {Q : Value → Shared → Prop}
    (N : News h₀ L s.heap news) (hp : (d, od) ∈ news) (hd : od.IsDictOf (PySem.intKind prog w) kvs) (hold : Holds ps f i kvs) (hk : k ≤ i) (h : ∀ t, Q (.int (f k) t) { s with toks := s.toks + 1 })
    (hs : subscripted slice false (.ref d) (.int (ps.getD k 0) u) = operate [.ref d, .int (ps.getD k 0) u] (getItem (.ref d) (.int (ps.getD k 0) u)) := by with_unfolding_all rfl) (hg : ∀ r, letTemporaryGo value (.ref d) r = pure () := by intro _; with_unfolding_all rfl) :
    wpAny (model prog w) A (subscriptTail value slice (.ref d) (.int (ps.getD k 0) u)) Q E s := by
  obtain ⟨t, e⟩ := hold k hk
  exact kda_item N hp hd (intKind_is _ _ _ _) e (h t) hs hg
local macro_rules | `(tactic| walk_at "subscriptTail") => `(tactic| (k_here; (with_reducible show wpAny _ _ (subscriptTail _ _ (Value.ref _) (Value.int (List.getD _ _ _) _)) _ _ _); (with_unfolding_all refine' best_read ?k1 ?k2 ?k3 ?k4 ?k5 ?_ ?k6 ?k7; (case k1 => k_asm); (case k2 => k_mem); (case k3 => assumption); (case k4 => assumption); (case k5 => omega); (case k6 => with_unfolding_all rfl); (case k7 => (intro _; with_unfolding_all rfl))); intro t'))
local macro_rules | `(tactic| walk_at "call builtin:min") => `(tactic| (k_here; (with_reducible show wpAny _ _ (call (Value.builtin "min") [Value.ref _]) _ _ _); (with_unfolding_all refine' kso_min ?k1 ?k2 ?k3 ?k4 ?k5 ?k6 ?_; (case k1 => k_asm); (case k2 => k_asm); (case k3 => exact led_list (by k_asm) (by k_mem)); (case k4 => assumption); (case k5 => assumption); (case k6 => rfl); k_whole); intro h' M' t' k' F' N' a' b'; (try k_sweep)))
local macro_rules | `(tactic| walk_at "setItem ref int") => `(tactic| (k_here; k_dflt (refine' kda_set (knd := PySem.intKind _ _) ?F ?N ?U ?d (intKind_is _ _ _ _) ?z ?_; (case F => k_asm); (case N => k_asm); (case U => k_updF); (case d => assumption); (case z => rw [PySem.sizeLine_eq]; omega)); intro h' o' F' N' hd'; (try dsimp only at N')))
local macro_rules | `(tactic| walk_at "eval Dict cons cons") => `(tactic| (k_here; (refine' kdn_eval (knd := PySem.intKind _ _) ?F ?N ?b ?a ?l ?e ?n ?_; (case F => k_asm); (case N => k_asm); (case b => assumption); (case a => rfl); (case l => rfl); (case e => exact List.cons_ne_nil _ _); (case n => exact Nat.le_of_ble_eq_true rfl)); intro d' h' o' F' N' l1 lo' hd'; (try k_lt l1)))

set_option maxHeartbeats 4000000 in
theorem fewest_spec {w : World} {A : Around} {s : Shared} {R : Result → Shared → Prop} {a lp : Addr} {vs pv : List Value} {rs : List Row} {ps : List Int} {wd : Int} {tw : Tok}
    (C : Amb w A 3 s.heap) (S : ShapedAt s.heap a vs rs) (hl : s.heap.IsList lp pv.toArray) (hi : IntsAre pv ps) (h2 : 2 ≤ ps.length) (hlen : ps.length ≤ 62) (hnd : ps.Pairwise (· < ·))
    (h : ∀ h' tk t n, Kp s.heap h' → IsFewest rs ps wd n → R (.ok (.ret (.int n t))) { s with heap := h', toks := tk }) :
    codeAny (model PR w) A (.call (.ref 119) ⟨[.ref a, .ref lp, .int wd tw], []⟩) R s := by
  have mk : marker PySem.Challenge.rw_pb0148_01 hd.heap_39 := by w_top off; k_fill; exact trivial
  obtain ⟨KX, ⟨mean, mg, mb, T⟩, hh, hdp, hun⟩ := C
  obtain ⟨hd', dp, fr, gd, un⟩ := A
  obtain rfl : hd' = none := hh
  dsimp only at hdp hun
  have hnl := T.nolimit
  have hpl := hi.length
  refine enter_plain (K := hd.heap_39 w.params) [] (by intro p hp; cases hp) KX T.nolimit (by k_is) (by k_is) (by dsimp only; omega) (BindsTo.of_eq rfl) (locs rfl) (fun L h₁ tk F N hL => ?_) (by decide)
  change Fr s.heap L h₁ _ at F
  change News s.heap L h₁ _ at N
  try dsimp only
  (repeat' (first | (k_unfold; (try dsimp only)) | ((( (fail_if_success (with_reducible show wpAny _ _ (eval (Expr.ListComp _ _ _ _) _) _ _ _)); (fail_if_success (with_reducible show wpAny _ _ (exec (Stmt.Assign _ (Expr.ListComp _ _ _ _) _) _) _ _ _)); (fail_if_success (with_reducible show wpAny _ _ (exec (Stmt.For _ _ _ _ _) _) _ _ _)); (fail_if_success (with_reducible show wpAny _ _ (exec (Stmt.While _ _ _ _) _) _ _ _)); (fail_if_success (with_reducible show wpAny _ _ (pyIter (Value.ref _)) _ _ _)); (fail_if_success (with_reducible show LCt.CompSrcT _ _ _ _ _ _ _ _ _ _ _ _ _ _ _)); (fail_if_success (with_reducible show LCt.CompRestT _ _ _ _ _ _ _ _ _ _ _ _ _ _ _ _ _ _ _ _)); (fail_if_success (with_reducible show LCg.CompSrc _ _ _ _ _ _ _ _ _ _ _ _ _ _)))); first | walk1 | (dsimp only; walk1) | (leave1; walk_say "STEP leave1"; try dsimp only)) | fail "no step"))
  refine wpAny_For ?_ (by intro _; rfl)
  (repeat' (first | (k_unfold; (try dsimp only)) | ((( (fail_if_success (with_reducible show wpAny _ _ (eval (Expr.ListComp _ _ _ _) _) _ _ _)); (fail_if_success (with_reducible show wpAny _ _ (exec (Stmt.Assign _ (Expr.ListComp _ _ _ _) _) _) _ _ _)); (fail_if_success (with_reducible show wpAny _ _ (exec (Stmt.For _ _ _ _ _) _) _ _ _)); (fail_if_success (with_reducible show wpAny _ _ (exec (Stmt.While _ _ _ _) _) _ _ _)); (fail_if_success (with_reducible show wpAny _ _ (pyIter (Value.ref _)) _ _ _)); (fail_if_success (with_reducible show LCt.CompSrcT _ _ _ _ _ _ _ _ _ _ _ _ _ _ _)); (fail_if_success (with_reducible show LCt.CompRestT _ _ _ _ _ _ _ _ _ _ _ _ _ _ _ _ _ _ _ _)); (fail_if_success (with_reducible show LCg.CompSrc _ _ _ _ _ _ _ _ _ _ _ _ _ _)))); first | walk1 | (dsimp only; walk1) | (leave1; walk_say "STEP leave1"; try dsimp only)) | fail "no step"))
  rename IsRange _ _ _ _ _ _ _ _ => hr
  refine for_range (n := _) (BestInv rs ps w a lp wd tw) rfl hr (small_one (by decide) (by decide) (by omega) (by omega)) (rangeSize_nat _ _) (by rfl) (by rfl) (by k_asm) (cb_drop (news := [(_, _)]) (by k_asm) (by ((repeat' (first | exact List.forall_mem_nil _ | (refine List.forall_mem_cons.mpr ⟨by k_mem, ?_⟩)))))) ?_ ?_ ?_
  · refine' ⟨_, _, _, fun _ => 0, ?names, rfl, by assumption, by simp [intKeyPairs], ?hold, rfl, fun j h1 h2 => absurd h1 (by omega)⟩
    case names => ((repeat' (first | exact List.forall_mem_nil _ | (refine List.forall_mem_cons.mpr ⟨?_, ?_⟩; k_dflt rfl))))
    case hold =>
      intro j hj
      obtain rfl : j = 0 := by omega
      exact ⟨_, by simp [valueAt, intKeyPairs]; rfl⟩
  · rintro i t m₁ nx h tk I oI hin ⟨d, od, kvs, f, hm, rfl, hd, hkl, hold, hf0, hbest⟩ F₁ N₁ hoff
    have F₂ := fr_of hm F₁
    clear F₁
    simp only [List.forall_mem_cons] at hoff
    obtain ⟨o1, _⟩ := hoff
    replace o1 : @Ne Nat d I := o1
    have hin' : i + 1 < ps.length := by omega
    show wpAny _ _ _ _ _ _
    k_fold
    (repeat' (first | (k_unfold; (try dsimp only)) | ((( (fail_if_success (with_reducible show wpAny _ _ (eval (Expr.ListComp _ _ _ _) _) _ _ _)); (fail_if_success (with_reducible show wpAny _ _ (exec (Stmt.Assign _ (Expr.ListComp _ _ _ _) _) _) _ _ _)); (fail_if_success (with_reducible show wpAny _ _ (exec (Stmt.For _ _ _ _ _) _) _ _ _)); (fail_if_success (with_reducible show wpAny _ _ (exec (Stmt.While _ _ _ _) _) _ _ _)); (fail_if_success (with_reducible show wpAny _ _ (pyIter (Value.ref _)) _ _ _)); (fail_if_success (with_reducible show LCt.CompSrcT _ _ _ _ _ _ _ _ _ _ _ _ _ _ _)); (fail_if_success (with_reducible show LCt.CompRestT _ _ _ _ _ _ _ _ _ _ _ _ _ _ _ _ _ _ _ _)); (fail_if_success (with_reducible show LCg.CompSrc _ _ _ _ _ _ _ _ _ _ _ _ _ _)))); first | walk1 | (dsimp only; walk1) | (leave1; walk_say "STEP leave1"; try dsimp only)) | fail "no step"))
    refine wpAny_For ?_ (by intro _; rfl)
    (repeat' (first | (k_unfold; (try dsimp only)) | ((( (fail_if_success (with_reducible show wpAny _ _ (eval (Expr.ListComp _ _ _ _) _) _ _ _)); (fail_if_success (with_reducible show wpAny _ _ (exec (Stmt.Assign _ (Expr.ListComp _ _ _ _) _) _) _ _ _)); (fail_if_success (with_reducible show wpAny _ _ (exec (Stmt.For _ _ _ _ _) _) _ _ _)); (fail_if_success (with_reducible show wpAny _ _ (exec (Stmt.While _ _ _ _) _) _ _ _)); (fail_if_success (with_reducible show wpAny _ _ (pyIter (Value.ref _)) _ _ _)); (fail_if_success (with_reducible show LCt.CompSrcT _ _ _ _ _ _ _ _ _ _ _ _ _ _ _)); (fail_if_success (with_reducible show LCt.CompRestT _ _ _ _ _ _ _ _ _ _ _ _ _ _ _ _ _ _ _ _)); (fail_if_success (with_reducible show LCg.CompSrc _ _ _ _ _ _ _ _ _ _ _ _ _ _)))); first | walk1 | (dsimp only; walk1) | (leave1; walk_say "STEP leave1"; try dsimp only)) | fail "no step"))
    rename IsRange _ _ _ _ _ _ _ _ => hr2
    rename (I < _ ∧ d < _) => l1
    refine for_range (n := _) (FoundInv rs ps f a lp d I od oI i t wd tw) rfl hr2 (small_one (by decide) (by decide) (by omega) (by omega)) (rangeSize_nat _ _) (by rfl) (by rfl) (by k_asm) (by k_asm) ?_ ?_ ?_
    · refine' ⟨_, [], [], _, ?names, rfl, ?l1, ?l2, .nil, by simp, (fun _ h => nomatch h), fun k hk => absurd hk (Nat.not_lt_zero _)⟩
      case names => ((repeat' (first | exact List.forall_mem_nil _ | (refine List.forall_mem_cons.mpr ⟨?_, ?_⟩; k_dflt rfl))))
      case l1 => exact l1.1
      case l2 => exact l1.2
    · rintro j tj m₂ nx₂ h₃ tk₃ I₂ oI₂ hjn ⟨lf, vs₂, xs, nn, hm₂, rfl, q1, q2, hxs, hxl, hx1, hx2⟩ F₃ N₃ hoff₂
      have F₄ := fr_of hm₂ F₃
      clear F₃
      simp only [List.forall_mem_cons] at hoff₂
      obtain ⟨p1, p2, p3, _⟩ := hoff₂
      replace q1 := ltN q1
      replace q2 := ltN q2
      show wpAny _ _ _ _ _ _
      k_fold
      (repeat' (first | (k_unfold; (try dsimp only)) | ((( (fail_if_success (with_reducible show wpAny _ _ (eval (Expr.ListComp _ _ _ _) _) _ _ _)); (fail_if_success (with_reducible show wpAny _ _ (exec (Stmt.Assign _ (Expr.ListComp _ _ _ _) _) _) _ _ _)); (fail_if_success (with_reducible show wpAny _ _ (exec (Stmt.For _ _ _ _ _) _) _ _ _)); (fail_if_success (with_reducible show wpAny _ _ (exec (Stmt.While _ _ _ _) _) _ _ _)); (fail_if_success (with_reducible show wpAny _ _ (pyIter (Value.ref _)) _ _ _)); (fail_if_success (with_reducible show LCt.CompSrcT _ _ _ _ _ _ _ _ _ _ _ _ _ _ _)); (fail_if_success (with_reducible show LCt.CompRestT _ _ _ _ _ _ _ _ _ _ _ _ _ _ _ _ _ _ _ _)); (fail_if_success (with_reducible show LCg.CompSrc _ _ _ _ _ _ _ _ _ _ _ _ _ _)))); first | walk1 | (dsimp only; walk1) | (leave1; walk_say "STEP leave1"; try dsimp only)) | fail "no step"))
      all_goals (have e1 : (0 + (j : Int)).toNat = j := by omega)
      all_goals (have e2 : (1 + (i : Int)).toNat = i + 1 := by omega)
      · exact found_yes (by assumption) (by assumption) p1 p2 p3 q1 q2 (by ((repeat' (first | exact List.forall_mem_nil _ | (refine List.forall_mem_cons.mpr ⟨?_, ?_⟩; k_dflt rfl))))) hxs hxl hx1 hx2 e1 (by omega) (.inl (by omega))
      · exact found_yes (by assumption) (by assumption) p1 p2 p3 q1 q2 (by ((repeat' (first | exact List.forall_mem_nil _ | (refine List.forall_mem_cons.mpr ⟨?_, ?_⟩; k_dflt rfl))))) hxs hxl hx1 hx2 e1 (by omega) (.inr (by rename (advOf _ _ _ ≤ _) => ha; rwa [e1, e2] at ha))
      · refine found_no (by assumption) (by assumption) p1 p2 p3 q1 q2 (by ((repeat' (first | exact List.forall_mem_nil _ | (refine List.forall_mem_cons.mpr ⟨?_, ?_⟩; k_dflt rfl))))) hxs hxl hx1 hx2 ?_
        rename (¬ advOf _ _ _ ≤ _) => ha
        rw [e1, e2] at ha
        rintro (q | q)
        · omega
        · exact ha q
    · rintro m₂ nx₂ h₃ tk₃ ⟨lf, vs₂, xs, nn, hm₂, rfl, q1, q2, hxs, hxl, hx1, hx2⟩ F₃ N₃
      have F₄ := fr_of' hm₂ F₃
      clear F₃
      replace q1 := ltN q1
      replace q2 := ltN q2
      have hx3 : ∀ k, k < i + 1 → okPiece rs ps wd k (i + 1) → f k + 1 ∈ xs := fun k hk => hx2 k (by omega)
      have hxn : 0 < xs.length := List.length_pos_of_mem (hx3 i (by omega) (.inl rfl))
      have e2 : (1 + (i : Int)).toNat = i + 1 := by omega
      dsimp only
      (repeat' (first | (k_unfold; (try dsimp only)) | ((( (fail_if_success (with_reducible show wpAny _ _ (eval (Expr.ListComp _ _ _ _) _) _ _ _)); (fail_if_success (with_reducible show wpAny _ _ (exec (Stmt.Assign _ (Expr.ListComp _ _ _ _) _) _) _ _ _)); (fail_if_success (with_reducible show wpAny _ _ (exec (Stmt.For _ _ _ _ _) _) _ _ _)); (fail_if_success (with_reducible show wpAny _ _ (exec (Stmt.While _ _ _ _) _) _ _ _)); (fail_if_success (with_reducible show wpAny _ _ (pyIter (Value.ref _)) _ _ _)); (fail_if_success (with_reducible show LCt.CompSrcT _ _ _ _ _ _ _ _ _ _ _ _ _ _ _)); (fail_if_success (with_reducible show LCt.CompRestT _ _ _ _ _ _ _ _ _ _ _ _ _ _ _ _ _ _ _ _)); (fail_if_success (with_reducible show LCg.CompSrc _ _ _ _ _ _ _ _ _ _ _ _ _ _)))); first | walk1 | (dsimp only; walk1) | (leave1; walk_say "STEP leave1"; try dsimp only)) | fail "no step"))
      exact best_end (by assumption) (by assumption) o1 (by ((repeat' (first | exact List.forall_mem_nil _ | (refine List.forall_mem_cons.mpr ⟨?_, ?_⟩; k_dflt rfl))))) (by assumption) hkl hold hf0 hbest (by assumption) (by assumption) hx1 hx3 e2 hin' hnd
  · rintro m₁ nx h₃ tk₃ ⟨d, od, kvs, f, hm, rfl, hd, hkl, hold, hf0, hbest⟩ F₁ N₁
    have F₂ := fr_of' hm F₁
    clear F₁
    dsimp only
    (repeat' (first | (k_unfold; (try dsimp only)) | ((( (fail_if_success (with_reducible show wpAny _ _ (eval (Expr.ListComp _ _ _ _) _) _ _ _)); (fail_if_success (with_reducible show wpAny _ _ (exec (Stmt.Assign _ (Expr.ListComp _ _ _ _) _) _) _ _ _)); (fail_if_success (with_reducible show wpAny _ _ (exec (Stmt.For _ _ _ _ _) _) _ _ _)); (fail_if_success (with_reducible show wpAny _ _ (exec (Stmt.While _ _ _ _) _) _ _ _)); (fail_if_success (with_reducible show wpAny _ _ (pyIter (Value.ref _)) _ _ _)); (fail_if_success (with_reducible show LCt.CompSrcT _ _ _ _ _ _ _ _ _ _ _ _ _ _ _)); (fail_if_success (with_reducible show LCt.CompRestT _ _ _ _ _ _ _ _ _ _ _ _ _ _ _ _ _ _ _ _)); (fail_if_success (with_reducible show LCg.CompSrc _ _ _ _ _ _ _ _ _ _ _ _ _ _)))); first | walk1 | (dsimp only; walk1) | (leave1; walk_say "STEP leave1"; try dsimp only)) | fail "no step"))
    refine h _ _ _ _ (Fr.keep (by assumption)) ⟨f, hf0, fun j h1 h2 => hbest j h1 (by omega), congrArg f (by omega)⟩


end

section
variable {prog : Program} {w : World} {A : Around} {E : Value → Shared → Prop} {s : Shared} {env : Env} {h₀ : Heap}
/-- x, y = T for a pair T -/
theorem pair_assign {xi xc : Str} {pk pv pt : Pos} {x1 : Nat} {T : Addr} {v0 v1 : Value} {m : Str → Option Value} {led : List (Addr × Obj)} {Q : Unit → Shared → Prop} (hh : A.handled = none) (hxi : env.kindOf xi = some .local) (hxc : env.kindOf xc = some .local)
    (hp : (env.scope.kind == .class || (env.scope.kind == .module && env.locals != env.globals)) = false) (hT : s.heap.IsTuple T #[v0, v1]) (F : Fr h₀ env.locals s.heap m) (N : News h₀ env.locals s.heap led)
    (h : ∀ h' tk, Fr h₀ env.locals h' (fun y => if y = xc then some v1 else if y = xi then some v0 else m y) → News h₀ env.locals h' led → (∀ b o, b ≠ env.locals → s.heap.get? b = some o → h'.get? b = some o) → Q () { s with heap := h', toks := tk }) :
    wpAny (model prog w) A (assign (.Tuple [.Name xi pk, .Name xc pv] x1 pt) env (.ref T)) Q E s := by
  apply wpAny_assign_Tuple hh hT rfl rfl
  intro g hg
  have up : ∀ b o, s.heap.get? b = some o → g.get? b = some o := fun b o e => (show Heap.ExtBut s.heap.objs.size s.heap g from hg) b o (Nat.ne_of_lt (Heap.lt_size e)) e
  have Fg := F.keeps up
  have one : ∀ {x : Str} {px : Pos} {v : Value} {g₁ : Heap} {t₁ : Nat} {m₁ : Str → Option Value} {Q₁ : Unit → Shared → Prop}, env.kindOf x = some .local → Fr h₀ env.locals g₁ m₁ →
      (∀ g₂ t₂, Fr h₀ env.locals g₂ (fun y => if y = x then some v else m₁ y) → Heap.SameBut env.locals g₁ g₂ → Q₁ () { s with heap := g₂, toks := t₂ }) → wpAny (model prog w) A (assign (.Name x px) env v) Q₁ E { s with heap := g₁, toks := t₁ } :=
    fun hx F₁ k => wpAny_assign_Name (wpAny_storeName_local hx F₁.ns (fun _ hn hs => k _ _ (F₁.set hn hs) hs) hp)
  refine wpAny_bind (wpAny_holding (one hxi Fg fun g₁ _ F₁ s₁ => wpAny_bind (wpAny_holding (one hxc F₁ fun g₂ t₂ F₂ s₂ => wpAny_pure ?_))))
  exact h g₂ t₂ F₂ (((N.grown up).set s₁).set s₂) fun b o hb e => s₂.extBut b o hb (s₁.extBut b o hb (up b o e))

/-- what a turn, and so the loop, keeps: the place of the source, the kept names and objects; the draws may go on -/
structure PairAt (h₀ : Heap) (L : Addr) (names : List (Str × Value)) (led : List (Addr × Obj)) (St : Nat → Heap → Prop) (s : Shared) (i : Nat) (s' : Shared) : Prop where
  same : ∃ h tk dr, s' = { s with heap := h, toks := tk, drawn := dr }
  st : St i s'.heap
  fr : ∃ m, Fr h₀ L s'.heap m ∧ ∀ p ∈ names, m p.1 = some p.2
  news : News h₀ L s'.heap led

/-- the places of fp that the base does not hold -/
theorem kept_own {fp : List Addr} {L : Addr} {g g' : Heap} {m m' : Str → Option Value} {led : List (Addr × Obj)} (F : Fr h₀ L g m) (F' : Fr h₀ L g' m') (N' : News h₀ L g' (ownOf h₀ fp g ++ led)) :
    ∀ b ∈ fp, ∀ o, g.get? b = some o → g'.get? b = some o := fun b hb o e => by
  rcases hq : h₀.get? b with _ | o'
  · exact (N' _ (List.mem_append_left _ (mem_ownOf hb hq e))).1
  · have := (F.keep _ _ hq).symm.trans e
    cases this
    exact F'.keep _ _ hq

/-- a loop over pairs whose turns leave the kept names and objects as they are; the draws may go on -/
theorem for_pairs {Q : Flow → Shared → Prop} {xi xc : Str} {pk pv pt : Pos} {x1 : Nat} {body : List Stmt} {I : Addr} {fp wr : List Addr} {n : Nat} {Pt : Nat → Array Value → Prop} {St : Nat → Heap → Prop} {Mid : Nat → Addr → Heap → Prop}
    {P2 : Nat → Value → Value → Prop} {m : Str → Option Value} {led : List (Addr × Obj)} (names : List (Str × Value)) (hh : A.handled = none) (W : WalksT prog w A I fp wr n Pt St Mid) (h2 : ∀ i vals, Pt i vals → ∃ v0 v1, vals = #[v0, v1] ∧ P2 i v0 v1)
    (hxi : env.kindOf xi = some .local) (hxc : env.kindOf xc = some .local)
    (hp : (env.scope.kind == .class || (env.scope.kind == .module && env.locals != env.globals)) = false)
    (hLf : env.locals ∉ fp) (hwr : ∀ b ∈ wr, h₀.get? b = none) (hnw : ∀ p ∈ led, p.1 ∉ wr)
    (hst : St 0 s.heap) (F : Fr h₀ env.locals s.heap m) (N : News h₀ env.locals s.heap led) (hm : ∀ p ∈ names, m p.1 = some p.2)
    (step : ∀ (i : Nat) (v0 v1 : Value) (m₁ : Str → Option Value) (own : List (Addr × Obj)) (h : Heap) (tk : Nat) (dr : Drawn), i < n → P2 i v0 v1 → (∀ p ∈ names, m₁ p.1 = some p.2) → (∀ p ∈ own, p.1 ∈ fp) →
      Fr h₀ env.locals h (fun y => if y = xc then some v1 else if y = xi then some v0 else m₁ y) → News h₀ env.locals h (own ++ led) →
      wpAny (model prog w) A (execs body env) (fun f s₃ => (f = .next ∨ f = .cont) ∧ ∃ h' tk' dr' m', s₃ = { s with heap := h', toks := tk', drawn := dr' } ∧ Fr h₀ env.locals h' m' ∧ News h₀ env.locals h' (own ++ led) ∧ ∀ p ∈ names, m' p.1 = some p.2) (fun _ _ => False) { s with heap := h, toks := tk, drawn := dr })
    (hR : ∀ (h' : Heap) (tk : Nat) (dr : Drawn) (m' : Str → Option Value), Fr h₀ env.locals h' m' → News h₀ env.locals h' led → (∀ p ∈ names, m' p.1 = some p.2) → Q .next { s with heap := h', toks := tk, drawn := dr }) :
    codeAny (model prog w) A (.forLoop (.Tuple [.Name xi pk, .Name xc pv] x1 pt) (.ref I) body [] env) (fun r s' => match r with | .ok f => Q f s' | .error e => cameBackBy (model prog w) A env E e s') s := by
  have hL : env.locals ∉ wr := fun q => hLf (W.sub _ q)
  refine codeAny_forLoop_any (fun k s' => ∃ i, i + k = n ∧ PairAt h₀ env.locals names led St s i s') ?_ n ⟨0, Nat.zero_add n, ⟨_, _, _, rfl⟩, hst, ⟨m, F, hm⟩, N⟩
  rintro k s' ⟨i, hik, ⟨H, tk, dr, rfl⟩, hSt, ⟨m', F', hm'⟩, N'⟩
  cases k with
  | zero =>
    obtain rfl : i = n := hik
    refine W.done _ _ _ hSt fun g tk' kg => ?_
    have kg : Past wr H g := kg
    exact wpAny_execs_nil (hR g tk' dr m' (kg.fr hL hwr F') (kg.news hnw N') hm')
  | succ k =>
    have hlt : i < n := by omega
    refine W.item i _ _ _ hlt hSt fun T vals g tk' hPt _ hT hMid kg => ?_
    obtain ⟨v0, v1, rfl, hP⟩ := h2 i vals hPt
    refine W.go _ x1 pt i T _ _ _ hMid fun g₁ st₁ k₁ => ?_
    have kg₁ : Past wr H g₁ := fun b o hb e => k₁ b o hb (kg b o hb e)
    refine pair_assign (s := { s with heap := g₁, toks := tk', drawn := dr }) hh hxi hxc hp (hT.at fun o e => k₁ T o (W.apart i T g hMid) e) (kg₁.fr hL hwr F') (kg₁.news hnw N') fun g₂ tk₂ F₂ N₂ up₂ => ?_
    have st₂ : St (i + 1) g₂ := W.frame _ _ _ st₁ fun b hb o e => up₂ b o (fun q => hLf (q ▸ hb)) e
    refine wpAny_mono (step i v0 v1 m' (ownOf h₀ fp g₂) g₂ tk₂ dr hlt hP hm' ownOf_sub F₂ ((news_ownOf hLf).append N₂)) (fun f s₃ end₃ => ?_) fun _ _ e => e.elim
    obtain ⟨hf, g₃, tk₃, dr₃, m₃, rfl, F₃, N₃, hm₃⟩ := end₃
    have at₃ : PairAt h₀ env.locals names led St s (i + 1) { s with heap := g₃, toks := tk₃, drawn := dr₃ } := ⟨⟨_, _, _, rfl⟩, W.frame _ _ _ st₂ (kept_own F₂ F₃ N₃), ⟨m₃, F₃, hm₃⟩, N₃.right⟩
    rcases hf with rfl | rfl <;> exact ⟨k, Nat.lt_succ_self k, i + 1, by omega, at₃⟩
end


def pdat (p : Int × Int) : Dat := .tuple [.int p.1, .int p.2]
theorem pairs_dat {led : List (Addr × Obj)} : ∀ {ds : List Value} {ls : List (Int × Int)}, Paired (PairIn led) ds ls → DatAll led ds (ls.map pdat)
  | _, _, .nil => .nil
  | _, _, .cons h t => by
    obtain ⟨a, o, rfl, hm, t1, t2, n, rfl⟩ := h
    exact .cons (.tuple hm (.cons (.int _ _) (.cons (.int _ _) .nil))) (pairs_dat t)
theorem pdat_inj : ∀ {l l' : List (Int × Int)}, l.map pdat = l'.map pdat → l = l'
  | [], [], _ => rfl
  | [], _ :: _, h => by simp at h
  | _ :: _, [], h => by simp at h
  | (a, b) :: r, (c, d) :: r', h => by
    simp only [List.map_cons, List.cons.injEq, pdat, Dat.tuple.injEq, Dat.int.injEq, and_true] at h
    obtain ⟨⟨rfl, rfl⟩, h⟩ := h
    rw [pdat_inj h]
theorem pdat_ok (l : List (Int × Int)) : ∀ d ∈ l.map pdat, kqdOk 8 d = true := fun d hd => by
  obtain ⟨p, _, rfl⟩ := List.mem_map.mp hd
  rfl
section
variable {prog : Program} {w : World} {A : Around} {E : Value → Shared → Prop} {s : Shared} {h₀ : Heap} {L a b : Addr} {news n₁ n₂ : List (Addr × Obj)} {xs ys : List Value} {ka kb : Nat} {ls ls' : List (Int × Int)} {Q : Value → Shared → Prop}
theorem pairs_ne (N : News h₀ L s.heap news) (ma : (a, PySem.W.listOf xs.toArray ka) ∈ news) (Da : Paired (PairIn n₁) xs ls) (sa : ∀ p ∈ n₁, p ∈ news) (mb : (b, PySem.W.listOf ys.toArray kb) ∈ news) (Db : Paired (PairIn n₂) ys ls') (sb : ∀ p ∈ n₂, p ∈ news)
    (hu : A.units + 64 < cLine) (h : ∀ q : Bool, (q = true ↔ ls ≠ ls') → Q (.bool q) s) : wpAny (model prog w) A (compareOp .NotEq (.ref a) (.ref b)) Q E s := by
  refine kqd_ne N ma rfl rfl (pairs_dat Da) sa mb rfl rfl (pairs_dat Db) sb (pdat_ok _) (pdat_ok _) hu (h _ ?_)
  rw [Bool.not_eq_true', decide_eq_false_iff_not]
  exact ⟨fun q e => q (by rw [e]), fun q e => q (pdat_inj e)⟩
theorem pairs_ne1 {T : Addr} {u v : Int} {t1 t2 : Tok} {n : Nat} (N : News h₀ L s.heap news) (ma : (a, PySem.W.listOf xs.toArray ka) ∈ news) (Da : Paired (PairIn n₁) xs ls) (sa : ∀ p ∈ n₁, p ∈ news) (mb : (b, PySem.W.listOf #[Value.ref T] kb) ∈ news)
    (mT : (T, ({ cls := .type "tuple", data := .seq #[.int u t1, .int v t2] n } : Obj)) ∈ news) (hu : A.units + 64 < cLine) (h : ∀ q : Bool, (q = true ↔ ls ≠ [(u, v)]) → Q (.bool q) s) : wpAny (model prog w) A (compareOp .NotEq (.ref a) (.ref b)) Q E s :=
  pairs_ne (n₂ := [(T, { cls := .type "tuple", data := .seq #[.int u t1, .int v t2] n })]) (ys := [Value.ref T]) N ma Da sa mb (.cons ⟨T, _, rfl, List.mem_cons_self, t1, t2, n, rfl⟩ .nil) (fun p hp => by rw [List.mem_singleton] at hp; rw [hp]; exact mT) hu h
def TurnEnd (h₀ : Heap) (L : Addr) (led : List (Addr × Obj)) (names : List (Str × Value)) (s : Shared) (f : Flow) (s₃ : Shared) : Prop :=
  (f = .next ∨ f = .cont) ∧ ∃ h' tk' dr' m', s₃ = { s with heap := h', toks := tk', drawn := dr' } ∧ Fr h₀ L h' m' ∧ News h₀ L h' led ∧ ∀ p ∈ names, m' p.1 = some p.2
theorem for_zip {env : Env} {x1 : Nat} {xi xc : Str} {pk pv pt : Pos} {body : List Stmt} {l1 l2 : Addr} {vs ws : List Value} {n1 n2 : Nat} {m : Str → Option Value} {led : List (Addr × Obj)} {R : Flow → Shared → Prop} (names : List (Str × Value)) (hh : A.handled = none)
    (hxi : env.kindOf xi = some .local) (hxc : env.kindOf xc = some .local) (hp : (env.scope.kind == .class || (env.scope.kind == .module && env.locals != env.globals)) = false)
    (F : Fr h₀ env.locals s.heap m) (N : News h₀ env.locals s.heap led) (m1 : (l1, PySem.W.listOf vs.toArray n1) ∈ led) (m2 : (l2, PySem.W.listOf ws.toArray n2) ∈ led) (hm : ∀ p ∈ names, m p.1 = some p.2)
    (step : ∀ (i : Nat) (v0 v1 : Value) (m₁ : Str → Option Value) (own : List (Addr × Obj)) (h : Heap) (tk : Nat) (dr : Drawn), vs[i]? = some v0 → ws[i]? = some v1 → (∀ p ∈ names, m₁ p.1 = some p.2) →
      Fr h₀ env.locals h (fun y => if y = xc then some v1 else if y = xi then some v0 else m₁ y) → News h₀ env.locals h (led ++ own) →
      wpAny (model prog w) A (execs body env) (fun f s₃ => TurnEnd h₀ env.locals (led ++ own) names s f s₃) (fun _ _ => False) { s with heap := h, toks := tk, drawn := dr })
    (hR : ∀ (h' : Heap) (tk : Nat) (dr : Drawn) (m' : Str → Option Value), Fr h₀ env.locals h' m' → News h₀ env.locals h' led → (∀ p ∈ names, m' p.1 = some p.2) → R .next { s with heap := h', toks := tk, drawn := dr }) :
    wpAny (model prog w) A (call (.type "zip") [.ref l1, .ref l2]) (fun xv s₁ => wpAny (model prog w) A (pyIter xv) (fun it s₂ => codeAny (model prog w) A (.forLoop (.Tuple [.Name xi pk, .Name xc pv] x1 pt) it body [] env) (fun r s' => match r with | .ok f => R f s' | .error e => cameBackBy (model prog w) A env E e s') s₂) E s₁) E s := by
  have hl1 := led_list N m1
  have hl2 := led_list N m2
  refine call_zip_2 hl1 hl2 fun hz z1 z2 z3 z4 z5 zsz zk => ?_
  refine wpAny_pyIter_zip (s := { s with heap := hz }) z1 ?_
  have lt1 : l1 < s.heap.objs.size := by obtain ⟨_, e, _⟩ := hl1; exact Heap.lt_size e
  have lt2 : l2 < s.heap.objs.size := by obtain ⟨_, e, _⟩ := hl2; exact Heap.lt_size e
  have ltL : env.locals < s.heap.objs.size := by obtain ⟨_, _, _, e, _⟩ := F.ns; exact Heap.lt_size e
  have n1' := (N _ m1).2.1
  have n2' := (N _ m2).2.1
  have hnone : ∀ k : Nat, h₀.get? (s.heap.objs.size + k : Nat) = none := fun k => by
    cases q : h₀.get? (s.heap.objs.size + k : Nat) with
    | none => rfl
    | some o => exact absurd (Heap.lt_size (F.keep _ _ q)) (Nat.not_lt.mpr (Nat.le_add_right _ _))
  refine for_pairs (s := { s with heap := hz }) names hh (WalksT.zip2 hh _ _ _ _ _ _ _ (ktu_apart _ _ _ lt1 lt2) vs.toArray ws.toArray) (P2 := fun i v0 v1 => vs[i]? = some v0 ∧ ws[i]? = some v1) (fun i vals q => ?_) hxi hxc hp ?_ ?_ ?_
    ⟨z1, z2, ⟨_, _, z3⟩, z4, z5, list_keeps hl1 zk, list_keeps hl2 zk⟩ (F.keeps zk) (N.grown zk) hm (fun i v0 v1 m₁ own h tk dr _ hP hm₁ hown F₁ N₁ => ?_) hR
  · obtain ⟨x, y, h1, h2, rfl⟩ := q
    exact ⟨x, y, rfl, by simpa using h1, by simpa using h2⟩
  · simp only [List.mem_cons, List.not_mem_nil, or_false, not_or]
    refine ⟨?_, ?_, ?_, ?_, ?_, Ne.symm n1', Ne.symm n2'⟩ <;> (intro e; (have e' : @Eq Nat _ _ := e); (have l' : @LT.lt Nat _ _ _ := ltL); omega)
  · simp only [List.forall_mem_cons]
    exact ⟨hnone 4, hnone 3, hnone 0, hnone 1, fun _ h => nomatch h⟩
  · intro p hp
    have l' : @LT.lt Nat _ p.1 s.heap.objs.size := Heap.lt_size (N p hp).1
    simp only [List.mem_cons, List.not_mem_nil, or_false, not_or]
    refine ⟨?_, ?_, ?_, ?_⟩ <;> (intro e; (have e' : @Eq Nat _ _ := e); omega)
  · refine wpAny_mono (step i v0 v1 m₁ own h tk dr hP.1 hP.2 hm₁ F₁ fun p hp => N₁ p ?_) (fun f s₃ q => ?_) fun _ _ e => e
    · rcases List.mem_append.mp hp with h | h <;> simp [h]
    · obtain ⟨hf, h', tk', dr', m', e, F', N', hm'⟩ := q
      refine ⟨hf, h', tk', dr', m', e, F', fun p hp => N' p ?_, hm'⟩
      rcases List.mem_append.mp hp with h | h <;> simp [h]
end


section
variable {rs : List Row} {P : List Int} {w w' len : Int}
theorem adv_mono : ∀ {rs : List Row}, (∀ r ∈ rs, 0 ≤ r.adv) → ∀ {b b' e e' : Int}, b ≤ b' → e' ≤ e → advOf rs b' e' ≤ advOf rs b e
  | [], _, _, _, _, _, _, _ => Int.le_refl _
  | r :: l, h, b, b', e, e', h1, h2 => by
    have ih := adv_mono (rs := l) (fun x hx => h x (List.mem_cons_of_mem _ hx)) h1 h2
    have hr := h r List.mem_cons_self
    unfold advOf at ih ⊢
    by_cases c1 : inB b' e' r = true
    · have c2 : inB b e r = true := by
        simp only [inB, Bool.and_eq_true, decide_eq_true_eq] at c1 ⊢
        omega
      rw [List.filter_cons_of_pos c1, List.filter_cons_of_pos c2, List.map_cons, List.map_cons, List.sum_cons, List.sum_cons]
      omega
    · rw [List.filter_cons_of_neg c1]
      by_cases c2 : inB b e r = true
      · rw [List.filter_cons_of_pos c2, List.map_cons, List.sum_cons]
        omega
      · rw [List.filter_cons_of_neg c2]
        exact ih
theorem adv_cut : ∀ {rs : List Row} {b e : Int}, advOf (cutOf rs b e) 0 (e - b) = advOf rs b e
  | [], _, _ => rfl
  | r :: l, b, e => by
    have ih := adv_cut (rs := l) (b := b) (e := e)
    unfold advOf cutOf at ih ⊢
    by_cases c : inB b e r = true
    · have c2 : inB 0 (e - b) (shiftRow b r) = true := by
        simp only [inB, Bool.and_eq_true, decide_eq_true_eq] at c ⊢
        show 0 ≤ r.cl - b ∧ r.cl - b < e - b
        omega
      rw [List.filter_cons_of_pos c, List.map_cons, List.filter_cons_of_pos c2, List.map_cons, List.map_cons, List.sum_cons, List.sum_cons, ih]
      rfl
    · rw [List.filter_cons_of_neg c]
      exact ih
theorem end_mem {b e : Int} (h : isLineEnd rs P b w e) : e ∈ P ∧ b < e := later_mem.mp (lineEnd_later h)
theorem head_least {b e : Int} (hP : P.Pairwise (· < ·)) (h : (laterOf P b).head? = some e) : ∀ x, x ∈ P → b < x → e ≤ x := by
  intro x hx hb
  have hm : x ∈ laterOf P b := later_mem.mpr ⟨hx, hb⟩
  have hs : (laterOf P b).Pairwise (· < ·) := List.Pairwise.filter _ hP
  cases hl : laterOf P b with
  | nil => rw [hl] at hm; cases hm
  | cons y r =>
    rw [hl] at h hm hs
    cases h
    rcases List.mem_cons.mp hm with rfl | hm
    · exact Int.le_refl _
    · exact Int.le_of_lt ((List.pairwise_cons.mp hs).1 x hm)
theorem narrow_mem {b x : Int} : x ∈ narrowOf rs P b w ↔ x ∈ P ∧ b < x ∧ advOf rs b x ≤ w := by
  unfold narrowOf
  rw [List.mem_filter, later_mem, decide_eq_true_eq, and_assoc]
theorem end_unique {b e e' : Int} (h : isLineEnd rs P b w e) (h' : isLineEnd rs P b w e') : e = e' := by
  rcases h with ⟨h1, h2⟩ | ⟨h1, h2⟩ <;> rcases h' with ⟨h3, h4⟩ | ⟨h3, h4⟩
  · rw [h2] at h4; cases h4; rfl
  · rw [h1] at h3; cases h3
  · rw [h3] at h1; cases h1
  · have a := h2 _ h3
    have b := h4 _ h1
    omega
theorem lines_mem {b : Int} {ls : List (Int × Int)} (h : LinesTo rs P w len b ls) : b = 0 ∨ b ∈ P := by
  cases h with
  | nil => exact .inl rfl
  | snoc _ _ he => exact .inr (end_mem he).1
/-- a greater width never stays behind -/
theorem lines_ahead (hP : P.Pairwise (· < ·)) (ha : ∀ r ∈ rs, 0 ≤ r.adv) (hw : w ≤ w') : ∀ {ls ls' : List (Int × Int)} {b b' : Int}, LinesTo rs P w len b ls → LinesTo rs P w' len b' ls' → ls.length = ls'.length → b ≤ b' := by
  intro ls ls' b b' h
  induction h generalizing ls' b' with
  | nil =>
    intro h' hl
    cases h' with
    | nil => exact Int.le_refl _
    | snoc => simp at hl
  | snoc hb0 hlt he ih =>
    rename_i b1 e ls1
    intro h' hl
    cases h' with
    | nil => simp at hl
    | snoc hb0' hlt' he' =>
      rename_i b1' ls1'
      have hle := ih hb0' (by simpa using hl)
      have m' := end_mem he'
      have m := end_mem he
      rcases Int.lt_or_le b1' e with q | q
      · rcases he with ⟨_, h2⟩ | ⟨h1, _⟩
        · exact head_least hP h2 _ m'.1 (by omega)
        · have h3 := (narrow_mem.mp h1).2.2
          have h4 := adv_mono ha (b := b1) (b' := b1') (e := e) (e' := e) hle (Int.le_refl _)
          have h5 : e ∈ narrowOf rs P b1' w' := narrow_mem.mpr ⟨m.1, q, by omega⟩
          rcases he' with ⟨h6, _⟩ | ⟨_, h6⟩
          · rw [h6] at h5; cases h5
          · exact h6 _ h5
      · omega
theorem lines_prefix : ∀ {ls : List (Int × Int)} {b : Int}, LinesTo rs P w len b ls → ∀ k, k < ls.length → ∃ b' ls', LinesTo rs P w len b' ls' ∧ ls'.length = k ∧ b' < len := by
  intro ls b h
  induction h with
  | nil => intro k hk; exact absurd hk (Nat.not_lt_zero _)
  | snoc hb0 hlt he ih =>
    rename_i b1 e ls1
    intro k hk
    rw [List.length_append, List.length_singleton] at hk
    by_cases q : k = ls1.length
    · exact ⟨b1, ls1, hb0, q.symm, hlt⟩
    · exact ih k (by omega)
theorem wider_le (hP : P.Pairwise (· < ·)) (ha : ∀ r ∈ rs, 0 ≤ r.adv) (hw : w ≤ w') {ls ls' : List (Int × Int)} (h : LinesTo rs P w len len ls) (h' : LinesTo rs P w' len len ls') : ls'.length ≤ ls.length := by
  rcases Nat.lt_or_ge ls.length ls'.length with q | q
  · obtain ⟨b', l', h1, h2, h3⟩ := lines_prefix h' _ q
    have := lines_ahead hP ha hw h h1 h2.symm
    omega
  · exact q
theorem lines_det : ∀ {ls ls' : List (Int × Int)} {b b' : Int}, LinesTo rs P w len b ls → LinesTo rs P w len b' ls' → ls.length = ls'.length → ls = ls' ∧ b = b' := by
  intro ls ls' b b' h
  induction h generalizing ls' b' with
  | nil =>
    intro h' hl
    cases h' with
    | nil => exact ⟨rfl, rfl⟩
    | snoc => simp at hl
  | snoc hb0 hlt he ih =>
    intro h' hl
    cases h' with
    | nil => simp at hl
    | snoc hb0' hlt' he' =>
      obtain ⟨rfl, rfl⟩ := ih hb0' (by simpa using hl)
      have := end_unique he he'
      subst this
      exact ⟨rfl, rfl⟩
theorem lines_same (hP : P.Pairwise (· < ·)) (ha : ∀ r ∈ rs, 0 ≤ r.adv) {ls ls' : List (Int × Int)} (h : LinesTo rs P w len len ls) (h' : LinesTo rs P w len len ls') : ls = ls' := by
  have h1 := wider_le hP ha (Int.le_refl w) h h'
  have h2 := wider_le hP ha (Int.le_refl w) h' h
  exact (lines_det h h' (by omega)).1
theorem one_line (hP : ∀ x ∈ P, x ≤ len) (hl : len ∈ P) (h0 : 0 < len) (hr : P.Pairwise (· < ·)) (ha : ∀ r ∈ rs, 0 ≤ r.adv) (hw : advOf rs 0 len ≤ w) {ls : List (Int × Int)} (h : LinesTo rs P w len len ls) : ls = [(0, len)] := by
  refine lines_same hr ha h (LinesTo.snoc .nil h0 (.inr ⟨narrow_mem.mpr ⟨hl, h0, hw⟩, fun x hx => hP x (narrow_mem.mp hx).1⟩))
theorem lines_pairs {ls : List (Int × Int)} {b : Int} (h : LinesTo rs P w len b ls) : ∀ p ∈ ls, p.1 < p.2 := by
  induction h with
  | nil => intro p hp; cases hp
  | snoc _ _ he ih =>
    intro p hp
    rcases List.mem_append.mp hp with hp | hp
    · exact ih p hp
    · rw [List.mem_singleton] at hp
      subst hp
      exact (end_mem he).2

/-- the walk over the places finds what the lines are -/
theorem getD_lt {Q : List Int} (h : Q.Pairwise (· < ·)) {i j : Nat} (hij : i < j) (hj : j < Q.length) : Q.getD i 0 < Q.getD j 0 := by
  have hi : i < Q.length := by omega
  have := List.pairwise_iff_getElem.mp h i j hi hj hij
  simpa [List.getD_eq_getElem?_getD, List.getElem?_eq_getElem hi, List.getElem?_eq_getElem hj] using this
theorem getD_mono {Q : List Int} (h : Q.Pairwise (· < ·)) {i j : Nat} (hi : i < Q.length) (hlt : Q.getD i 0 < Q.getD j 0) (hj : j < Q.length) : i < j := by
  rcases Nat.lt_trichotomy i j with q | q | q
  · exact q
  · subst q; omega
  · have := getD_lt h q hi; omega
theorem fewest_lines (hQ : (0 :: P).Pairwise (· < ·)) (ha : ∀ r ∈ rs, 0 ≤ r.adv) {f : Nat → Int} (f0 : f 0 = 0) (hf : ∀ i, 1 ≤ i → i < (0 :: P).length → isBest rs (0 :: P) w f i) :
    ∀ {ls : List (Int × Int)} {b : Int}, LinesTo rs P w len b ls → ∃ ib, ib < (0 :: P).length ∧ (0 :: P).getD ib 0 = b ∧ f ib = ls.length ∧ ∀ i, i < (0 :: P).length → ib < i → (ls.length : Int) + 1 ≤ f i := by
  have hP : P.Pairwise (· < ·) := (List.pairwise_cons.mp hQ).2
  have hpos : ∀ i, i < (0 :: P).length → 0 ≤ f i := by
    intro i
    induction i using Nat.strongRecOn with
    | ind i ih =>
      intro hi
      by_cases e : i = 0
      · subst e; omega
      · obtain ⟨⟨j, h1, _, h3⟩, _⟩ := hf i (by omega) hi
        have := ih j h1 (by omega)
        omega
  intro ls b h
  induction h with
  | nil =>
    refine ⟨0, by simp, rfl, by simpa using f0, fun i hi h1 => ?_⟩
    obtain ⟨⟨j, h2, _, h3⟩, _⟩ := hf i (by omega) hi
    have := hpos j (by omega)
    simp only [List.length_nil]
    omega
  | snoc hb0 hlt he ih =>
    rename_i b1 e ls1
    obtain ⟨ib, hib, hb, hfb, hge⟩ := ih
    have m := end_mem he
    obtain ⟨ie, hie, hee⟩ := mem_getD (List.mem_cons_of_mem 0 m.1)
    have hlt2 : ib < ie := getD_mono hQ hib (by rw [hb, hee]; exact m.2) hie
    have lat : ∀ i, i < (0 :: P).length → 0 < i → (0 :: P).getD i 0 ∈ P := by
      intro i hi h0
      obtain ⟨k, rfl⟩ : ∃ k, i = k + 1 := ⟨i - 1, by omega⟩
      have hk : k < P.length := by simpa using hi
      simp [List.getD_eq_getElem?_getD, List.getElem?_eq_getElem hk]
    have hok : okPiece rs (0 :: P) w ib ie := by
      rcases he with ⟨_, h2⟩ | ⟨h1, _⟩
      · left
        rcases Nat.lt_or_ge (ib + 1) ie with q | q
        · exfalso
          have h3 := getD_lt hQ (i := ib) (j := ib + 1) (by omega) (by omega)
          have h4 := getD_lt hQ q hie
          have h5 := head_least hP h2 _ (lat (ib + 1) (by omega) (by omega)) (by rw [hb] at h3; exact h3)
          rw [hee] at h4
          omega
        · omega
      · right
        rw [hb, hee]
        exact (narrow_mem.mp h1).2.2
    have h1 := (hf ie (by omega) hie).2 ib hlt2 hok
    have h2 := hge ie hie hlt2
    refine ⟨ie, hie, hee, ?_, fun i hi hgt => ?_⟩
    · rw [List.length_append, List.length_singleton]
      omega
    · rw [List.length_append, List.length_singleton]
      obtain ⟨⟨j, h3, h4, h5⟩, _⟩ := hf i (by omega) hi
      rcases Nat.lt_or_ge ib j with q | q
      · have := hge j (by omega) q
        omega
      · exfalso
        rcases h4 with h4 | h4
        · omega
        · have hle : (0 :: P).getD j 0 ≤ b1 := by
            by_cases e1 : j = ib
            · subst e1; omega
            · have := getD_lt hQ (i := j) (j := ib) (by omega) hib
              omega
          have h6 := adv_mono ha (b := (0 :: P).getD j 0) (b' := b1) (e := (0 :: P).getD i 0) (e' := (0 :: P).getD i 0) hle (Int.le_refl _)
          have h7 := getD_lt hQ hgt hi
          rw [hee] at h7
          have h8 : (0 :: P).getD i 0 ∈ narrowOf rs P b1 w := narrow_mem.mpr ⟨lat i hi (by omega), by omega, by omega⟩
          rcases he with ⟨h9, _⟩ | ⟨_, h9⟩
          · rw [h9] at h8; cases h8
          · have := h9 _ h8
            omega
theorem fewest_is (hQ : (0 :: P).Pairwise (· < ·)) (ha : ∀ r ∈ rs, 0 ≤ r.adv) (hl : ∃ Q, P = Q ++ [len]) {n : Int} (hn : IsFewest rs (0 :: P) w n) {ls : List (Int × Int)} (h : LinesTo rs P w len len ls) : (ls.length : Int) = n := by
  obtain ⟨f, f0, hf, rfl⟩ := hn
  obtain ⟨ib, hib, hb, hfb, _⟩ := fewest_lines hQ ha f0 hf h
  obtain ⟨Q, rfl⟩ := hl
  have hlast : (0 :: (Q ++ [len])).getD ((0 :: (Q ++ [len])).length - 1) 0 = len := by simp [List.getD_eq_getElem?_getD]
  have : ib = (0 :: (Q ++ [len])).length - 1 := by
    rcases Nat.lt_or_ge ib ((0 :: (Q ++ [len])).length - 1) with q | q
    · have := getD_lt hQ q (by simp)
      rw [hb, hlast] at this
      omega
    · omega
  rw [← this, hfb]
end
theorem sorted_eq : ∀ {l l' : List Int}, l.Pairwise (· < ·) → l'.Pairwise (· < ·) → (∀ x, x ∈ l ↔ x ∈ l') → l = l'
  | [], [], _, _, _ => rfl
  | [], b :: r', _, _, h => absurd ((h b).mpr List.mem_cons_self) (by simp)
  | a :: r, [], _, _, h => absurd ((h a).mp List.mem_cons_self) (by simp)
  | a :: r, b :: r', h1, h2, h => by
    rw [List.pairwise_cons] at h1 h2
    have hab : a = b := by
      rcases List.mem_cons.mp ((h a).mp List.mem_cons_self) with q | q
      · exact q
      · rcases List.mem_cons.mp ((h b).mpr List.mem_cons_self) with q2 | q2
        · exact q2.symm
        · have := h1.1 b q2
          have := h2.1 a q
          omega
    subst hab
    rw [sorted_eq h1.2 h2.2 fun x => ?_]
    constructor
    · intro hx
      rcases List.mem_cons.mp ((h x).mp (List.mem_cons_of_mem _ hx)) with q | q
      · subst q; have := h1.1 x hx; omega
      · exact q
    · intro hx
      rcases List.mem_cons.mp ((h x).mpr (List.mem_cons_of_mem _ hx)) with q | q
      · subst q; have := h2.1 x hx; omega
      · exact q
theorem breaks_eq {rs : List Row} {len : Int} {ps ps' : List Int} (h : IsBreaks rs len ps) (h' : IsBreaks rs len ps') : ps = ps' :=
  sorted_eq h.1 h'.1 fun x => (h.2.2 x).trans (h'.2.2 x).symm
theorem breaks_rise {rs : List Row} {len : Int} {ps : List Int} (h : IsBreaks rs len ps) : (ps ++ [len]).Pairwise (· < ·) := by
  rw [List.pairwise_append]
  refine ⟨h.1, by simp, fun a ha b hb => ?_⟩
  rw [List.mem_singleton] at hb
  subst hb
  exact ((h.2.2 a).mp ha).2.1
theorem breaks_rise0 {rs : List Row} {len : Int} {ps : List Int} (h : IsBreaks rs len ps) (h0 : 0 < len) : (0 :: (ps ++ [len])).Pairwise (· < ·) := by
  rw [List.pairwise_cons]
  refine ⟨fun x hx => ?_, breaks_rise h⟩
  rcases List.mem_append.mp hx with q | q
  · exact ((h.2.2 x).mp q).1
  · rw [List.mem_singleton] at q; subst q; exact h0


section
def CellsObj (cells : Addr) (oc : Obj) : Prop := ∀ h : Heap, h.get? cells = some oc → CellsAt h cells
theorem cells_obj {h : Heap} {cells : Addr} (x : CellsAt h cells) : ∃ oc, h.get? cells = some oc ∧ CellsObj cells oc := by
  obtain ⟨cs, ns, ⟨o, ho, r⟩, q⟩ := x
  exact ⟨o, ho, fun h' e => ⟨cs, ns, ⟨o, e, r⟩, q⟩⟩
theorem news_add {h₀ h h' : Heap} {L : Addr} {m : Str → Option Value} {led' extra : List (Addr × Obj)} (F : Fr h₀ L h m) (N' : News h₀ L h' led') (f : FreshIn h h' extra) : News h₀ L h' (led' ++ extra) := fun p hp => by
  rcases List.mem_append.mp hp with hp | hp
  · exact N' p hp
  · have fp := f p hp
    refine ⟨fp.2, ?_, ?_⟩
    · intro e
      obtain ⟨oL, _, _, g, _⟩ := F.ns
      rw [e, show h.get? L = some oL from g] at fp
      cases fp.1
    · cases q : h₀.get? p.1 with
      | none => rfl
      | some o' => have := F.keep _ _ q; rw [show h.get? p.1 = none from fp.1] at this; cases this
theorem pen_step {h₀ h h' : Heap} {L pen : Addr} {m : Str → Option Value} {po po' : Obj} {X : List (Addr × Obj)} (F : Fr h₀ L h m) (N : News h₀ L h ((pen, po) :: X)) (hX : ∀ p ∈ X, p.1 ≠ pen) (k : ∀ b o, b ≠ pen → h.get? b = some o → h'.get? b = some o) (g : h'.get? pen = some po') :
    Fr h₀ L h' m ∧ News h₀ L h' ((pen, po') :: X) :=
  ⟨fr_pen F N List.mem_cons_self k, news_pen N (.head hX) k g⟩

theorem fresh_nil {h h' : Heap} : FreshIn h h' [] := fun _ hp => nomatch hp
theorem fresh_off {h₀ h h' : Heap} {L : Addr} {led l : List (Addr × Obj)} {pen : Addr} {po : Obj} (N : News h₀ L h led) (hm : (pen, po) ∈ led) (f : FreshIn h h' l) : ∀ p ∈ l, p.1 ≠ pen := fun p hp e => by
  have e1 := (N _ hm).1
  have e2 := (f p hp).1
  rw [e] at e2
  rw [show h.get? pen = some po from e1] at e2; cases e2
theorem paired_rev {α β : Type} {R : α → β → Prop} : ∀ {l₁ : List α} {l₂ : List β}, Paired R l₁ l₂ → Paired R l₁.reverse l₂.reverse
  | _, _, .nil => .nil
  | _, _, .cons h t => by
    rw [List.reverse_cons, List.reverse_cons]
    exact Paired.snoc (paired_rev t) h
theorem wf_adv {rs : List Row} {c : Int} (h : WfRows rs c) : (∀ r ∈ rs, 0 ≤ r.adv) ∧ 0 ≤ c := by
  rcases h with ⟨rfl, rfl⟩ | ⟨_, _, h, h0⟩
  · exact ⟨(fun _ h => nomatch h), Int.le_refl _⟩
  · exact ⟨fun r hr => (h r hr).1, h0⟩
/-- what the law holds after Shaped(..) -/
def LawAt (h₀ h : Heap) (L pen cells x : Addr) (po oc : Obj) : Prop :=
  ∃ (X : List (Addr × Obj)) (vs : List Value) (rs : List Row), News h₀ L h ((pen, po) :: (cells, oc) :: X) ∧ (∀ p ∈ X, p.1 ≠ pen) ∧ ShapedIn X x vs rs ∧ (∀ r ∈ rs, 0 ≤ r.adv) ∧ rs.length ≤ 10
theorem law_back {h₀ h : Heap} {L x dx rv pen cells TT lr : Addr} {es : List DictEntry} {n nr nl : Nat} {po oc oT : Obj} {tups : List (Addr × Obj)} {vs : List Value} {rs : List Row} {ib : Bool}
    (N : News h₀ L h ((x, instObj 45 dx) :: (dx, dictOf es n) :: (rv, PySem.W.listOf vs.reverse.toArray nr) :: (pen, po) :: (cells, oc) :: (TT, oT) :: (lr, PySem.W.listOf vs.toArray nl) :: tups))
    (hlt : ∀ p ∈ (rv, PySem.W.listOf vs.reverse.toArray nr) :: (pen, po) :: (cells, oc) :: (TT, oT) :: (lr, PySem.W.listOf vs.toArray nl) :: tups, p.1 < dx) (hdx : dx < x) (hrv : pen < rv) (hot : ∀ p ∈ tups, p.1 ≠ pen)
    (e1 : getL "rows" es = some (some (.ref rv))) (e2 : getL "is_backward" es = some (some (.bool ib))) (hR : Paired (RowIn tups) vs rs) (ha : ∀ r ∈ rs, 0 ≤ r.adv) (hl : rs.length ≤ 10) : LawAt h₀ h L pen cells x po oc := by
  have hp : pen < dx := hlt (pen, po) (by simp)
  have hvl := hR.length
  refine ⟨(x, instObj 45 dx) :: (dx, dictOf es n) :: (rv, PySem.W.listOf vs.reverse.toArray nr) :: tups, vs.reverse, rs.reverse, fun p hp => N p ?_, ?_, ⟨⟨dx, es, n, rv, nr, ib, by simp, by simp, e1, e2, by simp⟩, Paired.mono (fun _ _ q => q.more fun p hp => by simp [hp]) (paired_rev hR), by rw [List.length_reverse]; omega⟩, fun r hr => ha r (List.mem_reverse.mp hr), by rw [List.length_reverse]; exact hl⟩
  · simp only [List.mem_cons] at hp ⊢
    rcases hp with h | h | h | h | h | h <;> simp [h]
  · simp only [List.forall_mem_cons]
    exact ⟨Nat.ne_of_gt (Nat.lt_trans hp hdx), Nat.ne_of_gt hp, Nat.ne_of_gt hrv, hot⟩
theorem law_fwd {h₀ h : Heap} {L x dx pen cells TT lr : Addr} {es : List DictEntry} {n nl : Nat} {po oc oT : Obj} {tups : List (Addr × Obj)} {vs : List Value} {rs : List Row} {ib : Bool}
    (N : News h₀ L h ((x, instObj 45 dx) :: (dx, dictOf es n) :: (pen, po) :: (cells, oc) :: (TT, oT) :: (lr, PySem.W.listOf vs.toArray nl) :: tups))
    (hlt : ∀ p ∈ (pen, po) :: (cells, oc) :: (TT, oT) :: (lr, PySem.W.listOf vs.toArray nl) :: tups, p.1 < dx) (hdx : dx < x) (hlr : @Ne Nat pen lr) (hot : ∀ p ∈ tups, p.1 ≠ pen)
    (e1 : getL "rows" es = some (some (.ref lr))) (e2 : getL "is_backward" es = some (some (.bool ib))) (hR : Paired (RowIn tups) vs rs) (ha : ∀ r ∈ rs, 0 ≤ r.adv) (hl : rs.length ≤ 10) : LawAt h₀ h L pen cells x po oc := by
  have hp : pen < dx := hlt (pen, po) (by simp)
  have hvl := hR.length
  refine ⟨(x, instObj 45 dx) :: (dx, dictOf es n) :: (lr, PySem.W.listOf vs.toArray nl) :: tups, vs, rs, fun p hp => N p ?_, ?_, ⟨⟨dx, es, n, lr, nl, ib, by simp, by simp, e1, e2, by simp⟩, Paired.mono (fun _ _ q => q.more fun p hp => by simp [hp]) hR, by omega⟩, ha, hl⟩
  · simp only [List.mem_cons] at hp ⊢
    rcases hp with h | h | h | h | h | h <;> simp [h]
  · simp only [List.forall_mem_cons]
    exact ⟨Nat.ne_of_gt (Nat.lt_trans hp hdx), Nat.ne_of_gt hp, Ne.symm hlr, hot⟩
theorem ShapedIn.sub {h₀ h : Heap} {L x pen cells : Addr} {po oc : Obj} {led X : List (Addr × Obj)} {vs : List Value} {rs : List Row} (S : ShapedIn X x vs rs) (N : News h₀ L h led) (hs : ∀ p ∈ X, p ∈ led) : ShapedAt h x vs rs := S.at fun p hp => N p (hs p hp)
theorem law_lines {h₀ h h' : Heap} {L x pen cells D : Addr} {po oc : Obj} {m : Str → Option Value} {X tups : List (Addr × Obj)} {vs ds : List Value} {rs : List Row} {ls : List (Int × Int)} {n : Nat} (F : Fr h₀ L h m) (N : News h₀ L h ((pen, po) :: (cells, oc) :: X)) (k : Kp h h') (f : h.get? D = none) (g : h'.get? D = some (PySem.W.listOf (List.toArray ds) n)) (q : FreshIn h h' tups)
    (hXp : ∀ p ∈ X, p.1 ≠ pen) (S : ShapedIn X x vs rs) (r : Paired (PairIn tups) ds ls) :
    ∃ Y, News h₀ L h' ((pen, po) :: (cells, oc) :: (D, PySem.W.listOf (List.toArray ds) n) :: Y) ∧ (∀ p ∈ Y, p.1 ≠ pen) ∧ (@Ne Nat D pen) ∧ ShapedIn Y x vs rs ∧ Paired (PairIn Y) ds ls := by
  have hD : pen ≠ D := fresh_lt N f (pen, po) (by simp)
  have ht := fresh_off (pen := pen) (po := po) N (by simp) q
  refine ⟨X ++ tups, fun p hp => news_fresh F N k (fresh_cons f g q) p ?_, fun p hp => ?_, Ne.symm hD, S.more fun p hp => List.mem_append_left _ hp, Paired.mono (fun _ _ z => z.more fun p hp => List.mem_append_right _ hp) r⟩
  · simp only [List.mem_cons, List.mem_append] at hp ⊢
    rcases hp with h | h | h | h | h <;> simp [h]
  · rcases List.mem_append.mp hp with h | h
    · exact hXp p h
    · exact ht p h
theorem ints_places {ds : List Value} {ps : List Int} {len : Int} {t t' : Tok} (i : IntsAre ds ps) : IntsAre ([Value.int 0 t] ++ ds ++ [Value.int len t']) (0 :: (ps ++ [len])) := .cons 0 t (IntsAre.append i (.cons _ _ .nil))
theorem law_shaped {h₀ h h' : Heap} {L x pen cells D1 D3 : Addr} {po oc o1 : Obj} {m : Str → Option Value} {Y obs : List (Addr × Obj)} {vs ds1 ds3 : List Value} {rs : List Row} {ls : List (Int × Int)} {n : Nat} (F : Fr h₀ L h m) (N : News h₀ L h ((pen, po) :: (cells, oc) :: (D1, o1) :: Y)) (k : Kp h h')
    (q : FreshIn h h' ((D3, PySem.W.listOf (List.toArray ds3) n) :: obs)) (hYp : ∀ p ∈ Y, p.1 ≠ pen) (S : ShapedIn Y x vs rs) (r : Paired (PairIn Y) ds1 ls) (t : Paired (fun v (p : Int × Int) => ∃ a' vs', v = .ref a' ∧ ShapedIn obs a' vs' (cutOf rs p.1 p.2)) ds3 ls) :
    ∃ Z, News h₀ L h' ((pen, po) :: (cells, oc) :: (D1, o1) :: (D3, PySem.W.listOf (List.toArray ds3) n) :: Z) ∧ (∀ p ∈ Z, p.1 ≠ pen) ∧ (@Ne Nat D3 pen) ∧ ShapedIn Z x vs rs ∧ Paired (PairIn Z) ds1 ls ∧ Paired (fun v (p : Int × Int) => ∃ a' vs', v = .ref a' ∧ ShapedIn Z a' vs' (cutOf rs p.1 p.2)) ds3 ls := by
  have ht := fresh_off (pen := pen) (po := po) N (by simp) q
  refine ⟨Y ++ obs, fun p hp => news_fresh F N k q p ?_, fun p hp => ?_, ht (D3, _) List.mem_cons_self, S.more fun p hp => List.mem_append_left _ hp, Paired.mono (fun _ _ z => z.more fun p hp => List.mem_append_left _ hp) r,
    Paired.mono (fun v p ⟨a', vs', e, z⟩ => ⟨a', vs', e, z.more fun p hp => List.mem_append_right _ hp⟩) t⟩
  · simp only [List.mem_cons, List.mem_append] at hp ⊢
    rcases hp with h | h | h | h | h | h <;> simp [h]
  · rcases List.mem_append.mp hp with h | h
    · exact hYp p h
    · exact ht p (List.mem_cons_of_mem _ h)
theorem fr_of2 {h₀ h : Heap} {L : Addr} {x x' : Str} {m₁ : Str → Option Value} {v v' : Option Value} {ps : List (Str × Value)} (h1 : ∀ p ∈ ps, m₁ p.1 = some p.2) (F : Fr h₀ L h (fun y => if y = x then v else if y = x' then v' else m₁ y)) :
    Fr h₀ L h (fun y => if y = x then v else if y = x' then v' else kstB m₁ ps y) := by
  have e : kstB m₁ ps = m₁ := funext fun z => kstB_eq h1 fun _ => rfl
  rw [e]; exact F
theorem cut_len {rs : List Row} {b e : Int} : (cutOf rs b e).length ≤ rs.length := by
  unfold cutOf
  rw [List.length_map]
  exact List.length_filter_le _ _
theorem breaks_le {rs : List Row} {len : Int} {ps : List Int} (h : IsBreaks rs len ps) : ∀ x ∈ ps ++ [len], x ≤ len := fun x hx => by
  rcases List.mem_append.mp hx with q | q
  · exact Int.le_of_lt ((h.2.2 x).mp q).2.1
  · rw [List.mem_singleton] at q; subst q; exact Int.le_refl _
theorem cut_adv {rs : List Row} {b e : Int} (h : ∀ r ∈ rs, 0 ≤ r.adv) : ∀ r ∈ cutOf rs b e, 0 ≤ r.adv := fun r hr => by
  obtain ⟨x, hx, rfl⟩ := List.mem_map.mp hr
  exact h x (List.mem_filter.mp hx).1
theorem turn_news {h₀ h : Heap} {L : Addr} {a b c d e : Addr × Obj} {Z own : List (Addr × Obj)} (N : News h₀ L h (a :: b :: c :: d :: e :: (Z ++ own))) : News h₀ L h ((a :: b :: c :: d :: Z) ++ own) := fun p hp => N p (by
  simp only [List.cons_append, List.mem_cons, List.mem_append] at hp ⊢
  rcases hp with h | h | h | h | h | h <;> simp [h])
def LawEnd (s₁ : Shared) (fl : Flow) (s' : Shared) : Prop := fl = .ret (.bool true) ∧ ∃ h' tk dr m, s' = { s₁ with heap := h', toks := tk, drawn := dr } ∧ Fr s₁.heap s₁.heap.objs.size h' m

local macro_rules | `(tactic| walk_at "subscriptTail Name Slice ref ref") => `(tactic| (k_here; (with_reducible show wpAny _ _ (subscriptTail _ (PySem.Expr.Slice none none (some _) _) (Value.ref _) (Value.ref _)) _ _ _); k_dflt (refine' krv_lit ?F ?N ?l ?k ?e ?_ ?s ?t ?z; (case F => k_asm); (case N => k_asm); (case l => exact led_list (by k_asm) (by k_mem)); (case k => exact IsPart.int _ _); (case e => exact rfl); (case s => with_unfolding_all rfl); (case t => kmk_pure); (case z => (rw [List.size_toArray, PySem.sizeLine_eq]; omega))); intro D' h' F' N' l1; (try k_lt l1); (try k_sweep)))

set_option maxHeartbeats 8000000 in
theorem law_holds : PySem.Challenge.rw_pb0148_01.Holds := hd (by
  clear law_holds
  k_go0
  (all_goals try k_fold)
  rename_i w s₀ s₁ mg mb G Y fa o pm doc kV ho hg KX X V GL T B TE TW w9 w8 M w7 w6 hcd w5 hs hlay0 hL0 hr0 hl2 w4 w3 w2 w1 w0 hL ra wl r0 hI hr2 h63 hc1 K0 hD h₁ F N
  refine wpAny_mono (Q := fun fl s' => LawEnd s₁ fl s') (E := fun _ _ => False) ?walk ?fin (fun _ _ h => h.elim)
  case fin =>
    rintro fl s' ⟨rfl, h', tk, dr, m, rfl, F'⟩
    dsimp only
    refine goodW_bool F' hg (raisesW_false ?_) ?_
    · wrow_none_raised
    · wrow_post
  case walk =>
  clear hD K0 hc1 hr2 r0 wl ra hl2 hr0 hL0 hlay0 hs M TW TE B GL V X hg ho Y G
  have hIl := hI.length
  try clear hcd w7 w6 w8 w9 w0 w3 w4
  generalize hA : callerA = A
  have hcd : A.depth + 20 < recursionLimit := by rw [← hA]; decide
  have hcu : A.units + 300 < cLine := by rw [← hA]; decide
  have hah : A.handled = none := by rw [← hA]; rfl
  clear hA
  obtain ⟨ahd, dp, fr, gd, un⟩ := A
  obtain rfl : ahd = none := hah
  dsimp only at hcd hcu
  try dsimp only at F N ⊢
  (repeat' (first | (k_unfold; (try dsimp only)) | ((fail_if_success (with_reducible show wpAny _ _ (call (Value.ref _) _) _ _ _)); (fail_if_success (with_reducible show wpAny _ _ (call (Value.type "zip") _) _ _ _)); (fail_if_success (with_reducible show wpAny _ _ (compareOp _ (Value.ref _) (Value.ref _)) _ _ _)); (( (fail_if_success (with_reducible show wpAny _ _ (eval (Expr.ListComp _ _ _ _) _) _ _ _)); (fail_if_success (with_reducible show wpAny _ _ (exec (Stmt.Assign _ (Expr.ListComp _ _ _ _) _) _) _ _ _)); (fail_if_success (with_reducible show wpAny _ _ (exec (Stmt.For _ _ _ _ _) _) _ _ _)); (fail_if_success (with_reducible show wpAny _ _ (exec (Stmt.While _ _ _ _) _) _ _ _)); (fail_if_success (with_reducible show wpAny _ _ (pyIter (Value.ref _)) _ _ _)); (fail_if_success (with_reducible show LCt.CompSrcT _ _ _ _ _ _ _ _ _ _ _ _ _ _ _)); (fail_if_success (with_reducible show LCt.CompRestT _ _ _ _ _ _ _ _ _ _ _ _ _ _ _ _ _ _ _ _)); (fail_if_success (with_reducible show LCg.CompSrc _ _ _ _ _ _ _ _ _ _ _ _ _ _)))); first | walk1 | (dsimp only; walk1) | (leave1; walk_say "STEP leave1"; try dsimp only)) | fail "no step"))
  rename Fr _ _ _ _ => F
  rename News _ _ _ _ => N
  refine wpAny_call (pen_spec (by walk_at "MY amb") (F.lst hL) hI (by omega) ?_)
  intro h9 tk9 pen cells po k9 f9 c9 P0 g9 C9 hne
  obtain ⟨oc, gc9, hoc⟩ := cells_obj C9
  have N9 := news_fresh F N k9 (fresh_cons f9 g9 (fresh_cons c9 gc9 fresh_nil))
  have F9 := F.keeps k9
  clear k9 f9 c9 g9 C9 gc9 F N
  simp only [List.nil_append] at N9
  replace hne : @Ne Nat cells pen := hne
  try dsimp only
  (repeat' (first | (k_unfold; (try dsimp only)) | ((fail_if_success (with_reducible show wpAny _ _ (call (Value.ref _) _) _ _ _)); (fail_if_success (with_reducible show wpAny _ _ (call (Value.type "zip") _) _ _ _)); (fail_if_success (with_reducible show wpAny _ _ (compareOp _ (Value.ref _) (Value.ref _)) _ _ _)); (( (fail_if_success (with_reducible show wpAny _ _ (eval (Expr.ListComp _ _ _ _) _) _ _ _)); (fail_if_success (with_reducible show wpAny _ _ (exec (Stmt.Assign _ (Expr.ListComp _ _ _ _) _) _) _ _ _)); (fail_if_success (with_reducible show wpAny _ _ (exec (Stmt.For _ _ _ _ _) _) _ _ _)); (fail_if_success (with_reducible show wpAny _ _ (exec (Stmt.While _ _ _ _) _) _ _ _)); (fail_if_success (with_reducible show wpAny _ _ (pyIter (Value.ref _)) _ _ _)); (fail_if_success (with_reducible show LCt.CompSrcT _ _ _ _ _ _ _ _ _ _ _ _ _ _ _)); (fail_if_success (with_reducible show LCt.CompRestT _ _ _ _ _ _ _ _ _ _ _ _ _ _ _ _ _ _ _ _)); (fail_if_success (with_reducible show LCg.CompSrc _ _ _ _ _ _ _ _ _ _ _ _ _ _)))); first | walk1 | (dsimp only; walk1) | (leave1; walk_say "STEP leave1"; try dsimp only)) | fail "no step"))
  rename Fr _ _ _ _ => F
  rename News _ _ _ _ => N
  refine wpAny_call (rows_spec (amb_hide KX T F.keep N (by k_mem) rfl (by ((simp only [depth_deeper, units_deeper, depth_in1, units_in1]; omega))) (by ((simp only [depth_deeper, units_deeper, depth_in1, units_in1]; omega)))) (N.get (by k_mem)) P0 (hoc _ (N.get (by k_mem))) hne (by decide) (by decide) ?_)
  intro h9 tk9 TT lr vs rs c tc k1 po1 nl nT tups k9 P1 g9 lo9 hi9 gT gl fl fT ft hR hrne hrlen hwf
  have F9 := fr_pen F N (by k_mem) k9
  have N8 := news_pen N (by k_upd) k9 g9
  have hoT := fresh_lt N fT
  have hol := fresh_lt N fl
  have hot := fresh_off N (by k_mem) ft
  have N9 := news_add F N8 (fresh_cons fT gT (fresh_cons fl gl ft))
  simp only [List.forall_mem_cons] at hoT hol
  obtain ⟨oT, _⟩ := hoT
  obtain ⟨ol, _⟩ := hol
  replace oT : @Ne Nat pen TT := oT
  replace ol : @Ne Nat pen lr := ol
  clear k9 g9 gT gl fl fT ft F N N8 P0
  simp only [List.cons_append, List.nil_append] at N9
  try dsimp only
  (repeat' (first | (k_unfold; (try dsimp only)) | ((fail_if_success (with_reducible show wpAny _ _ (call (Value.ref _) _) _ _ _)); (fail_if_success (with_reducible show wpAny _ _ (call (Value.type "zip") _) _ _ _)); (fail_if_success (with_reducible show wpAny _ _ (compareOp _ (Value.ref _) (Value.ref _)) _ _ _)); (( (fail_if_success (with_reducible show wpAny _ _ (eval (Expr.ListComp _ _ _ _) _) _ _ _)); (fail_if_success (with_reducible show wpAny _ _ (exec (Stmt.Assign _ (Expr.ListComp _ _ _ _) _) _) _ _ _)); (fail_if_success (with_reducible show wpAny _ _ (exec (Stmt.For _ _ _ _ _) _) _ _ _)); (fail_if_success (with_reducible show wpAny _ _ (exec (Stmt.While _ _ _ _) _) _ _ _)); (fail_if_success (with_reducible show wpAny _ _ (pyIter (Value.ref _)) _ _ _)); (fail_if_success (with_reducible show LCt.CompSrcT _ _ _ _ _ _ _ _ _ _ _ _ _ _ _)); (fail_if_success (with_reducible show LCt.CompRestT _ _ _ _ _ _ _ _ _ _ _ _ _ _ _ _ _ _ _ _)); (fail_if_success (with_reducible show LCg.CompSrc _ _ _ _ _ _ _ _ _ _ _ _ _ _)))); first | walk1 | (dsimp only; walk1) | (leave1; walk_say "STEP leave1"; try dsimp only)) | fail "no step"))
  rename Fr _ _ _ _ => F
  rename News _ _ _ _ => N
  refine wpAny_call (draw_spec (amb_hide KX T F.keep N (by k_mem) rfl (by ((simp only [depth_deeper, units_deeper, depth_in1, units_in1]; omega))) (by ((simp only [depth_deeper, units_deeper, depth_in1, units_in1]; omega)))) (N.get (by k_mem)) P1 (hoc _ (N.get (by k_mem))) hne (by omega) (by omega) (by decide) (by decide) ?_)
  intro h9 tk9 t9 d1 po9 k9 P2 g9 lo1 hi1
  have F9 := fr_pen F N (by k_mem) k9
  have N9 := news_pen N (by k_upd) k9 g9
  clear k9 g9 F N P1
  try dsimp only
  (repeat' (first | (k_unfold; (try dsimp only)) | ((fail_if_success (with_reducible show wpAny _ _ (call (Value.ref _) _) _ _ _)); (fail_if_success (with_reducible show wpAny _ _ (call (Value.type "zip") _) _ _ _)); (fail_if_success (with_reducible show wpAny _ _ (compareOp _ (Value.ref _) (Value.ref _)) _ _ _)); (( (fail_if_success (with_reducible show wpAny _ _ (eval (Expr.ListComp _ _ _ _) _) _ _ _)); (fail_if_success (with_reducible show wpAny _ _ (exec (Stmt.Assign _ (Expr.ListComp _ _ _ _) _) _) _ _ _)); (fail_if_success (with_reducible show wpAny _ _ (exec (Stmt.For _ _ _ _ _) _) _ _ _)); (fail_if_success (with_reducible show wpAny _ _ (exec (Stmt.While _ _ _ _) _) _ _ _)); (fail_if_success (with_reducible show wpAny _ _ (pyIter (Value.ref _)) _ _ _)); (fail_if_success (with_reducible show LCt.CompSrcT _ _ _ _ _ _ _ _ _ _ _ _ _ _ _)); (fail_if_success (with_reducible show LCt.CompRestT _ _ _ _ _ _ _ _ _ _ _ _ _ _ _ _ _ _ _ _)); (fail_if_success (with_reducible show LCg.CompSrc _ _ _ _ _ _ _ _ _ _ _ _ _ _)))); first | walk1 | (dsimp only; walk1) | (leave1; walk_say "STEP leave1"; try dsimp only)) | fail "no step"))
  rename Fr _ _ _ _ => F
  rename News _ _ _ _ => N
  refine wpAny_call (draw_spec (amb_hide KX T F.keep N (by k_mem) rfl (by ((simp only [depth_deeper, units_deeper, depth_in1, units_in1]; omega))) (by ((simp only [depth_deeper, units_deeper, depth_in1, units_in1]; omega)))) (N.get (by k_mem)) P2 (hoc _ (N.get (by k_mem))) hne (by omega) (by omega) (by decide) (by decide) ?_)
  intro h9 tk9 t9 d2 po9 k9 P3 g9 lo2 hi2
  have F9 := fr_pen F N (by k_mem) k9
  have N9 := news_pen N (by k_upd) k9 g9
  clear k9 g9 F N P2
  try dsimp only
  have hvl := hR.length
  (repeat' (first | (k_unfold; (try dsimp only)) | ((fail_if_success (with_reducible show wpAny _ _ (call (Value.ref _) _) _ _ _)); (fail_if_success (with_reducible show wpAny _ _ (call (Value.type "zip") _) _ _ _)); (fail_if_success (with_reducible show wpAny _ _ (compareOp _ (Value.ref _) (Value.ref _)) _ _ _)); (( (fail_if_success (with_reducible show wpAny _ _ (eval (Expr.ListComp _ _ _ _) _) _ _ _)); (fail_if_success (with_reducible show wpAny _ _ (exec (Stmt.Assign _ (Expr.ListComp _ _ _ _) _) _) _ _ _)); (fail_if_success (with_reducible show wpAny _ _ (exec (Stmt.For _ _ _ _ _) _) _ _ _)); (fail_if_success (with_reducible show wpAny _ _ (exec (Stmt.While _ _ _ _) _) _ _ _)); (fail_if_success (with_reducible show wpAny _ _ (pyIter (Value.ref _)) _ _ _)); (fail_if_success (with_reducible show LCt.CompSrcT _ _ _ _ _ _ _ _ _ _ _ _ _ _ _)); (fail_if_success (with_reducible show LCt.CompRestT _ _ _ _ _ _ _ _ _ _ _ _ _ _ _ _ _ _ _ _)); (fail_if_success (with_reducible show LCg.CompSrc _ _ _ _ _ _ _ _ _ _ _ _ _ _)))); first | walk1 | (dsimp only; walk1) | (leave1; walk_say "STEP leave1"; try dsimp only)) | fail "no step"))
  all_goals
    rename Fr _ _ _ _ => F
    rename News _ _ _ _ => N
    refine shaped_new F KX T N rfl (by ((simp only [depth_deeper, units_deeper, depth_in1, units_in1]; omega))) (by ((simp only [depth_deeper, units_deeper, depth_in1, units_in1]; omega))) ?_
    intro x dx es n h9 tk9 F9 N9 l9 q9 e9 f9
    have hat : LawAt s₁.heap h9 s₁.heap.objs.size pen cells x po9 oc := by
      first
        | exact law_fwd N9 l9 q9 ol hot e9 f9 hR (wf_adv hwf).1 hrlen
        | exact law_back N9 l9 q9 (by assumption : pen < _ ∧ _).1 hot e9 f9 hR (wf_adv hwf).1 hrlen
    have hc0 := (wf_adv hwf).2
    clear N9 F N l9 q9 e9 f9
    obtain ⟨X, vs', rs', N, hXp, S, hadv, hrl⟩ := hat
    have hl0 : 0 < c + 1 + d2 := by omega
    dsimp only
    (repeat' (first | (k_unfold; (try dsimp only)) | ((fail_if_success (with_reducible show wpAny _ _ (call (Value.ref _) _) _ _ _)); (fail_if_success (with_reducible show wpAny _ _ (call (Value.type "zip") _) _ _ _)); (fail_if_success (with_reducible show wpAny _ _ (compareOp _ (Value.ref _) (Value.ref _)) _ _ _)); (( (fail_if_success (with_reducible show wpAny _ _ (eval (Expr.ListComp _ _ _ _) _) _ _ _)); (fail_if_success (with_reducible show wpAny _ _ (exec (Stmt.Assign _ (Expr.ListComp _ _ _ _) _) _) _ _ _)); (fail_if_success (with_reducible show wpAny _ _ (exec (Stmt.For _ _ _ _ _) _) _ _ _)); (fail_if_success (with_reducible show wpAny _ _ (exec (Stmt.While _ _ _ _) _) _ _ _)); (fail_if_success (with_reducible show wpAny _ _ (pyIter (Value.ref _)) _ _ _)); (fail_if_success (with_reducible show LCt.CompSrcT _ _ _ _ _ _ _ _ _ _ _ _ _ _ _)); (fail_if_success (with_reducible show LCt.CompRestT _ _ _ _ _ _ _ _ _ _ _ _ _ _ _ _ _ _ _ _)); (fail_if_success (with_reducible show LCg.CompSrc _ _ _ _ _ _ _ _ _ _ _ _ _ _)))); first | walk1 | (dsimp only; walk1) | (leave1; walk_say "STEP leave1"; try dsimp only)) | fail "no step"))
    rename Fr _ _ _ _ => F
    rename News _ _ _ _ => N
    refine wpAny_call (draw_spec (amb_hide KX T F.keep N (by k_mem) rfl (by ((simp only [depth_deeper, units_deeper, depth_in1, units_in1]; omega))) (by ((simp only [depth_deeper, units_deeper, depth_in1, units_in1]; omega)))) (N.get (by k_mem)) P3 (hoc _ (N.get (by k_mem))) hne (by omega) (by omega) (by decide) (by decide) ?_)
    intro h9 tk9 t9 d3 po9 k9 P4 g9 lo3 hi3
    have F9 := fr_pen F N (by k_mem) k9
    have N9 := news_pen N (by k_upd) k9 g9
    clear k9 g9 F N P3
    try dsimp only
    (repeat' (first | (k_unfold; (try dsimp only)) | ((fail_if_success (with_reducible show wpAny _ _ (call (Value.ref _) _) _ _ _)); (fail_if_success (with_reducible show wpAny _ _ (call (Value.type "zip") _) _ _ _)); (fail_if_success (with_reducible show wpAny _ _ (compareOp _ (Value.ref _) (Value.ref _)) _ _ _)); (( (fail_if_success (with_reducible show wpAny _ _ (eval (Expr.ListComp _ _ _ _) _) _ _ _)); (fail_if_success (with_reducible show wpAny _ _ (exec (Stmt.Assign _ (Expr.ListComp _ _ _ _) _) _) _ _ _)); (fail_if_success (with_reducible show wpAny _ _ (exec (Stmt.For _ _ _ _ _) _) _ _ _)); (fail_if_success (with_reducible show wpAny _ _ (exec (Stmt.While _ _ _ _) _) _ _ _)); (fail_if_success (with_reducible show wpAny _ _ (pyIter (Value.ref _)) _ _ _)); (fail_if_success (with_reducible show LCt.CompSrcT _ _ _ _ _ _ _ _ _ _ _ _ _ _ _)); (fail_if_success (with_reducible show LCt.CompRestT _ _ _ _ _ _ _ _ _ _ _ _ _ _ _ _ _ _ _ _)); (fail_if_success (with_reducible show LCg.CompSrc _ _ _ _ _ _ _ _ _ _ _ _ _ _)))); first | walk1 | (dsimp only; walk1) | (leave1; walk_say "STEP leave1"; try dsimp only)) | fail "no step"))
    rename Fr _ _ _ _ => F
    rename News _ _ _ _ => N
    refine wpAny_call (lines_spec (by walk_at "MY amb") (S.sub (pen := pen) (cells := cells) (po := po9) (oc := oc) N (fun p hp => by simp [hp])) (by omega) hl0 ?_)
    intro h9 tk9 dr9 D1 ds1 ps1 ls1 n1 tups1 k9 f9 g9 q9 u9 r9 z9 b1 L1
    have hat := law_lines F N k9 f9 g9 q9 hXp S r9
    have F9 := F.keeps k9
    clear k9 f9 g9 q9 u9 r9 F N hXp S
    obtain ⟨Y, N9, hYp, hD1, S, hpairs⟩ := hat
    try dsimp only
    (repeat' (first | (k_unfold; (try dsimp only)) | ((fail_if_success (with_reducible show wpAny _ _ (call (Value.ref _) _) _ _ _)); (fail_if_success (with_reducible show wpAny _ _ (call (Value.type "zip") _) _ _ _)); (fail_if_success (with_reducible show wpAny _ _ (compareOp _ (Value.ref _) (Value.ref _)) _ _ _)); (( (fail_if_success (with_reducible show wpAny _ _ (eval (Expr.ListComp _ _ _ _) _) _ _ _)); (fail_if_success (with_reducible show wpAny _ _ (exec (Stmt.Assign _ (Expr.ListComp _ _ _ _) _) _) _ _ _)); (fail_if_success (with_reducible show wpAny _ _ (exec (Stmt.For _ _ _ _ _) _) _ _ _)); (fail_if_success (with_reducible show wpAny _ _ (exec (Stmt.While _ _ _ _) _) _ _ _)); (fail_if_success (with_reducible show wpAny _ _ (pyIter (Value.ref _)) _ _ _)); (fail_if_success (with_reducible show LCt.CompSrcT _ _ _ _ _ _ _ _ _ _ _ _ _ _ _)); (fail_if_success (with_reducible show LCt.CompRestT _ _ _ _ _ _ _ _ _ _ _ _ _ _ _ _ _ _ _ _)); (fail_if_success (with_reducible show LCg.CompSrc _ _ _ _ _ _ _ _ _ _ _ _ _ _)))); first | walk1 | (dsimp only; walk1) | (leave1; walk_say "STEP leave1"; try dsimp only)) | fail "no step"))
    rename Fr _ _ _ _ => F
    rename News _ _ _ _ => N
    refine wpAny_call (break_spec (by walk_at "MY amb") (S.sub (pen := pen) (cells := cells) (po := po9) (oc := oc) N (fun p hp => by simp [hp])) (by omega) ?_)
    intro h9 tk9 dr9 D2 ds2 ps2 n2 k9 f9 g9 i2 z2 b2
    have l9 := fresh_lt N f9
    have N9 := news_new F N k9 f9 g9
    have F9 := F.keeps k9
    clear k9 f9 g9 F N
    try dsimp only
    have hds1 := hpairs.length
    have hi2l := i2.length
    (repeat' (first | (k_unfold; (try dsimp only)) | ((fail_if_success (with_reducible show wpAny _ _ (call (Value.ref _) _) _ _ _)); (fail_if_success (with_reducible show wpAny _ _ (call (Value.type "zip") _) _ _ _)); (fail_if_success (with_reducible show wpAny _ _ (compareOp _ (Value.ref _) (Value.ref _)) _ _ _)); (( (fail_if_success (with_reducible show wpAny _ _ (eval (Expr.ListComp _ _ _ _) _) _ _ _)); (fail_if_success (with_reducible show wpAny _ _ (exec (Stmt.Assign _ (Expr.ListComp _ _ _ _) _) _) _ _ _)); (fail_if_success (with_reducible show wpAny _ _ (exec (Stmt.For _ _ _ _ _) _) _ _ _)); (fail_if_success (with_reducible show wpAny _ _ (exec (Stmt.While _ _ _ _) _) _ _ _)); (fail_if_success (with_reducible show wpAny _ _ (pyIter (Value.ref _)) _ _ _)); (fail_if_success (with_reducible show LCt.CompSrcT _ _ _ _ _ _ _ _ _ _ _ _ _ _ _)); (fail_if_success (with_reducible show LCt.CompRestT _ _ _ _ _ _ _ _ _ _ _ _ _ _ _ _ _ _ _ _)); (fail_if_success (with_reducible show LCg.CompSrc _ _ _ _ _ _ _ _ _ _ _ _ _ _)))); first | walk1 | (dsimp only; walk1) | (leave1; walk_say "STEP leave1"; try dsimp only)) | fail "no step"))
    rename Fr _ _ _ _ => F
    rename News _ _ _ _ => N
    obtain rfl := breaks_eq b1 b2
    have hpl1 := b1.2.1
    refine wpAny_call (fewest_spec (by walk_at "MY amb") (S.sub (pen := pen) (cells := cells) (po := po9) (oc := oc) N (fun p hp => by simp [hp])) (led_list N (by k_mem)) (ints_places i2) (by simp) (by simp only [List.length_cons, List.length_append, List.length_nil]; omega) (breaks_rise0 b1 hl0) ?_)
    intro h9 tk9 t9' nf k9 hfew
    have hnf := fewest_is (breaks_rise0 b1 hl0) hadv ⟨ps1, rfl⟩ hfew L1
    have N9 : News s₁.heap s₁.heap.objs.size h9 ((pen, po9) :: (cells, oc) :: (D1, PySem.W.listOf (List.toArray ds1) n1) :: Y) := fun p hp => N.grown k9 p (by
      simp only [List.mem_cons] at hp ⊢
      rcases hp with h | h | h | h <;> simp [h])
    have F9 := F.keeps k9
    clear k9 F N hfew
    try dsimp only
    (repeat' (first | (k_unfold; (try dsimp only)) | ((fail_if_success (with_reducible show wpAny _ _ (call (Value.ref _) _) _ _ _)); (fail_if_success (with_reducible show wpAny _ _ (call (Value.type "zip") _) _ _ _)); (fail_if_success (with_reducible show wpAny _ _ (compareOp _ (Value.ref _) (Value.ref _)) _ _ _)); (( (fail_if_success (with_reducible show wpAny _ _ (eval (Expr.ListComp _ _ _ _) _) _ _ _)); (fail_if_success (with_reducible show wpAny _ _ (exec (Stmt.Assign _ (Expr.ListComp _ _ _ _) _) _) _ _ _)); (fail_if_success (with_reducible show wpAny _ _ (exec (Stmt.For _ _ _ _ _) _) _ _ _)); (fail_if_success (with_reducible show wpAny _ _ (exec (Stmt.While _ _ _ _) _) _ _ _)); (fail_if_success (with_reducible show wpAny _ _ (pyIter (Value.ref _)) _ _ _)); (fail_if_success (with_reducible show LCt.CompSrcT _ _ _ _ _ _ _ _ _ _ _ _ _ _ _)); (fail_if_success (with_reducible show LCt.CompRestT _ _ _ _ _ _ _ _ _ _ _ _ _ _ _ _ _ _ _ _)); (fail_if_success (with_reducible show LCg.CompSrc _ _ _ _ _ _ _ _ _ _ _ _ _ _)))); first | walk1 | (dsimp only; walk1) | (leave1; walk_say "STEP leave1"; try dsimp only)) | fail "no step"))
    all_goals first | (exfalso; omega) | skip
    refine wpAny_For ?_ (by intro _; rfl)
    (repeat' (first | (k_unfold; (try dsimp only)) | ((fail_if_success (with_reducible show wpAny _ _ (call (Value.ref _) _) _ _ _)); (fail_if_success (with_reducible show wpAny _ _ (call (Value.type "zip") _) _ _ _)); (fail_if_success (with_reducible show wpAny _ _ (compareOp _ (Value.ref _) (Value.ref _)) _ _ _)); (( (fail_if_success (with_reducible show wpAny _ _ (eval (Expr.ListComp _ _ _ _) _) _ _ _)); (fail_if_success (with_reducible show wpAny _ _ (exec (Stmt.Assign _ (Expr.ListComp _ _ _ _) _) _) _ _ _)); (fail_if_success (with_reducible show wpAny _ _ (exec (Stmt.For _ _ _ _ _) _) _ _ _)); (fail_if_success (with_reducible show wpAny _ _ (exec (Stmt.While _ _ _ _) _) _ _ _)); (fail_if_success (with_reducible show wpAny _ _ (pyIter (Value.ref _)) _ _ _)); (fail_if_success (with_reducible show LCt.CompSrcT _ _ _ _ _ _ _ _ _ _ _ _ _ _ _)); (fail_if_success (with_reducible show LCt.CompRestT _ _ _ _ _ _ _ _ _ _ _ _ _ _ _ _ _ _ _ _)); (fail_if_success (with_reducible show LCg.CompSrc _ _ _ _ _ _ _ _ _ _ _ _ _ _)))); first | walk1 | (dsimp only; walk1) | (leave1; walk_say "STEP leave1"; try dsimp only)) | fail "no step"))
    rename Fr _ _ _ _ => F
    rename News _ _ _ _ => N
    refine wpAny_call (slines_spec (by walk_at "MY amb") (S.sub (pen := pen) (cells := cells) (po := po9) (oc := oc) N (fun p hp => by simp [hp])) (by omega) hl0 ?_)
    intro h9 tk9 dr9 D3 ds3 ps3 ls3 n3 obs3 k9 q9 b3 L3 hsh
    obtain rfl := breaks_eq b1 b3
    obtain rfl := lines_same (breaks_rise b1) hadv L1 L3
    have hat := law_shaped F N k9 q9 hYp S hpairs hsh
    have F9 := F.keeps k9
    clear k9 q9 F N hYp S hpairs hsh
    obtain ⟨Z, N9, hZp, hD3, S, hpairs, hsh⟩ := hat
    try dsimp only
    (repeat' (first | (k_unfold; (try dsimp only)) | ((fail_if_success (with_reducible show wpAny _ _ (call (Value.ref _) _) _ _ _)); (fail_if_success (with_reducible show wpAny _ _ (call (Value.type "zip") _) _ _ _)); (fail_if_success (with_reducible show wpAny _ _ (compareOp _ (Value.ref _) (Value.ref _)) _ _ _)); (( (fail_if_success (with_reducible show wpAny _ _ (eval (Expr.ListComp _ _ _ _) _) _ _ _)); (fail_if_success (with_reducible show wpAny _ _ (exec (Stmt.Assign _ (Expr.ListComp _ _ _ _) _) _) _ _ _)); (fail_if_success (with_reducible show wpAny _ _ (exec (Stmt.For _ _ _ _ _) _) _ _ _)); (fail_if_success (with_reducible show wpAny _ _ (exec (Stmt.While _ _ _ _) _) _ _ _)); (fail_if_success (with_reducible show wpAny _ _ (pyIter (Value.ref _)) _ _ _)); (fail_if_success (with_reducible show LCt.CompSrcT _ _ _ _ _ _ _ _ _ _ _ _ _ _ _)); (fail_if_success (with_reducible show LCt.CompRestT _ _ _ _ _ _ _ _ _ _ _ _ _ _ _ _ _ _ _ _)); (fail_if_success (with_reducible show LCg.CompSrc _ _ _ _ _ _ _ _ _ _ _ _ _ _)))); first | walk1 | (dsimp only; walk1) | (leave1; walk_say "STEP leave1"; try dsimp only)) | fail "no step"))
    rename Fr _ _ _ _ => F
    rename News _ _ _ _ => N
    refine' for_zip [((Str.ofString "shaped"), Value.ref x), ((Str.ofString "length"), .int (c + 1 + d2) _), ((Str.ofString "width"), .int d3 t9), ((Str.ofString "lines"), .ref D1), ((Str.ofString "pen"), .ref pen)] rfl (by rfl) (by rfl) (by rfl) F N (by k_mem) (by k_mem) ?names ?step ?hR
    case names => ((repeat' (first | exact List.forall_mem_nil _ | (refine List.forall_mem_cons.mpr ⟨?_, ?_⟩; k_dflt rfl))))
    case hR =>
      intro h' tk' dr' m' F' N' hm'
      have F2 := fr_of' hm' F'
      clear F' F N
      dsimp only
      (repeat' (first | (k_unfold; (try dsimp only)) | ((fail_if_success (with_reducible show wpAny _ _ (call (Value.ref _) _) _ _ _)); (fail_if_success (with_reducible show wpAny _ _ (call (Value.type "zip") _) _ _ _)); (fail_if_success (with_reducible show wpAny _ _ (compareOp _ (Value.ref _) (Value.ref _)) _ _ _)); (( (fail_if_success (with_reducible show wpAny _ _ (eval (Expr.ListComp _ _ _ _) _) _ _ _)); (fail_if_success (with_reducible show wpAny _ _ (exec (Stmt.Assign _ (Expr.ListComp _ _ _ _) _) _) _ _ _)); (fail_if_success (with_reducible show wpAny _ _ (exec (Stmt.For _ _ _ _ _) _) _ _ _)); (fail_if_success (with_reducible show wpAny _ _ (exec (Stmt.While _ _ _ _) _) _ _ _)); (fail_if_success (with_reducible show wpAny _ _ (pyIter (Value.ref _)) _ _ _)); (fail_if_success (with_reducible show LCt.CompSrcT _ _ _ _ _ _ _ _ _ _ _ _ _ _ _)); (fail_if_success (with_reducible show LCt.CompRestT _ _ _ _ _ _ _ _ _ _ _ _ _ _ _ _ _ _ _ _)); (fail_if_success (with_reducible show LCg.CompSrc _ _ _ _ _ _ _ _ _ _ _ _ _ _)))); first | walk1 | (dsimp only; walk1) | (leave1; walk_say "STEP leave1"; try dsimp only)) | fail "no step"))
      rename Fr _ _ _ _ => F
      rename News _ _ _ _ => N
      refine wpAny_call (draw_spec (amb_hide KX T F.keep N (by k_mem) rfl (by ((simp only [depth_deeper, units_deeper, depth_in1, units_in1]; omega))) (by ((simp only [depth_deeper, units_deeper, depth_in1, units_in1]; omega)))) (N.get (by k_mem)) P4 (hoc _ (N.get (by k_mem))) hne (by omega) (by omega) (by decide) (by decide) ?_)
      intro h9 tk9 t9w d4 po8 k9 P5 g9 lo4 hi4
      have F9 := fr_pen F N (by k_mem) k9
      have N9 := news_pen N (by k_upd) k9 g9
      clear k9 g9 F N
      dsimp only
      (repeat' (first | (k_unfold; (try dsimp only)) | ((fail_if_success (with_reducible show wpAny _ _ (call (Value.ref _) _) _ _ _)); (fail_if_success (with_reducible show wpAny _ _ (call (Value.type "zip") _) _ _ _)); (fail_if_success (with_reducible show wpAny _ _ (compareOp _ (Value.ref _) (Value.ref _)) _ _ _)); (( (fail_if_success (with_reducible show wpAny _ _ (eval (Expr.ListComp _ _ _ _) _) _ _ _)); (fail_if_success (with_reducible show wpAny _ _ (exec (Stmt.Assign _ (Expr.ListComp _ _ _ _) _) _) _ _ _)); (fail_if_success (with_reducible show wpAny _ _ (exec (Stmt.For _ _ _ _ _) _) _ _ _)); (fail_if_success (with_reducible show wpAny _ _ (exec (Stmt.While _ _ _ _) _) _ _ _)); (fail_if_success (with_reducible show wpAny _ _ (pyIter (Value.ref _)) _ _ _)); (fail_if_success (with_reducible show LCt.CompSrcT _ _ _ _ _ _ _ _ _ _ _ _ _ _ _)); (fail_if_success (with_reducible show LCt.CompRestT _ _ _ _ _ _ _ _ _ _ _ _ _ _ _ _ _ _ _ _)); (fail_if_success (with_reducible show LCg.CompSrc _ _ _ _ _ _ _ _ _ _ _ _ _ _)))); first | walk1 | (dsimp only; walk1) | (leave1; walk_say "STEP leave1"; try dsimp only)) | fail "no step"))
      rename Fr _ _ _ _ => F
      rename News _ _ _ _ => N
      refine wpAny_call (lines_spec (by walk_at "MY amb") (S.sub (pen := pen) (cells := cells) (po := po8) (oc := oc) N (fun p hp => by simp [hp])) (by omega) hl0 ?_)
      intro h9 tk9 dr9 D5 ds5 ps5 ls5 n5 tups5 k9 f9 g9 q9 u9 r5 z5 b5 L5
      obtain rfl := breaks_eq b1 b5
      have hwide := wider_le (breaks_rise b1) hadv (show d3 ≤ d3 + d4 by omega) L1 L5
      have hds5 := r5.length
      have N9 : News s₁.heap s₁.heap.objs.size h9 ((D5, PySem.W.listOf (List.toArray ds5) n5) :: (pen, po8) :: (cells, oc) :: (D1, PySem.W.listOf (List.toArray ds1) n1) :: (D3, PySem.W.listOf (List.toArray ds3) n3) :: (Z ++ tups5)) := fun p hp => news_fresh F N k9 (fresh_cons f9 g9 q9) p (by
        simp only [List.mem_cons, List.mem_append] at hp ⊢
        rcases hp with h | h | h | h | h | h | h <;> simp [h])
      have F9 := F.keeps k9
      clear k9 f9 g9 q9 u9 F N
      dsimp only
      (repeat' (first | (k_unfold; (try dsimp only)) | ((fail_if_success (with_reducible show wpAny _ _ (call (Value.ref _) _) _ _ _)); (fail_if_success (with_reducible show wpAny _ _ (call (Value.type "zip") _) _ _ _)); (fail_if_success (with_reducible show wpAny _ _ (compareOp _ (Value.ref _) (Value.ref _)) _ _ _)); (( (fail_if_success (with_reducible show wpAny _ _ (eval (Expr.ListComp _ _ _ _) _) _ _ _)); (fail_if_success (with_reducible show wpAny _ _ (exec (Stmt.Assign _ (Expr.ListComp _ _ _ _) _) _) _ _ _)); (fail_if_success (with_reducible show wpAny _ _ (exec (Stmt.For _ _ _ _ _) _) _ _ _)); (fail_if_success (with_reducible show wpAny _ _ (exec (Stmt.While _ _ _ _) _) _ _ _)); (fail_if_success (with_reducible show wpAny _ _ (pyIter (Value.ref _)) _ _ _)); (fail_if_success (with_reducible show LCt.CompSrcT _ _ _ _ _ _ _ _ _ _ _ _ _ _ _)); (fail_if_success (with_reducible show LCt.CompRestT _ _ _ _ _ _ _ _ _ _ _ _ _ _ _ _ _ _ _ _)); (fail_if_success (with_reducible show LCg.CompSrc _ _ _ _ _ _ _ _ _ _ _ _ _ _)))); first | walk1 | (dsimp only; walk1) | (leave1; walk_say "STEP leave1"; try dsimp only)) | fail "no step"))
      rename Fr _ _ _ _ => F
      exact ⟨by rw [decide_eq_true (show (ds5.length : Int) ≤ (ds1.length : Int) by omega)], _, _, _, _, rfl, F⟩
    case step =>
      intro i v0 v1 m₁ own h tk dr e0 e1 hm₁ F₁ N₁
      have F₂ := fr_of2 hm₁ F₁
      have hi : i < ls1.length := by
        rcases Nat.lt_or_ge i ds1.length with q | q
        · omega
        · rw [List.getElem?_eq_none q] at e1; cases e1
      obtain ⟨pa, opa, rfl, hpm, t1, t2, np, rfl⟩ := paired_at hpairs i e1 hi
      obtain ⟨a', vs4, rfl, S4⟩ := paired_at hsh i e0 hi
      have hblt := lines_pairs L1 _ (List.getElem_mem hi)
      generalize ls1[i] = pp at S4 hblt hpm F₂
      obtain ⟨bb, ee⟩ := pp
      dsimp only at S4 hblt hpm
      have N₂ : News s₁.heap s₁.heap.objs.size h ((pa, { cls := .type "tuple", data := .seq (List.toArray [.int bb t1, .int ee t2]) np }) :: (pen, po9) :: (cells, oc) :: (D1, PySem.W.listOf (List.toArray ds1) n1) :: (D3, PySem.W.listOf (List.toArray ds3) n3) :: (Z ++ own)) := fun p hp => N₁ p (by
        rcases List.mem_cons.mp hp with h | hp
        · rw [h]; exact List.mem_append_left _ (by simp [hpm])
        · exact hp)
      clear N₁ F₁ F N
      show wpAny _ _ _ _ _ _
      k_fold
      (repeat' (first | (k_unfold; (try dsimp only)) | ((fail_if_success (with_reducible show wpAny _ _ (call (Value.ref _) _) _ _ _)); (fail_if_success (with_reducible show wpAny _ _ (call (Value.type "zip") _) _ _ _)); (fail_if_success (with_reducible show wpAny _ _ (compareOp _ (Value.ref _) (Value.ref _)) _ _ _)); (( (fail_if_success (with_reducible show wpAny _ _ (eval (Expr.ListComp _ _ _ _) _) _ _ _)); (fail_if_success (with_reducible show wpAny _ _ (exec (Stmt.Assign _ (Expr.ListComp _ _ _ _) _) _) _ _ _)); (fail_if_success (with_reducible show wpAny _ _ (exec (Stmt.For _ _ _ _ _) _) _ _ _)); (fail_if_success (with_reducible show wpAny _ _ (exec (Stmt.While _ _ _ _) _) _ _ _)); (fail_if_success (with_reducible show wpAny _ _ (pyIter (Value.ref _)) _ _ _)); (fail_if_success (with_reducible show LCt.CompSrcT _ _ _ _ _ _ _ _ _ _ _ _ _ _ _)); (fail_if_success (with_reducible show LCt.CompRestT _ _ _ _ _ _ _ _ _ _ _ _ _ _ _ _ _ _ _ _)); (fail_if_success (with_reducible show LCg.CompSrc _ _ _ _ _ _ _ _ _ _ _ _ _ _)))); first | walk1 | (dsimp only; walk1) | (leave1; walk_say "STEP leave1"; try dsimp only)) | fail "no step"))
      rename Fr _ _ _ _ => F
      rename News _ _ _ _ => N
      refine wpAny_call (lines_spec (by walk_at "MY amb") (S4.sub (pen := pen) (cells := cells) (po := po9) (oc := oc) N (fun p hp => by simp [hp])) (Nat.le_trans cut_len (by omega)) (by omega) ?_)
      intro h9 tk9 dr9 D4 ds4 ps4 ls4 n4 tups4 k9 f9 g9 q9 u9 r4 z9 b4 L4
      have hltD := fresh_lt N f9
      have N9 : News s₁.heap s₁.heap.objs.size h9 ((D4, PySem.W.listOf (List.toArray ds4) n4) :: (pa, { cls := .type "tuple", data := .seq (List.toArray [.int bb t1, .int ee t2]) np }) :: (pen, po9) :: (cells, oc) :: (D1, PySem.W.listOf (List.toArray ds1) n1) :: (D3, PySem.W.listOf (List.toArray ds3) n3) :: ((Z ++ own) ++ tups4)) := fun p hp => news_fresh F N k9 (fresh_cons f9 g9 q9) p (by
        simp only [List.mem_cons, List.mem_append] at hp ⊢
        rcases hp with h | h | h | h | h | h | h | h <;> simp [h])
      have F9 := F.keeps k9
      clear k9 f9 g9 q9 u9 F N
      try dsimp only
      (repeat' (first | (k_unfold; (try dsimp only)) | ((fail_if_success (with_reducible show wpAny _ _ (call (Value.ref _) _) _ _ _)); (fail_if_success (with_reducible show wpAny _ _ (call (Value.type "zip") _) _ _ _)); (fail_if_success (with_reducible show wpAny _ _ (compareOp _ (Value.ref _) (Value.ref _)) _ _ _)); (( (fail_if_success (with_reducible show wpAny _ _ (eval (Expr.ListComp _ _ _ _) _) _ _ _)); (fail_if_success (with_reducible show wpAny _ _ (exec (Stmt.Assign _ (Expr.ListComp _ _ _ _) _) _) _ _ _)); (fail_if_success (with_reducible show wpAny _ _ (exec (Stmt.For _ _ _ _ _) _) _ _ _)); (fail_if_success (with_reducible show wpAny _ _ (exec (Stmt.While _ _ _ _) _) _ _ _)); (fail_if_success (with_reducible show wpAny _ _ (pyIter (Value.ref _)) _ _ _)); (fail_if_success (with_reducible show LCt.CompSrcT _ _ _ _ _ _ _ _ _ _ _ _ _ _ _)); (fail_if_success (with_reducible show LCt.CompRestT _ _ _ _ _ _ _ _ _ _ _ _ _ _ _ _ _ _ _ _)); (fail_if_success (with_reducible show LCg.CompSrc _ _ _ _ _ _ _ _ _ _ _ _ _ _)))); first | walk1 | (dsimp only; walk1) | (leave1; walk_say "STEP leave1"; try dsimp only)) | fail "no step"))
      rename Fr _ _ _ _ => F
      rename News _ _ _ _ => N
      have hone : advOf rs' bb ee ≤ d3 → ls4 = [(0, ee - bb)] := fun hw => one_line (breaks_le b4) (by simp) (by omega) (breaks_rise b4) (cut_adv hadv) (by rw [adv_cut]; exact hw) L4
      refine pairs_ne1 N (by k_mem) r4 (fun p hp => by simp [hp]) (by k_mem) (by k_mem) (by ((simp only [depth_deeper, units_deeper, depth_in1, units_in1]; omega))) ?_
      intro q hq
      have N5 : News s₁.heap s₁.heap.objs.size _ ((pen, po9) :: (cells, oc) :: (D1, PySem.W.listOf (List.toArray ds1) n1) :: (D3, PySem.W.listOf (List.toArray ds3) n3) :: (pa, { cls := .type "tuple", data := .seq (List.toArray [.int bb t1, .int ee t2]) np }) :: (Z ++ own)) := fun p hp => N p (by
        simp only [List.mem_cons, List.mem_append] at hp ⊢
        rcases hp with h | h | h | h | h | h | h <;> simp [h])
      clear N
      dsimp only
      cases q with
      | false =>
        (repeat' (first | (k_unfold; (try dsimp only)) | ((fail_if_success (with_reducible show wpAny _ _ (call (Value.ref _) _) _ _ _)); (fail_if_success (with_reducible show wpAny _ _ (call (Value.type "zip") _) _ _ _)); (fail_if_success (with_reducible show wpAny _ _ (compareOp _ (Value.ref _) (Value.ref _)) _ _ _)); (( (fail_if_success (with_reducible show wpAny _ _ (eval (Expr.ListComp _ _ _ _) _) _ _ _)); (fail_if_success (with_reducible show wpAny _ _ (exec (Stmt.Assign _ (Expr.ListComp _ _ _ _) _) _) _ _ _)); (fail_if_success (with_reducible show wpAny _ _ (exec (Stmt.For _ _ _ _ _) _) _ _ _)); (fail_if_success (with_reducible show wpAny _ _ (exec (Stmt.While _ _ _ _) _) _ _ _)); (fail_if_success (with_reducible show wpAny _ _ (pyIter (Value.ref _)) _ _ _)); (fail_if_success (with_reducible show LCt.CompSrcT _ _ _ _ _ _ _ _ _ _ _ _ _ _ _)); (fail_if_success (with_reducible show LCt.CompRestT _ _ _ _ _ _ _ _ _ _ _ _ _ _ _ _ _ _ _ _)); (fail_if_success (with_reducible show LCg.CompSrc _ _ _ _ _ _ _ _ _ _ _ _ _ _)))); first | walk1 | (dsimp only; walk1) | (leave1; walk_say "STEP leave1"; try dsimp only)) | fail "no step"))
        rename Fr _ _ _ _ => F
        exact ⟨.inl rfl, _, _, _, _, rfl, F, turn_news N5, by ((repeat' (first | exact List.forall_mem_nil _ | (refine List.forall_mem_cons.mpr ⟨?_, ?_⟩; k_dflt rfl))))⟩
      | true =>
        (repeat' (first | (k_unfold; (try dsimp only)) | ((fail_if_success (with_reducible show wpAny _ _ (call (Value.ref _) _) _ _ _)); (fail_if_success (with_reducible show wpAny _ _ (call (Value.type "zip") _) _ _ _)); (fail_if_success (with_reducible show wpAny _ _ (compareOp _ (Value.ref _) (Value.ref _)) _ _ _)); (( (fail_if_success (with_reducible show wpAny _ _ (eval (Expr.ListComp _ _ _ _) _) _ _ _)); (fail_if_success (with_reducible show wpAny _ _ (exec (Stmt.Assign _ (Expr.ListComp _ _ _ _) _) _) _ _ _)); (fail_if_success (with_reducible show wpAny _ _ (exec (Stmt.For _ _ _ _ _) _) _ _ _)); (fail_if_success (with_reducible show wpAny _ _ (exec (Stmt.While _ _ _ _) _) _ _ _)); (fail_if_success (with_reducible show wpAny _ _ (pyIter (Value.ref _)) _ _ _)); (fail_if_success (with_reducible show LCt.CompSrcT _ _ _ _ _ _ _ _ _ _ _ _ _ _ _)); (fail_if_success (with_reducible show LCt.CompRestT _ _ _ _ _ _ _ _ _ _ _ _ _ _ _ _ _ _ _ _)); (fail_if_success (with_reducible show LCg.CompSrc _ _ _ _ _ _ _ _ _ _ _ _ _ _)))); first | walk1 | (dsimp only; walk1) | (leave1; walk_say "STEP leave1"; try dsimp only)) | fail "no step"))
        rename Fr _ _ _ _ => F
        rename News _ _ _ _ => N
        refine wpAny_call (adv_spec (by walk_at "MY amb") (S.sub (pen := pen) (cells := cells) (po := po9) (oc := oc) N (fun p hp => by simp [hp])) ?_)
        intro h9 tk9 t9'' k9
        have F9 := F.keeps k9
        have N9 := N.grown k9
        clear k9 F N
        dsimp only
        (repeat' (first | (k_unfold; (try dsimp only)) | ((fail_if_success (with_reducible show wpAny _ _ (call (Value.ref _) _) _ _ _)); (fail_if_success (with_reducible show wpAny _ _ (call (Value.type "zip") _) _ _ _)); (fail_if_success (with_reducible show wpAny _ _ (compareOp _ (Value.ref _) (Value.ref _)) _ _ _)); (( (fail_if_success (with_reducible show wpAny _ _ (eval (Expr.ListComp _ _ _ _) _) _ _ _)); (fail_if_success (with_reducible show wpAny _ _ (exec (Stmt.Assign _ (Expr.ListComp _ _ _ _) _) _) _ _ _)); (fail_if_success (with_reducible show wpAny _ _ (exec (Stmt.For _ _ _ _ _) _) _ _ _)); (fail_if_success (with_reducible show wpAny _ _ (exec (Stmt.While _ _ _ _) _) _ _ _)); (fail_if_success (with_reducible show wpAny _ _ (pyIter (Value.ref _)) _ _ _)); (fail_if_success (with_reducible show LCt.CompSrcT _ _ _ _ _ _ _ _ _ _ _ _ _ _ _)); (fail_if_success (with_reducible show LCt.CompRestT _ _ _ _ _ _ _ _ _ _ _ _ _ _ _ _ _ _ _ _)); (fail_if_success (with_reducible show LCg.CompSrc _ _ _ _ _ _ _ _ _ _ _ _ _ _)))); first | walk1 | (dsimp only; walk1) | (leave1; walk_say "STEP leave1"; try dsimp only)) | fail "no step"))
        · exact absurd (hone (by assumption)) (hq.mp rfl)
        · rename Fr _ _ _ _ => F
          rename News _ _ _ _ => N
          exact ⟨.inl rfl, _, _, _, _, rfl, F, turn_news N, by ((repeat' (first | exact List.forall_mem_nil _ | (refine List.forall_mem_cons.mpr ⟨?_, ?_⟩; k_dflt rfl))))⟩)


end

end

end Mine
theorem PySem.Challenge.cw_pb0148_01_holds : PySem.Challenge.rw_pb0148_01.Holds :=
  Mine.law_holds
