import PyProof.Rows.All
import Wide.All
import OpenK.AllK
import Wide.FinOn
import PySem.Challenge.RW_pb0156_01
open PySem PySem.W PyProof.Rows
set_option Elab.async false
set_option maxRecDepth 100000 in
set_option maxHeartbeats 8000000 in
open_top Mine.hd for PySem.Challenge.rw_pb0156_01
set_option maxRecDepth 100000
set_option linter.all false
namespace Mine

/-- a ledger: what the call has made -/
abbrev Led := List (Addr × Obj)

/-- the ledger with another object at one address -/
def put (a : Addr) (o' : Obj) (l : Led) : Led := l.map fun p => if p.1 = a then (a, o') else p

theorem put_self {a : Addr} {o o' : Obj} {l : Led} (h : (a, o) ∈ l) : (a, o') ∈ put a o' l :=
  List.mem_map.mpr ⟨(a, o), h, by simp⟩
theorem put_ne {a b : Addr} {o o' : Obj} {l : Led} (h : (b, o) ∈ l) (hn : b ≠ a) : (b, o) ∈ put a o' l :=
  List.mem_map.mpr ⟨(b, o), h, by simp [hn]⟩
theorem put_adr (a : Addr) (o' : Obj) (l : Led) : (put a o' l).map (·.1) = l.map (·.1) := by
  unfold put
  rw [List.map_map]
  apply List.map_congr_left
  intro p _
  by_cases h : p.1 = a <;> simp [h]

theorem news_sub {h₀ h : Heap} {L : Addr} {l l' : Led} (N : News h₀ L h l) (hs : ∀ p ∈ l', p ∈ l) : News h₀ L h l' := fun p hp => N p (hs p hp)
theorem news_two {h₀ h : Heap} {L a : Addr} {o o' : Obj} {l : Led} (N : News h₀ L h l) (h1 : (a, o) ∈ l) (h2 : (a, o') ∈ l) : o = o' :=
  Option.some.inj ((N _ h1).1.symm.trans (N _ h2).1)
/-- two addresses that bear other objects are two -/
theorem news_apart {h₀ h : Heap} {L a b : Addr} {o o' : Obj} {l : Led} (N : News h₀ L h l) (h1 : (a, o) ∈ l) (h2 : (b, o') ∈ l) (hne : o ≠ o') : a ≠ b := by
  rintro rfl; exact hne (news_two N h1 h2)

/-- the ledger, one address at its head and nowhere else -/
def lead (a : Addr) (o : Obj) (l : Led) : Led := (a, o) :: l.filter fun p => decide (p.1 ≠ a)
theorem lead_off {a : Addr} {l : Led} : ∀ p ∈ l.filter (fun p => decide (p.1 ≠ a)), p.1 ≠ a := fun p hp => by
  simpa using (List.mem_filter.mp hp).2
theorem news_lead {h₀ h : Heap} {L a : Addr} {o : Obj} {l : Led} (N : News h₀ L h l) (hm : (a, o) ∈ l) : News h₀ L h (Mine.lead a o l) := fun p hp => by
  rcases List.mem_cons.mp hp with rfl | hp
  · exact N _ hm
  · exact N _ (List.mem_filter.mp hp).1
theorem lead_upd {a : Addr} {o o' : Obj} {l : Led} : Upd a o o' (lead a o l) (lead a o' l) := Upd.head lead_off
theorem put_of_lead {h₀ h : Heap} {L a : Addr} {o' : Obj} {l : Led} (N : News h₀ L h (Mine.lead a o' l)) : News h₀ L h (put a o' l) := fun p hp => by
  obtain ⟨q, hq, rfl⟩ := List.mem_map.mp hp
  by_cases h : q.1 = a
  · simp only [h, if_true]; exact N _ (.head _)
  · simp only [h, if_false]; exact N _ (.tail _ (List.mem_filter.mpr ⟨hq, by simpa using h⟩))

/-- what is known of an Info -/
structure Inf where
  parent : Int
  bond : Str
  yoff : Int

structure InfEs (es : List DictEntry) (f : Inf) : Prop where
  parent : ∃ t, getL "parent" es = some (some (.int f.parent t))
  bond : ∃ t, getL "bond" es = some (some (.str f.bond t))
  yoff : ∃ t, getL "y_offset" es = some (some (.int f.yoff t))
  small : es.length ≤ 64

/-- the row: the list at l, its items the instances at rs (their dicts beside them), each with its fields -/
structure RowIn (news : Led) (l : Addr) (rs : List (Addr × Addr)) (fs : Nat → Inf) : Prop where
  lst : ∃ k, (l, listOf (rs.map fun r => Value.ref r.1).toArray k) ∈ news
  inst : ∀ (i : Nat) (r : Addr × Addr), rs[i]? = some r → (r.1, instObj 78 r.2) ∈ news
  dict : ∀ (i : Nat) (r : Addr × Addr), rs[i]? = some r → ∃ es k, (r.2, dictOf es k) ∈ news ∧ InfEs es (fs i)
  apart : ∀ (i j : Nat) (r q : Addr × Addr), rs[i]? = some r → rs[j]? = some q → r.2 = q.2 → i = j
  few : rs.length ≤ 9

/-- a call of a def of the text: what it asks of its caller, what it hands back -/
def Spec (w : World) (mean : ExcName → Option Value) (mg mb : Str → Option Value) (lv : Nat) (f : Addr) (vs : List Value) (news : Led) (Ret : Value → Led → Prop) : Prop :=
  ∀ (dp un : Nat) (gd : Option (List Code)) (cn : Str) (cs : Scope) (a : Addr) (ccd : Value) (cl : List (Str × Addr)) (outer : List Env) (A₀ : Around) (base h₀ : Heap) (L : Addr) (m : Str → Option Value) (s : Shared)
    (Q E : Value → Shared → Prop),
    Below A₀ base outer h₀ → Fr h₀ L s.heap m → (hd.heap_39 w.params).In h₀ → News h₀ L s.heap news → Top hd.view_39 (looseW hd.view_39 []) mean mg mb h₀ → cs.kind = .function → dp + lv < recursionLimit → un + 8 * lv < cLine →
    (∀ v news' h' tk', Ret v news' → Fr h₀ L h' m → News h₀ L h' news' → Q v { s with heap := h', toks := tk' }) →
    wpAny (model PySem.Challenge.rw_pb0156_01.row.prog w) (ktrTop dp un gd cn cs L a ccd cl outer) (call (.ref f) vs) Q E s

end Mine
namespace Mine
section
variable {prog : Program} {w : World} {A : Around} {E : Value → Shared → Prop} {s : Shared} {h₀ : Heap} {L : Addr} {m : Str → Option Value} {news news' : Led} {l : Addr} {rs : List (Addr × Addr)} {fs : Nat → Inf}

/-- the frame, some names of it written out -/
def over : List (Str × Value) → (Str → Option Value) → Str → Option Value
  | [], m => m
  | (x, v) :: r, m => fun y => if y = x then some v else over r m y
theorem over_eq {m : Str → Option Value} : ∀ {ps : List (Str × Value)}, (∀ p ∈ ps, m p.1 = some p.2) → over ps m = m
  | [], _ => rfl
  | (x, v) :: r, h => by
    funext y
    show (if y = x then some v else over r m y) = m y
    by_cases e : y = x
    · rw [if_pos e, e, h (x, v) (.head _)]
    · rw [if_neg e, over_eq fun p hp => h p (.tail _ hp)]
theorem over_fr {h : Heap} (ps : List (Str × Value)) (F : Fr h₀ L h m) (hp : ∀ p ∈ ps, m p.1 = some p.2) : Fr h₀ L h (over ps m) := by rw [over_eq hp]; exact F

theorem row_item {value slice : Expr} {k : Nat} {u : Tok} {Q : Value → Shared → Prop} (N : News h₀ L s.heap news') (hs : ∀ p ∈ news, p ∈ news') (R : RowIn news l rs fs) (hk : k < rs.length)
    (h : ∀ r : Addr × Addr, rs[k]? = some r → Q (.ref r.1) s)
    (he : subscripted slice false (.ref l) (.int (k : Nat) u) = operate [.ref l, .int (k : Nat) u] (getItem (.ref l) (.int (k : Nat) u))) :
    wpAny (model prog w) A (subscriptTail value slice (.ref l) (.int (k : Nat) u)) Q E s := by
  obtain ⟨n, hl⟩ := R.lst
  have hl' : s.heap.IsList l (rs.map fun r => Value.ref r.1).toArray := ⟨_, (N _ (hs _ hl)).1, rfl, n, rfl⟩
  have hr : rs[k]? = some rs[k] := List.getElem?_eq_getElem hk
  have few := R.few
  exact item_litK hl' (Int.natCast_nonneg k) (by have : k < 9 := Nat.lt_of_lt_of_le hk few; omega) (by simp [hr]) (h _ hr) he

theorem row_inst (N : News h₀ L s.heap news') (hs : ∀ p ∈ news, p ∈ news') (R : RowIn news l rs fs) {k : Nat} {r : Addr × Addr} (hr : rs[k]? = some r) :
    ∃ es n, (r.2, dictOf es n) ∈ news' ∧ InfEs es (fs k) ∧ InstAt s.heap r.1 (instObj 78 r.2) 78 (some (dictOf es n)) := by
  obtain ⟨es, n, hd, hE⟩ := R.dict k r hr
  exact ⟨es, n, hs _ hd, hE, InstAt.of_news N (hs _ (R.inst k r hr)) (hs _ hd)⟩

theorem handed_int (i : Int) (t : Tok) : handedIn (.int i t) = true := rfl
theorem handed_str (i : Str) (t : Tok) : handedIn (.str i t) = true := rfl

theorem get_parent {K : Frag} {expr : Bool} {attr : Option Value} {Q : Value → Shared → Prop} {k : Nat} {r : Addr × Addr} (F : Fr h₀ L s.heap m) (X₀ : K.In h₀) (N : News h₀ L s.heap news') (hs : ∀ p ∈ news, p ∈ news') (R : RowIn news l rs fs) (hr : rs[k]? = some r)
    (hg : plainGet K 78 "parent" = true) (hh : hasDictIn K 78 = true) (ha : findIn K (.ref 78) "parent" = some attr) (hn : noGet K attr = true)
    (h : ∀ t, Q (.int (fs k).parent t) { s with toks := s.toks + 1 }) : wpAny (model prog w) A (getAttr (.ref r.1) "parent" expr) Q E s := by
  obtain ⟨es, n, _, hE, I⟩ := row_inst N hs R hr
  obtain ⟨t, ht⟩ := hE.parent
  exact get_own F X₀ I hg hh ha hn ht (handed_int _ _) (h t)
theorem get_bond {K : Frag} {expr : Bool} {attr : Option Value} {Q : Value → Shared → Prop} {k : Nat} {r : Addr × Addr} (F : Fr h₀ L s.heap m) (X₀ : K.In h₀) (N : News h₀ L s.heap news') (hs : ∀ p ∈ news, p ∈ news') (R : RowIn news l rs fs) (hr : rs[k]? = some r)
    (hg : plainGet K 78 "bond" = true) (hh : hasDictIn K 78 = true) (ha : findIn K (.ref 78) "bond" = some attr) (hn : noGet K attr = true)
    (h : ∀ t, Q (.str (fs k).bond t) { s with toks := s.toks + 1 }) : wpAny (model prog w) A (getAttr (.ref r.1) "bond" expr) Q E s := by
  obtain ⟨es, n, _, hE, I⟩ := row_inst N hs R hr
  obtain ⟨t, ht⟩ := hE.bond
  exact get_own F X₀ I hg hh ha hn ht (handed_str _ _) (h t)
theorem get_yoff {K : Frag} {expr : Bool} {attr : Option Value} {Q : Value → Shared → Prop} {k : Nat} {r : Addr × Addr} (F : Fr h₀ L s.heap m) (X₀ : K.In h₀) (N : News h₀ L s.heap news') (hs : ∀ p ∈ news, p ∈ news') (R : RowIn news l rs fs) (hr : rs[k]? = some r)
    (hg : plainGet K 78 "y_offset" = true) (hh : hasDictIn K 78 = true) (ha : findIn K (.ref 78) "y_offset" = some attr) (hn : noGet K attr = true)
    (h : ∀ t, Q (.int (fs k).yoff t) { s with toks := s.toks + 1 }) : wpAny (model prog w) A (getAttr (.ref r.1) "y_offset" expr) Q E s := by
  obtain ⟨es, n, _, hE, I⟩ := row_inst N hs R hr
  obtain ⟨t, ht⟩ := hE.yoff
  exact get_own F X₀ I hg hh ha hn ht (handed_int _ _) (h t)

theorem row_len {Q : Value → Shared → Prop} (N : News h₀ L s.heap news') (hs : ∀ p ∈ news, p ∈ news') (R : RowIn news l rs fs)
    (h : Q (.int (rs.length : Nat) (s.toks + 1)) { s with toks := s.toks + 1 + 1 }) : wpAny (model prog w) A (call (.builtin "len") [.ref l]) Q E s := by
  obtain ⟨n, hl⟩ := R.lst
  have hl' : s.heap.IsList l (rs.map fun r => Value.ref r.1).toArray := ⟨_, (N _ (hs _ hl)).1, rfl, n, rfl⟩
  have few := R.few
  refine len_list hl' (by simp; omega) ?_
  simpa using h

end

section
variable {prog : Program} {w : World} {A : Around} {E : Value → Shared → Prop} {s : Shared} {env : Env} {h₀ : Heap} {x : Str} {body : List Stmt} {Q : Flow → Shared → Prop}
/-- a for over a range, by what holds between its turns -/
theorem range_loop {r : Addr} {a₀ b₀ : Int} {t₀ u₀ v₀ : Tok} {n : Nat} {m₀ : Str → Option Value} {news : Led} (J : Nat → (Str → Option Value) → Led → Prop)
    (hh : A.handled = none) (hr : IsRange s.heap r a₀ b₀ 1 t₀ u₀ v₀) (hsmall : Builtin.Range.small a₀ b₀ 1 = true) (hn : Builtin.Range.rangeSize a₀ b₀ 1 = (n : Int)) (F : Fr h₀ env.locals s.heap m₀) (N : News h₀ env.locals s.heap news)
    (hJ : J 0 m₀ news)
    (turn : ∀ i m₁ news₁ I it t h tk, i < n → J i m₁ news₁ → Fr h₀ env.locals h (fun y => if y = x then some (.int (a₀ + ((i : Nat) : Int)) t) else m₁ y) → News h₀ env.locals h ((I, it) :: news₁) → (∀ p ∈ news₁, p.1 ≠ I) →
      wpAny (model prog w) A (execs body env) (UnrPost h₀ env.locals { s with heap := h, toks := tk } I it (J (i + 1)) Q) E { s with heap := h, toks := tk })
    (done : ∀ m₁ news₁ h tk, J n m₁ news₁ → Fr h₀ env.locals h m₁ → News h₀ env.locals h news₁ → Q .next { s with heap := h, toks := tk }) :
    wpAny (model prog w) A (pyIter (.ref r)) (fun it s₂ => LoopAtV prog w A h₀ env x body Q E it s₂) E s := by
  refine iter_rangeUnr hh hr hsmall hn F N fun I hI => ?_
  have key : ∀ k i m₁ news₁, i + k = n → J i m₁ news₁ → (∀ p ∈ news₁, p.1 ≠ I) → RangeRest prog w A E h₀ env x body Q s I a₀ n k i m₁ news₁ := by
    intro k
    induction k with
    | zero =>
      intro i m₁ news₁ hik hj _
      have e : i = n := by omega
      subst e
      exact RangeRest.zero fun h tk F' N' => done m₁ news₁ h tk hj F' N'
    | succ k ih =>
      intro i m₁ news₁ hik hj hoff
      refine RangeRest.succ fun t h tk F' N' => ?_
      refine wpAny_mono (turn i m₁ news₁ I _ t h tk (by omega) hj F' N' hoff) (fun f s₂ hp => ?_) fun _ _ e => e
      have fin : UnrEnd h₀ env.locals { s with heap := h, toks := tk } I (itR (a₀ + ((i + 1 : Nat) : Int)) ((n : Int) - ((i + 1 : Nat) : Int))) (J (i + 1)) s₂ → UnrEnd h₀ env.locals { s with heap := h, toks := tk } I (itR (a₀ + ((i + 1 : Nat) : Int)) ((n : Int) - ((i + 1 : Nat) : Int))) (RangeRest prog w A E h₀ env x body Q s I a₀ n k (i + 1)) s₂ := by
        rintro ⟨h', tk', m', news', e, F'', N'', ho, r⟩
        exact ⟨h', tk', m', news', e, F'', N'', ho, ih (i + 1) m' news' (by omega) r ho⟩
      cases f with
      | ret v => exact hp
      | brk => exact hp
      | next => exact fin hp
      | cont => exact fin hp
  exact key n 0 m₀ news (by omega) hJ fun p hp => Nat.ne_of_lt (hI p hp)
end
theorem range_small {b : Nat} (h : b ≤ 100) : Builtin.Range.small 0 (b : Int) 1 = true := small_one (by omega) (by omega) (by omega) (by omega)
end Mine
namespace Mine
/-- what a frame is known to hold -/
def Knows (m : Str → Option Value) : List (Str × Value) → Prop
  | [] => True
  | p :: r => m p.1 = some p.2 ∧ Knows m r
theorem Knows.all {m : Str → Option Value} : ∀ {ps : List (Str × Value)}, Knows m ps → ∀ p ∈ ps, m p.1 = some p.2
  | [], _, _, h => nomatch h
  | _ :: _, k, p, h => by
    rcases List.mem_cons.mp h with rfl | h
    · exact k.1
    · exact Knows.all k.2 p h
theorem fr_turn {h₀ h : Heap} {L : Addr} {m : Str → Option Value} {x : Str} {v : Value} {ps : List (Str × Value)} (k : Knows m ps) (F : Fr h₀ L h (fun y => if y = x then some v else m y)) : Fr h₀ L h (fun y => if y = x then some v else over ps m y) := by
  rw [over_eq k.all]; exact F
theorem fr_over {h₀ h : Heap} {L : Addr} {m : Str → Option Value} {ps : List (Str × Value)} (k : Knows m ps) (F : Fr h₀ L h m) : Fr h₀ L h (over ps m) := by
  rw [over_eq k.all]; exact F
end Mine
namespace Mine
def about (_ : PySem.W.OpenLaw) (P : Prop) : Prop := P
theorem about.out {r : PySem.W.OpenLaw} {P : Prop} (h : about r P) : P := h
theorem kk_parent (w : World) : about PySem.Challenge.rw_pb0156_01 (plainGet (hd.heap_39 w.params) 78 (Str.ofString "parent") = true ∧ findIn (hd.heap_39 w.params) (.ref 78) (Str.ofString "parent") = some none ∧ takerIn (hd.heap_39 w.params) 78 (Str.ofString "parent") = some none) := by
  k_fill; unfold about; refine ⟨by k_is, by k_is, by k_is⟩
theorem kk_bond (w : World) : about PySem.Challenge.rw_pb0156_01 (plainGet (hd.heap_39 w.params) 78 (Str.ofString "bond") = true ∧ findIn (hd.heap_39 w.params) (.ref 78) (Str.ofString "bond") = some none ∧ takerIn (hd.heap_39 w.params) 78 (Str.ofString "bond") = some none) := by
  k_fill; unfold about; refine ⟨by k_is, by k_is, by k_is⟩
theorem kk_yoff (w : World) : about PySem.Challenge.rw_pb0156_01 (plainGet (hd.heap_39 w.params) 78 (Str.ofString "y_offset") = true ∧ findIn (hd.heap_39 w.params) (.ref 78) (Str.ofString "y_offset") = some none ∧ takerIn (hd.heap_39 w.params) 78 (Str.ofString "y_offset") = some none) := by
  k_fill; unfold about; refine ⟨by k_is, by k_is, by k_is⟩
theorem kk_cls (w : World) : about PySem.Challenge.rw_pb0156_01 (hasDictIn (hd.heap_39 w.params) 78 = true ∧ noGet (hd.heap_39 w.params) none = true ∧ plainOver (hd.heap_39 w.params) 78 = true ∧ findIn (hd.heap_39 w.params) (.ref 78) (Str.ofString "__setattr__") = some (some (.builtin "object.__setattr__"))) := by
  k_fill; unfold about; refine ⟨by k_is, by k_is, by k_is, by k_is⟩
section
variable {w : World} {A : Around} {E : Value → Shared → Prop} {s : Shared} {h₀ : Heap} {L : Addr} {m : Str → Option Value} {news news' : Led} {l : Addr} {rs : List (Addr × Addr)} {fs : Nat → Inf} {expr : Bool} {Q : Value → Shared → Prop} {k : Nat} {r : Addr × Addr}
theorem att_parent (F : Fr h₀ L s.heap m) (X₀ : (hd.heap_39 w.params).In h₀) (N : News h₀ L s.heap news') (hs : ∀ p ∈ news, p ∈ news') (R : RowIn news l rs fs) (hr : rs[k]? = some r)
    (h : ∀ t, Q (.int (fs k).parent t) { s with toks := s.toks + 1 }) : wpAny (model PySem.Challenge.rw_pb0156_01.row.prog w) A (getAttr (.ref r.1) (Str.ofString "parent") expr) Q E s :=
  get_parent F X₀ N hs R hr (kk_parent w).1 (kk_cls w).1 (kk_parent w).2.1 (kk_cls w).2.1 h
theorem att_bond (F : Fr h₀ L s.heap m) (X₀ : (hd.heap_39 w.params).In h₀) (N : News h₀ L s.heap news') (hs : ∀ p ∈ news, p ∈ news') (R : RowIn news l rs fs) (hr : rs[k]? = some r)
    (h : ∀ t, Q (.str (fs k).bond t) { s with toks := s.toks + 1 }) : wpAny (model PySem.Challenge.rw_pb0156_01.row.prog w) A (getAttr (.ref r.1) (Str.ofString "bond") expr) Q E s :=
  get_bond F X₀ N hs R hr (kk_bond w).1 (kk_cls w).1 (kk_bond w).2.1 (kk_cls w).2.1 h
theorem att_yoff (F : Fr h₀ L s.heap m) (X₀ : (hd.heap_39 w.params).In h₀) (N : News h₀ L s.heap news') (hs : ∀ p ∈ news, p ∈ news') (R : RowIn news l rs fs) (hr : rs[k]? = some r)
    (h : ∀ t, Q (.int (fs k).yoff t) { s with toks := s.toks + 1 }) : wpAny (model PySem.Challenge.rw_pb0156_01.row.prog w) A (getAttr (.ref r.1) (Str.ofString "y_offset") expr) Q E s :=
  get_yoff F X₀ N hs R hr (kk_yoff w).1 (kk_cls w).1 (kk_yoff w).2.1 (kk_cls w).2.1 h
end
end Mine
namespace Mine
theorem range_size {b : Nat} : Builtin.Range.rangeSize 0 (b : Int) 1 = ((b : Nat) : Int) := by
  rw [rangeSize_nat]; simp
end Mine
namespace Mine
theorem lookup_over : ∀ (ps : List (Str × Value)), (fun y => List.lookup y ps) = over ps (fun _ => none)
  | [] => rfl
  | (x, v) :: r => by
    funext y
    have ih := congrFun (lookup_over r) y
    show List.lookup y ((x, v) :: r) = if y = x then some v else over r (fun _ => none) y
    rw [← ih, List.lookup_cons]
    by_cases e : y = x
    · rw [if_pos e, e, beq_self_eq_true]
    · rw [if_neg e, beq_false_of_ne e]
theorem fr_bound {h₀ h : Heap} {L : Addr} (ps : List (Str × Value)) {ps' : List (Str × Value)} (F : Fr h₀ L h (fun y => List.lookup y ps')) (e : ps' = ps) : Fr h₀ L h (over ps (fun _ => none)) := by
  subst e; rw [← lookup_over]; exact F
end Mine
namespace Mine

theorem put_put (a : Addr) (o o' : Obj) (l : Led) : put a o (put a o' l) = put a o l := by
  unfold put
  rw [List.map_map]
  apply List.map_congr_left
  intro p _
  by_cases h : p.1 = a <;> simp [h]
theorem put_sub {a : Addr} {o' : Obj} {l l' : Led} (h : ∀ p ∈ l, p ∈ l') : ∀ p ∈ put a o' l, p ∈ put a o' l' := fun p hp => by
  obtain ⟨q, hq, e⟩ := List.mem_map.mp hp
  exact List.mem_map.mpr ⟨q, h q hq, e⟩
theorem put_cons {a b : Addr} {o o' : Obj} {l : Led} (h : b ≠ a) : put a o' ((b, o) :: l) = (b, o) :: put a o' l := by
  unfold put; rw [List.map_cons, if_neg h]
theorem put_id {h₀ h : Heap} {L a : Addr} {o' : Obj} {l : Led} (N : News h₀ L h l) (hm : (a, o') ∈ l) : put a o' l = l := by
  unfold put
  conv => rhs; rw [← List.map_id l]
  apply List.map_congr_left
  intro p hp
  by_cases e : p.1 = a
  · rw [if_pos e]
    have := news_two N hm (show (a, p.2) ∈ l by rw [← e]; exact hp)
    exact Prod.ext e.symm this
  · rw [if_neg e]; rfl

theorem fneg {name : Str} {e : DictEntry} {r : List DictEntry} (h : ¬ e.key.isStr name = true) : (e :: r).find? (fun e => e.key.isStr name) = r.find? (fun e => e.key.isStr name) := by
  rw [List.find?_cons]; simp [h]
theorem fpos {name : Str} {e : DictEntry} {r : List DictEntry} (h : e.key.isStr name = true) : (e :: r).find? (fun e => e.key.isStr name) = some e := by
  rw [List.find?_cons]; simp [h]
theorem find_putL_same (name : Str) (hsh : Int) (tk : Tok) (v : Value) : ∀ es : List DictEntry, ∃ e, (putL name hsh (.str name tk) v es).find? (fun e => e.key.isStr name) = some e ∧ e.val = v
  | [] => by
    refine ⟨⟨hsh, .str name tk, v⟩, ?_, rfl⟩
    simp [putL, Value.isStr]
  | e :: r => by
    unfold putL
    by_cases h : e.key.isStr name = true
    · rw [if_pos h]
      exact ⟨⟨e.hash, e.key, v⟩, by simp [h], rfl⟩
    · rw [if_neg h]
      obtain ⟨e', he, hv⟩ := find_putL_same name hsh tk v r
      exact ⟨e', by rw [fneg h]; exact he, hv⟩
theorem isStr_two {v : Value} {a b : Str} (h1 : v.isStr a = true) (h2 : v.isStr b = true) : a = b := by
  cases v <;> simp [Value.isStr] at h1 h2
  rw [← h1, ← h2]
theorem find_putL_ne {name name' : Str} (hn : name ≠ name') (hsh : Int) (tk : Tok) (v : Value) : ∀ {es : List DictEntry} {e : DictEntry}, es.find? (fun e => e.key.isStr name) = some e → (putL name' hsh (.str name' tk) v es).find? (fun e => e.key.isStr name) = some e
  | [], _, h => nomatch h
  | e :: r, e', h => by
    unfold putL
    by_cases h' : e.key.isStr name' = true
    · rw [if_pos h']
      have hne : ¬ e.key.isStr name = true := fun q => hn (isStr_two q h')
      rw [fneg hne] at h
      rw [fneg (e := ⟨e.hash, e.key, v⟩) hne]
      exact h
    · rw [if_neg h']
      by_cases q : e.key.isStr name = true
      · rw [fpos q] at h ⊢; exact h
      · rw [fneg q] at h ⊢
        exact find_putL_ne hn hsh tk v h
theorem getL_find {name : Str} {es : List DictEntry} {v : Value} : getL name es = some (some v) ↔ ∃ e, es.find? (fun e => e.key.isStr name) = some e ∧ e.val = v := by
  unfold getL
  cases h : es.find? (fun e => e.key.isStr name) with
  | none =>
    constructor
    · intro q
      dsimp only at q
      split at q <;> cases q
    · rintro ⟨e, q, _⟩; cases q
  | some e => simp
theorem getL_put_same (name : Str) (hsh : Int) (tk : Tok) (v : Value) (es : List DictEntry) : getL name (putL name hsh (.str name tk) v es) = some (some v) := getL_find.mpr (find_putL_same name hsh tk v es)
theorem getL_put_ne {name name' : Str} (hn : name ≠ name') (hsh : Int) (tk : Tok) (v : Value) {es : List DictEntry} {u : Value} (h : getL name es = some (some u)) : getL name (putL name' hsh (.str name' tk) v es) = some (some u) := by
  obtain ⟨e, he, hv⟩ := getL_find.mp h
  exact getL_find.mpr ⟨e, find_putL_ne hn hsh tk v he, hv⟩
theorem putL_len {name : Str} (hsh : Int) (key v : Value) : ∀ {es : List DictEntry} {u : Value}, getL name es = some (some u) → (putL name hsh key v es).length = es.length := by
  intro es u h
  obtain ⟨e, he, _⟩ := getL_find.mp h
  clear h
  induction es with
  | nil => cases he
  | cons x r ih =>
    unfold putL
    by_cases q : x.key.isStr name = true
    · rw [if_pos q]; rfl
    · rw [if_neg q, List.length_cons, List.length_cons]
      rw [fneg q] at he
      rw [ih he]

theorem ne_parent_bond : (Str.ofString "parent") ≠ Str.ofString "bond" := by decide
theorem ne_parent_yoff : (Str.ofString "parent") ≠ Str.ofString "y_offset" := by decide
theorem ne_bond_yoff : (Str.ofString "bond") ≠ Str.ofString "y_offset" := by decide

/-- the row with other fields at one place -/
def at1 (fs : Nat → Inf) (k : Nat) (f : Inf) : Nat → Inf := fun j => if j = k then f else fs j
theorem RowIn.put {h₀ h : Heap} {L : Addr} {news : Led} {l : Addr} {rs : List (Addr × Addr)} {fs : Nat → Inf} (R : RowIn news l rs fs) (N : News h₀ L h news) {k : Nat} {r : Addr × Addr} (hr : rs[k]? = some r) {es' : List DictEntry} {n' : Nat} {f : Inf} (hE : InfEs es' f) :
    RowIn (Mine.put r.2 (dictOf es' n') news) l rs (at1 fs k f) := by
  obtain ⟨es, n, hd, _⟩ := R.dict k r hr
  refine ⟨?_, fun i q hq => ?_, fun i q hq => ?_, R.apart, R.few⟩
  · obtain ⟨c, hl⟩ := R.lst
    exact ⟨c, put_ne hl (news_apart N hl hd (by intro e; cases congrArg Obj.data e))⟩
  · exact put_ne (R.inst i q hq) (news_apart N (R.inst i q hq) hd (by intro e; cases congrArg Obj.data e))
  · by_cases e : i = k
    · subst e
      obtain rfl := Option.some.inj (hr.symm.trans hq)
      exact ⟨es', n', put_self hd, by unfold at1; rw [if_pos rfl]; exact hE⟩
    · obtain ⟨es₁, n₁, h₁, h₂⟩ := R.dict i q hq
      refine ⟨es₁, n₁, put_ne h₁ (fun z => e (R.apart i k q r hq hr z)), ?_⟩
      unfold at1; rw [if_neg e]; exact h₂

section
variable {w : World} {A : Around} {E : Value → Shared → Prop} {s : Shared} {h₀ : Heap} {L : Addr} {m : Str → Option Value} {news news' : Led} {l : Addr} {rs : List (Addr × Addr)} {fs : Nat → Inf} {Q : Unit → Shared → Prop} {k : Nat} {r : Addr × Addr}
/-- a field of an Info stored -/
theorem set_any {name : Str} {v : Value} (F : Fr h₀ L s.heap m) (X₀ : (hd.heap_39 w.params).In h₀) (N : News h₀ L s.heap news') (hs : ∀ p ∈ news, p ∈ news') (R : RowIn news l rs fs) (hr : rs[k]? = some r)
    (ht : takerIn (hd.heap_39 w.params) 78 name = some none) (hn : name = Str.ofString "parent" ∨ name = Str.ofString "bond" ∨ name = Str.ofString "y_offset") {f : Inf}
    (hf : ∀ (es : List DictEntry) (hsh : Int) (tk : Tok), InfEs es (fs k) → InfEs (putL name hsh (.str name tk) v es) f)
    (h : ∀ es' n' h', Fr h₀ L h' m → News h₀ L h' (put r.2 (dictOf es' n') news') → RowIn (put r.2 (dictOf es' n') news) l rs (at1 fs k f) → Q () { s with heap := h', toks := s.toks + 2 }) :
    wpAny (model PySem.Challenge.rw_pb0156_01.row.prog w) A (setAttr (.ref r.1) name v) Q E s := by
  obtain ⟨es, n, hd, hE, I⟩ := row_inst N hs R hr
  have hl : ∃ u, getL name es = some (some u) := by
    rcases hn with rfl | rfl | rfl
    · obtain ⟨t, e⟩ := hE.parent; exact ⟨_, e⟩
    · obtain ⟨t, e⟩ := hE.bond; exact ⟨_, e⟩
    · obtain ⟨t, e⟩ := hE.yoff; exact ⟨_, e⟩
  obtain ⟨u, hl⟩ := hl
  refine set_dict F X₀ (news_lead N hd) I rfl (kk_cls w).2.2.2 (kk_cls w).2.2.1 ht (kk_cls w).1 (by rw [hl]; rfl) rfl lead_upd (by rw [putL_len _ _ _ hl]; have := hE.small; omega) fun h' F' N' => ?_
  exact h _ _ h' F' (put_of_lead N') (R.put (news_sub N hs) hr (hf _ _ _ hE))

theorem set_parent {i : Int} {t : Tok} (F : Fr h₀ L s.heap m) (X₀ : (hd.heap_39 w.params).In h₀) (N : News h₀ L s.heap news') (hs : ∀ p ∈ news, p ∈ news') (R : RowIn news l rs fs) (hr : rs[k]? = some r)
    (h : ∀ es' n' h', Fr h₀ L h' m → News h₀ L h' (put r.2 (dictOf es' n') news') → RowIn (put r.2 (dictOf es' n') news) l rs (at1 fs k ⟨i, (fs k).bond, (fs k).yoff⟩) → Q () { s with heap := h', toks := s.toks + 2 }) :
    wpAny (model PySem.Challenge.rw_pb0156_01.row.prog w) A (setAttr (.ref r.1) (Str.ofString "parent") (.int i t)) Q E s :=
  set_any F X₀ N hs R hr (kk_parent w).2.2 (.inl rfl) (fun es hsh tk hE => by
    obtain ⟨⟨t1, e1⟩, ⟨t2, e2⟩, ⟨t3, e3⟩, e4⟩ := hE
    exact ⟨⟨t, getL_put_same _ _ _ _ _⟩, ⟨t2, getL_put_ne (Ne.symm ne_parent_bond) _ _ _ e2⟩, ⟨t3, getL_put_ne (Ne.symm ne_parent_yoff) _ _ _ e3⟩, by rw [putL_len _ _ _ e1]; exact e4⟩) h
theorem set_bond {i : Str} {t : Tok} (F : Fr h₀ L s.heap m) (X₀ : (hd.heap_39 w.params).In h₀) (N : News h₀ L s.heap news') (hs : ∀ p ∈ news, p ∈ news') (R : RowIn news l rs fs) (hr : rs[k]? = some r)
    (h : ∀ es' n' h', Fr h₀ L h' m → News h₀ L h' (put r.2 (dictOf es' n') news') → RowIn (put r.2 (dictOf es' n') news) l rs (at1 fs k ⟨(fs k).parent, i, (fs k).yoff⟩) → Q () { s with heap := h', toks := s.toks + 2 }) :
    wpAny (model PySem.Challenge.rw_pb0156_01.row.prog w) A (setAttr (.ref r.1) (Str.ofString "bond") (.str i t)) Q E s :=
  set_any F X₀ N hs R hr (kk_bond w).2.2 (.inr (.inl rfl)) (fun es hsh tk hE => by
    obtain ⟨⟨t1, e1⟩, ⟨t2, e2⟩, ⟨t3, e3⟩, e4⟩ := hE
    exact ⟨⟨t1, getL_put_ne ne_parent_bond _ _ _ e1⟩, ⟨t, getL_put_same _ _ _ _ _⟩, ⟨t3, getL_put_ne (Ne.symm ne_bond_yoff) _ _ _ e3⟩, by rw [putL_len _ _ _ e2]; exact e4⟩) h
theorem set_yoff {i : Int} {t : Tok} (F : Fr h₀ L s.heap m) (X₀ : (hd.heap_39 w.params).In h₀) (N : News h₀ L s.heap news') (hs : ∀ p ∈ news, p ∈ news') (R : RowIn news l rs fs) (hr : rs[k]? = some r)
    (h : ∀ es' n' h', Fr h₀ L h' m → News h₀ L h' (put r.2 (dictOf es' n') news') → RowIn (put r.2 (dictOf es' n') news) l rs (at1 fs k ⟨(fs k).parent, (fs k).bond, i⟩) → Q () { s with heap := h', toks := s.toks + 2 }) :
    wpAny (model PySem.Challenge.rw_pb0156_01.row.prog w) A (setAttr (.ref r.1) (Str.ofString "y_offset") (.int i t)) Q E s :=
  set_any F X₀ N hs R hr (kk_yoff w).2.2 (.inr (.inr rfl)) (fun es hsh tk hE => by
    obtain ⟨⟨t1, e1⟩, ⟨t2, e2⟩, ⟨t3, e3⟩, e4⟩ := hE
    exact ⟨⟨t1, getL_put_ne ne_parent_yoff _ _ _ e1⟩, ⟨t2, getL_put_ne ne_bond_yoff _ _ _ e2⟩, ⟨t, getL_put_same _ _ _ _ _⟩, by rw [putL_len _ _ _ e3]; exact e4⟩) h
end
end Mine
namespace Mine
section
variable {prog : Program} {w : World} {A : Around} {E : Value → Shared → Prop} {s : Shared} {env : Env} {h₀ : Heap} {x : Str} {target : Expr} {body : List Stmt} {Q : Flow → Shared → Prop}
/-- a for over a list of the ledger, by what holds between its turns -/
theorem list_loop {ax : Addr} {vs : List Value} {n : Nat} {m₀ : Str → Option Value} {news : Led} (J : Nat → (Str → Option Value) → Led → Prop)
    (hh : A.handled = none) (F : Fr h₀ env.locals s.heap m₀) (N : News h₀ env.locals s.heap news) (hm : (ax, listOf vs.toArray n) ∈ news)
    (hJ : J 0 m₀ news)
    (turn : ∀ i v m₁ nw I it h tk, vs[i]? = some v → J i m₁ nw → (ax, listOf vs.toArray n) ∈ nw → Fr h₀ env.locals h m₁ → News h₀ env.locals h ((I, it) :: nw) → (∀ p ∈ nw, p.1 ≠ I) →
      wpAny (model prog w) A (assign target env v) (fun _ s₂ => wpAny (model prog w) A (execs body env) (UnrPost h₀ env.locals { s with heap := h, toks := tk } I it (fun m' nw' => (ax, listOf vs.toArray n) ∈ nw' ∧ J (i + 1) m' nw') Q) E s₂) E { s with heap := h, toks := tk })
    (done : ∀ m₁ nw h tk, J vs.length m₁ nw → Fr h₀ env.locals h m₁ → News h₀ env.locals h nw → Q .next { s with heap := h, toks := tk }) :
    wpAny (model prog w) A (pyIter (.ref ax)) (fun it s₂ => TurnsAt prog w A h₀ env target body Q E it s₂) E s := by
  refine iter_listTurns (vs := vs) hh F N hm rfl rfl fun I hI => ?_
  have key : ∀ (r : List Value) i m₁ nw, vs.drop i = r → i ≤ vs.length → J i m₁ nw → (ax, listOf vs.toArray n) ∈ nw → (∀ p ∈ nw, p.1 ≠ I) → ItemsRest prog w A E h₀ env target body Q s [(I, "list_iterator")] [(ax, listOf vs.toArray n)] (r.map .val) m₁ nw := by
    intro r
    induction r with
    | nil =>
      intro i m₁ nw hr hi hj hax hoff
      have e : i = vs.length := by
        have := congrArg List.length hr
        rw [List.length_drop, List.length_nil] at this
        omega
      subst e
      exact ItemsRest.zero fun h tk F' N' => done m₁ nw h tk hj F' N'
    | cons v r ih =>
      intro i m₁ nw hr hi hj hax hoff
      have hv : vs[i]? = some v := by
        have := congrArg (fun l => l[0]?) hr
        simpa using this
      have hr' : vs.drop (i + 1) = r := by
        have := congrArg (List.drop 1) hr
        rw [List.drop_drop] at this
        simpa [Nat.add_comm] using this
      have hi' : i + 1 ≤ vs.length := by
        have := List.getElem?_eq_some_iff.mp hv
        obtain ⟨q, _⟩ := this
        exact q
      refine ItemsRest.val fun h tk F' => AllObj.cons fun it hc => AllObj.nil fun N' => ?_
      refine wpAny_mono (turn i v m₁ nw I it h tk hv hj hax F' N' hoff) (fun _ s₂ h₂ => wpAny_mono h₂ (fun f s₃ hp => ?_) fun _ _ e => e) fun _ _ e => e
      have fin : UnrEnd h₀ env.locals { s with heap := h, toks := tk } I it (fun m' nw' => (ax, listOf vs.toArray n) ∈ nw' ∧ J (i + 1) m' nw') s₃ → UnrEndW h₀ env.locals { s with heap := h, toks := tk } [(I, it)] (fun m' n' => SubL [(ax, listOf vs.toArray n)] n' ∧ ItemsRest prog w A E h₀ env target body Q s [(I, "list_iterator")] [(ax, listOf vs.toArray n)] (r.map .val) m' n') s₃ := by
        rintro ⟨h', tk', m', news', e, F'', N'', ho, r1, r2⟩
        exact ⟨h', tk', m', news', e, F'', N'', (fun p hp q hq => by rw [List.mem_singleton.mp hq]; exact ho p hp), ⟨r1, trivial⟩, ih (i + 1) m' news' hr' hi' r2 r1 ho⟩
      cases f with
      | ret v => exact hp
      | brk => exact hp
      | next => exact fin hp
      | cont => exact fin hp
  exact key vs 0 m₀ news rfl (Nat.zero_le _) hJ hm fun p hp => Nat.ne_of_lt (hI p hp)

/-- how a turn of a while ends -/
def WEnd (h₀ : Heap) (L : Addr) (s : Shared) (J : (Str → Option Value) → Led → Prop) (s₂ : Shared) : Prop :=
  ∃ h' tk m' nw', s₂ = { s with heap := h', toks := tk } ∧ Fr h₀ L h' m' ∧ News h₀ L h' nw' ∧ J m' nw'
def WPost (h₀ : Heap) (L : Addr) (s : Shared) (J K : (Str → Option Value) → Led → Prop) (f : Flow) (s₂ : Shared) : Prop :=
  match f with
  | .ret _ => False
  | .brk => WEnd h₀ L s K s₂
  | _ => WEnd h₀ L s J s₂
theorem while_loop {test : Expr} {pos : Pos} {m₀ : Str → Option Value} {news : Led} (J : Nat → (Str → Option Value) → Led → Prop) (K : (Str → Option Value) → Led → Prop) (n₀ : Nat)
    (F : Fr h₀ env.locals s.heap m₀) (N : News h₀ env.locals s.heap news) (hJ : J n₀ m₀ news)
    (turn : ∀ n m₁ nw h tk E', J n m₁ nw → Fr h₀ env.locals h m₁ → News h₀ env.locals h nw →
      wpAny (model prog w) A (isTrue test env (eval test env)) (fun b s₂ => if b = true then wpAny (model prog w) A (execs body env) (WPost h₀ env.locals s (fun m' nw' => ∃ n', n' < n ∧ J n' m' nw') K) E' s₂ else WEnd h₀ env.locals s K s₂) E' { s with heap := h, toks := tk })
    (after : ∀ m₁ nw h tk, K m₁ nw → Fr h₀ env.locals h m₁ → News h₀ env.locals h nw → Q .next { s with heap := h, toks := tk }) :
    wpAny (model prog w) A (exec (.While test body [] pos) env) Q E s := by
  have out : ∀ s₂, WEnd h₀ env.locals s K s₂ → Q .next s₂ := by
    rintro s₂ ⟨h', tk, m', nw', rfl, F', N', k⟩
    exact after m' nw' h' tk k F' N'
  refine wpAny_While (codeAny_whileLoop (fun n s' => ∃ h' tk m' nw', s' = { s with heap := h', toks := tk } ∧ Fr h₀ env.locals h' m' ∧ News h₀ env.locals h' nw' ∧ J n m' nw') ?_ n₀ ⟨s.heap, s.toks, m₀, news, rfl, F, N, hJ⟩)
  rintro n s' ⟨h', tk, m', nw', rfl, F', N', hj⟩
  refine wpAny_mono (turn n m' nw' h' tk _ hj F' N') (fun b s₂ hb => ?_) fun _ _ e => e
  cases b with
  | false =>
    simp only [Bool.false_eq_true, if_false] at hb ⊢
    exact wpAny_execs_nil (out _ hb)
  | true =>
    simp only [if_true] at hb ⊢
    refine wpAny_mono hb (fun f s₃ hp => ?_) fun _ _ e => e
    have fin : WEnd h₀ env.locals s (fun m' nw' => ∃ n', n' < n ∧ J n' m' nw') s₃ → ∃ m, m < n ∧ ∃ h' tk m' nw', s₃ = { s with heap := h', toks := tk } ∧ Fr h₀ env.locals h' m' ∧ News h₀ env.locals h' nw' ∧ J m m' nw' := by
      rintro ⟨h', tk', m', nw', e, F'', N'', n', hn, r⟩
      exact ⟨n', hn, h', tk', m', nw', e, F'', N'', r⟩
    cases f with
    | ret v => exact hp.elim
    | brk => exact out _ hp
    | next => exact fin hp
    | cont => exact fin hp
theorem WEnd.intro {L : Addr} {J : (Str → Option Value) → Led → Prop} {m' : Str → Option Value} {nw' : Led} {h' : Heap} {tk : Nat} (F : Fr h₀ L h' m') (N : News h₀ L h' nw') (hj : J m' nw') : WEnd h₀ L s J { s with heap := h', toks := tk } := ⟨h', tk, m', nw', rfl, F, N, hj⟩
end

/-- what a ledger keeps of another: all but the row's dicts -/
def Kept (rs : List (Addr × Addr)) (news nw : Led) : Prop := ∀ p ∈ news, (∀ r ∈ rs, p.1 ≠ r.2) → p ∈ nw
theorem Kept.refl {rs : List (Addr × Addr)} {news : Led} : Kept rs news news := fun _ h _ => h
theorem Kept.trans {rs : List (Addr × Addr)} {a b c : Led} (h1 : Kept rs a b) (h2 : Kept rs b c) : Kept rs a c := fun p hp hn => h2 p (h1 p hp hn) hn
theorem Kept.put {rs : List (Addr × Addr)} {news : Led} {k : Nat} {r : Addr × Addr} {o : Obj} (hr : rs[k]? = some r) : Kept rs news (Mine.put r.2 o news) := fun p hp hn => by
  have := hn r (List.mem_of_getElem? hr)
  exact put_ne (o := p.2) hp this
theorem Kept.sub {rs : List (Addr × Addr)} {a b c : Led} (h1 : Kept rs a b) (h2 : ∀ p ∈ b, p ∈ c) : Kept rs a c := fun p hp hn => h2 p (h1 p hp hn)
theorem Kept.of {rs : List (Addr × Addr)} {a b c : Led} (h1 : Kept rs b c) (h2 : ∀ p ∈ a, p ∈ b) : Kept rs a c := fun p hp hn => h1 p (h2 p hp) hn
theorem RowIn.mono {news nw : Led} {l : Addr} {rs : List (Addr × Addr)} {fs : Nat → Inf} (R : RowIn news l rs fs) (hs : ∀ p ∈ news, p ∈ nw) : RowIn nw l rs fs :=
  ⟨let ⟨k, h⟩ := R.lst; ⟨k, hs _ h⟩, fun i r hr => hs _ (R.inst i r hr), fun i r hr => let ⟨es, k, h, e⟩ := R.dict i r hr; ⟨es, k, hs _ h, e⟩, R.apart, R.few⟩

theorem spec_use {w : World} {mean : ExcName → Option Value} {mg mb : Str → Option Value} {lv : Nat} {f : Addr} {vs : List Value} {news : Led} {Ret : Value → Led → Prop} (S : Spec w mean mg mb lv f vs news Ret)
    {dp un : Nat} {gd : Option (List Code)} {cn : Str} {cs : Scope} {a : Addr} {ccd : Value} {cl : List (Str × Addr)} {outer : List Env} {A₀ : Around} {base h₀ : Heap} {L : Addr} {m : Str → Option Value} {s : Shared} {Q E : Value → Shared → Prop}
    (B : Below A₀ base outer h₀) (F : Fr h₀ L s.heap m) (X : (hd.heap_39 w.params).In h₀) (N : News h₀ L s.heap news) (T : Top hd.view_39 (looseW hd.view_39 []) mean mg mb h₀) (hk : cs.kind = .function) (hd : dp + lv < recursionLimit) (hu : un + 8 * lv < cLine)
    (h : ∀ v news' h' tk', Ret v news' → Fr h₀ L h' m → News h₀ L h' news' → Q v { s with heap := h', toks := tk' }) :
    wpAny (model PySem.Challenge.rw_pb0156_01.row.prog w) (ktrTop dp un gd cn cs L a ccd cl outer) (call (.ref f) vs) Q E s := S _ _ _ _ _ _ _ _ _ _ _ _ _ _ _ _ _ B F X N T hk hd hu h

abbrev tupOf (vs : List Value) (n : Nat) : Obj := { cls := .type "tuple", data := .seq vs.toArray n }
theorem kept_mem {h₀ h : Heap} {L : Addr} {nw nw' : Led} {l : Addr} {rs : List (Addr × Addr)} {fs : Nat → Inf} (N : News h₀ L h nw) (R : RowIn nw l rs fs) (hk : Kept rs nw nw') {a : Addr} {o : Obj} (hm : (a, o) ∈ nw) (ho : o.cls ≠ .type "dict") : (a, o) ∈ nw' := by
  refine hk _ hm fun r hr e => ?_
  obtain ⟨i, hi⟩ := List.mem_iff_getElem?.mp hr
  obtain ⟨es, n, hd, _⟩ := R.dict i r hi
  have e' : a = r.2 := e
  subst e'
  exact ho (by rw [news_two N hm hd])
theorem append_put {prog : Program} {w : World} {A : Around} {E : Value → Shared → Prop} {s : Shared} {h₀ : Heap} {L : Addr} {m : Str → Option Value} {nw : Led} {D : Addr} {its : Array Value} {n : Nat} {x : Value} {Q : Value → Shared → Prop} (F : Fr h₀ L s.heap m) (N : News h₀ L s.heap nw) (hm : (D, listOf its n) ∈ nw)
    (h : ∀ h', Fr h₀ L h' m → News h₀ L h' (put D (listOf (its.push x) (n + 1)) nw) → Q .none { s with heap := h' }) (hsz : its.size ≤ sizeLine) :
    wpAny (model prog w) A (call (.builtin "list.append") [.ref D, x]) Q E s :=
  append_K F (news_lead N hm) lead_upd (fun h' F' N' => h h' F' (put_of_lead N')) hsz

/-- a list of tuples of three ints -/
structure LinksIn (nw : Led) (D : Addr) (ls : List (Nat × Int × Int)) : Prop where
  ex : ∃ (as : List Addr) (k : Nat), (D, listOf (as.map Value.ref).toArray k) ∈ nw ∧ as.length = ls.length ∧
    ∀ (i : Nat) (a : Addr) (x : Nat × Int × Int), as[i]? = some a → ls[i]? = some x → ∃ t1 t2 t3 n, (a, tupOf [.int (x.1 : Nat) t1, .int x.2.1 t2, .int x.2.2 t3] n) ∈ nw
theorem LinksIn.sub {nw nw' : Led} {D : Addr} {ls : List (Nat × Int × Int)} (h : LinksIn nw D ls) (hs : ∀ a o, (a, o) ∈ nw → o.cls ≠ .type "dict" → (a, o) ∈ nw') : LinksIn nw' D ls := by
  obtain ⟨as, k, h1, h2, h3⟩ := h.ex
  refine ⟨as, k, hs _ _ h1 (fun e => absurd (Value.type.inj e) (by decide)), h2, fun i a x ha hx => ?_⟩
  obtain ⟨t1, t2, t3, n, h4⟩ := h3 i a x ha hx
  exact ⟨t1, t2, t3, n, hs _ _ h4 (fun e => absurd (Value.type.inj e) (by decide))⟩
end Mine
namespace Mine
theorem row_apart {h₀ h : Heap} {L : Addr} {nw : Led} {l : Addr} {rs : List (Addr × Addr)} {fs : Nat → Inf} (N : News h₀ L h nw) (R : RowIn nw l rs fs) {k : Nat} {r : Addr × Addr} (hr : rs[k]? = some r) {a : Addr} {o : Obj} (hm : (a, o) ∈ nw) (ho : o.cls ≠ .type "dict") : a ≠ r.2 := by
  obtain ⟨es, n, hd, _⟩ := R.dict k r hr
  exact news_apart N hm hd (fun e => ho (by rw [e]))
theorem cls_list : Value.type "list" ≠ .type "dict" := fun e => absurd (Value.type.inj e) (by decide)
theorem cls_tuple : Value.type "tuple" ≠ .type "dict" := fun e => absurd (Value.type.inj e) (by decide)
theorem cls_list_tuple : Value.type "list" ≠ .type "tuple" := fun e => absurd (Value.type.inj e) (by decide)
theorem RowIn.put_list {nw : Led} {l : Addr} {rs : List (Addr × Addr)} {fs : Nat → Inf} (R : RowIn nw l rs fs) {D : Addr} {o' : Obj} (hl : l ≠ D) (hr : ∀ (i : Nat) (r : Addr × Addr), rs[i]? = some r → r.1 ≠ D ∧ r.2 ≠ D) : RowIn (Mine.put D o' nw) l rs fs :=
  ⟨let ⟨k, h⟩ := R.lst; ⟨k, put_ne h hl⟩, fun i r h => put_ne (R.inst i r h) (hr i r h).1, fun i r h => let ⟨es, k, q, hE⟩ := R.dict i r h; ⟨es, k, put_ne q (hr i r h).2, hE⟩, R.apart, R.few⟩
theorem row_off {h₀ h : Heap} {L : Addr} {nw : Led} {l : Addr} {rs : List (Addr × Addr)} {fs : Nat → Inf} (N : News h₀ L h nw) (R : RowIn nw l rs fs) {D : Addr} {c : String} {dt : Data} (hD : (D, ({ cls := .type c, data := dt } : Obj)) ∈ nw) (hc : ∀ es k, dt ≠ .dict es k) :
    ∀ (i : Nat) (r : Addr × Addr), rs[i]? = some r → r.1 ≠ D ∧ r.2 ≠ D := fun i r hr => by
  refine ⟨news_apart N (R.inst i r hr) hD (fun e => nomatch congrArg Obj.cls e), ?_⟩
  obtain ⟨es, k, h, _⟩ := R.dict i r hr
  exact news_apart N h hD (fun e => hc _ _ (congrArg Obj.data e).symm)
theorem Kept.put_new {rs : List (Addr × Addr)} {news nw : Led} {D : Addr} {o' : Obj} (h : Kept rs news nw) (hD : ∀ p ∈ news, p.1 ≠ D) : Kept rs news (Mine.put D o' nw) := fun p hp hn => put_ne (o := p.2) (h p hp hn) (hD p hp)
end Mine
namespace Mine
theorem row_at {prog : Program} {w : World} {A : Around} {E : Value → Shared → Prop} {s : Shared} {h₀ : Heap} {L : Addr} {news news' : Led} {l : Addr} {rs : List (Addr × Addr)} {fs : Nat → Inf} {value slice : Expr} {k : Nat} {u : Tok} {r : Addr × Addr} {Q : Value → Shared → Prop} (N : News h₀ L s.heap news') (hs : ∀ p ∈ news, p ∈ news') (R : RowIn news l rs fs) (hr : rs[k]? = some r)
    (h : Q (.ref r.1) s)
    (he : subscripted slice false (.ref l) (.int (k : Nat) u) = operate [.ref l, .int (k : Nat) u] (getItem (.ref l) (.int (k : Nat) u))) :
    wpAny (model prog w) A (subscriptTail value slice (.ref l) (.int (k : Nat) u)) Q E s :=
  row_item N hs R (List.getElem?_eq_some_iff.mp hr).1 (fun q hq => by rw [Option.some.inj (hq.symm.trans hr)]; exact h) he
theorem has_row {rs : List (Addr × Addr)} {k : Nat} (h : k < rs.length) : ∃ r, rs[k]? = some r := ⟨_, List.getElem?_eq_getElem h⟩
theorem UnrEnd_of {h₀ : Heap} {L I : Addr} {it : Obj} {rest : (Str → Option Value) → Led → Prop} {s₁ : Shared} {h' : Heap} {tk : Nat} {m' : Str → Option Value} {all : Led} (F : Fr h₀ L h' m') (N : News h₀ L h' all) {news' : Led}
    (sub : ∀ p ∈ (I, it) :: news', p ∈ all) (off : ∀ p ∈ news', p.1 ≠ I) (r : rest m' news') : UnrEnd h₀ L s₁ I it rest { s₁ with heap := h', toks := tk } := UnrEnd.intro F N news' sub off r
theorem put_off {a : Addr} {o : Obj} {l : Led} {I : Addr} (h : ∀ p ∈ l, p.1 ≠ I) : ∀ p ∈ put a o l, p.1 ≠ I := fun p hp => by
  have : p.1 ∈ (put a o l).map (·.1) := List.mem_map_of_mem hp
  rw [put_adr] at this
  obtain ⟨q, hq, e⟩ := List.mem_map.mp this
  rw [← e]; exact h q hq
end Mine
namespace Mine
section
variable {prog : Program} {w : World} {A : Around} {E : Value → Shared → Prop} {s : Shared} {h₀ : Heap} {L : Addr} {m : Str → Option Value} {nw : Led}
theorem set_put {D : Addr} {vs : List Value} {n k : Nat} {t : Tok} {v : Value} {Q : Unit → Shared → Prop} (F : Fr h₀ L s.heap m) (N : News h₀ L s.heap nw) (hm : (D, listOf vs.toArray n) ∈ nw) {i : Int} (hi : i = (k : Nat)) (hk : k < vs.length) (hfit : k < 1000)
    (h : ∀ h', Fr h₀ L h' m → News h₀ L h' (put D (listOf (vs.set k v).toArray n) nw) → Q () { s with heap := h' }) :
    wpAny (model prog w) A (setItem (.ref D) (.int i t) v) Q E s := by
  subst hi
  have e : Obj.mapSeq (·.setIfInBounds k v) (listOf vs.toArray n) = listOf (vs.set k v).toArray n := by
    unfold Obj.mapSeq
    simp
  have U := news_upd (pre := []) (f := Obj.mapSeq (·.setIfInBounds k v)) F (news_lead N hm) (fun _ h => nomatch h) lead_off e rfl
  refine ki_setAt (N _ hm).1 (Int.natCast_nonneg k) (by omega) (by simpa using hk) (h _ U.1 (put_of_lead U.2))
theorem item_put {value slice : Expr} {D : Addr} {its : Array Value} {n : Nat} {i : Int} {u : Tok} {v : Value} {Q : Value → Shared → Prop} (N : News h₀ L s.heap nw) (hm : (D, listOf its n) ∈ nw) (h0 : 0 ≤ i) (hfit : i < 1000) (hv : its[i.toNat]? = some v) (h : Q v s)
    (he : subscripted slice false (.ref D) (.int i u) = operate [.ref D, .int i u] (getItem (.ref D) (.int i u))) :
    wpAny (model prog w) A (subscriptTail value slice (.ref D) (.int i u)) Q E s :=
  item_litK (vs := its.toList) ⟨_, (N _ hm).1, rfl, n, rfl⟩ h0 (by omega) (by simpa using hv) h he
theorem len_put {D : Addr} {its : Array Value} {n : Nat} {Q : Value → Shared → Prop} (N : News h₀ L s.heap nw) (hm : (D, listOf its n) ∈ nw) (hs : its.size < 1000)
    (h : Q (.int (its.size : Nat) (s.toks + 1)) { s with toks := s.toks + 1 + 1 }) : wpAny (model prog w) A (call (.builtin "len") [.ref D]) Q E s :=
  len_list ⟨_, (N _ hm).1, rfl, n, rfl⟩ (by omega) h
end
end Mine
namespace Mine
theorem truthy_put {prog : Program} {w : World} {A : Around} {E : Value → Shared → Prop} {s : Shared} {h₀ : Heap} {L : Addr} {nw : Led} {D : Addr} {its : Array Value} {n : Nat} {Q : Bool → Shared → Prop} (N : News h₀ L s.heap nw) (hm : (D, listOf its n) ∈ nw) (hs : its.size < 1000)
    (h : ∀ tk, Q (decide (0 < its.size)) { s with toks := tk }) : wpAny (model prog w) A (truthy (.ref D)) Q E s := by
  refine wpAny_truthy_list (l := D) (items := its) ⟨_, (N _ hm).1, rfl, n, rfl⟩ (by omega) ?_
  have e : (!its.isEmpty) = decide (0 < its.size) := by
    unfold Array.isEmpty
    cases h0 : its.size with
    | zero => rfl
    | succ k => simp
  rw [e]; exact h _
end Mine
namespace Mine
theorem allLt_mem {d : Addr} : ∀ {l : Led}, AllLt d l → ∀ p ∈ l, p.1 < d
  | [], _, _, h => nomatch h
  | q :: r, h, p, hp => by
    rcases List.mem_cons.mp hp with rfl | hp
    · exact h.1
    · exact allLt_mem h.2 p hp
section
variable {prog : Program} {w : World} {A : Around} {h₀ : Heap} {L : Addr} {m : Str → Option Value} {env : Env} {ct elt : Expr} {x : Str} {scope : Scope} {cl : List (Str × Addr)} {s : Shared} {S : Led → Prop} {P : Nat → Value → Prop} {Fin : List Value → Led → Prop} {news : Led}
/-- a comprehension, by what holds between its turns -/
theorem comp_inv {n : Nat} (J : Nat → List Value → Led → Prop) (hJ : J 0 [] news)
    (turn : ∀ i ys nw v I oI C oC D m₂ h tk (E' : Value → Shared → Prop), i < n → P i v → J i ys nw → LCg.NsObj oC m₂ → m₂ x = some v → Fr h₀ L h m → News h₀ L h ((I, oI) :: (C, oC) :: (D, LCg.lst ys) :: nw) → LCg.Off3 I C D nw → ((@Ne Nat I C) ∧ (@Ne Nat I D) ∧ (@Ne Nat C D)) →
      wpAny (model prog w) A (eval elt (compEnvC scope cl C env)) (LCg.CompEnd h₀ L m { s with heap := h, toks := tk } I oI C oC D (LCg.lst ys) S (fun y nw' => J (i + 1) (ys ++ [y]) nw')) E' { s with heap := h, toks := tk })
    (fin : ∀ ys nw, J n ys nw → Fin ys nw) : LCg.CompRest prog w A h₀ L m env elt x scope cl s S P Fin n 0 [] news := by
  have key : ∀ (j i : Nat) (ys : List Value) (nw : Led), i + j = n → J i ys nw → LCg.CompRest prog w A h₀ L m env elt x scope cl s S P Fin j i ys nw := by
    intro j
    induction j with
    | zero =>
      intro i ys nw hi hy
      have e : i = n := by omega
      subst e
      exact LCg.CompRest.zero (fin ys nw hy)
    | succ j ih =>
      intro i ys nw hi hy
      refine LCg.CompRest.succ ?_
      intro v I oI C oC D m₂ h tk E' hv hC hx F N off ne
      refine wpAny_mono (turn i ys nw v I oI C oC D m₂ h tk E' (by omega) hv hy hC hx F N off ne) (fun y s₂ hq => ?_) fun _ _ e => e
      obtain ⟨h', tk', nw', e, F', N', off', hS, hn⟩ := hq
      exact ⟨h', tk', nw', e, F', N', off', hS, ih (i + 1) _ _ (by omega) hn⟩
  exact key n 0 [] news (by omega) hJ
/-- a comprehension with a test -/
theorem comp_invT {n : Nat} (J : Nat → List Value → Led → Prop) (hJ : J 0 [] news)
    (turn : ∀ i ys nw v I oI C oC D m₂ h tk (E' : Value → Shared → Prop), i < n → P i v → J i ys nw → LCg.NsObj oC m₂ → m₂ x = some v → Fr h₀ L h m → News h₀ L h ((I, oI) :: (C, oC) :: (D, LCg.lst ys) :: nw) → LCg.Off3 I C D nw → ((@Ne Nat I C) ∧ (@Ne Nat I D) ∧ (@Ne Nat C D)) →
      wpAny (model prog w) A (isTrue ct (compEnvC scope cl C env) (eval ct (compEnvC scope cl C env))) (fun ok s' => if ok = true then
        wpAny (model prog w) A (eval elt (compEnvC scope cl C env)) (LCg.CompEnd h₀ L m { s with heap := h, toks := tk } I oI C oC D (LCg.lst ys) S (fun y nw' => J (i + 1) (ys ++ [y]) nw')) E' s'
        else LCg.CompEnd h₀ L m { s with heap := h, toks := tk } I oI C oC D (LCg.lst ys) S (fun _ nw' => J (i + 1) ys nw') Value.none s') E' { s with heap := h, toks := tk })
    (fin : ∀ ys nw, J n ys nw → Fin ys nw) : LCt.CompRestT prog w A h₀ L m env ct elt x scope cl s S P Fin n 0 [] news := by
  have key : ∀ (j i : Nat) (ys : List Value) (nw : Led), i + j = n → J i ys nw → LCt.CompRestT prog w A h₀ L m env ct elt x scope cl s S P Fin j i ys nw := by
    intro j
    induction j with
    | zero =>
      intro i ys nw hi hy
      have e : i = n := by omega
      subst e
      exact LCt.CompRestT.zero (fin ys nw hy)
    | succ j ih =>
      intro i ys nw hi hy
      refine LCt.CompRestT.succ ?_
      intro v I oI C oC D m₂ h tk E' hv hC hx F N off ne
      refine wpAny_mono (turn i ys nw v I oI C oC D m₂ h tk E' (by omega) hv hy hC hx F N off ne) (fun ok s₂ hq => ?_) fun _ _ e => e
      have fin : ∀ {ys' : List Value} {y : Value} {s₃ : Shared}, LCg.CompEnd h₀ L m { s with heap := h, toks := tk } I oI C oC D (LCg.lst ys) S (fun _ nw' => J (i + 1) ys' nw') y s₃ → LCg.CompEnd h₀ L m { s with heap := h, toks := tk } I oI C oC D (LCg.lst ys) S (fun _ nw' => LCt.CompRestT prog w A h₀ L m env ct elt x scope cl s S P Fin j (i + 1) ys' nw') y s₃ := by
        rintro ys' y s₃ ⟨h', tk', nw', e, F', N', off', hS, hn⟩
        exact ⟨h', tk', nw', e, F', N', off', hS, ih (i + 1) _ _ (by omega) hn⟩
      cases ok with
      | true =>
        simp only [if_true] at hq ⊢
        exact wpAny_mono hq (fun y s₃ h₃ => fin (ys' := ys ++ [y]) (y := y) h₃) fun _ _ e => e
      | false =>
        simp only [Bool.false_eq_true, if_false] at hq ⊢
        exact fin hq
  exact key n 0 [] news (by omega) hJ
theorem CompEnd_of {s₁ : Shared} {I : Addr} {oI : Obj} {C : Addr} {oC : Obj} {D : Addr} {oD : Obj} {rest : Value → Led → Prop} {y : Value} {h' : Heap} {tk : Nat} {all nw' : Led} (F : Fr h₀ L h' m) (N : News h₀ L h' all) (sub : ∀ p ∈ (I, oI) :: (C, oC) :: (D, oD) :: nw', p ∈ all)
    (off : LCg.Off3 I C D nw') (hS : S nw') (r : rest y nw') : LCg.CompEnd h₀ L m s₁ I oI C oC D oD S rest y { s₁ with heap := h', toks := tk } := ⟨h', tk, nw', rfl, F, news_sub N sub, off, hS, r⟩
end
/-- a tuple of an Info's three fields -/
def TupIn (nw : Led) (a : Addr) (x : Inf) : Prop := ∃ t1 t2 t3 n, (a, tupOf [.int x.parent t1, .str x.bond t2, .int x.yoff t3] n) ∈ nw
structure ToldIn (nw : Led) (D : Addr) (xs : List Inf) : Prop where
  ex : ∃ (as : List Addr) (k : Nat), (D, listOf (as.map Value.ref).toArray k) ∈ nw ∧ as.length = xs.length ∧ ∀ (i : Nat) (a : Addr) (x : Inf), as[i]? = some a → xs[i]? = some x → TupIn nw a x
abbrev natInts (cs : List Nat) : List Int := cs.map (fun (c : Nat) => ((c : Nat) : Int))

theorem CompEnd_new {h₀ : Heap} {L : Addr} {m : Str → Option Value} {S : Led → Prop} {s₁ : Shared} {I : Addr} {oI : Obj} {C : Addr} {oC : Obj} {D : Addr} {oD : Obj} {rest : Value → Led → Prop} {y : Value} {h' : Heap} {tk : Nat} {T : Addr} {o : Obj} {nw : Led} (F : Fr h₀ L h' m) (N : News h₀ L h' ((T, o) :: (I, oI) :: (C, oC) :: (D, oD) :: nw))
    (hlt : I < T ∧ C < T ∧ D < T ∧ AllLt T nw) (off : LCg.Off3 I C D nw) (hS : S ((T, o) :: nw)) (r : rest y ((T, o) :: nw)) : LCg.CompEnd h₀ L m s₁ I oI C oC D oD S rest y { s₁ with heap := h', toks := tk } := by
  refine CompEnd_of F N (nw' := (T, o) :: nw) (fun p q => ?_) ⟨⟨Nat.ne_of_gt hlt.1, Nat.ne_of_gt hlt.2.1, Nat.ne_of_gt hlt.2.2.1⟩, off⟩ hS r
  rcases List.mem_cons.mp q with rfl | q
  · exact .tail _ (.head _)
  · rcases List.mem_cons.mp q with rfl | q
    · exact .tail _ (.tail _ (.head _))
    · rcases List.mem_cons.mp q with rfl | q
      · exact .tail _ (.tail _ (.tail _ (.head _)))
      · rcases List.mem_cons.mp q with rfl | q
        · exact .head _
        · exact .tail _ (.tail _ (.tail _ (.tail _ q)))
end Mine
namespace Mine
open PyProof.Rows.LCg PyProof.Rows.LCt
section
variable {M : Model} {A : Around} {E : Value → Shared → Prop} {s : Shared} {h₀ : Heap} {L : Addr} {m : Str → Option Value} {nw : Led}
theorem cell_put {cn : Str} {cs : Scope} {a : Addr} {ccd : Value} {cl : List (Str × Addr)} {x : Str} {v : Value} {c : Addr} {o : Obj} {v₀ : Option Value} {Q : Unit → Shared → Prop} (F : Fr h₀ L s.heap m) (N : News h₀ L s.heap nw) (hc : cl.lookup x = some c) (hm : (c, o) ∈ nw) (hd : o.data = .cell v₀)
    (h : ∀ h' o', Fr h₀ L h' m → News h₀ L h' (put c o' nw) → o'.data = .cell (some v) → Q () { s with heap := h' })
    (hk : cs.kind = .function) (hx : (envX cn cs L a ccd cl).kindOf x = some .cell) : wpAny M A (storeName (envX cn cs L a ccd cl) x v) Q E s :=
  storeX_C F (news_lead N hm) hc (UpdF.head lead_off) hd (fun h' o' F' N' d => h h' o' F' (put_of_lead N') d) hk hx
end
section
variable {prog : Program} {w : World} {A : Around} {E : Value → Shared → Prop} {s : Shared} {h₀ : Heap} {L : Addr} {m : Str → Option Value} {nw : Led}
theorem dict_put {K : Type} [DecidableEq K] {knd : KeyKind prog w K} {d : Addr} {o : Obj} {kvs : List (K × Value)} {k : K} {key v : Value} {Q : Unit → Shared → Prop} (F : Fr h₀ L s.heap m) (N : News h₀ L s.heap nw) (hm : (d, o) ∈ nw) (hd : o.IsDictOf knd kvs) (hkey : knd.is k key = true) (hsz : kvs.length ≤ 1000)
    (h : ∀ h' o', Fr h₀ L h' m → News h₀ L h' (put d o' nw) → o'.IsDictOf knd (stored kvs k v) → Q () { s with heap := h', toks := s.toks + 1 }) : wpAny (model prog w) A (setItem (.ref d) key v) Q E s :=
  kda_set F (news_lead N hm) (UpdF.head lead_off) hd hkey (by rw [PySem.sizeLine_eq]; omega) (fun h' o' F' N' d' => h h' o' F' (put_of_lead N') d')

/-- a list of one item, sorted -/
theorem sort_one_tree {a : Addr} {v : Value} {n : Nat} {P : PySem.Fin → Shared → Prop} (ho : s.heap.get? a = some (seqObj "list" #[v] n))
    (h : P (.done (.ret .none)) { s with heap := sortedHeap s.heap a [v] #[v] }) : wpAny (model prog w) A (Builtin.«list.sort» ⟨[.ref a], []⟩) P E s := by
  rw [list_sort_plain]
  have ha : a < s.heap.objs.size := Heap.lt_size ho
  refine wpAny_bind (listItems_at ho rfl ?_)
  refine wpAny_bind (listUpdate_at ho rfl ?_ (by show 1 ≤ _; rw [sizeLine_eq]; omega) (Nat.zero_le _))
  obtain ⟨e1, ho1⟩ : ∃ e1, (s.heap.update a (Obj.mapSeq fun _ => (#[] : Array Value))).get? a = some (seqObj "list" #[] e1) := ⟨_, get?_update_seq ho (fun _ => #[])⟩
  refine wpAny_bind (seqEpoch_at ho1 rfl ?_)
  refine wpAny_bind (wpAny_newTuple ?_ (by show 1 ≤ _; rw [sizeLine_eq]; omega))
  refine wpAny_bind (wpAny_newList ?_ (Nat.zero_le _))
  refine wpAny_holding ?_
  have ho6 : (((s.heap.update a (Obj.mapSeq fun _ => (#[] : Array Value))).push (seqObj "tuple" [v].toArray 0)).push (seqObj "list" #[] 0)).get? a = some (seqObj "list" #[] e1) := by
    rw [Heap.get?_push_ne _ _ _ (by rw [size_push', Heap.size_update]; exact Nat.ne_of_lt (Nat.lt_succ_of_lt ha)), Heap.get?_push_ne _ _ _ (by rw [Heap.size_update]; exact Nat.ne_of_lt ha)]
    exact ho1
  show wpAny (model prog w) A _ P E { s with heap := ((s.heap.update a (Obj.mapSeq fun _ => (#[] : Array Value))).push (seqObj "tuple" [v].toArray 0)).push (seqObj "list" #[] 0) }
  dsimp only
  have h2 : (#[v] : Array Value).size < 2 := Nat.lt_succ_self 1
  rw [if_pos h2, if_pos h2]
  refine wpAny_bind (wpAny_pure (wpAny_bind (wpAny_pure ?_)))
  refine wpAny_bind (seqEpoch_at ho6 rfl ?_)
  have eo : Array.map (fun x => x.snd) (arrOf (SortSt.mk' general' ((#[v] : Array Value).zip #[v]) #[] 7 none)) = #[v] := by
    show Array.map (fun x => x.snd) ((#[v] : Array Value).zip #[v]) = #[v]
    apply Array.toList_inj.mp
    simp
  rw [eo]
  refine wpAny_bind (listUpdate_at ho6 rfl ?_ (Nat.zero_le _) (by show 1 ≤ _; rw [sizeLine_eq]; omega))
  have e : failedOf (SortSt.mk' general' ((#[v] : Array Value).zip #[v]) #[] 7 none) = none := rfl
  rw [e]
  simp only [bne_self_eq_false, Bool.false_eq_true, if_false]
  exact wpAny_pure h

theorem sorted_one {l : Addr} {v : Value} {Q : Value → Shared → Prop} (F : Fr h₀ L s.heap m) (N : News h₀ L s.heap nw) (hl : s.heap.IsList l #[v])
    (h : ∀ D n h', Fr h₀ L h' m → News h₀ L h' ((D, listOf #[v] n) :: nw) → (∀ q ∈ nw, q.1 < D) → Q (.ref D) { s with heap := h' }) :
    wpAny (model prog w) A (call (.builtin "sorted") [.ref l]) Q E s := by
  refine Calls.call_function_entry kind_sorted plain_sorted entry_sorted (args_sorted1 _) ?_
  unfold Builtin.«sorted»
  refine wpAny_bind (m := checkCount "sorted" 1 1 _) (wpAny_pure ?_)
  refine wpAny_bind (collect_list (vs := [v]) hl ?_ (by show 1 ≤ _; rw [sizeLine_eq]; omega))
  refine wpAny_bind (wpAny_newList ?_ (by show 1 ≤ _; rw [sizeLine_eq]; omega))
  have hsz : ((s.heap.push (seqObj "list" #[] 0)).update s.heap.objs.size (Obj.mapSeq (· ++ #[v]))).objs.size = s.heap.objs.size + 1 := by
    rw [Heap.size_update, size_push']
  have hoL : (((s.heap.push (seqObj "list" #[] 0)).update s.heap.objs.size (Obj.mapSeq (· ++ #[v]))).push (seqObj "list" #[v] 0)).get? (s.heap.objs.size + 1) = some (seqObj "list" #[v] 0) := by
    rw [← hsz]; exact Heap.get?_push_size _ rfl
  have keep : ∀ b o, s.heap.get? b = some o → (((s.heap.push (seqObj "list" #[] 0)).update s.heap.objs.size (Obj.mapSeq (· ++ #[v]))).push (seqObj "list" #[v] 0)).get? b = some o := fun b o q => by
    have hlt : b < s.heap.objs.size := Heap.lt_size q
    rw [Heap.get?_push_ne _ _ _ (by rw [hsz]; exact Nat.ne_of_lt (Nat.lt_succ_of_lt hlt)), Heap.get?_update_ne _ _ _ _ (Nat.ne_of_lt hlt), Heap.get?_push_ne _ _ _ (Nat.ne_of_lt hlt)]
    exact q
  have hL : L < s.heap.objs.size := F.ns.lt
  show wpAny _ _ _ _ _ { s with heap := ((s.heap.push (seqObj "list" #[] 0)).update s.heap.objs.size (Obj.mapSeq (· ++ #[v]))).push (seqObj "list" #[v] 0) }
  rw [hsz]
  refine wpAny_bind (wpAny_holding (wpAny_call_entry slot_list_sort ⟨_, hoL, rfl⟩ entry_list_sort ?body (args_list_sort _)))
  case body =>
    refine sort_one_tree (s := { s with heap := ((s.heap.push (seqObj "list" #[] 0)).update s.heap.objs.size (Obj.mapSeq (· ++ #[v]))).push (seqObj "list" #[v] 0) }) hoL ?_
    refine ⟨_, rfl, wpAny_pure ⟨_, rfl, ?_⟩⟩
    generalize hH : ((s.heap.push (seqObj "list" #[] 0)).update s.heap.objs.size (Obj.mapSeq (· ++ #[v]))).push (seqObj "list" #[v] 0) = H at hoL keep
    have hlt : s.heap.objs.size + 1 < H.objs.size := Heap.lt_size hoL
    obtain ⟨e1, ho1⟩ : ∃ e1, (H.update (s.heap.objs.size + 1) (Obj.mapSeq fun _ => (#[] : Array Value))).get? (s.heap.objs.size + 1) = some (seqObj "list" #[] e1) := ⟨_, get?_update_seq hoL (fun _ => #[])⟩
    have ho6 : (((H.update (s.heap.objs.size + 1) (Obj.mapSeq fun _ => (#[] : Array Value))).push (seqObj "tuple" [v].toArray 0)).push (seqObj "list" #[] 0)).get? (s.heap.objs.size + 1) = some (seqObj "list" #[] e1) := by
      rw [Heap.get?_push_ne _ _ _ (by rw [size_push', Heap.size_update]; exact Nat.ne_of_lt (Nat.lt_succ_of_lt hlt)), Heap.get?_push_ne _ _ _ (by rw [Heap.size_update]; exact Nat.ne_of_lt hlt)]
      exact ho1
    obtain ⟨e2, ho2⟩ : ∃ e2, (sortedHeap H (s.heap.objs.size + 1) [v] #[v]).get? (s.heap.objs.size + 1) = some (seqObj "list" #[v] e2) := ⟨_, get?_update_seq ho6 (fun _ => #[v])⟩
    have keep2 : ∀ b o, s.heap.get? b = some o → (sortedHeap H (s.heap.objs.size + 1) [v] #[v]).get? b = some o := fun b o q => by
      have hb : b < s.heap.objs.size := Heap.lt_size q
      have hbH : b < H.objs.size := Nat.lt_trans (Nat.lt_succ_of_lt hb) hlt
      have hne : b ≠ s.heap.objs.size + 1 := Nat.ne_of_lt (Nat.lt_succ_of_lt hb)
      unfold sortedHeap
      rw [Heap.get?_update_ne _ _ _ _ hne, Heap.get?_push_ne _ _ _ (by rw [size_push', Heap.size_update]; exact Nat.ne_of_lt (Nat.lt_succ_of_lt hbH)), Heap.get?_push_ne _ _ _ (by rw [Heap.size_update]; exact Nat.ne_of_lt hbH), Heap.get?_update_ne _ _ _ _ hne]
      exact keep b o q
    refine h _ e2 _ (F.keeps keep2) (fun p hp => ?_) (fun q hq => Nat.lt_succ_of_lt (Heap.lt_size (N q hq).1))
    rcases List.mem_cons.mp hp with rfl | hp
    · exact ⟨ho2, Nat.ne_of_gt (Nat.lt_succ_of_lt hL), Heap.get?_none_of_le (Nat.le_trans F.above (Nat.le_succ_of_le (Nat.le_of_lt hL)))⟩
    · exact ⟨keep2 _ _ (N p hp).1, (N p hp).2⟩

/-- a comprehension with a test over the keys of a dict -/
theorem ListComp_dict {K : Type} [DecidableEq K] {knd : KeyKind prog w K} {env : Env} {ct elt iter : Expr} {x : Str} {px : Pos} {scope : Scope} {cl : List (Str × Addr)} {pos : Pos} {Q : Value → Shared → Prop} (_F₀ : Fr h₀ L s.heap m)
    (hclos : closureFor scope env = pure cl) (hcell : ∀ y ∈ scope.names, y.2 ≠ .cell) (hkind : scope.kind = .function)
    (hnames : ∀ y ∈ scope.names, y.2 = .local → scope.names.lookup y.1 = some .local) (hx : scope.names.lookup x = some .local)
    (h : wpAny (model prog w) A (eval iter env) (fun xv s₁ => ∃ d o kvs nw, xv = .ref d ∧ A.handled = none ∧ Fr h₀ L s₁.heap m ∧ News h₀ L s₁.heap nw ∧ (d, o) ∈ nw ∧ o.IsDictOf knd kvs ∧ (d == sysModules) = false ∧ kvs.length ≤ sizeLine ∧
      ∀ s₂ : Shared, (∃ h, s₂ = { s₁ with heap := h }) → CompRestT prog w A h₀ L m env ct elt x scope cl s₂ (fun nw => (d, o) ∈ nw) (fun i v => ∃ k y, kvs[i]? = some (k, y) ∧ knd.is k v = true) (FinE h₀ L m s₂ Q) kvs.length 0 [] nw) E s)
    (hs : ∀ x, foldedSetIterable iter env x = pure x) :
    wpAny (model prog w) A (eval (.ListComp elt [⟨.Name x px, iter, [ct], 0⟩] scope pos) env) Q E s := by
  rw [eval_ListComp]
  refine wpAny_comprehension_free (use := none) rfl hs hclos hkind hnames (wpAny_mono h (fun xv s₁ h₁ => ?_) fun _ _ e => e)
  obtain ⟨d, o, kvs, nw, rfl, hh, F, N, hm, hd, lo, hsz, R⟩ := h₁
  obtain ⟨es, ep, hx1, hx2, hx3, hx4, hx5⟩ := id hd
  have hD : s₁.heap.DictAt knd d kvs ep := ⟨o, es, (N _ hm).1, hx1, hx2, hx3, hx4, hx5⟩
  have hlt : d < s₁.heap.objs.size := Heap.lt_size (N _ hm).1
  refine wpAny_pyIter_dict lo hD ?_
  have up : ∀ b o', s₁.heap.get? b = some o' → (s₁.heap.push { cls := .type "dict_keyiterator", data := .fields #[.ref d, .int 0 0, .int kvs.length 0, .int ep 0] }).get? b = some o' := fun b o' e => Heap.get?_push_of_some _ e
  refine block_T (Walks.dictKeys hh s₁.heap.objs.size d (Nat.ne_of_lt hlt) kvs ep) hsz (fun i h st => by obtain ⟨o', e, _⟩ := st.1; exact ⟨o', e⟩) ?_ hcell hkind hx ⟨⟨_, Heap.get?_push_size _ rfl, rfl, rfl⟩, hD.at' fun o' e => up _ _ e⟩ (fun b hb => ?_)
    (F.keeps up) (N.grown up) (Nat.ne_of_lt F.ns.lt) (next_is_new F) (fun p hp => Nat.ne_of_lt (Heap.lt_size (N p hp).1)) hm (R _ ⟨_, rfl⟩) ?_
  · intro i h h' oI nw' st e1 e2 _ N' hS
    refine ⟨st.1.at fun o' e => ?_, ⟨o, es, (N' _ hS).1, hx1, hx2, hx3, hx4, hx5⟩⟩
    rw [e1] at e; rw [e2]; exact e
  · show b < (s₁.heap.push _).objs.size
    rw [Heap.size_push]
    rcases List.mem_cons.mp hb with rfl | hb
    · exact Nat.lt_succ_self _
    · rw [List.mem_singleton.mp hb]; exact Nat.lt_succ_of_lt hlt
  · intro D C h tk m' ys news' F' N' o1 hn hC₀ hD₀ hCL hDL hCD offC fin
    refine ⟨m', hn, fun h'' hs'' => fin D h'' tk (F'.change hs'' hCL hC₀) (fun p hp => ?_) o1⟩
    refine ⟨hs''.extBut _ _ ?_ (N' p hp).1, (N' p hp).2⟩
    rcases List.mem_cons.mp hp with rfl | hp
    · exact Ne.symm hCD
    · exact offC p hp
end
end Mine
namespace Mine
theorem put_head {a : Addr} {o o' : Obj} {l : Led} : put a o' ((a, o) :: l) = (a, o') :: put a o' l := by
  unfold put; rw [List.map_cons, if_pos rfl]
theorem put_none {a : Addr} {o' : Obj} {l : Led} (h : ∀ p ∈ l, p.1 ≠ a) : put a o' l = l := by
  unfold put
  conv => rhs; rw [← List.map_id l]
  exact List.map_congr_left fun p hp => by rw [if_neg (h p hp)]; rfl
section
variable {prog : Program} {w : World} {A : Around} {E : Value → Shared → Prop} {s : Shared} {env : Env} {h₀ : Heap} {x : Str} {body : List Stmt} {Q : Flow → Shared → Prop}
theorem range_loop0 {r : Addr} {b₀ : Int} {t₀ u₀ v₀ : Tok} {n : Nat} {m₀ : Str → Option Value} {news : Led} (J : Nat → (Str → Option Value) → Led → Prop)
    (hh : A.handled = none) (hr : IsRange s.heap r 0 b₀ 1 t₀ u₀ v₀) (hsmall : Builtin.Range.small 0 b₀ 1 = true) (hn : Builtin.Range.rangeSize 0 b₀ 1 = (n : Int)) (F : Fr h₀ env.locals s.heap m₀) (N : News h₀ env.locals s.heap news)
    (hJ : J 0 m₀ news)
    (turn : ∀ i m₁ news₁ I it t h tk, i < n → J i m₁ news₁ → Fr h₀ env.locals h (fun y => if y = x then some (.int ((i : Nat) : Int) t) else m₁ y) → News h₀ env.locals h ((I, it) :: news₁) → (∀ p ∈ news₁, p.1 ≠ I) →
      wpAny (model prog w) A (execs body env) (UnrPost h₀ env.locals { s with heap := h, toks := tk } I it (J (i + 1)) Q) E { s with heap := h, toks := tk })
    (done : ∀ m₁ news₁ h tk, J n m₁ news₁ → Fr h₀ env.locals h m₁ → News h₀ env.locals h news₁ → Q .next { s with heap := h, toks := tk }) :
    wpAny (model prog w) A (pyIter (.ref r)) (fun it s₂ => LoopAtV prog w A h₀ env x body Q E it s₂) E s :=
  range_loop J hh hr hsmall hn F N hJ (fun i m₁ nw I it t h tk hi hj F' N' off => turn i m₁ nw I it t h tk hi hj (by rw [Int.zero_add] at F'; exact F') N' off) done
end
end Mine
namespace Mine
abbrev CUR : Str := Str.ofString "cursive"
/-- it hangs on another by a cursive link -/
abbrev hangs (f : Inf) : Prop := f.parent ≠ 0 ∧ f.bond = CUR
/-- every link leads to a place of the row -/
def Fit (fs : Nat → Inf) (n : Nat) : Prop := ∀ k, k < n → hangs (fs k) → ∃ k', k' < n ∧ (k : Int) + (fs k).parent = (k' : Nat)
def nxt (fs : Nat → Inf) (k : Nat) : Nat := ((k : Int) + (fs k).parent).toNat
def rootF (fs : Nat → Inf) : Nat → Nat → Nat
  | 0, k => k
  | n + 1, k => if hangs (fs k) then rootF fs n (nxt fs k) else k

theorem rootF_stop {fs : Nat → Inf} {n k : Nat} (hn : 0 < n) (h : ¬ hangs (fs k)) : rootF fs n k = k := by
  cases n with
  | zero => rfl
  | succ n => unfold rootF; rw [if_neg h]
theorem rootF_step {fs : Nat → Inf} {n i k : Nat} (hn : i < n) (h : hangs (fs k)) : rootF fs (n - i) k = rootF fs (n - (i + 1)) (nxt fs k) := by
  obtain ⟨j, e⟩ : ∃ j, n - i = j + 1 := ⟨n - i - 1, by omega⟩
  rw [e, show n - (i + 1) = j by omega, rootF, if_pos h]
local macro_rules | `(tactic| walk_at $s:str) => `(tactic| k_extra $s)
set_option maxHeartbeats 4000000 in
theorem root_of_ok {w : World} {mean : ExcName → Option Value} {mg mb : Str → Option Value} {news : Led} {l : Addr} {rs : List (Addr × Addr)} {fs : Nat → Inf} {at0 : Nat} {t : Tok} (R : RowIn news l rs fs) (hat : at0 < rs.length) (hfit : Fit fs rs.length) :
    Spec w mean mg mb 10 42 [.ref l, .int at0 t] news (fun v news' => news' = news ∧ ∃ t, v = .int (rootF fs rs.length at0) t) := by
  unfold Spec
  k_fill
  intro dp un gd cn cs a ccd cl outer A₀ base h₀ L m s Q E B F X N T hk hd hu hret
  refine wpAny_call ?_
  k_dflt ktr_enter
  rename Fr _ _ _ (fun _ => List.lookup _ _) => F0
  replace F0 := fr_bound [(Str.ofString "at", .int at0 t), (Str.ofString "row", .ref l)] F0 (by rfl)
  k_with "pyIter ref" => (
    (rename IsRange _ _ _ _ _ _ _ _ => hR)
    (rename Fr _ _ _ _ => hF)
    (rename News _ _ _ _ => hN)
    (refine range_loop (fun i m nw => nw = news ∧ ∃ k t, k < rs.length ∧ Knows m [(Str.ofString "row", .ref l), (Str.ofString "here", .int (k : Nat) t)] ∧ rootF fs (rs.length - i) k = rootF fs rs.length at0) (by rfl) hR (range_small (by have := R.few; omega)) range_size hF hN ⟨rfl, at0, _, hat, ⟨by rfl, by rfl, trivial⟩, rfl⟩ ?turn ?done)
    (case' turn => (rintro i m₁ _ I it t h tk hi ⟨rfl, k, t'', hk1, hkn, hroot⟩ F1 N1 off; replace F1 := fr_turn hkn F1; clear hF hN))
    (case' done => (rintro m₁ _ h tk ⟨rfl, k, t'', hk1, hkn, hroot⟩ F1 N1; replace F1 := fr_over hkn F1; clear hF hN)))
  k_with "call builtin:len" => (refine row_len (by k_asm) (by kcf_all) R ?_)
  k_with "subscriptTail" => (k_here; (with_reducible show wpAny _ _ (subscriptTail _ _ (Value.ref _) (Value.int _ _)) _ _ _); (refine row_item (by k_asm) (by kcf_all) R (by assumption) ?_ (by with_unfolding_all rfl)); intro r' hr')
  k_with "getAttr ref" => (first
    | ((with_reducible show wpAny _ _ (getAttr _ (Str.ofString "parent") _) _ _ _); refine att_parent (by k_asm) (by k_asm) (by k_asm) (by kcf_all) R (by assumption) ?_; intro t')
    | ((with_reducible show wpAny _ _ (getAttr _ (Str.ofString "bond") _) _ _ _); refine att_bond (by k_asm) (by k_asm) (by k_asm) (by kcf_all) R (by assumption) ?_; intro t')
    | ((with_reducible show wpAny _ _ (getAttr _ (Str.ofString "y_offset") _) _ _ _); refine att_yoff (by k_asm) (by k_asm) (by k_asm) (by kcf_all) R (by assumption) ?_; intro t'))
  k_steps
  · refine hret _ _ _ _ ⟨rfl, t'', ?_⟩ (by k_asm) (news_sub (by k_asm) (by kcf_all))
    rw [← hroot, Nat.sub_self]; rfl
  · refine hret _ _ _ _ ⟨rfl, t'', ?_⟩ (by k_asm) (news_sub (by k_asm) (by kcf_all))
    rw [← hroot, rootF_stop (by omega) (fun q => q.1 (by assumption))]
  · refine hret _ _ _ _ ⟨rfl, t'', ?_⟩ (by k_asm) (news_sub (by k_asm) (by kcf_all))
    rename (_ != _) = true => q
    rw [← hroot, rootF_stop (by omega) (fun q' => by simp [q'.2] at q)]
  · rename Inf.parent _ ≠ 0 => hp
    rename (_ != _) = false => hb
    obtain ⟨k', hk', e⟩ := hfit k hk1 ⟨hp, by simpa using hb⟩
    refine UnrEnd.intro (by k_asm) (by k_asm) _ (by kcf_all) off ⟨rfl, k', _, hk', ⟨rfl, congrArg (fun z => some (Value.int z _)) e, trivial⟩, ?_⟩
    rw [← hroot, rootF_step (by omega) ⟨hp, by simpa using hb⟩]
    unfold nxt
    rw [e]; rfl
end Mine
namespace Mine
/-- what _law_height reckons: in so many turns, from a place -/
def heightF (fs : Nat → Inf) : Nat → Nat → Int
  | 0, _ => 0
  | n + 1, k => if hangs (fs k) then (fs k).yoff + heightF fs n (nxt fs k) else heightF fs n k
theorem heightF_step {fs : Nat → Inf} {n i k : Nat} (hn : i < n) (h : hangs (fs k)) : heightF fs (n - i) k = (fs k).yoff + heightF fs (n - (i + 1)) (nxt fs k) := by
  obtain ⟨j, e⟩ : ∃ j, n - i = j + 1 := ⟨n - i - 1, by omega⟩
  rw [e, show n - (i + 1) = j by omega, heightF, if_pos h]
theorem heightF_stay {fs : Nat → Inf} {n i k : Nat} (hn : i < n) (h : ¬ hangs (fs k)) : heightF fs (n - i) k = heightF fs (n - (i + 1)) k := by
  obtain ⟨j, e⟩ : ∃ j, n - i = j + 1 := ⟨n - i - 1, by omega⟩
  rw [e, show n - (i + 1) = j by omega, heightF, if_neg h]
local macro_rules | `(tactic| walk_at $s:str) => `(tactic| k_extra $s)
set_option maxHeartbeats 4000000 in
theorem height_ok {w : World} {mean : ExcName → Option Value} {mg mb : Str → Option Value} {news : Led} {l : Addr} {rs : List (Addr × Addr)} {fs : Nat → Inf} {at0 : Nat} {t : Tok} (R : RowIn news l rs fs) (hat : at0 < rs.length) (hfit : Fit fs rs.length) :
    Spec w mean mg mb 10 106 [.ref l, .int at0 t] news (fun v news' => news' = news ∧ ∃ t, v = .int (heightF fs rs.length at0) t) := by
  unfold Spec
  k_fill
  intro dp un gd cn cs a ccd cl outer A₀ base h₀ L m s Q E B F X N T hk hd hu hret
  refine wpAny_call ?_
  k_dflt ktr_enter
  rename Fr _ _ _ (fun _ => List.lookup _ _) => F0
  replace F0 := fr_bound [(Str.ofString "at", .int at0 t), (Str.ofString "row", .ref l)] F0 (by rfl)
  k_with_none
  k_with "pyIter ref" => (
    (rename IsRange _ _ _ _ _ _ _ _ => hR)
    (rename Fr _ _ _ _ => hF)
    (rename News _ _ _ _ => hN)
    (refine range_loop (fun i m nw => nw = news ∧ ∃ k t u t1, k < rs.length ∧ Knows m [(Str.ofString "row", .ref l), (Str.ofString "here", .int (k : Nat) t), (Str.ofString "total", .int u t1)] ∧ u + heightF fs (rs.length - i) k = heightF fs rs.length at0) (by rfl) hR (range_small (by have := R.few; omega)) range_size hF hN ⟨rfl, at0, _, 0, _, hat, ⟨by rfl, by rfl, by rfl, trivial⟩, Int.zero_add _⟩ ?turn ?done)
    (case' turn => (rintro i m₁ _ I it t h tk hi ⟨rfl, k, t'', u, t1, hk1, hkn, hroot⟩ F1 N1 off; replace F1 := fr_turn hkn F1; clear hF hN))
    (case' done => (rintro m₁ _ h tk ⟨rfl, k, t'', u, t1, hk1, hkn, hroot⟩ F1 N1; replace F1 := fr_over hkn F1; clear hF hN)))
  k_with "call builtin:len" => (refine row_len (by k_asm) (by kcf_all) R ?_)
  k_with "subscriptTail" => (k_here; (with_reducible show wpAny _ _ (subscriptTail _ _ (Value.ref _) (Value.int _ _)) _ _ _); (refine row_item (by k_asm) (by kcf_all) R (by assumption) ?_ (by with_unfolding_all rfl)); intro r' hr')
  k_with "getAttr ref" => (first
    | ((with_reducible show wpAny _ _ (getAttr _ (Str.ofString "parent") _) _ _ _); refine att_parent (by k_asm) (by k_asm) (by k_asm) (by kcf_all) R (by assumption) ?_; intro t')
    | ((with_reducible show wpAny _ _ (getAttr _ (Str.ofString "bond") _) _ _ _); refine att_bond (by k_asm) (by k_asm) (by k_asm) (by kcf_all) R (by assumption) ?_; intro t')
    | ((with_reducible show wpAny _ _ (getAttr _ (Str.ofString "y_offset") _) _ _ _); refine att_yoff (by k_asm) (by k_asm) (by k_asm) (by kcf_all) R (by assumption) ?_; intro t'))
  k_steps
  · refine hret _ _ _ _ ⟨rfl, t1, ?_⟩ (by k_asm) (news_sub (by k_asm) (by kcf_all))
    rw [← hroot, Nat.sub_self]; simp [heightF]
  · rename Inf.parent _ ≠ 0 => hp
    rename (_ == _) = true => hb
    have hh : hangs (fs k) := ⟨hp, by simpa using hb⟩
    obtain ⟨k', hk', e⟩ := hfit k hk1 hh
    refine UnrEnd.intro (by k_asm) (by k_asm) _ (by kcf_all) off ⟨rfl, k', _, _, _, hk', ⟨rfl, congrArg (fun z => some (Value.int z _)) e, rfl, trivial⟩, ?_⟩
    rw [← hroot, heightF_step hi hh]
    unfold nxt
    rw [e, Int.add_assoc]; rfl
  · rename (_ == _) = false => hb
    have hh : ¬ hangs (fs k) := fun q => by simp [q.2] at hb
    refine UnrEnd.intro (by k_asm) (by k_asm) _ (by kcf_all) off ⟨rfl, k, _, _, _, hk1, ⟨rfl, rfl, rfl, trivial⟩, ?_⟩
    rw [← hroot, heightF_stay hi hh]
  · rename Inf.parent _ = 0 => hp
    have hh : ¬ hangs (fs k) := fun q => q.1 hp
    refine UnrEnd.intro (by k_asm) (by k_asm) _ (by kcf_all) off ⟨rfl, k, _, _, _, hk1, ⟨rfl, rfl, rfl, trivial⟩, ?_⟩
    rw [← hroot, heightF_stay hi hh]
end Mine
namespace Mine
local macro_rules | `(tactic| walk_at $s:str) => `(tactic| k_extra $s)
set_option maxHeartbeats 4000000 in
theorem loosen_ok {w : World} {mean : ExcName → Option Value} {mg mb : Str → Option Value} {news : Led} {l : Addr} {rs : List (Addr × Addr)} {fs : Nat → Inf} {k : Nat} {r : Addr × Addr} (R : RowIn news l rs fs) (hr : rs[k]? = some r) :
    Spec w mean mg mb 10 28 [.ref r.1] news (fun v nw => v = .none ∧ ∃ es n, nw = put r.2 (dictOf es n) news ∧ RowIn nw l rs (at1 fs k ⟨0, Str.ofString "", (fs k).yoff⟩)) := by
  unfold Spec
  k_fill
  intro dp un gd cn cs a ccd cl outer A₀ base h₀ L m s Q E B F X N T hk hd hu hret
  refine wpAny_call ?_
  k_dflt ktr_enter
  rename Fr _ _ _ (fun _ => List.lookup _ _) => F0
  replace F0 := fr_bound [(Str.ofString "info", .ref r.1)] F0 (by rfl)
  k_with_none
  k_with "setAttr ref" => (first
    | ((with_reducible show wpAny _ _ (setAttr _ (Str.ofString "parent") _) _ _ _); refine set_parent (by k_asm) (by k_asm) (by k_asm) (fun _ q => q) R hr ?_; intro es1 n1 h1 F1 N1 R1)
    | ((with_reducible show wpAny _ _ (setAttr _ (Str.ofString "bond") _) _ _ _); (rename RowIn (put _ _ _) _ _ _ => R1); refine set_bond (by k_asm) (by k_asm) (by k_asm) (fun _ q => q) R1 hr ?_; intro es2 n2 h2 F2 N2 R2))
  k_steps
  rename RowIn (put _ _ (put _ _ _)) _ _ _ => R2
  refine hret _ _ _ _ ⟨rfl, _, _, rfl, ?_⟩ (by k_asm) (by rw [← put_put]; k_asm)
  rw [put_put] at R2
  have e : (at1 (at1 fs k ⟨0, (fs k).bond, (fs k).yoff⟩) k ⟨(at1 fs k ⟨0, (fs k).bond, (fs k).yoff⟩ k).parent, Str.ofString "", (at1 fs k ⟨0, (fs k).bond, (fs k).yoff⟩ k).yoff⟩) = at1 fs k ⟨0, Str.ofString "", (fs k).yoff⟩ := by
    funext j
    unfold at1
    by_cases e : j = k <;> simp [e]
  rw [← e]; exact R2
end Mine
namespace Mine
abbrev Lk := Nat × Int × Int
def loose (f : Inf) : Inf := ⟨0, Str.ofString "", f.yoff⟩
/-- the way down, link by link; none: it takes more turns -/
def walkF (par : Int) : Nat → (Nat → Inf) → Nat → List Lk → Option ((Nat → Inf) × List Lk)
  | 0, _, _, _ => none
  | n + 1, fs, k, ls =>
    if hangs (fs k) then
      if (k : Int) + (fs k).parent = par then some (at1 fs k (loose (fs k)), ls)
      else walkF par n (at1 fs k (loose (fs k))) (nxt fs k) (ls ++ [(nxt fs k, -(fs k).parent, -(fs k).yoff)])
    else some (fs, ls)
/-- the way back -/
def setF (fs : Nat → Inf) (x : Lk) : Nat → Inf := at1 fs x.1 ⟨x.2.1, CUR, x.2.2⟩
def backF (fs : Nat → Inf) (ls : List Lk) : Nat → Inf := ls.foldl setF fs

theorem not_hangs_loose (f : Inf) : ¬ hangs (loose f) := fun h => h.1 rfl
theorem Fit.loosed {fs : Nat → Inf} {n k : Nat} (h : Fit fs n) : Fit (at1 fs k (loose (fs k))) n := by
  intro j hj hh
  unfold at1 at hh ⊢
  by_cases e : j = k
  · rw [if_pos e] at hh; exact absurd hh (not_hangs_loose _)
  · rw [if_neg e] at hh ⊢; exact h j hj hh
theorem push_refs {D D1 : Addr} {asi : List Addr} {ki : Nat} {o : Obj} {l : Led} (h : (D, o) ∈ l) : (D, listOf ((asi ++ [D1]).map Value.ref).toArray (ki + 1)) ∈ put D (listOf ((asi.map Value.ref).toArray.push (.ref D1)) (ki + 1)) l := by
  have q := put_self (o' := listOf ((asi.map Value.ref).toArray.push (.ref D1)) (ki + 1)) h
  simpa using q
theorem tup_head {D1 D : Addr} {i1 i2 i3 j1 j3 : Int} {t1 t2 t3 : Tok} {l : Led} {o' : Obj} (e1 : i1 = j1) (e3 : i3 = j3) (hne : D1 ≠ D) : ∃ u1 u2 u3 n, (D1, tupOf [.int j1 u1, .int i2 u2, .int j3 u3] n) ∈ put D o' ((D1, tupOf [.int i1 t1, .int i2 t2, .int i3 t3] 0) :: l) := by
  subst e1 e3; exact ⟨t1, t2, t3, 0, put_ne (.head _) hne⟩
theorem walkF_brk {par : Int} {n : Nat} {fs fs1 : Nat → Inf} {k : Nat} {ls ls1 : List Lk} (h : walkF par n fs k ls = some (fs1, ls1)) (hh : hangs (fs k)) (hp : (k : Int) + (fs k).parent = par) : fs1 = at1 fs k (loose (fs k)) ∧ ls1 = ls := by
  cases n with
  | zero => cases h
  | succ n =>
    unfold walkF at h
    rw [if_pos hh, if_pos hp] at h
    cases h; exact ⟨rfl, rfl⟩
theorem walkF_step {par : Int} {n : Nat} {fs fs1 : Nat → Inf} {k : Nat} {ls ls1 : List Lk} (h : walkF par n fs k ls = some (fs1, ls1)) (hh : hangs (fs k)) (hp : (k : Int) + (fs k).parent ≠ par) :
    ∃ n', n = n' + 1 ∧ walkF par n' (at1 fs k (loose (fs k))) (nxt fs k) (ls ++ [(nxt fs k, -(fs k).parent, -(fs k).yoff)]) = some (fs1, ls1) := by
  cases n with
  | zero => cases h
  | succ n =>
    unfold walkF at h
    rw [if_pos hh, if_neg hp] at h
    exact ⟨n, rfl, h⟩
theorem walkF_end {par : Int} {n : Nat} {fs fs1 : Nat → Inf} {k : Nat} {ls ls1 : List Lk} (h : walkF par n fs k ls = some (fs1, ls1)) (hh : ¬ hangs (fs k)) : fs1 = fs ∧ ls1 = ls := by
  cases n with
  | zero => cases h
  | succ n =>
    unfold walkF at h
    rw [if_neg hh] at h
    cases h; exact ⟨rfl, rfl⟩
local macro_rules | `(tactic| walk_at $s:str) => `(tactic| k_extra $s)
local macro_rules | `(tactic| k_mem) => `(tactic| assumption)
set_option maxHeartbeats 8000000 in
theorem turn_chain_ok {w : World} {mean : ExcName → Option Value} {mg mb : Str → Option Value} {news : Led} {l : Addr} {rs : List (Addr × Addr)} {fs : Nat → Inf} {k0 : Nat} {par : Int} {t0 tp : Tok} (R : RowIn news l rs fs) (hat : k0 < rs.length) (hfit : Fit fs rs.length) {n₀ : Nat} {fs1 : Nat → Inf} {ls1 : List Lk} (hw : walkF par n₀ fs k0 [] = some (fs1, ls1)) (hn₀ : n₀ ≤ 100) (hin : ∀ x ∈ ls1, x.1 < rs.length) :
    Spec w mean mg mb 20 35 [.ref l, .int k0 t0, .int par tp] news (fun v nw => v = .none ∧ Kept rs news nw ∧ RowIn nw l rs (backF fs1 ls1)) := by
  unfold Spec
  k_fill
  intro dp un gd cn cs a ccd cl outer A₀ base h₀ L m s Q E B F X N T hk hd hu hret
  refine wpAny_call ?_
  k_dflt ktr_enter
  rename Fr _ _ _ (fun _ => List.lookup _ _) => F0
  replace F0 := fr_bound [(Str.ofString "parent", .int par tp), (Str.ofString "child", .int k0 t0), (Str.ofString "row", .ref l)] F0 (by rfl)
  k_with_none
  k_with "exec While BoolOp cons nil" => (
    (rename Fr _ _ _ _ => hF)
    (rename News _ _ _ _ => hN)
    (rename ∀ p ∈ news, _ < _ => hlt)
    (refine while_loop (fun n m nw => ∃ D here t fsi lsi, here < rs.length ∧ Fit fsi rs.length ∧ RowIn nw l rs fsi ∧ Kept rs news nw ∧ LinksIn nw D lsi ∧ Knows m [(Str.ofString "row", .ref l), (Str.ofString "parent", .int par tp), (Str.ofString "links", .ref D), (Str.ofString "here", .int (here : Nat) t)] ∧ walkF par n fsi here lsi = some (fs1, ls1) ∧ lsi.length + n ≤ 100 ∧ ∀ p ∈ news, p.1 < D)
      (fun m nw => ∃ D, RowIn nw l rs fs1 ∧ Kept rs news nw ∧ LinksIn nw D ls1 ∧ Knows m [(Str.ofString "row", .ref l), (Str.ofString "links", .ref D)] ∧ ls1.length ≤ 100) n₀ hF hN ⟨_, k0, t0, fs, [], hat, hfit, R.mono (fun p hp => List.mem_cons_of_mem _ hp), Kept.refl.sub (fun p hp => List.mem_cons_of_mem _ hp), ⟨[], 0, .head _, rfl, fun i a x h => nomatch h⟩, ⟨by rfl, by rfl, by rfl, by rfl, trivial⟩, hw, by simpa using hn₀, hlt⟩ ?turn ?done)
    (case' turn => (rintro n m₁ nw h tk E1 ⟨D, here, t, fsi, lsi, hk1, hfi, Ri, hKi, hLi, hkn, hwi, hsz, hlt⟩ F1 N1; obtain ⟨asi, ki, hDi, hleni, htupi⟩ := hLi.ex; obtain ⟨r0, hr0⟩ := has_row hk1; have hap : ∀ a o, (a, o) ∈ nw → o.cls ≠ .type "dict" → a ≠ r0.2 := fun a o hm ho => row_apart N1 Ri hr0 hm ho; have hoff := row_off N1 Ri hDi (fun es k e => nomatch e); have htD : ∀ (i : Nat) (a : Addr) (x : Nat × Int × Int), asi[i]? = some a → lsi[i]? = some x → a ≠ D := fun i a x ha hx => (by obtain ⟨t1, t2, t3, n, hm⟩ := htupi i a x ha hx; exact news_apart N1 hm hDi (fun e => cls_list_tuple (congrArg Obj.cls e).symm)); have Ri' := Ri; replace F1 := fr_over hkn F1; clear hF hN))
    (case' done => (rintro m₁ nw h tk ⟨D, R2, hK2, hL2, hkn, hsz⟩ F1 N1; obtain ⟨as, kk, hD, hlen, htup⟩ := hL2.ex; clear hL2; replace F1 := fr_over hkn F1; clear hF hN)))
  k_with "subscriptTail" => (k_here; (with_reducible show wpAny _ _ (subscriptTail _ _ (Value.ref _) (Value.int _ _)) _ _ _); (rename RowIn _ _ _ _ => Rx); (refine row_at (by k_asm) (by first | kcf_all | exact put_sub (by kcf_all) | exact put_sub (put_sub (by kcf_all)) | exact put_sub (put_sub (put_sub (by kcf_all)))) Rx (by assumption) ?_ (by with_unfolding_all rfl)))
  k_with "setAttr ref" => ((rename RowIn _ _ _ _ => Rx); first
    | ((with_reducible show wpAny _ _ (setAttr _ (Str.ofString "parent") _) _ _ _); refine set_parent (by k_asm) (by k_asm) (by k_asm) (by first | kcf_all | exact put_sub (by kcf_all) | exact put_sub (put_sub (by kcf_all)) | exact put_sub (put_sub (put_sub (by kcf_all)))) Rx (by assumption) ?_; intro es1 n1 h1 F1 N1 R1)
    | ((with_reducible show wpAny _ _ (setAttr _ (Str.ofString "bond") _) _ _ _); refine set_bond (by k_asm) (by k_asm) (by k_asm) (by first | kcf_all | exact put_sub (by kcf_all) | exact put_sub (put_sub (by kcf_all)) | exact put_sub (put_sub (put_sub (by kcf_all)))) Rx (by assumption) ?_; intro es1 n1 h1 F1 N1 R1)
    | ((with_reducible show wpAny _ _ (setAttr _ (Str.ofString "y_offset") _) _ _ _); refine set_yoff (by k_asm) (by k_asm) (by k_asm) (by first | kcf_all | exact put_sub (by kcf_all) | exact put_sub (put_sub (by kcf_all)) | exact put_sub (put_sub (put_sub (by kcf_all)))) Rx (by assumption) ?_; intro es1 n1 h1 F1 N1 R1))
  k_with "getAttr ref" => ((rename RowIn _ _ _ _ => Rx); first
    | ((with_reducible show wpAny _ _ (getAttr _ (Str.ofString "parent") _) _ _ _); refine att_parent (by k_asm) (by k_asm) (by k_asm) (by first | kcf_all | exact put_sub (by kcf_all) | exact put_sub (put_sub (by kcf_all)) | exact put_sub (put_sub (put_sub (by kcf_all)))) Rx (by assumption) ?_; intro t')
    | ((with_reducible show wpAny _ _ (getAttr _ (Str.ofString "bond") _) _ _ _); refine att_bond (by k_asm) (by k_asm) (by k_asm) (by first | kcf_all | exact put_sub (by kcf_all) | exact put_sub (put_sub (by kcf_all)) | exact put_sub (put_sub (put_sub (by kcf_all)))) Rx (by assumption) ?_; intro t')
    | ((with_reducible show wpAny _ _ (getAttr _ (Str.ofString "y_offset") _) _ _ _); refine att_yoff (by k_asm) (by k_asm) (by k_asm) (by first | kcf_all | exact put_sub (by kcf_all) | exact put_sub (put_sub (by kcf_all)) | exact put_sub (put_sub (put_sub (by kcf_all)))) Rx (by assumption) ?_; intro t'))
  k_with "call ref" => ((rename RowIn _ _ _ _ => Rx); (k_dflt (refine' spec_use (loosen_ok Rx (by assumption)) ?k1 ?k2 ?k3 ?k4 ?k5 ?kK ?kd ?ku ?_; (case k1 => k_asm); (case k2 => k_asm); (case k3 => k_asm); (case k4 => k_asm); (case k5 => k_asm); (case kK => exact rfl); (case kd => ktr_room); (case ku => ktr_units))); (rename News _ _ _ _ => N1x); (rintro v nw1 h1 tk1 ⟨rfl, es1, n1, rfl, R1⟩ F2 N2); (have R1x := R1); (have R1y := R1); (have hDi1 := put_ne (a := r0.2) (o' := dictOf es1 n1) hDi (row_apart N1x Rx (by assumption) hDi cls_list)); (try dsimp only); (try k_fold))
  k_with "exec For Tuple Name cons nil" => ((rename Fr _ _ _ _ => hF); (k_dflt (refine For_turns hF ?_)))
  k_with "call builtin:list.append" => (k_dflt (refine' append_put ?k1 ?k2 ?k3 ?_ ?k5; (case k1 => k_asm); (case k2 => k_asm); (case k3 => k_mem); (case k5 => (rw [PySem.sizeLine_eq]; simp; omega))); intro h5 F5 N5; (try dsimp only); (try k_fold))
  k_steps
  · (rename Fr _ _ _ _ => hF)
    (rename News _ _ _ _ => hN)
    refine list_loop (vs := as.map Value.ref) (fun i m nw => RowIn nw l rs (backF fs1 (ls1.take i)) ∧ Kept rs news nw ∧ (∀ (i : Nat) (a : Addr) (x : Nat × Int × Int), as[i]? = some a → ls1[i]? = some x → ∃ t1 t2 t3 n, (a, tupOf [.int (x.1 : Nat) t1, .int x.2.1 t2, .int x.2.2 t3] n) ∈ nw) ∧ Knows m [(Str.ofString "row", .ref l)]) (by rfl) hF hN hD ⟨by simpa [backF] using R2, hK2, htup, ⟨by rfl, trivial⟩⟩ ?turn2 ?done2
    case turn2 =>
      rintro i v m₁ nw I it h tk hv ⟨R3, hK3, ht3, hkn3⟩ hax F3 N3 off
      clear hF hN
      obtain ⟨a, ha, rfl⟩ : ∃ a, as[i]? = some a ∧ v = .ref a := by
        rw [List.getElem?_map] at hv
        obtain ⟨a, h1, h2⟩ := Option.map_eq_some_iff.mp hv
        exact ⟨a, h1, h2.symm⟩
      have hil : i < ls1.length := by
        obtain ⟨q, _⟩ := List.getElem?_eq_some_iff.mp ha
        omega
      have hx : ls1[i]? = some ls1[i] := List.getElem?_eq_getElem hil
      obtain ⟨t1, t2, t3, n4, hT⟩ := ht3 i a _ ha hx
      have hT' : IsTup h a _ := News.isTup N3 (List.Mem.tail _ hT)
      replace F3 := fr_over hkn3 F3
      have hplace : (ls1[i]).1 < rs.length := hin _ (List.getElem_mem hil)
      obtain ⟨r0, hr0⟩ := has_row hplace
      generalize hxx : ls1[i] = x at hx hT hT' hplace hr0
      have hap : ∀ a o, (a, o) ∈ nw → o.cls ≠ .type "dict" → a ≠ r0.2 := fun a o hm ho => row_apart (news_sub N3 (fun p hp => List.mem_cons_of_mem _ hp)) R3 hr0 hm ho
      have hI : I ≠ r0.2 := fun e => by
        obtain ⟨es, n, hd, _⟩ := R3.dict _ _ hr0
        exact off _ hd e.symm
      have R3' := R3
      k_steps
      rename RowIn (put _ _ (put _ _ (put _ _ _))) _ _ _ => R9
      rename News _ _ _ (put _ _ (put _ _ (put _ _ _))) => N9
      rw [put_put, put_put] at R9 N9
      rw [put_cons hI] at N9
      refine UnrEnd_of (by k_asm) N9 (fun _ q => q) (put_off off) ⟨put_ne hax (hap _ _ hax cls_list), ?_, hK3.trans (Kept.put hr0), fun i a x ha hx => ?_, ⟨rfl, trivial⟩⟩
      · rw [List.take_add_one, hx]
        show RowIn _ l rs (backF fs1 (List.take i ls1 ++ [x]))
        have e : backF fs1 (List.take i ls1 ++ [x]) = setF (backF fs1 (List.take i ls1)) x := by
          unfold backF; rw [List.foldl_append]; rfl
        rw [e]
        have e2 : ∀ g : Nat → Inf, at1 (at1 (at1 g x.1 ⟨x.2.1, (g x.1).bond, (g x.1).yoff⟩) x.1 ⟨(at1 g x.1 ⟨x.2.1, (g x.1).bond, (g x.1).yoff⟩ x.1).parent, CUR, (at1 g x.1 ⟨x.2.1, (g x.1).bond, (g x.1).yoff⟩ x.1).yoff⟩) x.1
            ⟨(at1 (at1 g x.1 ⟨x.2.1, (g x.1).bond, (g x.1).yoff⟩) x.1 ⟨(at1 g x.1 ⟨x.2.1, (g x.1).bond, (g x.1).yoff⟩ x.1).parent, CUR, (at1 g x.1 ⟨x.2.1, (g x.1).bond, (g x.1).yoff⟩ x.1).yoff⟩ x.1).parent,
             (at1 (at1 g x.1 ⟨x.2.1, (g x.1).bond, (g x.1).yoff⟩) x.1 ⟨(at1 g x.1 ⟨x.2.1, (g x.1).bond, (g x.1).yoff⟩ x.1).parent, CUR, (at1 g x.1 ⟨x.2.1, (g x.1).bond, (g x.1).yoff⟩ x.1).yoff⟩ x.1).bond, x.2.2⟩ = setF g x := by
          intro g
          funext j
          unfold setF at1
          by_cases ej : j = x.1 <;> simp [ej]
        rw [← e2]; exact R9
      · obtain ⟨t1, t2, t3, n, hm⟩ := ht3 i a x ha hx
        exact ⟨t1, t2, t3, n, put_ne hm (hap _ _ hm cls_tuple)⟩
    case done2 =>
      rintro m₁ nw h tk ⟨R3, hK3, _, _⟩ F3 N3
      clear hF hN
      have e : ls1.take (as.map Value.ref).length = ls1 := by rw [List.length_map, hlen]; exact List.take_length
      rw [e] at R3
      k_steps
      exact hret _ _ _ _ ⟨rfl, hK3, R3⟩ (by k_asm) (by k_asm)
  · show WEnd _ _ _ _ _
    rename Inf.parent _ ≠ 0 => hp
    rename (_ == _) = true => hb
    rename _ + Inf.parent _ = par => hpar
    have hh : hangs (fsi here) := ⟨hp, by simpa using hb⟩
    obtain ⟨q1, q2⟩ := walkF_brk hwi hh hpar
    subst q1 q2
    exact WEnd.intro (by k_asm) (by k_asm) ⟨D, R1, hKi.trans (Kept.put hr0), hLi.sub (fun a o hm ho => put_ne hm (hap a o hm ho)), ⟨rfl, rfl, trivial⟩, by omega⟩
  · show WEnd _ _ _ _ _
    rename Inf.parent _ ≠ 0 => hp
    rename (_ == _) = true => hb
    rename _ + Inf.parent _ ≠ par => hpar
    have hh : hangs (fsi here) := ⟨hp, by simpa using hb⟩
    obtain ⟨k', hk', e⟩ := hfi here hk1 hh
    obtain ⟨n', rfl, hw'⟩ := walkF_step hwi hh hpar
    have en : nxt fsi here = k' := by unfold nxt; rw [e]; rfl
    rw [en] at hw'
    rename ∀ p ∈ put _ _ _, _ < _ => hlast
    have hDD := hlast _ hDi1
    refine WEnd.intro (by k_asm) (by k_asm) ⟨n', Nat.lt_succ_self _, D, k', _, _, _, hk', hfi.loosed, (R1x.mono (fun p hp => List.mem_cons_of_mem _ hp)).put_list ?_ hoff, ((hKi.trans (Kept.put hr0)).sub (fun p hp => List.mem_cons_of_mem _ hp)).put_new (fun p hp => Nat.ne_of_lt (hlt p hp)), ?_, ⟨rfl, rfl, rfl, congrArg (fun z => some (Value.int z _)) e, trivial⟩, hw', ?_, hlt⟩
    · obtain ⟨c, hc⟩ := R.lst
      exact Nat.ne_of_lt (hlt _ hc)
    · refine ⟨asi ++ [_], ki + 1, push_refs (List.Mem.tail _ hDi1), by simp [hleni], fun i a x ha hx => ?_⟩
      by_cases hi : i < asi.length
      · rw [List.getElem?_append_left hi] at ha
        rw [List.getElem?_append_left (by omega)] at hx
        obtain ⟨t1, t2, t3, n, hm⟩ := htupi i a x ha hx
        exact ⟨t1, t2, t3, n, put_ne (List.Mem.tail _ (put_ne hm (hap _ _ hm cls_tuple))) (htD i a x ha hx)⟩
      · rw [List.getElem?_append_right (by omega)] at ha
        rw [List.getElem?_append_right (by omega)] at hx
        obtain ⟨hlt1, _⟩ := List.getElem?_eq_some_iff.mp ha
        have hi0 : i - asi.length = 0 := by simp at hlt1; omega
        rw [hi0] at ha
        rw [show i - lsi.length = 0 by omega] at hx
        cases ha; cases hx
        have ey : (at1 fsi here ⟨0, Str.ofString "", (fsi here).yoff⟩ here).yoff = (fsi here).yoff := by unfold at1; rw [if_pos rfl]
        exact tup_head e (by rw [ey]) (Nat.ne_of_gt hDD)
    · rw [List.length_append, List.length_singleton]; omega
  · rename (_ == _) = false => hb
    obtain ⟨q1, q2⟩ := walkF_end hwi (fun q => by simp [q.2] at hb)
    subst q1 q2
    exact WEnd.intro (by k_asm) (by k_asm) ⟨D, Ri, hKi, hLi, ⟨rfl, rfl, trivial⟩, by omega⟩
  · rename Inf.parent _ = 0 => hp
    obtain ⟨q1, q2⟩ := walkF_end hwi (fun q => q.1 hp)
    subst q1 q2
    exact WEnd.intro (by k_asm) (by k_asm) ⟨D, Ri, hKi, hLi, ⟨rfl, rfl, trivial⟩, by omega⟩
end Mine
namespace Mine
/-- the source of the draws: the cells, and how many were drawn (n at most) -/
structure SrcIn (nw : Led) (src : Addr) (n : Nat) : Prop where
  ex : ∃ (cells : Addr) (vs : List Value) (ns : List Int) (k k' a : Nat) (t : Tok), (src, listOf #[.ref cells, .int (a : Nat) t] k) ∈ nw ∧ (cells, listOf vs.toArray k') ∈ nw ∧ IntsAre vs ns ∧ 0 < ns.length ∧ ns.length ≤ 60 ∧ a ≤ n ∧ cells < src
local macro_rules | `(tactic| walk_at $s:str) => `(tactic| k_extra $s)
local macro_rules | `(tactic| k_mem) => `(tactic| assumption)
set_option maxHeartbeats 8000000 in
theorem draw_ok {w : World} {mean : ExcName → Option Value} {mg mb : Str → Option Value} {news : Led} {src : Addr} {n lim : Nat} {t0 : Tok} (R : SrcIn news src n) (hl : 0 < lim) (hl2 : lim ≤ 100) (hn : n ≤ 1000) :
    Spec w mean mg mb 10 89 [.ref src, .int lim t0] news (fun v nw => ∃ r t o', v = .int (r : Nat) t ∧ r < lim ∧ nw = put src o' news ∧ ∀ nw0 : Led, (∀ p ∈ nw0, p ∈ news) → SrcIn nw0 src n → SrcIn (put src o' nw0) src (n + 1)) := by
  unfold Spec
  k_fill
  intro dp un gd cn cs a ccd cl outer A₀ base h₀ L m s Q E B F X N T hk hd hu hret
  obtain ⟨cells, vs, ns, k, k', a0, t, hsrc, hcells, hi, hpos, h60, han, hne⟩ := R.ex
  refine wpAny_call ?_
  k_dflt ktr_enter
  rename Fr _ _ _ (fun _ => List.lookup _ _) => F0
  replace F0 := fr_bound [(Str.ofString "limit", .int lim t0), (Str.ofString "source", .ref src)] F0 (by rfl)
  k_with_none
  k_with "subscriptTail" => (k_here; (with_reducible show wpAny _ _ (subscriptTail _ _ (Value.ref _) (Value.int _ _)) _ _ _); first
    | (k_dflt (refine' item_put (v := .ref cells) ?k1 ?k2 ?k3 ?k4 ?k5 ?_ ?k6; (case k1 => k_asm); (case k2 => exact hsrc); (case k3 => decide); (case k4 => decide); (case k5 => exact rfl); (case k6 => exact rfl)))
    | (k_dflt (refine' item_put (v := .int (a0 : Nat) t) ?k1 ?k2 ?k3 ?k4 ?k5 ?_ ?k6; (case k1 => k_asm); (case k2 => exact hsrc); (case k3 => decide); (case k4 => decide); (case k5 => exact rfl); (case k6 => exact rfl)))
    | (k_dflt (refine' ksa_sub ?k1 ?k2 ?k3 ?k4 ?k5 ?k6 ?_ ?k7; (case k1 => k_asm); (case k2 => exact put_ne hcells (Nat.ne_of_lt hne)); (case k3 => exact hi); (case k4 => exact fmod_lo _ (by omega)); (case k5 => exact fmod_hi _ (by omega)); (case k6 => exact Int.lt_trans (fmod_hi _ (by omega)) (by omega)); (case k7 => with_unfolding_all rfl)); intro t7))
  k_with "call builtin:len" => (k_dflt (refine' len_put ?k1 ?k2 ?k3 ?_; (case k1 => k_asm); (case k2 => exact put_ne hcells (Nat.ne_of_lt hne)); (case k3 => (simp; have := hi.length; omega))); (rw [show ((vs.toArray.size : Nat) : Int) = (ns.length : Nat) from by rw [List.size_toArray, hi.length]]))
  k_with "setItem ref int" => (k_dflt (refine' set_put (k := 1) (vs := [.ref cells, .int (a0 : Nat) t]) ?k1 ?k2 ?k3 ?k4 ?k5 ?k6 ?_; (case k1 => k_asm); (case k2 => k_asm); (case k3 => exact hsrc); (case k4 => rfl); (case k5 => exact Nat.lt_succ_self 1); (case k6 => decide)); intro h5 F5 N5)
  k_steps
  have hlo := fmod_lo (ns.getD ((a0 : Int).fmod ns.length).toNat 0 + 11 * (a0 : Int).fdiv ns.length) (n := (lim : Int)) (by omega)
  have hhi := fmod_hi (ns.getD ((a0 : Int).fmod ns.length).toNat 0 + 11 * (a0 : Int).fdiv ns.length) (n := (lim : Int)) (by omega)
  generalize (ns.getD ((a0 : Int).fmod ns.length).toNat 0 + 11 * (a0 : Int).fdiv ns.length).fmod lim = z at hlo hhi ⊢
  obtain ⟨r, rfl⟩ := Int.eq_ofNat_of_zero_le hlo
  refine hret _ _ _ _ ⟨r, _, _, rfl, by omega, rfl, fun nw0 hsub S0 => ?_⟩ (by k_asm) (by k_asm)
  obtain ⟨cells0, vs0, ns0, k0, k0', b0, u0, g1, g2, g3, g4, g5, g6, g7⟩ := S0.ex
  have e := congrArg Obj.data (news_two N (hsub _ g1) hsrc)
  simp only [Data.seq.injEq] at e
  obtain ⟨e1, rfl⟩ := e
  have e2 : ([.ref cells0, .int (b0 : Nat) u0] : List Value) = [.ref cells, .int (a0 : Nat) t] := congrArg Array.toList e1
  simp only [List.cons.injEq, Value.ref.injEq, Value.int.injEq] at e2
  obtain ⟨rfl, ⟨e3, rfl⟩, _⟩ := e2
  have e4 : b0 = a0 := by omega
  subst e4
  exact ⟨cells0, vs0, ns0, k0, k0', b0 + 1, _, put_self g1, put_ne g2 (Nat.ne_of_lt g7), g3, g4, g5, by omega, g7⟩
end Mine
namespace Mine
local macro_rules | `(tactic| walk_at $s:str) => `(tactic| k_extra $s)
local macro_rules | `(tactic| k_mem) => `(tactic| assumption)
set_option maxHeartbeats 8000000 in
theorem source_ok {w : World} {mean : ExcName → Option Value} {mg mb : Str → Option Value} {news : Led} {sc : Addr} {vs : List Value} {ns : List Int} (hi : IntsAre vs ns) (hn : ns.length ≤ 63)
    {dp un : Nat} {gd : Option (List Code)} {cn : Str} {cs : Scope} {a : Addr} {ccd : Value} {cl : List (Str × Addr)} {outer : List Env} {A₀ : Around} {base h₀ : Heap} {L : Addr} {m : Str → Option Value} {s : Shared} {Q E : Value → Shared → Prop}
    (hsc : base.IsList sc vs.toArray)
    (B : Below A₀ base outer h₀) (F : Fr h₀ L s.heap m) (X : (hd.heap_39 w.params).In h₀) (N : News h₀ L s.heap news) (T : Top hd.view_39 (looseW hd.view_39 []) mean mg mb h₀) (hk : cs.kind = .function) (hd : dp + 10 < recursionLimit) (hu : un + 8 * 10 < cLine)
    (hret : ∀ src news' h' tk', SrcIn news' src 0 → (∀ p ∈ news, p ∈ news') → (∀ p ∈ news, p.1 < src) → Fr h₀ L h' m → News h₀ L h' news' → Q (.ref src) { s with heap := h', toks := tk' }) :
    wpAny (model PySem.Challenge.rw_pb0156_01.row.prog w) (ktrTop dp un gd cn cs L a ccd cl outer) (call (.ref 94) [.ref sc]) Q E s := by
  revert X; k_fill; intro X
  refine wpAny_call ?_
  k_dflt ktr_enter
  rename Fr _ _ _ (fun _ => List.lookup _ _) => F0
  replace F0 := fr_bound [(Str.ofString "script", .ref sc)] F0 (by rfl)
  rename Below _ base (_ :: _) _ => B0
  k_lift B0
  k_with_none
  k_with "exec Assign cons ListComp" => (k_dflt (refine LCg.Assign_ListComp_U (F₀ := by k_asm) (by rfl) (by with_unfolding_all rfl) (by with_unfolding_all rfl) (by decide) (by rfl) (by decide) (by rfl) (by rfl) (by rfl) ?_))
  k_steps
  rename IntsAre _ (List.take 60 ns) => hI60
  rename List.length (List.take 60 ns) = _ => hC60
  rename Fr _ _ _ _ => hF
  rename News _ _ _ _ => hN
  rename ∀ p ∈ news, _ < _ => hlt
  refine LCg.CompSrc.ledger (by rfl) hF hN (.head _) (by rw [PySem.sizeLine_eq]; simp only [List.size_toArray]; rw [hI60.length, hC60]; omega) (fun g => comp_inv (fun i ys nw => nw = (_, listOf _ _) :: news ∧ ∃ ks, IntsAre ys ks ∧ ks.length = i) ⟨rfl, [], .nil, rfl⟩ ?turn ?done)
  case turn =>
    rintro i ys nw v I oI C oC D m₂ h tk E' hi9 hP ⟨rfl, ks, hys, hlen⟩ hC hx F9 N9 off ne
    obtain ⟨k, t, rfl, hk⟩ := IntsAre.at hI60 i v (by simpa using hP)
    k_steps
    exact CompEnd_of (by k_asm) (by k_asm) (fun _ q => q) off (.inr ⟨_, .head _, rfl, _, rfl⟩) ⟨rfl, ks ++ [k], IntsAre.append hys (.cons k _ .nil), by simp [hlen]⟩
  case done =>
    rintro ys nw ⟨rfl, ks, hys, hlen⟩ D h tk F9 N9 off
    have hys9 : ys.length ≤ 60 := by rw [hys.length, hlen]; simp only [List.size_toArray]; rw [hI60.length, hC60]; omega
    clear hF hN
    k_with "truthy ref" => (k_dflt (refine' truthy_put ?k1 ?k2 ?k3 ?_; (case k1 => k_asm); (case k2 => exact List.Mem.head _); (case k3 => (simp only [List.size_toArray]; omega))); intro tk8)
    k_steps
    · rename 0 < Array.size _ => hc
      rename News _ _ _ _ => hNN
      rename _ ∧ _ ∧ AllLt _ _ => hlt2
      have hDl := hlt2.1
      refine hret _ _ _ _ ⟨D, ys, ks, _, _, 0, _, List.Mem.head _, List.Mem.tail _ (List.Mem.head _), hys, by have := hys.length; simp at hc; omega, by rw [← hys.length]; exact hys9, Nat.le_refl _, hDl⟩ (fun p hp => ?_) (fun p hp => ?_) (by k_asm) hNN
      · exact List.Mem.tail _ (List.Mem.tail _ (List.Mem.tail _ hp))
      · exact allLt_mem hlt2.2.2 p hp
    · rename News _ _ _ _ => hNN
      rename _ ∧ _ ∧ _ ∧ AllLt _ _ => hlt2
      have hDl := hlt2.1
      refine hret _ _ _ _ ⟨_, _, [0], _, _, 0, _, List.Mem.head _, List.Mem.tail _ (List.Mem.head _), .cons 0 _ .nil, by decide, by decide, Nat.le_refl _, hDl⟩ (fun p hp => ?_) (fun p hp => ?_) (by k_asm) hNN
      · exact List.Mem.tail _ (List.Mem.tail _ (List.Mem.tail _ (List.Mem.tail _ hp)))
      · exact allLt_mem hlt2.2.2.2 p hp
end Mine
namespace Mine
local macro_rules | `(tactic| walk_at $s:str) => `(tactic| k_extra $s)
local macro_rules | `(tactic| k_mem) => `(tactic| assumption)
set_option maxHeartbeats 1000000 in
theorem told_ok {w : World} {mean : ExcName → Option Value} {mg mb : Str → Option Value} {news : Led} {l : Addr} {rs : List (Addr × Addr)} {fs : Nat → Inf} {pl : Addr} {vs : List Value} {cs : List Nat} {kp : Nat} (R : RowIn news l rs fs) (hp : (pl, listOf vs.toArray kp) ∈ news) (hi : IntsAre vs (natInts cs)) (hc : ∀ c ∈ cs, c < rs.length) (hlen : cs.length ≤ 100) :
    Spec w mean mg mb 10 99 [.ref l, .ref pl] news (fun v nw => ∃ D, v = .ref D ∧ (∀ p ∈ news, p ∈ nw) ∧ ToldIn nw D (cs.map fs)) := by
  unfold Spec
  k_fill
  intro dp un gd cn csc a ccd cl outer A₀ base h₀ L m s Q E B F X N T hk hd hu hret
  refine wpAny_call ?_
  k_dflt (refine' code_defC ?k1 ?k2 ?k3 ?k4 ?k5 ?kA ?kF ?kK ?k6 ?k7 ?k8 ?k9 ?kB ?kD ?_ ?c2 ?c3 ?c4; (case kA => exact rfl); (case kF => exact rfl); (case kK => assumption); (case k1 => k_asm); (case k2 => k_asm); (case k3 => k_asm); (case k4 => k_asm); (case k5 => k_asm); (case k6 => k_is); (case k7 => k_is); (case k8 => ktr_room); (case k9 => exact BindsTo.of_eq rfl); (case kB => exact rfl); (case kD => decide +kernel); (case c2 => exact rfl); (case c3 => exact rfl); (case c4 => exact rfl); k_whole; intro g' L' h' tk' cells' FG' F' N' Y' B' X' T' l1; (try k_lt l1); k_cells Y'; (try simp only [List.cons_append, List.nil_append] at N'); (try dsimp only); (try k_lift B'); (try k_fold))
  replace F' : Fr g' L' h' (over [(Str.ofString "places", .ref pl)] (fun _ => none)) := by with_unfolding_all exact F'
  rename Obj.data _ = Data.cell _ => d1
  rename Obj => oc
  replace d1 : oc.data = .cell (some (.ref l)) := by with_unfolding_all exact d1
  k_with_none
  k_with "eval ListComp" => (k_dflt (refine LCg.ListComp_U (F₀ := by k_asm) (by with_unfolding_all rfl) (by decide) (by rfl) (by decide) (by rfl) ?_))
  k_with "subscriptTail" => (k_here; (with_reducible show wpAny _ _ (subscriptTail _ _ (Value.ref _) (Value.int _ _)) _ _ _); (rename RowIn _ _ _ _ => Rx); (refine row_at (by k_asm) (by kcf_all) Rx (by assumption) ?_ (by with_unfolding_all rfl)))
  k_with "getAttr ref" => ((rename RowIn _ _ _ _ => Rx); first
    | ((with_reducible show wpAny _ _ (getAttr _ (Str.ofString "parent") _) _ _ _); refine att_parent (by k_asm) (by k_asm) (by k_asm) (by kcf_all) Rx (by assumption) ?_; intro t')
    | ((with_reducible show wpAny _ _ (getAttr _ (Str.ofString "bond") _) _ _ _); refine att_bond (by k_asm) (by k_asm) (by k_asm) (by kcf_all) Rx (by assumption) ?_; intro t')
    | ((with_reducible show wpAny _ _ (getAttr _ (Str.ofString "y_offset") _) _ _ _); refine att_yoff (by k_asm) (by k_asm) (by k_asm) (by kcf_all) Rx (by assumption) ?_; intro t'))
  iterate 4 (first | (k_unfold; (try dsimp only)) | walk1)
  refine LCg.CompSrc.ledger (by rfl) F' N' (.tail _ hp) (by rw [PySem.sizeLine_eq]; simp only [List.size_toArray]; rw [hi.length, List.length_map]; omega)
      (fun g => comp_inv (fun i ys nw => (∀ p ∈ (L' + 1, oc) :: news, p ∈ nw) ∧ ∃ as : List Addr, ys = as.map Value.ref ∧ as.length = i ∧ ∀ (j : Nat) (a : Addr) (x : Inf), as[j]? = some a → (cs.map fs)[j]? = some x → TupIn nw a x) ⟨fun _ q => q, [], rfl, rfl, fun j a x h => nomatch h⟩ ?turn ?done)
  case turn =>
      rintro i ys nw v I oI C oC D m₂ h tk E' hi9 hP ⟨hsub, as, rfl, hlen9, htup⟩ hC hx F9 N9 off ne
      obtain ⟨z, t, rfl, hz⟩ := IntsAre.at hi i v (by simpa using hP)
      rw [List.getElem?_map] at hz
      obtain ⟨c, hc9, rfl⟩ := Option.map_eq_some_iff.mp hz
      have hcell : (L' + 1, oc) ∈ nw := hsub _ (.head _)
      have Rn : RowIn nw l rs fs := R.mono (fun p q => hsub _ (.tail _ q))
      obtain ⟨r0, hr0⟩ := has_row (hc c (List.mem_of_getElem? hc9))
      k_steps
      rename I < _ ∧ C < _ ∧ D < _ ∧ AllLt _ nw => l1'
      refine CompEnd_new (by k_asm) (by k_asm) l1' off (.inr ⟨_, .tail _ (hsub _ (.tail _ hp)), rfl, _, rfl⟩) ⟨fun p q => .tail _ (hsub p q), as ++ [_], by rw [List.map_append]; rfl, by simp [hlen9], fun j a x ha hx => ?_⟩
      by_cases hj : j < as.length
      · rw [List.getElem?_append_left hj] at ha
        obtain ⟨u1, u2, u3, n, hm⟩ := htup j a x ha hx
        exact ⟨u1, u2, u3, n, .tail _ hm⟩
      · rw [List.getElem?_append_right (by omega)] at ha
        obtain ⟨hlt1, _⟩ := List.getElem?_eq_some_iff.mp ha
        have hj0 : j = i := by simp at hlt1; omega
        subst hj0
        rw [hlen9, Nat.sub_self] at ha
        cases ha
        rw [List.getElem?_map, hc9] at hx
        cases hx
        exact ⟨_, _, _, 0, .head _⟩
  case done =>
    rintro ys nw ⟨hsub, as, rfl, hlen9, htup⟩ D h tk F9 N9 off
    k_steps
    refine hret _ _ _ _ ⟨D, rfl, fun p q => .tail _ (hsub p (.tail _ q)), as, _, .head _, ?_, fun i a x ha hx => ?_⟩ (by k_asm) (by k_asm)
    · rw [hlen9, List.size_toArray, hi.length, List.length_map, List.length_map]
    · obtain ⟨u1, u2, u3, n, hm⟩ := htup i a x ha hx
      exact ⟨u1, u2, u3, n, .tail _ hm⟩
end Mine
namespace Mine
/-- the heaps: their roots in the order in which they were met -/
def addG (g : List (Nat × List Nat)) (r a : Nat) : List (Nat × List Nat) :=
  if g.any (fun p => p.1 = r) then g.map (fun p => if p.1 = r then (p.1, p.2 ++ [a]) else p) else g ++ [(r, [a])]
def groupsF (fs : Nat → Inf) (n : Nat) : Nat → List (Nat × List Nat)
  | 0 => []
  | i + 1 => addG (groupsF fs n i) (rootF fs n i) i
/-- a heap: its root, its places, the list's address -/
abbrev Hp := Nat × List Nat × Addr
def kvsOf (T : List Hp) : List (Int × Value) := T.map fun t => (((t.1 : Nat) : Int), Value.ref t.2.2)
def grpOf (T : List Hp) : List (Nat × List Nat) := T.map fun t => (t.1, t.2.1)
def appH (r a : Nat) (T : List Hp) : List Hp := T.map fun t => if t.1 = r then (t.1, t.2.1 ++ [a], t.2.2) else t
theorem kvs_app (r a : Nat) (T : List Hp) : kvsOf (appH r a T) = kvsOf T := by
  unfold kvsOf appH
  rw [List.map_map]
  apply List.map_congr_left
  intro t _
  by_cases h : t.1 = r <;> simp [h]
theorem grp_app (r a : Nat) (T : List Hp) : grpOf (appH r a T) = (grpOf T).map (fun p => if p.1 = r then (p.1, p.2 ++ [a]) else p) := by
  unfold grpOf appH
  rw [List.map_map, List.map_map]
  apply List.map_congr_left
  intro t _
  by_cases h : t.1 = r <;> simp [h]
theorem grp_old {T : List Hp} {r : Nat} (a : Nat) (h : ∃ t ∈ T, t.1 = r) : addG (grpOf T) r a = grpOf (appH r a T) := by
  have : (grpOf T).any (fun p => p.1 = r) = true := by
    obtain ⟨t, ht, e⟩ := h
    exact List.any_eq_true.mpr ⟨(t.1, t.2.1), List.mem_map.mpr ⟨t, ht, rfl⟩, by simpa using e⟩
  unfold addG
  rw [if_pos this, grp_app]
theorem grp_new {T : List Hp} {r : Nat} (a : Nat) (H : Addr) (h : ∀ t ∈ T, t.1 ≠ r) : addG (grpOf T) r a = grpOf (appH r a (T ++ [(r, [], H)])) := by
  have : ¬ (grpOf T).any (fun p => p.1 = r) = true := by
    intro q
    obtain ⟨p, hp, e⟩ := List.any_eq_true.mp q
    obtain ⟨t, ht, rfl⟩ := List.mem_map.mp hp
    exact h t ht (by simpa using e)
  unfold addG
  rw [if_neg this, grp_app]
  unfold grpOf
  rw [List.map_append, List.map_append]
  congr 1
  · rw [List.map_map]
    apply List.map_congr_left
    intro t ht
    simp [h t ht]
  · simp
theorem val_some {T : List Hp} {r : Nat} {v : Value} (h : valueAt (kvsOf T) ((r : Nat) : Int) = some v) : ∃ t ∈ T, t.1 = r ∧ v = .ref t.2.2 := by
  unfold valueAt at h
  obtain ⟨p, hp, rfl⟩ := Option.map_eq_some_iff.mp h
  have h1 := List.mem_of_find?_eq_some hp
  have h2 := List.find?_some hp
  obtain ⟨t, ht, rfl⟩ := List.mem_map.mp h1
  have q : ((t.1 : Nat) : Int) = (r : Nat) := by simpa using h2
  exact ⟨t, ht, by omega, rfl⟩
theorem val_none {T : List Hp} {r : Nat} (h : valueAt (kvsOf T) ((r : Nat) : Int) = none) : ∀ t ∈ T, t.1 ≠ r := by
  intro t ht e
  unfold valueAt at h
  have h1 := Option.map_eq_none_iff.mp h
  have h2 := List.find?_eq_none.mp h1 _ (List.mem_map.mpr ⟨t, ht, rfl⟩)
  simp [e] at h2
theorem stored_new {T : List Hp} {r : Nat} {H : Addr} (h : ∀ t ∈ T, t.1 ≠ r) : stored (kvsOf T) ((r : Nat) : Int) (.ref H) = kvsOf (T ++ [(r, [], H)]) := by
  unfold stored
  rw [if_neg]
  · unfold kvsOf; rw [List.map_append]; rfl
  · intro q
    obtain ⟨p, hp, e⟩ := List.any_eq_true.mp q
    obtain ⟨t, ht, rfl⟩ := List.mem_map.mp hp
    have e' : ((t.1 : Nat) : Int) = (r : Nat) := by simpa using e
    exact h t ht (by omega)
theorem val_new {T : List Hp} {r : Nat} {H : Addr} (h : ∀ t ∈ T, t.1 ≠ r) : valueAt (kvsOf (T ++ [(r, [], H)])) ((r : Nat) : Int) = some (.ref H) := by
  cases q : valueAt (kvsOf (T ++ [(r, [], H)])) ((r : Nat) : Int) with
  | none => exact absurd rfl (val_none q (r, [], H) (List.mem_append_right _ (.head _)))
  | some v =>
    obtain ⟨t, ht, e, rfl⟩ := val_some q
    rcases List.mem_append.mp ht with ht | ht
    · exact absurd e (h t ht)
    · rw [List.mem_singleton.mp ht]

/-- the state of the heaps: c is the cell, D the dict -/
structure HSt {prog : Program} {w : World} (news : Led) (c D : Addr) (oc oD : Obj) (T : List Hp) (nw : Led) : Prop where
  base : ∀ p ∈ news, p ∈ nw
  cell : (c, oc) ∈ nw
  dict : (D, oD) ∈ nw
  isd : oD.IsDictOf (intKind prog w) (kvsOf T)
  lists : ∀ t ∈ T, ∃ vs k, (t.2.2, listOf vs.toArray k) ∈ nw ∧ IntsAre vs (natInts t.2.1)
  apart : ∀ t ∈ T, ∀ u ∈ T, t.2.2 = u.2.2 → t = u
  keys : ∀ t ∈ T, ∀ u ∈ T, t.1 = u.1 → t = u
  off : ∀ t ∈ T, t.2.2 ≠ D ∧ t.2.2 ≠ c ∧ ∀ p ∈ news, p.1 ≠ t.2.2
  offD : D ≠ c ∧ ∀ p ∈ news, p.1 ≠ D

theorem natInts_snoc {vs : List Value} {cs : List Nat} (h : IntsAre vs (natInts cs)) (a : Nat) (t : Tok) : IntsAre (vs ++ [.int (a : Nat) t]) (natInts (cs ++ [a])) := by
  unfold natInts
  rw [List.map_append]
  exact IntsAre.append h (.cons _ t .nil)
theorem HSt.push {prog : Program} {w : World} {news : Led} {c D : Addr} {oc oD : Obj} {T : List Hp} {nw : Led} (S : HSt (prog := prog) (w := w) news c D oc oD T nw) {t : Hp} (ht : t ∈ T) {vs : List Value} {k : Nat} (hl : (t.2.2, listOf vs.toArray k) ∈ nw) (hi : IntsAre vs (natInts t.2.1)) {a : Nat} {tk : Tok} :
    HSt (prog := prog) (w := w) news c D oc oD (appH t.1 a T) (put t.2.2 (listOf (vs.toArray.push (.int (a : Nat) tk)) (k + 1)) nw) := by
  have o := S.off t ht
  have key : ∀ u ∈ appH t.1 a T, ∃ u0 ∈ T, u = (if u0.1 = t.1 then (u0.1, u0.2.1 ++ [a], u0.2.2) else u0) := fun u hu => by
    obtain ⟨u0, h0, e⟩ := List.mem_map.mp hu
    exact ⟨u0, h0, e.symm⟩
  have adr : ∀ u0 : Hp, (if u0.1 = t.1 then (u0.1, u0.2.1 ++ [a], u0.2.2) else u0).2.2 = u0.2.2 ∧ (if u0.1 = t.1 then (u0.1, u0.2.1 ++ [a], u0.2.2) else u0).1 = u0.1 := fun u0 => by
    by_cases e : u0.1 = t.1 <;> simp [e]
  refine ⟨fun p hp => put_ne (o := p.2) (S.base p hp) (o.2.2 p hp), put_ne S.cell (Ne.symm o.2.1), put_ne S.dict (Ne.symm o.1), by rw [kvs_app]; exact S.isd, fun u hu => ?_, fun u hu v hv e => ?_, fun u hu v hv e => ?_, fun u hu => ?_, S.offD⟩
  · obtain ⟨u0, h0, rfl⟩ := key u hu
    by_cases e : u0.1 = t.1
    · obtain rfl := S.keys u0 h0 t ht e
      rw [if_pos rfl]
      refine ⟨vs ++ [.int (a : Nat) tk], k + 1, ?_, natInts_snoc hi a tk⟩
      have q := put_self (o' := listOf (vs.toArray.push (.int (a : Nat) tk)) (k + 1)) hl
      simpa using q
    · rw [if_neg e]
      obtain ⟨vs', k', h1, h2⟩ := S.lists u0 h0
      exact ⟨vs', k', put_ne h1 (fun q => e (by rw [S.apart u0 h0 t ht q])), h2⟩
  · obtain ⟨u0, h0, rfl⟩ := key u hu
    obtain ⟨v0, h1, rfl⟩ := key v hv
    rw [(adr u0).1, (adr v0).1] at e
    rw [S.apart u0 h0 v0 h1 e]
  · obtain ⟨u0, h0, rfl⟩ := key u hu
    obtain ⟨v0, h1, rfl⟩ := key v hv
    rw [(adr u0).2, (adr v0).2] at e
    rw [S.keys u0 h0 v0 h1 e]
  · obtain ⟨u0, h0, rfl⟩ := key u hu
    rw [(adr u0).1]
    exact S.off u0 h0
theorem HSt.new {prog : Program} {w : World} {news : Led} {c D : Addr} {oc oD oD' : Obj} {T : List Hp} {nw : Led} (S : HSt (prog := prog) (w := w) news c D oc oD T nw) {r : Nat} {H : Addr} (hr : ∀ t ∈ T, t.1 ≠ r) (hH : ∀ p ∈ nw, p.1 < H) (hd : oD'.IsDictOf (intKind prog w) (stored (kvsOf T) ((r : Nat) : Int) (.ref H))) {nw' : Led} (hs : ∀ p ∈ (H, listOf #[] 0) :: nw, p ∈ nw') :
    HSt (prog := prog) (w := w) news c D oc oD' (T ++ [(r, [], H)]) (put D oD' nw') := by
  have hDH : H ≠ D := Nat.ne_of_gt (hH _ S.dict)
  have hmem : ∀ {a : Addr} {o : Obj}, (a, o) ∈ nw → a ≠ D → (a, o) ∈ put D oD' nw' := fun h hn => put_ne (hs _ (.tail _ h)) hn
  refine ⟨fun p hp => hmem (o := p.2) (S.base p hp) (S.offD.2 p hp), hmem S.cell (Ne.symm S.offD.1), put_self (hs _ (.tail _ S.dict)), by rw [← stored_new hr]; exact hd, fun t ht => ?_, fun t ht u hu e => ?_, fun t ht u hu e => ?_, fun t ht => ?_, S.offD⟩
  · rcases List.mem_append.mp ht with ht | ht
    · obtain ⟨vs, k, h1, h2⟩ := S.lists t ht
      exact ⟨vs, k, hmem h1 (S.off t ht).1, h2⟩
    · rw [List.mem_singleton.mp ht]
      exact ⟨[], 0, put_ne (hs _ (.head _)) hDH, .nil⟩
  · rcases List.mem_append.mp ht with ht | ht <;> rcases List.mem_append.mp hu with hu | hu
    · exact S.apart t ht u hu e
    · rw [List.mem_singleton.mp hu] at e
      obtain ⟨vs, k, h1, _⟩ := S.lists t ht
      exact absurd (hH _ h1) (by rw [e]; exact Nat.lt_irrefl _)
    · rw [List.mem_singleton.mp ht] at e
      obtain ⟨vs, k, h1, _⟩ := S.lists u hu
      exact absurd (hH _ h1) (by rw [← e]; exact Nat.lt_irrefl _)
    · rw [List.mem_singleton.mp ht, List.mem_singleton.mp hu]
  · rcases List.mem_append.mp ht with ht | ht <;> rcases List.mem_append.mp hu with hu | hu
    · exact S.keys t ht u hu e
    · rw [List.mem_singleton.mp hu] at e; exact absurd e (hr t ht)
    · rw [List.mem_singleton.mp ht] at e; exact absurd e.symm (hr u hu)
    · rw [List.mem_singleton.mp ht, List.mem_singleton.mp hu]
  · rcases List.mem_append.mp ht with ht | ht
    · exact S.off t ht
    · rw [List.mem_singleton.mp ht]
      exact ⟨hDH, Nat.ne_of_gt (hH _ S.cell), fun p hp => Nat.ne_of_lt (hH _ (S.base p hp))⟩
theorem HSt.sub {prog : Program} {w : World} {news : Led} {c D : Addr} {oc oD : Obj} {T : List Hp} {nw nw' : Led} (S : HSt (prog := prog) (w := w) news c D oc oD T nw) (h : ∀ p ∈ nw, p ∈ nw') : HSt (prog := prog) (w := w) news c D oc oD T nw' :=
  ⟨fun p hp => h _ (S.base p hp), h _ S.cell, h _ S.dict, S.isd, fun t ht => let ⟨vs, k, h1, h2⟩ := S.lists t ht; ⟨vs, k, h _ h1, h2⟩, S.apart, S.keys, S.off, S.offD⟩
end Mine
namespace Mine
theorem app_len {r a n : Nat} {T : List Hp} (h : ∀ t ∈ T, t.2.1.length ≤ n) : ∀ t ∈ appH r a T, t.2.1.length ≤ n + 1 := fun t ht => by
  obtain ⟨u, hu, rfl⟩ := List.mem_map.mp ht
  have := h u hu
  by_cases e : u.1 = r <;> simp [e] <;> omega
theorem app_size (r a : Nat) (T : List Hp) : (appH r a T).length = T.length := List.length_map _
end Mine
namespace Mine
theorem val_mem {T : List Hp} (hk : ∀ t ∈ T, ∀ u ∈ T, t.1 = u.1 → t = u) {t : Hp} (ht : t ∈ T) : valueAt (kvsOf T) ((t.1 : Nat) : Int) = some (.ref t.2.2) := by
  cases q : valueAt (kvsOf T) ((t.1 : Nat) : Int) with
  | none => exact absurd rfl (val_none q t ht)
  | some v =>
    obtain ⟨u, hu, e, rfl⟩ := val_some q
    rw [hk u hu t ht e]
theorem kvs_at {T : List Hp} {i : Nat} {k : Int} {y : Value} (h : (kvsOf T)[i]? = some (k, y)) : ∃ t, T[i]? = some t ∧ k = ((t.1 : Nat) : Int) ∧ y = .ref t.2.2 := by
  unfold kvsOf at h
  rw [List.getElem?_map] at h
  obtain ⟨t, h1, h2⟩ := Option.map_eq_some_iff.mp h
  cases h2
  exact ⟨t, h1, rfl, rfl⟩
abbrev big (t : Hp) : Bool := decide (1 < t.2.1.length)
theorem take_big {T : List Hp} {i : Nat} {t : Hp} (h : T[i]? = some t) : ((T.take (i + 1)).filter big).map (fun t => Value.ref t.2.2) = ((T.take i).filter big).map (fun t => Value.ref t.2.2) ++ (if big t = true then [Value.ref t.2.2] else []) := by
  rw [List.take_add_one, h]
  rw [List.filter_append, List.map_append]
  congr 1
  by_cases e : big t = true
  · rw [if_pos e]; simp [e]
  · rw [if_neg e]; simp [e]
theorem one_big {T : List Hp} {g : List (Nat × List Nat)} {r : Nat} {ats : List Nat} (hg : grpOf T = g) (h : g.filter (fun p => decide (1 < p.2.length)) = [(r, ats)]) : ∃ t, t ∈ T ∧ T.filter big = [t] ∧ t.1 = r ∧ t.2.1 = ats := by
  subst hg
  unfold grpOf at h
  rw [List.filter_map] at h
  cases q : T.filter ((fun p : Nat × List Nat => decide (1 < p.2.length)) ∘ fun t : Hp => (t.1, t.2.1)) with
  | nil => rw [q] at h; cases h
  | cons t r' =>
    rw [q] at h
    simp only [List.map_cons, List.cons.injEq, List.map_eq_nil_iff] at h
    obtain ⟨h1, rfl⟩ := h
    have hq : T.filter big = [t] := q
    have ht : t ∈ T.filter big := by rw [hq]; exact .head _
    exact ⟨t, (List.mem_filter.mp ht).1, hq, congrArg Prod.fst h1, congrArg Prod.snd h1⟩
end Mine
namespace Mine
local macro_rules | `(tactic| walk_at $s:str) => `(tactic| k_extra $s)
local macro_rules | `(tactic| k_mem) => `(tactic| assumption)
set_option maxHeartbeats 1000000 in
theorem chains_ok {w : World} {mean : ExcName → Option Value} {mg mb : Str → Option Value} {news : Led} {l : Addr} {rs : List (Addr × Addr)} {fs : Nat → Inf} (R : RowIn news l rs fs) (hfit : Fit fs rs.length) {rt : Nat} {ats : List Nat} (hone : (groupsF fs rs.length rs.length).filter (fun p => decide (1 < p.2.length)) = [(rt, ats)]) :
    Spec w mean mg mb 20 47 [.ref l] news (fun v nw => ∃ D H k k' vs, v = .ref D ∧ (D, listOf #[.ref H] k) ∈ nw ∧ (H, listOf vs.toArray k') ∈ nw ∧ IntsAre vs (natInts ats) ∧ ∀ p ∈ news, p ∈ nw) := by
  unfold Spec
  k_fill
  intro dp un gd cn csc a ccd cl outer A₀ base h₀ L m s Q E B F X N T hk hd hu hret
  refine wpAny_call ?_
  k_dflt (refine' code_defC ?k1 ?k2 ?k3 ?k4 ?k5 ?kA ?kF ?kK ?k6 ?k7 ?k8 ?k9 ?kB ?kD ?_ ?c2 ?c3 ?c4; (case kA => exact rfl); (case kF => exact rfl); (case kK => assumption); (case k1 => k_asm); (case k2 => k_asm); (case k3 => k_asm); (case k4 => k_asm); (case k5 => k_asm); (case k6 => k_is); (case k7 => k_is); (case k8 => ktr_room); (case k9 => exact BindsTo.of_eq rfl); (case kB => exact rfl); (case kD => decide +kernel); (case c2 => exact rfl); (case c3 => exact rfl); (case c4 => exact rfl); k_whole; intro g' L' h' tk' cells' FG' F' N' Y' B' X' T' l1; k_cells Y'; (try simp only [List.cons_append, List.nil_append] at N'); (try dsimp only); (try k_lift B'); (try k_fold))
  replace F' : Fr g' L' h' (over [(Str.ofString "row", .ref l)] (fun _ => none)) := by with_unfolding_all exact F'
  rename Obj.data _ = Data.cell _ => d1
  rename Obj => oc
  replace d1 : oc.data = .cell none := by with_unfolding_all exact d1
  k_with_none
  k_with "storeName" => (k_dflt (refine' cell_put ?k1 ?k2 ?k3 ?k4 ?k5 ?_ ?k6 ?k7; (case k1 => k_asm); (case k2 => k_asm); (case k3 => exact rfl); (case k4 => exact List.Mem.tail _ (List.Mem.head _)); (case k5 => exact d1); (case k6 => exact rfl); (case k7 => exact rfl)); intro h2 oc2 F2 N2 d2; (rename _ < _ ∧ AllLt _ news => lD); (rw [put_cons (Nat.ne_of_gt lD.1), put_head, put_none (fun p hp => Nat.ne_of_lt (Nat.lt_succ_of_lt (l1 p hp)))] at N2))
  k_with "call builtin:len" => (refine row_len (by k_asm) (by kcf_all) R ?_)
  k_with "eval Dict nil nil" => (k_dflt (refine' newDict_K ?k1 ?k2 (TopRead.nolimit (by k_asm)) ?_; (case k1 => k_asm); (case k2 => k_asm); k_whole); intro D hDh oD0 FD ND lD lo hs0 fs0 hd0 fi0; (k_lt lD); (try k_sweep))
  k_steps
  (rename IsRange _ _ _ _ _ _ _ _ => hR)
  (rename Fr _ _ _ _ => hF)
  (rename News _ _ _ ((_, _) :: (L' + 1, oc2) :: news) => hN)
  refine range_loop0 (fun i m nw => ∃ oD T, HSt (prog := PySem.Challenge.rw_pb0156_01.row.prog) (w := w) news (L' + 1) D oc2 oD T nw ∧ grpOf T = groupsF fs rs.length i ∧ T.length ≤ i ∧ (∀ t ∈ T, t.2.1.length ≤ i) ∧ Knows m [(Str.ofString "row", .ref l)])
    (by rfl) hR (range_small (by have := R.few; omega)) range_size hF hN ⟨_, [], ⟨fun p hp => .tail _ (.tail _ hp), .tail _ (.head _), .head _, hd0, (fun t h => (nomatch h)), (fun t h => (nomatch h)), (fun t h => (nomatch h)), (fun t h => (nomatch h)), ⟨Nat.ne_of_gt lD.1, fun p hp => Nat.ne_of_lt (allLt_mem lD.2 p hp)⟩⟩, rfl, Nat.le_refl _, (fun t h => (nomatch h)), ⟨by rfl, trivial⟩⟩ ?turn ?done
  case turn =>
    rintro i m₁ nw I it t h tk hi ⟨oD, T, S, hg, hT, hTl, hkn⟩ F1 N1 off
    replace F1 := fr_turn hkn F1
    clear hF hN
    have hcell := S.cell
    have hin : i < 9 := Nat.lt_of_lt_of_le hi R.few
    k_with "call ref" => (k_dflt (refine' spec_use (root_of_ok (news := (I, it) :: nw) (R.mono (fun p q => .tail _ (S.base p q))) hi hfit) ?k1 ?k2 ?k3 ?k4 ?k5 ?kK ?kd ?ku ?_; (case k1 => k_asm); (case k2 => k_asm); (case k3 => k_asm); (case k4 => k_asm); (case k5 => k_asm); (case kK => exact rfl); (case kd => ktr_room); (case ku => ktr_units)); (rintro v nw1 h1 tk1 ⟨rfl, t1, rfl⟩ F2 N2); (try dsimp only); (try k_fold))
    k_with "compareOp NotIn int ref" => (k_dflt (refine' kdg_notin (knd := intKind _ _) (kvs := kvsOf T) ?k1 ?k2 ?k3 ?k4 ?k5 ((valueAt (kvsOf T) (rootF fs rs.length i : Nat)).isSome) ?k6 ?_; (case k1 => k_asm); (case k2 => exact .tail _ S.dict); (case k3 => exact S.isd); (case k4 => exact lo); (case k5 => exact intKind_is _ _ _ _); (case k6 => exact rfl)))
    have tail9 : ∀ {oD9 : Obj} {T9 : List Hp} {Y : Led} {tk9 : Nat} {h9 : Heap} {m9 : Str → Option Value} {t9 : Hp} {vs9 : List Value} {k9 : Nat} {s9 : Shared} {tka : Tok}, HSt (prog := PySem.Challenge.rw_pb0156_01.row.prog) (w := w) news (L' + 1) D oc2 oD9 T9 Y → t9 ∈ T9 → (t9.2.2, listOf vs9.toArray k9) ∈ Y → IntsAre vs9 (natInts t9.2.1) → (∀ p ∈ Y, p.1 ≠ I) → Fr g' L' h9 m9 → News g' L' h9 (put t9.2.2 (listOf (vs9.toArray.push (.int (i : Nat) tka)) (k9 + 1)) ((I, it) :: Y)) → grpOf (appH t9.1 i T9) = groupsF fs rs.length (i + 1) → T9.length ≤ i + 1 → (∀ t ∈ T9, t.2.1.length ≤ i) → m9 (Str.ofString "row") = some (.ref l) →
        UnrEnd g' L' s9 I it (fun m nw => ∃ oD T, HSt (prog := PySem.Challenge.rw_pb0156_01.row.prog) (w := w) news (L' + 1) D oc2 oD T nw ∧ grpOf T = groupsF fs rs.length (i + 1) ∧ T.length ≤ i + 1 ∧ (∀ t ∈ T, t.2.1.length ≤ i + 1) ∧ Knows m [(Str.ofString "row", .ref l)]) { s9 with heap := h9, toks := tk9 } := by
      intro oD9 T9 Y tk9 h9 m9 t9 vs9 k9 s9 tka S9 ht9 hl9 hi9 offY F9 N9 hg9 hT9 hTl9 hm9
      rw [put_cons (fun e => offY _ hl9 e.symm)] at N9
      exact UnrEnd_of F9 N9 (fun _ q => q) (put_off offY) ⟨oD9, _, S9.push ht9 hl9 hi9, hg9, by rw [app_size]; exact hT9, app_len hTl9, ⟨hm9, trivial⟩⟩
    k_with "newList" => (k_dflt (refine' newList_K ?k1 ?k2 ?_; (case k1 => k_asm); (case k2 => k_asm); k_whole); intro H hHh FH NH lH; (k_lt lH); (try k_sweep))
    k_steps
    · rename Option.isSome _ = true => hv
      obtain ⟨v9, hv9⟩ := Option.isSome_iff_exists.mp hv
      obtain ⟨t9, ht9, et9, rfl⟩ := val_some hv9
      obtain ⟨vs9, k9, hl9, hi9⟩ := S.lists t9 ht9
      have hvz : vs9.length ≤ 100 := by have h1 := hi9.length; have h2 := hTl t9 ht9; rw [List.length_map] at h1; omega
      k_with "subscriptTail" => (k_dflt (refine' kda_item (knd := intKind _ _) (kvs := kvsOf T) ?k1 ?k2 ?k3 ?k4 ?k5 ?_ ?k6 ?k7; (case k1 => k_asm); (case k2 => exact .tail _ S.dict); (case k3 => exact S.isd); (case k4 => exact intKind_is _ _ _ _); (case k5 => exact hv9); (case k6 => with_unfolding_all rfl); (case k7 => intro _; with_unfolding_all rfl)))
      k_with "call builtin:list.append" => (k_dflt (refine' append_put ?k1 ?k2 ?k3 ?_ ?k5; (case k1 => k_asm); (case k2 => k_asm); (case k3 => exact .tail _ hl9); (case k5 => (rw [PySem.sizeLine_eq]; simp; omega))); intro h5 F5 N5; (try dsimp only); (try k_fold))
      k_steps
      exact tail9 S ht9 hl9 hi9 off (by k_asm) (by k_asm) (by rw [et9, ← grp_old i ⟨t9, ht9, et9⟩, hg]; rfl) (by omega) hTl rfl
    · rename Option.isSome _ = false => hv
      have hr := val_none (Option.not_isSome_iff_eq_none.mp (by rw [hv]; exact Bool.false_ne_true))
      refine dict_put (knd := intKind _ _) (kvs := kvsOf T) (k := ((rootF fs rs.length i : Nat) : Int)) (by k_asm) (by k_asm) (.tail _ (.tail _ S.dict)) S.isd (intKind_is _ _ _ _) (by unfold kvsOf; rw [List.length_map]; omega) ?_
      intro h5 o5 F5 N5 d5
      have S5 := S.new hr (fun p hp => allLt_mem lH.2 p hp) d5 (fun p hp => hp)
      have offY := put_off (a := D) (o := o5) (fun p hp => by
        rcases List.mem_cons.mp hp with rfl | hp
        · exact Nat.ne_of_gt lH.1
        · exact off p hp : ∀ p ∈ (H, listOf #[] 0) :: nw, p.1 ≠ I)
      have N6 : News g' L' h5 ((I, it) :: put D o5 ((H, listOf #[] 0) :: nw)) := news_sub N5 (fun p hp => by
        rcases List.mem_cons.mp hp with rfl | hp
        · exact put_ne (.tail _ (.head _)) (fun e => off _ S.dict e.symm)
        · exact put_sub (fun q hq => by
            rcases List.mem_cons.mp hq with rfl | hq
            · exact .head _
            · exact .tail _ (.tail _ hq)) p hp)
      clear N5
      generalize put D o5 _ = Y at S5 offY N6
      have hcell5 := S5.cell
      have ht9 : ((rootF fs rs.length i, [], H) : Hp) ∈ T ++ [(rootF fs rs.length i, [], H)] := List.mem_append_right _ (.head _)
      obtain ⟨vs9, k9, hl9, hi9⟩ := S5.lists _ ht9
      have hvz : vs9.length ≤ 100 := by have h1 := hi9.length; simp at h1; simp [h1]
      have hv9 := val_new (H := H) hr
      clear hcell
      k_with "subscriptTail" => (k_dflt (refine' kda_item (knd := intKind _ _) ?k1 ?k2 ?k3 ?k4 ?k5 ?_ ?k6 ?k7; (case k1 => k_asm); (case k2 => exact .tail _ S5.dict); (case k3 => exact S5.isd); (case k4 => exact intKind_is _ _ _ _); (case k5 => exact hv9); (case k6 => with_unfolding_all rfl); (case k7 => intro _; with_unfolding_all rfl)))
      k_with "call builtin:list.append" => (k_dflt (refine' append_put ?k1 ?k2 ?k3 ?_ ?k5; (case k1 => k_asm); (case k2 => k_asm); (case k3 => exact .tail _ hl9); (case k5 => (rw [PySem.sizeLine_eq]; simp; omega))); intro h5 F5 N5; (try dsimp only); (try k_fold))
      try dsimp only
      k_steps
      exact tail9 S5 ht9 hl9 hi9 offY (by k_asm) (by k_asm) (by rw [← grp_new i H hr, hg]; rfl) (by rw [List.length_append, List.length_singleton]; omega) (fun t ht => by
        rcases List.mem_append.mp ht with ht | ht
        · exact hTl t ht
        · rw [List.mem_singleton.mp ht]; exact Nat.zero_le _) rfl
  case done =>
    rintro m₁ nw h tk ⟨oD, T, S, hg, hT, hTl, hkn⟩ F1 N1
    replace F1 := fr_over hkn F1
    clear hF hN
    have hcell := S.cell
    have few := R.few
    obtain ⟨t0, ht0, hbig, _, hats⟩ := one_big hg hone
    obtain ⟨vs0, k0, hl0, hi0⟩ := S.lists t0 ht0
    have hz : (kvsOf T).length = T.length := by unfold kvsOf; rw [List.length_map]
    dsimp only
    iterate 6 walk1
    refine ListComp_dict (knd := intKind _ _) F1 (by with_unfolding_all rfl) (by decide) (by rfl) (by decide) (by rfl) ?_ (by intro _; rfl)
    walk1
    refine ⟨D, oD, kvsOf T, nw, rfl, rfl, F1, N1, S.dict, S.isd, lo, by rw [PySem.sizeLine_eq]; omega, ?_⟩
    rintro s₂ ⟨hz2, rfl⟩
    refine comp_invT (fun i ys nw' => (∀ p ∈ nw, p ∈ nw') ∧ ys = ((T.take i).filter big).map (fun t => Value.ref t.2.2)) ⟨fun _ q => q, rfl⟩ ?turn2 ?done2
    case turn2 =>
      rintro i ys nw' v I oI C oC Dl m₂ h3 tk3 E' hi9 ⟨k9, y9, hkv, hkey⟩ ⟨hsub, rfl⟩ hC hx F9 N9 off ne
      obtain ⟨t9, ht9, rfl, rfl⟩ := kvs_at hkv
      obtain ⟨tk9, rfl⟩ := Value.isInt_shape hkey
      have hmem := List.mem_of_getElem? ht9
      have hv9 := val_mem S.keys hmem
      obtain ⟨vs9, k9, hl9, hi99⟩ := S.lists t9 hmem
      have hlen9 : vs9.toArray.size = t9.2.1.length := by rw [List.size_toArray, hi99.length, List.length_map]
      have hle := hTl t9 hmem
      have hcell' := hsub _ S.cell
      k_with "subscriptTail" => (k_dflt (refine' kda_item (knd := intKind _ _) ?k1 ?k2 ?k3 ?k4 ?k5 ?_ ?k6 ?k7; (case k1 => k_asm); (case k2 => exact .tail _ (.tail _ (.tail _ (hsub _ S.dict)))); (case k3 => exact S.isd); (case k4 => exact intKind_is _ _ _ _); (case k5 => exact hv9); (case k6 => with_unfolding_all rfl); (case k7 => intro _; with_unfolding_all rfl)))
      k_with "call builtin:len" => (k_dflt (refine' len_put ?k1 ?k2 ?k3 ?_; (case k1 => k_asm); (case k2 => exact .tail _ (.tail _ (.tail _ (hsub _ hl9)))); (case k3 => omega)))
      k_steps
      · rename 1 < _ => hc
        have hb : big t9 = true := decide_eq_true (by omega)
        refine CompEnd_of (by k_asm) (by k_asm) (fun _ q => q) off (hsub _ S.dict) ⟨hsub, ?_⟩
        rw [take_big ht9, if_pos hb]
      · rename ¬ _ < _ => hc
        have hb : ¬ big t9 = true := by simp only [big, decide_eq_true_eq]; omega
        refine CompEnd_of (by k_asm) (by k_asm) (fun _ q => q) off (hsub _ S.dict) ⟨hsub, ?_⟩
        rw [take_big ht9, if_neg hb, List.append_nil]
    case done2 =>
      rintro ys nw' ⟨hsub, rfl⟩ Dl h3 tk3 F9 N9 off
      rw [hz, List.take_length, hbig] at N9
      k_with "call builtin:sorted" => (k_dflt (refine' sorted_one (v := .ref t0.2.2) ?k1 ?k2 ?k3 ?_; (case k1 => k_asm); (case k2 => k_asm); (case k3 => exact ⟨_, (N9 _ (.head _)).1, rfl, _, rfl⟩)); intro D9 n9 h9 F10 N10 lt10; (try dsimp only); (try k_fold))
      k_steps
      exact hret _ _ _ _ ⟨D9, t0.2.2, _, _, vs0, rfl, .head _, .tail _ (.tail _ (hsub _ hl0)), by rw [← hats]; exact hi0, fun p hp => .tail _ (.tail _ (hsub _ (S.base p hp)))⟩ (by k_asm) (by k_asm)
end Mine
namespace Mine
local macro_rules | `(tactic| walk_at $s:str) => `(tactic| k_extra $s)
local macro_rules | `(tactic| k_mem) => `(tactic| assumption)
local macro_rules | `(tactic| k_all) => `(tactic| exact fun p hp => Nat.ne_of_lt (allLt_mem (by assumption) p hp))
set_option maxHeartbeats 2000000 in
theorem info_ok {w : World} {mean : ExcName → Option Value} {mg mb : Str → Option Value} {news : Led} {i1 i2 i3 : Int} {t1 t2 t3 : Tok} :
    Spec w mean mg mb 10 78 [.int i1 t1, .int i2 t2, .int i3 t3] news (fun v nw => ∃ x dx es k, v = .ref x ∧ nw = (x, instObj 78 dx) :: (dx, dictOf es k) :: news ∧ InfEs es ⟨0, Str.ofString "", 0⟩ ∧ (∀ p ∈ news, p.1 < dx) ∧ dx < x) := by
  unfold Spec
  k_fill
  intro dp un gd cn csc a ccd cl outer A₀ base h₀ L m s Q E B F X N T hk hd hu hret
  k_dflt (refine' call_cls ?k1 ?k2 ?k3 ?k4 ?k5 ?k6 ?_; (case k1 => k_asm); (case k2 => k_asm); (case k3 => k_asm); (case k4 => k_is); (case k5 => k_is); (case k6 => k_is); k_whole; intro x dx h' F' N' l1 l2)
  have l1' := allLt_of l1
  have l2' := ltN l2
  k_dflt (refine' code_def ?k1 ?k2 ?k3 ?k4 ?k5 ?kA ?kF ?kK ?k6 ?k7 ?k8 ?k9 ?kB ?_ ?c2 ?c3 ?c4 ?c5; (case kA => exact rfl); (case kF => exact rfl); (case kK => assumption); (case k1 => k_asm); (case k2 => k_asm); (case k3 => k_asm); (case k4 => k_asm); (case k5 => k_asm); (case k6 => k_is); (case k7 => k_is); (case k8 => ktr_room); (case k9 => exact BindsTo.of_eq rfl); (case c5 => decide); (case kB => exact locs rfl); (case c2 => exact rfl); (case c3 => exact rfl); (case c4 => exact rfl); k_whole; intro g' L' h' FG' F' N' B' X' T'; (try dsimp only); (try k_fold))
  rename Fr _ _ _ (fun _ => List.lookup _ _) => F0
  replace F0 := fr_bound [(Str.ofString "cluster", .int i3 t3), (Str.ofString "glyph", .int i2 t2), (Str.ofString "code", .int i1 t1), (Str.ofString "self", .ref x)] F0 (by rfl)
  k_with_none
  k_steps
  rename News h₀ L _ (_ :: _ :: news) => N9
  refine hret _ _ _ _ ⟨x, dx, _, _, rfl, rfl, ?_, l1, l2⟩ (by k_asm) N9
  exact ⟨⟨_, by k_get⟩, ⟨_, by k_get⟩, ⟨_, by k_get⟩, Nat.le_of_ble_eq_true rfl⟩
end Mine
namespace Mine
/-- how a statement of the law ends -/
def SPost (h₀ : Heap) (L : Addr) (s : Shared) (K : (Str → Option Value) → Led → Prop) (f : Flow) (s₂ : Shared) : Prop := f = .next ∧ WEnd h₀ L s K s₂
theorem SPost.intro {h₀ : Heap} {L : Addr} {s : Shared} {K : (Str → Option Value) → Led → Prop} {m' : Str → Option Value} {nw' : Led} {h' : Heap} {tk : Nat} (F : Fr h₀ L h' m') (N : News h₀ L h' nw') (hj : K m' nw') : SPost h₀ L s K .next { s with heap := h', toks := tk } := ⟨rfl, WEnd.intro F N hj⟩
theorem stage {M : Model} {A : Around} {E : Value → Shared → Prop} {s : Shared} {env : Env} {h₀ : Heap} {L : Addr} {Q : Flow → Shared → Prop} {st : Stmt} {rest : List Stmt} (K : (Str → Option Value) → Led → Prop)
    (h1 : wpAny M A (exec st env) (SPost h₀ L s K) E s)
    (h2 : ∀ h tk m nw, K m nw → Fr h₀ L h m → News h₀ L h nw → wpAny M A (execs rest env) Q E { s with heap := h, toks := tk }) : wpAny M A (execs (st :: rest) env) Q E s := by
  refine wpAny_execs_cons (wpAny_mono h1 (fun f s' hp => ?_) fun _ _ e => e)
  obtain ⟨rfl, h, tk, m, nw, rfl, F, N, k⟩ := hp
  exact h2 h tk m nw k F N
/-- how a statement ends that may hand back True -/
def RPost (h₀ : Heap) (L : Addr) (s : Shared) (K : (Str → Option Value) → Led → Prop) (f : Flow) (s₂ : Shared) : Prop := SPost h₀ L s K f s₂ ∨ (f = .ret (.bool true) ∧ WEnd h₀ L s (fun _ _ => True) s₂)
theorem stageR {M : Model} {A : Around} {E : Value → Shared → Prop} {s : Shared} {env : Env} {h₀ : Heap} {L : Addr} {Q : Flow → Shared → Prop} {st : Stmt} {rest : List Stmt} (K : (Str → Option Value) → Led → Prop)
    (h1 : wpAny M A (exec st env) (RPost h₀ L s K) E s)
    (hr : ∀ h tk m nw, Fr h₀ L h m → News h₀ L h nw → Q (.ret (.bool true)) { s with heap := h, toks := tk })
    (h2 : ∀ h tk m nw, K m nw → Fr h₀ L h m → News h₀ L h nw → wpAny M A (execs rest env) Q E { s with heap := h, toks := tk }) : wpAny M A (execs (st :: rest) env) Q E s := by
  refine wpAny_execs_cons (wpAny_mono h1 (fun f s' hp => ?_) fun _ _ e => e)
  rcases hp with ⟨rfl, h, tk, m, nw, rfl, F, N, k⟩ | ⟨rfl, h, tk, m, nw, rfl, F, N, _⟩
  · exact h2 h tk m nw k F N
  · exact hr h tk m nw F N

/-- the law's statements and names, out of the program's own form -/
def lawStmt : PySem.Stmt := PySem.Challenge.pw_pb0156_01.main.body.getLastD (.Pass ⟨0, 0, 0, 0⟩)
def lawBody : List PySem.Stmt := match lawStmt with
  | .FunctionDef _ _ b _ _ _ _ _ _ _ => b
  | _ => []
def lawScope : PySem.Scope := match lawStmt with
  | .FunctionDef _ _ _ _ _ _ sc _ _ _ => sc
  | _ => PySem.Challenge.pw_pb0156_01.main.scope
end Mine
namespace Mine
def lawSt (i : Nat) : PySem.Stmt := lawBody.getD i lawStmt
abbrev lawEnv (L fa : Addr) (cdv : Value) : Env := envOfC (Str.ofString "law") lawScope L fa cdv
structure Gr (w : World) (mean : ExcName → Option Value) (mg mb : Str → Option Value) (H0 : Heap) : Prop where
  below : Below callerA H0 [] H0
  frag : (hd.heap_39 w.params).In H0
  top : Top hd.view_39 (looseW hd.view_39 []) mean mg mb H0
/-- a statement of the law, from a frame and a ledger to what holds behind it -/
def LStep (w : World) (i : Nat) (H0 : Heap) (L : Addr) (m : Str → Option Value) (nw : Led) (K : (Str → Option Value) → Led → Prop) : Prop :=
  ∀ (fa : Addr) (cdv : Value) (s : Shared) (E : Value → Shared → Prop), PassesOwn (model PySem.Challenge.rw_pb0156_01.row.prog w) (callerA.deeper (lawEnv L fa cdv)) (lawEnv L fa cdv) E → Fr H0 L s.heap m → News H0 L s.heap nw →
    wpAny (model PySem.Challenge.rw_pb0156_01.row.prog w) (callerA.deeper (lawEnv L fa cdv)) (exec (lawSt i) (lawEnv L fa cdv)) (SPost H0 L s K) E s

def CellIn (nw : Led) (c : Addr) (v : Option Value) : Prop := ∃ o, (c, o) ∈ nw ∧ o.data = .cell v
theorem CellIn.sub {nw nw' : Led} {c : Addr} {v : Option Value} (h : CellIn nw c v) (hs : ∀ o, (c, o) ∈ nw → (c, o) ∈ nw') : CellIn nw' c v := let ⟨o, h1, h2⟩ := h; ⟨o, hs o h1, h2⟩
structure LAdr where
  src : Addr
  row : Addr
  left : Addr
  chain : Addr
  rs : List (Addr × Addr)
structure LOrd (L : Addr) (a : LAdr) : Prop where
  s : L + 3 < a.src
  i : ∀ (i : Nat) (r : Addr × Addr), a.rs[i]? = some r → a.src < r.1 ∧ a.src < r.2 ∧ r.1 < a.left ∧ r.2 < a.left
  r : a.row ≠ a.src
  rl : a.row < a.left
  l : a.src < a.left
  c : a.left < a.chain
theorem lt_1 {L x : Addr} (h : L + 3 < x) : L + 1 < x := Nat.lt_trans (Nat.lt_succ_of_lt (Nat.lt_succ_self _)) h
theorem lt_2 {L x : Addr} (h : L + 3 < x) : L + 2 < x := Nat.lt_trans (Nat.lt_succ_self _) h
def NatsIn (nw : Led) (l : Addr) (cs : List Nat) : Prop := ∃ vs k, (l, listOf vs.toArray k) ∈ nw ∧ IntsAre vs (natInts cs)
theorem NatsIn.sub {nw nw' : Led} {l : Addr} {cs : List Nat} (h : NatsIn nw l cs) (hs : ∀ o, (l, o) ∈ nw → (l, o) ∈ nw') : NatsIn nw' l cs := let ⟨vs, k, h1, h2⟩ := h; ⟨vs, k, hs _ h1, h2⟩
/-- the law's state -/
structure LS (L : Addr) (a : LAdr) (n : Nat) (fs : Nat → Inf) (lf ch : List Nat) (v3 : Option Value) (nw : Led) : Prop where
  c1 : CellIn nw (L + 1) (some (.ref a.row))
  c2 : CellIn nw (L + 2) (some (.ref a.chain))
  c3 : CellIn nw (L + 3) v3
  src : SrcIn nw a.src n
  row : RowIn nw a.row a.rs fs
  left : NatsIn nw a.left lf
  chain : NatsIn nw a.chain ch
  ord : LOrd L a

theorem SrcIn.sub {nw nw' : Led} {src : Addr} {n : Nat} (h : SrcIn nw src n) (hs : ∀ p ∈ nw, p ∈ nw') : SrcIn nw' src n := by
  obtain ⟨cells, vs, ns, k, k', a, t, h1, h2, h3⟩ := h.ex
  exact ⟨cells, vs, ns, k, k', a, t, hs _ h1, hs _ h2, h3⟩
theorem SrcIn.le {nw : Led} {src : Addr} {n n' : Nat} (h : SrcIn nw src n) (hn : n ≤ n') : SrcIn nw src n' := by
  obtain ⟨cells, vs, ns, k, k', a, t, h1, h2, h3, h4, h5, h6, h7⟩ := h.ex
  exact ⟨cells, vs, ns, k, k', a, t, h1, h2, h3, h4, h5, Nat.le_trans h6 hn, h7⟩
theorem LS.sub {L : Addr} {a : LAdr} {n : Nat} {fs : Nat → Inf} {lf ch : List Nat} {v3 : Option Value} {nw nw' : Led} (h : LS L a n fs lf ch v3 nw) (hs : ∀ p ∈ nw, p ∈ nw') : LS L a n fs lf ch v3 nw' :=
  ⟨h.c1.sub fun _ q => hs _ q, h.c2.sub fun _ q => hs _ q, h.c3.sub fun _ q => hs _ q, h.src.sub hs, h.row.mono hs, h.left.sub fun _ q => hs _ q, h.chain.sub fun _ q => hs _ q, h.ord⟩
theorem LS.draw {L : Addr} {a : LAdr} {n : Nat} {fs : Nat → Inf} {lf ch : List Nat} {v3 : Option Value} {nw : Led} {o' : Obj} (h : LS L a n fs lf ch v3 nw) (hs : SrcIn (put a.src o' nw) a.src (n + 1)) : LS L a (n + 1) fs lf ch v3 (put a.src o' nw) := by
  have o := h.ord
  refine ⟨h.c1.sub fun _ q => put_ne q (Nat.ne_of_lt (lt_1 o.s)), h.c2.sub fun _ q => put_ne q (Nat.ne_of_lt (lt_2 o.s)), h.c3.sub fun _ q => put_ne q (Nat.ne_of_lt o.s), hs, h.row.put_list o.r fun i r hr => ?_, h.left.sub fun _ q => put_ne q (Nat.ne_of_gt o.l), h.chain.sub fun _ q => put_ne q (Nat.ne_of_gt (Nat.lt_trans o.l o.c)), o⟩
  have := o.i i r hr
  exact ⟨Nat.ne_of_gt this.1, Nat.ne_of_gt this.2.1⟩
theorem LS.kept {L : Addr} {a : LAdr} {n : Nat} {fs fs' : Nat → Inf} {lf ch : List Nat} {v3 : Option Value} {nw nw' : Led} (h : LS L a n fs lf ch v3 nw) (hk : Kept a.rs nw nw') (hr : RowIn nw' a.row a.rs fs') : LS L a n fs' lf ch v3 nw' := by
  have o := h.ord
  have off : ∀ {x : Addr}, (x ≤ a.src ∨ a.left ≤ x) → ∀ r ∈ a.rs, x ≠ r.2 := fun hx r hr => by
    obtain ⟨i, hi⟩ := List.mem_iff_getElem?.mp hr
    have q := o.i i r hi
    rcases hx with hx | hx
    · exact Nat.ne_of_lt (Nat.lt_of_le_of_lt hx q.2.1)
    · exact Nat.ne_of_gt (Nat.lt_of_lt_of_le q.2.2.2 hx)
  refine ⟨h.c1.sub fun _ q => hk _ q (off (.inl (Nat.le_of_lt (lt_1 o.s)))), h.c2.sub fun _ q => hk _ q (off (.inl (Nat.le_of_lt (lt_2 o.s)))), h.c3.sub fun _ q => hk _ q (off (.inl (Nat.le_of_lt o.s))), ?_, hr, h.left.sub fun _ q => hk _ q (off (.inr (Nat.le_refl _))), h.chain.sub fun _ q => hk _ q (off (.inr (Nat.le_of_lt o.c))), o⟩
  obtain ⟨cells, vs, ns, k, k', b, t, h1, h2, h3, h4, h5, h6, h7⟩ := h.src.ex
  exact ⟨cells, vs, ns, k, k', b, t, hk _ h1 (off (.inl (Nat.le_refl _))), hk _ h2 (off (.inl (Nat.le_of_lt h7))), h3, h4, h5, h6, h7⟩
theorem LS.setLeft {L : Addr} {a : LAdr} {n : Nat} {fs : Nat → Inf} {lf lf' ch : List Nat} {v3 : Option Value} {nw : Led} {us : List Value} {k : Nat} (h : LS L a n fs lf ch v3 nw) (hi : IntsAre us (natInts lf')) : LS L a n fs lf' ch v3 (put a.left (listOf us.toArray k) nw) := by
  have o := h.ord
  obtain ⟨vs0, k0, g1, _⟩ := h.left
  refine ⟨h.c1.sub fun _ q => put_ne q (Nat.ne_of_lt (Nat.lt_trans (lt_1 o.s) o.l)), h.c2.sub fun _ q => put_ne q (Nat.ne_of_lt (Nat.lt_trans (lt_2 o.s) o.l)), h.c3.sub fun _ q => put_ne q (Nat.ne_of_lt (Nat.lt_trans o.s o.l)), ?_, h.row.put_list (Nat.ne_of_lt o.rl) fun i r hr => ?_, ⟨us, k, put_self g1, hi⟩, h.chain.sub fun _ q => put_ne q (Nat.ne_of_gt o.c), o⟩
  · obtain ⟨cells, vs, ns, k, k', b, t, h1, h2, h3, h4, h5, h6, h7⟩ := h.src.ex
    exact ⟨cells, vs, ns, k, k', b, t, put_ne h1 (Nat.ne_of_lt o.l), put_ne h2 (Nat.ne_of_lt (Nat.lt_trans h7 o.l)), h3, h4, h5, h6, h7⟩
  · have := o.i i r hr
    exact ⟨Nat.ne_of_lt this.2.2.1, Nat.ne_of_lt this.2.2.2⟩
theorem LS.setChain {L : Addr} {a : LAdr} {n : Nat} {fs : Nat → Inf} {lf ch ch' : List Nat} {v3 : Option Value} {nw : Led} {us : List Value} {k : Nat} (h : LS L a n fs lf ch v3 nw) (hi : IntsAre us (natInts ch')) : LS L a n fs lf ch' v3 (put a.chain (listOf us.toArray k) nw) := by
  have o := h.ord
  obtain ⟨vs0, k0, g1, _⟩ := h.chain
  have sc := Nat.lt_trans o.l o.c
  refine ⟨h.c1.sub fun _ q => put_ne q (Nat.ne_of_lt (Nat.lt_trans (lt_1 o.s) sc)), h.c2.sub fun _ q => put_ne q (Nat.ne_of_lt (Nat.lt_trans (lt_2 o.s) sc)), h.c3.sub fun _ q => put_ne q (Nat.ne_of_lt (Nat.lt_trans o.s sc)), ?_, h.row.put_list (Nat.ne_of_lt (Nat.lt_trans o.rl o.c)) fun i r hr => ?_, h.left.sub fun _ q => put_ne q (Nat.ne_of_lt o.c), ⟨us, k, put_self g1, hi⟩, o⟩
  · obtain ⟨cells, vs, ns, k, k', b, t, h1, h2, h3, h4, h5, h6, h7⟩ := h.src.ex
    exact ⟨cells, vs, ns, k, k', b, t, put_ne h1 (Nat.ne_of_lt sc), put_ne h2 (Nat.ne_of_lt (Nat.lt_trans h7 sc)), h3, h4, h5, h6, h7⟩
  · have := o.i i r hr
    exact ⟨Nat.ne_of_lt (Nat.lt_trans this.2.2.1 o.c), Nat.ne_of_lt (Nat.lt_trans this.2.2.2 o.c)⟩
theorem cut_at : ∀ {l : List Value} {k : Nat} {y : Value}, l[k]? = some y → kl_cut l k = some (l.take k, y, l.drop (k + 1))
  | [], _, _, h => by simp at h
  | x :: r, 0, y, h => by simp at h; subst h; rfl
  | x :: r, k + 1, y, h => by
    have h' : r[k]? = some y := by simpa using h
    unfold kl_cut
    rw [cut_at h']
    rfl
section
variable {prog : Program} {w : World} {A : Around} {E : Value → Shared → Prop} {s : Shared} {h₀ : Heap} {L : Addr} {m : Str → Option Value} {nw : Led}
theorem pop_put {D : Addr} {vs : List Value} {n k : Nat} {u : Tok} {y : Value} {Q : Value → Shared → Prop} (F : Fr h₀ L s.heap m) (N : News h₀ L s.heap nw) (hm : (D, listOf vs.toArray n) ∈ nw) (hy : vs[k]? = some y) (hz : vs.length ≤ 100)
    (h : ∀ h', Fr h₀ L h' m → News h₀ L h' (put D (listOf (vs.take k ++ vs.drop (k + 1)).toArray (n + 1)) nw) → Q y { s with heap := h' }) :
    wpAny (model prog w) A (call (.builtin "list.pop") [.ref D, .int (k : Nat) u]) Q E s := by
  have hk : k < vs.length := (List.getElem?_eq_some_iff.mp hy).1
  refine kl_popAt (k := k) F (news_lead N hm) ?_ ?_ (cut_at hy) lead_upd ?_ (fun h' F' N' => h h' F' (put_of_lead N'))
  · unfold Builtin.List.listFitsIndex
    simp only [Bool.and_eq_true, decide_eq_true_eq]
    omega
  · have e : ¬ ((k : Int) < 0) := by omega
    simp [seqIndex?, e, hk]
  · rw [PySem.sizeLine_eq]; show vs.length ≤ _; omega
end
theorem ints_cut {vs : List Value} {cs : List Nat} (h : IntsAre vs (natInts cs)) (k : Nat) : IntsAre (vs.take k ++ vs.drop (k + 1)) (natInts (cs.eraseIdx k)) := by
  have := IntsAre.append (h.take k) (h.drop (k + 1))
  unfold natInts at this ⊢
  rw [List.eraseIdx_eq_take_drop_succ, List.map_append, List.map_take, List.map_drop]
  exact this
theorem LS.off {L : Addr} {a : LAdr} {n : Nat} {fs : Nat → Inf} {lf ch : List Nat} {v3 : Option Value} {nw : Led} (h : LS L a n fs lf ch v3 nw) {k : Nat} {r : Addr × Addr} (hr : a.rs[k]? = some r) {x : Addr} (hx : x ≤ a.src ∨ a.left ≤ x) : x ≠ r.2 := by
  have q := h.ord.i k r hr
  rcases hx with hx | hx
  · exact Nat.ne_of_lt (Nat.lt_of_le_of_lt hx q.2.1)
  · exact Nat.ne_of_gt (Nat.lt_of_lt_of_le q.2.2.2 hx)
theorem LS.store {L : Addr} {a : LAdr} {n : Nat} {fs fs' : Nat → Inf} {lf ch : List Nat} {v3 : Option Value} {nw : Led} (h : LS L a n fs lf ch v3 nw) {k : Nat} {r : Addr × Addr} (hr : a.rs[k]? = some r) {o' : Obj} (R : RowIn (put r.2 o' nw) a.row a.rs fs') : LS L a n fs' lf ch v3 (put r.2 o' nw) := h.kept (Kept.put hr) R
/-- what of the ledger the law reads by address: its cells and lists -/
structure LFix (L : Addr) (a : LAdr) (o1 o2 : Obj) (lvs cvs : List Value) (lk ck : Nat) (nw : Led) : Prop where
  m1 : (L + 1, o1) ∈ nw
  m2 : (L + 2, o2) ∈ nw
  l : (a.left, listOf lvs.toArray lk) ∈ nw
  c : (a.chain, listOf cvs.toArray ck) ∈ nw
theorem LFix.store {L : Addr} {a : LAdr} {o1 o2 : Obj} {lvs cvs : List Value} {lk ck : Nat} {nw : Led} (f : LFix L a o1 o2 lvs cvs lk ck nw) (o : LOrd L a) {k : Nat} {r : Addr × Addr} (hr : a.rs[k]? = some r) {o' : Obj} : LFix L a o1 o2 lvs cvs lk ck (put r.2 o' nw) := by
  have q := o.i k r hr
  exact ⟨put_ne f.m1 (Nat.ne_of_lt (Nat.lt_trans (lt_1 o.s) q.2.1)), put_ne f.m2 (Nat.ne_of_lt (Nat.lt_trans (lt_2 o.s) q.2.1)), put_ne f.l (Nat.ne_of_gt q.2.2.2), put_ne f.c (Nat.ne_of_gt (Nat.lt_trans q.2.2.2 o.c))⟩
theorem LFix.draw {L : Addr} {a : LAdr} {o1 o2 : Obj} {lvs cvs : List Value} {lk ck : Nat} {nw : Led} (f : LFix L a o1 o2 lvs cvs lk ck nw) (o : LOrd L a) {o' : Obj} : LFix L a o1 o2 lvs cvs lk ck (put a.src o' nw) :=
  ⟨put_ne f.m1 (Nat.ne_of_lt (lt_1 o.s)), put_ne f.m2 (Nat.ne_of_lt (lt_2 o.s)), put_ne f.l (Nat.ne_of_gt o.l), put_ne f.c (Nat.ne_of_gt (Nat.lt_trans o.l o.c))⟩
theorem LFix.sub {L : Addr} {a : LAdr} {o1 o2 : Obj} {lvs cvs : List Value} {lk ck : Nat} {nw nw' : Led} (f : LFix L a o1 o2 lvs cvs lk ck nw) (hs : ∀ p ∈ nw, p ∈ nw') : LFix L a o1 o2 lvs cvs lk ck nw' := ⟨hs _ f.m1, hs _ f.m2, hs _ f.l, hs _ f.c⟩
theorem LFix.kept {L : Addr} {a : LAdr} {o1 o2 : Obj} {lvs cvs : List Value} {lk ck : Nat} {nw nw' : Led} (f : LFix L a o1 o2 lvs cvs lk ck nw) (o : LOrd L a) (hk : Kept a.rs nw nw') : LFix L a o1 o2 lvs cvs lk ck nw' := by
  have off : ∀ {x : Addr}, (x ≤ a.src ∨ a.left ≤ x) → ∀ r ∈ a.rs, x ≠ r.2 := fun hx r hr => by
    obtain ⟨i, hi⟩ := List.mem_iff_getElem?.mp hr
    have q := o.i i r hi
    rcases hx with hx | hx
    · exact Nat.ne_of_lt (Nat.lt_of_le_of_lt hx q.2.1)
    · exact Nat.ne_of_gt (Nat.lt_of_lt_of_le q.2.2.2 hx)
  exact ⟨hk _ f.m1 (off (.inl (Nat.le_of_lt (lt_1 o.s)))), hk _ f.m2 (off (.inl (Nat.le_of_lt (lt_2 o.s)))), hk _ f.l (off (.inr (Nat.le_refl _))), hk _ f.c (off (.inr (Nat.le_of_lt o.c)))⟩
theorem LS.fix {L : Addr} {a : LAdr} {n : Nat} {fs : Nat → Inf} {lf ch : List Nat} {v3 : Option Value} {nw : Led} (h : LS L a n fs lf ch v3 nw) : ∃ o1 o2 lvs cvs lk ck, LFix L a o1 o2 lvs cvs lk ck nw ∧ o1.data = .cell (some (.ref a.row)) ∧ o2.data = .cell (some (.ref a.chain)) ∧ IntsAre lvs (natInts lf) ∧ IntsAre cvs (natInts ch) := by
  obtain ⟨o1, m1, d1⟩ := h.c1
  obtain ⟨o2, m2, d2⟩ := h.c2
  obtain ⟨lvs, lk, l1, l2⟩ := h.left
  obtain ⟨cvs, ck, c1, c2⟩ := h.chain
  exact ⟨o1, o2, lvs, cvs, lk, ck, ⟨m1, m2, l1, c1⟩, d1, d2, l2, c2⟩
theorem nat_at {vs : List Value} {cs : List Nat} {x : Nat} (h : IntsAre vs (natInts cs)) (hx : x < cs.length) : ∃ c t, cs[x]? = some c ∧ vs[x]? = some (.int (c : Nat) t) := by
  have hx' : x < vs.length := by rw [h.length, List.length_map]; exact hx
  obtain ⟨z, t, e, hz⟩ := IntsAre.at h x vs[x] (List.getElem?_eq_getElem hx')
  rw [List.getElem?_map] at hz
  obtain ⟨c, hc, rfl⟩ := Option.map_eq_some_iff.mp hz
  exact ⟨c, t, hc, by rw [List.getElem?_eq_getElem hx', e]⟩
def Stop (P : Prop) : Prop := P
theorem stop_here {P : Prop} (h : Stop P) : P := h
theorem Stop.go {P : Prop} (h : P) : Stop P := h
theorem LS.le {L : Addr} {a : LAdr} {n n' : Nat} {fs : Nat → Inf} {lf ch : List Nat} {v3 : Option Value} {nw : Led} (h : LS L a n fs lf ch v3 nw) (hn : n ≤ n') : LS L a n' fs lf ch v3 nw := ⟨h.c1, h.c2, h.c3, h.src.le hn, h.row, h.left, h.chain, h.ord⟩
theorem idx_nat {x n : Nat} (h : x < n) : seqIndex? ((x : Nat) : Int) n = some x := by
  have e : ¬ ((x : Int) < 0) := by omega
  simp [seqIndex?, e, h]
section
variable {prog : Program} {w : World} {A : Around} {E : Value → Shared → Prop} {s : Shared} {h₀ : Heap} {L : Addr} {nw : Led} {value slice : Expr}
theorem tup_at {T : Addr} {vs : List Value} {n k : Nat} {u : Tok} {v : Value} {Q : Value → Shared → Prop} (N : News h₀ L s.heap nw) (hm : (T, tupOf vs n) ∈ nw) (hv : vs[k]? = some v) (hz : vs.length ≤ 100) (h : Q v s)
    (he : subscripted slice false (.ref T) (.int (k : Nat) u) = operate [.ref T, .int (k : Nat) u] (getItem (.ref T) (.int (k : Nat) u))) :
    wpAny (model prog w) A (subscriptTail value slice (.ref T) (.int (k : Nat) u)) Q E s := by
  have hk := (List.getElem?_eq_some_iff.mp hv).1
  exact item_tupleT (News.isTup N hm) (by omega) (by omega) (idx_nat hk) hv h he
theorem two_at {T : Addr} {b1 b2 : Str} {t1 t2 : Tok} {n k : Nat} {u : Tok} {Q : Value → Shared → Prop} (N : News h₀ L s.heap nw) (hm : (T, ({ cls := .type "tuple", data := .seq #[.str b1 t1, .str b2 t2] n } : Obj)) ∈ nw) (hk : k < 2) (h : ∀ b t, b = b1 ∨ b = b2 → Q (.str b t) s)
    (he : subscripted slice false (.ref T) (.int (k : Nat) u) = operate [.ref T, .int (k : Nat) u] (getItem (.ref T) (.int (k : Nat) u))) :
    wpAny (model prog w) A (subscriptTail value slice (.ref T) (.int (k : Nat) u)) Q E s := by
  match k, hk with
  | 0, _ => exact tup_at (vs := [.str b1 t1, .str b2 t2]) N hm rfl (Nat.le_of_ble_eq_true rfl) (h _ _ (.inl rfl)) he
  | 1, _ => exact tup_at (vs := [.str b1 t1, .str b2 t2]) N hm rfl (Nat.le_of_ble_eq_true rfl) (h _ _ (.inr rfl)) he
end
/-- a statement that may end in True -/
def LStepR (w : World) (i : Nat) (H0 : Heap) (L : Addr) (m : Str → Option Value) (nw : Led) (K : (Str → Option Value) → Led → Prop) : Prop :=
  ∀ (fa : Addr) (cdv : Value) (s : Shared) (E : Value → Shared → Prop), PassesOwn (model PySem.Challenge.rw_pb0156_01.row.prog w) (callerA.deeper (lawEnv L fa cdv)) (lawEnv L fa cdv) E → Fr H0 L s.heap m → News H0 L s.heap nw →
    wpAny (model PySem.Challenge.rw_pb0156_01.row.prog w) (callerA.deeper (lawEnv L fa cdv)) (exec (lawSt i) (lawEnv L fa cdv)) (RPost H0 L s K) E s
theorem RPost.ret {h₀ : Heap} {L : Addr} {s : Shared} {K : (Str → Option Value) → Led → Prop} {m' : Str → Option Value} {nw' : Led} {h' : Heap} {tk : Nat} (F : Fr h₀ L h' m') (N : News h₀ L h' nw') : RPost h₀ L s K (.ret (.bool true)) { s with heap := h', toks := tk } := .inr ⟨rfl, WEnd.intro F N trivial⟩
theorem RPost.next {h₀ : Heap} {L : Addr} {s : Shared} {K : (Str → Option Value) → Led → Prop} {m' : Str → Option Value} {nw' : Led} {h' : Heap} {tk : Nat} (F : Fr h₀ L h' m') (N : News h₀ L h' nw') (hj : K m' nw') : RPost h₀ L s K .next { s with heap := h', toks := tk } := .inl (SPost.intro F N hj)
end Mine
namespace Mine
local macro_rules | `(tactic| walk_at $s:str) => `(tactic| k_extra $s)
local macro_rules | `(tactic| k_mem) => `(tactic| assumption)
/-- behind the source -/
def St0 (L : Addr) (m : Str → Option Value) (nw : Led) : Prop := ∃ src, SrcIn nw src 0 ∧ L + 3 < src ∧ CellIn nw (L + 1) none ∧ CellIn nw (L + 2) none ∧ CellIn nw (L + 3) none ∧ Knows m [(Str.ofString "source", .ref src)]
set_option maxHeartbeats 1000000 in
theorem st0 {w : World} {mean : ExcName → Option Value} {mg mb : Str → Option Value} {H0 : Heap} {L : Addr} {sc : Addr} {vs : List Value} {ns : List Int} {oc1 oc2 oc3 : Obj} (G : Gr w mean mg mb H0) (hsc : H0.IsList sc vs.toArray) (hi : IntsAre vs ns) (hn : ns.length ≤ 63)
    (d1 : oc1.data = .cell none) (d2 : oc2.data = .cell none) (d3 : oc3.data = .cell none) : LStep w 0 H0 L (over [(Str.ofString "script", .ref sc)] fun _ => none) [(L + 1, oc1), (L + 2, oc2), (L + 3, oc3)] (St0 L) := by
  intro fa cdv s E hE F N
  obtain ⟨K0, X, T⟩ := G
  revert X; k_fill; intro X
  k_with_none
  dsimp only [lawEnv] at hE ⊢
  obtain ⟨S, hS⟩ : ∃ S, lawScope = S := ⟨_, rfl⟩
  rw [hS] at hE ⊢
  conv at hS => lhs; whnf
  subst hS
  conv => arg 3; arg 1; whnf
  k_with "call ref" => (k_dflt (refine' source_ok hi hn hsc ?k1 ?k2 ?k3 ?k4 ?k5 ?kK ?kd ?ku ?_; (case k1 => k_asm); (case k2 => k_asm); (case k3 => k_asm); (case k4 => k_asm); (case k5 => k_asm); (case kK => exact rfl); (case kd => ktr_room); (case ku => ktr_units)); (rintro src nw1 h1 tk1 hS hsub hlt F2 N2); (try dsimp only); (try k_fold))
  k_steps
  exact SPost.intro (by k_asm) (by k_asm) ⟨src, hS, hlt _ (.tail _ (.tail _ (.head _))), ⟨oc1, hsub _ (.head _), d1⟩, ⟨oc2, hsub _ (.tail _ (.head _)), d2⟩, ⟨oc3, hsub _ (.tail _ (.tail _ (.head _))), d3⟩, rfl, trivial⟩
/-- behind the size -/
def St1 (L : Addr) (m : Str → Option Value) (nw : Led) : Prop := ∃ src n t, 2 ≤ n ∧ n ≤ 9 ∧ SrcIn nw src 1 ∧ L + 3 < src ∧ CellIn nw (L + 1) none ∧ CellIn nw (L + 2) none ∧ CellIn nw (L + 3) none ∧ Knows m [(Str.ofString "source", .ref src), (Str.ofString "size", .int (n : Nat) t)]
set_option maxHeartbeats 1000000 in
theorem st1 {w : World} {mean : ExcName → Option Value} {mg mb : Str → Option Value} {H0 : Heap} {L : Addr} {m : Str → Option Value} {nw : Led} (G : Gr w mean mg mb H0) (hK : St0 L m nw) : LStep w 1 H0 L m nw (St1 L) := by
  intro fa cdv s E hE F N
  obtain ⟨K0, X, T⟩ := G
  revert X; k_fill; intro X
  k_with_none
  dsimp only [lawEnv] at hE ⊢
  obtain ⟨S, hS⟩ : ∃ S, lawScope = S := ⟨_, rfl⟩
  rw [hS] at hE ⊢
  conv at hS => lhs; whnf
  subst hS
  conv => arg 3; arg 1; whnf
  obtain ⟨src, hS, hL, hc1, hc2, hc3, hkn⟩ := hK
  replace F := fr_over hkn F
  k_with "call ref" => (k_dflt (refine' spec_use (draw_ok (lim := 8) hS (by decide) (by decide) (by decide)) ?k1 ?k2 ?k3 ?k4 ?k5 ?kK ?kd ?ku ?_; (case k1 => k_asm); (case k2 => k_asm); (case k3 => k_asm); (case k4 => k_asm); (case k5 => k_asm); (case kK => exact rfl); (case kd => ktr_room); (case ku => ktr_units)); (rintro v nw1 h1 tk1 ⟨r, t1, o', rfl, hr, rfl, hS1⟩ F2 N2); (try dsimp only); (try k_fold))
  k_steps
  have q : ∀ {c : Addr} {v : Option Value}, c < src → CellIn nw c v → CellIn (put src o' nw) c v := fun hc h => h.sub fun _ z => put_ne z (Nat.ne_of_lt hc)
  refine SPost.intro (by k_asm) (by k_asm) ⟨src, 2 + r, _, by omega, by omega, hS1 nw (fun _ q => q) hS, hL, q (lt_1 hL) hc1, q (lt_2 hL) hc2, q hL hc3, rfl, rfl, trivial⟩
theorem sub5 {a b c d e : Addr × Obj} {l : Led} : ∀ p ∈ c :: d :: e :: a :: b :: l, p ∈ a :: b :: c :: d :: e :: l := fun p q => by
  rcases List.mem_cons.mp q with rfl | q
  · exact .tail _ (.tail _ (.head _))
  rcases List.mem_cons.mp q with rfl | q
  · exact .tail _ (.tail _ (.tail _ (.head _)))
  rcases List.mem_cons.mp q with rfl | q
  · exact .tail _ (.tail _ (.tail _ (.tail _ (.head _))))
  rcases List.mem_cons.mp q with rfl | q
  · exact .head _
  rcases List.mem_cons.mp q with rfl | q
  · exact .tail _ (.head _)
  exact .tail _ (.tail _ (.tail _ (.tail _ (.tail _ q))))
theorem SrcIn.celled {h₀ h : Heap} {L : Addr} {nw : Led} {src c : Addr} {n : Nat} {oc o' : Obj} {v : Option Value} (N : News h₀ L h nw) (hm : (c, oc) ∈ nw) (d : oc.data = .cell v) (S : SrcIn nw src n) : SrcIn (put c o' nw) src n := by
  obtain ⟨cells, vs, ns, k, k', a, t, h1, h2, h3⟩ := S.ex
  exact ⟨cells, vs, ns, k, k', a, t, put_ne h1 (news_apart N h1 hm fun e => by rw [← e] at d; cases d), put_ne h2 (news_apart N h2 hm fun e => by rw [← e] at d; cases d), h3⟩
theorem off1_mem {D : Addr} : ∀ {l : Led}, LCg.Off1 D l → ∀ p ∈ l, p.1 ≠ D
  | [], _, _, h => nomatch h
  | q :: r, h, p, hp => by
    rcases List.mem_cons.mp hp with rfl | hp
    · exact h.1
    · exact off1_mem h.2 p hp
/-- Infos made: an Info each at rs -/
structure Made (news nw : Led) (rs : List (Addr × Addr)) (lo : Addr) : Prop where
  sub : ∀ p ∈ news, p ∈ nw
  inst : ∀ (i : Nat) (r : Addr × Addr), rs[i]? = some r → (r.1, instObj 78 r.2) ∈ nw
  dict : ∀ (i : Nat) (r : Addr × Addr), rs[i]? = some r → ∃ es k, (r.2, dictOf es k) ∈ nw ∧ InfEs es ⟨0, Str.ofString "", 0⟩
  apart : ∀ (i j : Nat) (r q : Addr × Addr), rs[i]? = some r → rs[j]? = some q → r.2 = q.2 → i = j
  lo : ∀ (i : Nat) (r : Addr × Addr), rs[i]? = some r → lo < r.1 ∧ lo < r.2
theorem Made.push {news nw : Led} {rs : List (Addr × Addr)} {lo x dx : Addr} {es : List DictEntry} {k : Nat} (M : Made news nw rs lo) (hE : InfEs es ⟨0, Str.ofString "", 0⟩) (h1 : ∀ p ∈ nw, p.1 < dx) (h2 : dx < x) (hlo : lo < dx) : Made news ((x, instObj 78 dx) :: (dx, dictOf es k) :: nw) (rs ++ [(x, dx)]) lo := by
  have key : ∀ {i : Nat} {r : Addr × Addr}, (rs ++ [(x, dx)])[i]? = some r → rs[i]? = some r ∨ (i = rs.length ∧ r = (x, dx)) := fun {i r} h => by
    by_cases hi : i < rs.length
    · rw [List.getElem?_append_left hi] at h; exact .inl h
    · rw [List.getElem?_append_right (by omega)] at h
      obtain ⟨q, _⟩ := List.getElem?_eq_some_iff.mp h
      have hi0 : i - rs.length = 0 := by simp at q; omega
      rw [hi0] at h
      cases h
      exact .inr ⟨by omega, rfl⟩
  refine ⟨fun p hp => .tail _ (.tail _ (M.sub p hp)), fun i r hr => ?_, fun i r hr => ?_, fun i j r q hr hq e => ?_, fun i r hr => ?_⟩
  · rcases key hr with h | ⟨_, rfl⟩
    · exact .tail _ (.tail _ (M.inst i r h))
    · exact .head _
  · rcases key hr with h | ⟨_, rfl⟩
    · obtain ⟨es, k, h3, h4⟩ := M.dict i r h
      exact ⟨es, k, .tail _ (.tail _ h3), h4⟩
    · exact ⟨es, k, .tail _ (.head _), hE⟩
  · rcases key hr with h | ⟨e1, rfl⟩ <;> rcases key hq with h' | ⟨e2, rfl⟩
    · exact M.apart i j r q h h' e
    · obtain ⟨es', k', h3, _⟩ := M.dict i r h
      exact absurd (h1 _ h3) (by rw [e]; exact Nat.lt_irrefl _)
    · obtain ⟨es', k', h3, _⟩ := M.dict j q h'
      exact absurd (h1 _ h3) (by rw [← e]; exact Nat.lt_irrefl _)
    · rw [e1, e2]
  · rcases key hr with h | ⟨_, rfl⟩
    · exact M.lo i r h
    · exact ⟨Nat.lt_trans hlo h2, hlo⟩
/-- behind the row -/
def St2 (L : Addr) (m : Str → Option Value) (nw : Led) : Prop := ∃ src row rs t, 2 ≤ rs.length ∧ SrcIn nw src 1 ∧ L + 3 < src ∧ row ≠ src ∧ (∀ (i : Nat) (r : Addr × Addr), rs[i]? = some r → src < r.1 ∧ src < r.2) ∧ RowIn nw row rs (fun _ => ⟨0, Str.ofString "", 0⟩) ∧ CellIn nw (L + 1) (some (.ref row)) ∧ CellIn nw (L + 2) none ∧ CellIn nw (L + 3) none ∧ Knows m [(Str.ofString "source", .ref src), (Str.ofString "size", .int (rs.length : Nat) t)]
set_option maxHeartbeats 1000000 in
theorem st2 {w : World} {mean : ExcName → Option Value} {mg mb : Str → Option Value} {H0 : Heap} {L : Addr} {m : Str → Option Value} {nw : Led} (G : Gr w mean mg mb H0) (hK : St1 L m nw) : LStep w 2 H0 L m nw (St2 L) := by
  intro fa cdv s E hE F N
  obtain ⟨K0, X, T⟩ := G
  revert X; k_fill; intro X
  k_with_none
  dsimp only [lawEnv] at hE ⊢
  obtain ⟨S, hS⟩ : ∃ S, lawScope = S := ⟨_, rfl⟩
  rw [hS] at hE ⊢
  conv at hS => lhs; whnf
  subst hS
  conv => arg 3; arg 1; whnf
  obtain ⟨src, n, t0, hn2, hn9, hS, hL, hc1, hc2, hc3, hkn⟩ := hK
  replace F := fr_over hkn F
  obtain ⟨oc1, hm1, d1⟩ := hc1
  obtain ⟨_, _, _, _, _, _, _, hsrc, _⟩ := id hS.ex
  k_with "eval ListComp" => (k_dflt (refine LCg.ListComp_U (F₀ := by k_asm) (by with_unfolding_all rfl) (by decide) (by rfl) (by decide) (by rfl) ?_))
  k_with "call ref" => (k_dflt (refine' spec_use info_ok ?k1 ?k2 ?k3 ?k4 ?k5 ?kK ?kd ?ku ?_; (case k1 => k_asm); (case k2 => k_asm); (case k3 => k_asm); (case k4 => k_asm); (case k5 => k_asm); (case kK => exact rfl); (case kd => ktr_room); (case ku => ktr_units)); (rintro v nw1 h1 tk1 ⟨x, dx, es, k, rfl, rfl, hE, hlt, hlt2⟩ F2 N2); (try dsimp only); (try k_fold))
  k_with "storeName" => (k_dflt (refine' cell_put ?k1 ?k2 ?k3 ?k4 ?k5 ?_ ?k6 ?k7; (case k1 => k_asm); (case k2 => k_asm); (case k3 => exact rfl); (case k4 => exact List.Mem.tail _ hm9); (case k5 => exact d1); (case k6 => exact rfl); (case k7 => exact rfl)); intro h2 oc2 F2 N2 d2)
  iterate 9 (first | (k_unfold; (try dsimp only)) | walk1)
  (rename IsRange _ _ _ _ _ _ _ _ => hR)
  (rename Fr _ _ _ _ => hF)
  (rename News _ _ _ nw => hN)
  refine LCg.CompSrc.range (n := n) (by rfl) hF hN hR (range_small (by omega)) range_size (by rw [PySem.sizeLine_eq]; omega) (fun g => comp_inv (fun i ys nw' => ∃ rs : List (Addr × Addr), rs.length = i ∧ ys = rs.map (fun r => Value.ref r.1) ∧ Made nw nw' rs src) ⟨[], rfl, rfl, fun _ q => q, (fun i r h => (nomatch h)), (fun i r h => (nomatch h)), (fun i j r q h => (nomatch h)), fun i r h => (nomatch h)⟩ ?turn ?done)
  case turn =>
    rintro i ys nw' v I oI C oC D m₂ h tk E' hi9 ⟨tv, rfl⟩ ⟨rs, hlen, rfl, M⟩ hC hx F9 N9 off ne
    rw [Int.zero_add] at hx
    clear hF hN
    have hsrc9 := M.sub _ hsrc
    k_steps
    refine CompEnd_of (by k_asm) N2 (nw' := (x, instObj 78 dx) :: (dx, dictOf es k) :: nw') (fun p q => ?_) ⟨⟨Nat.ne_of_gt (Nat.lt_trans (hlt _ (.head _)) hlt2), Nat.ne_of_gt (Nat.lt_trans (hlt _ (.tail _ (.head _))) hlt2), Nat.ne_of_gt (Nat.lt_trans (hlt _ (.tail _ (.tail _ (.head _)))) hlt2)⟩, ⟨Nat.ne_of_gt (hlt _ (.head _)), Nat.ne_of_gt (hlt _ (.tail _ (.head _))), Nat.ne_of_gt (hlt _ (.tail _ (.tail _ (.head _))))⟩, off⟩ trivial ⟨rs ++ [(x, dx)], by rw [List.length_append, hlen]; rfl, by rw [List.map_append]; rfl, M.push hE (fun p hp => hlt p (.tail _ (.tail _ (.tail _ hp)))) hlt2 (hlt (src, _) (.tail _ (.tail _ (.tail _ hsrc9))))⟩
    exact sub5 p q
  case done =>
    rintro ys nw' ⟨rs, hlen, rfl, M⟩ D h tk F9 N9 off
    clear hF hN
    have hm9 := M.sub _ hm1
    have hL0 := lt_1 hL
    k_steps
    have hDL : D ≠ L + 1 := Ne.symm (off1_mem off _ hm9)
    have q : ∀ {c : Addr} {v : Option Value}, c ≠ L + 1 → CellIn nw c v → CellIn (put (L + 1) oc2 ((D, LCg.lst (List.map (fun r => Value.ref r.fst) rs)) :: nw')) c v := fun hc h => h.sub fun _ z => put_ne (.tail _ (M.sub _ z)) hc
    have off1 : ∀ (i : Nat) (r : Addr × Addr), rs[i]? = some r → r.1 ≠ L + 1 ∧ r.2 ≠ L + 1 := fun i r hr => ⟨Nat.ne_of_gt (Nat.lt_trans hL0 (M.lo i r hr).1), Nat.ne_of_gt (Nat.lt_trans hL0 (M.lo i r hr).2)⟩
    exact SPost.intro (by k_asm) (by k_asm) ⟨src, D, rs, t0, by omega, SrcIn.celled N9 (.tail _ hm9) d1 (hS.sub fun p hp => .tail _ (M.sub p hp)), hL, Ne.symm (off1_mem off _ (M.sub _ hsrc)), M.lo, ⟨⟨_, put_ne (.head _) hDL⟩, fun i r hr => put_ne (.tail _ (M.inst i r hr)) (off1 i r hr).1, fun i r hr => let ⟨es, k, h1, h2⟩ := M.dict i r hr; ⟨es, k, put_ne (.tail _ h1) (off1 i r hr).2, h2⟩, M.apart, by omega⟩, ⟨oc2, put_self (.tail _ hm9), d2⟩, q (Nat.ne_of_gt (Nat.lt_succ_self _)) hc2, q (Nat.ne_of_gt (Nat.lt_succ_of_lt (Nat.lt_succ_self _))) hc3, rfl, by rw [hlen]; rfl, trivial⟩
/-- behind left -/
def St3 (L : Addr) (m : Str → Option Value) (nw : Led) : Prop := ∃ src row rs t left, 2 ≤ rs.length ∧ SrcIn nw src 1 ∧ L + 3 < src ∧ row ≠ src ∧ (∀ (i : Nat) (r : Addr × Addr), rs[i]? = some r → src < r.1 ∧ src < r.2 ∧ r.1 < left ∧ r.2 < left) ∧ row < left ∧ src < left ∧ RowIn nw row rs (fun _ => ⟨0, Str.ofString "", 0⟩) ∧ NatsIn nw left (List.range rs.length) ∧ CellIn nw (L + 1) (some (.ref row)) ∧ CellIn nw (L + 2) none ∧ CellIn nw (L + 3) none ∧ Knows m [(Str.ofString "source", .ref src), (Str.ofString "size", .int (rs.length : Nat) t), (Str.ofString "left", .ref left)]
theorem rangeKs_nat (n : Nat) : rangeKs 0 n = natInts (List.range n) := by
  unfold rangeKs natInts
  apply List.map_congr_left
  intro a _
  exact Int.zero_add _
set_option maxHeartbeats 1000000 in
theorem st3 {w : World} {mean : ExcName → Option Value} {mg mb : Str → Option Value} {H0 : Heap} {L : Addr} {m : Str → Option Value} {nw : Led} (G : Gr w mean mg mb H0) (hK : St2 L m nw) : LStep w 3 H0 L m nw (St3 L) := by
  intro fa cdv s E hE F N
  obtain ⟨K0, X, T⟩ := G
  revert X; k_fill; intro X
  k_with_none
  dsimp only [lawEnv] at hE ⊢
  obtain ⟨S, hS⟩ : ∃ S, lawScope = S := ⟨_, rfl⟩
  rw [hS] at hE ⊢
  conv at hS => lhs; whnf
  subst hS
  conv => arg 3; arg 1; whnf
  obtain ⟨src, row, rs, t0, hn2, hS, hL, hrs, hlo, R, hc1, hc2, hc3, hkn⟩ := hK
  replace F := fr_over hkn F
  have few := R.few
  k_with "call type:list" => ((rename IsRange _ _ _ _ _ _ _ _ => rgX); (with_unfolding_all refine' kll_range (n := rs.length) ?k0 ?k1 ?k2 ?k3 ?k4 ?k5 ?k6 ?_; (case k0 => rfl); (case k1 => k_asm); (case k2 => k_asm); (case k3 => exact rgX); (case k4 => exact range_small (by omega)); (case k5 => exact range_size); (case k6 => omega)); intro left us c h' tk' F' N' l1 hI')
  k_steps
  rename_i N7
  rw [rangeKs_nat] at hI'
  obtain ⟨_, _, _, _, _, _, _, hsrc, _⟩ := id hS.ex
  obtain ⟨_, hrow⟩ := R.lst
  exact SPost.intro (by k_asm) (by k_asm) ⟨src, row, rs, t0, left, hn2, hS.sub fun p hp => .tail _ hp, hL, hrs, fun i r hr => ⟨(hlo i r hr).1, (hlo i r hr).2, l1 _ (R.inst i r hr), let ⟨_, _, h1, _⟩ := R.dict i r hr; l1 _ h1⟩, l1 _ hrow, l1 _ hsrc, R.mono fun p hp => .tail _ hp, ⟨us, c, .head _, hI'⟩, hc1.sub fun _ q => .tail _ q, hc2.sub fun _ q => .tail _ q, hc3.sub fun _ q => .tail _ q, rfl, rfl, rfl, trivial⟩
abbrev zeroF : Nat → Inf := fun _ => ⟨0, Str.ofString "", 0⟩
/-- behind the empty chain -/
def St4 (L : Addr) (m : Str → Option Value) (nw : Led) : Prop := ∃ a t, 2 ≤ a.rs.length ∧ LS L a 1 zeroF (List.range a.rs.length) [] none nw ∧ Knows m [(Str.ofString "source", .ref a.src), (Str.ofString "size", .int (a.rs.length : Nat) t), (Str.ofString "left", .ref a.left)]
set_option maxHeartbeats 1000000 in
theorem st4 {w : World} {mean : ExcName → Option Value} {mg mb : Str → Option Value} {H0 : Heap} {L : Addr} {m : Str → Option Value} {nw : Led} (G : Gr w mean mg mb H0) (hK : St3 L m nw) : LStep w 4 H0 L m nw (St4 L) := by
  intro fa cdv s E hE F N
  obtain ⟨K0, X, T⟩ := G
  revert X; k_fill; intro X
  k_with_none
  dsimp only [lawEnv] at hE ⊢
  obtain ⟨S, hS⟩ : ∃ S, lawScope = S := ⟨_, rfl⟩
  rw [hS] at hE ⊢
  conv at hS => lhs; whnf
  subst hS
  conv => arg 3; arg 1; whnf
  obtain ⟨src, row, rs, t0, left, hn2, hS, hL, hrs, hlo, hrl, hsl, R, hNl, hc1, hc2, hc3, hkn⟩ := hK
  replace F := fr_over hkn F
  obtain ⟨oc2, hm2, d2⟩ := hc2
  obtain ⟨lvs, lk, hl1, hl2⟩ := hNl
  k_with "newList" => (k_dflt (refine' newList_K ?k1 ?k2 ?_; (case k1 => k_asm); (case k2 => k_asm); k_whole); intro H hHh FH NH lH)
  k_with "storeName" => (k_dflt (refine' cell_put ?k1 ?k2 ?k3 ?k4 ?k5 ?_ ?k6 ?k7; (case k1 => k_asm); (case k2 => k_asm); (case k3 => exact rfl); (case k4 => exact List.Mem.tail _ hm2); (case k5 => exact d2); (case k6 => exact rfl); (case k7 => exact rfl)); intro h2 oc9 F2 N2 d9)
  k_steps
  have lH' := lH
  have hsL := lt_2 hL
  have q : ∀ {c : Addr} {o : Obj}, c ≠ L + 2 → (c, o) ∈ nw → (c, o) ∈ put (L + 2) oc9 ((H, listOf #[] 0) :: nw) := fun hc z => put_ne (.tail _ z) hc
  have off1 : ∀ (i : Nat) (r : Addr × Addr), rs[i]? = some r → r.1 ≠ L + 2 ∧ r.2 ≠ L + 2 := fun i r hr => ⟨Nat.ne_of_gt (Nat.lt_trans hsL (hlo i r hr).1), Nat.ne_of_gt (Nat.lt_trans hsL (hlo i r hr).2.1)⟩
  have hrow2 : row ≠ L + 2 := by
    obtain ⟨_, h1⟩ := R.lst
    exact news_apart (news_sub NH fun p hp => .tail _ hp) h1 hm2 (fun e => by rw [← e] at d2; cases d2)
  refine SPost.intro (by k_asm) (by k_asm) ⟨⟨src, row, left, H, rs⟩, t0, hn2, ⟨hc1.sub fun _ z => q (Nat.ne_of_lt (Nat.lt_succ_self _)) z, ⟨oc9, put_self (.tail _ hm2), d9⟩, hc3.sub fun _ z => q (Nat.ne_of_gt (Nat.lt_succ_self _)) z, SrcIn.celled NH (.tail _ hm2) d2 (hS.sub fun p hp => .tail _ hp), ⟨?_, fun i r hr => q (off1 i r hr).1 (R.inst i r hr), fun i r hr => let ⟨es, k, h1, h2⟩ := R.dict i r hr; ⟨es, k, q (off1 i r hr).2 h1, h2⟩, R.apart, R.few⟩, ⟨lvs, lk, q (Nat.ne_of_gt (Nat.lt_trans hsL hsl)) hl1, hl2⟩, ⟨[], 0, put_ne (.head _) (Nat.ne_of_gt (lH' _ hm2)), .nil⟩, ⟨hL, hlo, hrs, hrl, hsl, lH' _ hl1⟩⟩, rfl, rfl, rfl, trivial⟩
  obtain ⟨k, h1⟩ := R.lst
  exact ⟨k, q hrow2 h1⟩
end Mine
namespace Mine
local macro_rules | `(tactic| walk_at $s:str) => `(tactic| k_extra $s)
local macro_rules | `(tactic| k_mem) => `(tactic| assumption)
/-- behind the draws of the chain -/
def St5 (L : Addr) (m : Str → Option Value) (nw : Led) : Prop := ∃ a n1 lf ch, n1 ≤ 20 ∧ LS L a n1 zeroF lf ch none nw ∧ (lf ++ ch).Perm (List.range a.rs.length) ∧ 2 ≤ ch.length ∧ Knows m [(Str.ofString "source", .ref a.src), (Str.ofString "left", .ref a.left)]
theorem pop_perm {l c : List Nat} {k : Nat} {y : Nat} (h : l[k]? = some y) : (l.eraseIdx k ++ (c ++ [y])).Perm (l ++ c) := by
  obtain ⟨hk, rfl⟩ := List.getElem?_eq_some_iff.mp h
  have e : l = l.take k ++ l[k] :: l.drop (k + 1) := by
    conv => lhs; rw [← List.take_append_drop k l, List.drop_eq_getElem_cons hk]
  rw [List.eraseIdx_eq_take_drop_succ]
  conv => rhs; rw [e]
  rw [← List.append_assoc]
  refine (List.perm_append_comm).trans ?_
  show ((l[k] :: (l.take k ++ l.drop (k + 1) ++ c))).Perm _
  rw [List.append_assoc, List.append_assoc, List.cons_append]
  exact List.perm_middle.symm
set_option maxHeartbeats 1000000 in
theorem st5 {w : World} {mean : ExcName → Option Value} {mg mb : Str → Option Value} {H0 : Heap} {L : Addr} {m : Str → Option Value} {nw : Led} (G : Gr w mean mg mb H0) (hK : St4 L m nw) : LStep w 5 H0 L m nw (St5 L) := by
  intro fa cdv s E hE F N
  obtain ⟨K0, X, T⟩ := G
  revert X; k_fill; intro X
  k_with_none
  dsimp only [lawEnv] at hE ⊢
  obtain ⟨S, hS⟩ : ∃ S, lawScope = S := ⟨_, rfl⟩
  rw [hS] at hE ⊢
  conv at hS => lhs; whnf
  subst hS
  conv => arg 3; arg 1; whnf
  obtain ⟨a, t0, hn2, Ls, hkn⟩ := hK
  replace F := fr_over hkn F
  have few := Ls.row.few
  have o := Ls.ord
  k_with "exec For Name Call cons nil" => ((rename Fr _ _ _ _ => lF'); (with_unfolding_all refine' For_invVF lF' ?k1 ?k2 ?_; (case k1 => exact rfl); (case k2 => exact rfl); k_whole))
  k_with "call ref" => ((rw [show ((a.rs.length : Nat) : Int) - 1 = ((a.rs.length - 1 : Nat) : Int) from by omega]); (k_dflt (refine' spec_use (draw_ok (lim := a.rs.length - 1) Ls.src (by omega) (by omega) (by decide)) ?k1 ?k2 ?k3 ?k4 ?k5 ?kK ?kd ?ku ?_; (case k1 => k_asm); (case k2 => k_asm); (case k3 => k_asm); (case k4 => k_asm); (case k5 => k_asm); (case kK => exact rfl); (case kd => ktr_room); (case ku => ktr_units)); (rintro v nw1 h1 tk1 ⟨r, t1, o', rfl, hr, rfl, hS1⟩ F2 N2); (try dsimp only); (try k_fold)))
  iterate 24 (first | (k_unfold; (try dsimp only)) | walk1)
  (rename IsRange _ _ _ _ _ _ _ _ => hR)
  (rename Fr _ _ _ _ => hF)
  (rename News _ _ _ _ => hN)
  rw [show (2 + (r : Int)) = ((2 + r : Nat) : Int) from by omega] at hR
  have Ls1 := Ls.draw (hS1 _ (fun _ q => q) Ls.src)
  refine range_loop0 (n := 2 + r) (fun i m nw => ∃ lf ch, LS L a (2 + i) zeroF lf ch none nw ∧ (lf ++ ch).Perm (List.range a.rs.length) ∧ ch.length = i ∧ Knows m [(Str.ofString "source", .ref a.src), (Str.ofString "left", .ref a.left)])
    (by rfl) hR (range_small (by omega)) range_size hF hN ⟨_, _, Ls1, by rw [List.append_nil], rfl, ⟨by rfl, by rfl, trivial⟩⟩ ?turn ?done
  case turn =>
    rintro i m₁ nw I it t h tk hi ⟨lf, ch, Ls2, hp, hc, hkn2⟩ F1 N1 off
    replace F1 := fr_turn hkn2 F1
    clear hF hN
    have hlen := hp.length_eq
    rw [List.length_append, List.length_range] at hlen
    obtain ⟨oc2, hm2, d2⟩ := Ls2.c2
    obtain ⟨lvs, lk, hl1, hl2⟩ := Ls2.left
    obtain ⟨cvs, ck, hc1, hc2⟩ := Ls2.chain
    obtain ⟨_, _, _, _, _, _, _, hsrc, _⟩ := id Ls2.src.ex
    have hIs : I ≠ a.src := fun e => off _ hsrc e.symm
    have hIl : I ≠ a.left := fun e => off _ hl1 e.symm
    have hIc : I ≠ a.chain := fun e => off _ hc1 e.symm
    have hls : lvs.length = lf.length := by rw [hl2.length, List.length_map]
    have hcs : cvs.length = ch.length := by rw [hc2.length, List.length_map]
    have hl1' : ∀ o', (a.left, listOf lvs.toArray lk) ∈ put a.src o' nw := fun o' => put_ne hl1 (Nat.ne_of_gt o.l)
    have hc1' : ∀ o', (a.chain, listOf cvs.toArray ck) ∈ put a.src o' nw := fun o' => put_ne hc1 (Nat.ne_of_gt (Nat.lt_trans o.l o.c))
    k_with_none
    k_with "call builtin:len" => (k_dflt (refine' len_put ?k1 ?k2 ?k3 ?_; (case k1 => k_asm); (case k2 => exact .tail _ hl1); (case k3 => (rw [List.size_toArray]; omega))); (rw [show ((lvs.toArray.size : Nat) : Int) = ((lf.length : Nat) : Int) from by rw [List.size_toArray, hls]]))
    k_with "call ref" => ((k_dflt (refine' spec_use (draw_ok (news := (I, it) :: nw) (lim := lf.length) (Ls2.src.sub fun _ q => .tail _ q) (by omega) (by omega) (by omega)) ?k1 ?k2 ?k3 ?k4 ?k5 ?kK ?kd ?ku ?_; (case k1 => k_asm); (case k2 => k_asm); (case k3 => k_asm); (case k4 => k_asm); (case k5 => k_asm); (case kK => exact rfl); (case kd => ktr_room); (case ku => ktr_units)); (rintro v nw1 h1 tk1 ⟨x, t1, ox, rfl, hx, rfl, hS2⟩ F2 N2); (rw [put_cons hIs] at N2); (obtain ⟨c, t2, hcx, hy⟩ := nat_at hl2 hx); (try dsimp only); (try k_fold)))
    k_with "call builtin:list.pop" => (k_dflt (refine' pop_put ?k1 ?k2 ?k3 ?k4 ?k5 ?_; (case k1 => k_asm); (case k2 => k_asm); (case k3 => exact .tail _ (hl1' _)); (case k4 => exact hy); (case k5 => omega)); intro h5 F5 N5; (rw [put_cons hIl] at N5); (try dsimp only); (try k_fold))
    k_with "call builtin:list.append" => (k_dflt (refine' append_put ?k1 ?k2 ?k3 ?_ ?k5; (case k1 => k_asm); (case k2 => k_asm); (case k3 => exact .tail _ (put_ne (hc1' _) (Nat.ne_of_gt o.c))); (case k5 => (rw [PySem.sizeLine_eq]; simp; omega))); intro h6 F6 N6; (rw [put_cons hIc] at N6); (try dsimp only); (try k_fold))
    k_steps
    have hxl := hx
    have hx2 : lf.length = (lf.eraseIdx x).length + 1 := by rw [List.length_eraseIdx_of_lt hx]; omega
    have Ls3 := ((Ls2.draw (hS2 nw (fun _ q => .tail _ q) Ls2.src)).setLeft (k := lk + 1) (ints_cut hl2 x)).setChain (k := ck + 1) (natInts_snoc hc2 c t2)
    refine UnrEnd_of (by k_asm) (by k_asm) (fun _ q => q) (put_off (put_off (put_off off))) ⟨lf.eraseIdx x, ch ++ [c], ?_, (pop_perm hcx).trans hp, by rw [List.length_append, hc]; rfl, ⟨rfl, rfl, trivial⟩⟩
    rw [show 2 + (i + 1) = 2 + i + 1 from rfl]; simpa using Ls3
  case done =>
    rintro m₁ nw h tk ⟨lf, ch, Ls2, hp, hc, hkn2⟩ F1 N1
    exact SPost.intro F1 N1 ⟨a, _, lf, ch, by omega, Ls2, hp, by omega, hkn2⟩
end Mine
namespace Mine
local macro_rules | `(tactic| walk_at $s:str) => `(tactic| k_extra $s)
local macro_rules | `(tactic| k_mem) => `(tactic| assumption)
/-- the chain's first k links are laid -/
structure Linked (fs : Nat → Inf) (ch : List Nat) (k : Nat) : Prop where
  link : ∀ i, i < k → ∀ c d, ch[i]? = some c → ch[i + 1]? = some d → (fs c).parent = (d : Int) - c ∧ (fs c).bond = CUR
  rest : ∀ x, (∀ i, i < k → ch[i]? ≠ some x) → fs x = ⟨0, Str.ofString "", 0⟩
theorem Linked.step {fs fs' : Nat → Inf} {ch : List Nat} {k c d : Nat} {y : Int} (h : Linked fs ch k) (hn : ch.Nodup) (hc : ch[k]? = some c) (hd : ch[k + 1]? = some d) (e1 : fs' c = ⟨(d : Int) - c, CUR, y⟩) (e2 : ∀ x, x ≠ c → fs' x = fs x) : Linked fs' ch (k + 1) := by
  refine ⟨fun i hi c1 d1 h1 h2 => ?_, fun x hx => ?_⟩
  · rcases Nat.lt_or_eq_of_le (Nat.le_of_lt_succ hi) with hi | rfl
    · have hne : c1 ≠ c := fun e => by
        subst e
        have := (List.getElem?_inj (List.getElem?_eq_some_iff.mp h1).1 hn).mp (h1.trans hc.symm)
        omega
      rw [e2 c1 hne]
      exact h.link i hi c1 d1 h1 h2
    · rw [hc] at h1; cases h1
      rw [hd] at h2; cases h2
      rw [e1]; exact ⟨rfl, rfl⟩
  · rw [e2 x (fun e => hx k (Nat.lt_succ_self _) (by rw [hc, e]))]
    exact h.rest x fun i hi => hx i (Nat.lt_succ_of_lt hi)
def St6 (L : Addr) (m : Str → Option Value) (nw : Led) : Prop := ∃ a n1 fs lf ch, n1 ≤ 30 ∧ LS L a n1 fs lf ch none nw ∧ (lf ++ ch).Perm (List.range a.rs.length) ∧ 2 ≤ ch.length ∧ Linked fs ch (ch.length - 1) ∧ Knows m [(Str.ofString "source", .ref a.src), (Str.ofString "left", .ref a.left)]
set_option maxHeartbeats 1000000 in
theorem st6 {w : World} {mean : ExcName → Option Value} {mg mb : Str → Option Value} {H0 : Heap} {L : Addr} {m : Str → Option Value} {nw : Led} (G : Gr w mean mg mb H0) (hK : St5 L m nw) : LStep w 6 H0 L m nw (St6 L) := by
  intro fa cdv s E hE F N
  obtain ⟨K0, X, T⟩ := G
  revert X; k_fill; intro X
  k_with_none
  dsimp only [lawEnv] at hE ⊢
  obtain ⟨S, hS⟩ : ∃ S, lawScope = S := ⟨_, rfl⟩
  rw [hS] at hE ⊢
  conv at hS => lhs; whnf
  subst hS
  conv => arg 3; arg 1; whnf
  obtain ⟨a, n1, lf, ch, hn1, Ls, hp, h2, hkn⟩ := hK
  replace F := fr_over hkn F
  have few := Ls.row.few
  have o := Ls.ord
  have hlen := hp.length_eq
  rw [List.length_append, List.length_range] at hlen
  have hnd : ch.Nodup := (List.nodup_append.mp (hp.nodup_iff.mpr List.nodup_range)).2.1
  have hin : ∀ c ∈ ch, c < a.rs.length := fun c hc => List.mem_range.mp (hp.mem_iff.mp (List.mem_append_right _ hc))
  obtain ⟨oc1, oc2, lvs, cvs, lk, ck, fx, d1, d2, hl2, hc2⟩ := Ls.fix
  have hcs : cvs.length = ch.length := by rw [hc2.length, List.length_map]
  have fm1 := fx.m1
  have fm2 := fx.m2
  k_with "exec For Name Call cons nil" => ((rename Fr _ _ _ _ => lF'); (with_unfolding_all refine' For_invVF lF' ?k1 ?k2 ?_; (case k1 => exact rfl); (case k2 => exact rfl); k_whole))
  k_with "call builtin:len" => (k_dflt (refine' len_put ?k1 ?k2 ?k3 ?_; (case k1 => k_asm); (case k2 => exact fx.c); (case k3 => (rw [List.size_toArray]; omega))); (rw [show ((cvs.toArray.size : Nat) : Int) = ((ch.length : Nat) : Int) from by rw [List.size_toArray, hcs]]))
  k_with "pyIter ref" => (refine stop_here ?_)
  k_steps
  refine Stop.go ?_
  rename IntsAre cvs _ => hc2
  (rename IsRange _ _ _ _ _ _ _ _ => hR)
  (rename Fr _ _ _ _ => hF)
  (rename News _ _ _ _ => hN)
  rw [show ((ch.length : Nat) : Int) - 1 = ((ch.length - 1 : Nat) : Int) from by omega] at hR
  refine range_loop0 (n := ch.length - 1) (fun i m nw => ∃ fs, LS L a (n1 + i) fs lf ch none nw ∧ LFix L a oc1 oc2 lvs cvs lk ck nw ∧ Linked fs ch i ∧ Knows m [(Str.ofString "source", .ref a.src), (Str.ofString "left", .ref a.left)])
    (by rfl) hR (range_small (by omega)) range_size hF hN ⟨zeroF, Ls, fx, ⟨(fun i h => absurd h (Nat.not_lt_zero i)), fun _ _ => rfl⟩, ⟨by rfl, by rfl, trivial⟩⟩ ?turn ?done
  case turn =>
    rintro i m₁ nw I it t h tk hi ⟨fs, Ls2, fx2, hk, hkn2⟩ F1 N1 off
    replace F1 := fr_turn hkn2 F1
    clear hF hN fm1 fm2 fx Ls
    obtain ⟨_, _, _, _, _, _, _, hsrc, _⟩ := id Ls2.src.ex
    have hIs : I ≠ a.src := fun e => off _ hsrc e.symm
    obtain ⟨c, tc, hcx, hcy⟩ := nat_at hc2 (x := i) (by omega)
    obtain ⟨d, td, hdx, hdy⟩ := nat_at hc2 (x := i + 1) (by omega)
    have hcm := hin c (List.mem_of_getElem? hcx)
    obtain ⟨r, hr⟩ := has_row hcm
    have hIr : I ≠ r.2 := fun e => (let ⟨_, _, h1, _⟩ := Ls2.row.dict c r hr; off _ h1 e.symm)
    have hci : cvs.toArray[((i : Nat) : Int).toNat]? = some (.int (c : Nat) tc) := by rw [Int.toNat_natCast]; simpa using hcy
    have hdi : cvs.toArray[(((i : Nat) : Int) + 1).toNat]? = some (.int (d : Nat) td) := by rw [show (((i : Nat) : Int) + 1).toNat = i + 1 by omega]; simpa using hdy
    have fm1 := fx2.m1
    have fm2 := fx2.m2
    k_with_none
    k_with "subscriptTail" => (k_here; (with_reducible show wpAny _ _ (subscriptTail _ _ (Value.ref _) (Value.int _ _)) _ _ _); first
      | (refine row_at (by k_asm) (fun _ q => .tail _ q) Ls2.row hr ?_ (by with_unfolding_all rfl))
      | (k_dflt (refine' item_put ?k1 ?k2 ?k3 ?k4 ?k5 ?_ ?k6; (case k1 => k_asm); (case k2 => exact .tail _ fx2.c); (case k3 => omega); (case k4 => omega); (case k5 => assumption); (case k6 => with_unfolding_all rfl))))
    k_with "setAttr ref" => ((first
      | ((with_reducible show wpAny _ _ (setAttr _ (Str.ofString "parent") _) _ _ _); refine set_parent (by k_asm) (by k_asm) (by k_asm) (fun _ q => .tail _ q) Ls2.row hr ?_)
      | ((with_reducible show wpAny _ _ (setAttr _ (Str.ofString "bond") _) _ _ _); refine set_bond (by k_asm) (by k_asm) (by k_asm) (fun _ q => .tail _ q) Ls2.row hr ?_)
      | ((with_reducible show wpAny _ _ (setAttr _ (Str.ofString "y_offset") _) _ _ _); refine set_yoff (by k_asm) (by k_asm) (by k_asm) (fun _ q => .tail _ q) Ls2.row hr ?_)); (intro es1 en1 h1 F1 N1 R1); (rw [put_cons hIr] at N1); (have Ls2 := Ls2.store hr R1); (have fx2 := fx2.store (o' := dictOf es1 en1) o hr); (have fm1 := fx2.m1); (have fm2 := fx2.m2))
    k_with "call ref" => (refine stop_here ?_)
    k_steps
    refine Stop.go ?_
    (k_dflt (refine' spec_use (draw_ok (news := (I, it) :: _) (lim := 41) (Ls2.src.sub fun _ q => .tail _ q) (by decide) (by decide) (by omega)) ?k1 ?k2 ?k3 ?k4 ?k5 ?kK ?kd ?ku ?_; (case k1 => k_asm); (case k2 => k_asm); (case k3 => k_asm); (case k4 => k_asm); (case k5 => k_asm); (case kK => exact rfl); (case kd => ktr_room); (case ku => ktr_units)))
    (rintro v nw1 h1 tk1 ⟨x, t1, ox, rfl, hx, rfl, hS2⟩ F2 N2)
    (rw [put_cons hIs] at N2)
    (have Ls2 := Ls2.draw (hS2 _ (fun _ q => .tail _ q) Ls2.src))
    (have fx2 := fx2.draw (o' := ox) o); (have fm1 := fx2.m1); (have fm2 := fx2.m2)
    try dsimp only
    try k_fold
    k_steps
    exact UnrEnd_of (by k_asm) (by k_asm) (fun _ q => q) (put_off (put_off (put_off (put_off off)))) ⟨_, Ls2, fx2, hk.step (y := (x : Int) - 20) hnd hcx hdx (by simp [at1]) (fun z hz => by simp [at1, hz]), ⟨rfl, rfl, trivial⟩⟩
  case done =>
    rintro m₁ nw h tk ⟨fs, Ls2, fx2, hk, hkn2⟩ F1 N1
    exact SPost.intro F1 N1 ⟨a, _, fs, lf, ch, by omega, Ls2, hp, h2, hk, hkn2⟩
end Mine
namespace Mine
local macro_rules | `(tactic| walk_at $s:str) => `(tactic| k_extra $s)
local macro_rules | `(tactic| k_mem) => `(tactic| assumption)
/-- what the law has built -/
structure Built (fs : Nat → Inf) (lf ch : List Nat) : Prop where
  link : ∀ i c d : Nat, ch[i]? = some c → ch[i + 1]? = some d → (fs c).parent = (d : Int) - c ∧ (fs c).bond = CUR
  last : ∀ c : Nat, ch[ch.length - 1]? = some c → fs c = ⟨0, Str.ofString "", 0⟩
  side : ∀ x ∈ lf, fs x = ⟨0, Str.ofString "", 0⟩ ∨ ∃ c ∈ ch, (fs x).parent = (c : Int) - x ∧ ((fs x).bond = CUR ∨ (fs x).bond = Str.ofString "mark")
theorem Built.of {fs : Nat → Inf} {lf ch : List Nat} (h : Linked fs ch (ch.length - 1)) (hn : (lf ++ ch).Nodup) (h2 : 2 ≤ ch.length) : Built fs lf ch := by
  have hnd := (List.nodup_append.mp hn).2.1
  refine ⟨fun i c d h1 h2 => h.link i ?_ c d h1 h2, fun c hc => h.rest c fun i hi e => ?_, fun x hx => .inl (h.rest x fun i hi e => ?_)⟩
  · have := (List.getElem?_eq_some_iff.mp h2).1; omega
  · have := (List.getElem?_inj (List.getElem?_eq_some_iff.mp e).1 hnd).mp (e.trans hc.symm); omega
  · exact (List.nodup_append.mp hn).2.2 x hx x (List.mem_of_getElem? e) rfl
theorem Built.step {fs fs' : Nat → Inf} {lf ch : List Nat} {x c : Nat} {b : Str} {y : Int} (h : Built fs lf ch) (hn : (lf ++ ch).Nodup) (hx : x ∈ lf) (hc : c ∈ ch) (hb : b = CUR ∨ b = Str.ofString "mark") (e1 : fs' x = ⟨(c : Int) - x, b, y⟩) (e2 : ∀ z, z ≠ x → fs' z = fs z) : Built fs' lf ch := by
  have off : ∀ z ∈ ch, z ≠ x := fun z hz e => (List.nodup_append.mp hn).2.2 x hx z hz e.symm
  refine ⟨fun i c d h1 h2 => ?_, fun c hc => ?_, fun z hz => ?_⟩
  · rw [e2 c (off c (List.mem_of_getElem? h1))]; exact h.link i c d h1 h2
  · rw [e2 c (off c (List.mem_of_getElem? hc))]; exact h.last c hc
  · by_cases e : z = x
    · subst e; rw [e1]; exact .inr ⟨c, hc, rfl, hb⟩
    · rw [e2 z e]; exact h.side z hz
def St7 (L : Addr) (m : Str → Option Value) (nw : Led) : Prop := ∃ a n1 fs lf ch, n1 ≤ 70 ∧ LS L a n1 fs lf ch none nw ∧ (lf ++ ch).Perm (List.range a.rs.length) ∧ 2 ≤ ch.length ∧ Built fs lf ch ∧ Knows m [(Str.ofString "source", .ref a.src), (Str.ofString "left", .ref a.left)]
set_option maxHeartbeats 1000000 in
theorem st7 {w : World} {mean : ExcName → Option Value} {mg mb : Str → Option Value} {H0 : Heap} {L : Addr} {m : Str → Option Value} {nw : Led} (G : Gr w mean mg mb H0) (hK : St6 L m nw) : LStep w 7 H0 L m nw (St7 L) := by
  intro fa cdv s E hE F N
  obtain ⟨K0, X, T⟩ := G
  revert X; k_fill; intro X
  k_with_none
  dsimp only [lawEnv] at hE ⊢
  obtain ⟨S, hS⟩ : ∃ S, lawScope = S := ⟨_, rfl⟩
  rw [hS] at hE ⊢
  conv at hS => lhs; whnf
  subst hS
  conv => arg 3; arg 1; whnf
  obtain ⟨a, n1, fs0, lf, ch, hn1, Ls, hp, h2, hk, hkn⟩ := hK
  replace F := fr_over hkn F
  have few := Ls.row.few
  have o := Ls.ord
  have hlen := hp.length_eq
  rw [List.length_append, List.length_range] at hlen
  have hnd : (lf ++ ch).Nodup := hp.nodup_iff.mpr List.nodup_range
  have hin : ∀ c ∈ lf ++ ch, c < a.rs.length := fun c hc => List.mem_range.mp (hp.mem_iff.mp hc)
  obtain ⟨oc1, oc2, lvs, cvs, lk, ck, fx, d1, d2, hl2, hc2⟩ := Ls.fix
  have hcs : cvs.length = ch.length := by rw [hc2.length, List.length_map]
  have hls : lvs.length = lf.length := by rw [hl2.length, List.length_map]
  have fm1 := fx.m1
  have fm2 := fx.m2
  k_with "exec For Name Name cons nil" => ((rename Fr _ _ _ _ => lF'); (k_dflt (refine For_turns lF' ?_)))
  k_with "pyIter ref" => (refine stop_here ?_)
  k_steps
  refine Stop.go ?_
  (rename Fr _ _ _ _ => hF)
  (rename News _ _ _ _ => hN)
  refine list_loop (vs := lvs) (n := lk) (fun i m nw => ∃ fs, LS L a (n1 + 4 * i) fs lf ch none nw ∧ LFix L a oc1 oc2 lvs cvs lk ck nw ∧ Built fs lf ch ∧ Knows m [(Str.ofString "source", .ref a.src), (Str.ofString "left", .ref a.left)])
    (by rfl) hF hN fx.l ⟨fs0, Ls, fx, Built.of hk hnd h2, ⟨by rfl, by rfl, trivial⟩⟩ ?turn ?done
  case turn =>
    rintro i v m₁ nw I it h tk hv ⟨fs, Ls2, fx2, hk, hkn2⟩ hax F1 N1 off
    replace F1 := fr_over hkn2 F1
    clear hF hN fm1 fm2 fx Ls
    obtain ⟨hi9, _⟩ := List.getElem?_eq_some_iff.mp hv
    obtain ⟨_, _, _, _, _, _, _, hsrc, _⟩ := id Ls2.src.ex
    have hIs : I ≠ a.src := fun e => off _ hsrc e.symm
    obtain ⟨x, tx, hxx, hxy⟩ := nat_at hl2 (x := i) (by omega)
    obtain rfl := Option.some.inj (hv.symm.trans hxy)
    have hxm := List.mem_of_getElem? hxx
    obtain ⟨r, hr⟩ := has_row (hin x (List.mem_append_left _ hxm))
    have hIr : I ≠ r.2 := fun e => (let ⟨_, _, h1, _⟩ := Ls2.row.dict x r hr; off _ h1 e.symm)
    have fm1 := fx2.m1
    have fm2 := fx2.m2
    k_with_none
    k_with "call builtin:len" => (k_dflt (refine' len_put ?k1 ?k2 ?k3 ?_; (case k1 => k_asm); (case k2 => exact .tail _ fx2.c); (case k3 => (rw [List.size_toArray]; omega))); (rw [show ((cvs.toArray.size : Nat) : Int) = ((ch.length : Nat) : Int) from by rw [List.size_toArray, hcs]]))
    k_with "subscriptTail" => (k_here; (with_reducible show wpAny _ _ (subscriptTail _ _ (Value.ref _) (Value.int _ _)) _ _ _); first
      | (refine row_at (by k_asm) (fun _ q => .tail _ q) Ls2.row hr ?_ (by with_unfolding_all rfl))
      | (k_dflt (refine' item_put ?k1 ?k2 ?k3 ?k4 ?k5 ?_ ?k6; (case k1 => k_asm); (case k2 => exact .tail _ fx2.c); (case k3 => omega); (case k4 => omega); (case k5 => assumption); (case k6 => with_unfolding_all rfl))))
    k_with "setAttr ref" => ((first
      | ((with_reducible show wpAny _ _ (setAttr _ (Str.ofString "parent") _) _ _ _); refine set_parent (by k_asm) (by k_asm) (by k_asm) (fun _ q => .tail _ q) Ls2.row hr ?_)
      | ((with_reducible show wpAny _ _ (setAttr _ (Str.ofString "bond") _) _ _ _); refine set_bond (by k_asm) (by k_asm) (by k_asm) (fun _ q => .tail _ q) Ls2.row hr ?_)
      | ((with_reducible show wpAny _ _ (setAttr _ (Str.ofString "y_offset") _) _ _ _); refine set_yoff (by k_asm) (by k_asm) (by k_asm) (fun _ q => .tail _ q) Ls2.row hr ?_)); (intro es1 en1 h1 F1 N1 R1); (rw [put_cons hIr] at N1); (have Ls2 := Ls2.store hr R1); (have fx2 := fx2.store (o' := dictOf es1 en1) o hr); (have fm1 := fx2.m1); (have fm2 := fx2.m2))
    k_with "call ref" => (refine stop_here ?_)
    k_steps
    refine Stop.go ?_
    (k_dflt (refine' spec_use (draw_ok (news := (I, it) :: _) (lim := 2) (Ls2.src.sub fun _ q => .tail _ q) (by omega) (by omega) (by omega)) ?k1 ?k2 ?k3 ?k4 ?k5 ?kK ?kd ?ku ?_; (case k1 => k_asm); (case k2 => k_asm); (case k3 => k_asm); (case k4 => k_asm); (case k5 => k_asm); (case kK => exact rfl); (case kd => ktr_room); (case ku => ktr_units)))
    (rintro v nw1 h1 tk1 ⟨x1, t1, ox, rfl, hx1, rfl, hS2⟩ F2 N2)
    (rw [put_cons hIs] at N2)
    (have Ls2 := Ls2.draw (hS2 _ (fun _ q => .tail _ q) Ls2.src))
    (have fx2 := fx2.draw (o' := ox) o); (have fm1 := fx2.m1); (have fm2 := fx2.m2)
    try dsimp only
    try k_fold
    k_steps
    · have hch : 0 < ch.length := by omega
      refine Stop.go ?_
      (k_dflt (refine' spec_use (draw_ok (news := (I, it) :: _) (lim := ch.length) (Ls2.src.sub fun _ q => .tail _ q) (by omega) (by omega) (by omega)) ?k1 ?k2 ?k3 ?k4 ?k5 ?kK ?kd ?ku ?_; (case k1 => k_asm); (case k2 => k_asm); (case k3 => k_asm); (case k4 => k_asm); (case k5 => k_asm); (case kK => exact rfl); (case kd => ktr_room); (case ku => ktr_units)))
      (rintro v nw1 h1 tk1 ⟨x2, t1, ox, rfl, hx2, rfl, hS2⟩ F2 N2)
      (rw [put_cons hIs] at N2)
      (have Ls2 := Ls2.draw (hS2 _ (fun _ q => .tail _ q) Ls2.src))
      (have fx2 := fx2.draw (o' := ox) o); (have fm1 := fx2.m1); (have fm2 := fx2.m2)
      try dsimp only
      try k_fold
      obtain ⟨c, tc, hcx, hcy⟩ := nat_at hc2 hx2
      have hci : cvs.toArray[((x2 : Nat) : Int).toNat]? = some (.int (c : Nat) tc) := by rw [Int.toNat_natCast]; simpa using hcy
      k_steps
      refine Stop.go ?_
      rename News _ _ _ ((_, _) :: (I, it) :: _) => NT
      rename I < _ ∧ AllLt _ _ => lT
      obtain ⟨_, _, _, _, _, _, _, hsrc3, _⟩ := id Ls2.src.ex
      have hTs := Nat.ne_of_gt (allLt_mem lT.2 _ hsrc3)
      k_dflt (refine' spec_use (draw_ok (news := _ :: (I, it) :: _) (lim := 2) (Ls2.src.sub fun _ q => .tail _ (.tail _ q)) (by omega) (by omega) (by omega)) ?k1 ?k2 ?k3 ?k4 ?k5 ?kK ?kd ?ku ?_; (case k1 => k_asm); (case k2 => k_asm); (case k3 => k_asm); (case k4 => k_asm); (case k5 => k_asm); (case kK => exact rfl); (case kd => ktr_room); (case ku => ktr_units))
      rintro v nw1 h1 tk1 ⟨x3, t1, ox, rfl, hx3, rfl, hS2⟩ F2 N2
      rw [put_cons hTs, put_cons hIs] at N2
      have Ls2 := Ls2.draw (hS2 _ (fun _ q => .tail _ (.tail _ q)) Ls2.src)
      have fx2 := fx2.draw (o' := ox) o
      have fm1 := fx2.m1
      have fm2 := fx2.m2
      try dsimp only
      try k_fold
      refine two_at N2 (.head _) hx3 (fun b tb hb => ?_) (by with_unfolding_all rfl)
      replace N2 := news_sub N2 (fun _ q => List.Mem.tail _ q)
      k_steps
      refine Stop.go ?_
      (k_dflt (refine' spec_use (draw_ok (news := (I, it) :: _) (lim := 9) (Ls2.src.sub fun _ q => .tail _ q) (by omega) (by omega) (by omega)) ?k1 ?k2 ?k3 ?k4 ?k5 ?kK ?kd ?ku ?_; (case k1 => k_asm); (case k2 => k_asm); (case k3 => k_asm); (case k4 => k_asm); (case k5 => k_asm); (case kK => exact rfl); (case kd => ktr_room); (case ku => ktr_units)))
      (rintro v nw1 h1 tk1 ⟨x4, t1, ox, rfl, hx4, rfl, hS2⟩ F2 N2)
      (rw [put_cons hIs] at N2)
      (have Ls2 := Ls2.draw (hS2 _ (fun _ q => .tail _ q) Ls2.src))
      (have fx2 := fx2.draw (o' := ox) o); (have fm1 := fx2.m1); (have fm2 := fx2.m2)
      try dsimp only
      try k_fold
      k_steps
      refine UnrEnd_of (by k_asm) (by k_asm) (fun _ q => q) (put_off (put_off (put_off (put_off (put_off (put_off (put_off off))))))) ⟨fx2.l, _, Ls2, fx2, hk.step (y := (x4 : Int)) hnd hxm (List.mem_of_getElem? hcx) hb (by simp [at1]) (fun z hz => by simp [at1, hz]), ⟨rfl, rfl, trivial⟩⟩
    · exact UnrEnd_of (by k_asm) (by k_asm) (fun _ q => q) (put_off off) ⟨fx2.l, _, Ls2.le (by omega), fx2, hk, ⟨rfl, rfl, trivial⟩⟩
  case done =>
    rintro m₁ nw h tk ⟨fs, Ls2, fx2, hk, hkn2⟩ F1 N1
    exact SPost.intro F1 N1 ⟨a, _, fs, lf, ch, by omega, Ls2, hp, h2, hk, hkn2⟩
end Mine
namespace Mine
local macro_rules | `(tactic| walk_at $s:str) => `(tactic| k_extra $s)
local macro_rules | `(tactic| k_mem) => `(tactic| assumption)
theorem Built.fit {fs : Nat → Inf} {lf ch : List Nat} {n : Nat} (h : Built fs lf ch) (hp : (lf ++ ch).Perm (List.range n)) (h2 : 2 ≤ ch.length) : Fit fs n := by
  intro k hk hh
  have hin : ∀ c ∈ lf ++ ch, c < n := fun c hc => List.mem_range.mp (hp.mem_iff.mp hc)
  rcases List.mem_append.mp (hp.mem_iff.mpr (List.mem_range.mpr hk)) with hm | hm
  · rcases h.side k hm with e | ⟨c, hc, e, _⟩
    · exact absurd (by rw [e]) hh.1
    · exact ⟨c, hin c (List.mem_append_right _ hc), by rw [e]; omega⟩
  · obtain ⟨i, hi⟩ := List.mem_iff_getElem?.mp hm
    have hil := (List.getElem?_eq_some_iff.mp hi).1
    by_cases e : i + 1 < ch.length
    · have hd : ch[i + 1]? = some ch[i + 1] := List.getElem?_eq_getElem e
      exact ⟨ch[i + 1], hin _ (List.mem_append_right _ (List.getElem_mem e)), by rw [(h.link i k _ hi hd).1]; omega⟩
    · have e2 : i = ch.length - 1 := by omega
      rw [h.last k (by rw [← e2]; exact hi)] at hh
      exact absurd rfl hh.1
/-- ints in a list -/
def IntsIn (nw : Led) (D : Addr) (zs : List Int) : Prop := ∃ vs k, (D, listOf vs.toArray k) ∈ nw ∧ IntsAre vs zs
def IsSeq (o : Obj) : Prop := ∃ its n, o.data = .seq its n
theorem ToldIn.keep {nw nw' : Led} {D : Addr} {xs : List Inf} (h : ToldIn nw D xs) (hs : ∀ a o, (a, o) ∈ nw → IsSeq o → (a, o) ∈ nw') : ToldIn nw' D xs := by
  obtain ⟨as, k, h1, h2, h3⟩ := h.ex
  refine ⟨as, k, hs _ _ h1 ⟨_, _, rfl⟩, h2, fun i a x ha hx => ?_⟩
  obtain ⟨t1, t2, t3, n, h4⟩ := h3 i a x ha hx
  exact ⟨t1, t2, t3, n, hs _ _ h4 ⟨_, _, rfl⟩⟩
theorem ToldIn.sub {nw nw' : Led} {D : Addr} {xs : List Inf} (h : ToldIn nw D xs) (hs : ∀ p ∈ nw, p ∈ nw') : ToldIn nw' D xs := h.keep fun _ _ q _ => hs _ q
theorem IntsIn.sub {nw nw' : Led} {D : Addr} {zs : List Int} (h : IntsIn nw D zs) (hs : ∀ p ∈ nw, p ∈ nw') : IntsIn nw' D zs := let ⟨vs, k, h1, h2⟩ := h; ⟨vs, k, hs _ h1, h2⟩
theorem celled {h₀ h : Heap} {L : Addr} {nw : Led} {c b : Addr} {oc o o' : Obj} {v : Option Value} (N : News h₀ L h nw) (hm : (c, oc) ∈ nw) (d : oc.data = .cell v) (hb : (b, o) ∈ nw) (ho : IsSeq o) : (b, o) ∈ put c o' nw :=
  put_ne hb (news_apart N hb hm fun e => by obtain ⟨_, _, q⟩ := ho; rw [e, d] at q; cases q)
theorem src_apart {h₀ h : Heap} {L : Addr} {nw : Led} {src D : Addr} {n k : Nat} {vs : List Value} (N : News h₀ L h nw) (S : SrcIn nw src n) (hm : (D, listOf vs.toArray k) ∈ nw) (hv : (∀ v ∈ vs, ∃ a, v = .ref a) ∨ ∀ v ∈ vs, ∃ i t, v = .int i t) : D ≠ src := by
  obtain ⟨cells, vs1, ns, k1, k1', a, t, h1, _⟩ := S.ex
  refine news_apart N hm h1 fun e => ?_
  have e1 := congrArg Obj.data e
  simp only [Data.seq.injEq] at e1
  have e2 : vs = [.ref cells, .int (a : Nat) t] := congrArg Array.toList e1.1
  subst e2
  rcases hv with hv | hv
  · obtain ⟨b, q⟩ := hv _ (.tail _ (.head _)); cases q
  · obtain ⟨b, u, q⟩ := hv _ (.head _); cases q
theorem ToldIn.drawn {h₀ h : Heap} {L : Addr} {nw : Led} {src D : Addr} {n : Nat} {xs : List Inf} {o' : Obj} (T : ToldIn nw D xs) (N : News h₀ L h nw) (S : SrcIn nw src n) : ToldIn (put src o' nw) D xs := by
  obtain ⟨as, k, h1, h2, h3⟩ := T.ex
  refine ⟨as, k, put_ne h1 (src_apart N S h1 (.inl fun v hv => let ⟨a, _, e⟩ := List.mem_map.mp hv; ⟨a, e.symm⟩)), h2, fun i a x ha hx => ?_⟩
  obtain ⟨t1, t2, t3, n, h4⟩ := h3 i a x ha hx
  obtain ⟨_, _, _, _, _, _, _, g1, _⟩ := S.ex
  exact ⟨t1, t2, t3, n, put_ne h4 (news_apart N h4 g1 fun e => cls_list_tuple (congrArg Obj.cls e).symm)⟩
theorem ints_all : ∀ {vs : List Value} {zs : List Int}, IntsAre vs zs → ∀ v ∈ vs, ∃ i t, v = .int i t
  | _, _, .nil, _, h => nomatch h
  | _, _, .cons i t r, v, h => by
    rcases List.mem_cons.mp h with rfl | h
    · exact ⟨i, t, rfl⟩
    · exact ints_all r v h
theorem IntsIn.drawn {h₀ h : Heap} {L : Addr} {nw : Led} {src D : Addr} {n : Nat} {zs : List Int} {o' : Obj} (T : IntsIn nw D zs) (N : News h₀ L h nw) (S : SrcIn nw src n) : IntsIn (put src o' nw) D zs :=
  let ⟨vs, k, h1, h2⟩ := T; ⟨vs, k, put_ne h1 (src_apart N S h1 (.inr (ints_all h2))), h2⟩
theorem kept_seq {h₀ h : Heap} {L : Addr} {nw nw' : Led} {l : Addr} {rs : List (Addr × Addr)} {fs : Nat → Inf} (N : News h₀ L h nw) (R : RowIn nw l rs fs) (hk : Kept rs nw nw') {a : Addr} {o : Obj} (hm : (a, o) ∈ nw) (ho : IsSeq o) : (a, o) ∈ nw' := by
  refine hk _ hm fun r hr e => ?_
  obtain ⟨i, hi⟩ := List.mem_iff_getElem?.mp hr
  obtain ⟨es, n, hd, _⟩ := R.dict i r hi
  have e' : a = r.2 := e
  subst e'
  obtain ⟨_, _, q⟩ := ho
  rw [news_two N hm hd] at q; cases q
theorem ToldIn.kept {h₀ h : Heap} {L : Addr} {nw nw' : Led} {l : Addr} {rs : List (Addr × Addr)} {fs : Nat → Inf} {D : Addr} {xs : List Inf} (T : ToldIn nw D xs) (N : News h₀ L h nw) (R : RowIn nw l rs fs) (hk : Kept rs nw nw') : ToldIn nw' D xs := T.keep fun _ _ q s => kept_seq N R hk q s
theorem IntsIn.kept {h₀ h : Heap} {L : Addr} {nw nw' : Led} {l : Addr} {rs : List (Addr × Addr)} {fs : Nat → Inf} {D : Addr} {zs : List Int} (T : IntsIn nw D zs) (N : News h₀ L h nw) (R : RowIn nw l rs fs) (hk : Kept rs nw nw') : IntsIn nw' D zs := let ⟨vs, k, h1, h2⟩ := T; ⟨vs, k, kept_seq N R hk h1 ⟨_, _, rfl⟩, h2⟩
theorem LS.cell3 {h₀ h : Heap} {L : Addr} {a : LAdr} {n : Nat} {fs : Nat → Inf} {lf ch : List Nat} {nw : Led} {oc o' : Obj} {v3 v : Option Value} (Ls : LS L a n fs lf ch v3 nw) (N : News h₀ L h nw) (hm : (L + 3, oc) ∈ nw) (d : oc.data = .cell v3) (d' : o'.data = .cell v) : LS L a n fs lf ch v (put (L + 3) o' nw) := by
  have o := Ls.ord
  refine ⟨Ls.c1.sub fun _ q => put_ne q (Nat.ne_of_lt (Nat.lt_succ_of_lt (Nat.lt_succ_self _))), Ls.c2.sub fun _ q => put_ne q (Nat.ne_of_lt (Nat.lt_succ_self _)), ⟨o', put_self hm, d'⟩, SrcIn.celled N hm d Ls.src, Ls.row.put_list ?_ fun i r hr => ?_, Ls.left.sub fun _ q => put_ne q (Nat.ne_of_gt (Nat.lt_trans o.s o.l)), Ls.chain.sub fun _ q => put_ne q (Nat.ne_of_gt (Nat.lt_trans o.s (Nat.lt_trans o.l o.c))), o⟩
  · obtain ⟨k, h1⟩ := Ls.row.lst
    exact news_apart N h1 hm fun e => by rw [← e] at d; cases d
  · have := o.i i r hr
    exact ⟨Nat.ne_of_gt (Nat.lt_trans o.s this.1), Nat.ne_of_gt (Nat.lt_trans o.s this.2.1)⟩
def St8 (L : Addr) (m : Str → Option Value) (nw : Led) : Prop := ∃ a n1 fs lf ch sd, n1 ≤ 70 ∧ LS L a n1 fs lf ch none nw ∧ (lf ++ ch).Perm (List.range a.rs.length) ∧ 2 ≤ ch.length ∧ Built fs lf ch ∧ ToldIn nw sd (lf.map fs) ∧ Knows m [(Str.ofString "source", .ref a.src), (Str.ofString "left", .ref a.left), (Str.ofString "side", .ref sd)]
set_option maxHeartbeats 1000000 in
theorem st8 {w : World} {mean : ExcName → Option Value} {mg mb : Str → Option Value} {H0 : Heap} {L : Addr} {m : Str → Option Value} {nw : Led} (G : Gr w mean mg mb H0) (hK : St7 L m nw) : LStep w 8 H0 L m nw (St8 L) := by
  intro fa cdv s E hE F N
  obtain ⟨K0, X, T⟩ := G
  revert X; k_fill; intro X
  k_with_none
  dsimp only [lawEnv] at hE ⊢
  obtain ⟨S, hS⟩ : ∃ S, lawScope = S := ⟨_, rfl⟩
  rw [hS] at hE ⊢
  conv at hS => lhs; whnf
  subst hS
  conv => arg 3; arg 1; whnf
  obtain ⟨a, n1, fs, lf, ch, hn1, Ls, hp, h2, hb, hkn⟩ := hK
  replace F := fr_over hkn F
  have few := Ls.row.few
  have hlen := hp.length_eq
  rw [List.length_append, List.length_range] at hlen
  have hin : ∀ c ∈ lf ++ ch, c < a.rs.length := fun c hc => List.mem_range.mp (hp.mem_iff.mp hc)
  obtain ⟨oc1, oc2, lvs, cvs, lk, ck, fx, d1, d2, hl2, hc2⟩ := Ls.fix
  have fm1 := fx.m1
  have fm2 := fx.m2
  k_with "call ref" => ((k_dflt (refine' spec_use (told_ok Ls.row fx.l hl2 (fun c hc => hin c (List.mem_append_left _ hc)) (by omega)) ?k1 ?k2 ?k3 ?k4 ?k5 ?kK ?kd ?ku ?_; (case k1 => k_asm); (case k2 => k_asm); (case k3 => k_asm); (case k4 => k_asm); (case k5 => k_asm); (case kK => exact rfl); (case kd => ktr_room); (case ku => ktr_units)); (rintro v nw1 h1 tk1 ⟨sd, rfl, hsub, hT⟩ F2 N2); (try dsimp only); (try k_fold)))
  k_steps
  exact SPost.intro (by k_asm) (by k_asm) ⟨a, n1, fs, lf, ch, sd, hn1, Ls.sub hsub, hp, h2, hb, hT, rfl, rfl, rfl, trivial⟩
def St9 (L : Addr) (m : Str → Option Value) (nw : Led) : Prop := ∃ a n1 fs lf ch sd bf, n1 ≤ 70 ∧ LS L a n1 fs lf ch none nw ∧ (lf ++ ch).Perm (List.range a.rs.length) ∧ 2 ≤ ch.length ∧ Built fs lf ch ∧ ToldIn nw sd (lf.map fs) ∧ ToldIn nw bf (ch.map fs) ∧ Knows m [(Str.ofString "source", .ref a.src), (Str.ofString "left", .ref a.left), (Str.ofString "side", .ref sd), (Str.ofString "before", .ref bf)]
set_option maxHeartbeats 1000000 in
theorem st9 {w : World} {mean : ExcName → Option Value} {mg mb : Str → Option Value} {H0 : Heap} {L : Addr} {m : Str → Option Value} {nw : Led} (G : Gr w mean mg mb H0) (hK : St8 L m nw) : LStep w 9 H0 L m nw (St9 L) := by
  intro fa cdv s E hE F N
  obtain ⟨K0, X, T⟩ := G
  revert X; k_fill; intro X
  k_with_none
  dsimp only [lawEnv] at hE ⊢
  obtain ⟨S, hS⟩ : ∃ S, lawScope = S := ⟨_, rfl⟩
  rw [hS] at hE ⊢
  conv at hS => lhs; whnf
  subst hS
  conv => arg 3; arg 1; whnf
  obtain ⟨a, n1, fs, lf, ch, sd, hn1, Ls, hp, h2, hb, hT1, hkn⟩ := hK
  replace F := fr_over hkn F
  have few := Ls.row.few
  have hlen := hp.length_eq
  rw [List.length_append, List.length_range] at hlen
  have hin : ∀ c ∈ lf ++ ch, c < a.rs.length := fun c hc => List.mem_range.mp (hp.mem_iff.mp hc)
  obtain ⟨oc1, oc2, lvs, cvs, lk, ck, fx, d1, d2, hl2, hc2⟩ := Ls.fix
  have fm1 := fx.m1
  have fm2 := fx.m2
  k_with "call ref" => ((k_dflt (refine' spec_use (told_ok Ls.row fx.c hc2 (fun c hc => hin c (List.mem_append_right _ hc)) (by omega)) ?k1 ?k2 ?k3 ?k4 ?k5 ?kK ?kd ?ku ?_; (case k1 => k_asm); (case k2 => k_asm); (case k3 => k_asm); (case k4 => k_asm); (case k5 => k_asm); (case kK => exact rfl); (case kd => ktr_room); (case ku => ktr_units)); (rintro v nw1 h1 tk1 ⟨bf, rfl, hsub, hT⟩ F2 N2); (try dsimp only); (try k_fold)))
  k_steps
  exact SPost.intro (by k_asm) (by k_asm) ⟨a, n1, fs, lf, ch, sd, bf, hn1, Ls.sub hsub, hp, h2, hb, hT1.sub hsub, hT, rfl, rfl, rfl, rfl, trivial⟩
def St10 (L : Addr) (m : Str → Option Value) (nw : Led) : Prop := ∃ a n1 fs lf ch sd bf hl, n1 ≤ 70 ∧ LS L a n1 fs lf ch (some (.ref hl)) nw ∧ (lf ++ ch).Perm (List.range a.rs.length) ∧ 2 ≤ ch.length ∧ Built fs lf ch ∧ ToldIn nw sd (lf.map fs) ∧ ToldIn nw bf (ch.map fs) ∧ IntsIn nw hl (ch.map (heightF fs a.rs.length)) ∧ Knows m [(Str.ofString "source", .ref a.src), (Str.ofString "left", .ref a.left), (Str.ofString "side", .ref sd), (Str.ofString "before", .ref bf)]
set_option maxHeartbeats 1000000 in
theorem st10 {w : World} {mean : ExcName → Option Value} {mg mb : Str → Option Value} {H0 : Heap} {L : Addr} {m : Str → Option Value} {nw : Led} (G : Gr w mean mg mb H0) (hK : St9 L m nw) : LStep w 10 H0 L m nw (St10 L) := by
  intro fa cdv s E hE F N
  obtain ⟨K0, X, T⟩ := G
  revert X; k_fill; intro X
  k_with_none
  dsimp only [lawEnv] at hE ⊢
  obtain ⟨S, hS⟩ : ∃ S, lawScope = S := ⟨_, rfl⟩
  rw [hS] at hE ⊢
  conv at hS => lhs; whnf
  subst hS
  conv => arg 3; arg 1; whnf
  obtain ⟨a, n1, fs, lf, ch, sd, bf, hn1, Ls, hp, h2, hb, hT1, hT2, hkn⟩ := hK
  replace F := fr_over hkn F
  have few := Ls.row.few
  have hfit := hb.fit hp h2
  have hlen := hp.length_eq
  rw [List.length_append, List.length_range] at hlen
  have hin : ∀ c ∈ lf ++ ch, c < a.rs.length := fun c hc => List.mem_range.mp (hp.mem_iff.mp hc)
  obtain ⟨oc1, oc2, lvs, cvs, lk, ck, fx, d1, d2, hl2, hc2⟩ := Ls.fix
  have hcs : cvs.length = ch.length := by rw [hc2.length, List.length_map]
  obtain ⟨oc3, hm3, d3⟩ := Ls.c3
  have fm1 := fx.m1
  have fm2 := fx.m2
  k_with "eval ListComp" => (k_dflt (refine LCg.ListComp_U (F₀ := by k_asm) (by with_unfolding_all rfl) (by decide) (by rfl) (by decide) (by rfl) ?_))
  k_with "CompSrc" => (refine stop_here ?_)
  k_steps
  refine Stop.go ?_
  (rename Fr _ _ _ _ => hF)
  (rename News _ _ _ _ => hN)
  refine LCg.CompSrc.ledger (by rfl) hF hN fx.c (by rw [PySem.sizeLine_eq]; simp only [List.size_toArray]; omega)
    (fun g => comp_inv (fun i ys nw' => nw' = nw ∧ IntsAre ys ((ch.take i).map (heightF fs a.rs.length))) ⟨rfl, by rw [List.take_zero]; exact .nil⟩ ?turn ?done)
  case turn =>
    rintro i ys nw' v I oI C oC D m₂ h tk E' hi9 hP ⟨rfl, hys⟩ hC hx F9 N9 off ne
    rw [List.size_toArray] at hi9
    obtain ⟨c, t, hcx, hcy⟩ := nat_at hc2 (x := i) (by omega)
    obtain rfl : v = .int (c : Nat) t := Option.some.inj (hP.symm.trans (by simpa using hcy))
    clear hF hN
    k_with "call ref" => ((k_dflt (refine' spec_use (height_ok (news := (I, oI) :: (C, oC) :: (D, LCg.lst ys) :: nw') (Ls.row.mono fun _ q => .tail _ (.tail _ (.tail _ q))) (hin c (List.mem_append_right _ (List.mem_of_getElem? hcx))) hfit) ?k1 ?k2 ?k3 ?k4 ?k5 ?kK ?kd ?ku ?_; (case k1 => k_asm); (case k2 => k_asm); (case k3 => k_asm); (case k4 => k_asm); (case k5 => k_asm); (case kK => exact rfl); (case kd => ktr_room); (case ku => ktr_units)); (rintro v nw1 h1 tk1 ⟨rfl, t1, rfl⟩ F2 N2); (try dsimp only); (try k_fold)))
    k_steps
    refine CompEnd_of (by k_asm) (by k_asm) (fun _ q => q) off (.inr ⟨_, fx.c, rfl, _, rfl⟩) ⟨rfl, ?_⟩
    rw [List.take_add_one, hcx, List.map_append]
    exact IntsAre.append hys (.cons _ _ .nil)
  case done =>
    rintro ys nw' ⟨rfl, hys⟩ D h tk F9 N9 off
    rw [List.size_toArray, hcs, List.take_length] at hys
    clear hF hN
    k_with "storeName" => (k_dflt (refine' cell_put ?k1 ?k2 ?k3 ?k4 ?k5 ?_ ?k6 ?k7; (case k1 => k_asm); (case k2 => k_asm); (case k3 => exact rfl); (case k4 => exact List.Mem.tail _ hm3); (case k5 => exact d3); (case k6 => exact rfl); (case k7 => exact rfl)); intro hh2 oc9 F2 N2 d9)
    k_steps
    have hm3' : (L + 3, oc3) ∈ (D, LCg.lst ys) :: nw' := .tail _ hm3
    have up : ∀ b o, (b, o) ∈ (D, LCg.lst ys) :: nw' → IsSeq o → (b, o) ∈ put (L + 3) oc9 ((D, LCg.lst ys) :: nw') := fun b o q s => celled N9 hm3' d3 q s
    exact SPost.intro (by k_asm) (by k_asm) ⟨a, n1, fs, lf, ch, sd, bf, D, hn1, (Ls.sub fun _ q => .tail _ q).cell3 N9 hm3' d3 d9, hp, h2, hb, (hT1.sub fun _ q => .tail _ q).keep up, (hT2.sub fun _ q => .tail _ q).keep up, ⟨ys, _, up _ _ (.head _) ⟨_, _, rfl⟩, hys⟩, rfl, rfl, rfl, rfl, trivial⟩
def St11 (L : Addr) (m : Str → Option Value) (nw : Led) : Prop := ∃ a n1 fs lf ch sd bf hl x t, n1 ≤ 71 ∧ LS L a n1 fs lf ch (some (.ref hl)) nw ∧ (lf ++ ch).Perm (List.range a.rs.length) ∧ 2 ≤ ch.length ∧ Built fs lf ch ∧ ToldIn nw sd (lf.map fs) ∧ ToldIn nw bf (ch.map fs) ∧ IntsIn nw hl (ch.map (heightF fs a.rs.length)) ∧ Knows m [(Str.ofString "source", .ref a.src), (Str.ofString "left", .ref a.left), (Str.ofString "side", .ref sd), (Str.ofString "before", .ref bf), (Str.ofString "way", .int (x : Nat) t)]
set_option maxHeartbeats 1000000 in
theorem st11 {w : World} {mean : ExcName → Option Value} {mg mb : Str → Option Value} {H0 : Heap} {L : Addr} {m : Str → Option Value} {nw : Led} (G : Gr w mean mg mb H0) (hK : St10 L m nw) : LStep w 11 H0 L m nw (St11 L) := by
  intro fa cdv s E hE F N
  obtain ⟨K0, X, T⟩ := G
  revert X; k_fill; intro X
  k_with_none
  dsimp only [lawEnv] at hE ⊢
  obtain ⟨S, hS⟩ : ∃ S, lawScope = S := ⟨_, rfl⟩
  rw [hS] at hE ⊢
  conv at hS => lhs; whnf
  subst hS
  conv => arg 3; arg 1; whnf
  obtain ⟨a, n1, fs, lf, ch, sd, bf, hl, hn1, Ls, hp, h2, hb, hT1, hT2, hH, hkn⟩ := hK
  have gT1 := fun o' => hT1.drawn (o' := o') N Ls.src
  have gT2 := fun o' => hT2.drawn (o' := o') N Ls.src
  have gH := fun o' => hH.drawn (o' := o') N Ls.src
  replace F := fr_over hkn F
  k_with "call ref" => ((k_dflt (refine' spec_use (draw_ok (lim := 3) Ls.src (by omega) (by omega) (by omega)) ?k1 ?k2 ?k3 ?k4 ?k5 ?kK ?kd ?ku ?_; (case k1 => k_asm); (case k2 => k_asm); (case k3 => k_asm); (case k4 => k_asm); (case k5 => k_asm); (case kK => exact rfl); (case kd => ktr_room); (case ku => ktr_units)); (rintro v nw1 h1 tk1 ⟨r, t1, ox, rfl, hr, rfl, hS2⟩ F2 N2); (try dsimp only); (try k_fold)))
  k_steps
  exact SPost.intro (by k_asm) (by k_asm) ⟨a, n1 + 1, fs, lf, ch, sd, bf, hl, r, _, by omega, Ls.draw (hS2 _ (fun _ q => q) Ls.src), hp, h2, hb, gT1 _, gT2 _, gH _, rfl, rfl, rfl, rfl, rfl, trivial⟩
end Mine
namespace Mine
/-- each of the list leads to the next -/
def LinkL (fs : Nat → Inf) : List Nat → Prop
  | [] => True
  | [_] => True
  | p :: d :: t => (fs p).parent = (d : Int) - p ∧ (fs p).bond = CUR ∧ LinkL fs (d :: t)
def lastOf (k : Nat) : List Nat → Nat
  | [] => k
  | d :: t => lastOf d t
theorem LinkL.congr {fs gs : Nat → Inf} : ∀ {k : Nat} {t : List Nat}, (∀ x ∈ k :: t, gs x = fs x) → LinkL fs (k :: t) → LinkL gs (k :: t)
  | _, [], _, _ => trivial
  | k, d :: t, h, l => ⟨by rw [h k (.head _)]; exact l.1, by rw [h k (.head _)]; exact l.2.1, LinkL.congr (fun x hx => h x (.tail _ hx)) l.2.2⟩
theorem link_hangs {fs : Nat → Inf} {k d : Nat} {t : List Nat} (hn : (k :: d :: t).Nodup) (l : LinkL fs (k :: d :: t)) : hangs (fs k) ∧ nxt fs k = d ∧ (k : Int) + (fs k).parent = (d : Nat) := by
  have hne : k ≠ d := fun e => by subst e; exact (List.nodup_cons.mp hn).1 (.head _)
  have e : (k : Int) + (fs k).parent = (d : Nat) := by rw [l.1]; omega
  refine ⟨⟨fun q => ?_, l.2.1⟩, ?_, e⟩
  · rw [l.1] at q; exact hne (by omega)
  · unfold nxt; rw [e]; rfl
def links (fs : Nat → Inf) : Nat → List Nat → List Lk
  | _, [] => []
  | k, d :: t => (d, -(fs k).parent, -(fs k).yoff) :: links fs d t
theorem links_congr {fs gs : Nat → Inf} : ∀ {k : Nat} {t : List Nat}, (∀ x ∈ k :: t, gs x = fs x) → links gs k t = links fs k t
  | _, [], _ => rfl
  | k, d :: t, h => by
    unfold links
    rw [h k (.head _), links_congr fun x hx => h x (.tail _ hx)]
theorem links_mem {fs : Nat → Inf} : ∀ {k : Nat} {t : List Nat} {x : Lk}, x ∈ links fs k t → x.1 ∈ t
  | _, [], _, h => nomatch h
  | k, d :: t, x, h => by
    unfold links at h
    rcases List.mem_cons.mp h with rfl | h
    · exact .head _
    · exact .tail _ (links_mem h)
open Classical in
noncomputable def loosed (fs : Nat → Inf) (cs : List Nat) : Nat → Inf := fun x => if x ∈ cs ∧ hangs (fs x) then loose (fs x) else fs x
/-- how the walk may end -/
def EndAt (fs : Nat → Inf) (par : Int) (z : Nat) : Prop := ¬ hangs (fs z) ∨ (hangs (fs z) ∧ (z : Int) + (fs z).parent = par)
theorem lastOf_mem : ∀ (k : Nat) (t : List Nat), lastOf k t ∈ k :: t
  | _, [] => .head _
  | _, d :: t => .tail _ (lastOf_mem d t)
theorem walk_turn {par : Int} : ∀ {t : List Nat} {fs : Nat → Inf} {k n : Nat} {ls : List Lk}, LinkL fs (k :: t) → (k :: t).Nodup → EndAt fs par (lastOf k t) → (∀ d ∈ t, (d : Int) ≠ par) → t.length < n →
    walkF par n fs k ls = some (loosed fs (k :: t), ls ++ links fs k t)
  | [], fs, k, n, ls, _, _, he, _, hl => by
    obtain ⟨n, rfl⟩ : ∃ m, n = m + 1 := ⟨n - 1, by simp at hl; omega⟩
    unfold walkF links
    rw [List.append_nil]
    have he' : EndAt fs par k := he
    rcases he' with he | ⟨he, hp⟩
    · rw [if_neg he]
      congr 2
      funext x
      unfold loosed
      by_cases e : x = k
      · rw [if_neg (fun q => he (e ▸ q.2))]
      · rw [if_neg (fun q => e (List.mem_singleton.mp q.1))]
    · rw [if_pos he, if_pos hp]
      congr 2
      funext x
      unfold loosed at1
      by_cases e : x = k
      · subst e; rw [if_pos rfl, if_pos ⟨.head _, he⟩]
      · rw [if_neg e, if_neg (fun q => e (List.mem_singleton.mp q.1))]
  | d :: t, fs, k, n, ls, hl, hn, he, hp, hlen => by
    obtain ⟨n, rfl⟩ : ∃ m, n = m + 1 := ⟨n - 1, by simp at hlen; omega⟩
    obtain ⟨h1, h2, h3⟩ := link_hangs hn hl
    have hk : k ∉ d :: t := (List.nodup_cons.mp hn).1
    unfold walkF
    rw [if_pos h1, if_neg (by rw [h3]; exact hp d (.head _)), h2]
    have hagree : ∀ x ∈ d :: t, at1 fs k (loose (fs k)) x = fs x := fun x hx => by
      have hxk : x ≠ k := fun e => hk (by rw [← e]; exact hx)
      unfold at1; rw [if_neg hxk]
    rw [walk_turn (LinkL.congr hagree hl.2.2) (List.nodup_cons.mp hn).2 (by unfold EndAt; rw [hagree _ (lastOf_mem d t)]; exact he) (fun x hx => hp x (.tail _ hx)) (by simp at hlen ⊢; omega), links_congr hagree]
    have e2 : ls ++ [(d, -(fs k).parent, -(fs k).yoff)] ++ links fs d t = ls ++ links fs k (d :: t) := by
      rw [List.append_assoc]; rfl
    rw [e2]
    congr 2
    funext x
    unfold loosed
    by_cases e : x = k
    · subst e
      rw [if_neg (fun q => hk q.1), if_pos ⟨.head _, h1⟩]
      unfold at1; rw [if_pos rfl]
    · have e3 : at1 fs k (loose (fs k)) x = fs x := by unfold at1; rw [if_neg e]
      rw [e3]
      by_cases hx : x ∈ d :: t
      · by_cases hh : hangs (fs x)
        · rw [if_pos ⟨hx, hh⟩, if_pos ⟨.tail _ hx, hh⟩]
        · rw [if_neg (fun q => hh q.2), if_neg (fun q => hh q.2)]
      · rw [if_neg (fun q => hx q.1), if_neg (fun q => hx ((List.mem_cons.mp q.1).resolve_left e))]
/-- the chain turned -/
noncomputable def turnR (fs : Nat → Inf) (k : Nat) (t : List Nat) : Nat → Inf := backF (loosed fs (k :: t)) (links fs k t)
theorem back_off {fs : Nat → Inf} : ∀ {t : List Nat} {k : Nat} {g : Nat → Inf} {x : Nat}, x ∉ t → backF g (links fs k t) x = g x
  | [], _, _, _, _ => rfl
  | d :: t, k, g, x, h => by
    show backF (setF g (d, _, _)) (links fs d t) x = g x
    rw [back_off (fun q => h (.tail _ q))]
    unfold setF at1
    rw [if_neg (fun e => h (by rw [e]; exact .head _))]
/-- p stands right before d in the list -/
def Next (cs : List Nat) (p d : Nat) : Prop := ∃ i, cs[i]? = some p ∧ cs[i + 1]? = some d
theorem back_on {fs : Nat → Inf} : ∀ {t : List Nat} {k : Nat} {g : Nat → Inf} {p d : Nat}, (k :: t).Nodup → Next (k :: t) p d → backF g (links fs k t) d = ⟨-(fs p).parent, CUR, -(fs p).yoff⟩
  | [], k, g, p, d, _, h => by obtain ⟨i, _, h2⟩ := h; simp at h2
  | e :: t, k, g, p, d, hn, h => by
    obtain ⟨i, h1, h2⟩ := h
    show backF (setF g (e, -(fs k).parent, -(fs k).yoff)) (links fs e t) d = _
    cases i with
    | zero =>
      simp at h1 h2
      subst h1 h2
      rw [back_off (List.nodup_cons.mp (List.nodup_cons.mp hn).2).1]
      unfold setF at1; rw [if_pos rfl]
    | succ i => exact back_on (List.nodup_cons.mp hn).2 ⟨i, by simpa using h1, by simpa using h2⟩
theorem turn_off {fs : Nat → Inf} {k x : Nat} {t : List Nat} (h : x ∉ k :: t) : turnR fs k t x = fs x := by
  unfold turnR
  rw [back_off (fun q => h (.tail _ q))]
  unfold loosed; rw [if_neg (fun q => h q.1)]
theorem turn_head {fs : Nat → Inf} {k : Nat} {t : List Nat} (hn : (k :: t).Nodup) : turnR fs k t k = if hangs (fs k) then loose (fs k) else fs k := by
  unfold turnR
  rw [back_off (List.nodup_cons.mp hn).1]
  unfold loosed
  by_cases e : hangs (fs k)
  · rw [if_pos ⟨.head _, e⟩, if_pos e]
  · rw [if_neg (fun q => e q.2), if_neg e]
theorem turn_on {fs : Nat → Inf} {k p d : Nat} {t : List Nat} (hn : (k :: t).Nodup) (h : Next (k :: t) p d) : turnR fs k t d = ⟨-(fs p).parent, CUR, -(fs p).yoff⟩ := back_on hn h
theorem LinkL.next {fs : Nat → Inf} : ∀ {cs : List Nat} {p d : Nat}, LinkL fs cs → Next cs p d → (fs p).parent = (d : Int) - p ∧ (fs p).bond = CUR
  | [], p, d, _, ⟨i, h1, _⟩ => by simp at h1
  | [a], p, d, _, ⟨i, _, h2⟩ => by simp at h2
  | a :: b :: t, p, d, l, ⟨i, h1, h2⟩ => by
    cases i with
    | zero => simp at h1 h2; subst h1 h2; exact ⟨l.1, l.2.1⟩
    | succ i => exact LinkL.next l.2.2 ⟨i, by simpa using h1, by simpa using h2⟩
theorem LinkL.of {fs : Nat → Inf} : ∀ {cs : List Nat}, (∀ p d, Next cs p d → (fs p).parent = (d : Int) - p ∧ (fs p).bond = CUR) → LinkL fs cs
  | [], _ => trivial
  | [_], _ => trivial
  | a :: b :: t, h => ⟨(h a b ⟨0, rfl, rfl⟩).1, (h a b ⟨0, rfl, rfl⟩).2, LinkL.of fun p d ⟨i, h1, h2⟩ => h p d ⟨i + 1, by simpa using h1, by simpa using h2⟩⟩
theorem next_rev {cs : List Nat} {p d : Nat} (h : Next cs.reverse p d) : Next cs d p := by
  obtain ⟨i, h1, h2⟩ := h
  have l1 := (List.getElem?_eq_some_iff.mp h1).1
  have l2 := (List.getElem?_eq_some_iff.mp h2).1
  rw [List.length_reverse] at l1 l2
  rw [List.getElem?_reverse l1] at h1
  rw [List.getElem?_reverse l2] at h2
  exact ⟨cs.length - 1 - (i + 1), h2, by rw [show cs.length - 1 - (i + 1) + 1 = cs.length - 1 - i by omega]; exact h1⟩
/-- turned about, the list read backwards leads on -/
theorem turn_link {fs : Nat → Inf} {k : Nat} {t : List Nat} (hn : (k :: t).Nodup) (l : LinkL fs (k :: t)) : LinkL (turnR fs k t) (k :: t).reverse := by
  refine LinkL.of fun p d h => ?_
  have h' := next_rev h
  rw [turn_on hn h']
  have e := l.next h'
  exact ⟨by show -(fs d).parent = _; rw [e.1]; omega, rfl⟩
theorem root_last {g : Nat → Inf} : ∀ {t : List Nat} {k n : Nat}, LinkL g (k :: t) → (k :: t).Nodup → ¬ hangs (g (lastOf k t)) → t.length < n → rootF g n k = lastOf k t
  | [], k, n, _, _, hh, hl => rootF_stop (by simp at hl; omega) hh
  | d :: t, k, n, l, hn, hh, hl => by
    obtain ⟨h1, h2, _⟩ := link_hangs hn l
    obtain ⟨n, rfl⟩ : ∃ m, n = m + 1 := ⟨n - 1, by simp at hl; omega⟩
    unfold rootF
    rw [if_pos h1, h2]
    exact root_last l.2.2 (List.nodup_cons.mp hn).2 hh (by simp at hl ⊢; omega)
def hsum (g : Nat → Inf) : List Nat → Int
  | [] => 0
  | [_] => 0
  | p :: d :: t => (g p).yoff + hsum g (d :: t)
theorem height_end {g : Nat → Inf} {k : Nat} (h : ¬ hangs (g k)) : ∀ n, heightF g n k = 0
  | 0 => rfl
  | n + 1 => by unfold heightF; rw [if_neg h]; exact height_end h n
theorem height_sum {g : Nat → Inf} : ∀ {t : List Nat} {k n : Nat}, LinkL g (k :: t) → (k :: t).Nodup → ¬ hangs (g (lastOf k t)) → t.length ≤ n → heightF g n k = hsum g (k :: t)
  | [], k, n, _, _, hh, _ => height_end hh n
  | d :: t, k, n, l, hn, hh, hl => by
    obtain ⟨h1, h2, _⟩ := link_hangs hn l
    obtain ⟨n, rfl⟩ : ∃ m, n = m + 1 := ⟨n - 1, by simp at hl; omega⟩
    unfold heightF hsum
    rw [if_pos h1, h2, height_sum l.2.2 (List.nodup_cons.mp hn).2 hh (by simp at hl; omega)]
end Mine
namespace Mine
theorem last_some : ∀ (k : Nat) (t : List Nat), (k :: t).getLast? = some (lastOf k t)
  | _, [] => rfl
  | k, d :: t => by rw [List.getLast?_cons_cons]; exact last_some d t
theorem next_shift {pre cs : List Nat} {p d : Nat} (h : Next cs p d) : Next (pre ++ cs) p d := by
  obtain ⟨i, h1, h2⟩ := h
  exact ⟨pre.length + i, by rw [List.getElem?_append_right (by omega), show pre.length + i - pre.length = i by omega]; exact h1, by rw [List.getElem?_append_right (by omega), show pre.length + i + 1 - pre.length = i + 1 by omega]; exact h2⟩
theorem next_app {cs suf : List Nat} {p d : Nat} (h : Next cs p d) : Next (cs ++ suf) p d := by
  obtain ⟨i, h1, h2⟩ := h
  have l1 := (List.getElem?_eq_some_iff.mp h1).1
  have l2 := (List.getElem?_eq_some_iff.mp h2).1
  exact ⟨i, by rw [List.getElem?_append_left l1]; exact h1, by rw [List.getElem?_append_left l2]; exact h2⟩
theorem link_suffix {fs : Nat → Inf} {pre cs : List Nat} (l : LinkL fs (pre ++ cs)) : LinkL fs cs := LinkL.of fun _ _ h => l.next (next_shift h)
theorem link_prefix {fs : Nat → Inf} {cs suf : List Nat} (l : LinkL fs (cs ++ suf)) : LinkL fs cs := LinkL.of fun _ _ h => l.next (next_app h)
theorem last_suffix {k c : Nat} {t pre suf : List Nat} (e : k :: t = pre ++ c :: suf) : lastOf c suf = lastOf k t := by
  have h1 := last_some k t
  have h2 := last_some c suf
  rw [e, List.getLast?_append, h2] at h1
  simpa using h1
theorem last_rev {k c : Nat} {t pre suf : List Nat} (e : k :: t = pre ++ c :: suf) : lastOf c pre.reverse = k := by
  have h2 := last_some c pre.reverse
  cases pre with
  | nil => simp at h2 e; rw [← e.1] at h2 ⊢; rfl
  | cons b pre =>
    simp at e
    rw [show c :: (b :: pre).reverse = (c :: pre.reverse) ++ [b] by simp, List.getLast?_append] at h2
    simp at h2
    rw [List.reverse_cons, ← h2, e.1]
theorem rev_split {k c : Nat} {t pre suf : List Nat} (e : k :: t = pre ++ c :: suf) : (k :: t).reverse = suf.reverse ++ c :: pre.reverse := by
  rw [e]; simp
theorem head_loose {fs : Nat → Inf} {k : Nat} {t : List Nat} (hn : (k :: t).Nodup) : ¬ hangs (turnR fs k t k) := by
  rw [turn_head hn]
  by_cases e : hangs (fs k)
  · rw [if_pos e]; exact not_hangs_loose _
  · rw [if_neg e]; exact e
theorem nodup_split {l a b : List Nat} (h : l.Nodup) (e : l = a ++ b) : b.Nodup := by subst e; exact (List.nodup_append.mp h).2.1
/-- the root of each that was turned is where the turning began -/
theorem root_turn {fs : Nat → Inf} {k c n : Nat} {t : List Nat} (hn : (k :: t).Nodup) (l : LinkL fs (k :: t)) (hc : c ∈ k :: t) (hl : t.length < n) : rootF (turnR fs k t) n c = k := by
  obtain ⟨pre, suf, e⟩ := List.append_of_mem hc
  have l2 := turn_link hn l
  have hr : ((k :: t).reverse).Nodup := (List.reverse_perm _).nodup_iff.mpr hn
  rw [rev_split e] at l2 hr
  have hlen := congrArg List.length e
  simp at hlen
  rw [root_last (link_suffix l2) (List.nodup_append.mp hr).2.1 (by rw [last_rev e]; exact head_loose hn) (by rw [List.length_reverse]; omega), last_rev e]
theorem hsum_turn {fs T : Nat → Inf} {ch : List Nat} (hT : ∀ p d, Next ch p d → (T d).yoff = -(fs p).yoff) : ∀ (q : List Nat) (c : Nat) (suf : List Nat), ch = q.reverse ++ c :: suf → hsum T (c :: q) = hsum fs (c :: suf) - hsum fs ch
  | [], c, suf, e => by rw [e]; simp [hsum]
  | b :: q, c, suf, e => by
    have e' : ch = q.reverse ++ b :: (c :: suf) := by rw [e]; simp
    have ih := hsum_turn hT q b (c :: suf) e'
    have hN : Next ch b c := by rw [e']; exact next_shift ⟨0, rfl, rfl⟩
    show (T c).yoff + hsum T (b :: q) = _
    rw [ih, hT b c hN]
    show -(fs b).yoff + ((fs b).yoff + hsum fs (c :: suf) - hsum fs ch) = _
    omega
theorem height_turn {fs : Nat → Inf} {k c n : Nat} {t : List Nat} (hn : (k :: t).Nodup) (l : LinkL fs (k :: t)) (he : ¬ hangs (fs (lastOf k t))) (hc : c ∈ k :: t) (hl : t.length < n) : heightF (turnR fs k t) n c = heightF fs n c - heightF fs n k := by
  obtain ⟨pre, suf, e⟩ := List.append_of_mem hc
  have l2 := turn_link hn l
  have hr : ((k :: t).reverse).Nodup := (List.reverse_perm _).nodup_iff.mpr hn
  rw [rev_split e] at l2 hr
  have hlen := congrArg List.length e
  simp at hlen
  rw [height_sum (link_suffix l2) (List.nodup_append.mp hr).2.1 (by rw [last_rev e]; exact head_loose hn) (by rw [List.length_reverse]; omega),
    height_sum (link_suffix (pre := pre) (by rw [← e]; exact l)) (nodup_split hn e) (by rw [last_suffix e]; exact he) (by omega),
    height_sum l hn he (by omega)]
  exact hsum_turn (fun p d h => by rw [turn_on hn h]) pre.reverse c suf (by rw [List.reverse_reverse]; exact e)
theorem fit_turn {fs : Nat → Inf} {k n : Nat} {t : List Nat} (hn : (k :: t).Nodup) (l : LinkL fs (k :: t)) (hf : Fit fs n) (hin : ∀ c ∈ k :: t, c < n) : Fit (turnR fs k t) n := by
  intro x hx hh
  by_cases hm : x ∈ k :: t
  · obtain ⟨i, hi⟩ := List.mem_iff_getElem?.mp hm
    cases i with
    | zero =>
      simp at hi; subst hi
      exact absurd hh (head_loose hn)
    | succ i =>
      have hil := (List.getElem?_eq_some_iff.mp hi).1
      have hN : Next (k :: t) (k :: t)[i] x := ⟨i, List.getElem?_eq_getElem (by omega), hi⟩
      refine ⟨(k :: t)[i], hin _ (List.getElem_mem (by omega)), ?_⟩
      rw [turn_on hn hN]
      show (x : Int) + -(fs (k :: t)[i]).parent = _
      rw [(l.next hN).1]; omega
  · rw [turn_off hm] at hh ⊢; exact hf x hx hh
/-- one heap of more than one -/
theorem groups_one {T : Nat → Inf} {n r0 : Nat} (hr : ∀ x, x < n → rootF T n x = r0 ∨ rootF T n x = x) : ∀ i, i ≤ n →
    ((groupsF T n i).filter (fun p => decide (p.1 = r0)) = if ((List.range i).filter fun x => decide (rootF T n x = r0)) = [] then [] else [(r0, (List.range i).filter fun x => decide (rootF T n x = r0))]) ∧ ∀ p ∈ groupsF T n i, p.1 ≠ r0 → p.2.length = 1 ∧ p.1 < i
  | 0, _ => ⟨rfl, fun p h => nomatch h⟩
  | i + 1, hi => by
    obtain ⟨h1, h2⟩ := groups_one hr i (Nat.le_of_succ_le hi)
    have hri := hr i hi
    show ((addG (groupsF T n i) (rootF T n i) i).filter _ = _) ∧ ∀ p ∈ addG (groupsF T n i) (rootF T n i) i, _
    rw [List.range_succ, List.filter_append]
    generalize groupsF T n i = g at h1 h2
    generalize (List.range i).filter (fun x => decide (rootF T n x = r0)) = A at h1 h2
    by_cases e : rootF T n i = r0
    · rw [e]
      have es : ([i].filter fun x => decide (rootF T n x = r0)) = [i] := by simp [e]
      rw [es, if_neg (by simp)]
      by_cases ha : g.any (fun p => p.1 = r0)
      · unfold addG
        rw [if_pos ha]
        constructor
        · have hA : A ≠ [] := fun q => by
            rw [if_pos q] at h1
            obtain ⟨p, hp, hp2⟩ := List.any_eq_true.mp ha
            exact absurd (List.mem_filter.mpr ⟨hp, hp2⟩) (by rw [h1]; exact List.not_mem_nil)
          rw [if_neg hA] at h1
          rw [List.filter_map]
          have ec : (g.filter ((fun p : Nat × List Nat => decide (p.1 = r0)) ∘ fun p => if p.1 = r0 then (p.1, p.2 ++ [i]) else p)) = g.filter (fun p => decide (p.1 = r0)) := by
            apply List.filter_congr
            intro p _
            by_cases q : p.1 = r0 <;> simp [q]
          rw [ec, h1]
          simp
        · intro p hp hne
          obtain ⟨q, hq, rfl⟩ := List.mem_map.mp hp
          by_cases eq : q.1 = r0
          · rw [if_pos eq] at hne; exact absurd eq hne
          · rw [if_neg eq]
            have := h2 q hq eq
            exact ⟨this.1, Nat.lt_succ_of_lt this.2⟩
      · unfold addG
        rw [if_neg ha]
        have hA : A = [] := by
          by_cases q : A = []
          · exact q
          · rw [if_neg q] at h1
            have : (r0, A) ∈ g.filter (fun p => decide (p.1 = r0)) := by rw [h1]; exact .head _
            exact absurd (List.any_eq_true.mpr ⟨_, (List.mem_filter.mp this).1, by simp⟩) ha
        rw [if_pos hA] at h1
        constructor
        · rw [List.filter_append, h1, hA]; simp
        · intro p hp hne
          rcases List.mem_append.mp hp with hp | hp
          · have := h2 p hp hne
            exact ⟨this.1, Nat.lt_succ_of_lt this.2⟩
          · rw [List.mem_singleton.mp hp] at hne; exact absurd rfl hne
    · have e2 : rootF T n i = i := hri.resolve_left e
      rw [e2] at e ⊢
      have es : ([i].filter fun x => decide (rootF T n x = r0)) = [] := by simp [e2, e]
      rw [es, List.append_nil]
      have ha : ¬ g.any (fun p => p.1 = i) = true := fun q => by
        obtain ⟨p, hp, hp2⟩ := List.any_eq_true.mp q
        have hp3 : p.1 = i := by simpa using hp2
        have := h2 p hp (by rw [hp3]; exact e)
        omega
      unfold addG
      rw [if_neg ha]
      constructor
      · rw [List.filter_append, h1]; simp [e]
      · intro p hp hne
        rcases List.mem_append.mp hp with hp | hp
        · have := h2 p hp hne
          exact ⟨this.1, Nat.lt_succ_of_lt this.2⟩
        · rw [List.mem_singleton.mp hp]; exact ⟨rfl, Nat.lt_succ_self _⟩
theorem groups_big {T : Nat → Inf} {n r0 c d : Nat} (hr : ∀ x, x < n → rootF T n x = r0 ∨ rootF T n x = x) (hc : c < n) (hd : d < n) (hcd : c ≠ d) (ec : rootF T n c = r0) (ed : rootF T n d = r0) :
    ∃ ats, (groupsF T n n).filter (fun p => decide (1 < p.2.length)) = [(r0, ats)] ∧ ∀ x, x < n → rootF T n x = r0 → x ∈ ats := by
  obtain ⟨h1, h2⟩ := groups_one hr n (Nat.le_refl _)
  have hin : ∀ x, x < n → rootF T n x = r0 → x ∈ (List.range n).filter fun x => decide (rootF T n x = r0) := fun x hx e => List.mem_filter.mpr ⟨List.mem_range.mpr hx, by simpa using e⟩
  refine ⟨_, ?_, hin⟩
  have hA := hin c hc ec
  have hB := hin d hd ed
  generalize (List.range n).filter (fun x => decide (rootF T n x = r0)) = A at h1 hA hB
  rw [if_neg (fun q => by rw [q] at hA; cases hA)] at h1
  have hlen : 1 < A.length := by
    match A, hA, hB with
    | [], hA, _ => cases hA
    | [a], hA, hB => exact absurd ((List.mem_singleton.mp hA).trans (List.mem_singleton.mp hB).symm) hcd
    | _ :: _ :: _, _, _ => simp
  have e : (groupsF T n n).filter (fun p => decide (1 < p.2.length)) = ((groupsF T n n).filter (fun p => decide (p.1 = r0))).filter (fun p => decide (1 < p.2.length)) := by
    rw [List.filter_filter]
    apply List.filter_congr
    intro p hp
    by_cases q : p.1 = r0
    · simp [q]
    · simp [q, (h2 p hp q).1]
  rw [e, h1]
  simp [hlen]
end Mine
namespace Mine
local macro_rules | `(tactic| walk_at $s:str) => `(tactic| k_extra $s)
local macro_rules | `(tactic| k_mem) => `(tactic| assumption)
/-- the chain as it was built -/
structure Chn (fs : Nat → Inf) (lf : List Nat) (k : Nat) (t : List Nat) (n : Nat) : Prop where
  nd : (lf ++ k :: t).Nodup
  link : LinkL fs (k :: t)
  endz : fs (lastOf k t) = ⟨0, Str.ofString "", 0⟩
  fit : Fit fs n
  inn : ∀ c ∈ lf ++ k :: t, c < n
  all : ∀ x, x < n → x ∈ lf ++ k :: t
  ne : t ≠ []
  len : lf.length + (t.length + 1) = n
  side : ∀ x ∈ lf, fs x = ⟨0, Str.ofString "", 0⟩ ∨ ∃ c ∈ k :: t, (fs x).parent = (c : Int) - x ∧ ((fs x).bond = CUR ∨ (fs x).bond = Str.ofString "mark")
theorem Built.chn {fs : Nat → Inf} {lf ch : List Nat} {n : Nat} (h : Built fs lf ch) (hp : (lf ++ ch).Perm (List.range n)) (h2 : 2 ≤ ch.length) : ∃ k t, ch = k :: t ∧ Chn fs lf k t n := by
  match ch, h2 with
  | k :: d :: t, _ =>
    refine ⟨k, d :: t, rfl, hp.nodup_iff.mpr List.nodup_range, LinkL.of fun p q ⟨i, h1, h2⟩ => h.link i p q h1 h2, h.last _ ?_, h.fit hp (by simp), fun c hc => List.mem_range.mp (hp.mem_iff.mp hc), fun x hx => hp.mem_iff.mpr (List.mem_range.mpr hx), by simp, ?_, h.side⟩
    · rw [← List.getLast?_eq_getElem?]; exact last_some k (d :: t)
    · have := hp.length_eq
      rw [List.length_append, List.length_range] at this
      exact this
section
variable {fs : Nat → Inf} {lf t : List Nat} {k n : Nat}
theorem Chn.cnd (c : Chn fs lf k t n) : (k :: t).Nodup := (List.nodup_append.mp c.nd).2.1
theorem Chn.off (c : Chn fs lf k t n) {x : Nat} (hx : x ∈ lf) : x ∉ k :: t := fun h => (List.nodup_append.mp c.nd).2.2 x hx x h rfl
theorem Chn.endh (c : Chn fs lf k t n) : ¬ hangs (fs (lastOf k t)) := by rw [c.endz]; exact fun h => h.1 rfl
theorem Chn.walk (c : Chn fs lf k t n) : walkF (-1) (t.length + 1) fs k [] = some (loosed fs (k :: t), links fs k t) :=
  walk_turn (ls := []) c.link c.cnd (.inl c.endh) (fun d _ => by omega) (Nat.lt_succ_self _)
theorem Chn.inc (c : Chn fs lf k t n) : ∀ x ∈ k :: t, x < n := fun x hx => c.inn x (List.mem_append_right _ hx)
theorem Chn.side_turn (c : Chn fs lf k t n) : lf.map (turnR fs k t) = lf.map fs := List.map_congr_left fun x hx => turn_off (c.off hx)
theorem Chn.head (c : Chn fs lf k t n) : (turnR fs k t k).parent = 0 ∧ (turnR fs k t k).bond = Str.ofString "" := by
  rw [turn_head c.cnd]
  match t, c.ne, c with
  | d :: t, _, c => rw [if_pos (link_hangs c.cnd c.link).1]; exact ⟨rfl, rfl⟩
theorem Chn.fitT (c : Chn fs lf k t n) : Fit (turnR fs k t) n := fit_turn c.cnd c.link c.fit c.inc
end
/-- behind the first turning about -/
def St13 (L : Addr) (m : Str → Option Value) (nw : Led) : Prop := ∃ a n1 fs lf k t sd bf hl, LS L a n1 (turnR fs k t) lf (k :: t) (some (.ref hl)) nw ∧ Chn fs lf k t a.rs.length ∧ ToldIn nw sd (lf.map fs) ∧ ToldIn nw bf ((k :: t).map fs) ∧ IntsIn nw hl ((k :: t).map (heightF fs a.rs.length)) ∧ Knows m [(Str.ofString "left", .ref a.left), (Str.ofString "side", .ref sd), (Str.ofString "before", .ref bf)]
set_option maxHeartbeats 1000000 in
theorem st13 {w : World} {mean : ExcName → Option Value} {mg mb : Str → Option Value} {H0 : Heap} {L : Addr} {m : Str → Option Value} {nw : Led} (G : Gr w mean mg mb H0) (hK : St11 L m nw) : LStep w 13 H0 L m nw (St13 L) := by
  intro fa cdv s E hE F N
  obtain ⟨K0, X, T⟩ := G
  revert X; k_fill; intro X
  k_with_none
  dsimp only [lawEnv] at hE ⊢
  obtain ⟨S, hS⟩ : ∃ S, lawScope = S := ⟨_, rfl⟩
  rw [hS] at hE ⊢
  conv at hS => lhs; whnf
  subst hS
  conv => arg 3; arg 1; whnf
  obtain ⟨a, n1, fs, lf, ch, sd, bf, hl, x, tw, hn1, Ls, hp, h2, hb, hT1, hT2, hH, hkn⟩ := hK
  obtain ⟨k, t, rfl, C⟩ := hb.chn hp h2
  replace F := fr_over hkn F
  have few := Ls.row.few
  obtain ⟨oc1, oc2, lvs, cvs, lk, ck, fx, d1, d2, hl2, hc2⟩ := Ls.fix
  obtain ⟨c0, tc, hcx, hcy⟩ := nat_at hc2 (x := 0) (by simp)
  obtain rfl : k = c0 := by simpa using hcx
  have hci : cvs.toArray[(0 : Int).toNat]? = some (.int (k : Nat) tc) := by simpa using hcy
  have fm1 := fx.m1
  have fm2 := fx.m2
  have Nn := N
  have kT1 := fun nw1 hk => hT1.kept (nw' := nw1) N Ls.row hk
  have kT2 := fun nw1 hk => hT2.kept (nw' := nw1) N Ls.row hk
  have kH := fun nw1 hk => hH.kept (nw' := nw1) N Ls.row hk
  clear Nn
  k_with "subscriptTail" => (k_here; (with_reducible show wpAny _ _ (subscriptTail _ _ (Value.ref _) (Value.int _ _)) _ _ _); (k_dflt (refine' item_put ?k1 ?k2 ?k3 ?k4 ?k5 ?_ ?k6; (case k1 => k_asm); (case k2 => exact fx.c); (case k3 => omega); (case k4 => omega); (case k5 => assumption); (case k6 => with_unfolding_all rfl))))
  k_with "call ref" => ((k_dflt (refine' spec_use (turn_chain_ok Ls.row (C.inc k (.head _)) C.fit C.walk (by have := C.len; omega) (fun x hx => C.inc _ (.tail _ (links_mem hx)))) ?k1 ?k2 ?k3 ?k4 ?k5 ?kK ?kd ?ku ?_; (case k1 => k_asm); (case k2 => k_asm); (case k3 => k_asm); (case k4 => k_asm); (case k5 => k_asm); (case kK => exact rfl); (case kd => ktr_room); (case ku => ktr_units)); (rintro v nw1 h1 tk1 ⟨rfl, hKp, R1⟩ F2 N2); (try dsimp only); (try k_fold)))
  k_steps
  exact SPost.intro (by k_asm) (by k_asm) ⟨a, n1, fs, lf, k, t, sd, bf, hl, Ls.kept hKp R1, C, kT1 _ hKp, kT2 _ hKp, kH _ hKp, rfl, rfl, rfl, trivial⟩
end Mine
namespace Mine
def dOf (x : Inf) : Dat := .tuple [.int x.parent, .str x.bond, .int x.yoff]
theorem told_dat {nw : Led} : ∀ {as : List Addr} {xs : List Inf}, as.length = xs.length → (∀ (i : Nat) (a : Addr) (x : Inf), as[i]? = some a → xs[i]? = some x → TupIn nw a x) → DatAll nw (as.map Value.ref) (xs.map dOf)
  | [], [], _, _ => .nil
  | [], _ :: _, h, _ => nomatch h
  | _ :: _, [], h, _ => nomatch h
  | a :: as, x :: xs, h, f => by
    obtain ⟨t1, t2, t3, n, hm⟩ := f 0 a x rfl rfl
    exact .cons (.tuple hm (.cons (.int _ t1) (.cons (.str _ t2) (.cons (.int _ t3) .nil)))) (told_dat (by simpa using h) fun i a x h1 h2 => f (i + 1) a x (by simpa using h1) (by simpa using h2))
theorem dat_ok {xs : List Inf} (h : ∀ x ∈ xs, PyData.strOk x.bond = true) : ∀ d ∈ xs.map dOf, kqdOk 8 d = true := fun d hd => by
  obtain ⟨x, hx, rfl⟩ := List.mem_map.mp hd
  unfold dOf
  simp [kqdOk, h x hx]
section
variable {prog : Program} {w : World} {A : Around} {E : Value → Shared → Prop} {s : Shared} {h₀ : Heap} {L : Addr} {nw : Led} {Q : Value → Shared → Prop} {D1 D2 : Addr} {xs : List Inf}
theorem told_ne (N : News h₀ L s.heap nw) (T1 : ToldIn nw D1 xs) (T2 : ToldIn nw D2 xs) (hb : ∀ x ∈ xs, PyData.strOk x.bond = true) (hu : A.units + 64 < cLine) (h : Q (.bool false) s) : wpAny (model prog w) A (compareOp .NotEq (.ref D1) (.ref D2)) Q E s := by
  obtain ⟨as, k, h1, h2, h3⟩ := T1.ex
  obtain ⟨bs, k', g1, g2, g3⟩ := T2.ex
  refine kqd_ne N h1 rfl rfl (told_dat h2 h3) (fun _ q => q) g1 rfl rfl (told_dat g2 g3) (fun _ q => q) (dat_ok hb) (dat_ok hb) hu ?_
  simpa using h
theorem told_eq (N : News h₀ L s.heap nw) (T1 : ToldIn nw D1 xs) (T2 : ToldIn nw D2 xs) (hb : ∀ x ∈ xs, PyData.strOk x.bond = true) (hu : A.units + 64 < cLine) (h : Q (.bool true) s) : wpAny (model prog w) A (compareOp .Eq (.ref D1) (.ref D2)) Q E s := by
  obtain ⟨as, k, h1, h2, h3⟩ := T1.ex
  obtain ⟨bs, k', g1, g2, g3⟩ := T2.ex
  refine kqd_eq N h1 rfl rfl (told_dat h2 h3) (fun _ q => q) g1 rfl rfl (told_dat g2 g3) (fun _ q => q) (dat_ok hb) (dat_ok hb) hu ?_
  simpa using h
end
theorem ok_nil : PyData.strOk (Str.ofString "") = true := by decide +kernel
theorem ok_cur : PyData.strOk CUR = true := by decide +kernel
theorem ok_mark : PyData.strOk (Str.ofString "mark") = true := by decide +kernel
theorem Chn.ok_side {fs : Nat → Inf} {lf t : List Nat} {k n : Nat} (c : Chn fs lf k t n) : ∀ x ∈ lf.map fs, PyData.strOk x.bond = true := fun y hy => by
  obtain ⟨x, hx, rfl⟩ := List.mem_map.mp hy
  rcases c.side x hx with e | ⟨_, _, _, e | e⟩
  · rw [e]; exact ok_nil
  · rw [e]; exact ok_cur
  · rw [e]; exact ok_mark
theorem chain_bond {fs : Nat → Inf} {cs : List Nat} (l : LinkL fs cs) (hz : ∀ z, cs.getLast? = some z → PyData.strOk (fs z).bond = true) : ∀ x ∈ cs, PyData.strOk (fs x).bond = true := fun x hx => by
  obtain ⟨i, hi⟩ := List.mem_iff_getElem?.mp hx
  have hil := (List.getElem?_eq_some_iff.mp hi).1
  by_cases e : i + 1 < cs.length
  · rw [(l.next ⟨i, hi, List.getElem?_eq_getElem e⟩).2]; exact ok_cur
  · refine hz x ?_
    rw [List.getLast?_eq_getElem?, show cs.length - 1 = i by omega]; exact hi
theorem Chn.ok_chain {fs : Nat → Inf} {lf t : List Nat} {k n : Nat} (c : Chn fs lf k t n) : ∀ x ∈ k :: t, PyData.strOk (fs x).bond = true := chain_bond c.link fun z hz => by
  rw [last_some] at hz; cases hz
  rw [c.endz]; exact ok_nil
end Mine
namespace Mine
local macro_rules | `(tactic| walk_at $s:str) => `(tactic| k_extra $s)
local macro_rules | `(tactic| k_mem) => `(tactic| assumption)
set_option maxHeartbeats 1000000 in
theorem st14 {w : World} {mean : ExcName → Option Value} {mg mb : Str → Option Value} {H0 : Heap} {L : Addr} {m : Str → Option Value} {nw : Led} (G : Gr w mean mg mb H0) (hK : St13 L m nw) : LStep w 14 H0 L m nw (St13 L) := by
  intro fa cdv s E hE F N
  obtain ⟨K0, X, T⟩ := G
  revert X; k_fill; intro X
  k_with_none
  dsimp only [lawEnv] at hE ⊢
  obtain ⟨S, hS⟩ : ∃ S, lawScope = S := ⟨_, rfl⟩
  rw [hS] at hE ⊢
  conv at hS => lhs; whnf
  subst hS
  conv => arg 3; arg 1; whnf
  obtain ⟨a, n1, fs, lf, k, t, sd, bf, hl, Ls, C, hT1, hT2, hH, hkn⟩ := hK
  replace F := fr_over hkn F
  have few := Ls.row.few
  have hlen := C.len
  obtain ⟨oc1, oc2, lvs, cvs, lk, ck, fx, d1, d2, hl2, hc2⟩ := Ls.fix
  obtain ⟨c0, tc, hcx, hcy⟩ := nat_at hc2 (x := 0) (by simp)
  obtain rfl : k = c0 := by simpa using hcx
  have hci : cvs.toArray[(0 : Int).toNat]? = some (.int (k : Nat) tc) := by simpa using hcy
  obtain ⟨r, hr⟩ := has_row (C.inc k (.head _))
  have fm1 := fx.m1
  have fm2 := fx.m2
  have hp0 := C.head.1
  have hb0 := C.head.2
  k_with "call ref" => ((k_dflt (refine' spec_use (told_ok Ls.row fx.l hl2 (fun c hc => C.inn c (List.mem_append_left _ hc)) (by omega)) ?k1 ?k2 ?k3 ?k4 ?k5 ?kK ?kd ?ku ?_; (case k1 => k_asm); (case k2 => k_asm); (case k3 => k_asm); (case k4 => k_asm); (case k5 => k_asm); (case kK => exact rfl); (case kd => ktr_room); (case ku => ktr_units)); (rintro v nw1 h1 tk1 ⟨D1, rfl, hsub, hT⟩ F2 N2); (rw [C.side_turn] at hT); (have fm1 := hsub _ fm1); (have fm2 := hsub _ fm2); (try dsimp only); (try k_fold)))
  k_with "compareOp NotEq ref ref" => (k_dflt (refine' told_ne ?k1 hT (hT1.sub hsub) C.ok_side ?k4 ?_; (case k1 => k_asm); (case k4 => ke_room)))
  k_with "subscriptTail" => (k_here; (with_reducible show wpAny _ _ (subscriptTail _ _ (Value.ref _) (Value.int _ _)) _ _ _); first
      | (refine row_at (by k_asm) hsub Ls.row hr ?_ (by with_unfolding_all rfl))
      | (k_dflt (refine' item_put ?k1 ?k2 ?k3 ?k4 ?k5 ?_ ?k6; (case k1 => k_asm); (case k2 => exact hsub _ fx.c); (case k3 => omega); (case k4 => omega); (case k5 => assumption); (case k6 => with_unfolding_all rfl))))
  k_with "getAttr ref" => (first
    | ((with_reducible show wpAny _ _ (getAttr _ (Str.ofString "parent") _) _ _ _); refine att_parent (by k_asm) (by k_asm) (by k_asm) hsub Ls.row hr ?_; intro t')
    | ((with_reducible show wpAny _ _ (getAttr _ (Str.ofString "bond") _) _ _ _); refine att_bond (by k_asm) (by k_asm) (by k_asm) hsub Ls.row hr ?_; intro t'))
  k_steps
  · exact absurd hp0 (by assumption)
  · rename (_ != _) = true => q
    rw [hb0] at q; simp at q
  · exact SPost.intro (by k_asm) (by k_asm) ⟨a, n1, fs, lf, k, t, sd, bf, hl, Ls.sub hsub, C, hT1.sub hsub, hT2.sub hsub, hH.sub hsub, rfl, rfl, rfl, trivial⟩
end Mine
namespace Mine
local macro_rules | `(tactic| walk_at $s:str) => `(tactic| k_extra $s)
local macro_rules | `(tactic| k_mem) => `(tactic| assumption)
theorem rep_flat (z : Int) : ∀ n : Nat, (List.replicate n [z]).flatten = List.replicate n z
  | 0 => rfl
  | n + 1 => by rw [List.replicate_succ, List.flatten_cons, rep_flat z n]; rfl
section
variable {prog : Program} {w : World} {A : Around} {E : Value → Shared → Prop} {s : Shared} {h₀ : Heap} {L : Addr} {m : Str → Option Value} {nw : Led} {Q : Value → Shared → Prop}
theorem rep_put {l : Addr} {z : Int} {t u : Tok} {kk n : Nat} (F : Fr h₀ L s.heap m) (N : News h₀ L s.heap nw) (hm : (l, listOf [.int z t].toArray kk) ∈ nw) (hn : n ≤ 100)
    (h : ∀ D vs h', Fr h₀ L h' m → News h₀ L h' ((D, listOf (List.toArray vs) 0) :: nw) → (∀ p ∈ nw, p.1 < D) → IntsAre vs (List.replicate n z) → Q (.ref D) { s with heap := h' }) :
    wpAny (model prog w) A (binaryOp .Mult (.ref l) (.int (n : Nat) u)) Q E s := by
  refine KM.mul (vs := [.int z t]) (ns := [z]) F N (News.isList N hm) (.cons z t .nil) (by omega) (by omega) (by rw [Int.toNat_natCast]; simp only [List.length_singleton]; omega) fun D h' F' N' lt hI _ _ _ _ _ => h D _ h' F' N' lt ?_
  rw [Int.toNat_natCast] at hI ⊢
  rw [rep_flat] at hI; exact hI
theorem ints_ne {D1 D2 : Addr} {zs : List Int} (N : News h₀ L s.heap nw) (T1 : IntsIn nw D1 zs) (T2 : IntsIn nw D2 zs) (hu : A.units + 64 < cLine) (h : Q (.bool false) s) : wpAny (model prog w) A (compareOp .NotEq (.ref D1) (.ref D2)) Q E s := by
  obtain ⟨vs, k, h1, h2⟩ := T1
  obtain ⟨us, k', g1, g2⟩ := T2
  exact ke_ne_ints (News.isList N h1) (News.isList N g1) h2 g2 hu (by simpa using h)
theorem ints_eq {D1 D2 : Addr} {zs : List Int} (N : News h₀ L s.heap nw) (T1 : IntsIn nw D1 zs) (T2 : IntsIn nw D2 zs) (hu : A.units + 64 < cLine) (h : Q (.bool true) s) : wpAny (model prog w) A (compareOp .Eq (.ref D1) (.ref D2)) Q E s := by
  obtain ⟨vs, k, h1, h2⟩ := T1
  obtain ⟨us, k', g1, g2⟩ := T2
  exact ke_eq_ints (News.isList N h1) (News.isList N g1) h2 g2 hu (by simpa using h)
end
theorem map_const {cs : List Nat} {f : Nat → Nat} {k : Nat} (h : ∀ c ∈ cs, f c = k) : cs.map (fun c => ((f c : Nat) : Int)) = List.replicate cs.length ((k : Nat) : Int) := by
  rw [List.eq_replicate_iff]
  refine ⟨List.length_map _, fun b hb => ?_⟩
  obtain ⟨c, hc, rfl⟩ := List.mem_map.mp hb
  rw [h c hc]
set_option maxHeartbeats 1000000 in
theorem st15 {w : World} {mean : ExcName → Option Value} {mg mb : Str → Option Value} {H0 : Heap} {L : Addr} {m : Str → Option Value} {nw : Led} (G : Gr w mean mg mb H0) (hK : St13 L m nw) : LStep w 15 H0 L m nw (St13 L) := by
  intro fa cdv s E hE F N
  obtain ⟨K0, X, T⟩ := G
  revert X; k_fill; intro X
  k_with_none
  dsimp only [lawEnv] at hE ⊢
  obtain ⟨S, hS⟩ : ∃ S, lawScope = S := ⟨_, rfl⟩
  rw [hS] at hE ⊢
  conv at hS => lhs; whnf
  subst hS
  conv => arg 3; arg 1; whnf
  obtain ⟨a, n1, fs, lf, k, t, sd, bf, hl, Ls, C, hT1, hT2, hH, hkn⟩ := hK
  replace F := fr_over hkn F
  have few := Ls.row.few
  have hlen := C.len
  obtain ⟨oc1, oc2, lvs, cvs, lk, ck, fx, d1, d2, hl2, hc2⟩ := Ls.fix
  have hcs : cvs.length = (k :: t).length := by rw [hc2.length, List.length_map]
  have hct : (k :: t).length = t.length + 1 := rfl
  obtain ⟨c0, tc, hcx, hcy⟩ := nat_at hc2 (x := 0) (by simp)
  obtain rfl : k = c0 := by simpa using hcx
  have hci : cvs.toArray[(0 : Int).toNat]? = some (.int (k : Nat) tc) := by simpa using hcy
  have hroot : ∀ c ∈ k :: t, rootF (turnR fs k t) a.rs.length c = k := fun c hc => root_turn C.cnd C.link hc (by omega)
  have fm1 := fx.m1
  have fm2 := fx.m2
  k_with "eval ListComp" => (k_dflt (refine LCg.ListComp_U (F₀ := by k_asm) (by with_unfolding_all rfl) (by decide) (by rfl) (by decide) (by rfl) ?_))
  k_with "CompSrc" => (refine stop_here ?_)
  k_steps
  refine Stop.go ?_
  (rename Fr _ _ _ _ => hF)
  (rename News _ _ _ _ => hN)
  refine LCg.CompSrc.ledger (by rfl) hF hN fx.c (by rw [PySem.sizeLine_eq]; simp only [List.size_toArray]; omega)
    (fun g => comp_inv (fun i ys nw' => nw' = nw ∧ IntsAre ys (((k :: t).take i).map (fun c => ((rootF (turnR fs k t) a.rs.length c : Nat) : Int)))) ⟨rfl, by rw [List.take_zero]; exact .nil⟩ ?turn ?done)
  case turn =>
    rintro i ys nw' v I oI C1 oC D m₂ h tk E' hi9 hP ⟨rfl, hys⟩ hC hx F9 N9 off ne
    rw [List.size_toArray] at hi9
    obtain ⟨c, t1, hcx1, hcy1⟩ := nat_at hc2 (x := i) (by omega)
    obtain rfl : v = .int (c : Nat) t1 := Option.some.inj (hP.symm.trans (by simpa using hcy1))
    clear hF hN
    k_with "call ref" => ((k_dflt (refine' spec_use (root_of_ok (news := (I, oI) :: (C1, oC) :: (D, LCg.lst ys) :: nw') (Ls.row.mono fun _ q => .tail _ (.tail _ (.tail _ q))) (C.inc c (List.mem_of_getElem? hcx1)) C.fitT) ?k1 ?k2 ?k3 ?k4 ?k5 ?kK ?kd ?ku ?_; (case k1 => k_asm); (case k2 => k_asm); (case k3 => k_asm); (case k4 => k_asm); (case k5 => k_asm); (case kK => exact rfl); (case kd => ktr_room); (case ku => ktr_units)); (rintro v nw1 h1 tk1 ⟨rfl, t1, rfl⟩ F2 N2); (try dsimp only); (try k_fold)))
    k_steps
    refine CompEnd_of (by k_asm) (by k_asm) (fun _ q => q) off (.inr ⟨_, fx.c, rfl, _, rfl⟩) ⟨rfl, ?_⟩
    rw [List.take_add_one, hcx1, List.map_append]
    exact IntsAre.append hys (.cons _ _ .nil)
  case done =>
    rintro ys nw' ⟨rfl, hys⟩ D h tk F9 N9 off
    rw [List.size_toArray, hcs, List.take_length, map_const hroot] at hys
    clear hF hN
    k_with_none
    k_with "subscriptTail" => (k_here; (with_reducible show wpAny _ _ (subscriptTail _ _ (Value.ref _) (Value.int _ _)) _ _ _); (k_dflt (refine' item_put ?k1 ?k2 ?k3 ?k4 ?k5 ?_ ?k6; (case k1 => k_asm); (case k2 => exact .tail _ fx.c); (case k3 => omega); (case k4 => omega); (case k5 => assumption); (case k6 => with_unfolding_all rfl))))
    k_with "call builtin:len" => (k_dflt (refine' len_put ?k1 ?k2 ?k3 ?_; (case k1 => k_asm); (case k2 => exact .tail _ (.tail _ fx.c)); (case k3 => (rw [List.size_toArray]; omega))); (rw [show ((cvs.toArray.size : Nat) : Int) = (((k :: t).length : Nat) : Int) from by rw [List.size_toArray, hcs]]))
    k_with "binaryOp Mult ref int" => (k_dflt (refine' rep_put (n := (k :: t).length) (z := ((k : Nat) : Int)) (t := tc) ?k1 ?k2 ?k3 ?k4 ?_; (case k1 => k_asm); (case k2 => k_asm); (case k3 => exact .head _); (case k4 => omega)); intro D2 vs2 h2 F2 N2 lt2 hI2)
    k_with "compareOp NotEq ref ref" => (k_dflt (refine' ints_ne ?k1 ?k2 ?k3 ?k4 ?_; (case k1 => k_asm); (case k2 => exact ⟨ys, _, .tail _ (.tail _ (.head _)), hys⟩); (case k3 => exact ⟨vs2, _, .head _, hI2⟩); (case k4 => ke_room)))
    k_steps
    exact SPost.intro (by k_asm) (news_sub N2 fun _ q => .tail _ (.tail _ (.tail _ q))) ⟨a, n1, fs, lf, k, t, sd, bf, hl, Ls, C, hT1, hT2, hH, rfl, rfl, rfl, trivial⟩
end Mine
namespace Mine
local macro_rules | `(tactic| walk_at $s:str) => `(tactic| k_extra $s)
local macro_rules | `(tactic| k_mem) => `(tactic| assumption)
set_option maxHeartbeats 1000000 in
theorem st16 {w : World} {mean : ExcName → Option Value} {mg mb : Str → Option Value} {H0 : Heap} {L : Addr} {m : Str → Option Value} {nw : Led} (G : Gr w mean mg mb H0) (hK : St13 L m nw) : LStep w 16 H0 L m nw (St13 L) := by
  intro fa cdv s E hE F N
  obtain ⟨K0, X, T⟩ := G
  revert X; k_fill; intro X
  k_with_none
  dsimp only [lawEnv] at hE ⊢
  obtain ⟨S, hS⟩ : ∃ S, lawScope = S := ⟨_, rfl⟩
  rw [hS] at hE ⊢
  conv at hS => lhs; whnf
  subst hS
  conv => arg 3; arg 1; whnf
  obtain ⟨a, n1, fs, lf, k, t, sd, bf, hl, Ls, C, hT1, hT2, hH, hkn⟩ := hK
  replace F := fr_over hkn F
  have few := Ls.row.few
  have hlen := C.len
  obtain ⟨oc1, oc2, lvs, cvs, lk, ck, fx, d1, d2, hl2, hc2⟩ := Ls.fix
  obtain ⟨oc3, hm3, d3⟩ := Ls.c3
  have hcs : cvs.length = (k :: t).length := by rw [hc2.length, List.length_map]
  have hct : (k :: t).length = t.length + 1 := rfl
  obtain ⟨hvs, hk, hh1, hh2⟩ := id hH
  have hhs : hvs.length = (k :: t).length := by rw [hh2.length, List.length_map]
  obtain ⟨t0, hvs', hv0, _⟩ := IntsAre.cons_inv hh2
  have hci : hvs.toArray[(0 : Int).toNat]? = some (.int (heightF fs a.rs.length k) t0) := by rw [hv0]; rfl
  have hheight : ∀ c ∈ k :: t, heightF (turnR fs k t) a.rs.length c = heightF fs a.rs.length c - heightF fs a.rs.length k := fun c hc => height_turn C.cnd C.link C.endh hc (by omega)
  have fm1 := fx.m1
  have fm2 := fx.m2
  k_with "eval ListComp" => (k_dflt (refine LCg.ListComp_U (F₀ := by k_asm) (by with_unfolding_all rfl) (by decide) (by rfl) (by decide) (by rfl) ?_))
  k_with "CompSrc" => (refine stop_here ?_)
  k_steps
  refine Stop.go ?_
  (rename Fr _ _ _ _ => hF)
  (rename News _ _ _ _ => hN)
  refine LCg.CompSrc.ledger (by rfl) hF hN fx.c (by rw [PySem.sizeLine_eq]; simp only [List.size_toArray]; omega)
    (fun g => comp_inv (fun i ys nw' => nw' = nw ∧ IntsAre ys (((k :: t).take i).map (heightF (turnR fs k t) a.rs.length))) ⟨rfl, by rw [List.take_zero]; exact .nil⟩ ?turn ?done)
  case turn =>
    rintro i ys nw' v I oI C1 oC D m₂ h tk E' hi9 hP ⟨rfl, hys⟩ hC hx F9 N9 off ne
    rw [List.size_toArray] at hi9
    obtain ⟨c, t1, hcx1, hcy1⟩ := nat_at hc2 (x := i) (by omega)
    obtain rfl : v = .int (c : Nat) t1 := Option.some.inj (hP.symm.trans (by simpa using hcy1))
    clear hF hN
    k_with "call ref" => ((k_dflt (refine' spec_use (height_ok (news := (I, oI) :: (C1, oC) :: (D, LCg.lst ys) :: nw') (Ls.row.mono fun _ q => .tail _ (.tail _ (.tail _ q))) (C.inc c (List.mem_of_getElem? hcx1)) C.fitT) ?k1 ?k2 ?k3 ?k4 ?k5 ?kK ?kd ?ku ?_; (case k1 => k_asm); (case k2 => k_asm); (case k3 => k_asm); (case k4 => k_asm); (case k5 => k_asm); (case kK => exact rfl); (case kd => ktr_room); (case ku => ktr_units)); (rintro v nw1 h1 tk1 ⟨rfl, t1, rfl⟩ F2 N2); (try dsimp only); (try k_fold)))
    k_steps
    refine CompEnd_of (by k_asm) (by k_asm) (fun _ q => q) off (.inr ⟨_, fx.c, rfl, _, rfl⟩) ⟨rfl, ?_⟩
    rw [List.take_add_one, hcx1, List.map_append]
    exact IntsAre.append hys (.cons _ _ .nil)
  case done =>
    rintro ys nw' ⟨rfl, hys⟩ D h tk F9 N9 off
    rw [List.size_toArray, hcs, List.take_length] at hys
    clear hF hN
    k_steps
    refine Stop.go ?_
    (rename Fr _ _ _ _ => hF)
    (rename News _ _ _ _ => hN)
    refine LCg.CompSrc.ledger (by rfl) hF hN (.tail _ hh1) (by rw [PySem.sizeLine_eq]; simp only [List.size_toArray]; omega)
      (fun g => comp_inv (fun i zs nw2 => nw2 = (D, LCg.lst ys) :: nw' ∧ IntsAre zs (((k :: t).take i).map (heightF (turnR fs k t) a.rs.length))) ⟨rfl, by rw [List.take_zero]; exact .nil⟩ ?turn2 ?done2)
    case turn2 =>
      rintro i zs nw2 v I oI C1 oC D2 m₂ h3 tk3 E' hi9 hP ⟨rfl, hzs⟩ hC hx F9 N9 off ne
      rw [List.size_toArray] at hi9
      obtain ⟨z, t1, rfl, hz⟩ := IntsAre.at hh2 i v (by simpa using hP)
      rw [List.getElem?_map] at hz
      obtain ⟨c, hcx1, rfl⟩ := Option.map_eq_some_iff.mp hz
      clear hF hN
      k_with "subscriptTail" => (k_here; (with_reducible show wpAny _ _ (subscriptTail _ _ (Value.ref _) (Value.int _ _)) _ _ _); (k_dflt (refine' item_put ?k1 ?k2 ?k3 ?k4 ?k5 ?_ ?k6; (case k1 => k_asm); (case k2 => exact .tail _ (.tail _ (.tail _ (.tail _ hh1)))); (case k3 => omega); (case k4 => omega); (case k5 => assumption); (case k6 => with_unfolding_all rfl))))
      k_steps
      refine CompEnd_of (by k_asm) (by k_asm) (fun _ q => q) off (.inr ⟨_, .tail _ hh1, rfl, _, rfl⟩) ⟨rfl, ?_⟩
      rw [List.take_add_one, hcx1, List.map_append]
      refine IntsAre.append hzs ?_
      show IntsAre _ [heightF (turnR fs k t) a.rs.length c]
      rw [hheight c (List.mem_of_getElem? hcx1)]
      exact .cons _ _ .nil
    case done2 =>
      rintro zs nw2 ⟨rfl, hzs⟩ D2 h3 tk3 F9 N9 off
      rw [List.size_toArray, hhs, List.take_length] at hzs
      clear hF hN
      k_with "compareOp NotEq ref ref" => (k_dflt (refine' ints_ne ?k1 ?k2 ?k3 ?k4 ?_; (case k1 => k_asm); (case k2 => exact ⟨ys, _, .tail _ (.head _), hys⟩); (case k3 => exact ⟨zs, _, .head _, hzs⟩); (case k4 => ke_room)))
      k_steps
      exact SPost.intro (by k_asm) (news_sub N9 fun _ q => .tail _ (.tail _ q)) ⟨a, n1, fs, lf, k, t, sd, bf, hl, Ls, C, hT1, hT2, hH, rfl, rfl, rfl, trivial⟩
end Mine
namespace Mine
section
variable {prog : Program} {w : World} {A : Around} {E : Value → Shared → Prop} {s : Shared} {h₀ : Heap} {L : Addr} {m : Str → Option Value}
/-- how its test ends -/
def TestEnd (h₀ : Heap) (L : Addr) (m : Str → Option Value) (s₁ : Shared) (nw : Led) (ok : Bool) (s₃ : Shared) : Prop := ok = true ∧ ∃ h'' tk'', s₃ = { s₁ with heap := h'', toks := tk'' } ∧ Fr h₀ L h'' m ∧ News h₀ L h'' nw
/-- a comprehension over a list of one item, its variable a cell -/
theorem ListComp_cell {env : Env} {ct iter : Expr} {x : Str} {px pe : Pos} {scope : Scope} {cl : List (Str × Addr)} {pos : Pos} {Q : Value → Shared → Prop} (hh : A.handled = none)
    (hclos : closureFor scope env = pure cl) (hkind : scope.kind = .function) (hnames : ∀ z ∈ scope.names, z.2 = .local → scope.names.lookup z.1 = some .local)
    (hcells : ∀ n acc, cellsFrom n scope.names acc = (x, n) :: acc) (hpush : ∀ h, pushCells h scope.names = h.push { cls := .type "cell", data := .cell none }) (hx : (relabel scope env).names.lookup x = some .cell) (hdbg : (x == ("__debug__" : Str)) = false)
    (h : wpAny (model prog w) A (eval iter env) (fun xv s₁ => ∃ ax v0 n nw, xv = .ref ax ∧ Fr h₀ L s₁.heap m ∧ News h₀ L s₁.heap nw ∧ (ax, listOf #[v0] n) ∈ nw ∧
      (∀ c oc C oC D I oI h' tk E', oc.data = .cell (some v0) → LCg.NsObj oC (fun _ => none) → Fr h₀ L h' m → News h₀ L h' ((c, oc) :: (C, oC) :: (D, LCg.lst []) :: (I, oI) :: nw) →
        wpAny (model prog w) A (isTrue ct (compEnvC scope ((x, c) :: cl) C env) (eval ct (compEnvC scope ((x, c) :: cl) C env))) (TestEnd h₀ L m s₁ ((c, oc) :: (C, oC) :: (D, LCg.lst []) :: (I, oI) :: nw)) E' { s₁ with heap := h', toks := tk }) ∧
      (∀ D h' tk, Fr h₀ L h' m → News h₀ L h' ((D, listOf #[v0] 1) :: nw) → Q (.ref D) { s₁ with heap := h', toks := tk })) E s)
    (hs : ∀ x, foldedSetIterable iter env x = pure x) :
    wpAny (model prog w) A (eval (.ListComp (.Name x pe) [⟨.Name x px, iter, [ct], 0⟩] scope pos) env) Q E s := by
  rw [eval_ListComp]
  refine wpAny_comprehension_free (use := none) rfl hs hclos hkind hnames (wpAny_mono h (fun xv s₁ h₁ => ?_) fun _ _ e => e)
  obtain ⟨ax, v0, n, nw, rfl, F, N, hm, test, fin⟩ := h₁
  have hl := News.isList N hm
  refine wpAny_pyIter_list hl ?_
  have F1 := F.push { cls := .type "list_iterator", data := .fields #[.ref ax, .int 0 0] }
  have N1 := News.push F N { cls := .type "list_iterator", data := .fields #[.ref ax, .int 0 0] }
  have hst0 : (s₁.heap.push { cls := .type "list_iterator", data := .fields #[.ref ax, .int 0 0] }).IsListIter s₁.heap.objs.size ax 0 := ⟨_, Heap.get?_push_size _ rfl, rfl, rfl⟩
  have hax : ax < s₁.heap.objs.size := Heap.lt_size (N _ hm).1
  have offI : ∀ p ∈ nw, p.1 ≠ s₁.heap.objs.size := fun p hp => Nat.ne_of_lt (Heap.lt_size (N p hp).1)
  generalize s₁.heap.objs.size = I at F1 N1 hst0 hax offI ⊢
  generalize hH1 : s₁.heap.push { cls := .type "list_iterator", data := .fields #[.ref ax, .int 0 0] } = H1 at F1 N1 hst0 ⊢
  clear hH1
  refine wpAny_newObj_type ?_
  have F2 := F1.push { cls := .type "list", data := .seq #[] }
  have N2 := News.push F1 N1 { cls := .type "list", data := .seq #[] }
  have offD : ∀ p ∈ (I, _) :: nw, p.1 ≠ H1.objs.size := fun p hp => Nat.ne_of_lt (Heap.lt_size (N1 p hp).1)
  dsimp only
  generalize H1.objs.size = D at F2 N2 offD ⊢
  have hI0 := (N1 _ (.head _)).2
  have offDn : ∀ p ∈ nw, p.1 ≠ D := fun p hp => offD p (.tail _ hp)
  have hDI : I ≠ D := offD _ (.head _)
  replace N2 : News h₀ L _ ((D, LCg.lst []) :: nw) := news_sub N2 fun p hp => by
    rcases List.mem_cons.mp hp with rfl | hp
    · exact .head _
    · exact .tail _ (.tail _ hp)
  have hst1 := hst0.at (h' := H1.push { cls := .type "list", data := .seq #[] }) fun o e => Heap.get?_push_of_some _ e
  have hI2 : I < (H1.push { cls := .type "list", data := .seq #[] }).objs.size := by obtain ⟨_, e, _⟩ := hst1; exact Heap.lt_size e
  generalize H1.push { cls := .type "list", data := .seq #[] } = H2 at F2 N2 hst1 hI2 ⊢
  clear N1 F1 hst0 offD
  simp only [newFunctionEnv, Option.isSome_some, if_true]
  refine wpAny_bind (wpAny_alloc ?_)
  refine wpAny_bind (wpAny_layCells _ (fun name kind cells => by cases hkc : kind == NameKind.cell <;> simp [hkc]) _ _ _ _ ?_)
  rw [hcells, hpush]
  dsimp only
  have F3 := F2.push { cls := .type "dict", data := .dict #[] }
  have N3 := News.push F2 N2 { cls := .type "dict", data := .dict #[] }
  have offC : ∀ p ∈ (D, LCg.lst []) :: nw, p.1 ≠ H2.objs.size := fun p hp => Nat.ne_of_lt (Heap.lt_size (N2 p hp).1)
  have hCI : I ≠ H2.objs.size := Nat.ne_of_lt hI2
  have hst2 := hst1.at (h' := H2.push { cls := .type "dict", data := .dict #[] }) fun o e => Heap.get?_push_of_some _ e
  have hI3 : I < (H2.push { cls := .type "dict", data := .dict #[] }).objs.size := by obtain ⟨_, e, _⟩ := hst2; exact Heap.lt_size e
  generalize H2.objs.size = C at N3 offC hCI ⊢
  generalize H2.push { cls := .type "dict", data := .dict #[] } = H3 at F3 N3 hst2 hI3 ⊢
  clear F2 N2 hst1 hI2
  have F4 := F3.push { cls := .type "cell", data := .cell none }
  have N4 := News.push F3 N3 { cls := .type "cell", data := .cell none }
  have offc : ∀ p ∈ (C, ({ cls := .type "dict", data := .dict #[] } : Obj)) :: (D, LCg.lst []) :: nw, p.1 ≠ H3.objs.size := fun p hp => Nat.ne_of_lt (Heap.lt_size (N3 p hp).1)
  have hcI : I ≠ H3.objs.size := Nat.ne_of_lt hI3
  have hst3 := hst2.at (h' := H3.push { cls := .type "cell", data := .cell none }) fun o e => Heap.get?_push_of_some _ e
  generalize H3.objs.size = c at N4 offc hcI ⊢
  generalize H3.push { cls := .type "cell", data := .cell none } = H4 at F4 N4 hst3 ⊢
  clear F3 N3 hst2 hI3
  refine wpAny_bind ?_
  rw [List.forIn_nil]
  refine wpAny_pure (wpAny_pure ?_)
  dsimp only
  show codeAny (model prog w) A (.compStart _ 0 (.ref I) (.ref D) (compEnvC scope ((x, c) :: cl) C env)) (compPost (model prog w) A E none Q (.ref D) C) { s₁ with heap := H4 }
  have hlook : (compEnvC scope ((x, c) :: cl) C env).cells.lookup x = some c := by
    show List.lookup x ((x, c) :: cl) = some c
    rw [List.lookup_cons, beq_self_eq_true]
  have hlx : H4.IsList ax #[v0] := News.isList N4 (.tail _ (.tail _ (.tail _ hm)))
  have W := Walks.list (prog := prog) (w := w) hh I ax (Nat.ne_of_lt hax) #[v0]
  have loop : ∀ s₃ : Shared, s₃ = { s₁ with heap := H4 } → codeAny (model prog w) A (.compLoop (.ListComp (.Name x pe) [⟨.Name x px, iter, [ct], 0⟩] scope pos) 0 (.ref I) (.ref D) (compEnvC scope ((x, c) :: cl) C env)) (compPost (model prog w) A E none Q (.ref D) C) s₃ := by
    rintro s₃ rfl
    refine codeAny_compLoop_tests (fun k s' => (k = 1 ∧ s' = { s₁ with heap := H4 }) ∨ (k = 0 ∧ ∃ h' tk, s' = { s₁ with heap := h', toks := tk } ∧ Fr h₀ L h' m ∧ News h₀ L h' ((C, ({ cls := .type "dict", data := .dict #[] } : Obj)) :: (D, listOf #[v0] 1) :: nw) ∧ h'.IsListIter I ax 1)) ?_ 1 (.inl ⟨rfl, rfl⟩)
    rintro k s' (⟨rfl, rfl⟩ | ⟨rfl, h', tk, rfl, F', N', st'⟩)
    · refine W.item 0 _ _ _ (Nat.lt_succ_self 0) ⟨hst3, hlx⟩ fun v h₂ tk₂ hPv hst₂ hk₂ => ?_
      obtain rfl : v0 = v := by simpa using hPv
      have F5 := LCg.fr_but F4 hk₂ (Ne.symm hI0.1) hI0.2
      have N5 := LCg.news_but N4 hk₂ fun p hp => by
        rcases List.mem_cons.mp hp with rfl | hp
        · exact Ne.symm hcI
        rcases List.mem_cons.mp hp with rfl | hp
        · exact Ne.symm hCI
        rcases List.mem_cons.mp hp with rfl | hp
        · exact Ne.symm hDI
        exact offI p hp
      refine wpAny_assign_Name (wpAny_storeName_cell hkind hx hlook ⟨_, (N5 _ (.head _)).1, rfl⟩ fun h₃ hc₃ hs₃ => ?_)
      have z := (N5 _ (.head _)).2
      have F6 := F5.change hs₃ z.1 z.2
      obtain ⟨oc, hoc, doc⟩ := hc₃
      obtain ⟨oI, eI, cI⟩ := hst₂.1
      have N6 : News h₀ L h₃ ((c, oc) :: (C, ({ cls := .type "dict", data := .dict #[] } : Obj)) :: (D, LCg.lst []) :: (I, oI) :: nw) := fun p hp => by
        rcases List.mem_cons.mp hp with rfl | hp
        · exact ⟨hoc, z⟩
        rcases List.mem_cons.mp hp with rfl | hp
        · exact ⟨hs₃.extBut _ _ (offc _ (.head _)) (N5 _ (.tail _ (.head _))).1, (N5 _ (.tail _ (.head _))).2⟩
        rcases List.mem_cons.mp hp with rfl | hp
        · exact ⟨hs₃.extBut _ _ (offc _ (.tail _ (.head _))) (N5 _ (.tail _ (.tail _ (.head _)))).1, (N5 _ (.tail _ (.tail _ (.head _)))).2⟩
        rcases List.mem_cons.mp hp with rfl | hp
        · exact ⟨hs₃.extBut _ _ hcI eI, hI0⟩
        · exact ⟨hs₃.extBut _ _ (offc _ (.tail _ (.tail _ hp))) (N5 _ (.tail _ (.tail _ (.tail _ hp)))).1, (N5 _ (.tail _ (.tail _ (.tail _ hp)))).2⟩
      refine wpAny_tests_one ?_
      refine wpAny_mono (test c oc C _ D I oI h₃ _ _ doc ⟨#[], _, rfl, ?_, fun _ => rfl⟩ F6 N6) (fun ok s₃ hq => ?_) (fun _ _ e => e)
      · intro e he
        simp at he
      obtain ⟨rfl, h₄, tk₄, rfl, F7, N7⟩ := hq
      simp only [if_true]
      rw [eval_Name (hd := hdbg)]
      refine wpAny_bind (wpAny_standAt (wpAny_loadName_cell hkind hx hlook ⟨oc, (N7 _ (.head _)).1, doc⟩ ?_))
      refine append_at (its := #[]) (n := 0) (N7 _ (.tail _ (.tail _ (.head _)))).1 fun h₅ hs₅ hD₅ => ⟨0, Nat.lt_succ_self 0, .inr ⟨rfl, h₅, _, rfl, ?_, ?_, ?_⟩⟩
      · exact F7.change hs₅ (N7 _ (.tail _ (.tail _ (.head _)))).2.1 (N7 _ (.tail _ (.tail _ (.head _)))).2.2
      · intro p hp
        rcases List.mem_cons.mp hp with rfl | hp
        · exact ⟨hs₅.extBut _ _ (Ne.symm (offC _ (.head _))) (N7 _ (.tail _ (.head _))).1, (N7 _ (.tail _ (.head _))).2⟩
        rcases List.mem_cons.mp hp with rfl | hp
        · exact ⟨hD₅, (N7 _ (.tail _ (.tail _ (.head _)))).2⟩
        · exact ⟨hs₅.extBut _ _ (offDn p hp) (N7 _ (.tail _ (.tail _ (.tail _ (.tail _ hp))))).1, (N7 _ (.tail _ (.tail _ (.tail _ (.tail _ hp))))).2⟩
      · exact ⟨oI, hs₅.extBut _ _ hDI (N7 _ (.tail _ (.tail _ (.tail _ (.head _))))).1, cI⟩
    · refine W.done _ _ _ ⟨st', News.isList N' (.tail _ (.tail _ hm))⟩ fun h₂ tk₂ hk₂ => ?_
      have F5 := LCg.fr_but F' hk₂ (Ne.symm hI0.1) hI0.2
      have N5 := LCg.news_but N' hk₂ fun p hp => by
        rcases List.mem_cons.mp hp with rfl | hp
        · exact Ne.symm hCI
        rcases List.mem_cons.mp hp with rfl | hp
        · exact Ne.symm hDI
        exact offI p hp
      refine ⟨fun _ => none, ⟨_, #[], _, (N5 _ (.head _)).1, rfl, ?_, fun _ => rfl⟩, fun h'' hs'' => fin D h'' _ (F5.change hs'' (N5 _ (.head _)).2.1 (N5 _ (.head _)).2.2) fun p hp => ?_⟩
      · intro e he
        simp at he
      · rcases List.mem_cons.mp hp with rfl | hp
        · exact ⟨hs''.extBut _ _ (offC (D, LCg.lst []) (.head _)) (N5 _ (.tail _ (.head _))).1, (N5 _ (.tail _ (.head _))).2⟩
        · exact ⟨hs''.extBut _ _ (offC _ (.tail _ hp)) (N5 _ (.tail _ (.tail _ hp))).1, (N5 _ (.tail _ (.tail _ hp))).2⟩
  exact codeAny_compStart_list (loop _ rfl) (W.self 0 _ _ _ ⟨hst3, hlx⟩ (loop _ rfl))
end
end Mine
namespace Mine
local macro_rules | `(tactic| walk_at $s:str) => `(tactic| k_extra $s)
local macro_rules | `(tactic| k_mem) => `(tactic| assumption)
theorem Chn.roots {fs : Nat → Inf} {lf t : List Nat} {k n : Nat} (c : Chn fs lf k t n) : ∀ x, x < n → rootF (turnR fs k t) n x = k ∨ rootF (turnR fs k t) n x = x := by
  intro x hx
  have hlen := c.len
  rcases List.mem_append.mp (c.all x hx) with hm | hm
  · have e : turnR fs k t x = fs x := turn_off (c.off hm)
    by_cases hh : hangs (turnR fs k t x)
    · obtain ⟨n', rfl⟩ : ∃ n', n = n' + 1 := ⟨n - 1, by omega⟩
      have hl : 0 < lf.length := List.length_pos_of_mem hm
      unfold rootF
      rw [if_pos hh]
      rcases c.side x hm with e2 | ⟨d, hd, e2, _⟩
      · rw [e, e2] at hh; exact absurd rfl hh.1
      · have e3 : nxt (turnR fs k t) x = d := by
          unfold nxt
          rw [e, e2, show (x : Int) + ((d : Int) - x) = d by omega]; rfl
        rw [e3]
        exact .inl (root_turn c.cnd c.link hd (by omega))
    · exact .inr (rootF_stop (by omega) hh)
  · exact .inl (root_turn c.cnd c.link hm (by omega))
theorem Chn.groups {fs : Nat → Inf} {lf t : List Nat} {k n : Nat} (c : Chn fs lf k t n) : ∃ ats, (groupsF (turnR fs k t) n n).filter (fun p => decide (1 < p.2.length)) = [(k, ats)] ∧ ∀ x ∈ k :: t, x ∈ ats := by
  have hlen := c.len
  match t, c.ne, c with
  | d :: t, _, c =>
    have hk : ∀ x ∈ k :: d :: t, rootF (turnR fs k (d :: t)) n x = k := fun x hx => root_turn c.cnd c.link hx (by omega)
    obtain ⟨ats, h1, h2⟩ := groups_big c.roots (c.inc k (.head _)) (c.inc d (.tail _ (.head _))) (fun e => (List.nodup_cons.mp c.cnd).1 (by rw [e]; exact .head _)) (hk k (.head _)) (hk d (.tail _ (.head _)))
    exact ⟨ats, h1, fun x hx => h2 x (c.inc x hx) (hk x hx)⟩
theorem ints_kf : ∀ {vs : List Value} {zs : List Int}, IntsAre vs zs → kf_ints vs = true
  | _, _, .nil => rfl
  | _, _, .cons _ _ r => by simpa [kf_ints] using ints_kf r
theorem ints_any : ∀ {vs : List Value} {zs : List Int} {z : Int}, IntsAre vs zs → z ∈ zs → vs.any (isInt z) = true
  | _, _, _, .nil, h => nomatch h
  | _, _, z, .cons i t r, h => by
    rw [List.any_cons]
    rcases List.mem_cons.mp h with rfl | h
    · simp [isInt]
    · rw [ints_any r h, Bool.or_true]
theorem ints_dat {nw : Led} : ∀ {vs : List Value} {zs : List Int}, IntsAre vs zs → DatAll nw vs (zs.map Dat.int)
  | _, _, .nil => .nil
  | _, _, .cons i t r => .cons (.int i t) (ints_dat r)
section
variable {prog : Program} {w : World} {A : Around} {E : Value → Shared → Prop} {s : Shared} {h₀ : Heap} {L : Addr} {nw : Led} {Q : Value → Shared → Prop}
theorem one_nil {D1 D2 H : Addr} {vs : List Value} {zs : List Int} {k k' k'' : Nat} (N : News h₀ L s.heap nw) (h1 : (D1, listOf #[.ref H] k) ∈ nw) (h2 : (H, listOf vs.toArray k') ∈ nw) (hi : IntsAre vs zs) (h3 : (D2, listOf #[] k'') ∈ nw) (hu : A.units + 64 < cLine) (h : Q (.bool false) s) : wpAny (model prog w) A (compareOp .Eq (.ref D1) (.ref D2)) Q E s := by
  refine kqd_eq (xs := [.ref H]) (ys := []) (ds := [.list (zs.map Dat.int)]) (es := []) N h1 rfl rfl (.cons (.list h2 (ints_dat hi)) .nil) (fun _ q => q) h3 rfl rfl .nil (fun _ q => q) ?_ (fun _ q => nomatch q) hu ?_
  · intro d hd
    rw [List.mem_singleton.mp hd]
    simp [kqdOk]
  · simpa using h
end
set_option maxHeartbeats 1000000 in
theorem st17 {w : World} {mean : ExcName → Option Value} {mg mb : Str → Option Value} {H0 : Heap} {L : Addr} {m : Str → Option Value} {nw : Led} (G : Gr w mean mg mb H0) (hK : St13 L m nw) : LStep w 17 H0 L m nw (St13 L) := by
  intro fa cdv s E hE F N
  obtain ⟨K0, X, T⟩ := G
  revert X; k_fill; intro X
  k_with_none
  dsimp only [lawEnv] at hE ⊢
  obtain ⟨S, hS⟩ : ∃ S, lawScope = S := ⟨_, rfl⟩
  rw [hS] at hE ⊢
  conv at hS => lhs; whnf
  subst hS
  conv => arg 3; arg 1; whnf
  obtain ⟨a, n1, fs, lf, k, t, sd, bf, hl, Ls, C, hT1, hT2, hH, hkn⟩ := hK
  replace F := fr_over hkn F
  have few := Ls.row.few
  have hlen := C.len
  obtain ⟨oc1, oc2, lvs, cvs, lk, ck, fx, d1, d2, hl2, hc2⟩ := Ls.fix
  have hcs : cvs.length = (k :: t).length := by rw [hc2.length, List.length_map]
  have hct : (k :: t).length = t.length + 1 := rfl
  obtain ⟨ats, hats, hin⟩ := C.groups
  have fm1 := fx.m1
  have fm2 := fx.m2
  k_with "eval ListComp" => (refine stop_here ?_)
  k_with "call ref" => (refine stop_here ?_)
  k_steps
  refine Stop.go ?_
  refine ListComp_cell (m := over [(Str.ofString "left", .ref a.left), (Str.ofString "side", .ref sd), (Str.ofString "before", .ref bf)] m) (h₀ := H0) (L := L) (by rfl) (by with_unfolding_all rfl) (by rfl) (by decide) (fun _ _ => rfl) (fun _ => rfl) (by with_unfolding_all rfl) (by decide) ?_ (by intro _; rfl)
  k_steps
  refine Stop.go ?_
  k_dflt (refine' spec_use (chains_ok Ls.row C.fitT hats) ?k1 ?k2 ?k3 ?k4 ?k5 ?kK ?kd ?ku ?_; (case k1 => k_asm); (case k2 => k_asm); (case k3 => k_asm); (case k4 => k_asm); (case k5 => k_asm); (case kK => exact rfl); (case kd => ktr_room); (case ku => ktr_units))
  rintro v nw1 h1 tk1 ⟨D0, H, kD, kH, vs, rfl, hD0, hHm, hvs, hsub⟩ F2 N2
  refine ⟨D0, .ref H, kD, nw1, rfl, F2, N2, hD0, ?_, ?_⟩
  · rintro c oc Cc oC D I oI h' tk E' doc hC F9 N9
    obtain ⟨nw5, hX⟩ : ∃ X : Led, X = (c, oc) :: (Cc, oC) :: (D, LCg.lst []) :: (I, oI) :: nw1 := ⟨_, rfl⟩
    rw [← hX] at N9 ⊢
    have sub5 : ∀ p ∈ nw1, p ∈ nw5 := fun p q => by rw [hX]; exact .tail _ (.tail _ (.tail _ (.tail _ q)))
    have hcc : (c, oc) ∈ nw5 := by rw [hX]; exact .head _
    clear hX
    have fm2' := sub5 _ (hsub _ fm2)
    have fxc := sub5 _ (hsub _ fx.c)
    have hH5 := sub5 _ hHm
    clear N2 F2 F N
    k_with_none
    k_with "eval ListComp" => (k_dflt (refine LCt.ListComp_T (F₀ := by k_asm) (by with_unfolding_all rfl) (by decide) (by rfl) (by decide) (by rfl) ?_))
    k_with "CompSrcT" => (refine stop_here ?_)
    k_steps
    refine Stop.go ?_
    refine LCt.CompSrcT.ledger (by rfl) F9 N9 fxc (by rw [PySem.sizeLine_eq]; simp only [List.size_toArray]; omega)
      (fun g => comp_invT (fun i ys nw' => nw' = nw5 ∧ ys = []) ⟨rfl, rfl⟩ ?turn ?done)
    case turn =>
      rintro i ys nw' v I2 oI2 C2 oC2 D2 m₂ h3 tk3 E2 hi9 hP ⟨rfl, rfl⟩ hC2 hx F8 N8 off ne
      rw [List.size_toArray] at hi9
      obtain ⟨x, t1, hcx1, hcy1⟩ := nat_at hc2 (x := i) (by omega)
      obtain rfl : v = .int (x : Nat) t1 := Option.some.inj (hP.symm.trans (by simpa using hcy1))
      have hxa := hin x (List.mem_of_getElem? hcx1)
      have hany : (!vs.any (isInt ((x : Nat) : Int))) = false := by rw [ints_any hvs (List.mem_map.mpr ⟨x, hxa, rfl⟩)]; rfl
      clear N9 F9
      k_with "compareOp NotIn int ref" => (k_dflt (refine' kf_notin (its := vs.toArray) ?k1 ?k2 ?k3 hany ?_; (case k1 => k_asm); (case k2 => exact .tail _ (.tail _ (.tail _ hH5))); (case k3 => exact ints_kf hvs)))
      k_steps
      exact CompEnd_of (by k_asm) (by k_asm) (fun _ q => q) off (.inr ⟨_, fxc, rfl, _, rfl⟩) ⟨rfl, rfl⟩
    case done =>
      rintro ys nw' ⟨rfl, rfl⟩ D2 h3 tk3 F8 N8 off
      clear N9 F9
      k_with "compareOp Eq ref ref" => (k_dflt (refine' ints_eq (zs := []) ?k1 ?k2 ?k3 ?k4 ?_; (case k1 => k_asm); (case k2 => exact ⟨[], _, .tail _ (.head _), .nil⟩); (case k3 => exact ⟨[], _, .head _, .nil⟩); (case k4 => ke_room)))
      k_steps
      refine ⟨rfl, _, _, rfl, by k_asm, news_sub (by k_asm) fun _ q => .tail _ (.tail _ q)⟩
  · rintro D3 h3 tk3 F9 N9
    clear N2 F2 F N
    k_with_none
    k_with "compareOp Eq ref ref" => (k_dflt (refine' one_nil (H := H) ?k1 ?k2 ?k3 hvs ?k5 ?k4 ?_; (case k1 => k_asm); (case k2 => exact .tail _ (.head _)); (case k3 => exact .tail _ (.tail _ hHm)); (case k5 => exact .head _); (case k4 => ke_room)))
    k_steps
    exact SPost.intro (by k_asm) (news_sub (by k_asm) fun _ q => .tail _ (.tail _ (hsub _ q))) ⟨a, n1, fs, lf, k, t, sd, bf, hl, Ls, C, hT1, hT2, hH, rfl, rfl, rfl, trivial⟩
end Mine
namespace Mine
local macro_rules | `(tactic| walk_at $s:str) => `(tactic| k_extra $s)
local macro_rules | `(tactic| k_mem) => `(tactic| assumption)
theorem rev_head {k : Nat} {t : List Nat} : ∃ s, (k :: t).reverse = lastOf k t :: s := by
  cases h : (k :: t).reverse with
  | nil => simp at h
  | cons z s =>
    have h2 := congrArg List.head? h
    rw [List.head?_reverse, last_some] at h2
    simp at h2
    exact ⟨s, by rw [h2]⟩
theorem next_flip {cs : List Nat} {p d : Nat} (h : Next cs p d) : Next cs.reverse d p := next_rev (by rw [List.reverse_reverse]; exact h)
/-- turned about once more -/
theorem Chn.back {fs : Nat → Inf} {lf t : List Nat} {k n : Nat} (c : Chn fs lf k t n) : ∃ s, (k :: t).reverse = lastOf k t :: s ∧ s.length = t.length ∧ (∀ x ∈ s, x ∈ k :: t) ∧
    walkF (-1) (s.length + 1) (turnR fs k t) (lastOf k t) [] = some (loosed (turnR fs k t) (lastOf k t :: s), links (turnR fs k t) (lastOf k t) s) ∧
    (∀ x ∈ lf, turnR (turnR fs k t) (lastOf k t) s x = fs x) ∧ (∀ x ∈ (k :: t).take ((k :: t).length - 1), turnR (turnR fs k t) (lastOf k t) s x = fs x) ∧ (turnR (turnR fs k t) (lastOf k t) s (lastOf k t)).parent = 0 := by
  obtain ⟨s, hs⟩ := rev_head (k := k) (t := t)
  have l2 := turn_link c.cnd c.link
  have hr : ((k :: t).reverse).Nodup := (List.reverse_perm _).nodup_iff.mpr c.cnd
  have hmem : ∀ x, x ∈ lastOf k t :: s ↔ x ∈ k :: t := fun x => by rw [← hs]; exact List.mem_reverse
  have hlen := congrArg List.length hs
  rw [List.length_reverse] at hlen
  simp only [List.length_cons] at hlen
  rw [hs] at l2 hr
  have hend : lastOf (lastOf k t) s = k := by
    have h1 := last_some (lastOf k t) s
    rw [← hs, List.getLast?_reverse] at h1
    simpa using h1.symm
  refine ⟨s, hs, by omega, fun x hx => (hmem x).mp (.tail _ hx), walk_turn (ls := []) l2 hr (.inl (by rw [hend]; exact head_loose c.cnd)) (fun d _ => by omega) (Nat.lt_succ_self _), fun x hx => ?_, fun x hx => ?_, ?_⟩
  · have ho := c.off hx
    rw [turn_off (fun q => ho ((hmem x).mp q)), turn_off ho]
  · obtain ⟨i, hi⟩ := List.mem_iff_getElem?.mp hx
    have hil := (List.getElem?_eq_some_iff.mp hi).1
    rw [List.length_take] at hil
    rw [List.getElem?_take_of_lt (by omega)] at hi
    have hN : Next (k :: t) x ((k :: t)[i + 1]'(by simp at hil ⊢; omega)) := ⟨i, hi, List.getElem?_eq_getElem _⟩
    have hN2 := next_flip hN
    rw [hs] at hN2
    rw [turn_on hr hN2, turn_on c.cnd hN]
    have e := c.link.next hN
    show (⟨- -(fs x).parent, CUR, - -(fs x).yoff⟩ : Inf) = fs x
    rw [Int.neg_neg, Int.neg_neg, ← e.2]
  · rw [turn_head hr]
    match s, l2, hr with
    | [], _, _ => exact absurd (by simpa using hlen) c.ne
    | d :: s, l2, hr => rw [if_pos (link_hangs hr l2).1]; rfl
section
variable {prog : Program} {w : World} {A : Around} {E : Value → Shared → Prop} {s : Shared} {h₀ : Heap} {L : Addr} {m : Str → Option Value} {nw : Led} {Q : Value → Shared → Prop}
theorem item_end {value slice : Expr} {D : Addr} {vs : List Value} {n : Nat} {u : Tok} {v : Value} (N : News h₀ L s.heap nw) (hm : (D, listOf vs.toArray n) ∈ nw) (hv : vs[vs.length - 1]? = some v) (h : Q v s)
    (he : subscripted slice false (.ref D) (.int (-1) u) = operate [.ref D, .int (-1) u] (getItem (.ref D) (.int (-1) u))) :
    wpAny (model prog w) A (subscriptTail value slice (.ref D) (.int (-1) u)) Q E s := by
  have hl := News.isList N hm
  have hlen := (List.getElem?_eq_some_iff.mp hv).1
  refine tail_any hl.typeIs slot_list_getitem.lookup (wpAny_getItem_list_neg hl (by decide) ?_ (by decide) ?_ h) he
  · rw [List.size_toArray]; omega
  · rw [List.size_toArray, show ((-1 : Int) + (vs.length : Nat)).toNat = vs.length - 1 by omega]; simpa using hv
theorem slice_put {value slice : Expr} {l : Addr} {vs : List Value} {n : Nat} {vl vu : Value} {lo hi : Option Int} (F : Fr h₀ L s.heap m) (N : News h₀ L s.heap nw) (hm : (l, listOf vs.toArray n) ∈ nw) (hz : vs.length ≤ 100) (pl : IsPart vl lo) (pu : IsPart vu hi)
    (h : ∀ D h', Fr h₀ L h' m → News h₀ L h' ((D, listOf (kms_pick vs lo hi).toArray 0) :: nw) → (∀ p ∈ nw, p.1 < D) → Q (.ref D) { s with heap := h' })
    (hs : subscripted slice false (.ref l) (.ref s.heap.objs.size) = operate [.ref s.heap.objs.size, .ref l] (getItem (.ref l) (.ref s.heap.objs.size))) (ht : ∀ r, letTemporaryGo value (.ref l) r = pure ()) :
    wpAny (model prog w) A (subscriptTail value slice (.ref l) (.ref s.heap.objs.size)) Q E { s with heap := s.heap.push { cls := .type "slice", data := .fields #[vl, vu, .none] } } :=
  kms_slice_lit F N (News.isList N hm) pl pu rfl h hs ht (by rw [PySem.sizeLine_eq]; simp only [List.size_toArray]; omega)
end
theorem pick_last (vs : List Value) : kms_pick vs none (some (-1)) = vs.take (vs.length - 1) := by
  unfold kms_pick kms_lo kms_hi
  simp
theorem pick_upto (vs : List Value) (j : Nat) : kms_pick vs none (some ((j : Nat) : Int)) = vs.take j := by
  unfold kms_pick kms_lo kms_hi
  simp only [Int.toNat_natCast, if_neg (show ¬ ((j : Int) < 0) by omega)]
  rw [List.drop_zero, Nat.sub_zero, kmk_take_min]
theorem pick_from (vs : List Value) (j : Nat) : kms_pick vs (some ((j : Nat) : Int)) none = vs.drop j := by
  unfold kms_pick kms_lo kms_hi
  simp only [Int.toNat_natCast, if_neg (show ¬ ((j : Int) < 0) by omega)]
  rw [kmk_drop_min, List.take_of_length_le (by rw [List.length_drop]; omega)]
theorem nats_take {vs : List Value} {cs : List Nat} (h : IntsAre vs (natInts cs)) (j : Nat) : IntsAre (vs.take j) (natInts (cs.take j)) := by
  have := h.take j
  unfold natInts at this ⊢
  rw [← List.map_take] at this; exact this
theorem nats_drop {vs : List Value} {cs : List Nat} (h : IntsAre vs (natInts cs)) (j : Nat) : IntsAre (vs.drop j) (natInts (cs.drop j)) := by
  have := h.drop j
  unfold natInts at this ⊢
  rw [← List.map_drop] at this; exact this
theorem ToldIn.take {nw : Led} {D' : Addr} {xs : List Inf} {j : Nat} (as : List Addr) (k : Nat) (h : (D', listOf ((as.map Value.ref).take j).toArray k) ∈ nw) (hl : as.length = xs.length) (h3 : ∀ (i : Nat) (a : Addr) (x : Inf), as[i]? = some a → xs[i]? = some x → TupIn nw a x) : ToldIn nw D' (xs.take j) := by
  refine ⟨as.take j, k, by rw [List.map_take]; exact h, by rw [List.length_take, List.length_take, hl], fun i a x ha hx => ?_⟩
  by_cases e : i < j
  · rw [List.getElem?_take_of_lt e] at ha hx
    exact h3 i a x ha hx
  · rw [List.getElem?_take_eq_none (by omega)] at ha; cases ha
theorem ToldIn.drop {nw : Led} {D' : Addr} {xs : List Inf} {j : Nat} (as : List Addr) (k : Nat) (h : (D', listOf ((as.map Value.ref).drop j).toArray k) ∈ nw) (hl : as.length = xs.length) (h3 : ∀ (i : Nat) (a : Addr) (x : Inf), as[i]? = some a → xs[i]? = some x → TupIn nw a x) : ToldIn nw D' (xs.drop j) := by
  refine ⟨as.drop j, k, by rw [List.map_drop]; exact h, by rw [List.length_drop, List.length_drop, hl], fun i a x ha hx => ?_⟩
  rw [List.getElem?_drop] at ha hx
  exact h3 _ a x ha hx
def St18 (L : Addr) (m : Str → Option Value) (nw : Led) : Prop := ∃ a n1 fs lf k t sd bf hl T2, LS L a n1 T2 lf (k :: t) (some (.ref hl)) nw ∧ Chn fs lf k t a.rs.length ∧ ToldIn nw sd (lf.map fs) ∧ ToldIn nw bf ((k :: t).map fs) ∧ (∀ x ∈ lf, T2 x = fs x) ∧ (∀ x ∈ (k :: t).take ((k :: t).length - 1), T2 x = fs x) ∧ (T2 (lastOf k t)).parent = 0 ∧ Knows m [(Str.ofString "left", .ref a.left), (Str.ofString "side", .ref sd), (Str.ofString "before", .ref bf)]
set_option maxHeartbeats 1000000 in
theorem st18 {w : World} {mean : ExcName → Option Value} {mg mb : Str → Option Value} {H0 : Heap} {L : Addr} {m : Str → Option Value} {nw : Led} (G : Gr w mean mg mb H0) (hK : St13 L m nw) : LStep w 18 H0 L m nw (St18 L) := by
  intro fa cdv s E hE F N
  obtain ⟨K0, X, T⟩ := G
  revert X; k_fill; intro X
  k_with_none
  dsimp only [lawEnv] at hE ⊢
  obtain ⟨S, hS⟩ : ∃ S, lawScope = S := ⟨_, rfl⟩
  rw [hS] at hE ⊢
  conv at hS => lhs; whnf
  subst hS
  conv => arg 3; arg 1; whnf
  obtain ⟨a, n1, fs, lf, k, t, sd, bf, hl, Ls, C, hT1, hT2, hH, hkn⟩ := hK
  obtain ⟨s2, hs2, hl2', hin2, hw2, hb1, hb2, hb3⟩ := C.back
  have hlen := C.len
  replace F := fr_over hkn F
  have few := Ls.row.few
  obtain ⟨oc1, oc2, lvs, cvs, lk, ck, fx, d1, d2, hl2, hc2⟩ := Ls.fix
  have hcs : cvs.length = (k :: t).length := by rw [hc2.length, List.length_map]
  obtain ⟨z, tc, hcx, hcy⟩ := nat_at hc2 (x := (k :: t).length - 1) (by simp)
  obtain rfl : lastOf k t = z := by
    rw [← List.getLast?_eq_getElem?, last_some] at hcx
    exact Option.some.inj hcx
  rw [← hcs] at hcy
  have fm1 := fx.m1
  have fm2 := fx.m2
  have kT1 := fun nw1 hk => hT1.kept (nw' := nw1) N Ls.row hk
  have kT2 := fun nw1 hk => hT2.kept (nw' := nw1) N Ls.row hk
  k_with "subscriptTail" => (k_here; (with_reducible show wpAny _ _ (subscriptTail _ _ (Value.ref _) (Value.int _ _)) _ _ _); (k_dflt (refine' item_end ?k1 ?k2 ?k5 ?_ ?k6; (case k1 => k_asm); (case k2 => exact fx.c); (case k5 => exact hcy); (case k6 => with_unfolding_all rfl))))
  k_with "call ref" => ((k_dflt (refine' spec_use (turn_chain_ok Ls.row (C.inc _ (lastOf_mem k t)) C.fitT hw2 (by omega) (fun x hx => C.inc _ (hin2 _ (links_mem hx)))) ?k1 ?k2 ?k3 ?k4 ?k5 ?kK ?kd ?ku ?_; (case k1 => k_asm); (case k2 => k_asm); (case k3 => k_asm); (case k4 => k_asm); (case k5 => k_asm); (case kK => exact rfl); (case kd => ktr_room); (case ku => ktr_units)); (rintro v nw1 h1 tk1 ⟨rfl, hKp, R1⟩ F2 N2); (try dsimp only); (try k_fold)))
  k_steps
  exact SPost.intro (by k_asm) (by k_asm) ⟨a, n1, fs, lf, k, t, sd, bf, hl, _, Ls.kept hKp R1, C, kT1 _ hKp, kT2 _ hKp, hb1, hb2, hb3, rfl, rfl, rfl, trivial⟩
end Mine
namespace Mine
local macro_rules | `(tactic| walk_at $s:str) => `(tactic| k_extra $s)
local macro_rules | `(tactic| k_mem) => `(tactic| assumption)
set_option maxHeartbeats 1000000 in
theorem st19 {w : World} {mean : ExcName → Option Value} {mg mb : Str → Option Value} {H0 : Heap} {L : Addr} {m : Str → Option Value} {nw : Led} (G : Gr w mean mg mb H0) (hK : St18 L m nw) : LStepR w 19 H0 L m nw (fun _ _ => False) := by
  intro fa cdv s E hE F N
  obtain ⟨K0, X, T⟩ := G
  revert X; k_fill; intro X
  k_with_none
  dsimp only [lawEnv] at hE ⊢
  obtain ⟨S, hS⟩ : ∃ S, lawScope = S := ⟨_, rfl⟩
  rw [hS] at hE ⊢
  conv at hS => lhs; whnf
  subst hS
  conv => arg 3; arg 1; whnf
  obtain ⟨a, n1, fs, lf, k, t, sd, bf, hl, T2, Ls, C, hT1, hT2, hb1, hb2, hb3, hkn⟩ := hK
  have hlen := C.len
  replace F := fr_over hkn F
  have few := Ls.row.few
  obtain ⟨oc1, oc2, lvs, cvs, lk, ck, fx, d1, d2, hl2, hc2⟩ := Ls.fix
  have hcs : cvs.length = (k :: t).length := by rw [hc2.length, List.length_map]
  have hct : (k :: t).length = t.length + 1 := rfl
  obtain ⟨z, tc, hcx, hcy⟩ := nat_at hc2 (x := (k :: t).length - 1) (by simp)
  obtain rfl : lastOf k t = z := by
    rw [← List.getLast?_eq_getElem?, last_some] at hcx
    exact Option.some.inj hcx
  rw [← hcs] at hcy
  obtain ⟨r, hr⟩ := has_row (C.inc _ (lastOf_mem k t))
  have e1 : lf.map T2 = lf.map fs := List.map_congr_left fun x hx => hb1 x hx
  have e2 : ((k :: t).take ((k :: t).length - 1)).map T2 = ((k :: t).map fs).take ((k :: t).length - 1) := by
    rw [← List.map_take]; exact List.map_congr_left fun x hx => hb2 x hx
  have ok2 : ∀ x ∈ ((k :: t).map fs).take ((k :: t).length - 1), PyData.strOk x.bond = true := fun x hx => by
    obtain ⟨y, hy, rfl⟩ := List.mem_map.mp (List.mem_of_mem_take hx)
    exact C.ok_chain y hy
  have fm1 := fx.m1
  have fm2 := fx.m2
  k_with "call ref" => (refine stop_here ?_)
  k_steps
  refine Stop.go ?_
  k_dflt (refine' spec_use (told_ok Ls.row fx.l hl2 (fun c hc => C.inn c (List.mem_append_left _ hc)) (by omega)) ?k1 ?k2 ?k3 ?k4 ?k5 ?kK ?kd ?ku ?_; (case k1 => k_asm); (case k2 => k_asm); (case k3 => k_asm); (case k4 => k_asm); (case k5 => k_asm); (case kK => exact rfl); (case kd => ktr_room); (case ku => ktr_units))
  rintro v nw1 h1 tk1 ⟨D1, rfl, hsub, hT⟩ F2 N2
  rw [e1] at hT
  replace Ls := Ls.sub hsub
  replace fx := fx.sub hsub
  replace hT1 := hT1.sub hsub
  replace hT2 := hT2.sub hsub
  replace fm1 := hsub _ fm1
  replace fm2 := hsub _ fm2
  clear hsub
  (try dsimp only); (try k_fold)
  k_with "compareOp Eq ref ref" => (k_dflt (refine' told_eq ?k1 hT hT1 C.ok_side ?k4 ?_; (case k1 => k_asm); (case k4 => ke_room)))
  k_with "subscriptTail Name Slice ref ref" => (refine stop_here ?_)
  k_steps
  refine Stop.go ?_
  k_dflt (refine' slice_put (lo := none) (hi := some (-1)) ?y1F ?y1N fx.c (by omega) ?y1p ?y1q ?_ ?y1s ?y1t; (case y1F => k_asm); (case y1N => k_asm); (case y1p => kmk_part); (case y1q => kmk_part); (case y1s => with_unfolding_all rfl); (case y1t => kmk_pure))
  intro Dc hc3 F3 N3 l3
  rw [pick_last, hcs] at N3
  obtain ⟨nwc, hXc⟩ : ∃ X : Led, X = (Dc, listOf (List.take ((k :: t).length - 1) cvs).toArray 0) :: nw1 := ⟨_, rfl⟩
  rw [← hXc] at N3
  have sub3 : ∀ p ∈ nw1, p ∈ nwc := fun p q => by rw [hXc]; exact .tail _ q
  have hDc : (Dc, listOf (List.take ((k :: t).length - 1) cvs).toArray 0) ∈ nwc := by rw [hXc]; exact .head _
  clear hXc
  replace Ls := Ls.sub sub3
  replace hT2 := hT2.sub sub3
  replace fx := fx.sub sub3
  have hcI := nats_take hc2 ((k :: t).length - 1)
  replace fm1 := fx.m1
  replace fm2 := fx.m2
  (try dsimp only)
  k_steps
  refine Stop.go ?_
  k_dflt (refine' spec_use (told_ok Ls.row hDc hcI (fun c hc => C.inc c (List.mem_of_mem_take hc)) (by rw [List.length_take]; omega)) ?k1 ?k2 ?k3 ?k4 ?k5 ?kK ?kd ?ku ?_; (case k1 => k_asm); (case k2 => k_asm); (case k3 => k_asm); (case k4 => k_asm); (case k5 => k_asm); (case kK => exact rfl); (case kd => ktr_room); (case ku => ktr_units))
  rintro v nw4 h4 tk4 ⟨D2, rfl, hsub, hTb⟩ F4 N4
  rw [e2] at hTb
  replace Ls := Ls.sub hsub
  replace hT2 := hT2.sub hsub
  replace fx := fx.sub hsub
  replace fm1 := fx.m1
  replace fm2 := fx.m2
  (try dsimp only); (try k_fold)
  k_steps
  refine Stop.go ?_
  obtain ⟨bas, bk, hb4, hb5, hb6⟩ := hT2.ex
  have hbl : (bas.map Value.ref).length = (k :: t).length := by rw [List.length_map, hb5, List.length_map]
  k_dflt (refine' slice_put (lo := none) (hi := some (-1)) ?y2F ?y2N hb4 (by omega) ?y2p ?y2q ?_ ?y2s ?y2t; (case y2F => k_asm); (case y2N => k_asm); (case y2p => kmk_part); (case y2q => kmk_part); (case y2s => with_unfolding_all rfl); (case y2t => kmk_pure))
  intro Db hb7 F5 N5 l5
  rw [pick_last, hbl] at N5
  obtain ⟨nwd, hXd⟩ : ∃ X : Led, X = (Db, listOf (List.take ((k :: t).length - 1) (bas.map Value.ref)).toArray 0) :: nw4 := ⟨_, rfl⟩
  rw [← hXd] at N5
  have sub5 : ∀ p ∈ nw4, p ∈ nwd := fun p q => by rw [hXd]; exact .tail _ q
  have hDb : (Db, listOf (List.take ((k :: t).length - 1) (bas.map Value.ref)).toArray 0) ∈ nwd := by rw [hXd]; exact .head _
  clear hXd
  have hTc : ToldIn nwd Db (((k :: t).map fs).take ((k :: t).length - 1)) := ToldIn.take bas 0 hDb hb5 fun i a x h1 h2 => let ⟨t1, t2, t3, n, hm⟩ := hb6 i a x h1 h2; ⟨t1, t2, t3, n, sub5 _ hm⟩
  replace hTb := hTb.sub sub5
  replace fx := fx.sub sub5
  replace Ls := Ls.sub sub5
  replace fm1 := fx.m1
  replace fm2 := fx.m2
  k_with_none
  k_with "compareOp Eq ref ref" => (k_dflt (refine' told_eq ?k1 hTb hTc ok2 ?k4 ?_; (case k1 => k_asm); (case k4 => ke_room)))
  k_with "subscriptTail" => (k_here; (with_reducible show wpAny _ _ (subscriptTail _ _ (Value.ref _) (Value.int _ _)) _ _ _); first
      | (refine row_at (by k_asm) (fun _ q => q) Ls.row hr ?_ (by with_unfolding_all rfl))
      | (k_dflt (refine' item_end ?k1 ?k2 ?k5 ?_ ?k6; (case k1 => k_asm); (case k2 => exact fx.c); (case k5 => exact hcy); (case k6 => with_unfolding_all rfl))))
  k_with "getAttr ref" => ((with_reducible show wpAny _ _ (getAttr _ (Str.ofString "parent") _) _ _ _); refine att_parent (by k_asm) (by k_asm) (by k_asm) (fun _ q => q) Ls.row hr ?_; intro t'; rw [hb3])
  (try dsimp only)
  k_steps
  exact RPost.ret F5 N5
end Mine
namespace Mine
/-- what the turning about does to the chain's first places alone -/
structure Cutted (fs : Nat → Inf) (lf : List Nat) (k : Nat) (t : List Nat) (n r p : Nat) : Prop where
  walk : walkF ((p : Nat) : Int) ((t.take r).length + 1) fs k [] = some (loosed fs (k :: t.take r), links fs k (t.take r))
  side : lf.map (turnR fs k (t.take r)) = lf.map fs
  rest : ((k :: t).drop (r + 1)).map (turnR fs k (t.take r)) = ((k :: t).map fs).drop (r + 1)
  head : (turnR fs k (t.take r) k).parent = 0 ∧ (turnR fs k (t.take r) k).bond = Str.ofString ""
  mid : ∀ i q d, i < r → (k :: t)[i]? = some q → (k :: t)[i + 1]? = some d → turnR fs k (t.take r) d = ⟨(q : Int) - d, CUR, -(fs q).yoff⟩
  fitT : Fit (turnR fs k (t.take r)) n
  root : ∀ c ∈ (k :: t).take (r + 1), rootF (turnR fs k (t.take r)) n c = k
theorem Chn.cut {fs : Nat → Inf} {lf t : List Nat} {k n r p : Nat} (c : Chn fs lf k t n) (hr : t[r]? = some p) : Cutted fs lf k t n r p := by
  have hrl := (List.getElem?_eq_some_iff.mp hr).1
  have hlen := c.len
  have e : k :: t = (k :: t.take r) ++ t.drop r := by rw [List.cons_append, List.take_append_drop]
  have etake : (k :: t).take (r + 1) = k :: t.take r := rfl
  have hn' : (k :: t.take r).Nodup := by have := c.cnd; rw [e] at this; exact (List.nodup_append.mp this).1
  have l' : LinkL fs (k :: t.take r) := by have := c.link; rw [e] at this; exact link_prefix this
  have hsub : ∀ x ∈ k :: t.take r, x ∈ k :: t := fun x hx => by rw [← etake] at hx; exact List.mem_of_mem_take hx
  have hp : p ∈ t.drop r := List.mem_of_getElem? (i := 0) (by rw [List.getElem?_drop]; exact hr)
  have hoff : ∀ x ∈ t.drop r, x ∉ k :: t.take r := fun x hx hm => by
    have := c.cnd; rw [e] at this
    exact (List.nodup_append.mp this).2.2 x hm x hx rfl
  have hlast : Next (k :: t) (lastOf k (t.take r)) p := by
    refine ⟨r, ?_, by simpa using hr⟩
    have h1 := last_some k (t.take r)
    rw [List.getLast?_eq_getElem?, List.length_cons, List.length_take, Nat.min_eq_left (by omega), Nat.add_sub_cancel, ← etake, List.getElem?_take_of_lt (by omega)] at h1
    exact h1
  have hk : hangs (fs k) := by
    match t, c.ne, c with
    | d :: t, _, c => exact (link_hangs c.cnd c.link).1
  refine ⟨?_, List.map_congr_left fun x hx => turn_off (fun q => c.off hx (hsub x q)), ?_, ?_, fun i q d hi h1 h2 => ?_, fit_turn hn' l' c.fit fun x hx => c.inc x (hsub x hx), fun x hx => ?_⟩
  · refine walk_turn (ls := []) l' hn' (.inr ?_) (fun d hd q => ?_) (Nat.lt_succ_self _)
    · have h1 := c.link.next hlast
      refine ⟨⟨fun q => ?_, h1.2⟩, by rw [h1.1]; omega⟩
      rw [h1.1] at q
      have : p = lastOf k (t.take r) := by omega
      exact hoff p hp (by rw [this]; exact lastOf_mem _ _)
    · have : d = p := by omega
      exact hoff p hp (by rw [← this]; exact .tail _ hd)
  · rw [← List.map_drop]
    refine List.map_congr_left fun x hx => turn_off (hoff x ?_)
    exact hx
  · rw [turn_head hn', if_pos hk]; exact ⟨rfl, rfl⟩
  · have hN : Next (k :: t.take r) q d := by
      rw [← etake]
      exact ⟨i, by rw [List.getElem?_take_of_lt (by omega)]; exact h1, by rw [List.getElem?_take_of_lt (by omega)]; exact h2⟩
    rw [turn_on hn' hN]
    have := (l'.next hN).1
    show (⟨-(fs q).parent, CUR, -(fs q).yoff⟩ : Inf) = _
    rw [this, show -((d : Int) - q) = (q : Int) - d by omega]
  · refine root_turn hn' l' (by rw [← etake]; exact hx) ?_
    rw [List.length_take]; omega
section
variable {prog : Program} {w : World} {A : Around} {E : Value → Shared → Prop} {s : Shared} {h₀ : Heap} {L : Addr} {nw : Led} {Q : Value → Shared → Prop} {D1 D2 : Addr} {x : Inf}
theorem tup_ne (N : News h₀ L s.heap nw) (T1 : TupIn nw D1 x) (T2 : TupIn nw D2 x) (hb : PyData.strOk x.bond = true) (hu : A.units + 64 < cLine) (h : Q (.bool false) s) : wpAny (model prog w) A (compareOp .NotEq (.ref D1) (.ref D2)) Q E s := by
  obtain ⟨t1, t2, t3, n, h1⟩ := T1
  obtain ⟨u1, u2, u3, n', h2⟩ := T2
  have ok : kqdOk 8 (dOf x) = true := by unfold dOf; simp [kqdOk, hb]
  obtain ⟨as, ra⟩ := kqd_in N 8 (.tuple h1 (.cons (.int _ t1) (.cons (.str _ t2) (.cons (.int _ t3) .nil)))) ok
  obtain ⟨bs, rb⟩ := kqd_in N 8 (.tuple h2 (.cons (.int _ u1) (.cons (.str _ u2) (.cons (.int _ u3) .nil)))) ok
  have la := kqd_lay 8 (dOf x) ok
  have e : PyData.eqv (kqdP (dOf x)) (kqdP (dOf x)) = true := (kqd_eqv 8 (dOf x) (dOf x) 8 ok ok).mpr rfl
  have sh : SeqAt.shaped (kqdP (dOf x)) = true := by
    unfold SeqAt.shaped; rw [la.1, Bool.true_and]; exact decide_eq_true (Nat.le_trans la.2 (by decide))
  refine ne_dataH ra rb sh sh hu ?_
  rw [show PyData.eqv (kqdP (.tuple [.int x.parent, .str x.bond, .int x.yoff])) (kqdP (.tuple [.int x.parent, .str x.bond, .int x.yoff])) = true from e]
  exact h
end
end Mine
namespace Mine
local macro_rules | `(tactic| walk_at $s:str) => `(tactic| k_extra $s)
local macro_rules | `(tactic| k_mem) => `(tactic| assumption)
set_option maxHeartbeats 16000000 in
theorem st12 {w : World} {mean : ExcName → Option Value} {mg mb : Str → Option Value} {H0 : Heap} {L : Addr} {m : Str → Option Value} {nw : Led} (G : Gr w mean mg mb H0) (hK : St11 L m nw) : LStepR w 12 H0 L m nw (St11 L) := by
  intro fa cdv s E hE F N
  obtain ⟨K0, X, T⟩ := G
  revert X; k_fill; intro X
  k_with_none
  dsimp only [lawEnv] at hE ⊢
  obtain ⟨S, hS⟩ : ∃ S, lawScope = S := ⟨_, rfl⟩
  rw [hS] at hE ⊢
  conv at hS => lhs; whnf
  subst hS
  conv => arg 3; arg 1; whnf
  have hK' := hK
  obtain ⟨a, n1, fs, lf, ch, sd, bf, hl, x, tw, hn1, Ls, hp, h2, hb, hT1, hT2, hH, hkn⟩ := hK
  obtain ⟨k, t, rfl, C⟩ := hb.chn hp h2
  have F0 := F
  have N0 := N
  replace F := fr_over hkn F
  have few := Ls.row.few
  have hlen := C.len
  have htl : 0 < t.length := List.length_pos_iff.mpr C.ne
  obtain ⟨oc1, oc2, lvs, cvs, lk, ck, fx, d1, d2, hl2, hc2⟩ := Ls.fix
  have hcs : cvs.length = (k :: t).length := by rw [hc2.length, List.length_map]
  have hct : (k :: t).length = t.length + 1 := rfl
  have fm1 := fx.m1
  have fm2 := fx.m2
  k_with "call builtin:len" => (k_dflt (refine' len_put ?k1 ?k2 ?k3 ?_; (case k1 => k_asm); (case k2 => exact fx.c); (case k3 => (rw [List.size_toArray]; omega))); (rw [show ((cvs.toArray.size : Nat) : Int) = (((k :: t).length : Nat) : Int) from by rw [List.size_toArray, hcs]]))
  k_with "call ref" => (refine stop_here ?_)
  k_steps
  rotate_left
  · exact RPost.next F0 N0 hK'
  refine Stop.go ?_
  have gT1 := fun o' => hT1.drawn (o' := o') N Ls.src
  have gT2 := fun o' => hT2.drawn (o' := o') N Ls.src
  rw [show (((k :: t).length : Nat) : Int) - 1 = ((t.length : Nat) : Int) from by omega]
  k_dflt (refine' spec_use (draw_ok (lim := t.length) Ls.src (by omega) (by omega) (by omega)) ?k1 ?k2 ?k3 ?k4 ?k5 ?kK ?kd ?ku ?_; (case k1 => k_asm); (case k2 => k_asm); (case k3 => k_asm); (case k4 => k_asm); (case k5 => k_asm); (case kK => exact rfl); (case kd => ktr_room); (case ku => ktr_units))
  rintro v nw1 h1 tk1 ⟨r, t1, ox, rfl, hrl, rfl, hS2⟩ F2 N2
  have Ls1 := Ls.draw (hS2 _ (fun _ q => q) Ls.src)
  have fx1 := fx.draw (o' := ox) Ls.ord
  replace gT1 := gT1 ox
  replace gT2 := gT2 ox
  clear hT1 hT2 hH Ls fx fm1 fm2 N0 F0
  (try dsimp only); (try k_fold)
  obtain ⟨nw1, hX1⟩ : ∃ X : Led, X = put a.src ox nw := ⟨_, rfl⟩
  rw [← hX1] at N2 Ls1 fx1 gT1 gT2
  clear hX1 hS2
  have fm1 := fx1.m1
  have fm2 := fx1.m2
  obtain ⟨k0, tc, hcx, hcy⟩ := nat_at hc2 (x := 0) (by simp)
  obtain rfl : k = k0 := by simpa using hcx
  have hci : cvs.toArray[(0 : Int).toNat]? = some (.int (k : Nat) tc) := by simpa using hcy
  obtain ⟨p, tp, hpx, hpy⟩ := nat_at hc2 (x := r + 1) (by omega)
  have hpi : cvs.toArray[((1 : Int) + (r : Nat)).toNat]? = some (.int (p : Nat) tp) := by rw [show ((1 : Int) + (r : Nat)).toNat = r + 1 by omega]; simpa using hpy
  have hrp : t[r]? = some p := by simpa using hpx
  have U := C.cut hrp
  have kT1 := fun nw1 hk => gT1.kept (nw' := nw1) N2 Ls1.row hk
  have kT2 := fun nw1 hk => gT2.kept (nw' := nw1) N2 Ls1.row hk
  k_with "subscriptTail" => (k_here; (with_reducible show wpAny _ _ (subscriptTail _ _ (Value.ref _) (Value.int _ _)) _ _ _); (k_dflt (refine' item_put ?k1 ?k2 ?k3 ?k4 ?k5 ?_ ?k6; (case k1 => k_asm); (case k2 => exact fx1.c); (case k3 => omega); (case k4 => omega); (case k5 => assumption); (case k6 => with_unfolding_all rfl))))
  k_steps
  refine Stop.go ?_
  k_dflt (refine' spec_use (turn_chain_ok Ls1.row (C.inc k (.head _)) C.fit U.walk (by rw [List.length_take]; omega) (fun x hx => C.inc _ (.tail _ (List.mem_of_mem_take (links_mem hx))))) ?k1 ?k2 ?k3 ?k4 ?k5 ?kK ?kd ?ku ?_; (case k1 => k_asm); (case k2 => k_asm); (case k3 => k_asm); (case k4 => k_asm); (case k5 => k_asm); (case kK => exact rfl); (case kd => ktr_room); (case ku => ktr_units))
  rintro v nw2 h2' tk2 ⟨rfl, hKp, R1⟩ F3 N3
  have Ls2 : LS L a (n1 + 1) (turnR fs k (t.take r)) lf (k :: t) (some (.ref hl)) nw2 := Ls1.kept hKp R1
  have fx2 := fx1.kept Ls1.ord hKp
  replace kT1 := kT1 _ hKp
  replace kT2 := kT2 _ hKp
  clear gT1 gT2 Ls1 fx1 fm1 fm2 hKp R1
  have fm1 := fx2.m1
  have fm2 := fx2.m2
  (try dsimp only); (try k_fold)
  k_steps
  refine Stop.go ?_
  k_dflt (refine' spec_use (told_ok Ls2.row fx2.l hl2 (fun c hc => C.inn c (List.mem_append_left _ hc)) (by omega)) ?k1 ?k2 ?k3 ?k4 ?k5 ?kK ?kd ?ku ?_; (case k1 => k_asm); (case k2 => k_asm); (case k3 => k_asm); (case k4 => k_asm); (case k5 => k_asm); (case kK => exact rfl); (case kd => ktr_room); (case ku => ktr_units))
  rintro v nw3 h3 tk3 ⟨D1, rfl, hsub, hTl⟩ F4 N4
  rw [U.side] at hTl
  replace Ls2 := Ls2.sub hsub
  replace fx2 := fx2.sub hsub
  replace kT1 := kT1.sub hsub
  replace kT2 := kT2.sub hsub
  replace fm1 := hsub _ fm1
  replace fm2 := hsub _ fm2
  clear hsub
  (try dsimp only); (try k_fold)
  k_with "compareOp NotEq ref ref" => (k_dflt (refine' told_ne ?k1 hTl kT1 C.ok_side ?k4 ?_; (case k1 => k_asm); (case k4 => ke_room)))
  k_with "subscriptTail Name Slice ref ref" => (refine stop_here ?_)
  k_steps
  refine Stop.go ?_
  k_dflt (refine' slice_put (lo := some (1 + (r : Int))) (hi := none) ?y1F ?y1N fx2.c (by omega) ?y1p ?y1q ?_ ?y1s ?y1t; (case y1F => k_asm); (case y1N => k_asm); (case y1p => kmk_part); (case y1q => kmk_part); (case y1s => with_unfolding_all rfl); (case y1t => kmk_pure))
  intro Dc hc3 F5 N5 l5
  rw [show (1 : Int) + (r : Nat) = ((r + 1 : Nat) : Int) by omega, pick_from] at N5
  obtain ⟨nw4, hX4⟩ : ∃ X : Led, X = (Dc, listOf (List.drop (r + 1) cvs).toArray 0) :: nw3 := ⟨_, rfl⟩
  rw [← hX4] at N5
  have sub4 : ∀ p ∈ nw3, p ∈ nw4 := fun p q => by rw [hX4]; exact .tail _ q
  have hDc : (Dc, listOf (List.drop (r + 1) cvs).toArray 0) ∈ nw4 := by rw [hX4]; exact .head _
  clear hX4 hTl
  replace Ls2 := Ls2.sub sub4
  replace fx2 := fx2.sub sub4
  replace kT1 := kT1.sub sub4
  replace kT2 := kT2.sub sub4
  replace fm1 := sub4 _ fm1
  replace fm2 := sub4 _ fm2
  clear sub4
  have hcI := nats_drop hc2 (r + 1)
  (try dsimp only)
  k_steps
  refine Stop.go ?_
  k_dflt (refine' spec_use (told_ok Ls2.row hDc hcI (fun c hc => C.inc c (List.mem_of_mem_drop hc)) (by rw [List.length_drop]; omega)) ?k1 ?k2 ?k3 ?k4 ?k5 ?kK ?kd ?ku ?_; (case k1 => k_asm); (case k2 => k_asm); (case k3 => k_asm); (case k4 => k_asm); (case k5 => k_asm); (case kK => exact rfl); (case kd => ktr_room); (case ku => ktr_units))
  rintro v nw5 h5 tk5 ⟨D2, rfl, hsub, hTb⟩ F6 N6
  rw [U.rest] at hTb
  replace Ls2 := Ls2.sub hsub
  replace fx2 := fx2.sub hsub
  replace kT1 := kT1.sub hsub
  replace kT2 := kT2.sub hsub
  replace fm1 := hsub _ fm1
  replace fm2 := hsub _ fm2
  clear hsub hDc hcI
  (try dsimp only); (try k_fold)
  k_steps
  refine Stop.go ?_
  obtain ⟨bas, bk, hb4, hb5, hb6⟩ := id kT2.ex
  have hbl : (bas.map Value.ref).length = (k :: t).length := by rw [List.length_map, hb5, List.length_map]
  k_dflt (refine' slice_put (lo := some (1 + (r : Int))) (hi := none) ?y2F ?y2N hb4 (by omega) ?y2p ?y2q ?_ ?y2s ?y2t; (case y2F => k_asm); (case y2N => k_asm); (case y2p => kmk_part); (case y2q => kmk_part); (case y2s => with_unfolding_all rfl); (case y2t => kmk_pure))
  intro Db hb7 F7 N7 l7
  rw [show (1 : Int) + (r : Nat) = ((r + 1 : Nat) : Int) by omega, pick_from] at N7
  obtain ⟨nw6, hX6⟩ : ∃ X : Led, X = (Db, listOf (List.drop (r + 1) (bas.map Value.ref)).toArray 0) :: nw5 := ⟨_, rfl⟩
  rw [← hX6] at N7
  have sub6 : ∀ p ∈ nw5, p ∈ nw6 := fun p q => by rw [hX6]; exact .tail _ q
  have hDb : (Db, listOf (List.drop (r + 1) (bas.map Value.ref)).toArray 0) ∈ nw6 := by rw [hX6]; exact .head _
  clear hX6
  have hTc : ToldIn nw6 Db (((k :: t).map fs).drop (r + 1)) := ToldIn.drop bas 0 hDb hb5 fun i a x h1 h2 => let ⟨t1, t2, t3, n, hm⟩ := hb6 i a x h1 h2; ⟨t1, t2, t3, n, sub6 _ hm⟩
  replace hTb := hTb.sub sub6
  replace Ls2 := Ls2.sub sub6
  replace fx2 := fx2.sub sub6
  replace kT1 := kT1.sub sub6
  replace kT2 := kT2.sub sub6
  replace hb4 := sub6 _ hb4
  have hb8 : ∀ (i : Nat) (a : Addr) (x : Inf), bas[i]? = some a → ((k :: t).map fs)[i]? = some x → TupIn nw6 a x := fun i a x h1 h2 => let ⟨t1, t2, t3, n, hm⟩ := hb6 i a x h1 h2; ⟨t1, t2, t3, n, sub6 _ hm⟩
  replace fm1 := sub6 _ fm1
  replace fm2 := sub6 _ fm2
  clear sub6 hb6
  have ok2 : ∀ x ∈ ((k :: t).map fs).drop (r + 1), PyData.strOk x.bond = true := fun x hx => by
    obtain ⟨y, hy, rfl⟩ := List.mem_map.mp (List.mem_of_mem_drop hx)
    exact C.ok_chain y hy
  k_with "compareOp NotEq ref ref" => (k_dflt (refine' told_ne ?k1 hTb hTc ok2 ?k4 ?_; (case k1 => k_asm); (case k4 => ke_room)))
  (try dsimp only)
  k_steps
  refine Stop.go ?_
  k_dflt (refine' slice_put (lo := none) (hi := some (1 + (r : Int))) ?y3F ?y3N fx2.c (by omega) ?y3p ?y3q ?_ ?y3s ?y3t; (case y3F => k_asm); (case y3N => k_asm); (case y3p => kmk_part); (case y3q => kmk_part); (case y3s => with_unfolding_all rfl); (case y3t => kmk_pure))
  intro Dp hp8 F8 N8 l8
  rw [show (1 : Int) + (r : Nat) = ((r + 1 : Nat) : Int) by omega, pick_upto] at N8
  obtain ⟨pvs, hpv⟩ : ∃ X : List Value, X = List.take (r + 1) cvs := ⟨_, rfl⟩
  rw [← hpv] at N8
  obtain ⟨nw7, hX7⟩ : ∃ X : Led, X = (Dp, listOf pvs.toArray 0) :: nw6 := ⟨_, rfl⟩
  rw [← hX7] at N8
  have sub7 : ∀ p ∈ nw6, p ∈ nw7 := fun p q => by rw [hX7]; exact .tail _ q
  have hDp : (Dp, listOf pvs.toArray 0) ∈ nw7 := by rw [hX7]; exact .head _
  clear hX7 hTb hTc hDb
  replace Ls2 := Ls2.sub sub7
  replace hb4 := sub7 _ hb4
  have hb9 : ∀ (i : Nat) (a : Addr) (x : Inf), bas[i]? = some a → ((k :: t).map fs)[i]? = some x → TupIn nw7 a x := fun i a x h1 h2 => let ⟨t1, t2, t3, n, hm⟩ := hb8 i a x h1 h2; ⟨t1, t2, t3, n, sub7 _ hm⟩
  replace fm1 := sub7 _ fm1
  replace fm2 := sub7 _ fm2
  clear sub7 hb8 kT1 kT2 fx2
  have hpI : IntsAre pvs (natInts ((k :: t).take (r + 1))) := by rw [hpv]; exact nats_take hc2 (r + 1)
  have hpl : pvs.length = r + 1 := by rw [hpv, List.length_take]; omega
  have hpat : ∀ i, i < r + 1 → pvs[i]? = cvs[i]? := fun i hi => by rw [hpv, List.getElem?_take_of_lt hi]
  have hci2 : pvs.toArray[(0 : Int).toNat]? = some (.int (k : Nat) tc) := by
    have := (hpat 0 (by omega)).trans hcy
    simpa using this
  clear hpv
  obtain ⟨rk, hrk⟩ := has_row (C.inc k (.head _))
  have hp0 := U.head.1
  have hb0 := U.head.2
  k_with_none
  k_with "exec For Name Call cons nil" => ((rename Fr _ _ _ _ => lF'); (with_unfolding_all refine' For_invVF lF' ?k1 ?k2 ?_; (case k1 => exact rfl); (case k2 => exact rfl); k_whole))
  k_with "pyIter ref" => (refine stop_here ?_)
  k_with "call type:range" => (k_dflt (refine' range2_rows ?k1 ?k2 ?_; (case k1 => k_asm); (case k2 => k_asm)); intro hr9 tk9 t9 u9 v9 hR F9 N9 keep9)
  k_with "subscriptTail" => (k_here; (with_reducible show wpAny _ _ (subscriptTail _ _ (Value.ref _) (Value.int _ _)) _ _ _); first
      | (refine row_at (by k_asm) (fun _ q => q) Ls2.row hrk ?_ (by with_unfolding_all rfl))
      | (k_dflt (refine' item_put ?k1 ?k2 ?k3 ?k4 ?k5 ?_ ?k6; (case k1 => k_asm); (case k2 => exact hDp); (case k3 => omega); (case k4 => omega); (case k5 => exact hci2); (case k6 => with_unfolding_all rfl))))
  k_with "getAttr ref" => (first
    | ((with_reducible show wpAny _ _ (getAttr _ (Str.ofString "parent") _) _ _ _); refine att_parent (by k_asm) (by k_asm) (by k_asm) (fun _ q => q) Ls2.row hrk ?_; intro t')
    | ((with_reducible show wpAny _ _ (getAttr _ (Str.ofString "bond") _) _ _ _); refine att_bond (by k_asm) (by k_asm) (by k_asm) (fun _ q => q) Ls2.row hrk ?_; intro t'))
  (try dsimp only)
  k_steps
  · exact absurd hp0 (by assumption)
  · rename (_ != _) = true => q
    rw [hb0] at q; simp at q
  refine Stop.go ?_
  have hsz : Builtin.Range.rangeSize 1 (1 + (r : Int)) 1 = ((r : Nat) : Int) := by
    rw [rangeSize_nat]; congr 1; omega
  refine range_loop (n := r) (fun i m nw' => nw' = nw7 ∧ Knows m [(Str.ofString "part", .ref Dp), (Str.ofString "before", .ref bf), (Str.ofString "spot", .int (1 + (r : Int)) _)])
    (by rfl) hR (small_one (by omega) (by omega) (by omega) (by omega)) hsz F9 N9 ⟨rfl, by rfl, by rfl, by rfl, trivial⟩ ?turn ?done
  case turn =>
    rintro i m₁ nwi I it tpl h tk hi ⟨rfl, hkn9⟩ F1 N1 off
    replace F1 := fr_turn hkn9 F1
    clear F9 N9 keep9
    obtain ⟨q, tq, hqx, hqy⟩ := nat_at hc2 (x := i) (by omega)
    obtain ⟨d, td, hdx, hdy⟩ := nat_at hc2 (x := i + 1) (by omega)
    have hA : pvs.toArray[((1 : Int) + (i : Nat)).toNat]? = some (.int (d : Nat) td) := by
      rw [show ((1 : Int) + (i : Nat)).toNat = i + 1 by omega]
      have := (hpat (i + 1) (by omega)).trans hdy
      simpa using this
    have hB : pvs.toArray[((1 : Int) + (i : Nat) - 1).toNat]? = some (.int (q : Nat) tq) := by
      rw [show ((1 : Int) + (i : Nat) - 1).toNat = i by omega]
      have := (hpat i (by omega)).trans hqy
      simpa using this
    have hil : i < bas.length := by rw [hb5, List.length_map]; omega
    have hba : bas[i]? = some bas[i] := List.getElem?_eq_getElem hil
    generalize bas[i] = ba at hba
    obtain ⟨u1, u2, u3, nn, hmb⟩ := hb9 i ba (fs q) hba (by rw [List.getElem?_map, hqx]; rfl)
    have hBf : (bas.map Value.ref).toArray[((1 : Int) + (i : Nat) - 1).toNat]? = some (.ref ba) := by
      rw [show ((1 : Int) + (i : Nat) - 1).toNat = i by omega]
      simp [hba]
    have hTd := U.mid i q d hi hqx hdx
    have hdn := C.inc d (List.mem_of_getElem? hdx)
    k_with_none
    k_with "call ref" => (refine stop_here ?_)
    k_with "subscriptTail" => (k_here; (with_reducible show wpAny _ _ (subscriptTail _ _ (Value.ref _) (Value.int _ _)) _ _ _); (k_dflt (refine' item_put ?k1 ?k2 ?k3 ?k4 ?k5 ?_ ?k6; (case k1 => k_asm); (case k2 => exact .tail _ hDp); (case k3 => omega); (case k4 => omega); (case k5 => exact hA); (case k6 => with_unfolding_all rfl))))
    k_steps
    refine Stop.go ?_
    k_dflt (refine' spec_use (told_ok (news := _ :: (I, it) :: nwi) (vs := [.int (d : Nat) td]) (cs := [d]) (Ls2.row.mono fun _ q => .tail _ (.tail _ q)) (.head _) (.cons _ _ .nil) (fun c hc => by rw [List.mem_singleton.mp hc]; exact hdn) (by simp)) ?k1 ?k2 ?k3 ?k4 ?k5 ?kK ?kd ?ku ?_; (case k1 => k_asm); (case k2 => k_asm); (case k3 => k_asm); (case k4 => k_asm); (case k5 => k_asm); (case kK => exact rfl); (case kd => ktr_room); (case ku => ktr_units))
    rintro v nw8 h8 tk8 ⟨D8, rfl, hsub8, hT8⟩ F8 N8
    obtain ⟨as, k8, g1, g2, g3⟩ := hT8.ex
    obtain ⟨a8, rfl⟩ : ∃ a8, as = [a8] := by
      match as, g2 with
      | [a8], _ => exact ⟨a8, rfl⟩
    have hTup : TupIn nw8 a8 ⟨(q : Int) - d, CUR, -(fs q).yoff⟩ := by rw [← hTd]; exact g3 0 a8 _ rfl rfl
    have h8i : ([a8].map Value.ref).toArray[(0 : Int).toNat]? = some (.ref a8) := rfl
    have hDp8 := hsub8 _ (.tail _ (.tail _ hDp))
    have hb48 := hsub8 _ (.tail _ (.tail _ hb4))
    have hmb8 := hsub8 _ (.tail _ (.tail _ hmb))
    k_with_none
    k_with "subscriptTail" => (k_here; (with_reducible show wpAny _ _ (subscriptTail _ _ (Value.ref _) (Value.int _ _)) _ _ _); first
      | (k_dflt (refine' item_put ?k1 ?k2 ?k3 ?k4 ?k5 ?_ ?k6; (case k1 => k_asm); (case k2 => exact g1); (case k3 => omega); (case k4 => omega); (case k5 => exact h8i); (case k6 => with_unfolding_all rfl)))
      | (k_dflt (refine' item_put ?k1 ?k2 ?k3 ?k4 ?k5 ?_ ?k6; (case k1 => k_asm); (case k2 => exact hDp8); (case k3 => omega); (case k4 => omega); (case k5 => assumption); (case k6 => with_unfolding_all rfl)))
      | (k_dflt (refine' item_put ?k1 ?k2 ?k3 ?k4 ?k5 ?_ ?k6; (case k1 => k_asm); (case k2 => exact hb48); (case k3 => omega); (case k4 => omega); (case k5 => exact hBf); (case k6 => with_unfolding_all rfl)))
      | (k_dflt (refine' tup_at (k := 2) ?k1 ?k2 ?k3 ?k4 ?_ ?k6; (case k1 => k_asm); (case k2 => exact hmb8); (case k3 => exact rfl); (case k4 => (simp; done)); (case k6 => with_unfolding_all rfl))))
    k_with "compareOp NotEq ref ref" => (refine stop_here ?_)
    (try dsimp only); (try k_fold)
    k_steps
    refine Stop.go ?_
    rename News _ _ _ (_ :: nw8) => N9
    refine tup_ne (x := ⟨(q : Int) - d, CUR, -(fs q).yoff⟩) N9 (let ⟨a, b, c, n, h⟩ := hTup; ⟨a, b, c, n, .tail _ h⟩) ⟨_, _, _, _, .head _⟩ ok_cur (by ke_room) ?_
    k_steps
    exact UnrEnd_of (by k_asm) N9 (fun p q => .tail _ (hsub8 p (.tail _ q))) off ⟨rfl, rfl, rfl, rfl, trivial⟩
  case done =>
    rintro m₁ nwi h tk ⟨rfl, hkn9⟩ F1 N1
    replace F1 := fr_over hkn9 F1
    clear F9 N9 keep9
    have hctl : ((k :: t).take (r + 1)).length = r + 1 := by rw [List.length_take]; omega
    have hinp : ∀ c ∈ (k :: t).take (r + 1), c < a.rs.length := fun c hc => C.inc c (List.mem_of_mem_take hc)
    have hmc := map_const U.root
    rw [hctl] at hmc
    have hfitT := U.fitT
    k_with_none
    k_with "eval ListComp" => (k_dflt (refine LCg.ListComp_U (F₀ := by k_asm) (by with_unfolding_all rfl) (by decide) (by rfl) (by decide) (by rfl) ?_))
    k_with "CompSrc" => (refine stop_here ?_)
    k_steps
    refine Stop.go ?_
    (rename Fr _ _ _ _ => hF)
    (rename News _ _ _ _ => hN)
    refine LCg.CompSrc.ledger (by rfl) hF hN hDp (by rw [PySem.sizeLine_eq]; simp only [List.size_toArray]; omega)
      (fun g => comp_inv (fun i ys nw' => nw' = nwi ∧ IntsAre ys ((((k :: t).take (r + 1)).take i).map (fun c => ((rootF (turnR fs k (t.take r)) a.rs.length c : Nat) : Int)))) ⟨rfl, by rw [List.take_zero]; exact .nil⟩ ?turn2 ?done2)
    case turn2 =>
      rintro i ys nw' v I oI C1 oC D m₂ h tk E' hi9 hP ⟨rfl, hys⟩ hC hx F9 N9 off ne
      rw [List.size_toArray] at hi9
      obtain ⟨c, t1, hcx1, hcy1⟩ := nat_at hpI (x := i) (by omega)
      obtain rfl : v = .int (c : Nat) t1 := Option.some.inj (hP.symm.trans (by simpa using hcy1))
      clear hF hN
      k_with "call ref" => ((k_dflt (refine' spec_use (root_of_ok (news := (I, oI) :: (C1, oC) :: (D, LCg.lst ys) :: nw') (Ls2.row.mono fun _ q => .tail _ (.tail _ (.tail _ q))) (hinp c (List.mem_of_getElem? hcx1)) hfitT) ?k1 ?k2 ?k3 ?k4 ?k5 ?kK ?kd ?ku ?_; (case k1 => k_asm); (case k2 => k_asm); (case k3 => k_asm); (case k4 => k_asm); (case k5 => k_asm); (case kK => exact rfl); (case kd => ktr_room); (case ku => ktr_units)); (rintro v nw1 h1 tk1 ⟨rfl, t1, rfl⟩ F2 N2); (try dsimp only); (try k_fold)))
      k_steps
      refine CompEnd_of (by k_asm) (by k_asm) (fun _ q => q) off (.inr ⟨_, hDp, rfl, _, rfl⟩) ⟨rfl, ?_⟩
      rw [List.take_add_one, hcx1, List.map_append]
      exact IntsAre.append hys (.cons _ _ .nil)
    case done2 =>
      rintro ys nw' ⟨rfl, hys⟩ D h tk F9 N9 off
      rw [List.size_toArray, hpl, List.take_of_length_le (l := (k :: t).take (r + 1)) (Nat.le_of_eq hctl), hmc] at hys
      clear hF hN
      k_with_none
      k_with "subscriptTail" => (k_here; (with_reducible show wpAny _ _ (subscriptTail _ _ (Value.ref _) (Value.int _ _)) _ _ _); (k_dflt (refine' item_put ?k1 ?k2 ?k3 ?k4 ?k5 ?_ ?k6; (case k1 => k_asm); (case k2 => exact .tail _ hDp); (case k3 => omega); (case k4 => omega); (case k5 => exact hci2); (case k6 => with_unfolding_all rfl))))
      k_with "binaryOp Mult ref int" => (refine stop_here ?_)
      k_steps
      refine Stop.go ?_
      rw [show (1 : Int) + (r : Nat) = ((r + 1 : Nat) : Int) from by omega]
      rename News _ _ _ ((_, _) :: (D, LCg.lst ys) :: _) => N8
      refine rep_put (n := r + 1) (z := ((k : Nat) : Int)) (t := tc) (by k_asm) N8 (.head _) (by omega) ?_
      intro D2 vs2 h2 F2 N2 lt2 hI2
      k_with "compareOp Eq ref ref" => (k_dflt (refine' ints_eq ?k1 ?k2 ?k3 ?k4 ?_; (case k1 => k_asm); (case k2 => exact ⟨ys, _, .tail _ (.tail _ (.head _)), hys⟩); (case k3 => exact ⟨vs2, _, .head _, hI2⟩); (case k4 => ke_room)))
      k_steps
      exact RPost.ret (by k_asm) N2
end Mine
namespace Mine
local macro_rules | `(tactic| walk_at $s:str) => `(tactic| k_extra $s)
local macro_rules | `(tactic| k_mem) => `(tactic| assumption)
theorem law_body : lawBody = [lawSt 0, lawSt 1, lawSt 2, lawSt 3, lawSt 4, lawSt 5, lawSt 6, lawSt 7, lawSt 8, lawSt 9, lawSt 10, lawSt 11, lawSt 12, lawSt 13, lawSt 14, lawSt 15, lawSt 16, lawSt 17, lawSt 18, lawSt 19] := rfl
theorem law_core {w : World} {mean : ExcName → Option Value} {mg mb : Str → Option Value} {H0 : Heap} {L fa : Addr} {cdv : Value} {s : Shared} {sc : Addr} {vs : List Value} {ns : List Int} {oc1 oc2 oc3 : Obj} {Q : Flow → Shared → Prop} {E : Value → Shared → Prop}
    (K0 : Below callerA H0 [] H0) (X : (hd.heap_39 w.params).In H0) (T : Top hd.view_39 (looseW hd.view_39 []) mean mg mb H0) (hsc : H0.IsList sc vs.toArray) (hi : IntsAre vs ns) (hn : ns.length ≤ 63)
    (hE : PassesOwn (model PySem.Challenge.rw_pb0156_01.row.prog w) (callerA.deeper (lawEnv L fa cdv)) (lawEnv L fa cdv) E)
    (F : Fr H0 L s.heap (over [(Str.ofString "script", .ref sc)] fun _ => none)) (N0 : News H0 L s.heap [(L + 3, oc3), (L + 2, oc2), (L + 1, oc1)]) (d1 : oc1.data = .cell none) (d2 : oc2.data = .cell none) (d3 : oc3.data = .cell none)
    (hret : ∀ h' tk m nw, Fr H0 L h' m → News H0 L h' nw → Q (.ret (.bool true)) { s with heap := h', toks := tk }) :
    wpAny (model PySem.Challenge.rw_pb0156_01.row.prog w) (callerA.deeper (lawEnv L fa cdv)) (execs lawBody (lawEnv L fa cdv)) Q E s := by
  have G : Gr w mean mg mb H0 := ⟨K0, X, T⟩
  have N : News H0 L s.heap [(L + 1, oc1), (L + 2, oc2), (L + 3, oc3)] := news_sub N0 fun p q => by
    rcases List.mem_cons.mp q with rfl | q
    · exact .tail _ (.tail _ (.head _))
    rcases List.mem_cons.mp q with rfl | q
    · exact .tail _ (.head _)
    rcases List.mem_cons.mp q with rfl | q
    · exact .head _
    cases q
  rw [law_body]
  refine stage (St0 L) (st0 G hsc hi hn d1 d2 d3 fa cdv s E hE F N) fun h tk m nw K F N => ?_
  refine stage (St1 L) (st1 G K fa cdv _ E hE F N) fun h tk m nw K F N => ?_
  refine stage (St2 L) (st2 G K fa cdv _ E hE F N) fun h tk m nw K F N => ?_
  refine stage (St3 L) (st3 G K fa cdv _ E hE F N) fun h tk m nw K F N => ?_
  refine stage (St4 L) (st4 G K fa cdv _ E hE F N) fun h tk m nw K F N => ?_
  refine stage (St5 L) (st5 G K fa cdv _ E hE F N) fun h tk m nw K F N => ?_
  refine stage (St6 L) (st6 G K fa cdv _ E hE F N) fun h tk m nw K F N => ?_
  refine stage (St7 L) (st7 G K fa cdv _ E hE F N) fun h tk m nw K F N => ?_
  refine stage (St8 L) (st8 G K fa cdv _ E hE F N) fun h tk m nw K F N => ?_
  refine stage (St9 L) (st9 G K fa cdv _ E hE F N) fun h tk m nw K F N => ?_
  refine stage (St10 L) (st10 G K fa cdv _ E hE F N) fun h tk m nw K F N => ?_
  refine stage (St11 L) (st11 G K fa cdv _ E hE F N) fun h tk m nw K F N => ?_
  refine stageR (St11 L) (st12 G K fa cdv _ E hE F N) (fun h tk m nw F N => hret h tk m nw F N) fun h tk m nw K F N => ?_
  refine stage (St13 L) (st13 G K fa cdv _ E hE F N) fun h tk m nw K F N => ?_
  refine stage (St13 L) (st14 G K fa cdv _ E hE F N) fun h tk m nw K F N => ?_
  refine stage (St13 L) (st15 G K fa cdv _ E hE F N) fun h tk m nw K F N => ?_
  refine stage (St13 L) (st16 G K fa cdv _ E hE F N) fun h tk m nw K F N => ?_
  refine stage (St13 L) (st17 G K fa cdv _ E hE F N) fun h tk m nw K F N => ?_
  refine stage (St18 L) (st18 G K fa cdv _ E hE F N) fun h tk m nw K F N => ?_
  exact stageR (fun _ _ => False) (st19 G K fa cdv _ E hE F N) (fun h tk m nw F N => hret h tk m nw F N) fun _ _ _ _ k => k.elim
end Mine
set_option maxHeartbeats 8000000 in
theorem PySem.Challenge.cw_pb0156_01_holds : PySem.Challenge.rw_pb0156_01.Holds := by
  refine Mine.hd ?_
  k_go0
  rename Below _ _ _ _ => K0
  rename PySem.W.Frag.In _ _ => KX
  rename Top _ _ _ _ _ _ => T
  rename Heap.IsList _ _ _ => hL
  rename IntsAre _ _ => hI
  rename ¬ _ < _ => hc
  rename Fr _ _ _ _ => F
  rename News _ _ _ _ => N
  have hlen := Nat.le_of_not_lt (fun q => hc (Int.ofNat_lt.mpr q))
  with_unfolding_all refine Mine.law_core K0 KX T hL hI hlen ?hE F N ?d1 ?d2 ?d3 ?hr
  case d1 => with_unfolding_all assumption
  case d2 => with_unfolding_all assumption
  case d3 => with_unfolding_all assumption
  case hE => passes_own
  case hr =>
    intro h' tk m' nw' F' N'
    wrow_close

