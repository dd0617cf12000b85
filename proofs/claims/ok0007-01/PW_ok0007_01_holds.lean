import PyProof.Rows.All
import Wide.All
import OpenK.AllK
import Wide.FinOn
import Lean
import PySem.Challenge.RW_ok0007_01
open PySem PySem.W PyProof.Rows PySem.Spec PySem.Calls
set_option Elab.async false
set_option compiler.extract_closed false
set_option maxRecDepth 100000
set_option maxHeartbeats 8000000
set_option rowWalk.seconds 0
namespace Mine
open_top hd for PySem.Challenge.rw_ok0007_01
end Mine
namespace Mine
/-- a term: a leaf (kind, number) or a compound of two parts -/
inductive Tm where
  | leaf (k : Str) (n : Int)
  | node (f : Int) (l r : Tm)
def Tm.opened : Tm → List Tm
  | .leaf k n => [.leaf k n]
  | .node f l r => if f = 1 then l.opened ++ r.opened else [.node f l r]
def Tm.apart : Tm → List Tm × Tm
  | .leaf k n => ([], .leaf k n)
  | .node f l r => if f = 0 then (l :: r.apart.1, r.apart.2) else ([], .node f l r)
def Tm.names : Tm → List Int
  | .leaf k n => if k = Str.ofString "v" then [n] else []
  | .node _ l r => l.names ++ r.names
def Tm.size : Tm → Nat
  | .leaf _ _ => 1
  | .node _ l r => l.size + r.size + 1
def Tm.ht : Tm → Nat
  | .leaf _ _ => 1
  | .node _ l r => max l.ht r.ht + 1
def Tm.ok : Tm → Prop
  | .leaf k n => (k = Str.ofString "v" ∨ k = Str.ofString "a" ∨ k = Str.ofString "i") ∧ 0 ≤ n ∧ n < 4
  | .node _ l r => l.ok ∧ r.ok
theorem Tm.size_pos (t : Tm) : 1 ≤ t.size := by cases t <;> simp [Tm.size]
theorem Tm.ht_le (t : Tm) : t.ht ≤ t.size := by
  induction t with
  | leaf k n => simp [Tm.ht, Tm.size]
  | node f l r h1 h2 => simp only [Tm.ht, Tm.size]; omega
theorem Tm.opened_len (t : Tm) : t.opened.length ≤ t.size := by
  induction t with
  | leaf k n => simp [Tm.opened, Tm.size]
  | node f l r h1 h2 =>
    unfold Tm.opened
    split
    · simp only [List.length_append, Tm.size]; omega
    · simp [Tm.size]
theorem Tm.names_len (t : Tm) : t.names.length ≤ t.size := by
  induction t with
  | leaf k n => unfold Tm.names; split <;> simp [Tm.size]
  | node f l r h1 h2 => simp only [Tm.names, List.length_append, Tm.size]; omega
theorem Tm.apart_len (t : Tm) : t.apart.1.length ≤ t.size := by
  induction t with
  | leaf k n => simp [Tm.apart]
  | node f l r h1 h2 =>
    unfold Tm.apart
    split
    · simp only [List.length_cons, Tm.size]; omega
    · simp
abbrev tupOf (vs : List Value) (c : Nat) : Obj := { cls := .type "tuple", data := .seq vs.toArray c }
inductive TmIn (news : List (Addr × Obj)) : Value → Tm → Prop where
  | nil : TmIn news (.ref 15) (.leaf "a" 0)
  | leaf {a : Addr} {k : Str} {tk tn : Tok} {n : Int} {c : Nat} : k ≠ Str.ofString "s" → (a, tupOf [.str k tk, .int n tn] c) ∈ news → TmIn news (.ref a) (.leaf k n)
  | node {a b : Addr} {ts tf : Tok} {f : Int} {c c' : Nat} {vl vr : Value} {l r : Tm} : (a, tupOf [.str "s" ts, .int f tf, .ref b] c) ∈ news → (b, tupOf [vl, vr] c') ∈ news → TmIn news vl l → TmIn news vr r →
      TmIn news (.ref a) (.node f l r)
/-- a leaf's own tuple: made by the law, or the text's NIL -/
inductive LeafAt (news : List (Addr × Obj)) : Addr → Str → Int → Prop where
  | nil : LeafAt news 15 "a" 0
  | mk {a : Addr} {k : Str} {tk tn : Tok} {n : Int} {c : Nat} : (a, tupOf [.str k tk, .int n tn] c) ∈ news → LeafAt news a k n
theorem TmIn.leafAt {news : List (Addr × Obj)} {v : Value} {k : Str} {n : Int} (h : TmIn news v (.leaf k n)) : ∃ a, v = .ref a ∧ LeafAt news a k n ∧ k ≠ Str.ofString "s" := by
  cases h with
  | nil => exact ⟨_, rfl, .nil, by decide⟩
  | leaf hk hm => exact ⟨_, rfl, .mk hm, hk⟩
theorem TmIn.mono {news news' : List (Addr × Obj)} {v : Value} {t : Tm} (h : TmIn news v t) (hs : ∀ p ∈ news, p ∈ news') : TmIn news' v t := by
  induction h with
  | nil => exact .nil
  | leaf hk hm => exact .leaf hk (hs _ hm)
  | node h1 h2 _ _ i1 i2 => exact .node (hs _ h1) (hs _ h2) i1 i2
inductive TmsIn (news : List (Addr × Obj)) : List Value → List Tm → Prop where
  | nil : TmsIn news [] []
  | cons {v : Value} {vs : List Value} {t : Tm} {ts : List Tm} : TmIn news v t → TmsIn news vs ts → TmsIn news (v :: vs) (t :: ts)
section
variable {news news' : List (Addr × Obj)} {v : Value} {vs ws : List Value} {t : Tm} {ts us : List Tm}
theorem TmIn.ref (h : TmIn news v t) : ∃ a, v = .ref a := by cases h <;> exact ⟨_, rfl⟩
theorem TmsIn.mono (h : TmsIn news vs ts) (hs : ∀ p ∈ news, p ∈ news') : TmsIn news' vs ts := by
  induction h with
  | nil => exact .nil
  | cons h _ ih => exact .cons (h.mono hs) ih
theorem TmsIn.length (h : TmsIn news vs ts) : vs.length = ts.length := by
  induction h with
  | nil => rfl
  | cons _ _ ih => simp [ih]
theorem TmsIn.append (h : TmsIn news vs ts) (k : TmsIn news ws us) : TmsIn news (vs ++ ws) (ts ++ us) := by
  induction h with
  | nil => exact k
  | cons h _ ih => exact .cons h ih
theorem TmsIn.snoc (h : TmsIn news vs ts) (k : TmIn news v t) : TmsIn news (vs ++ [v]) (ts ++ [t]) := h.append (.cons k .nil)
theorem TmsIn.pop (h : TmsIn news vs ts) (hne : vs ≠ []) : ∃ ws w us u, vs = ws ++ [w] ∧ ts = us ++ [u] ∧ TmsIn news ws us ∧ TmIn news w u := by
  induction h with
  | nil => exact absurd rfl hne
  | @cons v vs t ts h r ih =>
    by_cases e : vs = []
    · subst e; cases r; exact ⟨[], v, [], t, rfl, rfl, .nil, h⟩
    · obtain ⟨ws, w, us, u, rfl, rfl, h1, h2⟩ := ih e
      exact ⟨v :: ws, w, t :: us, u, rfl, rfl, .cons h h1, h2⟩
theorem TmsIn.le_size (h : TmsIn news vs ts) : vs.length ≤ (ts.map Tm.size).sum := by
  induction h with
  | nil => simp
  | @cons v vs t ts _ _ ih => have := t.size_pos; simp only [List.length_cons, List.map_cons, List.sum_cons]; omega
theorem TmsIn.get (h : TmsIn news vs ts) : ∀ (i : Nat) (v : Value), vs[i]? = some v → ∃ t, ts[i]? = some t ∧ TmIn news v t := by
  induction h with
  | nil => intro i v e; simp at e
  | cons h _ ih =>
    intro i v e
    cases i with
    | zero => simp at e; subst e; exact ⟨_, rfl, h⟩
    | succ i => simp at e; obtain ⟨t, h1, h2⟩ := ih i v e; exact ⟨t, by simpa using h1, h2⟩
theorem TmsIn.reverse (h : TmsIn news vs ts) : TmsIn news vs.reverse ts.reverse := by
  induction h with
  | nil => exact .nil
  | cons h _ ih => rw [List.reverse_cons, List.reverse_cons]; exact ih.snoc h
end
theorem TmIn.drop {q : Addr × Obj} {news : List (Addr × Obj)} {v : Value} {t : Tm} (h : TmIn (q :: news) v t) (hq : q.2.cls ≠ .type "tuple") : TmIn news v t := by
  have key : ∀ {a : Addr} {vs : List Value} {c : Nat}, (a, tupOf vs c) ∈ q :: news → (a, tupOf vs c) ∈ news := by
    intro a vs c hm
    rcases List.mem_cons.mp hm with e | hm
    · subst e; exact absurd rfl hq
    · exact hm
  induction h with
  | nil => exact .nil
  | leaf hk hm => exact .leaf hk (key hm)
  | node h1 h2 _ _ i1 i2 => exact .node (key h1) (key h2) i1 i2
theorem TmsIn.drop {q : Addr × Obj} {news : List (Addr × Obj)} {vs : List Value} {ts : List Tm} (h : TmsIn (q :: news) vs ts) (hq : q.2.cls ≠ .type "tuple") : TmsIn news vs ts := by
  induction h with
  | nil => exact .nil
  | cons h _ ih => exact .cons (h.drop hq) ih
theorem ne_of_allLt {d : Addr} {l : List (Addr × Obj)} (h : AllLt d l) : ∀ p ∈ l, p.1 ≠ d := by
  induction l with
  | nil => exact fun _ hp => nomatch hp
  | cons q r ih =>
    intro p hp
    rcases List.mem_cons.mp hp with rfl | hp
    · exact Nat.ne_of_lt h.1
    · exact ih h.2 p hp
theorem ints_pop {vs : List Value} {ns : List Int} (h : IntsAre vs ns) (hne : ns ≠ []) : ∃ ws ms k t, vs = ws ++ [.int k t] ∧ ns = ms ++ [k] ∧ IntsAre ws ms := by
  induction h with
  | nil => exact absurd rfl hne
  | @cons k t vs ns r ih =>
    by_cases e : ns = []
    · subst e; cases r; exact ⟨[], [], k, t, rfl, rfl, .nil⟩
    · obtain ⟨ws, ms, k', t', rfl, rfl, h1⟩ := ih e
      exact ⟨_ :: ws, _ :: ms, k', t', rfl, rfl, .cons _ _ h1⟩
theorem fm_nn {a b : Int} (h : 0 ≤ a) (hb : 2 ≤ b) : 0 ≤ a.fmod b := Int.fmod_nonneg h (by omega)
theorem fm_lt {a b : Int} (hb : 2 ≤ b) : a.fmod b < b := Int.fmod_lt_of_pos a (by omega)
theorem fd_nn {a b : Int} (h : 0 ≤ a) (hb : 2 ≤ b) : 0 ≤ a.fdiv b := Int.fdiv_nonneg h (by omega)
/-- membership, walked by one road -/
def InL {α : Type} (a : α) (l : List α) : Prop := a ∈ l
section
variable {α : Type} {a b : α} {l r : List α}
theorem InL.to (h : InL a l) : a ∈ l := h
theorem InL.asm (h : a ∈ l) : InL a l := h
theorem InL.head : InL a (a :: l) := List.mem_cons_self
theorem InL.tail (h : InL a l) : InL a (b :: l) := List.mem_cons_of_mem _ h
end
def Hold (P : Prop) : Prop := P
theorem hold {P : Prop} (h : Hold P) : P := h
/-- what every walk in a def's frame knows -/
structure Cx (w : World) (p : Program) (loose : List Str) (mean : ExcName → Option Value) (mg mb : Str → Option Value) (A₀ : Around) (base : Heap) (outer : List Env) (h₀ : Heap) (L : Addr) (h : Heap) (m : Str → Option Value) (news : List (Addr × Obj)) (cs : Scope) : Prop where
  B : Below A₀ base outer h₀
  F : Fr h₀ L h m
  X : (hd.heap_39 w.params).In h₀
  N : News h₀ L h news
  T : Top p loose mean mg mb h₀
  k : cs.kind = .function
end Mine
namespace Mine
section
variable {prog : Program} {w : World} {A : Around} {E : Value → Shared → Prop} {s : Shared} {h₀ : Heap} {L D : Addr} {m : Str → Option Value} {news news' : List (Addr × Obj)} {n : Nat}
/-- pop of a list whose last item is named -/
theorem m_pop {ws : List Value} {x : Value} {Q : Value → Shared → Prop} (F : Fr h₀ L s.heap m) (N : News h₀ L s.heap news) (U : Upd D (listOf (ws ++ [x]).toArray n) (listOf ws.toArray (n + 1)) news news')
    (hz : (ws ++ [x]).length ≤ 100000) (h : ∀ h', Fr h₀ L h' m → News h₀ L h' news' → Q x { s with heap := h' }) : wpAny (model prog w) A (call (.builtin "list.pop") [.ref D]) Q E s :=
  kl_pop F N (kpa_last x ws) U (Nat.le_trans hz (Nat.le_of_ble_eq_true rfl)) h
theorem m_append {ws : List Value} {x : Value} {Q : Value → Shared → Prop} (F : Fr h₀ L s.heap m) (N : News h₀ L s.heap news) (U : Upd D (listOf ws.toArray n) (listOf (ws ++ [x]).toArray (n + 1)) news news')
    (hz : ws.length ≤ 100000) (h : ∀ h', Fr h₀ L h' m → News h₀ L h' news' → Q .none { s with heap := h' }) : wpAny (model prog w) A (call (.builtin "list.append") [.ref D, x]) Q E s :=
  append_K F N (by rw [List.push_toArray]; exact U) h (by rw [List.size_toArray]; exact Nat.le_trans hz (Nat.le_of_ble_eq_true rfl))
theorem m_extendT {ws xs : List Value} {b : Addr} {c : Nat} {Q : Value → Shared → Prop} (F : Fr h₀ L s.heap m) (N : News h₀ L s.heap news) (hb : (b, tupOf xs c) ∈ news) (hne : xs ≠ []) (U : Upd D (listOf ws.toArray n) (listOf (ws ++ xs).toArray (n + 1)) news news')
    (hz : ws.length + xs.length ≤ 100000) (h : ∀ h', Fr h₀ L h' m → News h₀ L h' news' → Q .none { s with heap := h' }) : wpAny (model prog w) A (call (.builtin "list.extend") [.ref D, .ref b]) Q E s := by
  refine kup_extend F N hb (by simp) (by simpa using hne) U ?_ ?_ ?_ h
  · simp only [Bool.and_eq_true, Bool.not_eq_true', Builtin.List.listTooLong, decide_eq_true_eq, List.size_toArray, not_and]
    intro _
    have : (100000 : Nat) ≤ sizeLine := Nat.le_of_ble_eq_true rfl
    omega
  · have : (100000 : Nat) ≤ sizeLine := Nat.le_of_ble_eq_true rfl
    simp only []; omega
  · have : (100000 : Nat) ≤ sizeLine := Nat.le_of_ble_eq_true rfl
    simp only [List.size_toArray]; omega
theorem m_truthy {ws : List Value} {Q : Bool → Shared → Prop} (N : News h₀ L s.heap news) (hm : (D, listOf ws.toArray n) ∈ news) (hz : ws.length ≤ 100000)
    (h : Q (!ws.isEmpty) { s with toks := s.toks + 1 + 1 }) : wpAny (model prog w) A (truthy (.ref D)) Q E s :=
  kgr_truthy N hm rfl rfl (by omega) h
theorem m_item {value slice : Expr} {t : Addr} {l : List Value} {c : Nat} {k : Int} {u : Tok} {j : Nat} {x : Value} {Q : Value → Shared → Prop} (N : News h₀ L s.heap news) (hm : (t, tupOf l c) ∈ news)
    (hlo : -(2 ^ 63) ≤ k) (hhi : k < 2 ^ 63) (hj : seqIndex? k l.length = some j) (hx : l[j]? = some x) (h : Q x s)
    (hs : subscripted slice false (.ref t) (.int k u) = operate [.ref t, .int k u] (getItem (.ref t) (.int k u)) := by with_unfolding_all rfl) :
    wpAny (model prog w) A (subscriptTail value slice (.ref t) (.int k u)) Q E s :=
  item_tupleT ⟨_, N.get hm, rfl, c, rfl⟩ hlo hhi hj hx h hs
theorem m_leaf0 {value slice : Expr} {a : Addr} {k : Str} {i : Int} {u t1 t2 : Tok} {c : Nat} {K : Frag} {Q : Value → Shared → Prop} (F : Fr h₀ L s.heap m) (X : K.In h₀) (N : News h₀ L s.heap news) (e : K.lookup 15 = some (tupOf [.str (Str.ofString "a") t1, .int 0 t2] c))
    (l : LeafAt news' a k i) (hp : ∀ p ∈ news', p ∈ news) (h : ∀ tk, Q (.str k tk) s)
    (hs : subscripted slice false (.ref a) (.int 0 u) = operate [.ref a, .int 0 u] (getItem (.ref a) (.int 0 u))) : wpAny (model prog w) A (subscriptTail value slice (.ref a) (.int 0 u)) Q E s := by
  cases l with
  | nil => exact topTup_K F X e (by decide) (by decide) rfl rfl (h _) hs
  | mk hm => exact m_item N (hp _ hm) (by decide) (by decide) rfl rfl (h _) hs
theorem m_leaf1 {value slice : Expr} {a : Addr} {k : Str} {i : Int} {u t1 t2 : Tok} {c : Nat} {K : Frag} {Q : Value → Shared → Prop} (F : Fr h₀ L s.heap m) (X : K.In h₀) (N : News h₀ L s.heap news) (e : K.lookup 15 = some (tupOf [.str (Str.ofString "a") t1, .int 0 t2] c))
    (l : LeafAt news' a k i) (hp : ∀ p ∈ news', p ∈ news) (h : ∀ tk, Q (.int i tk) s)
    (hs : subscripted slice false (.ref a) (.int 1 u) = operate [.ref a, .int 1 u] (getItem (.ref a) (.int 1 u))) : wpAny (model prog w) A (subscriptTail value slice (.ref a) (.int 1 u)) Q E s := by
  cases l with
  | nil => exact topTup_K F X e (by decide) (by decide) rfl rfl (h _) hs
  | mk hm => exact m_item N (hp _ hm) (by decide) (by decide) rfl rfl (h _) hs
theorem m_strEqNe {x y : Str} {t u : Tok} {Q : Value → Shared → Prop} (hne : x ≠ y) (h : Q (.bool false) s) : wpAny (model prog w) A (compareOp .Eq (.str x t) (.str y u)) Q E s :=
  PyProof.Rows.eq_str (by rw [beq_eq_false_iff_ne.mpr hne]; exact h)
theorem m_strNeNe {x y : Str} {t u : Tok} {Q : Value → Shared → Prop} (hne : x ≠ y) (h : Q (.bool true) s) : wpAny (model prog w) A (compareOp .NotEq (.str x t) (.str y u)) Q E s :=
  PyProof.Rows.ne_str (by rw [bne_iff_ne.mpr hne]; exact h)
theorem m_intEqNe {x y : Int} {t u : Tok} {Q : Value → Shared → Prop} (hne : x ≠ y) (h : Q (.bool false) s) : wpAny (model prog w) A (compareOp .Eq (.int x t) (.int y u)) Q E s :=
  eq_int (by rw [beq_eq_false_iff_ne.mpr hne]; exact h)
theorem m_listAdd {xs ys : List Value} {b : Addr} {c c' : Nat} {Q : Value → Shared → Prop} (F : Fr h₀ L s.heap m) (N : News h₀ L s.heap news) (ha : (D, listOf xs.toArray c) ∈ news) (hb : (b, listOf ys.toArray c') ∈ news)
    (hz : xs.length + ys.length ≤ 100000) (h : ∀ R h', Fr h₀ L h' m → News h₀ L h' ((R, listOf (xs ++ ys).toArray 0) :: news) → (∀ p ∈ news, p.1 < R) → Q (.ref R) { s with heap := h' }) : wpAny (model prog w) A (binaryOp .Add (.ref D) (.ref b)) Q E s :=
  kmk_add_lit F N (N.isList ha) (N.isList hb) (by simp) h (by have : (100000 : Nat) ≤ sizeLine := Nat.le_of_ble_eq_true rfl; simp only []; omega)
theorem m_litem {value slice : Expr} {l : List Value} {c : Nat} {k : Int} {u : Tok} {x : Value} {Q : Value → Shared → Prop} (N : News h₀ L s.heap news) (hm : (D, listOf l.toArray c) ∈ news)
    (h0 : 0 ≤ k) (hhi : k < 2 ^ 63) (hx : l[k.toNat]? = some x) (h : Q x s)
    (hs : subscripted slice false (.ref D) (.int k u) = operate [.ref D, .int k u] (getItem (.ref D) (.int k u)) := by with_unfolding_all rfl) :
    wpAny (model prog w) A (subscriptTail value slice (.ref D) (.int k u)) Q E s :=
  have hL := N.isList hm
  tail_any hL.typeIs slot_list_getitem.lookup (wpAny_getItem_list hL h0 hhi (by simpa using hx) h) hs
theorem m_neNil {ws : List Value} {ns : List Int} {b : Addr} {c : Nat} {Q : Value → Shared → Prop} (N : News h₀ L s.heap news) (hm : (D, listOf ws.toArray n) ∈ news) (hi : IntsAre ws ns) (hb : (b, listOf #[] c) ∈ news) (hu : A.units < 9500)
    (h : Q (.bool (!decide (ns = []))) s) : wpAny (model prog w) A (compareOp .NotEq (.ref D) (.ref b)) Q E s :=
  ne_intsK (N.isList hm) hi (us := []) (N.isList hb) .nil (by have : cLine = 9900 := rfl; omega) h
theorem m_eqNil {ws : List Value} {ns : List Int} {b : Addr} {c : Nat} {Q : Value → Shared → Prop} (N : News h₀ L s.heap news) (hm : (D, listOf ws.toArray n) ∈ news) (hi : IntsAre ws ns) (hb : (b, listOf #[] c) ∈ news) (hu : A.units < 9500)
    (h : Q (.bool (decide (ns = []))) s) : wpAny (model prog w) A (compareOp .Eq (.ref D) (.ref b)) Q E s :=
  eq_intsK (N.isList hm) hi (us := []) (N.isList hb) .nil (by have : cLine = 9900 := rfl; omega) h
theorem m_reversed {ws : List Value} {Q : Value → Shared → Prop} (F : Fr h₀ L s.heap m) (N : News h₀ L s.heap news) (hm : (D, listOf ws.toArray n) ∈ news)
    (h : ∀ I h', Fr h₀ L h' m → News h₀ L h' ((I, revObj D ((ws.length : Int) - 1)) :: news) → (∀ p ∈ news, p.1 < I) → Q (.ref I) { s with heap := h' }) : wpAny (model prog w) A (call (.type "reversed") [.ref D]) Q E s :=
  krv_reversed F N (N.isList hm) h
theorem News.sub {h : Heap} (N : News h₀ L h news) (hs : ∀ p ∈ news', p ∈ news) : News h₀ L h news' := fun p hp => N p (hs p hp)
theorem News.rot3 {h : Heap} {e e1 e2 : Addr × Obj} {R : List (Addr × Obj)} (N : News h₀ L h (e :: e1 :: e2 :: R)) : News h₀ L h (e1 :: e2 :: e :: R) := fun p hp => N p (by
  simp only [List.mem_cons] at hp ⊢
  rcases hp with hp | hp | hp | hp
  · exact .inr (.inl hp)
  · exact .inr (.inr (.inl hp))
  · exact .inl hp
  · exact .inr (.inr (.inr hp)))
theorem News.rot6 {h : Heap} {a b x y e1 e2 : Addr × Obj} {R : List (Addr × Obj)} (N : News h₀ L h (a :: b :: x :: y :: e1 :: e2 :: R)) : News h₀ L h (e1 :: e2 :: a :: b :: R) := fun p hp => N p (by
  simp only [List.mem_cons] at hp ⊢
  rcases hp with hp | hp | hp | hp | hp <;> simp only [hp, true_or, or_true])
theorem News.rotI {h : Heap} {a b i : Addr × Obj} {R : List (Addr × Obj)} (N : News h₀ L h (a :: b :: i :: R)) : News h₀ L h (i :: a :: b :: R) := fun p hp => N p (by
  simp only [List.mem_cons] at hp ⊢
  rcases hp with hp | hp | hp | hp <;> simp only [hp, true_or, or_true])
theorem News.drop1 {h : Heap} {q : Addr × Obj} (N : News h₀ L h (q :: news)) : News h₀ L h news := fun p hp => N p (.tail _ hp)
/-- what a loop's turn must hand on, by a name of its own -/
def Imp3 (J J' : Nat → (Str → Option Value) → List (Addr × Obj) → Prop) : Prop := ∀ k m nx, J k m nx → J' k m nx
def Imp2 {α β : Type} (J J' : α → β → Prop) : Prop := ∀ a b, J a b → J' a b
/-- a walk behind ends that are named, not written out -/
theorem wp_hide {α : Type} {M : Model} {t : Sem α} {Q : α → Shared → Prop} (h : ∀ Q', Imp2 Q Q' → wpAny M A t Q' (fun _ _ => False) s) : wpAny M A t Q E s := wpAny_mono (h Q fun _ _ h => h) (fun _ _ h => h) fun _ _ h => h.elim
theorem wstep2 {J J' : Nat → (Str → Option Value) → List (Addr × Obj) → Prop} {Q : Flow → Shared → Prop} {k k' : Nat} {h' : Heap} {tk : Nat} (hJ : Imp3 J J') (F : Fr h₀ L h' m) (N : News h₀ L h' news) (hlt : k' < k) (hj : J k' m news) :
    WhileStep2 h₀ L s J' Q k .next { s with heap := h', toks := tk } := ⟨h', tk, m, news, k', rfl, F, N, hlt, hJ _ _ _ hj⟩
theorem While_inv3 {env : Env} {Q : Flow → Shared → Prop} {L : Addr} {test : Expr} {body : List Stmt} {pos : Pos} (J : Nat → (Str → Option Value) → List (Addr × Obj) → Prop) {n₀ : Nat}
    (F : Fr h₀ L s.heap m) (N : News h₀ L s.heap news) (hJ : J n₀ m news)
    (turn : ∀ J', Imp3 J J' → ∀ n m₁ news₁ h₁ tk₁, Fr h₀ L h₁ m₁ → News h₀ L h₁ news₁ → J n m₁ news₁ →
      wpAny (model prog w) A (isTrue test env (eval test env)) (fun b s₂ =>
        if b = true then wpAny (model prog w) A (execs body env) (WhileStep2 h₀ L s J' Q n) E s₂ else Q .next s₂) E { s with heap := h₁, toks := tk₁ })
    (hE : PassesOwn (model prog w) A env E) :
    wpAny (model prog w) A (exec (.While test body [] pos) env) Q E s := While_inv2 J F N hJ (turn J fun _ _ _ h => h) hE
end
end Mine
namespace Mine
section
variable {prog : Program} {w : World} {A : Around} {E : Value → Shared → Prop} {s : Shared} {h₀ : Heap} {L d : Addr} {m : Str → Option Value} {news : List (Addr × Obj)} {o : Obj} {kvs : List (Int × Value)} {k : Int} {t : Tok}
theorem int_key : (intKind prog w).is k (.int k t) = true := by simp [intKind, Value.isInt]
theorem m_dnotin {b : Bool} {Q : Value → Shared → Prop} (N : News h₀ L s.heap news) (hp : (d, o) ∈ news) (hd : o.IsDictOf (intKind prog w) kvs) (lo : (d == sysModules) = false) (hb : (valueAt kvs k).isSome = b) (h : Q (.bool (!b)) { s with toks := s.toks + 1 }) :
    wpAny (model prog w) A (compareOp .NotIn (.int k t) (.ref d)) Q E s := kdg_notin N hp hd lo int_key b hb h
theorem m_dset {v : Value} {g : Obj → List (Addr × Obj)} {Q : Unit → Shared → Prop} (F : Fr h₀ L s.heap m) (N : News h₀ L s.heap news) (U : UpdF d o news g) (hd : o.IsDictOf (intKind prog w) kvs) (hz : kvs.length ≤ 100000)
    (h : ∀ h' o', Fr h₀ L h' m → News h₀ L h' (g o') → o'.IsDictOf (intKind prog w) (stored kvs k v) → Q () { s with heap := h', toks := s.toks + 1 }) : wpAny (model prog w) A (setItem (.ref d) (.int k t) v) Q E s :=
  kda_set F N U hd int_key (Nat.le_trans hz (Nat.le_of_ble_eq_true rfl)) h
theorem m_dget {x : Option Value} {df : Value} {Q : Value → Shared → Prop} (N : News h₀ L s.heap news) (hp : (d, o) ∈ news) (hd : o.IsDictOf (intKind prog w) kvs) (lo : (d == sysModules) = false) (hx : valueAt kvs k = x) (h : Q (x.getD df) { s with toks := s.toks + 1 }) :
    wpAny (model prog w) A (call (.builtin "dict.get") [.ref d, .int k t, df]) Q E s := kdg_get2 N hp hd lo int_key x hx h
theorem m_ditem {value slice : Expr} {v : Value} {Q : Value → Shared → Prop} (N : News h₀ L s.heap news) (hp : (d, o) ∈ news) (hd : o.IsDictOf (intKind prog w) kvs) (hx : valueAt kvs k = some v) (h : Q v { s with toks := s.toks + 1 })
    (hs : subscripted slice false (.ref d) (.int k t) = operate [.ref d, .int k t] (getItem (.ref d) (.int k t)) := by with_unfolding_all rfl) (hg : ∀ r, letTemporaryGo value (.ref d) r = pure () := by intro _; with_unfolding_all rfl) :
    wpAny (model prog w) A (subscriptTail value slice (.ref d) (.int k t)) Q E s := kda_item N hp hd int_key hx h hs hg
end
end Mine
namespace Mine
section
variable {prog : Program} {w : World} {A : Around} {E : Value → Shared → Prop} {s : Shared} {env : Env} {h₀ : Heap} {x : Str} {body : List Stmt} {Q : Flow → Shared → Prop}
/-- the end of a turn of a for: the iterator's own entry still stands beside what the next turn takes -/
def ForEnd (h₀ : Heap) (L : Addr) (J : (Str → Option Value) → List (Addr × Obj) → Prop) (I : Addr) (it : Obj) (s₁ s₂ : Shared) : Prop :=
  ∃ h' tk m' nx, s₂ = { s₁ with heap := h', toks := tk } ∧ Fr h₀ L h' m' ∧ News h₀ L h' ((I, it) :: nx) ∧ (∀ p ∈ nx, p.1 ≠ I) ∧ J m' nx
def ForPost (h₀ : Heap) (L : Addr) (J : (Str → Option Value) → List (Addr × Obj) → Prop) (I : Addr) (it : Obj) (s₁ : Shared) (Q : Flow → Shared → Prop) (f : Flow) (s₂ : Shared) : Prop :=
  match f with
  | .ret v => Q (.ret v) s₂
  | .brk => Q .next s₂
  | _ => ForEnd h₀ L J I it s₁ s₂
theorem fstep2 {L : Addr} {J J' : (Str → Option Value) → List (Addr × Obj) → Prop} {I : Addr} {it : Obj} {s₁ : Shared} {h' : Heap} {tk : Nat} {m' : Str → Option Value} {nx : List (Addr × Obj)} (hJ : Imp2 J J') (F : Fr h₀ L h' m') (N : News h₀ L h' ((I, it) :: nx)) (ho : ∀ p ∈ nx, p.1 ≠ I) (hj : J m' nx) :
    ForPost h₀ L J' I it s₁ Q .next { s₁ with heap := h', toks := tk } := ⟨h', tk, m', nx, rfl, F, N, ho, hJ _ _ hj⟩
theorem m_loopCore {I l : Addr} {lo : Obj} {n : Nat} {P : Nat → Value → Prop} {St : Nat → Heap → Prop} {m₀ : Str → Option Value} {news : List (Addr × Obj)} (J : Nat → (Str → Option Value) → List (Addr × Obj) → Prop)
    (W : Walks prog w A I [I, l] [I] n P St) (hIL : I ≠ env.locals) (hI0 : h₀.get? I = none) (hIt : ∀ i h, St i h → ∃ o, h.get? I = some o) (hst : St 0 s.heap) (F : Fr h₀ env.locals s.heap m₀) (N : News h₀ env.locals s.heap news)
    (hoff : ∀ p ∈ news, p.1 ≠ I) (hJl : ∀ i m nx, J i m nx → (l, lo) ∈ nx) (hj : J 0 m₀ news)
    (turn : ∀ i v m₁ nx h tk it, P i v → i < n → J i m₁ nx → (∀ p ∈ nx, p.1 ≠ I) → Fr h₀ env.locals h (fun y => if y = x then some v else m₁ y) → News h₀ env.locals h ((I, it) :: nx) →
      wpAny (model prog w) A (execs body env) (ForPost h₀ env.locals (J (i + 1)) I it { s with heap := h, toks := tk } Q) E { s with heap := h, toks := tk })
    (done : ∀ m₁ nx h tk, J n m₁ nx → Fr h₀ env.locals h m₁ → News h₀ env.locals h nx → Q .next { s with heap := h, toks := tk }) :
    LoopAtV prog w A h₀ env x body Q E (.ref I) s := by
  have hlN := N _ (hJl _ _ _ hj)
  refine ⟨I, [I, l], [I], n, P, St, m₀, news, J, rfl, W, ?_, ?_, ?_, hst, F, N, hj, ?_, ?_⟩
  · intro hm
    rcases List.mem_cons.mp hm with e | hm
    · exact hIL e.symm
    · exact hlN.2.1 (List.mem_singleton.mp hm).symm
  · intro b hb
    rw [List.mem_singleton.mp hb]; exact hI0
  · intro p hp hm
    exact hoff p hp (List.mem_singleton.mp hm)
  · rintro i v m₁ nx s₁ own ⟨hh', tk', rfl⟩ hin hP hJ hoff₁ hown hget hfp hst₁ F₁ N₁
    obtain ⟨it, hit⟩ := hIt _ _ hst₁
    have hI : (I, it) ∈ own := hfp I (.head _) hI0 it hit
    have ho : ∀ p ∈ nx, p.1 ≠ I := fun p hp e => hoff₁ p hp (by rw [e]; exact .head _)
    have N₂ : News h₀ env.locals hh' ((I, it) :: nx) := fun p hp => N₁ p (by
      rcases List.mem_cons.mp hp with rfl | hp
      · exact List.mem_append_left _ hI
      · exact List.mem_append_right _ hp)
    have hlo : hh'.get? l = some lo := (N₂ _ (.tail _ (hJl _ _ _ hJ))).1
    refine wpAny_mono (turn i v m₁ nx hh' tk' it hP hin hJ ho F₁ N₂) (fun f s₂ p => ?_) fun _ _ e => e
    have fin : ForEnd h₀ env.locals (J (i + 1)) I it { s with heap := hh', toks := tk' } s₂ → LoopStepU h₀ env.locals [I] own (J (i + 1)) { s with heap := hh', toks := tk' } .next s₂ := by
      rintro ⟨h', tk, m', nx', e, F', N', ho', hm⟩
      refine ⟨rfl, h', tk, m', nx', e, F', fun p hp => ?_, fun p hp hq => ho' p hp (List.mem_singleton.mp hq), hm⟩
      rcases List.mem_append.mp hp with hp | hp
      · have h2 : hh'.get? p.1 = some p.2 := hget p hp
        rcases List.mem_cons.mp (hown p hp) with h1 | h1
        · rw [h1, hit] at h2
          have h3 : p = (I, it) := Prod.ext h1 (Option.some.inj h2).symm
          rw [h3]; exact N' _ (.head _)
        · have h1 := List.mem_singleton.mp h1
          rw [h1, hlo] at h2
          have h3 : p = (l, lo) := Prod.ext h1 (Option.some.inj h2).symm
          rw [h3]; exact N' _ (.tail _ (hJl _ _ _ hm))
      · exact N' p (.tail _ hp)
    cases f with
    | ret v => exact .ret p
    | brk => exact .brk p
    | next => exact .next (fin p)
    | cont => exact .cont (fin p)
  · rintro h' tk m' news' F' N' _ hJ
    exact done m' news' h' tk hJ F' N'
/-- a for over a list of the ledger -/
theorem m_iterL {l : Addr} {vs : List Value} {c : Nat} {m₀ : Str → Option Value} {news : List (Addr × Obj)} (J : Nat → (Str → Option Value) → List (Addr × Obj) → Prop)
    (hh : A.handled = none) (F : Fr h₀ env.locals s.heap m₀) (N : News h₀ env.locals s.heap news) (hJl : ∀ i m nx, J i m nx → (l, listOf vs.toArray c) ∈ nx) (hj : J 0 m₀ news)
    (turn : ∀ I i v m₁ nx h tk it, vs[i]? = some v → J i m₁ nx → (∀ p ∈ nx, p.1 ≠ I) → (∀ p ∈ news, p.1 < I) → Fr h₀ env.locals h (fun y => if y = x then some v else m₁ y) → News h₀ env.locals h ((I, it) :: nx) →
      ∀ J', Imp2 (J (i + 1)) J' → wpAny (model prog w) A (execs body env) (ForPost h₀ env.locals J' I it { s with heap := h, toks := tk } Q) E { s with heap := h, toks := tk })
    (done : ∀ m₁ nx h tk, J vs.length m₁ nx → Fr h₀ env.locals h m₁ → News h₀ env.locals h nx → Q .next { s with heap := h, toks := tk }) :
    wpAny (model prog w) A (pyIter (.ref l)) (fun it s₂ => LoopAtV prog w A h₀ env x body Q E it s₂) E s := by
  have hl := hJl _ _ _ hj
  have hol : s.heap.get? l = some (listOf vs.toArray c) := (N _ hl).1
  have hls : s.heap.IsList l vs.toArray := ⟨_, hol, rfl, c, rfl⟩
  have hne : l ≠ s.heap.objs.size := Nat.ne_of_lt (Heap.lt_size hol)
  refine wpAny_pyIter_list hls ?_
  have W := Walks.list (prog := prog) (w := w) hh s.heap.objs.size l hne vs.toArray
  rw [List.size_toArray] at W
  refine m_loopCore (lo := listOf vs.toArray c) J W (Nat.ne_of_gt F.ns.lt) (next_is_new F) (fun i h st => ?_) ⟨⟨_, Heap.get?_push_size _ rfl, rfl, rfl⟩, hls.at fun o e => Heap.get?_push_of_some _ e⟩ (F.push _) (fun p hp => ⟨Heap.get?_push_of_some _ (N p hp).1, (N p hp).2⟩)
    (fun p hp e => absurd (Heap.lt_size (N p hp).1) (e ▸ Nat.lt_irrefl _)) hJl hj ?_ ?_
  · obtain ⟨⟨o, ho, _⟩, _⟩ := st; exact ⟨o, ho⟩
  · intro i v m₁ nx h tk it hP _ hJ ho F₁ N₁
    exact turn _ i v m₁ nx h tk it (by simpa using hP) hJ ho (fun p hp => Heap.lt_size (N p hp).1) F₁ N₁ _ fun _ _ h => h
  · exact done
/-- a for over the reversed iterator of a list of the ledger -/
theorem m_iterRev {I l : Addr} {vs : List Value} {c : Nat} {k : Int} {m₀ : Str → Option Value} {news : List (Addr × Obj)} (J : Nat → (Str → Option Value) → List (Addr × Obj) → Prop)
    (hh : A.handled = none) (F : Fr h₀ env.locals s.heap m₀) (N : News h₀ env.locals s.heap ((I, revObj l k) :: news)) (hk : k = (vs.length : Int) - 1) (hoff : ∀ p ∈ news, p.1 ≠ I) (hJl : ∀ i m nx, J i m nx → (l, listOf vs.toArray c) ∈ nx) (hj : J 0 m₀ news)
    (turn : ∀ i v m₁ nx h tk it, vs.reverse[i]? = some v → J i m₁ nx → (∀ p ∈ nx, p.1 ≠ I) → Fr h₀ env.locals h (fun y => if y = x then some v else m₁ y) → News h₀ env.locals h ((I, it) :: nx) →
      ∀ J', Imp2 (J (i + 1)) J' → wpAny (model prog w) A (execs body env) (ForPost h₀ env.locals J' I it { s with heap := h, toks := tk } Q) E { s with heap := h, toks := tk })
    (done : ∀ m₁ nx h tk, J vs.length m₁ nx → Fr h₀ env.locals h m₁ → News h₀ env.locals h nx → Q .next { s with heap := h, toks := tk }) :
    wpAny (model prog w) A (pyIter (.ref I)) (fun it s₂ => LoopAtV prog w A h₀ env x body Q E it s₂) E s := by
  have hl := hJl _ _ _ hj
  have hIx := N _ (.head _)
  have hol : s.heap.get? l = some (listOf vs.toArray c) := (N _ (.tail _ hl)).1
  have hls : s.heap.IsList l vs.toArray := ⟨_, hol, rfl, c, rfl⟩
  have hne : l ≠ I := hoff _ hl
  have hit : s.heap.IsRevIter I l k := ⟨_, hIx.1, rfl, rfl⟩
  refine wpAny_pyIter_revIter hit ?_
  have W := Walks.listRev (prog := prog) (w := w) hh I l hne vs.toArray
  rw [List.size_toArray] at W
  subst hk
  refine m_loopCore (lo := listOf vs.toArray c) J W hIx.2.1 hIx.2.2 (fun i h st => ?_) ⟨Nat.zero_le _, by simpa using hit, hls⟩ F (fun p hp => N p (.tail _ hp)) hoff hJl hj ?_ ?_
  · obtain ⟨_, ⟨o, ho, _⟩, _⟩ := st; exact ⟨o, ho⟩
  · intro i v m₁ nx h tk it hP hin hJ ho F₁ N₁
    refine turn i v m₁ nx h tk it ?_ hJ ho F₁ N₁ _ fun _ _ h => h
    rw [List.getElem?_reverse hin]
    simpa using hP
  · exact done
end
end Mine
namespace Mine
/-! reversed over a tuple, and what takes it -/
theorem rv_tup_none : typeLookup (.type "tuple") "__reversed__" = pure none := by rw [typeLookup_type, builtinLookup_eq_fast]; kernel_rfl
theorem rv_tup_dict : isSubtype (.type "tuple") (.type "dict") = pure false := by rw [isSubtype_type]; kernel_rfl
theorem rv_slot_next : Slot "reversed" "__next__" "reversed.__next__" :=
  .of (owner := "reversed") (n := "__next__") (by rw [typeLookup_type, builtinLookup_eq_fast]; kernel_rfl) (by decide +kernel) (by decide +kernel) (by decide +kernel)
    (by first | exact .inl (by decide +kernel) | exact .inr (by decide +kernel)) (by rw [isSubtype_type]; kernel_rfl)
theorem rv_entry_next : entryFor table "reversed.__next__" = some Builtin.«reversed.__next__» := entryFor_of_tree (by kernel_rfl)
theorem rv_args_next (a : Value) : argsOk "reversed.__next__" ⟨[a], []⟩ := by unfold argsOk; kernel_rfl
theorem rv_slot_iter : Slot "reversed" "__iter__" "reversed.__iter__" :=
  .of (owner := "reversed") (n := "__iter__") (by rw [typeLookup_type, builtinLookup_eq_fast]; kernel_rfl) (by decide +kernel) (by decide +kernel) (by decide +kernel)
    (by first | exact .inl (by decide +kernel) | exact .inr (by decide +kernel)) (by rw [isSubtype_type]; kernel_rfl)
theorem rv_entry_iter : entryFor table "reversed.__iter__" = some Builtin.«dict_keyiterator.__iter__» :=
  entryFor_alias (id' := "dict_keyiterator.__iter__") (by kernel_rfl) (by first | rfl | decide +kernel | (unfold String.splitOn; simp +decide [String.splitOnAux])) (by decide +kernel) (by kernel_rfl)
theorem rv_args_iter (a : Value) : argsOk "reversed.__iter__" ⟨[a], []⟩ := by unfold argsOk; kernel_rfl
theorem rv_slot_hint : Slot "reversed" "__length_hint__" "reversed.__length_hint__" :=
  .of (owner := "reversed") (n := "__length_hint__") (by rw [typeLookup_type, builtinLookup_eq_fast]; kernel_rfl) (by decide +kernel) (by decide +kernel) (by decide +kernel)
    (by first | exact .inl (by decide +kernel) | exact .inr (by decide +kernel)) (by rw [isSubtype_type]; kernel_rfl)
theorem rv_entry_hint : entryFor table "reversed.__length_hint__" = some Builtin.«reversed.__length_hint__» := entryFor_of_tree (by kernel_rfl)
theorem rv_args_hint (a : Value) : argsOk "reversed.__length_hint__" ⟨[a], []⟩ := by unfold argsOk; kernel_rfl
theorem rv_no_len : typeLookup (.type "reversed") "__len__" = pure none := by rw [typeLookup_type, builtinLookup_eq_fast]; kernel_rfl
theorem rv_lri_no_len : typeLookup (.type "list_reverseiterator") "__len__" = pure none := by rw [typeLookup_type, builtinLookup_eq_fast]; kernel_rfl
theorem rv_lri_slot_hint : Slot "list_reverseiterator" "__length_hint__" "list_reverseiterator.__length_hint__" :=
  .of (owner := "list_reverseiterator") (n := "__length_hint__") (by rw [typeLookup_type, builtinLookup_eq_fast]; kernel_rfl) (by decide +kernel) (by decide +kernel) (by decide +kernel)
    (by first | exact .inl (by decide +kernel) | exact .inr (by decide +kernel)) (by rw [isSubtype_type]; kernel_rfl)
def tupRev (t : Addr) (i : Int) : Obj := { cls := .type "reversed", data := .fields #[.ref t, rawInt i] }
def IsTupRev (h : Heap) (a t : Addr) (i : Int) : Prop := ∃ o, h.get? a = some o ∧ o.cls = .type "reversed" ∧ o.data = .fields #[.ref t, rawInt i]
theorem IsTupRev.at {h h' : Heap} {a t : Addr} {i : Int} (x : IsTupRev h a t i) (e : ∀ o, h.get? a = some o → h'.get? a = some o) : IsTupRev h' a t i := let ⟨o, ho, r⟩ := x; ⟨o, e _ ho, r⟩
theorem rv_called : TypeCalled "reversed" "reversed.__new__" "object.__init__" :=
  ⟨by decide, PySem.F.create_reversed, ⟨_, _, PySem.F.mro_reversed⟩, PySem.F.made_reversed, PySem.F.plain_reversed_new, PySem.F.sub_reversed_self,
    .of (owner := "object") (n := "__init__") (by rw [typeLookup_type, builtinLookup_eq_fast]; kernel_rfl) (by decide +kernel) (by decide +kernel) (by decide +kernel)
      (by first | exact .inl (by decide +kernel) | exact .inr (by decide +kernel)) (by rw [isSubtype_type]; kernel_rfl)⟩
section
variable {prog : Program} {w : World} {A : Around} {E : Value → Shared → Prop} {s : Shared}
theorem IsTupRev.typeIs {a t : Addr} {i : Int} (x : IsTupRev s.heap a t i) : s.TypeIs (.ref a) "reversed" := let ⟨o, ho, hc, _⟩ := x; ⟨o, ho, hc⟩
theorem rv_code_new {t : Addr} {items : Array Value} {Q₁ : Value → Shared → Prop} (ht : IsTup s.heap t items) (hz : (items.size : Int) < 2 ^ 63)
    (h : Q₁ (.ref s.heap.objs.size) { s with heap := s.heap.push (tupRev t ((items.size : Int) - 1)), toks := s.toks + 1 + 1 }) :
    codeAny (model prog w) A (.call (.builtin "reversed.__new__") ⟨[.type "reversed", .ref t], []⟩) (wants Q₁ E) s := by
  refine codeAny_of_tree ?_
  show wpAny _ A.in1 (do checkBuiltinCall "reversed.__new__" ⟨[.type "reversed", .ref t], []⟩; again (.builtin "reversed.__new__" ⟨[.type "reversed", .ref t], []⟩)) _ _ s
  refine wpAny_bind (wpAny_of_eq (PySem.F.newCall_reversed_1 _) (wpAny_pure ⟨plainId_quiet PySem.F.plain_reversed_new _, codeAny_builtin PySem.F.entry_reversed_new ?_⟩))
  rw [Around.under_plainId PySem.F.plain_reversed_new _]
  unfold Builtin.«reversed.__new__»
  refine wpAny_bind (wpAny_of_eq (newClass_reversed _) ?_)
  try dsimp only
  refine wpAny_bind (wpAny_of_eq (a := ()) (by first | rfl | kernel_rfl) ?_)
  refine wpAny_bind (wpAny_of_eq (a := ()) (by first | rfl | kernel_rfl) ?_)
  try dsimp only
  refine wpAny_bind (wpAny_specialOf ht.typeIs rv_tup_none ?_)
  try dsimp only
  refine wpAny_bind ?_
  wp_delta
  refine wpAny_bind (wpAny_isInstance ht.typeIs rv_tup_dict ?_)
  try dsimp only
  refine wpAny_ite_split (fun hab => absurd hab (by decide)) (fun _ => ?_)
  refine wpAny_bind (wpAny_specialOf ht.typeIs PySem.F.slot_tuple_getitem.lookup ?_)
  try dsimp only
  refine wpAny_ite_split (fun _ => wpAny_pure ?_) (fun hab => absurd (by decide +kernel) hab)
  refine wpAny_ite_split (fun hab => absurd hab (by decide)) (fun _ => ?_)
  refine wpAny_bind (PyProof.Rows.len_tuple ht hz ?_)
  refine wpAny_bind (m := asInt? _) (wpAny_pure ?_)
  try dsimp only
  refine wpAny_bind ?_
  unfold Builtin.SmallTypes.newRecord
  exact wpAny_newObj_type (wpAny_pure h)
theorem rv_call {t : Addr} {items : Array Value} {Q : Value → Shared → Prop} (ht : IsTup s.heap t items) (hz : (items.size : Int) < 2 ^ 63)
    (h : Q (.ref s.heap.objs.size) { s with heap := s.heap.push (tupRev t ((items.size : Int) - 1)), toks := s.toks + 1 + 1 }) : wpAny (model prog w) A (call (.type "reversed") [.ref t]) Q E s := by
  refine callType_codes (Q₁ := fun obj s₁ => s₁.TypeIs obj "reversed" ∧ Q obj s₁) rv_called (PySem.F.typeCall_reversed_1 _) PySem.F.entry_object_init (rv_code_new ht hz ⟨⟨_, Heap.get?_push_size _ rfl, rfl⟩, h⟩) fun obj s₁ h₁ => ?_
  exact ⟨h₁.1, PySem.F.args_object_init_2 obj _, object_init_meets rv_called.init.lookup rv_called.made (by decide) prog w A.in1 _ s₁ ⟨h₁.1, rfl, h₁.2⟩⟩
theorem rv_item {it t : Addr} {i : Nat} {items : Array Value} {x : Value} {Q : Option Value → Shared → Prop} (hit : IsTupRev s.heap it t (i : Int)) (ht : IsTup s.heap t items) (hx : items[i]? = some x) (hi : (i : Int) < 2 ^ 63)
    (hQ : ∀ h' tk, IsTupRev h' it t ((i : Int) - 1) → Heap.SameBut it s.heap h' → Q (some x) { s with heap := h', toks := tk }) : wpAny (model prog w) A (pyNext (.ref it)) Q E s := by
  obtain ⟨o, ho, hc, hd⟩ := id hit
  have hlt : i < items.size := by
    rw [Array.getElem?_eq_some_iff] at hx
    exact hx.1
  unfold pyNext
  refine wpAny_bind (wpAny_attempt (wpAny_callSpecial?_slot (name := Str.ofString "__next__") hit.typeIs rv_slot_next
    (wpAny_call_entry rv_slot_next hit.typeIs rv_entry_next ?_ (rv_args_next _))))
  unfold Builtin.«reversed.__next__»
  refine wpAny_bind (wpAny_of_eq (a := (Value.ref it, [])) rfl ?_)
  try dsimp only
  refine wpAny_bind (wpAny_field ho hd (x := .ref t) rfl ?_)
  refine wpAny_bind (wpAny_field ho hd (x := rawInt (i : Int)) rfl ?_)
  show wpAny _ _ (if (i : Int) < 0 then _ else _) _ _ s
  rw [if_neg (by omega)]
  refine wpAny_bind (wpAny_specialOf ht.typeIs PySem.F.slot_tuple_getitem.lookup ?_)
  try dsimp only
  refine wpAny_ite_split (fun hab => absurd hab (by decide)) (fun _ => ?_)
  refine wpAny_bind (wpAny_mkInt ?_)
  have hj : seqIndex? (i : Int) items.size = some i := by
    unfold seqIndex?
    have h1 : ¬ ((i : Int) < 0) := by omega
    have h2 : ¬ ((i : Int) ≥ (items.size : Int)) := by omega
    simp only [h1, h2, if_false, decide_false, Bool.or_self, Bool.false_eq_true, Int.toNat_natCast]
    first | rfl | simp [hlt]
  refine wpAny_bind (wpAny_attempt (PyProof.Rows.getItem_tuple ht (by omega) hi hj hx ?_))
  try dsimp only
  refine wpAny_bind (wpAny_field ho hd (x := rawInt (i : Int)) rfl ?_)
  try dsimp only [rawInt]
  refine wpAny_bind (wpAny_setField ho hd (by simp) ?_)
  refine wpAny_pure ⟨x, rfl, wpAny_pure (hQ _ _ ?_ (Heap.SameBut.update ..))⟩
  exact ⟨_, Heap.get?_update_self _ ho (Obj.isFreed_of_fields (Obj.data_mapFields hd _)), (Obj.cls_mapFields ..).trans hc, by
    rw [Obj.data_mapFields hd]; simp [rawInt]⟩
theorem rv_end {it t : Addr} {Q : Option Value → Shared → Prop} (hh : A.handled = none) (hit : IsTupRev s.heap it t (-1))
    (hQ : ∀ h', Heap.ExtBut it s.heap h' → Q none { s with heap := h' }) : wpAny (model prog w) A (pyNext (.ref it)) Q E s := by
  obtain ⟨o, ho, hc, hd⟩ := id hit
  unfold pyNext
  refine wpAny_bind (wpAny_attempt (wpAny_callSpecial?_slot (name := Str.ofString "__next__") hit.typeIs rv_slot_next
    (wpAny_call_entry rv_slot_next hit.typeIs rv_entry_next ?_ (rv_args_next _))))
  unfold Builtin.«reversed.__next__»
  refine wpAny_bind (wpAny_of_eq (a := (Value.ref it, [])) rfl ?_)
  try dsimp only
  refine wpAny_bind (wpAny_field ho hd (x := .ref t) rfl ?_)
  refine wpAny_bind (wpAny_field ho hd (x := rawInt (-1)) rfl ?_)
  show wpAny _ _ (if (-1 : Int) < 0 then _ else _) _ _ s
  rw [if_pos (by decide)]
  refine wpAny_bind (wpAny_rule ?_)
  refine wpAny_bind ?_
  wp_delta
  refine wpAny_bind (wpAny_setField ho hd (by simp) ?_)
  have ho2 := Heap.get?_update_self (f := Obj.mapFields fun vs => vs.setIfInBounds 1 (rawInt (-1))) ho (Obj.isFreed_of_fields (Obj.data_mapFields hd _))
  have hd2 : (Obj.mapFields (fun vs => vs.setIfInBounds 1 (rawInt (-1))) o).data = .fields (#[.ref t, rawInt (-1)].setIfInBounds 1 (rawInt (-1))) := Obj.data_mapFields hd _
  refine wpAny_setField ho2 hd2 (by simp) ?_
  first
  | show wpAny _ _ (newExc (.type "StopIteration") [] >>= _) _ _ _
  | (refine wpAny_bind ?_; show wpAny _ _ (newExc (.type "StopIteration") [] >>= _) _ _ _)
  refine wpAny_bind ?_
  simp only [newExc, newTuple]
  refine wpAny_bind (wpAny_newObj_type ?_ (by size_fits))
  refine wpAny_bind (m := firstArgMember _ _) (wpAny_of_eq (a := Value.none) (by first | rfl | (simp only [firstArgMember]; rfl)) ?_)
  refine wpAny_newObj_type ?_ (by size_fits)
  simp only [raiseNew]
  refine wpAny_bind (wpAny_handled ?_)
  first | rw [show A.in1.handled = none from hh] | rw [hh]
  refine wpAny_bind (wpAny_pure (wpAny_throw ?_))
  refine wpAny_bind (wpAny_isInstance (T := "StopIteration") (b := true) ⟨_, Heap.get?_push_size _ rfl, rfl⟩ isSubtype_stop ?_)
  refine wpAny_pure (hQ _ ?_)
  exact ((((Heap.SameBut.update ..).trans (Heap.SameBut.update ..)).extBut).push _).push _
theorem rv_iter {it t : Addr} {i : Int} {Q : Value → Shared → Prop} (hit : IsTupRev s.heap it t i) (h : Q (.ref it) s) : wpAny (model prog w) A (pyIter (.ref it)) Q E s := by
  refine wpAny_pyIter_slot hit.typeIs rv_slot_iter (wpAny_call_entry rv_slot_iter hit.typeIs rv_entry_iter ?_ (rv_args_iter _))
  show wpAny _ _ (ret (.ref it)) _ _ s
  exact wpAny_pure ⟨_, rfl, "reversed", _, hit.typeIs, rv_slot_next.lookup, h⟩
end
theorem rv_walks {prog : Program} {w : World} {A : Around} (hh : A.handled = none) (I t : Addr) (hne : t ≠ I) (items : Array Value) (hz : (items.size : Int) < 2 ^ 63) :
    Walks prog w A I [I, t] [I] items.size (fun i v => items[items.size - 1 - i]? = some v) (fun i h => i ≤ items.size ∧ IsTupRev h I t ((items.size : Int) - 1 - (i : Int)) ∧ IsTup h t items) where
  sub := fun b hb => by simp at hb; simp [hb]
  frame := fun _ _ _ x hk => ⟨x.1, x.2.1.at fun o e => hk I (by simp) o e, let ⟨o, ho, r⟩ := x.2.2; ⟨o, hk t (by simp) o ho, r⟩⟩
  item := fun i s Q E hi x hQ => by
    have e : (items.size : Int) - 1 - (i : Int) = ((items.size - 1 - i : Nat) : Int) := by omega
    have hit := x.2.1
    rw [e] at hit
    have hx : items[items.size - 1 - i]? = some (items[items.size - 1 - i]'(by omega)) := Array.getElem?_eq_getElem (by omega)
    refine rv_item hit x.2.2 hx (by omega) fun h' tk hit' hs' => ?_
    have e2 : ((items.size - 1 - i : Nat) : Int) - 1 = (items.size : Int) - 1 - ((i + 1 : Nat) : Int) := by omega
    rw [e2] at hit'
    exact hQ _ h' tk hx ⟨hi, hit', let ⟨o, ho, r⟩ := x.2.2; ⟨o, (hs'.2 t hne).trans ho, r⟩⟩ fun b o hb eo => hs'.extBut b o (fun h => hb (by simp [h])) eo
  done := fun s Q E x hQ => by
    have e : (items.size : Int) - 1 - (items.size : Int) = -1 := by omega
    have hit := x.2.1
    rw [e] at hit
    exact rv_end hh hit fun h' he' => hQ h' s.toks fun b o hb eo => he' b o (fun h => hb (by simp [h])) eo
  self := fun _ _ _ _ x hQ => rv_iter x.2.1 hQ
end Mine
namespace Mine
section
variable {prog : Program} {w : World} {A : Around} {R : Result → Shared → Prop} {I : Addr} {fp wr : List Addr} {n : Nat} {P : Nat → Value → Prop} {St : Nat → Heap → Prop}
theorem ext_loop (W : Walks prog w A.in1 I fp wr n P St) (S : Addr) (hSf : S ∉ fp) (res : Value) (items : List Value) (hP : ∀ i v, i < n → P i v → items[i]? = some v) (hn : items.length = n) :
    ∀ (k i : Nat) (s : Shared) (acc : List Value) (c : Nat), n - i = k → i ≤ n → St i s.heap → s.heap.get? S = some (listOf acc.toArray c) → acc.length + k ≤ 200000 →
    (∀ h' tk c', (∀ b o, b ∉ S :: wr → s.heap.get? b = some o → h'.get? b = some o) → h'.get? S = some (listOf (acc ++ items.drop i).toArray c') → R (.ok (.ret res)) { s with heap := h', toks := tk }) →
    codeAny (model prog w) A (.builtin "list.extend.loop" ⟨[.ref S, .ref I, res], []⟩) R s := by
  have hSw : S ∉ wr := fun h => hSf (W.sub _ h)
  have hline : (200000 : Nat) ≤ sizeLine := Nat.le_of_ble_eq_true rfl
  intro k
  induction k with
  | zero =>
    intro i s acc c hk hi hst hS _ hR
    have hin : i = n := by omega
    subst hin
    refine codeAny_builtin PySem.F.entry_extend_loop ?_
    rw [Around.under_plainId PySem.F.plain_extend_loop _]
    show wpAny _ A.in1 (pyNext (.ref I) >>= _) _ _ s
    refine wpAny_bind (W.done s _ _ hst fun h' tk hk' => ?_)
    refine wpAny_pure (hR h' tk c (fun b o hb e => hk' b o (fun h => hb (.tail _ h)) e) ?_)
    rw [List.drop_of_length_le (by omega), List.append_nil]
    exact hk' S _ hSw hS
  | succ k ih =>
    intro i s acc c hk hi hst hS hz hR
    have hlt : i < n := by omega
    refine codeAny_builtin PySem.F.entry_extend_loop ?_
    rw [Around.under_plainId PySem.F.plain_extend_loop _]
    show wpAny _ A.in1 (pyNext (.ref I) >>= _) _ _ s
    refine wpAny_bind (W.item i s _ _ hlt hst fun v h' tk hPv hst' hk' => ?_)
    have hS' := hk' S _ hSw hS
    have hv := hP i v hlt hPv
    show wpAny _ A.in1 (updateSeq S (·.push v) >>= _) _ _ _
    refine wpAny_bind ?_
    refine wpAny_updateSeq hS' rfl (wpAny_pure ⟨plainId_quiet PySem.F.plain_extend_loop _, ?_⟩) (by rw [List.size_toArray]; omega) (by show (acc.toArray.push v).size ≤ sizeLine + 1; rw [Array.size_push, List.size_toArray]; omega)
    have hS2 := Heap.get?_update_self (Obj.mapSeq (·.push v)) hS' rfl
    have e2 : Obj.mapSeq (·.push v) (listOf acc.toArray c) = listOf (acc ++ [v]).toArray (c + 1) := by
      simp [Obj.mapSeq]
    rw [e2] at hS2
    have oth : ∀ b o, b ≠ S → h'.get? b = some o → (h'.update S (Obj.mapSeq (·.push v))).get? b = some o := fun b o hb e => (Heap.get?_update_other _ _ (Ne.symm hb)).trans e
    refine ih (i + 1) { s with heap := h'.update S (Obj.mapSeq (·.push v)), toks := tk } (acc ++ [v]) (c + 1) (by omega) hlt (W.frame _ _ _ hst' fun b hb o e => oth b o (fun h => hSf (h ▸ hb)) e) hS2 (by simp; omega) fun h'' tk'' c'' hk'' hS'' => ?_
    refine hR h'' tk'' c'' (fun b o hb e => hk'' b o hb (oth b o (fun h => hb (h ▸ List.mem_cons_self)) (hk' b o (fun h => hb (.tail _ h)) e))) ?_
    have e3 : items.drop i = v :: items.drop (i + 1) := by
      rw [List.getElem?_eq_some_iff] at hv
      obtain ⟨h1, h2⟩ := hv
      rw [← h2]
      exact List.drop_eq_getElem_cons h1
    rw [e3]
    simpa using hS''
end
section
variable {prog : Program} {w : World} {A : Around} {E : Value → Shared → Prop} {s : Shared}
theorem rv_hint {I t : Addr} {items : Array Value} {i : Nat} {Q : Bool → Shared → Prop} (hI : IsTupRev s.heap I t (i : Int)) (ht : IsTup s.heap t items) (hz : items.size ≤ 100000) (hi : i + 1 = items.size) (h : ∀ tk, Q true { s with toks := tk }) :
    wpAny (model prog w) A (Builtin.List.listLengthHint (.ref I)) Q E s := by
  unfold Builtin.List.listLengthHint
  refine wpAny_bind (wpAny_specialOf hI.typeIs rv_no_len ?_)
  try dsimp only
  refine wpAny_ite_split (fun hab => absurd hab (by decide)) (fun _ => ?_)
  refine wpAny_ite_split (fun hab => absurd hab (by decide)) (fun _ => ?_)
  refine wpAny_bind (wpAny_specialOf hI.typeIs rv_slot_hint.lookup ?_)
  generalize hid : ("reversed.__length_hint__" : String) = id0
  wp_delta
  rw [show splitId id0 = some ("reversed", "__length_hint__") from by subst hid; decide +kernel]
  subst hid
  refine wpAny_bind (wpAny_isInstance (T := "reversed") (b := true) hI.typeIs PySem.F.sub_reversed_self ?_)
  refine wpAny_ite_split (fun hab => absurd hab (by decide)) (fun _ => ?_)
  refine wpAny_ite_split (fun hab => absurd hab (by decide +kernel)) (fun _ => ?_)
  refine wpAny_bind (wpAny_rule ?_)
  refine wpAny_bind (wpAny_of_eq (rv_slot_hint.bind _) ?_)
  obtain ⟨o, ho, hc, hd⟩ := id hI
  refine wpAny_bind (wpAny_attempt (wpAny_call_entry rv_slot_hint hI.typeIs rv_entry_hint ?_ (rv_args_hint _)))
  unfold Builtin.«reversed.__length_hint__»
  refine wpAny_bind (wpAny_of_eq (a := Value.ref I) rfl ?_)
  refine wpAny_bind (wpAny_field ho hd (x := .ref t) rfl ?_)
  refine wpAny_ite_split (fun hab => absurd hab Bool.false_ne_true) (fun _ => ?_)
  refine wpAny_bind (PyProof.Rows.len_tuple ht (by omega) ?_)
  refine wpAny_bind (m := asInt? _) (wpAny_pure ?_)
  try dsimp only
  refine wpAny_bind (wpAny_field ho hd (x := rawInt (i : Int)) rfl ?_)
  try dsimp only [rawInt]
  refine wpAny_ite_split (fun hab => absurd hab (by omega)) (fun _ => ?_)
  unfold retInt
  refine wpAny_bind (wpAny_mkInt (wpAny_pure ⟨_, rfl, ?_⟩))
  try dsimp only
  have hz9 : ∀ (z : Int) (tk : Tok), asInt? (.int z tk) = pure (some z) := fun _ _ => rfl
  rw [hz9]
  with_reducible refine wpAny_bind (wpAny_pure ?_)
  try dsimp only
  have h1 : Builtin.List.listFitsIndex ((i : Int) + 1) = true := by
    unfold Builtin.List.listFitsIndex
    simp only [Bool.and_eq_true, decide_eq_true_eq]
    omega
  have h2 : Builtin.List.listTooLong ((i : Int) + 1).toNat = false := by
    unfold Builtin.List.listTooLong
    have : (100000 : Nat) ≤ sizeLine := Nat.le_of_ble_eq_true rfl
    simp only [decide_eq_false_iff_not]
    omega
  have h3 : ((i : Int) + 1 != 0) = true := by simp; omega
  rw [h1]
  with_reducible refine wpAny_ite_split (fun hab => absurd hab ?_) (fun _ => ?_)
  · decide
  with_reducible refine wpAny_ite_split (fun hab => absurd hab ?_) (fun _ => ?_)
  · omega
  rw [h2]
  with_reducible refine wpAny_ite_split (fun hab => absurd hab ?_) (fun _ => ?_)
  · decide
  rw [h3]
  with_reducible refine wpAny_pure ?_
  exact h _
theorem rv_extend {D I t : Addr} {ws items : List Value} {c : Nat} {Q : Value → Shared → Prop} (hh : A.handled = none) (hD : s.heap.get? D = some (listOf ws.toArray c)) (hI : IsTupRev s.heap I t ((items.length : Int) - 1)) (ht : IsTup s.heap t items.toArray)
    (hDI : D ≠ I) (hDt : D ≠ t) (hIt : t ≠ I) (hz : ws.length + items.length ≤ 100000) (hne : items ≠ [])
    (h : ∀ h' tk c', h'.get? D = some (listOf (ws ++ items.reverse).toArray c') → (∀ b o, b ≠ D → b ≠ I → s.heap.get? b = some o → h'.get? b = some o) → Q .none { s with heap := h', toks := tk }) :
    wpAny (model prog w) A (call (.builtin "list.extend") [.ref D, .ref I]) Q E s := by
  have hline : (200000 : Nat) ≤ sizeLine := Nat.le_of_ble_eq_true rfl
  refine wpAny_call (codeAny_call_builtin PySem.F.slot_list_extend.plain PySem.F.entry_list_extend (PySem.F.slot_list_extend.check _ _ _ _ _ _ _ _ ⟨_, hD, rfl⟩ (PySem.F.args_list_extend_2 _ _) ?_))
  unfold Builtin.«list.extend»
  refine wpAny_bind (wpAny_of_eq (a := (Value.ref D, Value.ref I)) rfl ?_)
  try dsimp only
  unfold Builtin.List.listExtendWith
  refine wpAny_bind (wpAny_typeOf hI.typeIs ?_)
  have h1 : Builtin.List.listSameRef (.ref D) (.ref I) = false := by simp [Builtin.List.listSameRef, hDI]
  have h2 : (Value.type "reversed" == Value.type "list") = false := by decide
  have h3 : (Value.type "reversed" == Value.type "tuple") = false := by decide
  simp only [h1, h2, h3, Bool.or_false, Bool.false_eq_true, if_false]
  refine wpAny_bind (rv_iter hI ?_)
  have hlen : 0 < items.length := by cases items with | nil => exact absurd rfl hne | cons _ _ => simp
  have hI' : IsTupRev s.heap I t (((items.length - 1 : Nat)) : Int) := by
    have e : (((items.length - 1 : Nat)) : Int) = (items.length : Int) - 1 := by omega
    rw [e]; exact hI
  refine wpAny_bind (wpAny_holding (rv_hint hI' ht (by rw [List.size_toArray]; omega) (by rw [List.size_toArray]; omega) fun tk => ?_))
  refine wpAny_ite_split (fun _ => ?_) (fun hab => absurd rfl hab)
  refine wpAny_bind (wpAny_rule ?_)
  refine wpAny_bind ?_
  show wpAny _ A.in1 (updateSeq D (·.push .none) >>= fun _ => updateSeq D (·.pop)) _ _ _
  refine wpAny_bind (wpAny_updateSeq hD rfl ?_ (by rw [List.size_toArray]; omega) (by show (ws.toArray.push _).size ≤ sizeLine + 1; rw [Array.size_push, List.size_toArray]; omega))
  have hS₂ := Heap.get?_update_self (Obj.mapSeq (·.push Value.none)) hD rfl
  have e2 : Obj.mapSeq (·.push Value.none) (listOf ws.toArray c) = listOf (ws ++ [Value.none]).toArray (c + 1) := by simp [Obj.mapSeq]
  rw [e2] at hS₂
  refine wpAny_updateSeq hS₂ rfl ?_ (by rw [List.size_toArray]; simp; omega) (by show ((ws ++ [Value.none]).toArray.pop).size ≤ sizeLine + 1; simp; omega)
  have hS₃ := Heap.get?_update_self (Obj.mapSeq (·.pop)) hS₂ rfl
  have e3 : Obj.mapSeq (·.pop) (listOf (ws ++ [Value.none]).toArray (c + 1)) = listOf ws.toArray (c + 1 + 1) := by simp [Obj.mapSeq]
  rw [e3] at hS₃
  have oth : ∀ b o, b ≠ D → s.heap.get? b = some o → ((s.heap.update D (Obj.mapSeq (·.push Value.none))).update D (Obj.mapSeq (·.pop))).get? b = some o :=
    fun b o hb e => (Heap.get?_update_other _ _ (Ne.symm hb)).trans ((Heap.get?_update_other _ _ (Ne.symm hb)).trans e)
  have W := rv_walks (prog := prog) (w := w) (A := A.in1) hh I t hIt items.toArray (by rw [List.size_toArray]; omega)
  have hDf : D ∉ [I, t] := by simp [hDI, hDt]
  refine wpAny_pure ⟨plainId_quiet PySem.F.plain_extend_loop _, ext_loop W D hDf .none items.reverse (fun i v hi hv => ?_) (by simp) _ 0 { s with heap := (s.heap.update D (Obj.mapSeq (·.push Value.none))).update D (Obj.mapSeq (·.pop)), toks := tk } ws _ rfl (Nat.zero_le _) ⟨Nat.zero_le _, ?_, ?_⟩ hS₃ ?_ ?_⟩
  · rw [List.size_toArray] at hi hv
    rw [List.getElem?_reverse hi]
    simpa using hv
  · refine IsTupRev.at (i := (items.toArray.size : Int) - 1 - ((0 : Nat) : Int)) ?_ fun o e => oth I o (Ne.symm hDI) e
    rw [List.size_toArray]
    have e : (items.length : Int) - 1 - ((0 : Nat) : Int) = (items.length : Int) - 1 := by omega
    rw [e]; exact hI
  · obtain ⟨o, ho, r⟩ := ht
    exact ⟨o, oth t o (Ne.symm hDt) ho, r⟩
  · simp only [List.size_toArray]; omega
  · intro h' tk' c' hk hS'
    refine h h' tk' c' (by simpa using hS') fun b o hb1 hb2 e => hk b o ?_ (oth b o hb1 e)
    simp [hb1, hb2]
theorem rv_hint_lri {I l : Addr} {i : Int} {Q : Bool → Shared → Prop} (hI : s.heap.IsRevIter I l i) (h : Q false s) :
    wpAny (model prog w) A (Builtin.List.listLengthHint (.ref I)) Q E s := by
  unfold Builtin.List.listLengthHint
  refine wpAny_bind (wpAny_specialOf hI.typeIs rv_lri_no_len ?_)
  try dsimp only
  refine wpAny_ite_split (fun hab => absurd hab (by decide)) (fun _ => ?_)
  refine wpAny_ite_split (fun hab => absurd hab (by decide)) (fun _ => ?_)
  refine wpAny_bind (wpAny_specialOf hI.typeIs rv_lri_slot_hint.lookup ?_)
  generalize hid : ("list_reverseiterator.__length_hint__" : String) = id0
  wp_delta
  rw [show splitId id0 = some ("list_reverseiterator", "__length_hint__") from by subst hid; decide +kernel]
  subst hid
  refine wpAny_bind (wpAny_isInstance (T := "list_reverseiterator") (b := true) hI.typeIs (by rw [isSubtype_type]; kernel_rfl) ?_)
  refine wpAny_ite_split (fun hab => absurd hab (by decide)) (fun _ => ?_)
  refine wpAny_ite_split (fun _ => ?_) (fun hab => absurd (by decide +kernel) hab)
  refine wpAny_ite_split (fun hab => absurd hab (by decide +kernel)) (fun _ => ?_)
  exact wpAny_pure h
theorem rv_list {I l : Addr} {items : List Value} {Q : Value → Shared → Prop} (hh : A.handled = none) (hI : s.heap.IsRevIter I l ((items.length : Int) - 1)) (hl : s.heap.IsList l items.toArray) (hIl : l ≠ I) (hz : items.length ≤ 100000)
    (h : ∀ h' tk c', h'.get? s.heap.objs.size = some (listOf items.reverse.toArray c') → (∀ b o, b ≠ I → s.heap.get? b = some o → h'.get? b = some o) → Q (.ref s.heap.objs.size) { s with heap := h', toks := tk }) :
    wpAny (model prog w) A (call (.type "list") [.ref I]) Q E s := by
  have hline : (200000 : Nat) ≤ sizeLine := Nat.le_of_ble_eq_true rfl
  refine callType_codes (Q₁ := fun obj s₁ => obj = .ref s.heap.objs.size ∧ s₁ = { s with heap := s.heap.push { cls := .type "list", data := .seq #[] } }) PySem.F.called_list (PySem.F.typeCall_list_1 _) PySem.F.entry_list_init
    (code_list_new _ ⟨rfl, rfl⟩) fun obj s₁ h₁ => ?_
  obtain ⟨rfl, rfl⟩ := h₁
  have hS : (s.heap.push { cls := .type "list", data := .seq #[] }).get? s.heap.objs.size = some { cls := .type "list", data := .seq #[] } := Heap.get?_push_size _ rfl
  refine ⟨⟨_, hS, rfl⟩, PySem.F.args_list_init_2 _ _, ?_⟩
  generalize hSS : s.heap.objs.size = S at *
  have hoI : I ≠ S := by obtain ⟨o, ho, _⟩ := hI; rw [← hSS]; exact Nat.ne_of_lt (Heap.lt_size ho)
  have hol : l ≠ S := by obtain ⟨o, ho, _⟩ := hl; rw [← hSS]; exact Nat.ne_of_lt (Heap.lt_size ho)
  show wpAny _ A.in1.in1 (do let old ← Builtin.List.listItems (.ref S); Builtin.List.listUpdate (.ref S) (fun _ => #[]); letGo old.toList.reverse; Builtin.List.listExtendWith (.ref S) (.ref I) .none) _ _ _
  refine wpAny_bind ?_
  unfold Builtin.List.listItems
  refine wpAny_bind (wpAny_seqItems hS rfl (wpAny_pure ?_))
  show wpAny _ A.in1.in1 (updateSeq S (fun _ => #[]) >>= fun _ => letGo (#[] : Array Value).toList.reverse >>= fun _ => Builtin.List.listExtendWith (.ref S) (.ref I) .none) _ _ _
  refine wpAny_bind (wpAny_updateSeq hS rfl ?_)
  have hS₂ := Heap.get?_update_self (Obj.mapSeq (fun _ => (#[] : Array Value))) hS rfl
  have oth : ∀ b o, b ≠ S → s.heap.get? b = some o → ((s.heap.push { cls := .type "list", data := .seq #[] }).update S (Obj.mapSeq (fun _ => (#[] : Array Value)))).get? b = some o :=
    fun b o hb e => (Heap.get?_update_other _ _ (Ne.symm hb)).trans (Heap.get?_push_of_some _ e)
  refine wpAny_bind (wpAny_letGo ?_)
  have hI2 : ((s.heap.push { cls := .type "list", data := .seq #[] }).update S (Obj.mapSeq (fun _ => (#[] : Array Value)))).IsRevIter I l ((items.length : Int) - 1) := hI.at fun o e => oth I o hoI e
  have hl2 : ((s.heap.push { cls := .type "list", data := .seq #[] }).update S (Obj.mapSeq (fun _ => (#[] : Array Value)))).IsList l items.toArray := hl.at fun o e => oth l o hol e
  unfold Builtin.List.listExtendWith
  refine wpAny_bind (wpAny_typeOf hI2.typeIs ?_)
  have h1 : Builtin.List.listSameRef (.ref S) (.ref I) = false := by simp [Builtin.List.listSameRef, Ne.symm hoI]
  have h2 : (Value.type "list_reverseiterator" == Value.type "list") = false := by decide
  have h3 : (Value.type "list_reverseiterator" == Value.type "tuple") = false := by decide
  simp only [h1, h2, h3, Bool.or_false, Bool.false_eq_true, if_false]
  refine wpAny_bind (wpAny_pyIter_revIter hI2 ?_)
  refine wpAny_bind (wpAny_holding (rv_hint_lri hI2 ?_))
  refine wpAny_ite_split (fun hab => absurd hab (by decide +kernel)) (fun _ => ?_)
  have W := Walks.listRev (prog := prog) (w := w) (A := A.in1.in1) hh I l hIl items.toArray
  have hSf : S ∉ [I, l] := by simp [Ne.symm hoI, Ne.symm hol]
  refine wpAny_pure ⟨plainId_quiet PySem.F.plain_extend_loop _, ext_loop W S hSf .none items.reverse (fun i v hi hv => ?_) (by simp) _ 0 { s with heap := (s.heap.push { cls := .type "list", data := .seq #[] }).update S (Obj.mapSeq (fun _ => (#[] : Array Value))) } [] _ rfl (Nat.zero_le _) ⟨Nat.zero_le _, ?_, hl2⟩ hS₂ ?_ ?_⟩
  · rw [List.size_toArray] at hi hv
    rw [List.getElem?_reverse hi]
    simpa using hv
  · rw [List.size_toArray]
    have e : (items.length : Int) - 1 - ((0 : Nat) : Int) = (items.length : Int) - 1 := by omega
    rw [e]; exact hI2
  · simp only [List.size_toArray, List.length_nil]; omega
  · intro h' tk' c' hk hS'
    refine ⟨rfl, h h' tk' c' (by simpa using hS') fun b o hb1 e => ?_⟩
    by_cases hb2 : b = S
    · subst hb2
      rw [← hSS] at e
      exact absurd (Heap.lt_size e) (Nat.lt_irrefl _)
    · exact hk b o (by simp [hb1, hb2]) (oth b o hb2 e)
end
end Mine
namespace Mine
section
variable {prog : Program} {w : World} {A : Around} {E : Value → Shared → Prop} {s : Shared} {h₀ : Heap} {L D : Addr} {m : Str → Option Value} {news : List (Addr × Obj)} {c : Nat}
theorem m_revT {t : Addr} {l : List Value} {Q : Value → Shared → Prop} (F : Fr h₀ L s.heap m) (N : News h₀ L s.heap news) (hm : (t, tupOf l c) ∈ news) (hz : l.length ≤ 100)
    (h : ∀ I h' tk, Fr h₀ L h' m → News h₀ L h' ((I, tupRev t ((l.length : Int) - 1)) :: news) → (∀ p ∈ news, p.1 < I) → Q (.ref I) { s with heap := h', toks := tk }) : wpAny (model prog w) A (call (.type "reversed") [.ref t]) Q E s := by
  refine rv_call (items := l.toArray) ⟨_, N.get hm, rfl, c, rfl⟩ (by rw [List.size_toArray]; omega) ?_
  rw [List.size_toArray]
  exact h _ _ _ (F.push _) (News.push F N _) fun p hp => Heap.lt_size (N p hp).1
theorem m_extendR {I t : Addr} {l ws : List Value} {g : Obj → List (Addr × Obj)} {c₀ : Nat} {k : Int} {Q : Value → Shared → Prop} (hh : A.handled = none) (F : Fr h₀ L s.heap m) (N : News h₀ L s.heap ((I, tupRev t k) :: news)) (hk : k = (l.length : Int) - 1) (hI : ∀ p ∈ news, p.1 ≠ I) (hm : (t, tupOf l c) ∈ news) (hne : l ≠ [])
    (U : UpdF D (listOf ws.toArray c₀) news g) (hz : ws.length + l.length ≤ 100000) (h : ∀ h' tk c', Fr h₀ L h' m → News h₀ L h' (g (listOf (ws ++ l.reverse).toArray c')) → Q .none { s with heap := h', toks := tk }) :
    wpAny (model prog w) A (call (.builtin "list.extend") [.ref D, .ref I]) Q E s := by
  subst hk
  obtain ⟨pre, post, rfl, hg, h1, h2⟩ := U.split
  have hI0 := N _ (.head _)
  have hDm : (D, listOf ws.toArray c₀) ∈ pre ++ (D, listOf ws.toArray c₀) :: post := List.mem_append.mpr (.inr (.head _))
  have hD := N _ (.tail _ hDm)
  have ht := N _ (.tail _ hm)
  have hDt : D ≠ t := by
    intro e
    have h3 := hD.1
    have h4 := ht.1
    dsimp only at h3 h4
    rw [e, h4] at h3
    injection h3 with h3
    injection h3 with h3
    injection h3 with h3
    exact absurd h3 (by decide)
  refine rv_extend (items := l) hh hD.1 ⟨_, hI0.1, rfl, rfl⟩ ⟨_, ht.1, rfl, c, rfl⟩ (hI _ hDm) hDt (hI _ hm) hz hne fun h' tk c' hS hk => ?_
  refine h h' tk c' ⟨F.ns.at' fun o e => hk L o (Ne.symm hD.2.1) (Ne.symm hI0.2.1) e, fun b o e => hk b o (fun q => ?_) (fun q => ?_) (F.keep b o e), F.above⟩ ?_
  · have := hD.2.2; dsimp only at this; rw [← q, e] at this; cases this
  · have := hI0.2.2; dsimp only at this; rw [← q, e] at this; cases this
  · rw [hg]
    intro p hp
    rcases List.mem_append.mp hp with hp | hp
    · have hq := N p (.tail _ (List.mem_append.mpr (.inl hp)))
      exact ⟨hk _ _ (h1 p hp) (hI p (List.mem_append.mpr (.inl hp))) hq.1, hq.2⟩
    · rcases List.mem_cons.mp hp with rfl | hp
      · exact ⟨hS, hD.2⟩
      · have hq := N p (.tail _ (List.mem_append.mpr (.inr (.tail _ hp))))
        exact ⟨hk _ _ (h2 p hp) (hI p (List.mem_append.mpr (.inr (.tail _ hp)))) hq.1, hq.2⟩
theorem m_listRev {I l : Addr} {ws : List Value} {k : Int} {Q : Value → Shared → Prop} (hh : A.handled = none) (F : Fr h₀ L s.heap m) (N : News h₀ L s.heap ((I, revObj l k) :: news)) (hk : k = (ws.length : Int) - 1) (hI : ∀ p ∈ news, p.1 ≠ I) (hm : (l, listOf ws.toArray c) ∈ news) (hz : ws.length ≤ 100000)
    (h : ∀ S h' tk c', Fr h₀ L h' m → News h₀ L h' ((S, listOf ws.reverse.toArray c') :: news) → (∀ p ∈ news, p.1 < S) → Q (.ref S) { s with heap := h', toks := tk }) : wpAny (model prog w) A (call (.type "list") [.ref I]) Q E s := by
  subst hk
  have hI0 := N _ (.head _)
  have hl := N _ (.tail _ hm)
  refine rv_list hh ⟨_, hI0.1, rfl, rfl⟩ ⟨_, hl.1, rfl, c, rfl⟩ (hI _ hm) hz fun h' tk c' hS hk => ?_
  have hLt : L < s.heap.objs.size := F.ns.lt
  refine h _ h' tk c' ⟨F.ns.at' fun o e => hk L o (Ne.symm hI0.2.1) e, fun b o e => hk b o (fun q => ?_) (F.keep b o e), F.above⟩ ?_ fun p hp => Heap.lt_size (N p (.tail _ hp)).1
  · have := hI0.2.2; dsimp only at this; rw [← q, e] at this; cases this
  · intro p hp
    rcases List.mem_cons.mp hp with rfl | hp
    · refine ⟨hS, Nat.ne_of_gt hLt, ?_⟩
      cases e : h₀.get? s.heap.objs.size with
      | none => rfl
      | some o => exact absurd (Heap.lt_size (F.keep _ _ e)) (Nat.lt_irrefl _)
    · have hq := N p (.tail _ hp)
      exact ⟨hk _ _ (hI p hp) hq.1, hq.2⟩
end
end Mine
namespace Mine
/-! plain facts on dicts of ints -/
def addNew (rs : List Int) (n : Int) : List Int := if n ∈ rs then rs else rs ++ [n]
theorem valueAt_cons (a : Int) (b : Value) (r : List (Int × Value)) (x : Int) : valueAt ((a, b) :: r) x = if a = x then some b else valueAt r x := by
  unfold valueAt
  by_cases h : a = x <;> simp [h]
theorem valueAt_map (kvs : List (Int × Value)) (k : Int) (v : Value) (x : Int) : valueAt (kvs.map (fun kv => if kv.1 = k then (kv.1, v) else kv)) x = if x = k then (if (valueAt kvs x).isSome then some v else none) else valueAt kvs x := by
  induction kvs with
  | nil => simp [valueAt]
  | cons q r ih =>
    obtain ⟨a, b⟩ := q
    rw [List.map_cons]
    by_cases h : a = k
    · subst h
      rw [if_pos rfl, valueAt_cons, valueAt_cons, ih]
      by_cases hx : a = x
      · subst hx; simp
      · simp [hx]
    · rw [if_neg h, valueAt_cons, valueAt_cons, ih]
      by_cases hx : a = x
      · subst hx; simp [h]
      · simp [hx]
theorem any_isSome (kvs : List (Int × Value)) (k : Int) : (valueAt kvs k).isSome = kvs.any (fun kv => decide (kv.1 = k)) := by
  induction kvs with
  | nil => rfl
  | cons q r ih =>
    obtain ⟨a, b⟩ := q
    rw [valueAt_cons, List.any_cons]
    by_cases h : a = k <;> simp [h, ih]
theorem isSome_mem (kvs : List (Int × Value)) (k : Int) : (valueAt kvs k).isSome = decide (k ∈ kvs.map (·.1)) := by
  rw [any_isSome]
  induction kvs with
  | nil => rfl
  | cons q r ih =>
    obtain ⟨a, b⟩ := q
    rw [List.any_cons, ih, List.map_cons]
    by_cases h : a = k
    · simp [h]
    · have h' : ¬ k = a := fun e => h e.symm
      simp [h, h']
theorem valueAt_append (kvs : List (Int × Value)) (k : Int) (v : Value) (x : Int) : valueAt (kvs ++ [(k, v)]) x = if (valueAt kvs x).isSome then valueAt kvs x else if k = x then some v else none := by
  induction kvs with
  | nil => rw [List.nil_append, valueAt_cons]; simp [valueAt]
  | cons q r ih =>
    obtain ⟨a, b⟩ := q
    rw [List.cons_append, valueAt_cons, valueAt_cons, ih]
    by_cases h : a = x <;> simp [h]
theorem valueAt_stored (kvs : List (Int × Value)) (k : Int) (v : Value) (x : Int) : valueAt (stored kvs k v) x = if x = k then some v else valueAt kvs x := by
  by_cases h : (valueAt kvs k).isSome = true
  · unfold stored
    rw [if_pos (by rw [← any_isSome]; exact h), valueAt_map]
    by_cases hx : x = k
    · subst hx; rw [if_pos rfl, if_pos rfl, if_pos h]
    · rw [if_neg hx, if_neg hx]
  · have hn : valueAt kvs k = none := by simpa using h
    rw [stored_absent hn, valueAt_append]
    by_cases hx : x = k
    · subst hx; simp [hn]
    · have hx' : ¬ k = x := fun e => hx e.symm
      rw [if_neg hx, if_neg hx']
      cases valueAt kvs x <;> rfl
theorem stored_keys (kvs : List (Int × Value)) (k : Int) (v : Value) : (stored kvs k v).map (·.1) = addNew (kvs.map (·.1)) k := by
  unfold addNew
  by_cases h : (valueAt kvs k).isSome = true
  · rw [if_pos (by rw [isSome_mem] at h; simpa using h)]
    unfold stored
    rw [if_pos (by rw [← any_isSome]; exact h), List.map_map]
    apply List.map_congr_left
    intro q _
    simp only [Function.comp]
    split <;> rfl
  · rw [if_neg (by rw [isSome_mem] at h; simpa using h)]
    have hn : valueAt kvs k = none := by simpa using h
    rw [stored_absent hn]; simp
section
variable {prog : Program} {w : World} {A : Around} {E : Value → Shared → Prop} {s : Shared} {h₀ : Heap} {L d : Addr} {m : Str → Option Value} {news : List (Addr × Obj)} {o : Obj} {kvs : List (Int × Value)} {k : Int} {t : Tok}
theorem m_dgetS {x df : Value} {Q : Value → Shared → Prop} (N : News h₀ L s.heap news) (hp : (d, o) ∈ news) (hd : o.IsDictOf (intKind prog w) kvs) (lo : (d == sysModules) = false) (hx : valueAt kvs k = some x) (h : Q x { s with toks := s.toks + 1 }) :
    wpAny (model prog w) A (call (.builtin "dict.get") [.ref d, .int k t, df]) Q E s := m_dget N hp hd lo hx h
theorem m_dgetN {df : Value} {Q : Value → Shared → Prop} (N : News h₀ L s.heap news) (hp : (d, o) ∈ news) (hd : o.IsDictOf (intKind prog w) kvs) (lo : (d == sysModules) = false) (hx : valueAt kvs k = none) (h : Q df { s with toks := s.toks + 1 }) :
    wpAny (model prog w) A (call (.builtin "dict.get") [.ref d, .int k t, df]) Q E s := m_dget N hp hd lo hx h
end
/-- the dict counts what the list holds -/
def CountsOf (kvs : List (Int × Value)) (seen : List Int) : Prop := ∀ k, (k ∈ seen → ∃ t, valueAt kvs k = some (.int (seen.count k : Nat) t)) ∧ (k ∉ seen → valueAt kvs k = none)
theorem CountsOf.step {kvs : List (Int × Value)} {seen : List Int} {n : Int} {t : Tok} (h : CountsOf kvs seen) : CountsOf (stored kvs n (.int ((seen.count n : Nat) + 1) t)) (seen ++ [n]) := by
  intro k
  rw [valueAt_stored]
  by_cases hk : k = n
  · subst hk
    refine ⟨fun _ => ⟨t, ?_⟩, fun hn => absurd (by simp) hn⟩
    rw [if_pos rfl, List.count_append]
    simp
  · rw [if_neg hk]
    have hc : List.count k (seen ++ [n]) = List.count k seen := by
      rw [List.count_append, List.count_cons_of_ne (fun e => hk e.symm)]; simp
    rw [hc]
    simpa [hk] using h k
theorem CountsOf.new {kvs : List (Int × Value)} {seen : List Int} {n : Int} {t : Tok} (h : CountsOf kvs seen) (hn : n ∉ seen) : CountsOf (stored kvs n (.int (0 + 1) t)) (seen ++ [n]) := by
  have := h.step (n := n) (t := t)
  rw [List.count_eq_zero.mpr hn] at this
  exact this
theorem names_bound {l : List Tm} (h : ∀ t ∈ l, t.size ≤ 15) : (l.flatMap Tm.names).length ≤ l.length * 15 := by
  induction l with
  | nil => simp
  | cons t r ih =>
    have h1 := h t (.head _)
    have h2 := t.names_len
    have h3 := ih fun u hu => h u (.tail _ hu)
    simp only [List.flatMap_cons, List.length_append, List.length_cons]
    omega
theorem mem_addNews' : ∀ {l rs : List Int} {y : Int}, y ∈ l.foldl addNew rs ↔ y ∈ rs ∨ y ∈ l
  | [], rs, y => by simp
  | x :: l, rs, y => by
    rw [List.foldl_cons, mem_addNews', addNew]
    split
    · rename_i h
      constructor
      · rintro (h1 | h1)
        · exact .inl h1
        · exact .inr (.tail _ h1)
      · rintro (h1 | h1)
        · exact .inl h1
        · rcases List.mem_cons.mp h1 with rfl | h1
          · exact .inl h
          · exact .inr h1
    · simp only [List.mem_append, List.mem_cons, List.not_mem_nil, or_false]
      constructor
      · rintro ((h1 | h1) | h1)
        · exact .inl h1
        · exact .inr (.inl h1)
        · exact .inr (.inr h1)
      · rintro (h1 | h1 | h1)
        · exact .inl (.inl h1)
        · exact .inl (.inr h1)
        · exact .inr h1
theorem mem_addNews {l : List Int} {y : Int} : y ∈ l.foldl addNew [] ↔ y ∈ l := by rw [mem_addNews']; simp
theorem sum_le {l : List Tm} {k : Nat} (h : ∀ t ∈ l, t.size ≤ k) : (l.map Tm.size).sum ≤ l.length * k := by
  induction l with
  | nil => simp
  | cons t r ih =>
    have h1 := h t (.head _)
    have h3 := ih fun u hu => h u (.tail _ hu)
    simp only [List.map_cons, List.sum_cons, List.length_cons, Nat.succ_mul]
    omega
theorem names_half (t : Tm) : 2 * t.names.length ≤ t.size + 1 := by
  induction t with
  | leaf k n => unfold Tm.names; split <;> simp [Tm.size]
  | node f l r h1 h2 => simp only [Tm.names, List.length_append, Tm.size]; omega
theorem names_bound2 {l : List Tm} (h : ∀ t ∈ l, t.size ≤ 7) : (l.flatMap Tm.names).length ≤ l.length * 4 := by
  induction l with
  | nil => simp
  | cons t r ih =>
    have h1 := h t (.head _)
    have h2 := names_half t
    have h3 := ih fun u hu => h u (.tail _ hu)
    simp only [List.flatMap_cons, List.length_append, List.length_cons]
    omega
theorem addNews_len : ∀ {l rs : List Int}, (l.foldl addNew rs).length ≤ rs.length + l.length
  | [], rs => by simp
  | x :: l, rs => by
    rw [List.foldl_cons]
    have := addNews_len (l := l) (rs := addNew rs x)
    have h2 : (addNew rs x).length ≤ rs.length + 1 := by unfold addNew; split <;> simp
    simp only [List.length_cons]; omega
theorem sum_cast (l : List Tm) : (l.map (fun t => (t.size : Int))).sum = (((l.map Tm.size).sum : Nat) : Int) := by
  induction l with
  | nil => rfl
  | cons t r ih => simp only [List.map_cons, List.sum_cons, ih]; omega
end Mine
namespace Mine
section
variable {prog : Program} {w : World} {A : Around} {E : Value → Shared → Prop} {s : Shared} {env : Env} {h₀ : Heap} {x : Str} {body : List Stmt} {Q : Flow → Shared → Prop}
theorem m_loopCore1 {I : Addr} {n : Nat} {P : Nat → Value → Prop} {St : Nat → Heap → Prop} {m₀ : Str → Option Value} {news : List (Addr × Obj)} (J : Nat → (Str → Option Value) → List (Addr × Obj) → Prop)
    (W : Walks prog w A I [I] [I] n P St) (hIL : I ≠ env.locals) (hI0 : h₀.get? I = none) (hIt : ∀ i h, St i h → ∃ o, h.get? I = some o) (hst : St 0 s.heap) (F : Fr h₀ env.locals s.heap m₀) (N : News h₀ env.locals s.heap news)
    (hoff : ∀ p ∈ news, p.1 ≠ I) (hj : J 0 m₀ news)
    (turn : ∀ i v m₁ nx h tk it, P i v → i < n → J i m₁ nx → (∀ p ∈ nx, p.1 ≠ I) → Fr h₀ env.locals h (fun y => if y = x then some v else m₁ y) → News h₀ env.locals h ((I, it) :: nx) →
      wpAny (model prog w) A (execs body env) (ForPost h₀ env.locals (J (i + 1)) I it { s with heap := h, toks := tk } Q) E { s with heap := h, toks := tk })
    (done : ∀ m₁ nx h tk, J n m₁ nx → Fr h₀ env.locals h m₁ → News h₀ env.locals h nx → Q .next { s with heap := h, toks := tk }) :
    LoopAtV prog w A h₀ env x body Q E (.ref I) s := by
  refine ⟨I, [I], [I], n, P, St, m₀, news, J, rfl, W, ?_, ?_, ?_, hst, F, N, hj, ?_, ?_⟩
  · intro hm
    exact hIL (List.mem_singleton.mp hm).symm
  · intro b hb
    rw [List.mem_singleton.mp hb]; exact hI0
  · intro p hp hm
    exact hoff p hp (List.mem_singleton.mp hm)
  · rintro i v m₁ nx s₁ own ⟨hh', tk', rfl⟩ hin hP hJ hoff₁ hown hget hfp hst₁ F₁ N₁
    obtain ⟨it, hit⟩ := hIt _ _ hst₁
    have hI : (I, it) ∈ own := hfp I (.head _) hI0 it hit
    have ho : ∀ p ∈ nx, p.1 ≠ I := fun p hp e => hoff₁ p hp (by rw [e]; exact .head _)
    have N₂ : News h₀ env.locals hh' ((I, it) :: nx) := fun p hp => N₁ p (by
      rcases List.mem_cons.mp hp with rfl | hp
      · exact List.mem_append_left _ hI
      · exact List.mem_append_right _ hp)
    refine wpAny_mono (turn i v m₁ nx hh' tk' it hP hin hJ ho F₁ N₂) (fun f s₂ p => ?_) fun _ _ e => e
    have fin : ForEnd h₀ env.locals (J (i + 1)) I it { s with heap := hh', toks := tk' } s₂ → LoopStepU h₀ env.locals [I] own (J (i + 1)) { s with heap := hh', toks := tk' } .next s₂ := by
      rintro ⟨h', tk, m', nx', e, F', N', ho', hm⟩
      refine ⟨rfl, h', tk, m', nx', e, F', fun p hp => ?_, fun p hp hq => ho' p hp (List.mem_singleton.mp hq), hm⟩
      rcases List.mem_append.mp hp with hp | hp
      · have h2 : hh'.get? p.1 = some p.2 := hget p hp
        have h1 := List.mem_singleton.mp (hown p hp)
        rw [h1, hit] at h2
        have h3 : p = (I, it) := Prod.ext h1 (Option.some.inj h2).symm
        rw [h3]; exact N' _ (.head _)
      · exact N' p (.tail _ hp)
    cases f with
    | ret v => exact .ret p
    | brk => exact .brk p
    | next => exact .next (fin p)
    | cont => exact .cont (fin p)
  · rintro h' tk m' news' F' N' _ hJ
    exact done m' news' h' tk hJ F' N'
/-- a for over a range -/
theorem m_iterRange {r : Addr} {a₀ b₀ c : Int} {t₀ u₀ v₀ : Tok} {n : Nat} {m₀ : Str → Option Value} {news : List (Addr × Obj)} (J : Nat → (Str → Option Value) → List (Addr × Obj) → Prop)
    (hh : A.handled = none) (hr : IsRange s.heap r a₀ b₀ c t₀ u₀ v₀) (hsmall : Builtin.Range.small a₀ b₀ c = true) (hn : Builtin.Range.rangeSize a₀ b₀ c = (n : Int)) (F : Fr h₀ env.locals s.heap m₀) (N : News h₀ env.locals s.heap news) (hj : J 0 m₀ news)
    (turn : ∀ I i t m₁ nx h tk it, i < n → J i m₁ nx → (∀ p ∈ nx, p.1 ≠ I) → (∀ p ∈ news, p.1 < I) → Fr h₀ env.locals h (fun y => if y = x then some (.int (a₀ + (i : Int) * c) t) else m₁ y) → News h₀ env.locals h ((I, it) :: nx) →
      ∀ J', Imp2 (J (i + 1)) J' → wpAny (model prog w) A (execs body env) (ForPost h₀ env.locals J' I it { s with heap := h, toks := tk } Q) E { s with heap := h, toks := tk })
    (done : ∀ m₁ nx h tk, J n m₁ nx → Fr h₀ env.locals h m₁ → News h₀ env.locals h nx → Q .next { s with heap := h, toks := tk }) :
    wpAny (model prog w) A (pyIter (.ref r)) (fun it s₂ => LoopAtV prog w A h₀ env x body Q E it s₂) E s := by
  refine wpAny_pyIter_range hr hsmall ?_
  have W : Walks prog w A s.heap.objs.size [s.heap.objs.size] [s.heap.objs.size] n (fun i v => i < n ∧ ∃ t, v = .int (a₀ + i * c) t)
      (fun i h => IsRangeIter h s.heap.objs.size (a₀ + (i : Nat) * c) ((n : Int) - (i : Nat)) c) := (Walks.range hh _ a₀ c n).bound
  refine m_loopCore1 J W (Nat.ne_of_gt F.ns.lt) (next_is_new F) (fun i h st => ⟨_, st⟩) (by show IsRangeIter _ _ _ _ _; rw [hn]; simpa using Heap.get?_push_size _ rfl) (F.push _) (fun p hp => ⟨Heap.get?_push_of_some _ (N p hp).1, (N p hp).2⟩)
    (fun p hp e => absurd (Heap.lt_size (N p hp).1) (e ▸ Nat.lt_irrefl _)) hj ?_ ?_
  · rintro i v m₁ nx h tk it ⟨_, t, rfl⟩ hin hJ ho F₁ N₁
    exact turn _ i t m₁ nx h tk it hin hJ ho (fun p hp => Heap.lt_size (N p hp).1) F₁ N₁ _ fun _ _ h => h
  · exact done
end
end Mine
namespace Mine
section
variable {prog : Program} {w : World} {A : Around} {E : Value → Shared → Prop} {s : Shared} {h₀ : Heap} {L D : Addr} {m : Str → Option Value} {news news' : List (Addr × Obj)} {n : Nat}
theorem m_len {ws : List Value} {Q : Value → Shared → Prop} (N : News h₀ L s.heap news) (hm : (D, listOf ws.toArray n) ∈ news) (hz : ws.length ≤ 100000) (h : Q (.int (ws.length : Int) (s.toks + 1)) { s with toks := s.toks + 1 + 1 }) :
    wpAny (model prog w) A (call (.builtin "len") [.ref D]) Q E s :=
  len_list (N.isList hm) (by simp only [List.size_toArray]; omega) (by simpa using h)
theorem m_litemN {value slice : Expr} {l : List Value} {x : Value} {c : Nat} {u : Tok} {Q : Value → Shared → Prop} (N : News h₀ L s.heap news) (hm : (D, listOf (l ++ [x]).toArray c) ∈ news)
    (hz : l.length ≤ 100000) (h : Q x s)
    (hs : subscripted slice false (.ref D) (.int (-1) u) = operate [.ref D, .int (-1) u] (getItem (.ref D) (.int (-1) u)) := by with_unfolding_all rfl) :
    wpAny (model prog w) A (subscriptTail value slice (.ref D) (.int (-1) u)) Q E s :=
  have hL := N.isList hm
  tail_any hL.typeIs slot_list_getitem.lookup (wpAny_getItem_list_neg (k := -1) hL (by decide) (by simp only [List.size_toArray, List.length_append, List.length_cons, List.length_nil]; omega) (by decide)
    (by
      have e : (-1 + ((l ++ [x]).toArray.size : Int)).toNat = l.length := by simp only [List.size_toArray, List.length_append, List.length_cons, List.length_nil]; omega
      rw [e]; simp) h) hs
theorem m_reverse {ws : List Value} {Q : Value → Shared → Prop} (F : Fr h₀ L s.heap m) (N : News h₀ L s.heap news) (U : Upd D (listOf ws.toArray n) (listOf ws.reverse.toArray n) news news') (hz : ws.length ≤ 100000)
    (h : ∀ h', Fr h₀ L h' m → News h₀ L h' news' → Q .none { s with heap := h' }) : wpAny (model prog w) A (call (.builtin "list.reverse") [.ref D]) Q E s :=
  kl_reverse F N (by simp) U (Nat.le_trans (by simpa using hz) (Nat.le_of_ble_eq_true rfl)) h
theorem sz_arr {ws : List Value} (hz : ws.length ≤ 100000) : ws.toArray.size ≤ sizeLine := by
  rw [List.size_toArray]; exact Nat.le_trans hz (Nat.le_of_ble_eq_true rfl)
end
end Mine
namespace Mine
section
variable {prog : Program} {w : World} {A : Around} {E : Value → Shared → Prop} {s : Shared} {h₀ : Heap} {L D : Addr} {m : Str → Option Value} {news news' : List (Addr × Obj)} {n : Nat}
theorem inplace_list {a b : Value} {Q : Value → Shared → Prop} (ha : s.TypeIs a "list") (hb : s.TypeIs b "list") (hc : wpAny (model prog w) A (call (.builtin "list.__iadd__") [a, b]) Q E s) :
    wpAny (model prog w) A (inplaceOp .Add a b) Q E s := by
  unfold inplaceOp
  refine wpAny_holding ?_
  have hseq : isSeqSlot (some (.builtin "list.__iadd__")) = true := by decide +kernel
  have hfi : fillsInplaceSlot (.type "list") "add" (Operator.Add == .Add) = pure false := by
    unfold fillsInplaceSlot
    show (typeLookup (.type "list") (dunderI "add") >>= fun fi => pure (fi.isSome && !isSeqSlot fi)) = pure false
    rw [PySem.F.slot_list_iadd.lookup, pure_bind, hseq]; rfl
  have hsi : seqSlot? (.type "list") (dunderI "add") = pure (some (.builtin "list.__iadd__")) := PySem.seqSlot_of PySem.F.slot_list_iadd.lookup hseq
  refine wpAny_bind (wpAny_typeOf ha (wpAny_bind (wpAny_of_eq hfi ?_)))
  show wpAny (model prog w) A (if false = true then _ else _) Q E s
  rw [if_neg Bool.false_ne_true]
  refine wpAny_bind (wpAny_binaryOp1_none (nm := "add") ha hb noFill_list_add ?_)
  refine wpAny_bind (wpAny_of_eq hsi ?_)
  exact wpAny_bind (wpAny_rule hc)
theorem m_iadd {ws xs : List Value} {b : Addr} {c₀ c' : Nat} {g : Obj → List (Addr × Obj)} {Q : Value → Shared → Prop} (F : Fr h₀ L s.heap m) (N : News h₀ L s.heap news) (hb : (b, listOf xs.toArray c') ∈ news)
    (U : UpdF D (listOf ws.toArray c₀) news g) (hz : ws.length + xs.length ≤ 100000) (h : ∀ h' c'', Fr h₀ L h' m → News h₀ L h' (g (listOf (ws ++ xs).toArray c'')) → Q (.ref D) { s with heap := h' }) :
    wpAny (model prog w) A (inplaceOp .Add (.ref D) (.ref b)) Q E s := by
  obtain ⟨pre, post, rfl, hg, a, c⟩ := U.split
  have z := N (D, listOf ws.toArray c₀) (List.mem_append.mpr (.inr (.head _)))
  have y := N _ hb
  have hL : (100000 : Nat) ≤ sizeLine := Nat.le_of_ble_eq_true rfl
  refine inplace_list ⟨_, z.1, rfl⟩ ⟨_, y.1, rfl⟩ ?_
  refine call_meets PySem.F.slot_list_iadd ⟨_, z.1, rfl⟩ PySem.F.entry_list_iadd (PySem.F.args_list_iadd_2 _ _) (PySem.AutoSeq1.list___iadd___list_list_0 D ws.toArray c₀ b xs.toArray c' ?_ ?_ ?_) ⟨z.1, y.1, ?_⟩
  · simp only [Bool.and_eq_true, Bool.not_eq_true', Builtin.List.listTooLong, decide_eq_true_eq, List.size_toArray, not_and]
    intro _
    omega
  · rw [List.size_toArray]; omega
  · rw [List.size_toArray, List.size_toArray]; omega
  · have q := PySem.IsL.update z.1 (fun x => x ++ xs.toArray)
    refine h _ (if ((ws.toArray ++ xs.toArray).size == ws.toArray.size) = true then c₀ else c₀ + 1) (F.change (Heap.SameBut.update ..) z.2.1 z.2.2) ?_
    rw [hg]
    refine news_set N a c (Heap.SameBut.update ..) ?_
    rw [show (ws ++ xs).toArray = ws.toArray ++ xs.toArray from (List.append_toArray ..).symm]
    exact q
theorem m_loadC {M : Model} {a c : Addr} {cn : Str} {cs : Scope} {ccd : Value} {cl : List (Str × Addr)} {x : Str} {v : Value} {o : Obj} {Q : Value → Shared → Prop} (N : News h₀ L s.heap news) (hc : cl.lookup x = some c) (hm : (c, o) ∈ news) (hd : o.data = .cell (some v)) (h : Q v s)
    (hk : cs.kind = .function) (hx : (envX cn cs L a ccd cl).kindOf x = some .cell) : wpAny M A (loadName (envX cn cs L a ccd cl) x) Q E s := wpAny_loadName_cell hk hx hc ⟨o, N.get hm, hd⟩ h
theorem m_loadL {M : Model} {a : Addr} {cn : Str} {cs : Scope} {ccd : Value} {cl : List (Str × Addr)} {x : Str} {v : Value} {Q : Value → Shared → Prop} (F : Fr h₀ L s.heap m) (hv : m x = some v) (h : Q v s)
    (hk : cs.kind = .function) (hx : (envX cn cs L a ccd cl).kindOf x = some .local) : wpAny M A (loadName (envX cn cs L a ccd cl) x) Q E s := wpAny_loadName_local hk hx F.ns hv h
end
end Mine
namespace Mine
section
variable {prog : Program} {w : World} {A : Around} {E : Value → Shared → Prop} {s : Shared} {h₀ : Heap} {L D : Addr} {m : Str → Option Value} {news news' : List (Addr × Obj)} {n : Nat} {ws : List Value} {ns : List Int}
theorem m_lnotin {k : Int} {t : Tok} {Q : Value → Shared → Prop} (N : News h₀ L s.heap news) (hm : (D, listOf ws.toArray n) ∈ news) (hi : IntsAre ws ns) (h : Q (.bool (!decide (k ∈ ns))) s) :
    wpAny (model prog w) A (compareOp .NotIn (.int k t) (.ref D)) Q E s := by
  refine notin_list_ints (N.isList hm) hi ?_
  have e : ns.any (· == k) = decide (k ∈ ns) := by
    rw [Bool.eq_iff_iff]; simp
  rw [e]; exact h
theorem m_count {k : Int} {t : Tok} {Q : Value → Shared → Prop} (N : News h₀ L s.heap news) (hm : (D, listOf ws.toArray n) ∈ news) (hi : IntsAre ws ns) (h : Q (.int (ns.count k : Nat) s.toks) { s with toks := s.toks + 1 }) :
    wpAny (model prog w) A (call (.builtin "list.count") [.ref D, .int k t]) Q E s := count_list_ints (N.isList hm) hi h
theorem m_sum {Q : Value → Shared → Prop} (hh : A.handled = none) (F : Fr h₀ L s.heap m) (N : News h₀ L s.heap news) (hm : (D, listOf ws.toArray n) ∈ news) (hi : IntsAre ws ns)
    (h : ∀ h' tk t', Fr h₀ L h' m → News h₀ L h' news → Q (.int ns.sum t') { s with heap := h', toks := tk }) : wpAny (model prog w) A (call (.builtin "sum") [.ref D]) Q E s := sumK hh F N (N.isList hm) hi h
theorem m_neInts {us : List Value} {ks : List Int} {b : Addr} {c : Nat} {Q : Value → Shared → Prop} (N : News h₀ L s.heap news) (hm : (D, listOf ws.toArray n) ∈ news) (hi : IntsAre ws ns) (hb : (b, listOf us.toArray c) ∈ news) (hj : IntsAre us ks) (hu : A.units < 9500)
    (h : Q (.bool (!decide (ns = ks))) s) : wpAny (model prog w) A (compareOp .NotEq (.ref D) (.ref b)) Q E s :=
  ne_intsK (N.isList hm) hi (N.isList hb) hj (by have : cLine = 9900 := rfl; omega) h
theorem m_sortedI {Q : Value → Shared → Prop} (F : Fr h₀ L s.heap m) (N : News h₀ L s.heap news) (hm : (D, listOf ws.toArray n) ∈ news) (hi : IntsAre ws ns) (h64 : ns.length < 64)
    (h : ∀ B vs' ns' c h', Fr h₀ L h' m → News h₀ L h' ((B, listOf vs'.toArray c) :: news) → (∀ q ∈ news, q.1 < B) → IntsAre vs' ns' → ns'.Perm ns → ns'.Pairwise (· ≤ ·) → Q (.ref B) { s with heap := h' }) :
    wpAny (model prog w) A (call (.builtin "sorted") [.ref D]) Q E s :=
  kso_sorted F N (N.isList hm) hi h64 fun B vs' ns' c h' F' N' l1 a1 _ a2 a3 _ => h B vs' ns' c h' F' N' l1 a1 a2 a3
theorem ints_of_keys : ∀ {vs : List Value} {kvs : List (Int × Value)}, vs.length = kvs.length → (∀ (j : Nat) (v : Value), vs[j]? = some v → ∃ k x, kvs[j]? = some (k, x) ∧ (intKind prog w).is k v = true) → IntsAre vs (kvs.map (·.1))
  | [], [], _, _ => .nil
  | [], _ :: _, e, _ => by simp at e
  | _ :: _, [], e, _ => by simp at e
  | v :: vs, (k, x) :: kvs, e, h => by
    obtain ⟨k', x', h1, h2⟩ := h 0 v rfl
    simp only [List.getElem?_cons_zero, Option.some.injEq, Prod.mk.injEq] at h1
    obtain ⟨rfl, rfl⟩ := h1
    have hr := ints_of_keys (vs := vs) (kvs := kvs) (by simpa using e) fun j u hu => by
      have := h (j + 1) u (by simpa using hu)
      simpa using this
    have h3 : ∃ t, v = .int k t := by
      cases v <;> simp [intKind, Value.isInt] at h2
      subst h2; exact ⟨_, rfl⟩
    obtain ⟨t, rfl⟩ := h3
    exact .cons _ _ hr
theorem m_sortedD {o : Obj} {kvs : List (Int × Value)} {Q : Value → Shared → Prop} (hh : A.handled = none) (F : Fr h₀ L s.heap m) (N : News h₀ L s.heap news) (hm : (D, o) ∈ news) (hd : o.IsDictOf (intKind prog w) kvs) (lo : (D == sysModules) = false) (h64 : kvs.length < 64)
    (h : ∀ B vs' ns' c h' tk, Fr h₀ L h' m → News h₀ L h' ((B, listOf vs'.toArray c) :: news) → (∀ q ∈ news, q.1 < B) → IntsAre vs' ns' → ns'.Perm (kvs.map (·.1)) → ns'.Pairwise (· ≤ ·) → Q (.ref B) { s with heap := h', toks := tk }) :
    wpAny (model prog w) A (call (.builtin "sorted") [.ref D]) Q E s := by
  obtain ⟨ep, hat⟩ := (kda_dict N hm hd).dictAt
  have hL : (100000 : Nat) ≤ sizeLine := Nat.le_of_ble_eq_true rfl
  refine kdu_sorted (kdl_dict (knd := intKind prog w) (kvs := kvs) (ep := ep) lo) hh F N hat (by omega) fun B h' tk vs F' N' l1 hl hv => ?_
  have hi := ints_of_keys (prog := prog) (w := w) hl hv
  refine ksk_lsort (vs := vs) (ns := kvs.map (·.1)) F' N' (fun o => Upd.head fun p hp => Nat.ne_of_lt (l1 p hp)) rfl hi (by rw [List.length_map]; exact h64) fun vs' ns' c h' F2 N2 a1 _ a2 a3 _ => ?_
  exact h B vs' ns' c h' tk F2 N2 l1 a1 a2 a3
theorem m_neIntsEq {us : List Value} {b : Addr} {c : Nat} {Q : Value → Shared → Prop} (N : News h₀ L s.heap news) (hm : (D, listOf ws.toArray n) ∈ news) (hi : IntsAre ws ns) (hb : (b, listOf us.toArray c) ∈ news) (hj : IntsAre us ns) (hu : A.units < 9500)
    (h : Q (.bool false) s) : wpAny (model prog w) A (compareOp .NotEq (.ref D) (.ref b)) Q E s :=
  m_neInts N hm hi hb hj hu (by rw [decide_eq_true rfl]; exact h)
end
end Mine
namespace Mine
section
variable {prog : Program} {w : World} {A : Around} {h₀ : Heap} {L : Addr} {m : Str → Option Value} {env : Env} {elt ct : Expr} {x : Str} {scope : Scope} {cl : List (Str × Addr)} {s : Shared} {S : List (Addr × Obj) → Prop} {P : Nat → Value → Prop} {Fin : List Value → List (Addr × Obj) → Prop}
theorem compEnd_mono {s₁ s₂ : Shared} {I C D : Addr} {oI oC oD : Obj} {R R' : Value → List (Addr × Obj) → Prop} {y : Value} (h : ∀ nx, R y nx → R' y nx) (c : LCg.CompEnd h₀ L m s₁ I oI C oC D oD S R y s₂) : LCg.CompEnd h₀ L m s₁ I oI C oC D oD S R' y s₂ := by
  obtain ⟨h', tk, nx, e, F, N, off, hS, r⟩ := c
  exact ⟨h', tk, nx, e, F, N, off, hS, h _ r⟩
theorem comp_inv (J : Nat → List Value → List (Addr × Obj) → Prop) {n : Nat} (fin : ∀ ys nx, J n ys nx → Fin ys nx)
    (turn : ∀ i ys nx v I oI C oC D m₂ h tk (E' : Value → Shared → Prop), i < n → J i ys nx → P i v → LCg.NsObj oC m₂ → m₂ x = some v → Fr h₀ L h m → News h₀ L h ((I, oI) :: (C, oC) :: (D, LCg.lst ys) :: nx) → LCg.Off3 I C D nx → ((@Ne Nat I C) ∧ (@Ne Nat I D) ∧ (@Ne Nat C D)) →
      ∀ R', Imp2 (fun y nx' => J (i + 1) (ys ++ [y]) nx') R' → wpAny (model prog w) A (eval elt (compEnvC scope cl C env)) (LCg.CompEnd h₀ L m { s with heap := h, toks := tk } I oI C oC D (LCg.lst ys) S R') E' { s with heap := h, toks := tk }) :
    ∀ k i ys nx, i + k = n → J i ys nx → LCg.CompRest prog w A h₀ L m env elt x scope cl s S P Fin k i ys nx
  | 0, i, ys, nx, e, hj => .zero (fin _ _ (by rw [Nat.add_zero] at e; subst e; exact hj))
  | k + 1, i, ys, nx, e, hj => .succ fun v I oI C oC D m₂ h tk E' hP hC hx F N off ne =>
    wpAny_mono (turn i ys nx v I oI C oC D m₂ h tk E' (by omega) hj hP hC hx F N off ne _ fun _ _ h => h) (fun y s' c => compEnd_mono (fun nx' hj' => comp_inv J fin turn k (i + 1) _ _ (by omega) hj') c) fun _ _ z => z
theorem compT_inv (J : Nat → List Value → List (Addr × Obj) → Prop) {n : Nat} (fin : ∀ ys nx, J n ys nx → Fin ys nx)
    (turn : ∀ i ys nx v I oI C oC D m₂ h tk (E' : Value → Shared → Prop), i < n → J i ys nx → P i v → LCg.NsObj oC m₂ → m₂ x = some v → Fr h₀ L h m → News h₀ L h ((I, oI) :: (C, oC) :: (D, LCg.lst ys) :: nx) → LCg.Off3 I C D nx → ((@Ne Nat I C) ∧ (@Ne Nat I D) ∧ (@Ne Nat C D)) →
      ∀ R' R2, Imp2 (fun y nx' => J (i + 1) (ys ++ [y]) nx') R' → Imp2 (fun (_ : Value) nx' => J (i + 1) ys nx') R2 → wpAny (model prog w) A (isTrue ct (compEnvC scope cl C env) (eval ct (compEnvC scope cl C env))) (fun ok s' => if ok = true then
        wpAny (model prog w) A (eval elt (compEnvC scope cl C env)) (LCg.CompEnd h₀ L m { s with heap := h, toks := tk } I oI C oC D (LCg.lst ys) S R') E' s'
        else LCg.CompEnd h₀ L m { s with heap := h, toks := tk } I oI C oC D (LCg.lst ys) S R2 Value.none s') E' { s with heap := h, toks := tk }) :
    ∀ k i ys nx, i + k = n → J i ys nx → LCt.CompRestT prog w A h₀ L m env ct elt x scope cl s S P Fin k i ys nx
  | 0, i, ys, nx, e, hj => .zero (fin _ _ (by rw [Nat.add_zero] at e; subst e; exact hj))
  | k + 1, i, ys, nx, e, hj => .succ fun v I oI C oC D m₂ h tk E' hP hC hx F N off ne =>
    wpAny_mono (turn i ys nx v I oI C oC D m₂ h tk E' (by omega) hj hP hC hx F N off ne _ _ (fun _ _ h => h) fun _ _ h => h) (fun ok s' c => by
      split
      · rename_i ht
        rw [if_pos ht] at c
        exact wpAny_mono c (fun y s'' c => compEnd_mono (fun nx' hj' => compT_inv J fin turn k (i + 1) _ _ (by omega) hj') c) fun _ _ z => z
      · rename_i ht
        rw [if_neg ht] at c
        exact compEnd_mono (fun nx' hj' => compT_inv J fin turn k (i + 1) _ _ (by omega) hj') c) fun _ _ z => z
end
section
variable {prog : Program} {w : World} {A : Around} {E : Value → Shared → Prop} {s : Shared} {h₀ : Heap} {L D : Addr} {m : Str → Option Value} {news : List (Addr × Obj)} {n : Nat}
theorem m_inTrue {k : Nat} {Q : Value → Shared → Prop} (N : News h₀ L s.heap news) (hm : (D, listOf (List.replicate k (Value.bool true)).toArray n) ∈ news) (h : Q (.bool false) s) :
    wpAny (model prog w) A (compareOp .In (.bool false) (.ref D)) Q E s := by
  refine SeqInW.in_listW (x := .bool false) (isBoolOf false) (fun y hy => ?_) (N.isList hm) ?_
  · intro prog' w' A' E' s' Q' hq
    have e : y = .bool true := by
      have := Array.mem_toList_iff.mpr hy
      exact List.eq_of_mem_replicate (by simpa using this)
    subst e
    exact PySem.SeqAt.EqAt.bool_bool true false prog' w' E' Q' hq
  · have e : (List.replicate k (Value.bool true)).toArray.any (isBoolOf false) = false := by
      rw [← Array.any_toList]
      simp [isBoolOf]
    rw [e]; exact h
end
end Mine
namespace Mine
section
variable {prog : Program} {w : World} {A : Around} {E : Value → Shared → Prop} {s : Shared} {env : Env} {h₀ : Heap} {x : Str} {body : List Stmt} {Q : Flow → Shared → Prop}
theorem m_loopCoreT {I l : Addr} {lo : Obj} {n : Nat} {P : Nat → Value → Prop} {St : Nat → Heap → Prop} {m₀ : Str → Option Value} {news : List (Addr × Obj)} (J : Nat → (Str → Option Value) → List (Addr × Obj) → Prop)
    (W : Walks prog w A I [I, l] [I] n P St) (hIL : I ≠ env.locals) (hI0 : h₀.get? I = none) (hIt : ∀ i h, St i h → ∃ o, h.get? I = some o ∧ o.cls ≠ .type "tuple") (hst : St 0 s.heap) (F : Fr h₀ env.locals s.heap m₀) (N : News h₀ env.locals s.heap news)
    (hoff : ∀ p ∈ news, p.1 ≠ I) (hJl : ∀ i m nx, J i m nx → (l, lo) ∈ nx) (hj : J 0 m₀ news)
    (turn : ∀ i v m₁ nx h tk it, it.cls ≠ .type "tuple" → P i v → i < n → J i m₁ nx → (∀ p ∈ nx, p.1 ≠ I) → Fr h₀ env.locals h (fun y => if y = x then some v else m₁ y) → News h₀ env.locals h ((I, it) :: nx) →
      wpAny (model prog w) A (execs body env) (ForPost h₀ env.locals (J (i + 1)) I it { s with heap := h, toks := tk } Q) E { s with heap := h, toks := tk })
    (done : ∀ m₁ nx h tk, J n m₁ nx → Fr h₀ env.locals h m₁ → News h₀ env.locals h nx → Q .next { s with heap := h, toks := tk }) :
    LoopAtV prog w A h₀ env x body Q E (.ref I) s := by
  have hlN := N _ (hJl _ _ _ hj)
  refine ⟨I, [I, l], [I], n, P, St, m₀, news, J, rfl, W, ?_, ?_, ?_, hst, F, N, hj, ?_, ?_⟩
  · intro hm
    rcases List.mem_cons.mp hm with e | hm
    · exact hIL e.symm
    · exact hlN.2.1 (List.mem_singleton.mp hm).symm
  · intro b hb
    rw [List.mem_singleton.mp hb]; exact hI0
  · intro p hp hm
    exact hoff p hp (List.mem_singleton.mp hm)
  · rintro i v m₁ nx s₁ own ⟨hh', tk', rfl⟩ hin hP hJ hoff₁ hown hget hfp hst₁ F₁ N₁
    obtain ⟨it, hit, hic⟩ := hIt _ _ hst₁
    have hI : (I, it) ∈ own := hfp I (.head _) hI0 it hit
    have ho : ∀ p ∈ nx, p.1 ≠ I := fun p hp e => hoff₁ p hp (by rw [e]; exact .head _)
    have N₂ : News h₀ env.locals hh' ((I, it) :: nx) := fun p hp => N₁ p (by
      rcases List.mem_cons.mp hp with rfl | hp
      · exact List.mem_append_left _ hI
      · exact List.mem_append_right _ hp)
    have hlo : hh'.get? l = some lo := (N₂ _ (.tail _ (hJl _ _ _ hJ))).1
    refine wpAny_mono (turn i v m₁ nx hh' tk' it hic hP hin hJ ho F₁ N₂) (fun f s₂ p => ?_) fun _ _ e => e
    have fin : ForEnd h₀ env.locals (J (i + 1)) I it { s with heap := hh', toks := tk' } s₂ → LoopStepU h₀ env.locals [I] own (J (i + 1)) { s with heap := hh', toks := tk' } .next s₂ := by
      rintro ⟨h', tk, m', nx', e, F', N', ho', hm⟩
      refine ⟨rfl, h', tk, m', nx', e, F', fun p hp => ?_, fun p hp hq => ho' p hp (List.mem_singleton.mp hq), hm⟩
      rcases List.mem_append.mp hp with hp | hp
      · have h2 : hh'.get? p.1 = some p.2 := hget p hp
        rcases List.mem_cons.mp (hown p hp) with h1 | h1
        · rw [h1, hit] at h2
          have h3 : p = (I, it) := Prod.ext h1 (Option.some.inj h2).symm
          rw [h3]; exact N' _ (.head _)
        · have h1 := List.mem_singleton.mp h1
          rw [h1, hlo] at h2
          have h3 : p = (l, lo) := Prod.ext h1 (Option.some.inj h2).symm
          rw [h3]; exact N' _ (.tail _ (hJl _ _ _ hm))
      · exact N' p (.tail _ hp)
    cases f with
    | ret v => exact .ret p
    | brk => exact .brk p
    | next => exact .next (fin p)
    | cont => exact .cont (fin p)
  · rintro h' tk m' news' F' N' _ hJ
    exact done m' news' h' tk hJ F' N'
/-- a for over a list of the ledger -/
theorem m_iterLT {l : Addr} {vs : List Value} {c : Nat} {m₀ : Str → Option Value} {news : List (Addr × Obj)} (J : Nat → (Str → Option Value) → List (Addr × Obj) → Prop)
    (hh : A.handled = none) (F : Fr h₀ env.locals s.heap m₀) (N : News h₀ env.locals s.heap news) (hJl : ∀ i m nx, J i m nx → (l, listOf vs.toArray c) ∈ nx) (hj : J 0 m₀ news)
    (turn : ∀ I i v m₁ nx h tk it, it.cls ≠ .type "tuple" → vs[i]? = some v → J i m₁ nx → (∀ p ∈ nx, p.1 ≠ I) → (∀ p ∈ news, p.1 < I) → Fr h₀ env.locals h (fun y => if y = x then some v else m₁ y) → News h₀ env.locals h ((I, it) :: nx) →
      ∀ J', Imp2 (J (i + 1)) J' → wpAny (model prog w) A (execs body env) (ForPost h₀ env.locals J' I it { s with heap := h, toks := tk } Q) E { s with heap := h, toks := tk })
    (done : ∀ m₁ nx h tk, J vs.length m₁ nx → Fr h₀ env.locals h m₁ → News h₀ env.locals h nx → Q .next { s with heap := h, toks := tk }) :
    wpAny (model prog w) A (pyIter (.ref l)) (fun it s₂ => LoopAtV prog w A h₀ env x body Q E it s₂) E s := by
  have hl := hJl _ _ _ hj
  have hol : s.heap.get? l = some (listOf vs.toArray c) := (N _ hl).1
  have hls : s.heap.IsList l vs.toArray := ⟨_, hol, rfl, c, rfl⟩
  have hne : l ≠ s.heap.objs.size := Nat.ne_of_lt (Heap.lt_size hol)
  refine wpAny_pyIter_list hls ?_
  have W := Walks.list (prog := prog) (w := w) hh s.heap.objs.size l hne vs.toArray
  rw [List.size_toArray] at W
  refine m_loopCoreT (lo := listOf vs.toArray c) J W (Nat.ne_of_gt F.ns.lt) (next_is_new F) (fun i h st => ?_) ⟨⟨_, Heap.get?_push_size _ rfl, rfl, rfl⟩, hls.at fun o e => Heap.get?_push_of_some _ e⟩ (F.push _) (fun p hp => ⟨Heap.get?_push_of_some _ (N p hp).1, (N p hp).2⟩)
    (fun p hp e => absurd (Heap.lt_size (N p hp).1) (e ▸ Nat.lt_irrefl _)) hJl hj ?_ ?_
  · obtain ⟨⟨o, ho, hoc, _⟩, _⟩ := st; exact ⟨o, ho, by rw [hoc]; decide⟩
  · intro i v m₁ nx h tk it hic hP _ hJ ho F₁ N₁
    exact turn _ i v m₁ nx h tk it hic (by simpa using hP) hJ ho (fun p hp => Heap.lt_size (N p hp).1) F₁ N₁ _ fun _ _ h => h
  · exact done
end
end Mine
namespace Mine
section
variable {prog : Program} {w : World} {A : Around} {E : Value → Shared → Prop} {s : Shared} {h₀ : Heap} {L : Addr} {m : Str → Option Value} {news : List (Addr × Obj)}
theorem sliceApplied_02 {sl : Addr} {u u' : Tok} {Q : Int × Int × Nat → Shared → Prop} (hs : s.heap.IsSliceOf sl (.int 0 u) (.int 2 u') .none) (h : Q (0, 1, 2) s) :
    wpAny (model prog w) A (Builtin.Slice.sliceApplied (.ref sl) (pure ((3 : Nat) : Int))) Q E s := by
  obtain ⟨os, hos, hcs, hds⟩ := id hs
  unfold Builtin.Slice.sliceApplied Builtin.Slice.sliceFields
  refine wpAny_bind (wpAny_bind (wpAny_field hos hds (x := .int 0 u) rfl (wpAny_bind (wpAny_field hos hds (x := .int 2 u') rfl (wpAny_bind (wpAny_field hos hds (x := .none) rfl (wpAny_pure ?_)))))))
  refine wpAny_bind (slicePart_none ?_)
  show wpAny _ _ (if ((1 : Int) == 0) = true then _ else _) _ _ s
  rw [if_neg (by decide)]
  refine wpAny_bind (slicePart_int (wpAny_bind (slicePart_int (wpAny_bind (wpAny_pure ?_)))))
  exact wpAny_pure h
theorem getItem_tuple_02 {t sl : Addr} {v0 v1 v2 : Value} {u u' : Tok} {Q : Value → Shared → Prop} (ht : IsTup s.heap t #[v0, v1, v2]) (hs : s.heap.IsSliceOf sl (.int 0 u) (.int 2 u') .none)
    (h : Q (.ref s.heap.objs.size) { s with heap := s.heap.push { cls := .type "tuple", data := .seq [v0, v1].toArray } }) : wpAny (model prog w) A (getItem (.ref t) (.ref sl)) Q E s := by
  have hL : (100000 : Nat) ≤ sizeLine := Nat.le_of_ble_eq_true rfl
  have hdrop : sizeOk (.seq [v0, v1].toArray) := by
    show (2 : Nat) ≤ sizeLine
    omega
  obtain ⟨os, hos, hcs, hds⟩ := id hs
  have hTs : s.TypeIs (.ref sl) "slice" := ⟨os, hos, hcs⟩
  unfold getItem
  try with_reducible refine wpAny_holding ?_
  first | refine wpAny_bind (wpAny_pure ?_) | skip
  refine wpAny_bind (wpAny_sequenceKey ht.typeIs (by decide) ?_)
  refine wpAny_bind (wpAny_callSpecial?_slot (name := Str.ofString "__getitem__") ht.typeIs slot_tuple_getitem
    (wpAny_call_entry slot_tuple_getitem ht.typeIs entry_tuple_getitem ?_ (args_tuple_getitem _ _)))
  show wpAny _ _ (Builtin.Tuple.tupleItemsOf (.ref t) >>= _) _ _ s
  refine wpAny_bind (tupleItemsOf_ ht ?_)
  refine wpAny_bind (wpAny_typeOf hTs ?_)
  rw [if_pos (by decide)]
  refine wpAny_bind (sliceApplied_02 hs ?_)
  show wpAny _ _ (if ((0 : Int) == 0 && (1 : Int) == 1 && (2 : Nat) == 3) = true then _ else _) _ _ s
  rw [if_neg (by decide)]
  first
    | exact wpAny_bind (m := Builtin.Tuple.tupleExact _) (wpAny_newObj_type (wpAny_pure ⟨_, rfl, wpAny_pure h⟩) hdrop)
    | exact wpAny_bind (m := Builtin.Tuple.tupleExact _) (wpAny_newObj_type (wpAny_bind (wpAny_pure (wpAny_pure ⟨_, rfl, wpAny_pure h⟩))) hdrop)
    | exact wpAny_bind (wpAny_bind (m := Builtin.Tuple.tupleExact _) (wpAny_newObj_type (wpAny_pure (wpAny_pure ⟨_, rfl, wpAny_pure h⟩)) hdrop))
    | exact wpAny_bind (wpAny_bind (m := Builtin.Tuple.tupleExact _) (wpAny_newObj_type (wpAny_pure ⟨_, rfl, wpAny_pure h⟩) hdrop))
theorem m_tslice {value slice : Expr} {t : Addr} {v0 v1 v2 : Value} {c : Nat} {u u' : Tok} {Q : Value → Shared → Prop} (F : Fr h₀ L s.heap m) (N : News h₀ L s.heap news) (hm : (t, tupOf [v0, v1, v2] c) ∈ news)
    (h : ∀ D h', Fr h₀ L h' m → News h₀ L h' ((D, tupOf [v0, v1] 0) :: news) → (∀ p ∈ news, p.1 < D) → Q (.ref D) { s with heap := h' })
    (hs : subscripted slice false (.ref t) (.ref s.heap.objs.size) = operate [.ref s.heap.objs.size, .ref t] (getItem (.ref t) (.ref s.heap.objs.size)))
    (hg : ∀ r, letTemporaryGo value (.ref t) r = pure ()) :
    wpAny (model prog w) A (subscriptTail value slice (.ref t) (.ref s.heap.objs.size)) Q E { s with heap := s.heap.push { cls := .type "slice", data := .fields #[.int 0 u, .int 2 u', .none] } } := by
  have ht : IsTup s.heap t #[v0, v1, v2] := ⟨_, N.get hm, rfl, c, rfl⟩
  have ht' : IsTup (s.heap.push { cls := .type "slice", data := .fields #[.int 0 u, .int 2 u', .none] }) t #[v0, v1, v2] := ht.keeps fun _ _ e => Heap.get?_push_of_some _ e
  refine subscriptTail_ops (s := { s with heap := s.heap.push { cls := .type "slice", data := .fields #[.int 0 u, .int 2 u', .none] } }) ht'.typeIs slot_tuple_getitem.lookup
    (getItem_tuple_02 ht' (Heap.IsSliceOf.new ..) ?_) hs hg
  have N1 := News.push (F.push { cls := .type "slice", data := .fields #[.int 0 u, .int 2 u', .none] }) (N.grown fun _ _ e => Heap.get?_push_of_some _ e) { cls := .type "tuple", data := .seq [v0, v1].toArray }
  exact h _ _ ((F.push _).push _) N1 fun p hp => by
    show p.1 < (s.heap.push _).objs.size
    rw [Heap.size_push]; exact Nat.lt_succ_of_lt (Heap.lt_size (N p hp).1)
end
end Mine
namespace Mine
theorem dummyFill : PySem.Challenge.rw_ok0007_01 = PySem.Challenge.rw_ok0007_01 ∧ hd.heap_39 = hd.heap_39 := by
  k_fill
  w_top off
  exact ⟨rfl, rfl⟩
local macro_rules | `(tactic| walk_at "e.a") => `(tactic| (intro h' F' N'; (try k_sweep)))
local macro_rules | `(tactic| walk_at "e.b") => `(tactic| (intro D' h' F' N' l1; (try k_lt l1); (try k_sweep)))
local macro_rules | `(tactic| walk_at "exec While") => `(tactic| refine hold ?_)
local macro_rules | `(tactic| walk_at "call ref") => `(tactic| refine hold ?_)
local macro_rules | `(tactic| k_upd) => `(tactic| first | exact InL.head | exact InL.asm (by with_reducible assumption) | (refine InL.tail ?_; k_upd) )
local macro_rules | `(tactic| k_mem) => `(tactic| (refine InL.to ?_; k_upd))
local macro_rules | `(tactic| k_all) => `(tactic| exact ne_of_allLt (by first | assumption | exact And.right (by assumption)))
local macro_rules | `(tactic| walk_at "m.sz") => `(tactic| first | assumption | omega | (simp only [List.length_append, List.length_cons, List.length_nil]; omega) | (simp only [List.length_append, List.length_cons, List.length_nil, List.length_reverse]; omega) | (simp only [List.length_append, List.length_cons, List.length_nil]; decide))
local macro_rules | `(tactic| walk_at "truthy ref") => `(tactic| (k_dflt (refine m_truthy (by k_asm) (by k_mem) (by walk_at "m.sz") ?_)))
local macro_rules | `(tactic| walk_at "call builtin:list.pop") => `(tactic| (k_dflt (refine m_pop (by k_asm) (by k_asm) (by k_upd) (by walk_at "m.sz") ?_); walk_at "e.a"))
local macro_rules | `(tactic| walk_at "call builtin:list.append") => `(tactic| (k_dflt (refine m_append (by k_asm) (by k_asm) (by k_upd) (by walk_at "m.sz") ?_); walk_at "e.a"))
local macro_rules | `(tactic| walk_at "call builtin:list.extend") => `(tactic| (k_dflt (refine' m_extendT ?F ?N ?b ?e ?U ?z ?_; (case F => k_asm); (case N => k_asm); (case b => k_mem); (case U => k_upd); (case e => exact List.cons_ne_nil _ _); (case z => walk_at "m.sz")); walk_at "e.a"))
local macro_rules | `(tactic| walk_at "callWith builtin:list.pop") => `(tactic| with_reducible refine callWith_method0 ?_)
local macro_rules | `(tactic| walk_at "callWith builtin:list.append") => `(tactic| refine callWith_method1 ?_)
local macro_rules | `(tactic| walk_at "callWith builtin:list.extend") => `(tactic| refine callWith_method1 ?_)
local macro_rules | `(tactic| walk_at "compareOp Eq str str") => `(tactic| (refine m_strEqNe (by with_reducible assumption) ?_))
local macro_rules | `(tactic| walk_at "compareOp NotEq str str") => `(tactic| (refine m_strNeNe (by with_reducible assumption) ?_))
local macro_rules | `(tactic| walk_at "compareOp Eq int int") => `(tactic| (refine m_intEqNe (by with_reducible assumption) ?_))
local macro_rules | `(tactic| walk_at "m.item") => `(tactic| (k_dflt (first
  | (refine m_item (by k_asm) (by k_mem) (by decide) (by decide) (by exact rfl) (by exact rfl) ?_ (by with_unfolding_all rfl))
  | (refine m_litem (by k_asm) (by k_mem) (by decide) (by decide) (by exact rfl) ?_ (by with_unfolding_all rfl))
  | (refine topTup_K (by k_asm) (by k_asm) (by k_is) (by decide) (by decide) (by exact rfl) (by exact rfl) ?_ (by with_unfolding_all rfl)))))
local macro_rules | `(tactic| walk_at "m.item") => `(tactic| ((with_reducible rename LeafAt _ _ _ _ => hLf); k_dflt (first
  | ((with_reducible show wpAny _ _ (subscriptTail _ _ (Value.ref _) (Value.int 0 _)) _ _ _); refine' m_leaf0 ?F ?X ?N ?e hLf ?p ?_ ?s; (case F => k_asm); (case X => k_asm); (case N => k_asm); (case e => k_is); (case p => walk_at "m.sub"); (case s => with_unfolding_all rfl); k_whole; intro tk')
  | ((with_reducible show wpAny _ _ (subscriptTail _ _ (Value.ref _) (Value.int 1 _)) _ _ _); refine' m_leaf1 ?F ?X ?N ?e hLf ?p ?_ ?s; (case F => k_asm); (case X => k_asm); (case N => k_asm); (case e => k_is); (case p => walk_at "m.sub"); (case s => with_unfolding_all rfl); k_whole; intro tk'))))
local macro_rules | `(tactic| walk_at "subscriptTail Name Constant ref int") => `(tactic| walk_at "m.item")
local macro_rules | `(tactic| walk_at "subscriptTail Subscript Name Constant Constant ref int") => `(tactic| walk_at "m.item")
local macro_rules | `(tactic| walk_at "binaryOp Add ref ref") => `(tactic| (k_dflt (refine m_listAdd (by k_asm) (by k_asm) (by k_mem) (by k_mem) (by walk_at "m.sz") ?_); walk_at "e.b"))
local macro_rules | `(tactic| walk_at "m.memv") => `(tactic| first | assumption | (refine List.mem_cons_of_mem _ ?_; walk_at "m.memv") | (refine List.mem_append_left _ ?_; walk_at "m.memv") | (refine List.mem_append_right _ ?_; walk_at "m.memv"))
local macro_rules | `(tactic| walk_at "m.sub") => `(tactic| first | (refine List.forall_mem_cons.mpr ⟨?ma, ?mb⟩; (case ma => k_mem); (case mb => walk_at "m.sub")) | (intro p hp; walk_at "m.memv"))
local macro_rules | `(tactic| walk_at "m.lt") => `(tactic| first | assumption | exact allLt_of (by assumption) | exact And.right (by assumption) | exact And.right (And.right (by assumption)) | exact And.right (And.right (And.right (by assumption))) | exact And.right (And.right (And.right (And.right (by assumption)))) | exact And.right (And.right (And.right (And.right (And.right (by assumption))))) | exact And.right (And.right (And.right (And.right (And.right (And.right (by assumption)))))))
local macro_rules | `(tactic| walk_at "m.dp") => `(tactic| (dsimp only [ktrTop, Around.deeper]; omega))
local macro_rules | `(tactic| walk_at "WhileStep2 ret") => `(tactic| (dsimp only [WhileStep2]))
local macro_rules | `(tactic| walk_at "m.om") => `(tactic| (simp only [Tm.size, List.map_append, List.map_cons, List.map_nil, List.sum_append, List.sum_cons, List.sum_nil, List.length_append, List.length_cons, List.length_nil] at *; omega))
local macro_rules | `(tactic| k_all) => `(tactic| assumption)
local macro_rules | `(tactic| walk_at "compareOp NotEq ref ref") => `(tactic| (k_dflt (refine' m_neNil ?N ?m ?i ?b ?u ?_; (case N => k_asm); (case b => k_mem); (case m => k_mem); (case i => assumption); (case u => walk_at "m.dp"))))
local macro_rules | `(tactic| walk_at "pyIter ref") => `(tactic| refine hold ?_)
local macro_rules | `(tactic| walk_at "m.for") => `(tactic| (unfold Hold; (rename Fr _ _ _ _ => lF'); (with_unfolding_all refine' For_invVF lF' ?k1 ?k2 ?_; (case k1 => exact rfl); (case k2 => exact rfl); k_whole)))
local macro_rules | `(tactic| walk_at "m.enter") => `(tactic| (refine' code_def ?k1 ?k2 ?k3 ?k4 ?k5 ?kA ?kF ?kK ?k6 ?k7 ?k8 ?k9 ?kB ?_ ?c2 ?c3 ?c4 ?c5; (case kA => exact rfl); (case kF => exact rfl); (case kK => assumption); (case k1 => k_asm); (case k2 => k_asm); (case k3 => k_asm); (case k4 => k_asm); (case k5 => k_asm); (case k6 => k_is); (case k7 => k_is); (case k8 => ktr_room); (case k9 => exact binds_K (by k_in) rfl (by k_is) rfl rfl rfl); (case c5 => decide); (case kB => exact locs rfl); (case c2 => exact rfl); (case c3 => exact rfl); (case c4 => exact rfl); k_whole; intro g' L' h' FG' F' N' B' X' T'; (try dsimp only); (try k_fold)))
local macro_rules | `(tactic| walk_at "exec For Name Call cons nil") => `(tactic| refine hold ?_)
local macro_rules | `(tactic| walk_at "exec For Name Name cons nil") => `(tactic| refine hold ?_)
local macro_rules | `(tactic| walk_at "exec For Name Subscript cons nil") => `(tactic| refine hold ?_)
local macro_rules | `(tactic| walk_at "exec For Name BinOp cons nil") => `(tactic| refine hold ?_)
local macro_rules | `(tactic| walk_at "call type:reversed") => `(tactic| (k_dflt (refine m_reversed (by k_asm) (by k_asm) (by k_mem) ?_); walk_at "e.b"))
local macro_rules | `(tactic| walk_at "compareOp NotIn int ref") => `(tactic| (k_dflt (refine m_dnotin (by k_asm) (by k_mem) (by assumption) (by assumption) (by assumption) ?_)))
local macro_rules | `(tactic| walk_at "setItem ref int") => `(tactic| (k_dflt (refine m_dset (by k_asm) (by k_asm) (by k_updF) (by assumption) (by walk_at "m.sz") ?_); (intro h' o' F' N' hd'; (try k_sweep))))
local macro_rules | `(tactic| walk_at "call builtin:dict.get") => `(tactic| (k_dflt (first
  | (refine m_dgetS (by k_asm) (by k_mem) (by assumption) (by assumption) (by assumption) ?_)
  | (refine m_dgetN (by k_asm) (by k_mem) (by assumption) (by assumption) (by assumption) ?_))))
local macro_rules | `(tactic| walk_at "call type:reversed") => `(tactic| (k_dflt (refine m_revT (by k_asm) (by k_asm) (by k_mem) (by walk_at "m.sz") ?_); intro D' h' tk' F' N' l1; (try k_lt l1); (try k_sweep)))
local macro_rules | `(tactic| walk_at "call type:list") => `(tactic| (k_dflt (refine m_listRev (by exact rfl) (by k_asm) (by k_asm) (by exact rfl) (by exact ne_of_allLt (by walk_at "m.lt")) (by k_mem) (by walk_at "m.sz") ?_); intro D' h' tk' c' F' N' l1; (try k_lt l1); (try k_sweep)))
local macro_rules | `(tactic| walk_at "call builtin:list.extend") => `(tactic| (k_dflt (refine m_extendR (by exact rfl) (by k_asm) (by k_asm) (by exact rfl) (by exact ne_of_allLt (by walk_at "m.lt")) (by k_mem) (by exact List.cons_ne_nil _ _) (by k_updF) (by walk_at "m.sz") ?_); (intro h' tk' c' F' N'; (try k_sweep))))
local macro_rules | `(tactic| walk_at "m.itemA") => `(tactic| (k_dflt (refine m_litem (by k_asm) (by k_mem) (by omega) (by omega) (by assumption) ?_ (by with_unfolding_all rfl))))
local macro_rules | `(tactic| walk_at "subscriptTail Name BinOp ref int") => `(tactic| walk_at "m.itemA")
local macro_rules | `(tactic| walk_at "subscriptTail Name Name ref int") => `(tactic| walk_at "m.itemA")
local macro_rules | `(tactic| walk_at "subscriptTail Name UnaryOp ref int") => `(tactic| (k_dflt (refine m_litemN (by k_asm) (by k_mem) (by walk_at "m.sz") ?_ (by with_unfolding_all rfl))))
local macro_rules | `(tactic| walk_at "call builtin:len") => `(tactic| (k_dflt (refine m_len (by k_asm) (by k_mem) (by walk_at "m.sz") ?_)))
local macro_rules | `(tactic| walk_at "m.slice") => `(tactic| ((with_reducible show wpAny _ _ (subscriptTail _ (PySem.Expr.Slice _ _ none _) (Value.ref _) (Value.ref _)) _ _ _); k_dflt (refine kms_slice_lit (by k_asm) (by k_asm) (by first | exact News.isList (by k_asm) (by k_mem) | exact Fr.lst (by k_asm) (by k_asm)) (by kmk_part) (by kmk_part) (by first | assumption | exact rfl) ?_ (by with_unfolding_all rfl) (by kmk_pure) (by exact sz_arr (by walk_at "m.sz"))); walk_at "e.b"))
local macro_rules | `(tactic| walk_at "call builtin:list.reverse") => `(tactic| (k_dflt (refine m_reverse (by k_asm) (by k_asm) (by k_upd) (by walk_at "m.sz") ?_); walk_at "e.a"))
local macro_rules | `(tactic| walk_at "m.enterC") => `(tactic| (refine' code_defC ?k1 ?k2 ?k3 ?k4 ?k5 ?kA ?kF ?kK ?k6 ?k7 ?k8 ?k9 ?kB ?kD ?_ ?c2 ?c3 ?c4; (case kA => exact rfl); (case kF => exact rfl); (case kK => assumption); (case k1 => k_asm); (case k2 => k_asm); (case k3 => k_asm); (case k4 => k_asm); (case k5 => k_asm); (case k6 => k_is); (case k7 => k_is); (case k8 => ktr_room); (case k9 => exact BindsTo.of_eq rfl); (case kB => exact rfl); (case kD => decide +kernel); (case c2 => exact rfl); (case c3 => exact rfl); (case c4 => exact rfl); k_whole))
local macro_rules | `(tactic| walk_at "inplaceOp Add ref ref") => `(tactic| (k_dflt (refine m_iadd (by k_asm) (by k_asm) (by k_mem) (by k_updF) (by walk_at "m.sz") ?_); (intro h' c' F' N'; (try k_sweep))))
local macro_rules | `(tactic| walk_at "loadName") => `(tactic| (k_dflt (refine' m_loadC ?N ?c ?m ?d ?_ ?a ?b; (case a => rfl); (case b => rfl); (case N => k_asm); (case c => rfl); (case m => k_mem); (case d => k_asm); k_whole)))
local macro_rules | `(tactic| walk_at "exec Assign cons ListComp") => `(tactic| refine hold ?_)
local macro_rules | `(tactic| walk_at "eval ListComp") => `(tactic| refine hold ?_)
local macro_rules | `(tactic| walk_at "m.compTA") => `(tactic| (unfold Hold; k_dflt (refine LCt.Assign_ListComp_T (F₀ := by assumption) rfl (by with_unfolding_all rfl) (by with_unfolding_all rfl) (by decide) (by rfl) (by decide) (by rfl) (by rfl) (by rfl) ?_)))
local macro_rules | `(tactic| walk_at "m.compA") => `(tactic| (unfold Hold; k_dflt (refine LCg.Assign_ListComp_U (F₀ := by assumption) rfl (by with_unfolding_all rfl) (by with_unfolding_all rfl) (by decide) (by rfl) (by decide) (by rfl) (by rfl) (by rfl) ?_)))
local macro_rules | `(tactic| walk_at "m.compE") => `(tactic| (unfold Hold; k_dflt (refine LCg.ListComp_U (F₀ := by assumption) (by with_unfolding_all rfl) (by decide) (by rfl) (by decide) (by rfl) ?_)))
local macro_rules | `(tactic| walk_at "compareOp NotIn int ref") => `(tactic| (k_dflt (refine m_lnotin (by k_asm) (by k_mem) (by assumption) ?_)))
local macro_rules | `(tactic| walk_at "call builtin:list.count") => `(tactic| (k_dflt (refine m_count (by k_asm) (by k_mem) (by assumption) ?_)))
local macro_rules | `(tactic| walk_at "callWith builtin:list.count") => `(tactic| refine callWith_method1 ?_)
local macro_rules | `(tactic| walk_at "call builtin:sum") => `(tactic| (k_dflt (refine m_sum (by exact rfl) (by k_asm) (by k_asm) (by k_mem) (by assumption) ?_); (intro h' tk' t' F' N'; (try k_sweep))))
local macro_rules | `(tactic| walk_at "call builtin:sorted") => `(tactic| (k_dflt (refine m_sortedI (by k_asm) (by k_asm) (by k_mem) (by assumption) (by omega) ?_); (intro D' vs' ns' c' h' F' N' l1 hi' hp' hq'; (try k_lt l1); (try k_sweep))))
local macro_rules | `(tactic| walk_at "call builtin:sorted") => `(tactic| (k_dflt (refine m_sortedD (by exact rfl) (by k_asm) (by k_asm) (by k_mem) (by assumption) (by assumption) (by omega) ?_); (intro D' vs' ns' c' h' tk' F' N' l1 hi' hp' hq'; (try k_lt l1); (try k_sweep))))
local macro_rules | `(tactic| walk_at "compareOp NotEq ref ref") => `(tactic| (k_dflt (refine' m_neInts ?N ?m ?i ?b ?j ?u ?_; (case N => k_asm); (case m => k_mem); (case b => k_mem); (case i => assumption); (case j => assumption); (case u => walk_at "m.dp"))))
local macro_rules | `(tactic| walk_at "CompSrcT") => `(tactic| refine hold ?_)
local macro_rules | `(tactic| walk_at "CompSrc") => `(tactic| refine hold ?_)
local macro_rules | `(tactic| walk_at "eval Name") => `(tactic| (k_dflt (refine' nameX_L ?F ?v ?_ ?a ?b; (case a => rfl); (case b => rfl); (case F => k_asm); (first | (case v => exact rfl) | (case v => assumption)); k_whole)))
local macro_rules | `(tactic| walk_at "loadName") => `(tactic| (k_dflt (refine' m_loadL ?F ?v ?_ ?a ?b; (case a => rfl); (case b => rfl); (case F => k_asm); (case v => assumption); k_whole)))
local macro_rules | `(tactic| walk_at "compareOp NotEq ref ref") => `(tactic| (k_dflt (refine' m_neIntsEq ?N ?m ?i ?b ?j ?u ?_; (case N => k_asm); (case m => k_mem); (case b => k_mem); (case i => assumption); (case j => assumption); (case u => walk_at "m.dp"))))
local macro_rules | `(tactic| walk_at "compareOp Eq ref ref") => `(tactic| (k_dflt (refine' m_eqNil ?N ?m ?i ?b ?u ?_; (case N => k_asm); (case b => k_mem); (case m => k_mem); (case i => assumption); (case u => walk_at "m.dp"))))
local macro_rules | `(tactic| walk_at "subscriptTail Name Name ref int") => `(tactic| (k_dflt (refine m_ditem (by k_asm) (by k_mem) (by assumption) (by assumption) ?_ (by with_unfolding_all rfl) (by with_unfolding_all (intro _; rfl)))))
local macro_rules | `(tactic| walk_at "compareOp In bool ref") => `(tactic| (k_dflt (refine m_inTrue (by k_asm) (by k_mem) ?_)))
local macro_rules | `(tactic| walk_at "subscriptTail Name Slice ref ref") => `(tactic| ((with_reducible show wpAny _ _ (subscriptTail _ (PySem.Expr.Slice _ _ none _) (Value.ref _) (Value.ref _)) _ _ _); k_dflt (refine m_tslice (by k_asm) (by k_asm) (by k_mem) ?_ (by with_unfolding_all rfl) (by kmk_pure)); walk_at "e.b"))
local macro_rules | `(tactic| walk_at "subscriptTail Name Slice ref ref") => `(tactic| walk_at "m.slice")
local macro_rules | `(tactic| walk_at "ite") => `(tactic| (k_closed; first | (with_reducible refine ite_pos (by k_dflt decide) ?_) | (with_reducible refine ite_neg (by k_dflt decide) ?_)))
local macro_rules | `(tactic| walk_at "getMethod ref") => `(tactic| ((with_reducible show wpAny _ _ (getMethod (Value.ref _) (PySem.Str.ofString "count") _) _ _ _); k_dflt (refine kl_method (by k_asm) (by k_mem) PySem.F.slot_list_count PySem.F.type_list_count ?_)))
theorem anew_take : True := by
  w_top off
  trivial
abbrev dealO (wl : Addr) (a b : Int) (ta tb : Tok) (n : Nat) : Obj := listOf [Value.ref wl, Value.int a ta, Value.int b tb].toArray n
section
variable {prog : Program} {w : World} {p : Program} {loose : List Str} {mean : ExcName → Option Value} {mg mb : Str → Option Value} {dp un : Nat} {gd : Option (List Code)} {cn : Str} {cs : Scope} {a : Addr} {ccd : Value} {cl : List (Str × Addr)} {outer : List Env} {A₀ : Around} {base h₀ : Heap} {L : Addr} {m : Str → Option Value} {news : List (Addr × Obj)} {s : Shared} {Q E : Value → Shared → Prop}
theorem take_spec {d wl : Addr} {i b : Int} {ti tb tw : Tok} {n nw : Nat} {ws : List Value} {ns : List Int} {R : List (Addr × Obj)} {ways : Int} (C : Cx w p loose mean mg mb A₀ base outer h₀ L s.heap m ((d, dealO wl i b ti tb n) :: (wl, listOf ws.toArray nw) :: R) cs) (hdp : dp < 900) (hun : un < 9000)
    (hne : @LT.lt Nat _ wl d) (hR1 : ∀ p ∈ R, p.1 ≠ d) (hR2 : ∀ p ∈ R, p.1 ≠ wl) (hi : IntsAre ws ns) (hpos : ∀ x ∈ ns, 0 ≤ x) (hi0 : 0 ≤ i) (hb0 : 0 ≤ b) (hb1 : b ≤ 20000) (hw0 : 2 ≤ ways) (hw1 : ways ≤ 9) (hlen : ns.length ≤ 100)
    (ret : ∀ k tk i' b' ti' tb' n' nw' ws' ns' h' tk', 0 ≤ k → k < ways → Fr h₀ L h' m → News h₀ L h' ((d, dealO wl i' b' ti' tb' n') :: (wl, listOf ws'.toArray nw') :: R) → IntsAre ws' ns' → (∀ x ∈ ns', 0 ≤ x) → 0 ≤ i' → 0 ≤ b' → b' ≤ 20000 → ns'.length ≤ 100 → Q (.int k tk) { s with heap := h', toks := tk' }) :
    wpAny (model prog w) (ktrTop dp un gd cn cs L a ccd cl outer) (call (.ref 100) [.ref d, .int ways tw]) Q E s := by
  obtain ⟨B, F, X, N, T, hk⟩ := C
  refine wpAny_call ?_
  k_dflt ktr_enter
  rename_i g' L' _ FG' F0 N0 B' X' T'
  replace F0 : Fr _ _ _ (fun y => List.lookup y [(Str.ofString "ways", .int ways tw), (Str.ofString "deal", .ref d)]) := F0
  by_cases hi1 : i = 0
  · subst hi1
    by_cases hns : ns = []
    · subst hns
      cases hi
      k_steps
      · have h1 : 0 ≤ (b * 31 + 17).fmod 10007 := fm_nn (by omega) (by omega)
        have h2 : (b * 31 + 17).fmod 10007 < 10007 := fm_lt (by omega)
        refine ret _ _ _ _ _ _ _ _ _ [] _ _ (fm_nn (by omega) hw0) (fm_lt hw0) (by assumption) (News.sub (by assumption) (by walk_at "m.sub")) .nil (fun _ h => nomatch h) hi0 ?_ ?_ (Nat.zero_le _)
        · omega
        · omega
      · exact ret _ _ _ _ _ _ _ _ _ [] _ _ (fm_nn hi0 hw0) (fm_lt hw0) (by assumption) (News.sub (by assumption) (by walk_at "m.sub")) .nil (fun _ h => nomatch h) (fd_nn hi0 hw0) hb0 hb1 (Nat.zero_le _)
    · obtain ⟨ws, ns, x, tx, rfl, rfl, hi2⟩ := ints_pop hi hns
      have hx : 0 ≤ x := hpos x (by simp)
      have hz := hi2.length
      simp only [List.length_append, List.length_cons, List.length_nil] at hlen
      k_steps
      exact ret _ _ _ _ _ _ _ _ _ ns _ _ (fm_nn hx hw0) (fm_lt hw0) (by assumption) (News.sub (by assumption) (by walk_at "m.sub")) hi2 (fun y hy => hpos y (by simp [hy])) (fd_nn hx hw0) hb0 hb1 (by omega)
  · k_steps
    exact ret _ _ _ _ _ _ _ _ _ _ _ _ (fm_nn hi0 hw0) (fm_lt hw0) (by assumption) (News.sub (by assumption) (by walk_at "m.sub")) hi hpos (fd_nn hi0 hw0) hb0 hb1 hlen
end

theorem anew_occ : True := by
  w_top off
  trivial
section
variable {prog : Program} {w : World} {p : Program} {loose : List Str} {mean : ExcName → Option Value} {mg mb : Str → Option Value} {dp un : Nat} {gd : Option (List Code)} {cn : Str} {cs : Scope} {a : Addr} {ccd : Value} {cl : List (Str × Addr)} {outer : List Env} {A₀ : Around} {base h₀ : Heap} {L : Addr} {m : Str → Option Value} {news : List (Addr × Obj)} {s : Shared} {Q E : Value → Shared → Prop}
theorem occ_spec {v : Value} {t : Tm} (C : Cx w p loose mean mg mb A₀ base outer h₀ L s.heap m news cs) (hdp : dp < 900) (hun : un < 9000) (hv : TmIn news v t) (hsz : t.size ≤ 10000)
    (ret : ∀ g od kvs h' tk', Fr h₀ L h' m → News h₀ L h' ((g, od) :: news) → AllLt g news → (g == sysModules) = false → od.IsDictOf (intKind prog w) kvs → CountsOf kvs t.names → kvs.map (·.1) = t.names.foldl addNew [] → Q (.ref g) { s with heap := h', toks := tk' }) :
    wpAny (model prog w) (ktrTop dp un gd cn cs L a ccd cl outer) (call (.ref 58) [v]) Q E s := by
  obtain ⟨B, F, X, N, T, hk⟩ := C
  refine wpAny_call ?_
  k_dflt ktr_enter
  rename_i g' L' _ FG' F0 N0 B' X' T'
  replace F0 : Fr _ _ _ (fun y => List.lookup y [(Str.ofString "term", v)]) := F0
  k_steps
  rename_i sd _ od l3 lo _ _ hi _ _ tl _ l4 _ F' N'
  have l5 := allLt_of l3
  unfold Hold
  refine While_inv3 (h₀ := g') (L := L') (fun n m nx => m (Str.ofString "todo") = some (.ref tl) ∧ m (Str.ofString "counts") = some (.ref sd) ∧ ∃ od kvs seen ts' n2 us,
    nx = (tl, listOf ts'.toArray n2) :: (sd, od) :: news ∧ od.IsDictOf (intKind prog w) kvs ∧ CountsOf kvs seen ∧ kvs.map (·.1) = seen.foldl addNew [] ∧ TmsIn news ts' us ∧ n = (us.map Tm.size).sum ∧
    n + kvs.length ≤ t.size ∧ seen ++ us.reverse.flatMap Tm.names = t.names) F' N' ⟨rfl, rfl, od, [], [], [v], _, [t], rfl, hi, fun k => ⟨fun h => absurd h (by simp), fun _ => rfl⟩, rfl, .cons hv .nil, rfl, by simp, by simp⟩ ?_ ?_
  · clear F' N'
    rintro J' hJ n m₁ nx h₁ tk₁ F₁ N₁ ⟨hm1, hm2, od, kvs, seen, ts', n2, us, rfl, hod, hco, hkv, hts', rfl, hle, ht⟩
    have hz1 := hts'.le_size
    by_cases hne : ts' = []
    · subst hne; cases hts'
      k_steps
      simp only [List.reverse_nil, List.flatMap_nil, List.append_nil] at ht
      subst ht
      exact ret _ _ _ _ _ (by assumption) (News.sub (by assumption) (by walk_at "m.sub")) l5 lo hod hco hkv
    · obtain ⟨ws, x, us, u, rfl, rfl, hws, hx⟩ := hts'.pop hne
      have hsz1 := u.size_pos
      simp only [List.map_append, List.map_cons, List.map_nil, List.sum_append, List.sum_cons, List.sum_nil, Nat.add_zero, List.length_append, List.length_cons, List.length_nil] at hle hz1 ⊢
      simp only [List.reverse_append, List.reverse_cons, List.reverse_nil, List.nil_append, List.flatMap_append, List.flatMap_cons, List.flatMap_nil, List.append_nil] at ht
      cases u with
      | leaf k nn =>
        obtain ⟨xa, rfl, hLf, hk⟩ := hx.leafAt
        by_cases hkv1 : k = Str.ofString "v"
        · subst hkv1
          simp only [Tm.names, if_true] at ht
          rw [← List.append_assoc] at ht
          by_cases hin : nn ∈ seen
          · obtain ⟨tt, hb⟩ := (hco nn).1 hin
            k_steps
            rename Fr g' L' _ _ => F9; rename News g' L' _ _ => N9
            refine wstep2 hJ F9 N9 (k' := (us.map Tm.size).sum) (by omega) ⟨hm1, hm2, _, _, seen ++ [nn], _, _, _, rfl, by assumption, hco.step, ?_, hws, rfl, ?_, ht⟩
            · rw [stored_keys, hkv, List.foldl_append]; rfl
            · exact Nat.le_trans (Nat.add_le_add_left (stored_length_le _ _ _) _) (by omega)
          · have hb := (hco nn).2 hin
            k_steps
            rename Fr g' L' _ _ => F9; rename News g' L' _ _ => N9
            refine wstep2 hJ F9 N9 (k' := (us.map Tm.size).sum) (by omega) ⟨hm1, hm2, _, _, seen ++ [nn], _, _, _, rfl, by assumption, hco.new hin, ?_, hws, rfl, ?_, ht⟩
            · rw [stored_keys, hkv, List.foldl_append]; rfl
            · exact Nat.le_trans (Nat.add_le_add_left (stored_length_le _ _ _) _) (by omega)
        · k_steps
          rename Fr g' L' _ _ => F9; rename News g' L' _ _ => N9
          simp only [Tm.names, if_neg hkv1, List.nil_append] at ht
          refine wstep2 hJ F9 N9 (k' := (us.map Tm.size).sum) (by omega) ⟨hm1, hm2, _, kvs, _, _, _, _, rfl, hod, hco, hkv, hws, rfl, by omega, ht⟩
      | node f l r =>
        cases hx with
        | @node _ _ _ _ _ _ _ vl vr _ _ hx1 hx2 hx3 hx4 =>
          simp only [Tm.size] at hsz1 hle hz1 ⊢
          k_steps
          rename Fr g' L' _ _ => F9; rename News g' L' _ _ => N9
          refine wstep2 hJ F9 N9 (k' := ((us ++ [r, l]).map Tm.size).sum) (by walk_at "m.om") ⟨hm1, hm2, _, kvs, _, _, _, _, rfl, hod, hco, hkv, hws.append (.cons hx4 (.cons hx3 .nil)), rfl, by walk_at "m.om", ?_⟩
          rw [← ht]
          simp [Tm.names]
  · with_unfolding_all passes_own
end

theorem anew_ground : True := by
  w_top off
  trivial
section
variable {prog : Program} {w : World} {p : Program} {loose : List Str} {mean : ExcName → Option Value} {mg mb : Str → Option Value} {dp un : Nat} {gd : Option (List Code)} {cn : Str} {cs : Scope} {a : Addr} {ccd : Value} {cl : List (Str × Addr)} {outer : List Env} {A₀ : Around} {base h₀ : Heap} {L : Addr} {m : Str → Option Value} {news : List (Addr × Obj)} {s : Shared} {Q E : Value → Shared → Prop}
theorem ground_spec {v : Value} {t : Tm} (C : Cx w p loose mean mg mb A₀ base outer h₀ L s.heap m news cs) (hdp : dp < 900) (hun : un < 9000) (hv : TmIn news v t) (hsz : t.size ≤ 10000)
    (ret : ∀ h' tk', Fr h₀ L h' m → News h₀ L h' news → Q (.bool (t.names.isEmpty)) { s with heap := h', toks := tk' }) :
    wpAny (model prog w) (ktrTop dp un gd cn cs L a ccd cl outer) (call (.ref 65) [v]) Q E s := by
  obtain ⟨B, F, X, N, T, hk⟩ := C
  refine wpAny_call ?_
  k_dflt ktr_enter
  rename_i g' L' _ FG' F0 N0 B' X' T'
  replace F0 : Fr _ _ _ (fun y => List.lookup y [(Str.ofString "term", v)]) := F0
  k_steps
  rename_i tl _ l1 _ F' N'
  have l4 := allLt_of l1
  unfold Hold
  refine While_inv3 (h₀ := g') (L := L') (fun n m nx => m (Str.ofString "todo") = some (.ref tl) ∧ ∃ ts n2 us, nx = (tl, listOf ts.toArray n2) :: news ∧ TmsIn news ts us ∧ n = (us.map Tm.size).sum ∧ n ≤ t.size ∧ t.names.isEmpty = (us.flatMap Tm.names).isEmpty) F' N' ⟨rfl, [v], _, [t], rfl, .cons hv .nil, rfl, by simp, by simp⟩ ?_ ?_
  · clear F' N'
    rintro J' hJ n m₁ nx h₁ tk₁ F₁ N₁ ⟨hm1, ts, n2, us, rfl, hts, rfl, hle, ht⟩
    have hz1 := hts.le_size
    by_cases hne : ts = []
    · subst hne; cases hts
      k_steps
      simp only [List.flatMap_nil, List.isEmpty_nil] at ht
      rw [ht] at ret
      exact ret _ _ (by assumption) (News.drop1 (by assumption))
    · obtain ⟨ws, x, us, u, rfl, rfl, hws, hx⟩ := hts.pop hne
      have hsz1 := u.size_pos
      simp only [List.map_append, List.map_cons, List.map_nil, List.sum_append, List.sum_cons, List.sum_nil, Nat.add_zero, List.length_append, List.length_cons, List.length_nil] at hle hz1 ⊢
      simp only [List.flatMap_append, List.flatMap_cons, List.flatMap_nil, List.append_nil] at ht
      cases u with
      | leaf k nn =>
        obtain ⟨xa, rfl, hLf, hk⟩ := hx.leafAt
        by_cases hkv : k = Str.ofString "v"
        · subst hkv
          k_steps
          have ht : t.names.isEmpty = false := by rw [ht]; simp [Tm.names]
          rw [ht] at ret
          exact ret _ _ (by assumption) (News.drop1 (by assumption))
        · k_steps
          rename Fr g' L' _ _ => F9; rename News g' L' _ _ => N9
          refine wstep2 hJ F9 N9 (k' := (us.map Tm.size).sum) (by omega) ⟨hm1, _, _, _, rfl, hws, rfl, by omega, ?_⟩
          rw [ht]
          simp [Tm.names, hkv]
      | node f l r =>
        cases hx with
        | @node _ _ _ _ _ _ _ vl vr _ _ hx1 hx2 hx3 hx4 =>
          simp only [Tm.size] at hsz1 hle hz1 ⊢
          k_steps
          rename Fr g' L' _ _ => F9; rename News g' L' _ _ => N9
          refine wstep2 hJ F9 N9 (k' := ((us ++ [l, r]).map Tm.size).sum) (by walk_at "m.om") ⟨hm1, _, _, _, rfl, hws.append (.cons hx3 (.cons hx4 .nil)), rfl, by walk_at "m.om", ?_⟩
          rw [ht]
          simp [Tm.names]
  · with_unfolding_all passes_own
end

theorem anew_size : True := by
  w_top off
  trivial
section
variable {prog : Program} {w : World} {p : Program} {loose : List Str} {mean : ExcName → Option Value} {mg mb : Str → Option Value} {dp un : Nat} {gd : Option (List Code)} {cn : Str} {cs : Scope} {a : Addr} {ccd : Value} {cl : List (Str × Addr)} {outer : List Env} {A₀ : Around} {base h₀ : Heap} {L : Addr} {m : Str → Option Value} {news : List (Addr × Obj)} {s : Shared} {Q E : Value → Shared → Prop}
theorem size_spec {v : Value} {t : Tm} (C : Cx w p loose mean mg mb A₀ base outer h₀ L s.heap m news cs) (hdp : dp < 900) (hun : un < 9000) (hv : TmIn news v t) (hsz : t.size ≤ 10000)
    (ret : ∀ tk h' tk', Fr h₀ L h' m → News h₀ L h' news → Q (.int (t.size : Int) tk) { s with heap := h', toks := tk' }) :
    wpAny (model prog w) (ktrTop dp un gd cn cs L a ccd cl outer) (call (.ref 72) [v]) Q E s := by
  obtain ⟨B, F, X, N, T, hk⟩ := C
  refine wpAny_call ?_
  k_dflt ktr_enter
  rename_i g' L' _ FG' F0 N0 B' X' T'
  replace F0 : Fr _ _ _ (fun y => List.lookup y [(Str.ofString "term", v)]) := F0
  k_steps
  rename_i tl _ l1 _ F' N'
  have l4 := allLt_of l1
  unfold Hold
  refine While_inv3 (h₀ := g') (L := L') (fun n m nx => m (Str.ofString "todo") = some (.ref tl) ∧ ∃ k tk ts n2 us, m (Str.ofString "total") = some (.int k tk) ∧ nx = (tl, listOf ts.toArray n2) :: news ∧ TmsIn news ts us ∧ n = (us.map Tm.size).sum ∧ n ≤ t.size ∧ k + (n : Int) = (t.size : Int)) F' N' ⟨rfl, 0, _, [v], _, [t], rfl, rfl, .cons hv .nil, rfl, by simp, by simp⟩ ?_ ?_
  · clear F' N'
    rintro J' hJ n m₁ nx h₁ tk₁ F₁ N₁ ⟨hm1, k, kt, ts, n2, us, hm2, rfl, hts, rfl, hle, ht⟩
    have hz1 := hts.le_size
    by_cases hne : ts = []
    · subst hne; cases hts
      k_steps
      simp only [List.map_nil, List.sum_nil, Int.ofNat_zero, Int.add_zero] at ht
      subst ht
      exact ret _ _ _ (by assumption) (News.drop1 (by assumption))
    · obtain ⟨ws, x, us, u, rfl, rfl, hws, hx⟩ := hts.pop hne
      have hsz1 := u.size_pos
      simp only [List.map_append, List.map_cons, List.map_nil, List.sum_append, List.sum_cons, List.sum_nil, Nat.add_zero, List.length_append, List.length_cons, List.length_nil] at ht hle hz1 ⊢
      cases u with
      | leaf k1 nn =>
        obtain ⟨xa, rfl, hLf, hk⟩ := hx.leafAt
        k_steps
        rename Fr g' L' _ _ => F9; rename News g' L' _ _ => N9
        refine wstep2 hJ F9 N9 (k' := (us.map Tm.size).sum) (by omega) ⟨hm1, k + 1, _, _, _, _, rfl, rfl, hws, rfl, by omega, ?_⟩
        simp only [Tm.size] at ht; omega
      | node f l r =>
        cases hx with
        | @node _ _ _ _ _ _ _ vl vr _ _ hx1 hx2 hx3 hx4 =>
          simp only [Tm.size] at hsz1 ht hle hz1 ⊢
          k_steps
          rename Fr g' L' _ _ => F9; rename News g' L' _ _ => N9
          refine wstep2 hJ F9 N9 (k' := ((us ++ [l, r]).map Tm.size).sum) (by walk_at "m.om") ⟨hm1, k + 1, _, _, _, _, rfl, rfl, hws.append (.cons hx3 (.cons hx4 .nil)), rfl, by walk_at "m.om", ?_⟩
          simp; omega
  · with_unfolding_all passes_own
end

theorem anew_parts : True := by
  w_top off
  trivial
def PartsOk (prog : Program) (w : World) (p : Program) (loose : List Str) (mean : ExcName → Option Value) (mg mb : Str → Option Value) (t : Tm) : Prop :=
  ∀ {dp un : Nat} {gd : Option (List Code)} {cn : Str} {cs : Scope} {a : Addr} {ccd : Value} {cl : List (Str × Addr)} {outer : List Env} {A₀ : Around} {base h₀ : Heap} {L : Addr} {m : Str → Option Value} {news : List (Addr × Obj)} {s : Shared} {Q E : Value → Shared → Prop} {v : Value}, Cx w p loose mean mg mb A₀ base outer h₀ L s.heap m news cs → dp + t.ht < 900 → un + 3 * t.ht < 9000 → TmIn news v t → t.size ≤ 10000 →
    (∀ tk h' tk', Fr h₀ L h' m → News h₀ L h' news → Q (.int (t.size : Int) tk) { s with heap := h', toks := tk' }) →
    wpAny (model prog w) (ktrTop dp un gd cn cs L a ccd cl outer) (call (.ref 135) [v]) Q E s
theorem parts_spec {prog : Program} {w : World} {p : Program} {loose : List Str} {mean : ExcName → Option Value} {mg mb : Str → Option Value} (t : Tm) : PartsOk prog w p loose mean mg mb t := by
  induction t with
  | leaf k n =>
    intro dp un gd cn cs a ccd cl outer A₀ base h₀ L m news s Q E v C hdp hun hv hsz ret
    obtain ⟨B, F, X, N, T, hk⟩ := C
    refine wpAny_call ?_
    k_dflt ktr_enter
    rename_i g' L' _ FG' F0 N0 B' X' T'
    replace F0 : Fr _ _ _ (fun y => List.lookup y [(Str.ofString "tree", v)]) := F0
    obtain ⟨xa, rfl, hLf, hk1⟩ := hv.leafAt
    k_steps
    exact ret _ _ _ (by assumption) (by assumption)
  | node f l r ih1 ih2 =>
    intro dp un gd cn cs a ccd cl outer A₀ base h₀ L m news s Q E v C hdp hun hv hsz ret
    obtain ⟨B, F, X, N, T, hk⟩ := C
    refine wpAny_call ?_
    k_dflt ktr_enter
    rename_i g' L' _ FG' F0 N0 B' X' T'
    replace F0 : Fr _ _ _ (fun y => List.lookup y [(Str.ofString "tree", v)]) := F0
    cases hv with
    | node hx1 hx2 hx3 hx4 =>
      simp only [Tm.ht, Tm.size] at hdp hun hsz
      k_steps
      unfold Hold
      k_dflt (refine ih1 ⟨B', by assumption, X', by assumption, T', rfl⟩ (by walk_at "m.dp") (by walk_at "m.dp") hx3 (by omega) ?_)
      intro k1 h1 tk1 F1 N1
      k_steps
      unfold Hold
      k_dflt (refine ih2 ⟨B', by assumption, X', by assumption, T', rfl⟩ (by walk_at "m.dp") (by walk_at "m.dp") hx4 (by omega) ?_)
      intro k2 h2 tk2 F2 N2
      k_steps
      have e : ((Tm.node f l r).size : Int) = 1 + (l.size : Int) + (r.size : Int) := by simp only [Tm.size]; omega
      rw [e] at ret
      exact ret _ _ _ (by assumption) (by assumption)

theorem anew_names : True := by
  w_top off
  trivial
def NamesOk (prog : Program) (w : World) (p : Program) (loose : List Str) (mean : ExcName → Option Value) (mg mb : Str → Option Value) (t : Tm) : Prop :=
  ∀ {dp un : Nat} {gd : Option (List Code)} {cn : Str} {cs : Scope} {a : Addr} {ccd : Value} {cl : List (Str × Addr)} {outer : List Env} {A₀ : Around} {base h₀ : Heap} {L : Addr} {m : Str → Option Value} {news : List (Addr × Obj)} {s : Shared} {Q E : Value → Shared → Prop} {v : Value}, Cx w p loose mean mg mb A₀ base outer h₀ L s.heap m news cs → dp + t.ht < 900 → un + 3 * t.ht < 9000 → TmIn news v t → t.size ≤ 10000 →
    (∀ g gs n h' tk', Fr h₀ L h' m → News h₀ L h' ((g, listOf gs.toArray n) :: news) → AllLt g news → IntsAre gs t.names → Q (.ref g) { s with heap := h', toks := tk' }) →
    wpAny (model prog w) (ktrTop dp un gd cn cs L a ccd cl outer) (call (.ref 128) [v]) Q E s
theorem names_spec {prog : Program} {w : World} {p : Program} {loose : List Str} {mean : ExcName → Option Value} {mg mb : Str → Option Value} (t : Tm) : NamesOk prog w p loose mean mg mb t := by
  induction t with
  | leaf k n =>
    intro dp un gd cn cs a ccd cl outer A₀ base h₀ L m news s Q E v C hdp hun hv hsz ret
    obtain ⟨B, F, X, N, T, hk⟩ := C
    refine wpAny_call ?_
    k_dflt ktr_enter
    rename_i g' L' _ FG' F0 N0 B' X' T'
    replace F0 : Fr _ _ _ (fun y => List.lookup y [(Str.ofString "tree", v)]) := F0
    obtain ⟨xa, rfl, hLf, hk1⟩ := hv.leafAt
    by_cases hkv : k = Str.ofString "v"
    · subst hkv
      k_steps
      exact ret _ [_] 0 _ _ (by assumption) (by assumption) (by walk_at "m.lt") (.cons _ _ .nil)
    · k_steps
      exact ret _ [] 0 _ _ (by assumption) (by assumption) (by walk_at "m.lt") (by unfold Tm.names; rw [if_neg hkv]; exact .nil)
  | node f l r ih1 ih2 =>
    intro dp un gd cn cs a ccd cl outer A₀ base h₀ L m news s Q E v C hdp hun hv hsz ret
    obtain ⟨B, F, X, N, T, hk⟩ := C
    refine wpAny_call ?_
    k_dflt ktr_enter
    rename_i g' L' _ FG' F0 N0 B' X' T'
    replace F0 : Fr _ _ _ (fun y => List.lookup y [(Str.ofString "tree", v)]) := F0
    cases hv with
    | node hx1 hx2 hx3 hx4 =>
      simp only [Tm.ht, Tm.size] at hdp hun hsz
      k_steps
      unfold Hold
      k_dflt (refine ih1 ⟨B', by assumption, X', by assumption, T', rfl⟩ (by walk_at "m.dp") (by walk_at "m.dp") hx3 (by omega) ?_)
      intro g1 gs1 n1 h1 tk1 F1 N1 l1 hs1
      k_steps
      unfold Hold
      k_dflt (refine ih2 ⟨B', by assumption, X', by assumption, T', rfl⟩ (by walk_at "m.dp") (by walk_at "m.dp") (hx4.mono (by walk_at "m.sub")) (by omega) ?_)
      intro g2 gs2 n2 h2 tk2 F2 N2 l2 hs2
      have hz1 := hs1.length
      have hz2 := hs2.length
      have hz3 := l.names_len
      have hz4 := r.names_len
      k_steps
      exact ret _ (gs1 ++ gs2) 0 _ _ (by assumption) (News.sub (by assumption) (by walk_at "m.sub")) (by walk_at "m.lt") (by exact IntsAre.append hs1 hs2)

theorem anew_lterm : True := by
  w_top off
  trivial
def Tm.chain (f : Int) (ts : List Tm) (tail : Tm) : Tm := ts.foldr (fun t r => .node f t r) tail
theorem chain_names (f : Int) (ts : List Tm) (te : Tm) : (Tm.chain f ts te).names = (ts ++ [te]).flatMap Tm.names := by
  induction ts with
  | nil => simp [Tm.chain]
  | cons t r ih =>
    have : Tm.chain f (t :: r) te = .node f t (Tm.chain f r te) := rfl
    rw [this]
    simp only [Tm.names, ih, List.cons_append, List.flatMap_cons]
theorem chain_size (f : Int) (ts : List Tm) (te : Tm) : (Tm.chain f ts te).size = ts.length + ((ts ++ [te]).map Tm.size).sum := by
  induction ts with
  | nil => simp [Tm.chain]
  | cons t r ih =>
    have : Tm.chain f (t :: r) te = .node f t (Tm.chain f r te) := rfl
    rw [this]
    simp only [Tm.size, ih, List.cons_append, List.map_cons, List.sum_cons, List.length_cons]
    omega
section
variable {prog : Program} {w : World} {p : Program} {loose : List Str} {mean : ExcName → Option Value} {mg mb : Str → Option Value} {dp un : Nat} {gd : Option (List Code)} {cn : Str} {cs : Scope} {a : Addr} {ccd : Value} {cl : List (Str × Addr)} {outer : List Env} {A₀ : Around} {base h₀ : Heap} {L : Addr} {m : Str → Option Value} {news : List (Addr × Obj)} {s : Shared} {Q E : Value → Shared → Prop}
theorem lterm_spec {l : Addr} {c : Nat} {vs args : List Value} {ts : List Tm} {tail : Tm} (C : Cx w p loose mean mg mb A₀ base outer h₀ L s.heap m news cs) (hdp : dp < 900) (hun : un < 9000) (hl : (l, listOf vs.toArray c) ∈ news) (hts : TmsIn news vs ts) (hz : vs.length ≤ 1000)
    (hargs : (args = [.ref l] ∧ tail = .leaf "a" 0) ∨ (∃ tv, args = [.ref l, tv] ∧ TmIn news tv tail))
    (ret : ∀ r nx h' tk', Fr h₀ L h' m → News h₀ L h' nx → (∀ p ∈ news, p ∈ nx) → TmIn nx r (Tm.chain 0 ts tail) → Q r { s with heap := h', toks := tk' }) :
    wpAny (model prog w) (ktrTop dp un gd cn cs L a ccd cl outer) (call (.ref 30) args) Q E s := by
  rcases hargs with ⟨rfl, rfl⟩ | ⟨tv, rfl, htv⟩
  · obtain ⟨B, F, X, N, T, hk⟩ := C
    refine wpAny_call ?_
    k_dflt (walk_at "m.enter")
    rename_i g' L' _ FG' F0 N0 B' X' T'
    replace F0 : Fr _ _ _ (fun y => List.lookup y [(Str.ofString "tail", .none), (Str.ofString "items", .ref l)]) := F0
    k_steps
    walk_at "m.for"
    k_steps
    unfold Hold
    rename Fr g' L' _ _ => F1
    rename News g' L' _ _ => N1
    k_dflt (refine m_iterRev (J := fun i m nx => (∃ rv, m (Str.ofString "result") = some rv ∧ TmIn nx rv (Tm.chain 0 (ts.reverse.take i).reverse (.leaf "a" 0))) ∧ (l, listOf vs.toArray c) ∈ nx ∧ ∀ p ∈ news, p ∈ nx) rfl F1 N1 rfl (ne_of_allLt (by walk_at "m.lt")) (fun _ _ _ h => h.2.1) ⟨⟨_, rfl, .nil⟩, hl, fun _ h => h⟩ ?_ ?_)
    · clear F1 N1
      rintro i v m₁ nx h₁ tk₁ it hv ⟨⟨rv, hm1, hrv⟩, hl1, hsub⟩ hoI F1 N1 J' hJ
      obtain ⟨t, ht, hvt⟩ := hts.reverse.get i v hv
      k_steps
      refine fstep2 hJ (by assumption) (News.rotI (by assumption)) ?_ ⟨⟨_, rfl, ?_⟩, List.mem_cons_of_mem _ (List.mem_cons_of_mem _ hl1), fun p hp => List.mem_cons_of_mem _ (List.mem_cons_of_mem _ (hsub p hp))⟩
      · exact List.forall_mem_cons.mpr ⟨by refine neN ?_; dsimp only; omega, List.forall_mem_cons.mpr ⟨by refine neN ?_; dsimp only; omega, hoI⟩⟩
      · rw [List.take_add_one, ht]
        simp only [Option.toList_some, List.reverse_append, List.reverse_cons, List.reverse_nil, List.nil_append, List.cons_append, Tm.chain, List.foldr_cons]
        exact .node List.mem_cons_self (List.mem_cons_of_mem _ List.mem_cons_self) (hvt.mono fun p hp => List.mem_cons_of_mem _ (List.mem_cons_of_mem _ (hsub p hp))) (hrv.mono fun p hp => List.mem_cons_of_mem _ (List.mem_cons_of_mem _ hp))
    · clear F1 N1
      rintro m₁ nx h₁ tk₁ ⟨⟨rv, hm1, hrv⟩, hl1, hsub⟩ F1 N1
      k_steps
      rw [List.take_of_length_le (by rw [List.length_reverse, hts.length]; exact Nat.le_refl _), List.reverse_reverse] at hrv
      exact ret _ _ _ _ (by assumption) (by assumption) hsub hrv
  · obtain ⟨B, F, X, N, T, hk⟩ := C
    obtain ⟨ta, rfl⟩ := htv.ref
    refine wpAny_call ?_
    k_dflt (walk_at "m.enter")
    rename_i g' L' _ FG' F0 N0 B' X' T'
    replace F0 : Fr _ _ _ (fun y => List.lookup y [(Str.ofString "tail", .ref ta), (Str.ofString "items", .ref l)]) := F0
    k_steps
    walk_at "m.for"
    k_steps
    unfold Hold
    rename Fr g' L' _ _ => F1
    rename News g' L' _ _ => N1
    k_dflt (refine m_iterRev (J := fun i m nx => (∃ rv, m (Str.ofString "result") = some rv ∧ TmIn nx rv (Tm.chain 0 (ts.reverse.take i).reverse tail)) ∧ (l, listOf vs.toArray c) ∈ nx ∧ ∀ p ∈ news, p ∈ nx) rfl F1 N1 rfl (ne_of_allLt (by walk_at "m.lt")) (fun _ _ _ h => h.2.1) ⟨⟨_, rfl, htv⟩, hl, fun _ h => h⟩ ?_ ?_)
    · clear F1 N1
      rintro i v m₁ nx h₁ tk₁ it hv ⟨⟨rv, hm1, hrv⟩, hl1, hsub⟩ hoI F1 N1 J' hJ
      obtain ⟨t, ht, hvt⟩ := hts.reverse.get i v hv
      k_steps
      refine fstep2 hJ (by assumption) (News.rotI (by assumption)) ?_ ⟨⟨_, rfl, ?_⟩, List.mem_cons_of_mem _ (List.mem_cons_of_mem _ hl1), fun p hp => List.mem_cons_of_mem _ (List.mem_cons_of_mem _ (hsub p hp))⟩
      · exact List.forall_mem_cons.mpr ⟨by refine neN ?_; dsimp only; omega, List.forall_mem_cons.mpr ⟨by refine neN ?_; dsimp only; omega, hoI⟩⟩
      · rw [List.take_add_one, ht]
        simp only [Option.toList_some, List.reverse_append, List.reverse_cons, List.reverse_nil, List.nil_append, List.cons_append, Tm.chain, List.foldr_cons]
        exact .node List.mem_cons_self (List.mem_cons_of_mem _ List.mem_cons_self) (hvt.mono fun p hp => List.mem_cons_of_mem _ (List.mem_cons_of_mem _ (hsub p hp))) (hrv.mono fun p hp => List.mem_cons_of_mem _ (List.mem_cons_of_mem _ hp))
    · clear F1 N1
      rintro m₁ nx h₁ tk₁ ⟨⟨rv, hm1, hrv⟩, hl1, hsub⟩ F1 N1
      k_steps
      rw [List.take_of_length_le (by rw [List.length_reverse, hts.length]; exact Nat.le_refl _), List.reverse_reverse] at hrv
      exact ret _ _ _ _ (by assumption) (by assumption) hsub hrv
end

theorem anew_litems : True := by
  w_top off
  trivial
section
variable {prog : Program} {w : World} {p : Program} {loose : List Str} {mean : ExcName → Option Value} {mg mb : Str → Option Value} {dp un : Nat} {gd : Option (List Code)} {cn : Str} {cs : Scope} {a : Addr} {ccd : Value} {cl : List (Str × Addr)} {outer : List Env} {A₀ : Around} {base h₀ : Heap} {L : Addr} {m : Str → Option Value} {news : List (Addr × Obj)} {s : Shared} {Q E : Value → Shared → Prop}
theorem litems_spec {v : Value} {t : Tm} (C : Cx w p loose mean mg mb A₀ base outer h₀ L s.heap m news cs) (hdp : dp < 900) (hun : un < 9000) (hv : TmIn news v t) (hsz : t.size ≤ 10000)
    (ret : ∀ q il gs n c ve h' tk', Fr h₀ L h' m → News h₀ L h' ((q, tupOf [.ref il, ve] c) :: (il, listOf gs.toArray n) :: news) → TmsIn news gs t.apart.1 → TmIn news ve t.apart.2 → Q (.ref q) { s with heap := h', toks := tk' }) :
    wpAny (model prog w) (ktrTop dp un gd cn cs L a ccd cl outer) (call (.ref 37) [v]) Q E s := by
  obtain ⟨B, F, X, N, T, hk⟩ := C
  refine wpAny_call ?_
  k_dflt ktr_enter
  rename_i g' L' _ FG' F0 N0 B' X' T'
  replace F0 : Fr _ _ _ (fun y => List.lookup y [(Str.ofString "term", v)]) := F0
  k_steps
  rename_i il _ l1 _ F' N'
  have l4 := allLt_of l1
  unfold Hold
  refine While_inv3 (h₀ := g') (L := L') (fun n m nx => m (Str.ofString "items") = some (.ref il) ∧ ∃ v' t' gs n2 ds, m (Str.ofString "term") = some v' ∧ nx = (il, listOf gs.toArray n2) :: news ∧ TmIn news v' t' ∧ TmsIn news gs ds ∧ n = t'.size ∧ t.apart.1 = ds ++ t'.apart.1 ∧ t.apart.2 = t'.apart.2 ∧ n + ds.length ≤ t.size) F' N' ⟨rfl, v, t, [], _, [], rfl, rfl, hv, .nil, rfl, by simp, rfl, by simp⟩ ?_ ?_
  · clear F' N'
    rintro J' hJ n m₁ nx h₁ tk₁ F₁ N₁ ⟨hm1, v', t', gs, n2, ds, hm2, rfl, hv', hgs, rfl, ht1, ht2, hle⟩
    have hz1 := hgs.length
    cases t' with
    | leaf k nn =>
      obtain ⟨xa, rfl, hLf, hk⟩ := hv'.leafAt
      k_steps
      exact ret _ _ gs _ _ _ _ _ (by assumption) (News.sub (by assumption) (by walk_at "m.sub")) (by rw [ht1]; simpa [Tm.apart] using hgs) (by rw [ht2]; exact hv')
    | node f l r =>
      cases hv' with
      | @node _ _ _ _ _ _ _ vl vr _ _ hx1 hx2 hx3 hx4 =>
        simp only [Tm.size] at hle
        have hsz1 := l.size_pos
        by_cases hf : f = 0
        · subst hf
          k_steps
          rename Fr g' L' _ _ => F9; rename News g' L' _ _ => N9
          refine wstep2 hJ F9 N9 (k' := r.size) (by simp only [Tm.size]; omega) ⟨hm1, _, _, _, _, _, rfl, rfl, hx4, hgs.snoc hx3, rfl, ?_, ?_, ?_⟩
          · rw [ht1]; simp [Tm.apart]
          · rw [ht2]; simp [Tm.apart]
          · simp; omega
        · k_steps
          exact ret _ _ gs _ _ _ _ _ (by assumption) (News.sub (by assumption) (by walk_at "m.sub")) (by rw [ht1]; simpa [Tm.apart, hf] using hgs) (by rw [ht2]; unfold Tm.apart; rw [if_neg hf]; exact .node hx1 hx2 hx3 hx4)
  · with_unfolding_all passes_own
end

theorem anew_apart : True := by
  w_top off
  trivial
def ApartOk (prog : Program) (w : World) (p : Program) (loose : List Str) (mean : ExcName → Option Value) (mg mb : Str → Option Value) (t : Tm) : Prop :=
  ∀ {dp un : Nat} {gd : Option (List Code)} {cn : Str} {cs : Scope} {a : Addr} {ccd : Value} {cl : List (Str × Addr)} {outer : List Env} {A₀ : Around} {base h₀ : Heap} {L : Addr} {m : Str → Option Value} {news : List (Addr × Obj)} {s : Shared} {Q E : Value → Shared → Prop} {v : Value}, Cx w p loose mean mg mb A₀ base outer h₀ L s.heap m news cs → dp + t.ht < 900 → un + 3 * t.ht < 9000 → TmIn news v t → t.size ≤ 10000 →
    (∀ q il gs n c ve h' tk', Fr h₀ L h' m → News h₀ L h' ((q, tupOf [.ref il, ve] c) :: (il, listOf gs.toArray n) :: news) → TmsIn news gs t.apart.1 → TmIn news ve t.apart.2 → Q (.ref q) { s with heap := h', toks := tk' }) →
    wpAny (model prog w) (ktrTop dp un gd cn cs L a ccd cl outer) (call (.ref 121) [v]) Q E s
theorem apart_spec {prog : Program} {w : World} {p : Program} {loose : List Str} {mean : ExcName → Option Value} {mg mb : Str → Option Value} (t : Tm) : ApartOk prog w p loose mean mg mb t := by
  induction t with
  | leaf k n =>
    intro dp un gd cn cs a ccd cl outer A₀ base h₀ L m news s Q E v C hdp hun hv hsz ret
    obtain ⟨B, F, X, N, T, hk⟩ := C
    refine wpAny_call ?_
    k_dflt ktr_enter
    rename_i g' L' _ FG' F0 N0 B' X' T'
    replace F0 : Fr _ _ _ (fun y => List.lookup y [(Str.ofString "tree", v)]) := F0
    obtain ⟨xa, rfl, hLf, hk1⟩ := hv.leafAt
    k_steps
    exact ret _ _ [] _ _ _ _ _ (by assumption) (by assumption) .nil hv
  | node f l r ih1 ih2 =>
    intro dp un gd cn cs a ccd cl outer A₀ base h₀ L m news s Q E v C hdp hun hv hsz ret
    obtain ⟨B, F, X, N, T, hk⟩ := C
    refine wpAny_call ?_
    k_dflt ktr_enter
    rename_i g' L' _ FG' F0 N0 B' X' T'
    replace F0 : Fr _ _ _ (fun y => List.lookup y [(Str.ofString "tree", v)]) := F0
    cases hv with
    | @node _ _ _ _ _ _ _ vl vr _ _ hx1 hx2 hx3 hx4 =>
      simp only [Tm.ht, Tm.size] at hdp hun hsz
      by_cases hf : f = 0
      · subst hf
        k_steps
        unfold Hold
        k_dflt (refine ih2 ⟨B', by assumption, X', by assumption, T', rfl⟩ (by walk_at "m.dp") (by walk_at "m.dp") hx4 (by omega) ?_)
        intro q1 g1 gs1 n1 c1 ve h1 tk1 F1 N1 hs1 he1
        have hz1 := hs1.length
        have hz3 := r.apart_len
        k_steps
        exact ret _ _ ([vl] ++ gs1) 0 _ _ _ _ (by assumption) (News.sub (by assumption) (by walk_at "m.sub")) (by unfold Tm.apart; rw [if_pos rfl]; exact .cons hx3 hs1) (by unfold Tm.apart; rw [if_pos rfl]; exact he1)
      · k_steps
        exact ret _ _ [] _ _ _ _ _ (by assumption) (by assumption) (by unfold Tm.apart; rw [if_neg hf]; exact .nil) (by unfold Tm.apart; rw [if_neg hf]; exact .node hx1 hx2 hx3 hx4)

theorem anew_conj : True := by
  w_top off
  trivial
def Tm.conj : List Tm → Tm
  | [] => .leaf "a" 16
  | [t] => t
  | t :: u :: r => .node 1 t (Tm.conj (u :: r))
theorem Tm.conj_cons {t : Tm} {r : List Tm} (h : r ≠ []) : Tm.conj (t :: r) = .node 1 t (Tm.conj r) := by
  cases r with
  | nil => exact absurd rfl h
  | cons u r => rfl
section
variable {prog : Program} {w : World} {p : Program} {loose : List Str} {mean : ExcName → Option Value} {mg mb : Str → Option Value} {dp un : Nat} {gd : Option (List Code)} {cn : Str} {cs : Scope} {a : Addr} {ccd : Value} {cl : List (Str × Addr)} {outer : List Env} {A₀ : Around} {base h₀ : Heap} {L : Addr} {m : Str → Option Value} {news : List (Addr × Obj)} {s : Shared} {Q E : Value → Shared → Prop}
theorem conj_spec {l : Addr} {c : Nat} {vs : List Value} {ts : List Tm} (C : Cx w p loose mean mg mb A₀ base outer h₀ L s.heap m news cs) (hdp : dp < 900) (hun : un < 9000) (hl : (l, listOf vs.toArray c) ∈ news) (hts : TmsIn news vs ts) (hz : vs.length ≤ 1000)
    (ret : ∀ r nx h' tk', Fr h₀ L h' m → News h₀ L h' nx → (∀ p ∈ news, p ∈ nx) → TmIn nx r (Tm.conj ts) → Q r { s with heap := h', toks := tk' }) :
    wpAny (model prog w) (ktrTop dp un gd cn cs L a ccd cl outer) (call (.ref 86) [.ref l]) Q E s := by
  obtain ⟨B, F, X, N, T, hk⟩ := C
  refine wpAny_call ?_
  k_dflt ktr_enter
  rename_i g' L' _ FG' F0 N0 B' X' T'
  replace F0 : Fr _ _ _ (fun y => List.lookup y [(Str.ofString "goals", .ref l)]) := F0
  by_cases hne : ts = []
  · subst hne; cases hts
    k_steps
    exact ret _ _ _ _ (by assumption) (by assumption) (fun p hp => .tail _ hp) (.leaf (by decide) List.mem_cons_self)
  · have hvs : vs ≠ [] := fun e => hne (by subst e; cases hts; rfl)
    have hn0 : 0 < vs.length := List.length_pos_iff.mpr hvs
    obtain ⟨x, hx⟩ : ∃ x, vs[((vs.length : Int) - 1).toNat]? = some x := ⟨_, List.getElem?_eq_getElem (by omega)⟩
    have hcond : ¬ (vs.length : Int) = 0 := by omega
    k_steps
    walk_at "m.for"
    k_steps
    unfold Hold
    rename Fr g' L' _ _ => F1
    rename News g' L' _ _ => N1
    have hl2 := hts.length
    have htx : TmIn news x (Tm.conj (ts.drop (ts.length - 1))) := by
      obtain ⟨t, h1, h2⟩ := hts.get _ _ hx
      have e : ts.drop (ts.length - 1) = [t] := by
        rw [show ((vs.length : Int) - 1).toNat = ts.length - 1 by omega] at h1
        rw [List.drop_eq_getElem?_toList_append, h1, show ts.length - 1 + 1 = ts.length by omega, List.drop_length]
        rfl
      rw [e]; exact h2
    k_dflt (refine m_iterRange (n := vs.length - 1) (J := fun i m nx => (∃ rv, m (Str.ofString "result") = some rv ∧ TmIn nx rv (Tm.conj (ts.drop (ts.length - 1 - i)))) ∧ m (Str.ofString "goals") = some (.ref l) ∧ ∀ p ∈ news, p ∈ nx) rfl (by assumption) (small_down (by omega) (by omega) (by omega) (by omega)) ?_ F1 N1 ⟨⟨_, rfl, htx⟩, rfl, fun _ h => h⟩ ?_ ?_)
    · rw [rangeSize_downNat]; omega
    · clear F1 N1
      rintro I i t m₁ nx h₁ tk₁ it hin ⟨⟨rv, hm1, hrv⟩, hm2, hsub⟩ hoI hI F1 N1 J' hJ
      obtain ⟨y, hy⟩ : ∃ y, vs[((vs.length : Int) - 2 + (i : Int) * -1).toNat]? = some y := ⟨_, List.getElem?_eq_getElem (by omega)⟩
      have hl3 := hsub _ hl
      obtain ⟨u, hu, hyu⟩ := hts.get _ _ hy
      k_steps
      rename Fr _ _ _ _ => F9; rename News _ _ _ _ => N9
      refine fstep2 hJ F9 (News.rotI N9) ?_ ⟨⟨_, rfl, ?_⟩, hm2, fun p hp => List.mem_cons_of_mem _ (List.mem_cons_of_mem _ (hsub p hp))⟩
      · exact List.forall_mem_cons.mpr ⟨by refine neN ?_; dsimp only; omega, List.forall_mem_cons.mpr ⟨by refine neN ?_; dsimp only; omega, hoI⟩⟩
      · rw [show ((vs.length : Int) - 2 + (i : Int) * -1).toNat = ts.length - 1 - (i + 1) by omega] at hu
        rw [List.drop_eq_getElem?_toList_append, hu, show ts.length - 1 - (i + 1) + 1 = ts.length - 1 - i by omega]
        rw [Option.toList_some, List.singleton_append, Tm.conj_cons (by intro e; have := congrArg List.length e; simp at this; omega)]
        exact .node List.mem_cons_self (List.mem_cons_of_mem _ List.mem_cons_self) (hyu.mono fun p hp => List.mem_cons_of_mem _ (List.mem_cons_of_mem _ (hsub p hp))) (hrv.mono fun p hp => List.mem_cons_of_mem _ (List.mem_cons_of_mem _ hp))
    · clear F1 N1
      rintro m₁ nx h₁ tk₁ ⟨⟨rv, hm1, hrv⟩, hm2, hsub⟩ F1 N1
      k_steps
      rw [show ts.length - 1 - (vs.length - 1) = 0 by omega, List.drop_zero] at hrv
      exact ret _ _ _ _ (by assumption) (by assumption) hsub hrv
end

theorem anew_conjuncts : True := by
  w_top off
  trivial
section
variable {prog : Program} {w : World} {p : Program} {loose : List Str} {mean : ExcName → Option Value} {mg mb : Str → Option Value} {dp un : Nat} {gd : Option (List Code)} {cn : Str} {cs : Scope} {a : Addr} {ccd : Value} {cl : List (Str × Addr)} {outer : List Env} {A₀ : Around} {base h₀ : Heap} {L : Addr} {m : Str → Option Value} {news : List (Addr × Obj)} {s : Shared} {Q E : Value → Shared → Prop}
theorem conjuncts_spec {v : Value} {t : Tm} (C : Cx w p loose mean mg mb A₀ base outer h₀ L s.heap m news cs) (hdp : dp < 900) (hun : un < 9000) (hv : TmIn news v t) (hsz : t.size ≤ 10000)
    (ret : ∀ g gs n h' tk', Fr h₀ L h' m → News h₀ L h' ((g, listOf gs.toArray n) :: news) → AllLt g news → TmsIn news gs t.opened → Q (.ref g) { s with heap := h', toks := tk' }) :
    wpAny (model prog w) (ktrTop dp un gd cn cs L a ccd cl outer) (call (.ref 79) [v]) Q E s := by
  obtain ⟨B, F, X, N, T, hk⟩ := C
  refine wpAny_call ?_
  k_dflt ktr_enter
  rename_i g' L' _ FG' F0 N0 B' X' T'
  replace F0 : Fr _ _ _ (fun y => List.lookup y [(Str.ofString "term", v)]) := F0
  k_steps
  rename_i _ gl _ l1 _ _ tl _ l2 _ F' N'
  obtain ⟨l2, l3⟩ := l2
  have l4 := allLt_of l1
  unfold Hold
  refine While_inv3 (h₀ := g') (L := L') (fun n m nx => m (Str.ofString "goals") = some (.ref gl) ∧ m (Str.ofString "todo") = some (.ref tl) ∧ ∃ gs n1 ts n2 us, nx = (tl, listOf ts.toArray n2) :: (gl, listOf gs.toArray n1) :: news ∧ TmsIn news ts us ∧ n = (us.map Tm.size).sum ∧ ∃ ds, TmsIn news gs ds ∧ t.opened = ds ++ us.reverse.flatMap Tm.opened ∧ n + ds.length ≤ t.size) F' N' ⟨rfl, rfl, [], _, [v], _, [t], rfl, .cons hv .nil, rfl, [], .nil, by simp, by simp⟩ ?_ ?_
  · clear F' N'
    rintro J' hJ n m₁ nx h₁ tk₁ F₁ N₁ ⟨hm1, hm2, gs, n1, ts, n2, us, rfl, hts, rfl, ds, hgs, ht, hle⟩
    have hz1 := hts.le_size
    have hz2 := hgs.length
    by_cases hne : ts = []
    · subst hne; cases hts
      k_steps
      exact ret _ _ _ _ _ (by assumption) (News.drop1 (by assumption)) l4 (by simpa [ht] using hgs)
    · obtain ⟨ws, x, us, u, rfl, rfl, hws, hx⟩ := hts.pop hne
      have hsz1 := u.size_pos
      simp only [List.map_append, List.map_cons, List.map_nil, List.sum_append, List.sum_cons, List.sum_nil, Nat.add_zero, List.reverse_append, List.reverse_cons, List.reverse_nil, List.nil_append, List.cons_append, List.flatMap_cons, List.length_append, List.length_cons, List.length_nil] at hle ht hz1 ⊢
      cases u with
      | leaf k nn =>
        obtain ⟨xa, rfl, hLf, hk⟩ := hx.leafAt
        k_steps
        rename Fr g' L' _ _ => F9; rename News g' L' _ _ => N9
        refine wstep2 hJ F9 N9 (k' := (us.map Tm.size).sum) (by omega) ⟨hm1, hm2, _, _, _, _, _, rfl, hws, rfl, _, hgs.snoc hx, by simp [ht, Tm.opened], by simp; omega⟩
      | node f l r =>
        cases hx with
        | @node _ _ _ _ _ _ _ vl vr _ _ hx1 hx2 hx3 hx4 =>
          simp only [Tm.size] at hsz1 hle hz1 ⊢
          by_cases hf : f = 1
          · subst hf
            k_steps
            rename Fr g' L' _ _ => F9; rename News g' L' _ _ => N9
            refine wstep2 hJ F9 N9 (k' := ((us ++ [r] ++ [l]).map Tm.size).sum) (by simp; omega) ⟨hm1, hm2, _, _, _, _, _, rfl, (hws.snoc hx4).snoc hx3, rfl, _, hgs, by simp [ht, Tm.opened], by simp; omega⟩
          · k_steps
            rename Fr g' L' _ _ => F9; rename News g' L' _ _ => N9
            refine wstep2 hJ F9 N9 (k' := (us.map Tm.size).sum) (by omega) ⟨hm1, hm2, _, _, _, _, _, rfl, hws, rfl, _, hgs.snoc (.node hx1 hx2 hx3 hx4), by simp [ht, Tm.opened, hf], by simp; omega⟩
  · with_unfolding_all passes_own
end

theorem anew_opened : True := by
  w_top off
  trivial
def OpenedOk (prog : Program) (w : World) (p : Program) (loose : List Str) (mean : ExcName → Option Value) (mg mb : Str → Option Value) (t : Tm) : Prop :=
  ∀ {dp un : Nat} {gd : Option (List Code)} {cn : Str} {cs : Scope} {a : Addr} {ccd : Value} {cl : List (Str × Addr)} {outer : List Env} {A₀ : Around} {base h₀ : Heap} {L : Addr} {m : Str → Option Value} {news : List (Addr × Obj)} {s : Shared} {Q E : Value → Shared → Prop} {v : Value}, Cx w p loose mean mg mb A₀ base outer h₀ L s.heap m news cs → dp + t.ht < 900 → un + 3 * t.ht < 9000 → TmIn news v t → t.size ≤ 10000 →
    (∀ g gs n h' tk', Fr h₀ L h' m → News h₀ L h' ((g, listOf gs.toArray n) :: news) → AllLt g news → TmsIn news gs t.opened → Q (.ref g) { s with heap := h', toks := tk' }) →
    wpAny (model prog w) (ktrTop dp un gd cn cs L a ccd cl outer) (call (.ref 114) [v]) Q E s
theorem opened_spec {prog : Program} {w : World} {p : Program} {loose : List Str} {mean : ExcName → Option Value} {mg mb : Str → Option Value} (t : Tm) : OpenedOk prog w p loose mean mg mb t := by
  induction t with
  | leaf k n =>
    intro dp un gd cn cs a ccd cl outer A₀ base h₀ L m news s Q E v C hdp hun hv hsz ret
    obtain ⟨B, F, X, N, T, hk⟩ := C
    refine wpAny_call ?_
    k_dflt ktr_enter
    rename_i g' L' _ FG' F0 N0 B' X' T'
    replace F0 : Fr _ _ _ (fun y => List.lookup y [(Str.ofString "tree", v)]) := F0
    obtain ⟨xa, rfl, hLf, hk1⟩ := hv.leafAt
    k_steps
    exact ret _ _ _ _ _ (by assumption) (by assumption) (by walk_at "m.lt") (.cons hv .nil)
  | node f l r ih1 ih2 =>
    intro dp un gd cn cs a ccd cl outer A₀ base h₀ L m news s Q E v C hdp hun hv hsz ret
    obtain ⟨B, F, X, N, T, hk⟩ := C
    refine wpAny_call ?_
    k_dflt ktr_enter
    rename_i g' L' _ FG' F0 N0 B' X' T'
    replace F0 : Fr _ _ _ (fun y => List.lookup y [(Str.ofString "tree", v)]) := F0
    cases hv with
    | node hx1 hx2 hx3 hx4 =>
      simp only [Tm.ht, Tm.size] at hdp hun hsz
      by_cases hf : f = 1
      · subst hf
        k_steps
        unfold Hold
        k_dflt (refine ih1 ⟨B', by assumption, X', by assumption, T', rfl⟩ (by walk_at "m.dp") (by walk_at "m.dp") hx3 (by omega) ?_)
        intro g1 gs1 n1 h1 tk1 F1 N1 l1 hs1
        k_steps
        unfold Hold
        k_dflt (refine ih2 ⟨B', by assumption, X', by assumption, T', rfl⟩ (by walk_at "m.dp") (by walk_at "m.dp") (hx4.mono (by walk_at "m.sub")) (by omega) ?_)
        intro g2 gs2 n2 h2 tk2 F2 N2 l2 hs2
        have hz1 := hs1.length
        have hz2 := hs2.length
        have hz3 := l.opened_len
        have hz4 := r.opened_len
        k_steps
        exact ret _ (gs1 ++ gs2) 0 _ _ (by assumption) (News.sub (by assumption) (by walk_at "m.sub")) (by walk_at "m.lt") (by unfold Tm.opened; rw [if_pos rfl]; exact hs1.append (hs2.drop (by simp)))
      · k_steps
        exact ret _ _ _ _ _ (by assumption) (by assumption) (by walk_at "m.lt") (by unfold Tm.opened; rw [if_neg hf]; exact .cons (.node hx1 hx2 hx3 hx4) .nil)

theorem anew_varsof : True := by
  w_top off
  trivial
section
variable {prog : Program} {w : World} {p : Program} {loose : List Str} {mean : ExcName → Option Value} {mg mb : Str → Option Value} {dp un : Nat} {gd : Option (List Code)} {cn : Str} {cs : Scope} {a : Addr} {ccd : Value} {cl : List (Str × Addr)} {outer : List Env} {A₀ : Around} {base h₀ : Heap} {L : Addr} {m : Str → Option Value} {news : List (Addr × Obj)} {s : Shared} {Q E : Value → Shared → Prop}
theorem varsof_spec {l : Addr} {c : Nat} {vs : List Value} {ts : List Tm} (C : Cx w p loose mean mg mb A₀ base outer h₀ L s.heap m news cs) (hdp : dp < 900) (hun : un < 9000) (hl : (l, listOf vs.toArray c) ∈ news) (hts : TmsIn news vs ts) (hz : (ts.map Tm.size).sum ≤ 10000)
    (ret : ∀ g gs n h' tk', Fr h₀ L h' m → News h₀ L h' ((g, listOf gs.toArray n) :: news) → AllLt g news → IntsAre gs ((ts.flatMap Tm.names).foldl addNew []) → Q (.ref g) { s with heap := h', toks := tk' }) :
    wpAny (model prog w) (ktrTop dp un gd cn cs L a ccd cl outer) (call (.ref 51) [.ref l]) Q E s := by
  obtain ⟨B, F, X, N, T, hk⟩ := C
  refine wpAny_call ?_
  k_dflt ktr_enter
  rename_i g' L' _ FG' F0 N0 B' X' T'
  replace F0 : Fr _ _ _ (fun y => List.lookup y [(Str.ofString "terms", .ref l)]) := F0
  have hz0 := hts.le_size
  k_steps
  rename_i sd _ od l3 lo _ _ hi _ _ rl _ l4 _ _ _ _ _ tl _ _ _ l5 _ F' N'
  unfold Hold
  refine While_inv3 (h₀ := g') (L := L') (fun n m nx => m (Str.ofString "todo") = some (.ref tl) ∧ m (Str.ofString "result") = some (.ref rl) ∧ m (Str.ofString "seen") = some (.ref sd) ∧ ∃ od kvs rs gs n1 ts' n2 us,
    nx = (tl, listOf ts'.toArray n2) :: (rl, listOf gs.toArray n1) :: (sd, od) :: news ∧ od.IsDictOf (intKind prog w) kvs ∧ IntsAre gs rs ∧ kvs.map (·.1) = rs ∧ TmsIn news ts' us ∧ n = (us.map Tm.size).sum ∧
    n + rs.length ≤ (ts.map Tm.size).sum ∧ (us.reverse.flatMap Tm.names).foldl addNew rs = (ts.flatMap Tm.names).foldl addNew []) F' N' ⟨rfl, rfl, rfl, od, [], [], [], 0, vs.reverse, _, ts.reverse, rfl, hi, .nil, rfl, hts.reverse, rfl, by simp, by simp⟩ ?_ ?_
  · clear F' N'
    rintro J' hJ n m₁ nx h₁ tk₁ F₁ N₁ ⟨hm1, hm2, hm3, od, kvs, rs, gs, n1, ts', n2, us, rfl, hod, hgs, hkv, hts', rfl, hle, ht⟩
    have hz1 := hts'.le_size
    have hz2 := hgs.length
    have hz3 : kvs.length = rs.length := by rw [← hkv, List.length_map]
    by_cases hne : ts' = []
    · subst hne; cases hts'
      k_steps
      simp only [List.reverse_nil, List.flatMap_nil, List.foldl_nil] at ht
      subst ht
      exact ret _ gs _ _ _ (by assumption) (News.sub (by assumption) (by walk_at "m.sub")) l4.2 hgs
    · obtain ⟨ws, x, us, u, rfl, rfl, hws, hx⟩ := hts'.pop hne
      have hsz1 := u.size_pos
      simp only [List.map_append, List.map_cons, List.map_nil, List.sum_append, List.sum_cons, List.sum_nil, Nat.add_zero, List.length_append, List.length_cons, List.length_nil] at hle hz1 ⊢
      simp only [List.reverse_append, List.reverse_cons, List.reverse_nil, List.nil_append, List.flatMap_append, List.flatMap_cons, List.flatMap_nil, List.append_nil, List.foldl_append] at ht
      cases u with
      | leaf k nn =>
        obtain ⟨xa, rfl, hLf, hk⟩ := hx.leafAt
        by_cases hkv1 : k = Str.ofString "v"
        · subst hkv1
          simp only [Tm.names, if_true, List.foldl_cons, List.foldl_nil] at ht
          by_cases hin : nn ∈ rs
          · have hb : (valueAt kvs nn).isSome = true := by rw [isSome_mem, hkv]; simpa using hin
            k_steps
            rename Fr g' L' _ _ => F9; rename News g' L' _ _ => N9
            rw [addNew, if_pos hin] at ht
            refine wstep2 hJ F9 N9 (k' := (us.map Tm.size).sum) (by omega) ⟨hm1, hm2, hm3, _, kvs, _, _, _, _, _, _, rfl, hod, hgs, hkv, hws, rfl, by omega, ht⟩
          · have hb : (valueAt kvs nn).isSome = false := by rw [isSome_mem, hkv]; simpa using hin
            k_steps
            rename Fr g' L' _ _ => F9; rename News g' L' _ _ => N9
            rw [addNew, if_neg hin] at ht
            refine wstep2 hJ F9 N9 (k' := (us.map Tm.size).sum) (by omega) ⟨hm1, hm2, hm3, _, _, rs ++ [nn], _, _, _, _, _, rfl, by assumption, hgs.append (.cons _ _ .nil), ?_, hws, rfl, ?_, ht⟩
            · rw [stored_keys, hkv, addNew, if_neg hin]
            · simp only [List.length_append, List.length_cons, List.length_nil]; omega
        · k_steps
          rename Fr g' L' _ _ => F9; rename News g' L' _ _ => N9
          simp only [Tm.names, if_neg hkv1, List.foldl_nil] at ht
          refine wstep2 hJ F9 N9 (k' := (us.map Tm.size).sum) (by omega) ⟨hm1, hm2, hm3, _, kvs, _, _, _, _, _, _, rfl, hod, hgs, hkv, hws, rfl, by omega, ht⟩
      | node f l r =>
        cases hx with
        | @node _ _ _ _ _ _ _ vl vr _ _ hx1 hx2 hx3 hx4 =>
          simp only [Tm.size] at hsz1 hle hz1 ⊢
          k_steps
          rename Fr g' L' _ _ => F9; rename News g' L' _ _ => N9
          refine wstep2 hJ F9 N9 (k' := ((us ++ [r, l]).map Tm.size).sum) (by walk_at "m.om") ⟨hm1, hm2, hm3, _, kvs, _, _, _, _, _, _, rfl, hod, hgs, hkv, hws.append (.cons hx4 (.cons hx3 .nil)), rfl, by walk_at "m.om", ?_⟩
          rw [← ht]
          simp [Tm.names]
  · with_unfolding_all passes_own
end

theorem anew_cons : True := by
  w_top off
  trivial
section
variable {prog : Program} {w : World} {p : Program} {loose : List Str} {mean : ExcName → Option Value} {mg mb : Str → Option Value} {dp un : Nat} {gd : Option (List Code)} {cn : Str} {cs : Scope} {a : Addr} {ccd : Value} {cl : List (Str × Addr)} {outer : List Env} {A₀ : Around} {base h₀ : Heap} {L : Addr} {m : Str → Option Value} {news : List (Addr × Obj)} {s : Shared} {Q E : Value → Shared → Prop}
theorem cons_spec {v1 v2 : Value} {t1 t2 : Tm} (C : Cx w p loose mean mg mb A₀ base outer h₀ L s.heap m news cs) (hdp : dp < 900) (hun : un < 9000) (h1 : TmIn news v1 t1) (h2 : TmIn news v2 t2)
    (ret : ∀ r nx h' tk', Fr h₀ L h' m → News h₀ L h' nx → (∀ p ∈ news, p ∈ nx) → TmIn nx r (.node 0 t1 t2) → Q r { s with heap := h', toks := tk' }) :
    wpAny (model prog w) (ktrTop dp un gd cn cs L a ccd cl outer) (call (.ref 22) [v1, v2]) Q E s := by
  obtain ⟨a1, rfl⟩ := h1.ref
  obtain ⟨a2, rfl⟩ := h2.ref
  obtain ⟨B, F, X, N, T, hk⟩ := C
  refine wpAny_call ?_
  k_dflt ktr_enter
  rename_i g' L' _ FG' F0 N0 B' X' T'
  replace F0 : Fr _ _ _ (fun y => List.lookup y [(Str.ofString "tail", .ref a2), (Str.ofString "head", .ref a1)]) := F0
  k_steps
  exact ret _ _ _ _ (by assumption) (by assumption) (fun p hp => .tail _ (.tail _ hp)) (.node (.head _) (.tail _ (.head _)) (h1.mono fun p hp => .tail _ (.tail _ hp)) (h2.mono fun p hp => .tail _ (.tail _ hp)))
end

theorem anew_vars : True := by
  w_top off
  trivial
section
variable {prog : Program} {w : World} {p : Program} {loose : List Str} {mean : ExcName → Option Value} {mg mb : Str → Option Value} {dp un : Nat} {gd : Option (List Code)} {cn : Str} {cs : Scope} {a : Addr} {ccd : Value} {cl : List (Str × Addr)} {outer : List Env} {A₀ : Around} {base h₀ : Heap} {L : Addr} {m : Str → Option Value} {news : List (Addr × Obj)} {s : Shared} {Q E : Value → Shared → Prop}
theorem vars_spec {v : Value} {t : Tm} (C : Cx w p loose mean mg mb A₀ base outer h₀ L s.heap m news cs) (hdp : dp < 800) (hun : un < 8000) (hv : TmIn news v t) (hsz : t.size ≤ 10000)
    (ret : ∀ g gs n h' tk', Fr h₀ L h' m → News h₀ L h' ((g, listOf gs.toArray n) :: news) → AllLt g news → IntsAre gs (t.names.foldl addNew []) → Q (.ref g) { s with heap := h', toks := tk' }) :
    wpAny (model prog w) (ktrTop dp un gd cn cs L a ccd cl outer) (call (.ref 44) [v]) Q E s := by
  obtain ⟨B, F, X, N, T, hk⟩ := C
  refine wpAny_call ?_
  k_dflt ktr_enter
  rename_i g' L' _ FG' F0 N0 B' X' T'
  replace F0 : Fr _ _ _ (fun y => List.lookup y [(Str.ofString "term", v)]) := F0
  k_steps
  unfold Hold
  rename Fr g' L' _ _ => F'; rename News g' L' _ _ => N'; rename ∀ p ∈ news, p.1 < _ => l1; have l2 := allLt_of l1
  k_dflt (refine varsof_spec (vs := [v]) (ts := [t]) ⟨B', F', X', N', T', rfl⟩ (by walk_at "m.dp") (by walk_at "m.dp") List.mem_cons_self (.cons (hv.mono fun p hp => .tail _ hp) .nil) (by simpa using hsz) ?_)
  intro g gs n h2 tk2 F2 N2 lg hgs
  simp only [AllLt] at lg
  simp only [List.flatMap_cons, List.flatMap_nil, List.append_nil] at hgs
  k_steps
  exact ret _ _ _ _ _ (by assumption) (News.sub (by assumption) (by walk_at "m.sub")) lg.2 hgs
end

theorem anew_deal : True := by
  w_top off
  trivial
section
variable {prog : Program} {w : World} {p : Program} {loose : List Str} {mean : ExcName → Option Value} {mg mb : Str → Option Value} {dp un : Nat} {gd : Option (List Code)} {cn : Str} {cs : Scope} {a : Addr} {ccd : Value} {cl : List (Str × Addr)} {outer : List Env} {A₀ : Around} {base h₀ : Heap} {L : Addr} {m : Str → Option Value} {news : List (Addr × Obj)} {s : Shared} {Q E : Value → Shared → Prop}
theorem deal_spec {l : Addr} {vs : List Value} {ns : List Int} (C : Cx w p loose mean mg mb A₀ base outer h₀ L s.heap m news cs) (hdp : dp < 900) (hun : un < 9000) (hl : h₀.IsList l vs.toArray) (hi : IntsAre vs ns) (hz : vs.length ≤ 63)
    (ret : ∀ d wl b ta tb n nw ws ns' h' tk', Fr h₀ L h' m → News h₀ L h' ((d, dealO wl 0 b ta tb n) :: (wl, listOf ws.toArray nw) :: news) → @LT.lt Nat _ wl d → AllLt wl news → IntsAre ws ns' → (∀ x ∈ ns', 0 ≤ x) → 0 ≤ b → b ≤ 20000 → ns'.length ≤ 100 → Q (.ref d) { s with heap := h', toks := tk' }) :
    wpAny (model prog w) (ktrTop dp un gd cn cs L a ccd cl outer) (call (.ref 93) [.ref l]) Q E s := by
  obtain ⟨B, F, X, N, T, hk⟩ := C
  refine wpAny_call ?_
  k_dflt ktr_enter
  rename_i g' L' _ FG' F0 N0 B' X' T'
  replace F0 : Fr _ _ _ (fun y => List.lookup y [(Str.ofString "script", .ref l)]) := F0
  have hl1 : g'.IsList l vs.toArray := FG'.lst hl
  k_steps
  walk_at "m.for"
  k_steps
  rename_i wl _ lw _ zl _ F1 N1 lz
  unfold Hold
  have e0 : kms_pick vs.toArray.toList none (some 60) = vs.take 60 := by
    unfold kms_pick kms_lo kms_hi
    simp only [List.drop_zero, Nat.sub_zero]
    rw [if_neg (by decide), List.take_eq_take_iff]; simp
  rw [e0] at N1; have lw1 := allLt_of lw
  have hzi := hi.take 60
  k_dflt (refine m_iterL (vs := vs.take 60) (c := 0) (J := fun i m nx => m (Str.ofString "waiting") = some (.ref wl) ∧ ∃ gs n2 rs, nx = (zl, listOf (vs.take 60).toArray 0) :: (wl, listOf gs.toArray n2) :: news ∧ IntsAre gs rs ∧ (∀ x ∈ rs, 0 ≤ x) ∧ rs.length = i) rfl F1 N1 ?_ ⟨rfl, [], 0, [], rfl, .nil, (fun _ h => nomatch h), rfl⟩ ?_ ?_)
  · rintro i m nx ⟨_, gs, n2, rs, rfl, _⟩
    exact List.mem_cons_self
  · clear F1 N1
    rintro I i v m₁ nx h₁ tk₁ it hv ⟨hm1, gs, n2, rs, rfl, hgs, hpos, hlen⟩ hoI hI F1 N1 J' hJ
    have hib : i < 63 := by
      have := (List.getElem?_eq_some_iff.mp hv).1
      simp only [List.length_take] at this; omega
    obtain ⟨x, tx, rfl, hx⟩ := hzi.at _ _ hv
    have hgl := hgs.length
    have hI2 : @LT.lt Nat _ zl I ∧ @LT.lt Nat _ wl I ∧ AllLt I news := allLt_of hI
    by_cases h0 : x ≥ 0
    · k_steps
      rename Fr _ _ _ _ => F9; rename News _ _ _ _ => N9
      refine fstep2 hJ F9 N9 (List.forall_mem_cons.mpr ⟨hoI _ (.head _), List.forall_mem_cons.mpr ⟨by refine neN ?_; dsimp only; omega, fun p hp => hoI p (.tail _ (.tail _ hp))⟩⟩) ⟨hm1, _, _, rs ++ [x], rfl, hgs.append (.cons _ _ .nil), ?_, ?_⟩
      · intro y hy
        rcases List.mem_append.mp hy with hy | hy
        · exact hpos y hy
        · rw [List.mem_singleton.mp hy]; omega
      · simp [hlen]
    · k_steps
      rename Fr _ _ _ _ => F9; rename News _ _ _ _ => N9
      refine fstep2 hJ F9 N9 (List.forall_mem_cons.mpr ⟨hoI _ (.head _), List.forall_mem_cons.mpr ⟨by refine neN ?_; dsimp only; omega, fun p hp => hoI p (.tail _ (.tail _ hp))⟩⟩) ⟨hm1, _, _, rs ++ [1 - 2 * x], rfl, hgs.append (.cons _ _ .nil), ?_, ?_⟩
      · intro y hy
        rcases List.mem_append.mp hy with hy | hy
        · exact hpos y hy
        · rw [List.mem_singleton.mp hy]; omega
      · simp [hlen]
  · clear F1 N1
    rintro m₁ nx h₁ tk₁ ⟨hm1, gs, n2, rs, rfl, hgs, hpos, hlen⟩ F1 N1
    have hgl := hgs.length
    simp only [List.length_take] at hlen
    k_steps
    exact ret _ _ _ _ _ _ _ _ _ _ _ (by assumption) (News.sub (by assumption) (by walk_at "m.sub")) (by omega) lw1 hgs.reverse (fun x hx => hpos x (List.mem_reverse.mp hx)) (by omega) (by simp only [List.length_reverse]; omega) (by simp only [List.length_reverse]; omega)
end

theorem anew_tree : True := by
  w_top off
  trivial
def TreeOk (prog : Program) (w : World) (p : Program) (loose : List Str) (mean : ExcName → Option Value) (mg mb : Str → Option Value) (k : Nat) : Prop :=
  ∀ {dp un : Nat} {gd : Option (List Code)} {cn : Str} {cs : Scope} {a : Addr} {ccd : Value} {cl : List (Str × Addr)} {outer : List Env} {A₀ : Around} {base h₀ : Heap} {L : Addr} {m : Str → Option Value} {s : Shared} {Q E : Value → Shared → Prop} {d wl : Addr} {i b deep : Int} {ti tb tp : Tok} {n nw : Nat} {ws : List Value} {ns : List Int} {R : List (Addr × Obj)},
    Cx w p loose mean mg mb A₀ base outer h₀ L s.heap m ((d, dealO wl i b ti tb n) :: (wl, listOf ws.toArray nw) :: R) cs → dp + k < 800 → un + 3 * k < 8000 → deep + k = 3 → k ≤ 3 →
    @LT.lt Nat _ wl d → (∀ p ∈ R, p.1 ≠ d) → (∀ p ∈ R, p.1 ≠ wl) → IntsAre ws ns → (∀ x ∈ ns, 0 ≤ x) → 0 ≤ i → 0 ≤ b → b ≤ 20000 → ns.length ≤ 100 →
    (∀ r t i' b' ti' tb' n' nw' ws' ns' E h' tk', Fr h₀ L h' m → News h₀ L h' ((d, dealO wl i' b' ti' tb' n') :: (wl, listOf ws'.toArray nw') :: (E ++ R)) → (∀ p ∈ E, p.1 ≠ d) → (∀ p ∈ E, p.1 ≠ wl) → (∀ p ∈ E, ∀ q ∈ R, p.1 ≠ q.1) →
      IntsAre ws' ns' → (∀ x ∈ ns', 0 ≤ x) → 0 ≤ i' → 0 ≤ b' → b' ≤ 20000 → ns'.length ≤ 100 → TmIn E r t → t.ok → t.ht ≤ k + 1 → t.size ≤ 2 ^ (k + 1) - 1 → Q r { s with heap := h', toks := tk' }) →
    wpAny (model prog w) (ktrTop dp un gd cn cs L a ccd cl outer) (call (.ref 107) [.ref d, .int deep tp]) Q E s
theorem tree_spec {prog : Program} {w : World} {p : Program} {loose : List Str} {mean : ExcName → Option Value} {mg mb : Str → Option Value} (k : Nat) : TreeOk prog w p loose mean mg mb k := by
  induction k with
  | zero =>
    intro dp un gd cn cs a ccd cl outer A₀ base h₀ L m s Q E d wl i b deep ti tb tp n nw ws ns R C hdp hun hdeep hk3 hwd hR1 hR2 hi hpos hi0 hb0 hb1 hlen ret
    obtain ⟨B, F, X, N, T, hk⟩ := C
    refine wpAny_call ?_
    k_dflt ktr_enter
    rename_i g' L' _ FG' F0 N0 B' X' T'
    replace F0 : Fr _ _ _ (fun y => List.lookup y [(Str.ofString "deep", .int deep tp), (Str.ofString "deal", .ref d)]) := F0
    obtain rfl : deep = 3 := by omega
    k_steps
    unfold Hold
    k_dflt (refine take_spec ⟨B', by assumption, X', by assumption, T', rfl⟩ (by walk_at "m.dp") (by walk_at "m.dp") hwd hR1 hR2 hi hpos hi0 hb0 hb1 (by decide) (by decide) hlen ?_)
    intro q tq i1 b1 ti1 tb1 n1 nw1 ws1 ns1 h1 tk1 hq0 hq1 F1 N1 hi1 hp1 hi10 hb10 hb11 hl1
    have hq : q = 0 ∨ q = 1 ∨ q = 2 := by omega
    rcases hq with rfl | rfl | rfl
    all_goals
      k_steps
      unfold Hold
      k_dflt (refine take_spec ⟨B', by assumption, X', News.sub (by assumption) (by walk_at "m.sub"), T', rfl⟩ (by walk_at "m.dp") (by walk_at "m.dp") hwd hR1 hR2 hi1 hp1 hi10 hb10 hb11 (by decide) (by decide) hl1 ?_)
      intro u tu i2 b2 ti2 tb2 n2 nw2 ws2 ns2 h2 tk2 hu0 hu1 F2 N2 hi2 hp2 hi20 hb20 hb21 hl2
      k_steps
      refine ret _ _ _ _ _ _ _ _ _ _ [(_, _)] _ _ (by assumption) (News.rot3 (by assumption)) ?_ ?_ (fun p hp q hq => by rw [List.mem_singleton.mp hp]; exact Ne.symm (ne_of_allLt (by walk_at "m.lt") q hq)) hi2 hp2 hi20 hb20 hb21 hl2 (.leaf ?_ List.mem_cons_self) ⟨?_, hu0, hu1⟩ (by simp [Tm.ht]) (by simp [Tm.size])
      · exact List.forall_mem_cons.mpr ⟨by refine neN ?_; dsimp only; omega, List.forall_mem_nil _⟩
      · exact List.forall_mem_cons.mpr ⟨by refine neN ?_; dsimp only; omega, List.forall_mem_nil _⟩
      · decide
      · first | exact .inl rfl | exact .inr (.inl rfl) | exact .inr (.inr rfl)
  | succ k ih =>
    intro dp un gd cn cs a ccd cl outer A₀ base h₀ L m s Q E d wl i b deep ti tb tp n nw ws ns R C hdp hun hdeep hk3 hwd hR1 hR2 hi hpos hi0 hb0 hb1 hlen ret
    obtain ⟨B, F, X, N, T, hk⟩ := C
    refine wpAny_call ?_
    k_dflt ktr_enter
    rename_i g' L' _ FG' F0 N0 B' X' T'
    replace F0 : Fr _ _ _ (fun y => List.lookup y [(Str.ofString "deep", .int deep tp), (Str.ofString "deal", .ref d)]) := F0
    have hd3 : deep < 3 := by omega
    k_steps
    unfold Hold
    k_dflt (refine take_spec ⟨B', by assumption, X', by assumption, T', rfl⟩ (by walk_at "m.dp") (by walk_at "m.dp") hwd hR1 hR2 hi hpos hi0 hb0 hb1 (by decide) (by decide) hlen ?_)
    intro q tq i1 b1 ti1 tb1 n1 nw1 ws1 ns1 h1 tk1 hq0 hq1 F1 N1 hi1 hp1 hi10 hb10 hb11 hl1
    have hq : q = 0 ∨ q = 1 ∨ q = 2 ∨ q = 3 ∨ q = 4 ∨ q = 5 := by omega
    rcases hq with rfl | rfl | rfl | rfl | rfl | rfl
    iterate 3
      · k_steps
        unfold Hold
        k_dflt (refine take_spec ⟨B', by assumption, X', News.sub (by assumption) (by walk_at "m.sub"), T', rfl⟩ (by walk_at "m.dp") (by walk_at "m.dp") hwd hR1 hR2 hi1 hp1 hi10 hb10 hb11 (by decide) (by decide) hl1 ?_)
        intro u tu i2 b2 ti2 tb2 n2 nw2 ws2 ns2 h2 tk2 hu0 hu1 F2 N2 hi2 hp2 hi20 hb20 hb21 hl2
        k_steps
        refine ret _ _ _ _ _ _ _ _ _ _ [(_, _)] _ _ (by assumption) (News.rot3 (by assumption)) ?_ ?_ (fun p hp q hq => by rw [List.mem_singleton.mp hp]; exact Ne.symm (ne_of_allLt (by walk_at "m.lt") q hq)) hi2 hp2 hi20 hb20 hb21 hl2 (.leaf ?_ List.mem_cons_self) ⟨?_, hu0, hu1⟩ (by simp [Tm.ht]) (by simp only [Tm.size]; have := Nat.one_le_two_pow (n := k + 1); rw [Nat.pow_succ]; omega)
        · exact List.forall_mem_cons.mpr ⟨by refine neN ?_; dsimp only; omega, List.forall_mem_nil _⟩
        · exact List.forall_mem_cons.mpr ⟨by refine neN ?_; dsimp only; omega, List.forall_mem_nil _⟩
        · decide
        · first | exact .inl rfl | exact .inr (.inl rfl) | exact .inr (.inr rfl)
    all_goals
      k_steps
      unfold Hold
      k_dflt (refine ih ⟨B', by assumption, X', by assumption, T', rfl⟩ (by walk_at "m.dp") (by walk_at "m.dp") (by omega) (by omega) hwd hR1 hR2 hi1 hp1 hi10 hb10 hb11 hl1 ?_)
      intro r1 t1 i2 b2 ti2 tb2 n2 nw2 ws2 ns2 E1 h2 tk2 F2 N2 hE11 hE12 hE1R hi2 hp2 hi20 hb20 hb21 hl2 ht1 hok1 hh1 hs1
      k_steps
      unfold Hold
      k_dflt (refine ih ⟨B', by assumption, X', by assumption, T', rfl⟩ (by walk_at "m.dp") (by walk_at "m.dp") (by omega) (by omega) hwd (fun p hp => (List.mem_append.mp hp).elim (hE11 p) (hR1 p)) (fun p hp => (List.mem_append.mp hp).elim (hE12 p) (hR2 p)) hi2 hp2 hi20 hb20 hb21 hl2 ?_)
      intro r2 t2 i3 b3 ti3 tb3 n3 nw3 ws3 ns3 E2 h3 tk3 F3 N3 hE21 hE22 hE2R hi3 hp3 hi30 hb30 hb31 hl3 ht2 hok2 hh2 hs2
      k_steps
      rename News h₀ L _ _ => N9
      have N8 := News.rot6 N9
      refine ret _ _ _ _ _ _ _ _ _ _ ((_, _) :: (_, _) :: (E2 ++ E1)) _ _ (by assumption) (by rw [List.cons_append, List.cons_append, List.append_assoc]; exact N8) ?_ ?_ ?_ hi3 hp3 hi30 hb30 hb31 hl3
        (.node List.mem_cons_self (List.mem_cons_of_mem _ List.mem_cons_self) (ht1.mono fun p hp => .tail _ (.tail _ (List.mem_append.mpr (.inr hp)))) (ht2.mono fun p hp => .tail _ (.tail _ (List.mem_append.mpr (.inl hp))))) ⟨hok1, hok2⟩ ?_ ?_
      · exact List.forall_mem_cons.mpr ⟨by refine neN ?_; dsimp only; omega, List.forall_mem_cons.mpr ⟨by refine neN ?_; dsimp only; omega, fun p hp => (List.mem_append.mp hp).elim (hE21 p) (hE11 p)⟩⟩
      · exact List.forall_mem_cons.mpr ⟨by refine neN ?_; dsimp only; omega, List.forall_mem_cons.mpr ⟨by refine neN ?_; dsimp only; omega, fun p hp => (List.mem_append.mp hp).elim (hE22 p) (hE12 p)⟩⟩
      · refine List.forall_mem_cons.mpr ⟨fun q hq => Ne.symm (ne_of_allLt (l := E2 ++ (E1 ++ R)) (by walk_at "m.lt") q (List.mem_append.mpr (.inr (List.mem_append.mpr (.inr hq))))), List.forall_mem_cons.mpr ⟨fun q hq => Ne.symm (ne_of_allLt (l := E2 ++ (E1 ++ R)) (by walk_at "m.lt") q (List.mem_append.mpr (.inr (List.mem_append.mpr (.inr hq))))), fun p hp q hq => ?_⟩⟩
        exact (List.mem_append.mp hp).elim (fun h => hE2R p h q (List.mem_append.mpr (.inr hq))) (fun h => hE1R p h q hq)
      · simp only [Tm.ht]; omega
      · simp only [Tm.size]; have := Nat.one_le_two_pow (n := k + 1); rw [Nat.pow_succ 2 (k + 1)]; omega

theorem anew_reads : True := by
  w_top off
  trivial
def Tm.data : Tm → PyData
  | .leaf k n => .tuple [.str k, .int n]
  | .node f l r => .tuple [.str "s", .int f, .tuple [l.data, r.data]]
def Tm.kok : Tm → Prop
  | .leaf k _ => k = Str.ofString "v" ∨ k = Str.ofString "a" ∨ k = Str.ofString "i"
  | .node _ l r => l.kok ∧ r.kok
theorem Tm.ok.kok {t : Tm} (h : t.ok) : t.kok := by
  induction t with
  | leaf k n => exact h.1
  | node f l r h1 h2 => exact ⟨h1 h.1, h2 h.2⟩
theorem ok_v : PyData.strOk (Str.ofString "v") = true := by decide +kernel
theorem ok_a : PyData.strOk (Str.ofString "a") = true := by decide +kernel
theorem ok_i : PyData.strOk (Str.ofString "i") = true := by decide +kernel
theorem ok_s : PyData.strOk (Str.ofString "s") = true := by decide +kernel
theorem Tm.canLay {t : Tm} (h : t.kok) : t.data.canLay0 = true := by
  induction t with
  | leaf k n =>
    show (PyData.strOk k && (true && true)) = true
    rcases h with rfl | rfl | rfl
    · rw [ok_v]; rfl
    · rw [ok_a]; rfl
    · rw [ok_i]; rfl
  | node f l r h1 h2 =>
    show (PyData.strOk (Str.ofString "s") && (true && ((l.data.canLay0 && (r.data.canLay0 && true)) && true))) = true
    rw [h1 h.1, h2 h.2, ok_s]; rfl
theorem Tm.depth_le (t : Tm) : t.data.depth ≤ 2 * t.size := by
  induction t with
  | leaf k n => simp [Tm.data, PyData.depth, PyData.depthAll, Tm.size]
  | node f l r h1 h2 =>
    simp only [Tm.data, PyData.depth, PyData.depthAll, Tm.size]
    omega
def ReadsD (h : Heap) (v : Value) (d : PyData) : Prop := ∃ as, Reads h v d as
def RdsD (h : Heap) (vs : List Value) (ds : List PyData) : Prop := ∃ as, ReadsAll h vs ds as
theorem RdsD.nil {h : Heap} : RdsD h [] [] := ⟨_, .nil⟩
theorem RdsD.cons {h : Heap} {v : Value} {d : PyData} {vs : List Value} {ds : List PyData} : ReadsD h v d → RdsD h vs ds → RdsD h (v :: vs) (d :: ds) := fun ⟨_, a⟩ ⟨_, b⟩ => ⟨_, .cons a b⟩
theorem rd_int {h : Heap} (i : Int) (t : Tok) : ReadsD h (.int i t) (.int i) := ⟨_, .int i t⟩
theorem rd_str {h : Heap} (x : Str) (t : Tok) : ReadsD h (.str x t) (.str x) := ⟨_, .str x t⟩
section
variable {h₀ h : Heap} {L : Addr} {news : List (Addr × Obj)} {w : World}
theorem rd_tup {a : Addr} {vs : List Value} {c : Nat} {ds : List PyData} (N : News h₀ L h news) (hm : (a, tupOf vs c) ∈ news) (r : RdsD h vs ds) : ReadsD h (.ref a) (.tuple ds) := by
  obtain ⟨as, r⟩ := r
  exact ⟨_, .tuple (N _ hm).1 rfl rfl (by simpa using r)⟩
theorem rd_list {a : Addr} {vs : List Value} {c : Nat} {ds : List PyData} (N : News h₀ L h news) (hm : (a, listOf vs.toArray c) ∈ news) (r : RdsD h vs ds) : ReadsD h (.ref a) (.list ds) := by
  obtain ⟨as, r⟩ := r
  exact ⟨_, .list (N _ hm).1 rfl rfl (by simpa using r)⟩
theorem nil_tup {h : Heap} (X : (hd.heap_39 w.params).In h) : ReadsD h (.ref 15) (Tm.leaf "a" 0).data := by
  have e : ∃ t1 t2 c, (hd.heap_39 w.params).lookup 15 = some (tupOf [.str "a" t1, .int 0 t2] c) := ⟨_, _, _, by k_dflt k_is⟩
  obtain ⟨t1, t2, c, e⟩ := e
  have g := X _ _ e
  exact ⟨_, .tuple g rfl rfl (.cons (.str _ _) (.cons (.int _ _) .nil))⟩
theorem rd_tm {v : Value} {t : Tm} (N : News h₀ L h news) (X : (hd.heap_39 w.params).In h) (ht : TmIn news v t) : ReadsD h v t.data := by
  induction ht with
  | nil => exact nil_tup X
  | leaf hk hm => exact rd_tup N hm (.cons (rd_str _ _) (.cons (rd_int _ _) .nil))
  | node h1 h2 _ _ i1 i2 => exact rd_tup N h1 (.cons (rd_str _ _) (.cons (rd_int _ _) (.cons (rd_tup N h2 (.cons i1 (.cons i2 .nil))) .nil)))
theorem rds_tms {vs : List Value} {ts : List Tm} (N : News h₀ L h news) (X : (hd.heap_39 w.params).In h) (ht : TmsIn news vs ts) : RdsD h vs (ts.map Tm.data) := by
  induction ht with
  | nil => exact .nil
  | cons h1 _ ih => exact .cons (rd_tm N X h1) ih
theorem rd_tms {a : Addr} {vs : List Value} {c : Nat} {ts : List Tm} (N : News h₀ L h news) (X : (hd.heap_39 w.params).In h) (hm : (a, listOf vs.toArray c) ∈ news) (ht : TmsIn news vs ts) : ReadsD h (.ref a) (.list (ts.map Tm.data)) :=
  rd_list N hm (rds_tms N X ht)
end
theorem canLayAll {ts : List Tm} (h : ∀ t ∈ ts, t.kok) : PyData.canLayAll0 (ts.map Tm.data) = true := by
  induction ts with
  | nil => rfl
  | cons t r ih =>
    show (t.data.canLay0 && PyData.canLayAll0 (r.map Tm.data)) = true
    rw [Tm.canLay (h t (.head _)), ih fun u hu => h u (.tail _ hu)]; rfl
theorem depthAll_le {ts : List Tm} {k : Nat} (h : ∀ t ∈ ts, t.size ≤ k) : PyData.depthAll (ts.map Tm.data) ≤ 2 * k := by
  induction ts with
  | nil => simp [PyData.depthAll]
  | cons t r ih =>
    have h1 := t.depth_le
    have h2 := h t (.head _)
    have h3 := ih fun u hu => h u (.tail _ hu)
    simp only [List.map_cons, PyData.depthAll]; omega
section
variable {prog : Program} {w : World} {A : Around} {E : Value → Shared → Prop} {s : Shared} {a b : Value} {d d' : PyData} {Q : Value → Shared → Prop}
theorem m_sameNe (ra : ReadsD s.heap a d) (rb : ReadsD s.heap b d') (e : d = d') (hc : d.canLay0 = true) (hu : A.units + d.depth < 9900) (h : Q (.bool false) s) : wpAny (model prog w) A (compareOp .NotEq a b) Q E s := by
  subst e
  obtain ⟨_, ra⟩ := ra; obtain ⟨_, rb⟩ := rb
  refine PySem.SeqAt.compareNe_reads ra rb hc hc ?_ ?_
  · have : cLine = 9900 := rfl
    omega
  · rw [PySem.SeqAt.eqv_refl d hc]; exact h
theorem m_sameEq (ra : ReadsD s.heap a d) (rb : ReadsD s.heap b d') (e : d = d') (hc : d.canLay0 = true) (hu : A.units + d.depth < 9900) (h : Q (.bool true) s) : wpAny (model prog w) A (compareOp .Eq a b) Q E s := by
  subst e
  obtain ⟨_, ra⟩ := ra; obtain ⟨_, rb⟩ := rb
  refine PySem.SeqAt.compareEq_reads ra rb hc hc ?_ ?_
  · have : cLine = 9900 := rfl
    omega
  · rw [PySem.SeqAt.eqv_refl d hc]; exact h
theorem m_consNil {d : PyData} {ds : List PyData} (ra : ReadsD s.heap a (.list (d :: ds))) (rb : ReadsD s.heap b (.list [])) (hc : (PyData.list (d :: ds)).canLay0 = true) (hu : A.units < 9800) (h : Q (.bool false) s) : wpAny (model prog w) A (compareOp .Eq a b) Q E s := by
  obtain ⟨_, ra⟩ := ra; obtain ⟨_, rb⟩ := rb
  refine PySem.SeqAt.compareEq_reads ra rb hc rfl ?_ ?_
  · have : cLine = 9900 := rfl
    have h2 : (PyData.list []).depth = 1 := rfl
    omega
  · exact h
end
theorem chain_apart (ts : List Tm) (te : Tm) : (Tm.chain 0 ts te).apart = (ts ++ te.apart.1, te.apart.2) := by
  induction ts with
  | nil => simp [Tm.chain]
  | cons t r ih =>
    have : Tm.chain 0 (t :: r) te = .node 0 t (Tm.chain 0 r te) := rfl
    rw [this]
    simp [Tm.apart, ih]
theorem chain_kok {f : Int} {ts : List Tm} {te : Tm} (h : ∀ t ∈ ts, t.kok) (he : te.kok) : (Tm.chain f ts te).kok := by
  induction ts with
  | nil => exact he
  | cons t r ih => exact ⟨h t (.head _), ih fun u hu => h u (.tail _ hu)⟩
theorem apart_kok {t : Tm} (h : t.kok) : (∀ u ∈ t.apart.1, u.kok) ∧ t.apart.2.kok := by
  induction t with
  | leaf k n => exact ⟨fun _ h => (nomatch h), h⟩
  | node f l r h1 h2 =>
    unfold Tm.apart
    split
    · exact ⟨List.forall_mem_cons.mpr ⟨h.1, (h2 h.2).1⟩, (h2 h.2).2⟩
    · exact ⟨fun _ h => (nomatch h), h⟩
theorem apart_size (t : Tm) : (∀ u ∈ t.apart.1, u.size ≤ t.size) ∧ t.apart.2.size ≤ t.size := by
  induction t with
  | leaf k n => exact ⟨fun _ h => (nomatch h), Nat.le_refl _⟩
  | node f l r h1 h2 =>
    unfold Tm.apart
    split
    · simp only [Tm.size]
      exact ⟨List.forall_mem_cons.mpr ⟨by omega, fun u hu => by have := h2.1 u hu; omega⟩, by have := h2.2; omega⟩
    · exact ⟨fun _ h => (nomatch h), Nat.le_refl _⟩
theorem opened_kok {t : Tm} (h : t.kok) : ∀ u ∈ t.opened, u.kok := by
  induction t with
  | leaf k n => exact List.forall_mem_cons.mpr ⟨h, fun _ h => (nomatch h)⟩
  | node f l r h1 h2 =>
    unfold Tm.opened
    split
    · exact fun u hu => (List.mem_append.mp hu).elim (h1 h.1 u) (h2 h.2 u)
    · exact List.forall_mem_cons.mpr ⟨h, fun _ h => (nomatch h)⟩
theorem opened_size (t : Tm) : ∀ u ∈ t.opened, u.size ≤ t.size := by
  induction t with
  | leaf k n => exact List.forall_mem_cons.mpr ⟨Nat.le_refl _, fun _ h => (nomatch h)⟩
  | node f l r h1 h2 =>
    unfold Tm.opened
    split
    · simp only [Tm.size]
      exact fun u hu => (List.mem_append.mp hu).elim (fun h => by have := h1 u h; omega) (fun h => by have := h2 u h; omega)
    · exact List.forall_mem_cons.mpr ⟨Nat.le_refl _, fun _ h => (nomatch h)⟩
theorem opened_open (t : Tm) : ∀ u ∈ t.opened, u.opened = [u] := by
  induction t with
  | leaf k n => exact List.forall_mem_cons.mpr ⟨rfl, fun _ h => (nomatch h)⟩
  | node f l r h1 h2 =>
    intro u hu
    by_cases hf : f = 1
    · have e : (Tm.node f l r).opened = l.opened ++ r.opened := by simp [Tm.opened, hf]
      rw [e] at hu
      exact (List.mem_append.mp hu).elim (h1 u) (h2 u)
    · have e : (Tm.node f l r).opened = [.node f l r] := by simp [Tm.opened, hf]
      rw [e] at hu
      rw [List.mem_singleton.mp hu, e]
theorem opened_ne (t : Tm) : t.opened ≠ [] := by
  induction t with
  | leaf k n => simp [Tm.opened]
  | node f l r h1 h2 =>
    unfold Tm.opened
    split
    · simp [h1]
    · simp
theorem conj_opened : ∀ {ts : List Tm}, ts ≠ [] → (Tm.conj ts).opened = ts.flatMap Tm.opened
  | [], h => absurd rfl h
  | [t], _ => by simp [Tm.conj]
  | t :: u :: r, _ => by
    have ih := conj_opened (ts := u :: r) (by simp)
    rw [Tm.conj_cons (by simp)]
    show (if (1 : Int) = 1 then t.opened ++ (Tm.conj (u :: r)).opened else _) = t.opened ++ List.flatMap Tm.opened (u :: r)
    rw [if_pos rfl, ih]
theorem conj_kok : ∀ {ts : List Tm}, (∀ t ∈ ts, t.kok) → (Tm.conj ts).kok
  | [], _ => .inr (.inl rfl)
  | [t], h => h t (.head _)
  | t :: u :: r, h => ⟨h t (.head _), conj_kok (ts := u :: r) fun x hx => h x (.tail _ hx)⟩
theorem conj_size : ∀ {ts : List Tm}, (Tm.conj ts).size ≤ 1 + ts.length + (ts.map Tm.size).sum
  | [] => by simp [Tm.conj, Tm.size]
  | [t] => by simp only [Tm.conj, List.map_cons, List.map_nil, List.sum_cons, List.sum_nil]; omega
  | t :: u :: r => by
    have ih := conj_size (ts := u :: r)
    show t.size + (Tm.conj (u :: r)).size + 1 ≤ _
    simp only [List.map_cons, List.sum_cons, List.length_cons] at ih ⊢; omega
theorem flat_open {gs : List Tm} (h : ∀ u ∈ gs, u.opened = [u]) : gs.flatMap Tm.opened = gs := by
  induction gs with
  | nil => rfl
  | cons u r ih =>
    rw [List.flatMap_cons, h u (.head _), ih fun x hx => h x (.tail _ hx)]; rfl
theorem lay_list {L : List Tm} (h : ∀ t ∈ L, t.kok) : (PyData.list (L.map Tm.data)).canLay0 = true := canLayAll h
theorem lay_pair {L : List Tm} {x : Tm} (h : ∀ t ∈ L, t.kok) (hx : x.kok) : (PyData.tuple [.list (L.map Tm.data), x.data]).canLay0 = true := by
  show (PyData.canLayAll0 (L.map Tm.data) && (x.data.canLay0 && true)) = true
  rw [canLayAll h, Tm.canLay hx]; rfl
theorem dep_list {L : List Tm} {k : Nat} (h : ∀ t ∈ L, t.size ≤ k) : (PyData.list (L.map Tm.data)).depth ≤ 2 * k + 1 := by
  have := depthAll_le h
  simp only [PyData.depth]; omega
theorem dep_pair {L : List Tm} {x : Tm} {k : Nat} (h : ∀ t ∈ L, t.size ≤ k) (hx : x.size ≤ k) : (PyData.tuple [.list (L.map Tm.data), x.data]).depth ≤ 2 * k + 2 := by
  have h1 := depthAll_le h
  have h2 := x.depth_le
  simp only [PyData.depth, PyData.depthAll]; omega
theorem dep_tm {x : Tm} {k : Nat} (hx : x.size ≤ k) : x.data.depth ≤ 2 * k := by
  have h2 := x.depth_le
  omega
theorem un_lt {u d k : Nat} (h : d ≤ k) (hk : u + k < 9900) : u + d < 9900 := by omega
theorem opened_bound {l : List Tm} {k : Nat} (h : ∀ t ∈ l, t.size ≤ k) : (l.flatMap Tm.opened).length ≤ l.length * k := by
  induction l with
  | nil => simp
  | cons t r ih =>
    have h1 := h t (.head _)
    have h2 := t.opened_len
    have h3 := ih fun u hu => h u (.tail _ hu)
    simp only [List.flatMap_cons, List.length_append, List.length_cons, Nat.succ_mul]
    omega

theorem anew_counted : True := by
  w_top off
  trivial
section
variable {prog : Program} {w : World} {p : Program} {loose : List Str} {mean : ExcName → Option Value} {mg mb : Str → Option Value} {dp un : Nat} {gd : Option (List Code)} {cn : Str} {cs : Scope} {a : Addr} {ccd : Value} {cl : List (Str × Addr)} {outer : List Env} {A₀ : Around} {base h₀ : Heap} {L : Addr} {m : Str → Option Value} {news : List (Addr × Obj)} {s : Shared} {Q E : Value → Shared → Prop}
theorem counted_spec {rl : Addr} {ve vm : Value} {c : Nat} {vs : List Value} {ts : List Tm} {te : Tm} (C : Cx w p loose mean mg mb A₀ base outer h₀ L s.heap m news cs) (hdp : dp < 700) (hun : un < 7000) (hl : (rl, listOf vs.toArray c) ∈ news) (hts : TmsIn news vs ts) (hve : TmIn news ve te) (hvm : TmIn news vm (Tm.chain 0 ts te))
    (hn : ts.length ≤ 8) (hs1 : ∀ t ∈ ts, t.size ≤ 7) (hs2 : te.size ≤ 15)
    (ret : ∀ h' tk', Fr h₀ L h' m → News h₀ L h' news → Q (.bool true) { s with heap := h', toks := tk' }) :
    wpAny (model prog w) (ktrTop dp un gd cn cs L a ccd cl outer) (call (.ref 140) [.ref rl, ve, vm]) Q E s := by
  obtain ⟨B, F, X, N, T, hk⟩ := C
  refine wpAny_call ?_
  k_dflt (walk_at "m.enterC")
  intro g' L' h' tk' cells' FG' F0 N0 Y' B' X' T' l1
  obtain ⟨o1, o2, rfl, d1, d2⟩ := CellsAre.two Y'
  replace d1 : o1.data = .cell none := d1
  replace d2 : o2.data = .cell none := d2
  simp only [List.cons_append, List.nil_append] at N0
  replace F0 : Fr g' L' h' (fun y => if y = Str.ofString "made" then some vm else if y = Str.ofString "end" then some ve else if y = Str.ofString "row" then some (.ref rl) else none) := F0
  have hvl := hts.length
  have l2 : AllLt L' news := allLt_of l1
  have l3 : AllLt (L' + 1) news := allLt_of fun p hp => Nat.lt_succ_of_lt (l1 p hp)
  have l4 : AllLt (L' + 1 + 1) news := allLt_of fun p hp => Nat.lt_succ_of_lt (Nat.lt_succ_of_lt (l1 p hp))
  (try dsimp only)
  (try k_fold)
  refine wp_hide ?_
  intro Q' hQ
  k_steps
  walk_at "m.for"
  k_steps
  unfold Hold
  rename_i wl _ lw _ oc dc _ _ _ zl _ F1 N1 lz
  have N2 : News g' L' _ ((zl, listOf (vs ++ [ve]).toArray 0) :: (wl, listOf #[] 0) :: (L' + 1 + 1, o1) :: (L' + 1, oc) :: news) := News.sub N1 (by walk_at "m.sub")
  have hts2 : TmsIn news (vs ++ [ve]) (ts ++ [te]) := hts.snoc hve
  have hs3 : ∀ t ∈ ts ++ [te], t.size ≤ 15 := by
    intro t ht
    rcases List.mem_append.mp ht with h | h
    · have := hs1 t h; omega
    · rw [List.mem_singleton.mp h]; exact hs2
  k_dflt (refine m_iterL (vs := vs ++ [ve]) (c := 0) (J := fun i m nx => m (Str.ofString "row") = some (.ref rl) ∧ m (Str.ofString "end") = some ve ∧ m (Str.ofString "made") = some vm ∧ ∃ gs n2 oc, nx = (zl, listOf (vs ++ [ve]).toArray 0) :: (wl, listOf gs.toArray n2) :: (L' + 1 + 1, o1) :: (L' + 1, oc) :: news ∧ oc.data = .cell (some (.ref wl)) ∧ IntsAre gs (((ts ++ [te]).take i).flatMap Tm.names)) rfl F1 N2 ?_ ⟨rfl, rfl, rfl, [], 0, oc, rfl, dc, .nil⟩ ?_ ?_)
  · rintro i m nx ⟨_, _, _, gs, n2, oc, rfl, _⟩
    exact List.mem_cons_self
  · clear F1 N1 N2
    rintro I i v m₁ nx h₁ tk₁ it hv ⟨hm1, hm2, hm3, gs, n2, oc, rfl, hoc, hgs⟩ hoI hI F1 N1 J' hJ
    obtain ⟨t, ht, hvt⟩ := hts2.get i v hv
    have hI2 : @LT.lt Nat _ zl I ∧ @LT.lt Nat _ wl I ∧ @LT.lt Nat _ (L' + 1 + 1) I ∧ @LT.lt Nat _ (L' + 1) I ∧ AllLt I news := allLt_of hI
    have hgl := hgs.length
    have hnl := names_bound (fun t ht => hs3 t (List.mem_of_mem_take ht)) (l := (ts ++ [te]).take i)
    have hsz := hs3 t (List.mem_of_getElem? ht)
    have hht := t.ht_le
    have hnt := t.names_len
    simp only [List.length_take, List.length_append, List.length_cons, List.length_nil] at hnl
    have hvt2 : TmIn ((I, it) :: (zl, listOf (vs ++ [ve]).toArray 0) :: (wl, listOf gs.toArray n2) :: (L' + 1 + 1, o1) :: (L' + 1, oc) :: news) v t := hvt.mono fun p hp => .tail _ (.tail _ (.tail _ (.tail _ (.tail _ hp))))
    k_steps
    unfold Hold
    k_dflt (refine names_spec t ⟨B', by assumption, X', by assumption, T', rfl⟩ (by walk_at "m.dp") (by walk_at "m.dp") hvt2 (by omega) ?_)
    intro g gs' n' h' tk' F2 N2 lg hgs'
    simp only [AllLt] at lg
    have hgl' := hgs'.length
    k_steps
    rename_i o9 F9 N9 d9
    refine fstep2 hJ F9 (News.drop1 N9) ?_ ⟨hm1, hm2, hm3, _, _, _, rfl, d9, ?_⟩
    · exact List.forall_mem_cons.mpr ⟨by refine neN ?_; dsimp only; omega, List.forall_mem_cons.mpr ⟨by refine neN ?_; dsimp only; omega, List.forall_mem_cons.mpr ⟨by refine neN ?_; dsimp only; omega, List.forall_mem_cons.mpr ⟨by refine neN ?_; dsimp only; omega, ne_of_allLt hI2.2.2.2.2⟩⟩⟩⟩
    · rw [List.take_add_one, ht, Option.toList_some, List.flatMap_append, List.flatMap_cons, List.flatMap_nil, List.append_nil]
      exact hgs.append hgs'
  · clear F1 N1 N2
    rintro m₁ nx h₁ tk₁ ⟨hm1, hm2, hm3, gs, n2, oc, rfl, hoc, hgs⟩ F1 N1
    rw [List.take_of_length_le (by simp only [List.length_append, List.length_cons, List.length_nil]; omega)] at hgs
    have hnl := names_bound hs3
    have hW40 : ((ts ++ [te]).flatMap Tm.names).length ≤ 40 := by
      have h2 := names_bound2 hs1
      have h3 := names_half te
      simp only [List.flatMap_append, List.length_append, List.flatMap_cons, List.flatMap_nil, List.append_nil]
      omega
    generalize hW : (ts ++ [te]).flatMap Tm.names = W at hgs hnl hW40
    simp only [List.length_append, List.length_cons, List.length_nil] at hnl
    have hgl := hgs.length
    have hcs : (Tm.chain 0 ts te).size ≤ 150 := by
      have := chain_size 0 ts te
      have h2 := sum_le hs3
      simp only [List.length_append, List.length_cons, List.length_nil] at h2
      omega
    have N2 : News g' L' _ ((wl, listOf gs.toArray n2) :: (L' + 1 + 1, o1) :: (L' + 1, oc) :: news) := News.drop1 N1
    clear N1
    have hgt : ∀ i, IntsAre (gs.take i) (W.take i) := fun i => hgs.take i
    k_steps
    walk_at "m.compTA"
    k_steps
    unfold Hold
    rename Fr _ _ _ _ => F3
    rename News _ _ _ _ => N3
    k_dflt (refine LCt.CompSrcT.range (n := W.length) rfl F3 N3 (by assumption) (small_one (by omega) (by omega) (by omega) (by omega)) (by rw [rangeSize_nat]; omega) (by have : (100000 : Nat) ≤ sizeLine := Nat.le_of_ble_eq_true rfl; omega) ?_)
    intro g3
    refine compT_inv (n := W.length) (J := fun i ys nx => nx = (wl, listOf gs.toArray n2) :: (L' + 1 + 1, o1) :: (L' + 1, oc) :: news ∧ IntsAre ys ((W.take i).foldl addNew [])) ?_ ?_ _ 0 [] _ (Nat.zero_add _) ⟨rfl, .nil⟩
    rotate_left
    · clear F3 N3
      rintro i ys nx v I oI C oC D m₂ h tk E' hin ⟨rfl, hys⟩ ⟨tv, rfl⟩ hC hx F3 N3 off ne J' J2 hJ hK
      have e0 : kms_pick gs.toArray.toList none (some (0 + (i : Int))) = gs.take i := by
        unfold kms_pick kms_lo kms_hi
        simp only [List.drop_zero, Nat.sub_zero]
        rw [if_neg (by omega), show (0 + (i : Int)).toNat = i by omega, List.take_eq_take_iff]; simp
      have hti : IntsAre (gs.take i) (W.take i) := hgt i
      have hwi : W[i]? = some (W.getD i 0) := by rw [List.getD_eq_getElem?_getD, List.getElem?_eq_getElem hin]; rfl
      k_steps
      · rename W.getD _ 0 ∈ List.take i W => hno
        rename Fr _ _ _ _ => F9; rename News _ _ _ _ => N9
        refine LCg.CompEnd.intro F9 N9 _ ?_ off trivial (hK _ _ ⟨rfl, ?_⟩)
        · exact fun p hp => .tail _ hp
        · rw [show (0 + (i : Int)).toNat = i by omega] at hno
          rw [List.take_add_one, hwi, Option.toList_some, List.foldl_append, List.foldl_cons, List.foldl_nil, addNew, if_pos (mem_addNews.mpr hno)]
          exact hys
      · rename ¬ W.getD _ 0 ∈ List.take i W => hno
        rename Fr _ _ _ _ => F9; rename News _ _ _ _ => N9
        refine LCg.CompEnd.intro F9 N9 _ ?_ off trivial (hJ _ _ ⟨rfl, ?_⟩)
        · exact fun p hp => .tail _ hp
        · rw [show (0 + (i : Int)).toNat = i by omega] at hno ⊢
          rw [List.take_add_one, hwi, Option.toList_some, List.foldl_append, List.foldl_cons, List.foldl_nil, addNew, if_neg (fun h => hno (mem_addNews.mp h))]
          exact hys.append (.cons _ _ .nil)
    · clear F3 N3
      rintro ys nx ⟨rfl, hys⟩ D h3 tk3 F3 N3 off
      rw [List.take_length] at hys
      have hY40 : (W.foldl addNew []).length ≤ 40 := by
        have := addNews_len (l := W) (rs := [])
        simp only [List.length_nil] at this; omega
      have hyl := hys.length
      generalize hY : W.foldl addNew [] = Y at hys hY40 hyl
      simp only [LCg.Off1, and_true] at off
      k_steps
      unfold Hold
      k_dflt (refine vars_spec (t := Tm.chain 0 ts te) ⟨B', F3, X', N3, T', rfl⟩ (by walk_at "m.dp") (by walk_at "m.dp") (hvm.mono fun p hp => .tail _ (.tail _ (.tail _ (.tail _ hp)))) (by omega) ?_)
      clear F3 N3
      intro g1 gs1 n1 h4 tk4 F4 N4 lg1 hgs1
      rw [chain_names, hW, hY] at hgs1
      simp only [AllLt] at lg1
      k_steps
      unfold Hold
      rename Fr g' L' _ _ => F5; rename News g' L' _ _ => N5
      k_dflt (refine varsof_spec (ts := ts ++ [te]) ⟨B', F5, X', N5, T', rfl⟩ (by walk_at "m.dp") (by walk_at "m.dp") (.head _) (hts2.mono fun p hp => .tail _ (.tail _ (.tail _ (.tail _ (.tail _ (.tail _ (.tail _ hp))))))) ?_ ?_)
      · have h2 := sum_le hs3
        simp only [List.length_append, List.length_cons, List.length_nil] at h2
        omega
      clear F5 N5
      intro g2 gs2 n2' h6 tk6 F5 N5 lg2 hgs2
      rw [hW, hY] at hgs2
      simp only [AllLt] at lg2
      replace N5 : News g' L' _ ((g2, listOf gs2.toArray n2') :: (D, LCg.lst ys) :: (wl, listOf gs.toArray n2) :: (L' + 1 + 1, o1) :: (L' + 1, oc) :: news) := News.sub N5 (by walk_at "m.sub")
      k_steps
      unfold Hold
      k_dflt (refine ground_spec (t := Tm.chain 0 ts te) ⟨B', F5, X', N5, T', rfl⟩ (by walk_at "m.dp") (by walk_at "m.dp") (hvm.mono fun p hp => .tail _ (.tail _ (.tail _ (.tail _ (.tail _ hp))))) (by omega) ?_)
      clear F5 N5
      intro h7 tk7 F5 N5
      rw [chain_names, hW]
      k_steps
      · rename (W.isEmpty != decide (W = [])) = true => hbad
        exact absurd hbad (by cases W <;> simp)
      rename Fr g' L' _ _ => F8; rename News g' L' _ _ => N8
      unfold Hold
      k_dflt (refine occ_spec (t := Tm.chain 0 ts te) ⟨B', F8, X', News.sub N8 (news' := (D, LCg.lst ys) :: (wl, listOf gs.toArray n2) :: (L' + 1 + 1, o1) :: (L' + 1, oc) :: news) (by walk_at "m.sub"), T', rfl⟩ (by walk_at "m.dp") (by walk_at "m.dp") (hvm.mono fun p hp => .tail _ (.tail _ (.tail _ (.tail _ hp)))) (by omega) ?_)
      clear F8 N8
      intro dd od kvs h8 tk8 F8 N8 ld lo hod hco hkeys
      rw [chain_names, hW] at hco hkeys
      rw [hY] at hkeys
      have hk4 : kvs.length < 64 := by
        have := congrArg List.length hkeys
        simp only [List.length_map] at this; omega
      simp only [AllLt] at ld
      k_steps
      rotate_left
      · rename ¬ _ = _ => hne
        rename List.Perm _ Y => hp2
        rename List.Perm _ (List.map _ kvs) => hp1
        rw [hkeys] at hp1
        exact absurd (lks_uniq (hp1.trans hp2.symm) (by assumption) (by assumption)) hne
      walk_at "m.compE"
      k_steps
      unfold Hold
      rename Fr g' L' _ _ => F10; rename News g' L' _ _ => N10
      k_dflt (refine LCg.CompSrc.ledger (its := ys.toArray) rfl F10 (News.sub N10 (news' := (D, LCg.lst ys) :: (dd, od) :: (wl, listOf gs.toArray n2) :: (L' + 1 + 1, _) :: (L' + 1, oc) :: news) (by walk_at "m.sub")) (.head _) (sz_arr (by omega)) ?_)
      rename _ = Data.cell (some (.ref dd)) => hdc
      rename_i oc2 _ _ _ _ _ _ _ _ _ _ _ _ _ _ _ _ _ _ _ _
      intro g5
      refine comp_inv (n := ys.length) (J := fun i bs nx => nx = (D, LCg.lst ys) :: (dd, od) :: (wl, listOf gs.toArray n2) :: (L' + 1 + 1, oc2) :: (L' + 1, oc) :: news ∧ bs = List.replicate i (.bool true)) ?_ ?_ _ 0 [] _ (Nat.zero_add _) ⟨rfl, rfl⟩
      rotate_left
      · clear F10 N10
        rintro i bs nx v I oI C oC D2 m₂ h tk E' hin ⟨rfl, hbs⟩ hv hC hx F10 N10 off5 ne5 J' hJ
        obtain ⟨y, ty, rfl, hy⟩ := hys.at i v (by simpa using hv)
        have hyW : y ∈ W := mem_addNews.mp (hY ▸ List.mem_of_getElem? hy)
        obtain ⟨tc, hyc⟩ := (hco y).1 hyW
        have hgs3 : IntsAre gs W := by assumption
        k_steps
        rename Fr _ _ _ _ => F11; rename News _ _ _ _ => N11
        refine LCg.CompEnd.intro F11 N11 _ (fun p hp => hp) off5 (.inr ⟨_, .head _, rfl, _, rfl⟩) (hJ _ _ ⟨rfl, ?_⟩)
        rw [hbs, List.replicate_succ']
        simp
      · clear F10 N10
        rintro bs nx ⟨rfl, hbs⟩ D3 h11 tk11 F11 N11 off5
        subst hbs
        simp only [LCg.Off1] at off5
        k_steps
        unfold Hold
        k_dflt (refine size_spec (t := Tm.chain 0 ts te) ⟨B', F11, X', News.sub N11 (news' := (L' + 1 + 1, oc2) :: (L' + 1, oc) :: news) (by walk_at "m.sub"), T', rfl⟩ (by walk_at "m.dp") (by walk_at "m.dp") (hvm.mono fun p hp => .tail _ (.tail _ hp)) (by omega) ?_)
        clear F11 N11
        intro tks h12 tk12 F12 N12
        k_steps
        walk_at "m.compE"
        k_steps
        unfold Hold
        rename_i zl2 _ F12 N12 lz2
        k_dflt (refine LCg.CompSrc.ledger (its := (vs ++ [ve]).toArray) rfl F12 (News.sub N12 (news' := (zl2, listOf (vs ++ [ve]).toArray 0) :: (L' + 1 + 1, oc2) :: (L' + 1, oc) :: news) (by walk_at "m.sub")) (.head _) (sz_arr (by walk_at "m.sz")) ?_)
        intro g6
        refine comp_inv (n := (vs ++ [ve]).length) (J := fun i bs nx => nx = (zl2, listOf (vs ++ [ve]).toArray 0) :: (L' + 1 + 1, oc2) :: (L' + 1, oc) :: news ∧ IntsAre bs (((ts ++ [te]).take i).map (fun t => (t.size : Int)))) ?_ ?_ _ 0 [] _ (Nat.zero_add _) ⟨rfl, .nil⟩
        rotate_left
        · clear F12 N12
          rintro i bs nx v I oI C oC D4 m₂ h tk E' hin ⟨rfl, hbs⟩ hv hC hx F10 N10 off6 ne5 J' hJ
          obtain ⟨t, ht, hvt⟩ := hts2.get i v (by simpa using hv)
          have hsz := hs3 t (List.mem_of_getElem? ht)
          have hht := t.ht_le
          k_steps
          unfold Hold
          k_dflt (refine parts_spec t ⟨B', F10, X', N10, T', rfl⟩ (by walk_at "m.dp") (by walk_at "m.dp") (hvt.mono fun p hp => .tail _ (.tail _ (.tail _ (.tail _ (.tail _ (.tail _ hp)))))) (by omega) ?_)
          clear F10 N10
          intro tkp h13 tk13 F13 N13
          k_steps
          refine LCg.CompEnd.intro F13 N13 _ (fun p hp => hp) off6 (.inr ⟨_, .head _, rfl, _, rfl⟩) (hJ _ _ ⟨rfl, ?_⟩)
          rw [List.take_add_one, ht, Option.toList_some, List.map_append, List.map_cons, List.map_nil]
          exact hbs.append (.cons _ _ .nil)
        · clear F12 N12
          rintro bs nx ⟨rfl, hbs⟩ D5 h14 tk14 F14 N14 off6
          rw [List.take_of_length_le (by simp only [List.length_append, List.length_cons, List.length_nil]; omega)] at hbs
          k_steps
          refine hQ _ _ ?_
          k_steps
          have e9 : (((Tm.chain 0 ts te).size : Int) == (vs.length : Int) + ((ts ++ [te]).map (fun t => (t.size : Int))).sum) = true := by
            rw [chain_size, sum_cast, hvl, beq_iff_eq]; omega
          rw [e9]
          exact ret _ _ (by assumption) (News.sub (by assumption) (by walk_at "m.sub"))
end

theorem anew_law0 : True := by
  w_top off
  trivial
local macro_rules | `(tactic| walk_at "compareOp NotEq ref ref") => `(tactic| refine hold ?_)
local macro_rules | `(tactic| walk_at "compareOp Eq ref ref") => `(tactic| refine hold ?_)
local macro_rules | `(tactic| walk_at "m.un") => `(tactic| first | decide | (dsimp only [callerA, Around.deeper]; decide) | (dsimp only [callerA, Around.deeper]; omega) | exact Nat.le_of_ble_eq_true rfl)
theorem law0 : PySem.Challenge.rw_ok0007_01.Holds := hd (by
  k_go0
  rename_i w0 s0 s1 mg mb G Y fa o pm doc ho hg KX X V GL T B TE TW w9 w10 M wa wb hcd ns hs hlay0 hL0 hr hl2 x1 x2 sl vs x3 hL ra w1 r0 hI hr2 hlen hT K0 hD h1 tk1 F0 oc dc N0 X0
  have hvz : vs.length ≤ 63 := by have := hI.length; omega
  replace dc : oc.data = .cell none := dc
  replace K0 : Below callerA s1.heap [] s1.heap := K0
  clear hD hT hlen hr2 r0 w1 ra hr hl2 hL0 hlay0 hs hcd M TW TE B GL V X ho Y G X0
  replace F0 : Fr s1.heap s1.heap.objs.size h1 (fun y => if y = Str.ofString "script" then some (.ref sl) else none) := F0
  generalize hLL : s1.heap.objs.size = L' at F0 N0 ⊢
  (try dsimp only)
  (try k_fold)
  refine wp_hide ?_
  intro Q' hQ
  k_steps
  unfold Hold
  k_dflt (refine deal_spec ⟨K0, F0, KX, N0, T, rfl⟩ (by decide) (by decide) hL hI hvz ?_)
  clear F0 N0
  intro d wl b ta tb n nw ws ns1 h2 tk2 F2 N2 hwd lwl hi hpos hb0 hb1 hlen
  replace lwl : @LT.lt Nat _ (L' + 1) wl := lwl.1
  k_steps
  walk_at "m.compA"
  k_steps
  unfold Hold
  rename _ = Data.cell (some (.ref d)) => dc2
  rename Fr _ _ _ _ => F3; rename News _ _ _ _ => N3
  k_dflt (refine take_spec ⟨K0, F3, KX, N3, T, rfl⟩ (by decide) (by decide) hwd ?_ ?_ hi hpos (by decide) hb0 hb1 (by decide) (by decide) hlen ?_)
  · exact List.forall_mem_cons.mpr ⟨by refine neN ?_; dsimp only; omega, List.forall_mem_nil _⟩
  · exact List.forall_mem_cons.mpr ⟨by refine neN ?_; dsimp only; omega, List.forall_mem_nil _⟩
  clear F3 N3 hi hpos hb0 hb1 hlen
  intro k tk i1 b1 ti1 tb1 n1 nw1 ws1 ns1 h3 tk3 hk0 hk9 F3 N3 hi hpos hi0 hb0 hb1 hlen
  k_steps
  unfold Hold
  rename Fr _ _ _ _ => F4; rename News _ _ _ _ => N4
  rename_i oc2 _ _ _ _ _ _ _ _ _ _
  have hkn : ((k.toNat : Nat) : Int) = k := Int.toNat_of_nonneg hk0
  k_dflt (refine LCg.CompSrc.range (n := k.toNat) rfl F4 N4 (by assumption) (small_one (by omega) (by omega) (by omega) (by omega)) (by rw [rangeSize_nat]; omega) (by have : (100000 : Nat) ≤ sizeLine := Nat.le_of_ble_eq_true rfl; omega) ?_)
  intro g3
  refine comp_inv (n := k.toNat) (J := fun i bs nx => ∃ i1 b1 ti1 tb1 n1 nw1 ws1 ns1 R ts, nx = (d, dealO wl i1 b1 ti1 tb1 n1) :: (wl, listOf ws1.toArray nw1) :: R ∧ (L' + 1, oc2) ∈ R ∧ (∀ p ∈ R, p.1 ≠ d) ∧ (∀ p ∈ R, p.1 ≠ wl) ∧ IntsAre ws1 ns1 ∧ (∀ x ∈ ns1, 0 ≤ x) ∧ 0 ≤ i1 ∧ 0 ≤ b1 ∧ b1 ≤ 20000 ∧ ns1.length ≤ 100 ∧
    TmsIn R bs ts ∧ ts.length = i ∧ ∀ t ∈ ts, t.ok ∧ t.size ≤ 7) ?_ ?_ _ 0 [] _ (Nat.zero_add _) ⟨i1, b1, ti1, tb1, n1, nw1, ws1, ns1, [(L' + 1, oc2)], [], rfl, .head _, ?_, ?_, hi, hpos, hi0, hb0, hb1, hlen, .nil, rfl, fun _ h => nomatch h⟩
  rotate_left
  · clear F4 N4 hi hpos hi0 hb0 hb1 hlen
    rintro i bs nx v I oI C oC D2 m₂ h tk E' hin ⟨i1, b1, ti1, tb1, n1, nw1, ws1, ns1, R, ts, rfl, hcm, hR1, hR2, hi, hpos, hi0, hb0, hb1, hlen, hts, htl, htk⟩ hv hC hx F5 N5 off ne5 J' hJ
    k_steps
    unfold Hold
    have N6 : News s1.heap L' _ ((d, dealO wl i1 b1 ti1 tb1 n1) :: (wl, listOf ws1.toArray nw1) :: (I, oI) :: (C, oC) :: (D2, LCg.lst bs) :: R) := News.sub N5 (by
      intro p hp
      simp only [List.mem_cons] at hp ⊢
      rcases hp with h | h | h | h | h | h <;> simp only [h, true_or, or_true])
    k_dflt (refine tree_spec 2 ⟨K0, F5, KX, N6, T, rfl⟩ (by decide) (by decide) (by decide) (by decide) hwd ?_ ?_ hi hpos hi0 hb0 hb1 hlen ?_)
    · exact List.forall_mem_cons.mpr ⟨Ne.symm off.1.1, List.forall_mem_cons.mpr ⟨Ne.symm off.1.2.1, List.forall_mem_cons.mpr ⟨Ne.symm off.1.2.2, hR1⟩⟩⟩
    · exact List.forall_mem_cons.mpr ⟨Ne.symm off.2.1.1, List.forall_mem_cons.mpr ⟨Ne.symm off.2.1.2.1, List.forall_mem_cons.mpr ⟨Ne.symm off.2.1.2.2, hR2⟩⟩⟩
    clear F5 N5 N6
    intro r t i2 b2 ti2 tb2 n2 nw2 ws2 ns2 E h4 tk4 F4 N4 hE1 hE2 hER hi2 hp2 hi20 hb20 hb21 hl2 ht hok hh hs
    refine LCg.CompEnd.intro F4 N4 ((d, dealO wl i2 b2 ti2 tb2 n2) :: (wl, listOf ws2.toArray nw2) :: (E ++ R)) ?_ ?_ trivial (hJ _ _ ⟨i2, b2, ti2, tb2, n2, nw2, ws2, ns2, E ++ R, ts ++ [t], rfl, List.mem_append.mpr (.inr hcm), fun p hp => (List.mem_append.mp hp).elim (hE1 p) (hR1 p), fun p hp => (List.mem_append.mp hp).elim (hE2 p) (hR2 p), hi2, hp2, hi20, hb20, hb21, hl2, ?_, by simp [htl], ?_⟩)
    · intro p hp
      simp only [List.mem_cons, List.mem_append] at hp ⊢
      rcases hp with h | h | h | h | h | h | h <;> simp only [h, true_or, or_true]
    · exact LCg.Off3.of (List.forall_mem_cons.mpr ⟨off.1, List.forall_mem_cons.mpr ⟨off.2.1, fun p hp => (List.mem_append.mp hp).elim (fun h => ⟨hER p h _ (.head _), hER p h _ (.tail _ (.head _)), hER p h _ (.tail _ (.tail _ (.head _)))⟩) (fun h => LCg.Off3.mem off.2.2 p h)⟩⟩)
    · exact (hts.mono fun p hp => List.mem_append.mpr (.inr hp)).snoc (ht.mono fun p hp => List.mem_append.mpr (.inl hp))
    · intro u hu
      rcases List.mem_append.mp hu with hu | hu
      · exact htk u hu
      · rw [List.mem_singleton.mp hu]; exact ⟨hok, by omega⟩
  · exact List.forall_mem_cons.mpr ⟨by refine neN ?_; dsimp only; omega, List.forall_mem_nil _⟩
  · exact List.forall_mem_cons.mpr ⟨by refine neN ?_; dsimp only; omega, List.forall_mem_nil _⟩
  clear F4 N4 hi hpos hi0 hb0 hb1 hlen
  rintro bs nx ⟨i1, b1, ti1, tb1, n1, nw1, ws1, ns1, R, ts, rfl, hcm, hR1, hR2, hi, hpos, hi0, hb0, hb1, hlen, hts, htl, htk⟩ rl h5 tk5 F5 N5 off5
  have htl8 : ts.length ≤ 8 := by omega
  have hbl := hts.length
  simp only [LCg.Off1] at off5
  k_steps
  unfold Hold
  rename Fr _ _ _ _ => F6; rename News _ _ _ _ => N6
  have N7 : News s1.heap L' _ ((d, dealO wl i1 b1 ti1 tb1 n1) :: (wl, listOf ws1.toArray nw1) :: (rl, LCg.lst bs) :: R) := News.sub N6 (by
    intro p hp
    simp only [List.mem_cons] at hp ⊢
    rcases hp with h | h | h | h <;> simp only [h, true_or, or_true])
  k_dflt (refine tree_spec 3 ⟨K0, F6, KX, N7, T, rfl⟩ (by decide) (by decide) (by decide) (by decide) hwd (List.forall_mem_cons.mpr ⟨Ne.symm off5.1, hR1⟩) (List.forall_mem_cons.mpr ⟨Ne.symm off5.2.1, hR2⟩) hi hpos hi0 hb0 hb1 hlen ?_)
  clear N7 hi hpos hi0 hb0 hb1 hlen
  intro ve te i2 b2 ti2 tb2 n2 nw2 ws2 ns2 E h6 tk6 F7 N7 hE1 hE2 hER hi2 hp2 hi20 hb20 hb21 hl2 hve hok hh hs
  obtain ⟨nx, hnx⟩ : ∃ nx, nx = E ++ (rl, LCg.lst bs) :: R := ⟨_, rfl⟩
  have N8 : News s1.heap L' _ nx := News.sub N7 (fun p hp => .tail _ (.tail _ (by rw [hnx] at hp; exact hp)))
  have hrl : (rl, listOf bs.toArray bs.length) ∈ nx := by rw [hnx]; exact List.mem_append.mpr (.inr (.head _))
  replace hts : TmsIn nx bs ts := hts.mono fun p hp => by rw [hnx]; exact List.mem_append.mpr (.inr (.tail _ hp))
  replace hve : TmIn nx ve te := hve.mono fun p hp => by rw [hnx]; exact List.mem_append.mpr (.inl hp)
  have hk1 : ∀ t ∈ ts, t.kok := fun t ht => (htk t ht).1.kok
  have hs1 : ∀ t ∈ ts, t.size ≤ 7 := fun t ht => (htk t ht).2
  have hk2 : te.kok := hok.kok
  have hs2 : te.size ≤ 15 := hs
  have hh2 : te.ht ≤ 4 := hh
  clear hi2 hp2 hi20 hb20 hb21 hl2 hE1 hE2 hER hnx hR1 hR2 hcm N7 hok hh hs htk hwd lwl off5 dc2 hk0 hk9 hkn
  obtain ⟨va, rfl⟩ := hve.ref
  k_steps
  unfold Hold
  rename Fr _ _ _ _ => F9; rename News _ _ _ _ => N9
  k_dflt (refine lterm_spec (l := rl) (vs := bs) (ts := ts) (tail := te) ⟨K0, F9, KX, N9, T, rfl⟩ (by decide) (by decide) hrl hts (by omega) (.inr ⟨_, rfl, hve⟩) ?_)
  intro vm nx2 h7 tk7 F10 N10 hs3 hvm
  replace hrl := hs3 _ hrl
  replace hts := hts.mono hs3
  replace hve := hve.mono hs3
  obtain ⟨ma, rfl⟩ := hvm.ref
  clear hs3 F9 N9
  k_steps
  unfold Hold
  rename Fr _ _ _ _ => F9; rename News _ _ _ _ => N9
  k_dflt (refine apart_spec te ⟨K0, F9, KX, N9, T, rfl⟩ (Nat.lt_of_le_of_lt (Nat.add_le_add_left hh2 _) (by decide)) (Nat.lt_of_le_of_lt (Nat.add_le_add_left (Nat.mul_le_mul_left 3 hh2) _) (by decide)) hve (by omega) ?_)
  clear F9 N9
  intro q il gs gn qc vl h8 tk8 F11 N11 hgs hvl
  obtain ⟨la, rfl⟩ := hvl.ref
  have hs3 : ∀ t ∈ ts ++ [te], t.size ≤ 15 := by
    intro t ht
    rcases List.mem_append.mp ht with h | h
    · have := hs1 t h; omega
    · rw [List.mem_singleton.mp h]; exact hs2
  have hcs : (Tm.chain 0 ts te).size ≤ 150 := by
    have := chain_size 0 ts te
    have h2 := sum_le hs3
    simp only [List.length_append, List.length_cons, List.length_nil] at h2
    omega
  have hgl := hgs.length
  have hal := te.apart_len
  obtain ⟨nx3, hnx3⟩ : ∃ nx3, nx3 = (q, tupOf [Value.ref il, .ref la] qc) :: (il, listOf gs.toArray gn) :: nx2 := ⟨_, rfl⟩
  rw [← hnx3] at N11
  have hs5 : ∀ p ∈ nx2, p ∈ nx3 := fun p hp => by rw [hnx3]; exact .tail _ (.tail _ hp)
  have hil : (il, listOf gs.toArray gn) ∈ nx3 := by rw [hnx3]; exact .tail _ (.head _)
  have hq : (q, tupOf [Value.ref il, .ref la] qc) ∈ nx3 := by rw [hnx3]; exact .head _
  replace hrl := hs5 _ hrl
  replace hts := hts.mono hs5
  replace hve := hve.mono hs5
  replace hvm := hvm.mono hs5
  replace hgs := hgs.mono hs5
  replace hvl := hvl.mono hs5
  clear hs5 hnx3
  k_steps
  unfold Hold
  rename Fr _ _ _ _ => F9; rename News _ _ _ _ => N9
  k_dflt (refine litems_spec (t := Tm.chain 0 ts te) ⟨K0, F9, KX, N9, T, rfl⟩ (by decide) (by decide) hvm (by omega) ?_)
  clear F9 N9
  intro q2 il2 gs2 gn2 qc2 vl2 h9 tk9 F9 N9 hgs2 hvl2
  rw [chain_apart] at hgs2 hvl2
  obtain ⟨la2, rfl⟩ := hvl2.ref
  replace hgs2 : TmsIn nx3 gs2 (ts ++ te.apart.1) := hgs2
  replace hvl2 : TmIn nx3 (.ref la2) te.apart.2 := hvl2
  have hk4 : ∀ t ∈ ts ++ te.apart.1, t.kok := fun t ht => (List.mem_append.mp ht).elim (hk1 t) ((apart_kok hk2).1 t)
  have hs4 : ∀ t ∈ ts ++ te.apart.1, t.size ≤ 15 := fun t ht => (List.mem_append.mp ht).elim (fun h => by have := hs1 t h; omega) (fun h => by have := (apart_size te).1 t h; omega)
  k_steps
  unfold Hold
  rename Fr _ _ _ _ => F9; rename News _ _ _ _ => N9
  have X9 := KX.keeps F9.keep
  k_dflt (refine m_sameNe (rd_tup (vs := [.ref il2, .ref la2]) N9 (by k_mem) (.cons (rd_tms (vs := gs2) N9 X9 (by k_mem) (hgs2.mono fun p hp => .tail _ (.tail _ (.tail _ (.tail _ hp))))) (.cons (rd_tm N9 X9 (hvl2.mono fun p hp => .tail _ (.tail _ (.tail _ (.tail _ hp))))) .nil))) (rd_tup N9 (by k_mem) (.cons (rd_tms (vs := bs ++ gs) N9 X9 (by k_mem) ((hts.append hgs).mono fun p hp => .tail _ (.tail _ (.tail _ (.tail _ hp))))) (.cons (rd_tm N9 X9 (hvl.mono fun p hp => .tail _ (.tail _ (.tail _ (.tail _ hp))))) .nil))) rfl (lay_pair hk4 (apart_kok hk2).2) (un_lt (dep_pair hs4 (Nat.le_trans (apart_size te).2 hs2)) (by walk_at "m.un")) ?_)
  replace N9 : News s1.heap L' _ nx3 := News.sub N9 (by walk_at "m.sub")
  clear hgs2 hvl2 X9
  k_steps
  unfold Hold
  rename Fr _ _ _ _ => F9; rename News _ _ _ _ => N9
  k_dflt (refine lterm_spec (l := rl) (vs := bs) (ts := ts) (tail := .leaf "a" 0) ⟨K0, F9, KX, N9, T, rfl⟩ (by decide) (by decide) hrl hts (by omega) (.inl ⟨rfl, rfl⟩) ?_)
  clear F9 N9
  intro vm2 nx4 h10 tk10 F9 N9 hs6 hvm2
  obtain ⟨ma2, rfl⟩ := hvm2.ref
  have hcs2 : (Tm.chain 0 ts (.leaf "a" 0)).size ≤ 150 := by
    have := chain_size 0 ts (.leaf "a" 0)
    have h2 := sum_le hs1
    simp only [List.map_append, List.sum_append, List.map_cons, List.map_nil, List.sum_cons, List.sum_nil, Tm.size] at this
    omega
  k_steps
  unfold Hold
  rename Fr _ _ _ _ => F9; rename News _ _ _ _ => N9
  k_dflt (refine litems_spec (t := Tm.chain 0 ts (.leaf "a" 0)) ⟨K0, F9, KX, N9, T, rfl⟩ (by decide) (by decide) hvm2 (by omega) ?_)
  clear F9 N9
  intro q3 il3 gs3 gn3 qc3 vl3 h11 tk11 F9 N9 hgs3 hvl3
  rw [chain_apart] at hgs3 hvl3
  obtain ⟨la3, rfl⟩ := hvl3.ref
  replace hgs3 : TmsIn nx4 gs3 (ts ++ []) := hgs3
  rw [List.append_nil] at hgs3
  replace hvl3 : TmIn nx4 (.ref la3) (.leaf "a" 0) := hvl3
  have hrl4 := hs6 _ hrl
  have hts4 := hts.mono hs6
  k_steps
  unfold Hold
  rename Fr _ _ _ _ => F9; rename News _ _ _ _ => N9
  have X9 := KX.keeps F9.keep
  k_dflt (refine m_sameNe (rd_tup (vs := [.ref il3, .ref la3]) N9 (by k_mem) (.cons (rd_tms (vs := gs3) N9 X9 (by k_mem) (hgs3.mono fun p hp => .tail _ (.tail _ (.tail _ (.tail _ hp))))) (.cons (rd_tm N9 X9 (hvl3.mono fun p hp => .tail _ (.tail _ (.tail _ (.tail _ hp))))) .nil))) (rd_tup N9 (by k_mem) (.cons (rd_tms (vs := bs) N9 X9 (by k_mem) (hts4.mono fun p hp => .tail _ (.tail _ (.tail _ (.tail _ hp))))) (.cons (rd_tup (ds := [.str "a", .int 0]) N9 (by k_mem) (.cons (rd_str _ _) (.cons (rd_int _ _) .nil))) .nil))) rfl (lay_pair (x := .leaf "a" 0) hk1 (.inr (.inl rfl))) (un_lt (dep_pair (k := 15) (x := .leaf "a" 0) (fun t ht => by have := hs1 t ht; omega) (by simp [Tm.size])) (by walk_at "m.un")) ?_)
  replace N9 : News s1.heap L' _ nx3 := News.sub N9 (fun p hp => .tail _ (.tail _ (.tail _ (.tail _ (hs6 p hp)))))
  clear hgs3 hvl3 X9 hs6 hvm2 hrl4 hts4
  k_steps
  unfold Hold
  rename Fr _ _ _ _ => F9; rename News _ _ _ _ => N9
  k_dflt (refine counted_spec (ts := ts) (te := te) ⟨K0, F9, KX, N9, T, rfl⟩ (by decide) (by decide) hrl hts hve hvm htl8 hs1 hs2 ?_)
  clear F9 N9
  intro h12 tk12 F9 N9
  k_steps
  unfold Hold
  rename Fr _ _ _ _ => F9; rename News _ _ _ _ => N9
  k_dflt (refine cons_spec ⟨K0, F9, KX, N9, T, rfl⟩ (by decide) (by decide) hve hvm ?_)
  clear F9 N9
  intro ra nx5 h13 tk13 F9 N9 hs7 hra
  obtain ⟨ra, rfl⟩ := hra.ref
  have hts5 := hts.mono hs7
  have hve5 := hve.mono hs7
  have hrl5 := hs7 _ hrl
  k_steps
  unfold Hold
  rename Fr _ _ _ _ => F9; rename News _ _ _ _ => N9
  k_dflt (refine lterm_spec (vs := .ref va :: bs) (ts := te :: ts) (tail := te) ⟨K0, F9, KX, N9, T, rfl⟩ (by decide) (by decide) (.head _) ((TmsIn.cons hve5 hts5).mono fun p hp => .tail _ (.tail _ hp)) (by simp only [List.length_cons]; omega) (.inr ⟨_, rfl, hve5.mono fun p hp => .tail _ (.tail _ hp)⟩) ?_)
  clear F9 N9
  intro rb nx6 h14 tk14 F9 N9 hs8 hrb
  obtain ⟨rb, rfl⟩ := hrb.ref
  k_steps
  unfold Hold
  rename Fr _ _ _ _ => F9; rename News _ _ _ _ => N9
  have X9 := KX.keeps F9.keep
  k_dflt (refine m_sameNe (rd_tm N9 X9 (hra.mono fun p hp => hs8 _ (.tail _ (.tail _ hp)))) (rd_tm N9 X9 hrb) rfl (Tm.canLay ⟨hk2, chain_kok hk1 hk2⟩) (un_lt (dep_tm (k := 200) (by simp only [Tm.size]; omega)) (by walk_at "m.un")) ?_)
  replace N9 : News s1.heap L' _ nx3 := News.sub N9 (fun p hp => hs8 _ (.tail _ (.tail _ (hs7 p hp))))
  clear X9 hra hrb hs8 hs7 hts5 hve5 hrl5
  k_steps
  unfold Hold
  rename Fr _ _ _ _ => F9; rename News _ _ _ _ => N9
  k_dflt (refine lterm_spec (vs := []) (ts := []) (tail := te) ⟨K0, F9, KX, N9, T, rfl⟩ (by decide) (by decide) (.head _) .nil (by decide) (.inr ⟨_, rfl, hve.mono fun p hp => .tail _ hp⟩) ?_)
  clear F9 N9
  intro rb nx6 h15 tk15 F9 N9 hs8 hrb
  obtain ⟨rb, rfl⟩ := hrb.ref
  k_steps
  unfold Hold
  rename Fr _ _ _ _ => F9; rename News _ _ _ _ => N9
  have X9 := KX.keeps F9.keep
  k_dflt (refine m_sameNe (rd_tm N9 X9 hrb) (rd_tm N9 X9 (hve.mono fun p hp => hs8 _ (.tail _ hp))) rfl (Tm.canLay hk2) (un_lt (dep_tm (k := 200) (by show te.size ≤ 200; omega)) (by walk_at "m.un")) ?_)
  replace N9 : News s1.heap L' _ nx3 := News.sub N9 (fun p hp => hs8 _ (.tail _ hp))
  clear X9 hrb hs8
  k_steps
  unfold Hold
  rename Fr _ _ _ _ => F9; rename News _ _ _ _ => N9
  k_dflt (refine conj_spec ⟨K0, F9, KX, N9, T, rfl⟩ (by decide) (by decide) hrl hts (by omega) ?_)
  clear F9 N9
  intro vj nx7 h16 tk16 F9 N9 hs9 hvj
  obtain ⟨ja, rfl⟩ := hvj.ref
  replace hrl := hs9 _ hrl
  replace hts := hts.mono hs9
  replace hve := hve.mono hs9
  clear hgs hvl hvm hil hq
  k_steps
  walk_at "m.for"
  k_steps
  unfold Hold
  rename_i gl _ lg _ F9 N9
  have lg2 := allLt_of lg
  k_dflt (refine m_iterLT (vs := bs) (c := bs.length) (J := fun i m nx => m (Str.ofString "row") = some (.ref rl) ∧ m (Str.ofString "end") = some (.ref va) ∧ m (Str.ofString "joined") = some (.ref ja) ∧ m (Str.ofString "goals") = some (.ref gl) ∧ ∃ gs n2, nx = (gl, listOf gs.toArray n2) :: nx7 ∧ TmsIn nx7 gs ((ts.take i).flatMap Tm.opened)) rfl F9 N9 ?_ ⟨rfl, rfl, rfl, rfl, [], 0, rfl, .nil⟩ ?_ ?_)
  · rintro i m nx ⟨_, _, _, _, gs, n2, rfl, _⟩
    exact .tail _ hrl
  · clear F9 N9
    rintro I i v m₁ nx h₁ tk₁ it hic hv ⟨hm1, hm2, hm3, hm4, gs, n2, rfl, hgs⟩ hoI hI F1 N1 J' hJ
    obtain ⟨t, ht, hvt⟩ := hts.get i v hv
    have hI2 : @LT.lt Nat _ gl I ∧ AllLt I nx7 := allLt_of hI
    have hgsl := hgs.length
    have hob := opened_bound (l := ts.take i) (k := 7) (fun t ht => hs1 t (List.mem_of_mem_take ht))
    have htm := List.mem_of_getElem? ht
    have hsz := hs1 t htm
    have hht := t.ht_le
    have hol := t.opened_len
    simp only [List.length_take] at hob
    obtain ⟨v, rfl⟩ := hvt.ref
    k_steps
    unfold Hold
    k_dflt (refine opened_spec t ⟨K0, F1, KX, N1, T, rfl⟩ (Nat.lt_of_le_of_lt (Nat.add_le_add_left (Nat.le_trans hht hsz) _) (by decide)) (Nat.lt_of_le_of_lt (Nat.add_le_add_left (Nat.mul_le_mul_left 3 (Nat.le_trans hht hsz)) _) (by decide)) (hvt.mono fun p hp => .tail _ (.tail _ hp)) (by omega) ?_)
    intro g gs' n' h' tk' F2 N2 lg' hgs'
    simp only [AllLt] at lg'
    have hgsl' := hgs'.length
    k_steps
    rename Fr _ _ _ _ => F9; rename News _ _ _ _ => N9
    refine fstep2 hJ F9 (News.drop1 N9) ?_ ⟨hm1, hm2, hm3, rfl, _, _, rfl, ?_⟩
    · exact List.forall_mem_cons.mpr ⟨by refine neN ?_; dsimp only; omega, ne_of_allLt hI2.2⟩
    · rw [List.take_add_one, ht, Option.toList_some, List.flatMap_append, List.flatMap_cons, List.flatMap_nil, List.append_nil]
      exact hgs.append ((hgs'.drop hic).drop (by show (Value.type "list") ≠ .type "tuple"; decide))
  · clear F9 N9
    rintro m₁ nx h₁ tk₁ ⟨hm1, hm2, hm3, hm4, gs, n2, rfl, hgs⟩ F1 N1
    rw [List.take_of_length_le (by omega)] at hgs
    have hob := opened_bound (l := ts) (k := 7) hs1
    have hgsl := hgs.length
    k_steps
    unfold Hold
    rename Fr _ _ _ _ => F9; rename News _ _ _ _ => N9
    have X9 := KX.keeps F9.keep
    by_cases hts0 : ts = []
    · subst hts0
      cases hts
      k_dflt (refine m_sameEq (rd_tms (vs := []) (ts := []) N9 X9 (by k_mem) .nil) (rd_tms (vs := []) (ts := []) N9 X9 (by k_mem) .nil) rfl rfl (un_lt (k := 1) (Nat.le_refl _) (by walk_at "m.un")) ?_)
      clear X9
      k_steps
      unfold Hold
      rename Fr _ _ _ _ => F9; rename News _ _ _ _ => N9
      have X9 := KX.keeps F9.keep
      k_dflt (refine m_sameEq (rd_tm N9 X9 (hvj.mono fun p hp => .tail _ (.tail _ (.tail _ hp)))) (rd_tup (ds := [.str "a", .int 16]) N9 (by k_mem) (.cons (rd_str _ _) (.cons (rd_int _ _) .nil))) rfl (Tm.canLay (t := Tm.conj []) (.inr (.inl rfl))) (un_lt (dep_tm (k := 2) (by simp [Tm.conj, Tm.size])) (by walk_at "m.un")) ?_)
      clear X9
      k_steps
      refine hQ _ _ ?_
      k_steps
    · obtain ⟨t0, tr, rfl⟩ := List.exists_cons_of_ne_nil hts0
      k_dflt (refine m_consNil (rd_tms (vs := bs) (ts := t0 :: tr) N9 X9 (by k_mem) (hts.mono fun p hp => .tail _ (.tail _ hp))) (rd_tms (vs := []) (ts := []) N9 X9 (by k_mem) .nil) (lay_list hk1) (by walk_at "m.un") ?_)
      clear X9
      k_steps
      unfold Hold
      have hcn : (Tm.conj (t0 :: tr)).size ≤ 200 := by
        have h1 := conj_size (ts := t0 :: tr)
        have h2 := sum_le hs1
        omega
      have hG0 := conj_opened hts0
      have hkG : ∀ u ∈ (t0 :: tr).flatMap Tm.opened, u.kok := fun u hu => by
        obtain ⟨t, ht, hu⟩ := List.mem_flatMap.mp hu
        exact opened_kok (hk1 t ht) u hu
      have hsG : ∀ u ∈ (t0 :: tr).flatMap Tm.opened, u.size ≤ 7 := fun u hu => by
        obtain ⟨t, ht, hu⟩ := List.mem_flatMap.mp hu
        exact Nat.le_trans (opened_size t u hu) (hs1 t ht)
      have hoG : ∀ u ∈ (t0 :: tr).flatMap Tm.opened, u.opened = [u] := fun u hu => by
        obtain ⟨t, ht, hu⟩ := List.mem_flatMap.mp hu
        exact opened_open t u hu
      have hnG : (t0 :: tr).flatMap Tm.opened ≠ [] := fun e => opened_ne t0 (List.append_eq_nil_iff.mp e).1
      generalize (t0 :: tr).flatMap Tm.opened = G at hgs hgsl hob hG0 hkG hsG hoG hnG
      obtain ⟨ws, x, us, u, rfl, rfl, hws, hx⟩ := hgs.pop (fun e => hnG (by subst e; cases hgs; rfl))
      have hgz := hws.length
      simp only [List.length_append, List.length_cons, List.length_nil] at hob hgsl
      have hus : us.length ≤ 60 := by simp only [List.length_cons] at hob htl8; omega
      rename Fr _ _ _ _ => F9; rename News _ _ _ _ => N9
      replace N9 : News s1.heap L' _ ((gl, listOf (ws ++ [x]).toArray n2) :: nx7) := News.sub N9 (by walk_at "m.sub")
      k_dflt (refine conjuncts_spec (t := Tm.conj (t0 :: tr)) ⟨K0, F9, KX, N9, T, rfl⟩ (by decide) (by decide) (hvj.mono fun p hp => .tail _ hp) (by omega) ?_)
      clear F9 N9
      intro g1 gs1 m1 h20 tk20 F9 N9 lg1 hgs1
      rw [hG0] at hgs1
      k_steps
      unfold Hold
      rename Fr _ _ _ _ => F9; rename News _ _ _ _ => N9
      have X9 := KX.keeps F9.keep
      k_dflt (refine m_sameNe (rd_tms (vs := gs1) N9 X9 (by k_mem) (hgs1.mono fun p hp => .tail _ hp)) (rd_tms (vs := ws ++ [x]) N9 X9 (by k_mem) (hgs.mono fun p hp => .tail _ (.tail _ hp))) rfl (lay_list hkG) (un_lt (dep_list hsG) (by walk_at "m.un")) ?_)
      clear X9
      replace N9 : News s1.heap L' _ ((gl, listOf (ws ++ [x]).toArray n2) :: nx7) := News.sub N9 (by walk_at "m.sub")
      clear hgs1 lg1
      k_steps
      unfold Hold
      rename Fr _ _ _ _ => F9; rename News _ _ _ _ => N9
      k_dflt (refine conjuncts_spec (t := te) ⟨K0, F9, KX, N9, T, rfl⟩ (by decide) (by decide) (hve.mono fun p hp => .tail _ hp) (by omega) ?_)
      clear F9 N9
      intro g2 gs2 m2 h21 tk21 F9 N9 lg2 hgs2
      k_steps
      unfold Hold
      rename Fr _ _ _ _ => F9; rename News _ _ _ _ => N9
      k_dflt (refine opened_spec te ⟨K0, F9, KX, N9, T, rfl⟩ (Nat.lt_of_le_of_lt (Nat.add_le_add_left hh2 _) (by decide)) (Nat.lt_of_le_of_lt (Nat.add_le_add_left (Nat.mul_le_mul_left 3 hh2) _) (by decide)) (hve.mono fun p hp => .tail _ (.tail _ hp)) (by omega) ?_)
      clear F9 N9
      intro g3 gs3 m3 h22 tk22 F9 N9 lg3 hgs3
      k_steps
      unfold Hold
      rename Fr _ _ _ _ => F9; rename News _ _ _ _ => N9
      have X9 := KX.keeps F9.keep
      k_dflt (refine m_sameNe (rd_tms (vs := gs2) N9 X9 (by k_mem) (hgs2.mono fun p hp => .tail _ (.tail _ hp))) (rd_tms (vs := gs3) N9 X9 (by k_mem) (hgs3.mono fun p hp => .tail _ hp)) rfl (lay_list (opened_kok hk2)) (un_lt (dep_list (k := 15) (fun u hu => Nat.le_trans (opened_size te u hu) hs2)) (by walk_at "m.un")) ?_)
      clear X9
      replace N9 : News s1.heap L' _ ((gl, listOf (ws ++ [x]).toArray n2) :: nx7) := News.sub N9 (by walk_at "m.sub")
      clear hgs2 hgs3 lg2 lg3
      k_steps
      unfold Hold
      rename Fr _ _ _ _ => F9; rename News _ _ _ _ => N9
      k_dflt (refine conj_spec ⟨K0, F9, KX, N9, T, rfl⟩ (by decide) (by decide) List.mem_cons_self (hgs.mono fun p hp => .tail _ hp) (by simp only [List.length_append, List.length_cons, List.length_nil]; omega) ?_)
      clear F9 N9
      intro vq nx8 h23 tk23 F9 N9 hs8 hvq
      obtain ⟨aq, rfl⟩ := hvq.ref
      have hgl8 := hs8 _ (.head _)
      have hgs8 : TmsIn nx8 (ws ++ [x]) (us ++ [u]) := hgs.mono fun p hp => hs8 _ (.tail _ hp)
      have hws8 : TmsIn nx8 ws us := hws.mono fun p hp => hs8 _ (.tail _ hp)
      have hx8 : TmIn nx8 x u := hx.mono fun p hp => hs8 _ (.tail _ hp)
      replace hvj : TmIn nx8 (.ref ja) (Tm.conj (t0 :: tr)) := hvj.mono fun p hp => hs8 _ (.tail _ hp)
      clear hs8 hgs hws hx hts hrl hve
      have he : kms_pick (ws ++ [x]).toArray.toList none (some (-1)) = ws := by
        unfold kms_pick kms_lo kms_hi
        simp
      k_steps
      walk_at "m.for"
      k_steps
      unfold Hold
      rename_i dl _ F9 N9 ld9
      obtain ⟨ax, rfl⟩ := hx8.ref
      have hku : u.kok := hkG u (List.mem_append.mpr (.inr (.head _)))
      have hsu : u.size ≤ 7 := hsG u (List.mem_append.mpr (.inr (.head _)))
      have hlay1 : (PyData.tuple [.str (Str.ofString "s"), .int 1]).canLay0 = true := by
        show (PyData.strOk (Str.ofString "s") && (true && true)) = true
        rw [ok_s]; rfl
      k_dflt (refine m_iterLT (vs := ws) (c := 0) (J := fun i m nx => m (Str.ofString "joined") = some (.ref ja) ∧ m (Str.ofString "goals") = some (.ref gl) ∧ nx = (dl, listOf ws.toArray 0) :: nx8 ∧ ∃ av, m (Str.ofString "again") = some (.ref av) ∧ TmIn nx8 (.ref av) (Tm.conj (us.drop i ++ [u]))) rfl F9 N9 ?_ ⟨hm3, hm4, rfl, aq, rfl, hvq⟩ ?_ ?_)
      · rintro i m nx ⟨_, _, rfl, _⟩
        exact .head _
      · clear F9 N9
        rintro I i v m₂ nx h₂ tk₂ it hic hv ⟨hn1, hn2, rfl, av, hn3, hav⟩ hoI hI F1 N1 J' hJ
        obtain ⟨g, hg1, hvg⟩ := hws8.get i v hv
        have hgm : g ∈ us ++ [u] := List.mem_append.mpr (.inl (List.mem_of_getElem? hg1))
        have hkg : g.kok := hkG g hgm
        have hsg : g.size ≤ 7 := hsG g hgm
        rw [List.drop_eq_getElem?_toList_append, hg1, Option.toList_some, List.singleton_append, List.cons_append, Tm.conj_cons (by simp)] at hav
        obtain ⟨v, rfl⟩ := hvg.ref
        cases hav with
        | @node _ _ _ _ _ _ _ vl vr _ _ hx1 hx2 hx3 hx4 =>
          obtain ⟨al, rfl⟩ := hx3.ref
          obtain ⟨ar, rfl⟩ := hx4.ref
          k_steps
          unfold Hold
          rename Fr _ _ _ _ => F9; rename News _ _ _ _ => N9
          k_dflt (refine m_sameNe (rd_tup (ds := [.str (Str.ofString "s"), .int 1]) N9 (.tail _ (.head _)) (.cons (rd_str _ _) (.cons (rd_int _ _) .nil))) (rd_tup (ds := [.str (Str.ofString "s"), .int 1]) N9 (.head _) (.cons (rd_str _ _) (.cons (rd_int _ _) .nil))) rfl hlay1 (un_lt (k := 2) (by simp [PyData.depth, PyData.depthAll]) (by walk_at "m.un")) ?_)
          k_steps
          unfold Hold
          rename Fr _ _ _ _ => F9; rename News _ _ _ _ => N9
          have X9 := KX.keeps F9.keep
          k_dflt (refine m_sameNe (rd_tm N9 X9 (hx3.mono fun p hp => .tail _ (.tail _ (.tail _ (.tail _ hp))))) (rd_tm N9 X9 (hvg.mono fun p hp => .tail _ (.tail _ (.tail _ (.tail _ hp))))) rfl (Tm.canLay hkg) (un_lt (dep_tm hsg) (by walk_at "m.un")) ?_)
          clear X9
          k_steps
          rename Fr _ _ _ _ => F9; rename News _ _ _ _ => N9
          exact fstep2 hJ F9 (News.sub N9 (by walk_at "m.sub")) hoI ⟨hn1, hn2, rfl, ar, rfl, hx4⟩
      · clear F9 N9
        rintro m₂ nx h₂ tk₂ ⟨hn1, hn2, rfl, av, hn3, hav⟩ F1 N1
        rw [hgz, List.drop_length] at hav
        replace hav : TmIn nx8 (.ref av) u := hav
        k_steps
        unfold Hold
        rename Fr _ _ _ _ => F9; rename News _ _ _ _ => N9
        have X9 := KX.keeps F9.keep
        k_dflt (refine m_sameNe (rd_tm N9 X9 (hav.mono fun p hp => .tail _ hp)) (rd_tm N9 X9 (hx8.mono fun p hp => .tail _ hp)) rfl (Tm.canLay hku) (un_lt (dep_tm hsu) (by walk_at "m.un")) ?_)
        clear X9
        k_steps
        unfold Hold
        have hcz : (Tm.conj (us ++ [u])).size ≤ 500 := by
          have h1 := conj_size (ts := us ++ [u])
          have h2 := sum_le hsG
          simp only [List.length_append, List.length_cons, List.length_nil] at h1 h2
          omega
        rename Fr _ _ _ _ => F9; rename News _ _ _ _ => N9
        k_dflt (refine conj_spec ⟨K0, F9, KX, N9, T, rfl⟩ (by decide) (by decide) (.tail _ hgl8) (hgs8.mono fun p hp => .tail _ hp) (by simp only [List.length_append, List.length_cons, List.length_nil]; omega) ?_)
        clear F9 N9
        intro v1 nx9 h24 tk24 F9 N9 hs10 hv1
        replace hgl8 := hs10 _ (.tail _ hgl8)
        replace hgs8 := hgs8.mono fun p hp => hs10 _ (.tail _ hp)
        replace hvj := hvj.mono fun p hp => hs10 _ (.tail _ hp)
        clear hav hx8 hws8 ld9 hvq hs10
        obtain ⟨a1, rfl⟩ := hv1.ref
        k_steps
        unfold Hold
        rename Fr _ _ _ _ => F9; rename News _ _ _ _ => N9
        k_dflt (refine conjuncts_spec (t := Tm.conj (us ++ [u])) ⟨K0, F9, KX, N9, T, rfl⟩ (by decide) (by decide) hv1 (by omega) ?_)
        clear F9 N9
        intro g4 gs4 m4 h25 tk25 F9 N9 lg4 hgs4
        rw [conj_opened hnG, flat_open hoG] at hgs4
        k_steps
        unfold Hold
        rename Fr _ _ _ _ => F9; rename News _ _ _ _ => N9
        have X9 := KX.keeps F9.keep
        k_dflt (refine m_sameEq (rd_tms (vs := gs4) N9 X9 (by k_mem) (hgs4.mono fun p hp => .tail _ hp)) (rd_tms (vs := ws ++ [.ref ax]) N9 X9 (by k_mem) (hgs8.mono fun p hp => .tail _ hp)) rfl (lay_list hkG) (un_lt (dep_list hsG) (by walk_at "m.un")) ?_)
        clear X9 hgs4
        replace N9 : News s1.heap L' _ nx9 := News.sub N9 (fun p hp => .tail _ hp)
        k_steps
        unfold Hold
        rename Fr _ _ _ _ => F9; rename News _ _ _ _ => N9
        k_dflt (refine conjuncts_spec (t := Tm.conj (t0 :: tr)) ⟨K0, F9, KX, N9, T, rfl⟩ (by decide) (by decide) hvj (by omega) ?_)
        clear F9 N9
        intro g5 gs5 m5 h26 tk26 F9 N9 lg5 hgs5
        rw [hG0] at hgs5
        have hgz5 := hgs5.length
        simp only [List.length_append, List.length_cons, List.length_nil] at hgz5
        k_steps
        unfold Hold
        rename Fr _ _ _ _ => F9; rename News _ _ _ _ => N9
        k_dflt (refine conj_spec ⟨K0, F9, KX, N9, T, rfl⟩ (by decide) (by decide) (.head _) (hgs5.mono fun p hp => .tail _ hp) (by omega) ?_)
        clear F9 N9
        intro v2 nx10 h27 tk27 F9 N9 hs10 hv2
        replace hgl8 := hs10 _ (.tail _ hgl8)
        replace hgs8 := hgs8.mono fun p hp => hs10 _ (.tail _ hp)
        clear hs10
        obtain ⟨a2, rfl⟩ := hv2.ref
        k_steps
        unfold Hold
        rename Fr _ _ _ _ => F9; rename News _ _ _ _ => N9
        k_dflt (refine conj_spec ⟨K0, F9, KX, N9, T, rfl⟩ (by decide) (by decide) hgl8 hgs8 (by simp only [List.length_append, List.length_cons, List.length_nil]; omega) ?_)
        clear F9 N9
        intro v3 nx11 h28 tk28 F9 N9 hs10 hv3
        obtain ⟨a3, rfl⟩ := hv3.ref
        k_steps
        unfold Hold
        rename Fr _ _ _ _ => F9; rename News _ _ _ _ => N9
        have X9 := KX.keeps F9.keep
        k_dflt (refine m_sameEq (rd_tm N9 X9 (hv2.mono hs10)) (rd_tm N9 X9 hv3) rfl (Tm.canLay (conj_kok hkG)) (un_lt (dep_tm hcz) (by walk_at "m.un")) ?_)
        clear X9
        k_steps
        refine hQ _ _ ?_
        k_steps)

end Mine
theorem PySem.Challenge.cw_ok0007_01_holds : PySem.Challenge.rw_ok0007_01.Holds :=
  Mine.law0
