import PyProof.Rows.All
import Wide.All
import OpenK.AllK
import Wide.FinOn
import PySem.Challenge.RW_pq0626_01
set_option Elab.async false
set_option linter.unusedVariables false
namespace Mine
open PySem PySem.W PyProof.Rows
set_option maxRecDepth 100000
set_option maxRecDepth 100000 in
set_option maxHeartbeats 8000000 in
open_top hd for PySem.Challenge.rw_pq0626_01
end Mine

namespace Mine
open PySem PySem.W PyProof.Rows PySem.Calls
set_option maxRecDepth 100000
abbrev PG : Program := PySem.Challenge.rw_pq0626_01.row.prog
theorem fill : hd.heap_39 = hd.heap_39 ∧ PySem.Challenge.rw_pq0626_01 = PySem.Challenge.rw_pq0626_01 := by
  k_fill
  exact ⟨rfl, rfl⟩
section
variable {prog : Program} {w : World} {A : Around} {E : Value → Shared → Prop} {s : Shared} {h₀ : Heap} {L D : Addr} {m : PySem.Str → Option Value} {news : List (Addr × Obj)}
theorem my_sub {value slice : PySem.Expr} {l : List Value} {n : Nat} {k : Int} {u : Tok} {v : Value} {Q : Value → Shared → Prop} (N : News h₀ L s.heap news) (hm : (D, listOf l.toArray n) ∈ news) (h0 : 0 ≤ k) (h1 : k < 2 ^ 63) (hx : l[k.toNat]? = some v) (h : Q v s)
    (hs : subscripted slice false (.ref D) (.int k u) = operate [.ref D, .int k u] (getItem (.ref D) (.int k u)) := by with_unfolding_all rfl) :
    wpAny (model prog w) A (subscriptTail value slice (.ref D) (.int k u)) Q E s :=
  have hL : s.heap.IsList D l.toArray := PySem.IsL.isList (n := n) (N _ hm).1
  tail_any hL.typeIs slot_list_getitem.lookup (wpAny_getItem_list hL h0 h1 (by simpa using hx) h) hs
/-- a tuple of the ledger -/
abbrev tupOf (l : List Value) : Obj := { cls := .type "tuple", data := .seq l.toArray 0 }
theorem my_tup {value slice : PySem.Expr} {l : List Value} {k : Int} {u : Tok} {v : Value} {Q : Value → Shared → Prop} (N : News h₀ L s.heap news) (hm : (D, tupOf l) ∈ news) (h0 : 0 ≤ k) (h1 : k < 2 ^ 63) (hx : l[k.toNat]? = some v) (h : Q v s)
    (hs : subscripted slice false (.ref D) (.int k u) = operate [.ref D, .int k u] (getItem (.ref D) (.int k u)) := by with_unfolding_all rfl) :
    wpAny (model prog w) A (subscriptTail value slice (.ref D) (.int k u)) Q E s := by
  refine item_tupleT (N.isTup hm) (by omega) h1 (j := k.toNat) ?_ hx h hs
  have hlt : k.toNat < l.length := by
    rcases Nat.lt_or_ge k.toNat l.length with h9 | h9
    · exact h9
    · rw [List.getElem?_eq_none h9] at hx; cases hx
  have e1 : ¬ k < 0 := by omega
  have e2 : k < (l.length : Int) := by omega
  simp [seqIndex?, e1, h0, e2]
theorem my_tup0 {value slice : PySem.Expr} {l : List Value} {u : Tok} {v : Value} {Q : Value → Shared → Prop} (N : News h₀ L s.heap news) (hm : (D, tupOf (v :: l)) ∈ news) (h : Q v s)
    (hs : subscripted slice false (.ref D) (.int 0 u) = operate [.ref D, .int 0 u] (getItem (.ref D) (.int 0 u)) := by with_unfolding_all rfl) :
    wpAny (model prog w) A (subscriptTail value slice (.ref D) (.int 0 u)) Q E s := my_tup N hm (by decide) (by decide) rfl h hs
theorem my_tup1 {value slice : PySem.Expr} {l : List Value} {u : Tok} {x v : Value} {Q : Value → Shared → Prop} (N : News h₀ L s.heap news) (hm : (D, tupOf (x :: v :: l)) ∈ news) (h : Q v s)
    (hs : subscripted slice false (.ref D) (.int 1 u) = operate [.ref D, .int 1 u] (getItem (.ref D) (.int 1 u)) := by with_unfolding_all rfl) :
    wpAny (model prog w) A (subscriptTail value slice (.ref D) (.int 1 u)) Q E s := my_tup N hm (by decide) (by decide) rfl h hs
theorem my_tup2 {value slice : PySem.Expr} {l : List Value} {u : Tok} {x y v : Value} {Q : Value → Shared → Prop} (N : News h₀ L s.heap news) (hm : (D, tupOf (x :: y :: v :: l)) ∈ news) (h : Q v s)
    (hs : subscripted slice false (.ref D) (.int 2 u) = operate [.ref D, .int 2 u] (getItem (.ref D) (.int 2 u)) := by with_unfolding_all rfl) :
    wpAny (model prog w) A (subscriptTail value slice (.ref D) (.int 2 u)) Q E s := my_tup N hm (by decide) (by decide) rfl h hs
theorem my_sub0 {value slice : PySem.Expr} {l : List Value} {n : Nat} {u : Tok} {v : Value} {Q : Value → Shared → Prop} (N : News h₀ L s.heap news) (hm : (D, listOf (v :: l).toArray n) ∈ news) (h : Q v s)
    (hs : subscripted slice false (.ref D) (.int 0 u) = operate [.ref D, .int 0 u] (getItem (.ref D) (.int 0 u)) := by with_unfolding_all rfl) :
    wpAny (model prog w) A (subscriptTail value slice (.ref D) (.int 0 u)) Q E s := my_sub N hm (by decide) (by decide) rfl h hs
theorem my_sub1 {value slice : PySem.Expr} {l : List Value} {n : Nat} {u : Tok} {x v : Value} {Q : Value → Shared → Prop} (N : News h₀ L s.heap news) (hm : (D, listOf (x :: v :: l).toArray n) ∈ news) (h : Q v s)
    (hs : subscripted slice false (.ref D) (.int 1 u) = operate [.ref D, .int 1 u] (getItem (.ref D) (.int 1 u)) := by with_unfolding_all rfl) :
    wpAny (model prog w) A (subscriptTail value slice (.ref D) (.int 1 u)) Q E s := my_sub N hm (by decide) (by decide) rfl h hs
theorem my_sub2 {value slice : PySem.Expr} {l : List Value} {n : Nat} {u : Tok} {x y v : Value} {Q : Value → Shared → Prop} (N : News h₀ L s.heap news) (hm : (D, listOf (x :: y :: v :: l).toArray n) ∈ news) (h : Q v s)
    (hs : subscripted slice false (.ref D) (.int 2 u) = operate [.ref D, .int 2 u] (getItem (.ref D) (.int 2 u)) := by with_unfolding_all rfl) :
    wpAny (model prog w) A (subscriptTail value slice (.ref D) (.int 2 u)) Q E s := my_sub N hm (by decide) (by decide) rfl h hs
theorem slice_and {value slice : PySem.Expr} {t : Addr} {x y z : Value} {u : Tok} {Q : Value → Shared → Prop}
    (F : Fr h₀ L s.heap m) (N : News h₀ L s.heap news) (hm : (t, tupOf [x, y, z]) ∈ news)
    (h : ∀ D h', Fr h₀ L h' m → News h₀ L h' ((D, tupOf [y, z]) :: news) → (∀ p ∈ news, p.1 < D) → Q (.ref D) { s with heap := h' })
    (hs : subscripted slice false (.ref t) (.ref s.heap.objs.size) = operate [.ref s.heap.objs.size, .ref t] (getItem (.ref t) (.ref s.heap.objs.size)) := by with_unfolding_all rfl)
    (hg : ∀ r, letTemporaryGo value (.ref t) r = pure () := by intro _; with_unfolding_all rfl) :
    wpAny (model prog w) A (subscriptTail value slice (.ref t) (.ref s.heap.objs.size)) Q E { s with heap := s.heap.push { cls := .type "slice", data := .fields #[.int 1 u, .none, .none] } } :=
  slice_tuple_from (a := 1) F N (N.isTup hm) (by decide) (by simp) (fun h' F' N' => h _ h' F' N' fun p hp => Nat.lt_succ_of_lt (Heap.lt_size (N p hp).1)) hs hg (by rw [sizeLine_eq]; simp)
end
theorem news_drop1 {h₀ h : Heap} {L : Addr} {x : Addr × Obj} {news : List (Addr × Obj)} (N : News h₀ L h (x :: news)) : News h₀ L h news := fun p hp => N p (List.Mem.tail _ hp)
theorem news_drop2 {h₀ h : Heap} {L : Addr} {x y : Addr × Obj} {news : List (Addr × Obj)} (N : News h₀ L h (x :: y :: news)) : News h₀ L h news := fun p hp => N p (List.Mem.tail _ (List.Mem.tail _ hp))
theorem news_drop3 {h₀ h : Heap} {L : Addr} {x y z : Addr × Obj} {news : List (Addr × Obj)} (N : News h₀ L h (x :: y :: z :: news)) : News h₀ L h news := fun p hp => N p (List.Mem.tail _ (List.Mem.tail _ (List.Mem.tail _ hp)))
/-- a stop for the walk -/
def Stop (P : Prop) : Prop := P
theorem Stop.go {P : Prop} (h : Stop P) : P := h
end Mine

namespace Mine
open PySem PySem.W PyProof.Rows PySem.Calls PySem.SeqAt
set_option maxRecDepth 100000
/-- a condition: leaves are values that stand in the ledger; g says whether it is one of the plain kind -/
inductive Cond where
  | leaf (v : Value) (g : Bool)
  | and (l r : Cond)
def Cond.size : Cond → Nat
  | .leaf _ _ => 1
  | .and l r => l.size + r.size + 1
def Cond.good : Cond → Bool
  | .leaf _ g => g
  | .and l r => l.good && r.good
def Cond.leaves : Cond → List Value
  | .leaf v _ => [v]
  | .and l r => l.leaves ++ r.leaves
def sizes (cs : List Cond) : Nat := (cs.map Cond.size).sum
inductive LeafIn (news : List (Addr × Obj)) : Value → Bool → Prop where
  | named {a : Addr} {t : Tok} {x : Value} : (a, tupOf [.str (PySem.Str.ofString "named") t, x]) ∈ news → LeafIn news (.ref a) true
  | rel {a b : Addr} {t u q : Tok} {x y1 y2 y3 y4 : Value} : (a, tupOf [.str (PySem.Str.ofString "rel") t, .str (PySem.Str.ofString "=") u, .ref b, x]) ∈ news → (b, tupOf [.str (PySem.Str.ofString "ref") q, y1, y2, y3, y4]) ∈ news → LeafIn news (.ref a) true
  | oddOr {a : Addr} {t : Tok} {x y : Value} : (a, tupOf [.str (PySem.Str.ofString "or") t, x, y]) ∈ news → LeafIn news (.ref a) false
  | oddNot {a : Addr} {t : Tok} {x : Value} : (a, tupOf [.str (PySem.Str.ofString "not") t, x]) ∈ news → LeafIn news (.ref a) false
  | oddClass {a : Addr} {t : Tok} {x y : Value} : (a, tupOf [.str (PySem.Str.ofString "class") t, x, y]) ∈ news → LeafIn news (.ref a) false
  | oddSign {a : Addr} {t : Tok} {x y : Value} : (a, tupOf [.str (PySem.Str.ofString "sign") t, x, y]) ∈ news → LeafIn news (.ref a) false
  | oddLt {a : Addr} {t u : Tok} {x y : Value} : (a, tupOf [.str (PySem.Str.ofString "rel") t, .str (PySem.Str.ofString "<") u, x, y]) ∈ news → LeafIn news (.ref a) false
  | oddNe {a : Addr} {t u : Tok} {x y : Value} : (a, tupOf [.str (PySem.Str.ofString "rel") t, .str (PySem.Str.ofString "<>") u, x, y]) ∈ news → LeafIn news (.ref a) false
  | oddNum {a b : Addr} {t u q : Tok} {x y : Value} : (a, tupOf [.str (PySem.Str.ofString "rel") t, .str (PySem.Str.ofString "=") u, .ref b, x]) ∈ news → (b, tupOf [.str (PySem.Str.ofString "number") q, y]) ∈ news → LeafIn news (.ref a) false
  | oddPlus {a b : Addr} {t u q : Tok} {x y z : Value} : (a, tupOf [.str (PySem.Str.ofString "rel") t, .str (PySem.Str.ofString "=") u, .ref b, x]) ∈ news → (b, tupOf [.str (PySem.Str.ofString "+") q, y, z]) ∈ news → LeafIn news (.ref a) false
theorem LeafIn.mono {news news' : List (Addr × Obj)} {v : Value} {g : Bool} (h : LeafIn news v g) (hs : ∀ p ∈ news, p ∈ news') : LeafIn news' v g := by
  cases h with
  | named h1 => exact .named (hs _ h1)
  | rel h1 h2 => exact .rel (hs _ h1) (hs _ h2)
  | oddOr h1 => exact .oddOr (hs _ h1)
  | oddNot h1 => exact .oddNot (hs _ h1)
  | oddClass h1 => exact .oddClass (hs _ h1)
  | oddSign h1 => exact .oddSign (hs _ h1)
  | oddLt h1 => exact .oddLt (hs _ h1)
  | oddNe h1 => exact .oddNe (hs _ h1)
  | oddNum h1 h2 => exact .oddNum (hs _ h1) (hs _ h2)
  | oddPlus h1 h2 => exact .oddPlus (hs _ h1) (hs _ h2)
inductive CondIn (news : List (Addr × Obj)) : Value → Cond → Prop where
  | leaf {v : Value} {g : Bool} : LeafIn news v g → CondIn news v (.leaf v g)
  | and {a : Addr} {t : Tok} {x y : Value} {l r : Cond} : (a, tupOf [.str (PySem.Str.ofString "and") t, x, y]) ∈ news → CondIn news x l → CondIn news y r → CondIn news (.ref a) (.and l r)
theorem CondIn.mono {news news' : List (Addr × Obj)} {v : Value} {c : Cond} (h : CondIn news v c) (hs : ∀ p ∈ news, p ∈ news') : CondIn news' v c := by
  induction h with
  | leaf h1 => exact .leaf (h1.mono hs)
  | and h1 _ _ i1 i2 => exact .and (hs _ h1) i1 i2
inductive CondsIn (news : List (Addr × Obj)) : List Value → List Cond → Prop where
  | nil : CondsIn news [] []
  | cons {v : Value} {c : Cond} {vs : List Value} {cs : List Cond} : CondIn news v c → CondsIn news vs cs → CondsIn news (v :: vs) (c :: cs)
theorem CondsIn.append {news : List (Addr × Obj)} {vs us : List Value} {cs ds : List Cond} (h : CondsIn news vs cs) (k : CondsIn news us ds) : CondsIn news (vs ++ us) (cs ++ ds) := by
  induction h with
  | nil => exact k
  | cons a _ ih => exact .cons a ih
theorem CondsIn.last {news : List (Addr × Obj)} {vs : List Value} {cs : List Cond} (h : CondsIn news vs cs) : (vs = [] ∧ cs = []) ∨ ∃ us v ds c, vs = us ++ [v] ∧ cs = ds ++ [c] ∧ CondIn news v c ∧ CondsIn news us ds := by
  induction h with
  | nil => exact .inl ⟨rfl, rfl⟩
  | @cons v c vs cs a r ih =>
    refine .inr ?_
    rcases ih with ⟨rfl, rfl⟩ | ⟨us, u, ds, d, rfl, rfl, b, e⟩
    · exact ⟨[], v, [], c, rfl, rfl, a, .nil⟩
    · exact ⟨v :: us, u, c :: ds, d, rfl, rfl, b, .cons a e⟩
theorem CondsIn.length {news : List (Addr × Obj)} {vs : List Value} {cs : List Cond} (h : CondsIn news vs cs) : vs.length = cs.length := by
  induction h with
  | nil => rfl
  | cons _ _ ih => simp [ih]
theorem Cond.size_pos (c : Cond) : 0 < c.size := by cases c <;> simp [Cond.size]
theorem sizes_append (cs ds : List Cond) : sizes (cs ++ ds) = sizes cs + sizes ds := by simp [sizes]
theorem sizes_one (c : Cond) : sizes [c] = c.size := by simp [sizes]
theorem sizes_two (c d : Cond) : sizes [c, d] = c.size + d.size := by simp [sizes]
theorem length_le_sizes : ∀ cs : List Cond, cs.length ≤ sizes cs
  | [] => Nat.le_refl _
  | c :: cs => by
    have h := length_le_sizes cs
    have p := c.size_pos
    simp only [sizes, List.map_cons, List.sum_cons, List.length_cons] at h ⊢
    omega

section
variable {prog : Program} {w : World} {A : Around} {E : Value → Shared → Prop} {s : Shared} {h₀ : Heap} {L D : Addr} {m : PySem.Str → Option Value} {news : List (Addr × Obj)}
theorem ne_nil_no {l b : Addr} {n n2 : Nat} {Q : Value → Shared → Prop} (N : News h₀ L s.heap news) (h1 : (l, listOf #[] n) ∈ news) (h2 : (b, listOf #[] n2) ∈ news) (hu : A.units < cLine) (h : Q (.bool false) s) :
    wpAny (model prog w) A (compareOp .NotEq (.ref l) (.ref b)) Q E s :=
  RcNeAt.lists (e := fun _ => true) (PySem.IsL.isList (n := n) (N _ h1).1) (PySem.IsL.isList (n := n2) (N _ h2).1) rfl hu (fun j hj _ => absurd hj (Nat.not_lt_zero _)) prog w E Q h
theorem ne_nil_yes {l b : Addr} {us : List Value} {y : Value} {n n2 : Nat} {Q : Value → Shared → Prop} (N : News h₀ L s.heap news) (h1 : (l, listOf (us ++ [y]).toArray n) ∈ news) (h2 : (b, listOf #[] n2) ∈ news) (hu : A.units < cLine) (h : Q (.bool true) s) :
    wpAny (model prog w) A (compareOp .NotEq (.ref l) (.ref b)) Q E s :=
  RcNeAt.lists_lengths (PySem.IsL.isList (n := n) (N _ h1).1) (PySem.IsL.isList (n := n2) (N _ h2).1) (by simp) hu prog w E Q h
theorem Fr_bind {h : Heap} {x : PySem.Str} {v : Value} (F : Fr h₀ L h m) (e : m x = some v) : Fr h₀ L h (fun y => if y = x then some v else m y) := by
  have q : (fun y => if y = x then some v else m y) = m := by
    funext y
    by_cases hy : y = x
    · rw [if_pos hy, hy, e]
    · rw [if_neg hy]
  rw [q]; exact F
theorem pop_last {us : List Value} {y : Value} {n : Nat} {nf : Obj → List (Addr × Obj)} {Q : Value → Shared → Prop} (F : Fr h₀ L s.heap m) (N : News h₀ L s.heap news) (U : UpdF D (listOf (us ++ [y]).toArray n) news nf) (hz : us.length < sizeLine)
    (h : ∀ h', Fr h₀ L h' m → News h₀ L h' (nf (listOf us.toArray (n + 1))) → Q y { s with heap := h' }) : wpAny (model prog w) A (call (.builtin "list.pop") [.ref D]) Q E s := by
  obtain ⟨pre, post, rfl, hg, a, b⟩ := U.split
  have up : ∀ (pre : List (Addr × Obj)), (∀ p ∈ pre, p.1 ≠ D) → Upd D (listOf (us ++ [y]).toArray n) (listOf us.toArray (n + 1)) (pre ++ (D, listOf (us ++ [y]).toArray n) :: post) (pre ++ (D, listOf us.toArray (n + 1)) :: post) := by
    intro pre
    induction pre with
    | nil => intro _; exact .head b
    | cons p r ih => intro hp; exact .tail (hp p (.head _)) (ih fun q hq => hp q (.tail _ hq))
  refine kl_pop F N (p := us) (y := y) (by simpa using kpa_last y us) (up pre a) (by simp; omega) fun h' F' N' => h h' F' (by rw [hg]; exact N')
theorem updF_upd {o o' : Obj} {nf : Obj → List (Addr × Obj)} : ∀ {l : List (Addr × Obj)}, UpdF D o l nf → Upd D o o' l (nf o') := by
  intro l U
  induction U with
  | head h => exact .head h
  | tail h _ ih => exact .tail h ih
theorem app_one {us : List Value} {x : Value} {n : Nat} {nf : Obj → List (Addr × Obj)} {Q : Value → Shared → Prop} (F : Fr h₀ L s.heap m) (N : News h₀ L s.heap news)
    (U : UpdF D (listOf us.toArray n) news nf) (hz : us.length ≤ 100000) (h : ∀ h', Fr h₀ L h' m → News h₀ L h' (nf (listOf (us ++ [x]).toArray (n + 1))) → Q .none { s with heap := h' }) : wpAny (model prog w) A (call (.builtin "list.append") [.ref D, x]) Q E s := by
  refine append_K F N (updF_upd (o' := listOf (us.toArray.push x) (n + 1)) U) (fun h' F' N' => h h' F' ?_) (by rw [sizeLine_eq]; simp; omega)
  have e : us.toArray.push x = (us ++ [x]).toArray := by simp
  rw [← e]; exact N'
theorem ext_tup {us : List Value} {x y : Value} {b : Addr} {n n2 : Nat} {nf : Obj → List (Addr × Obj)} {Q : Value → Shared → Prop} (F : Fr h₀ L s.heap m) (N : News h₀ L s.heap news) (hb : (b, ({ cls := .type "tuple", data := .seq [x, y].toArray n2 } : Obj)) ∈ news)
    (U : UpdF D (listOf us.toArray n) news nf) (hz : us.length ≤ 100000) (h : ∀ h', Fr h₀ L h' m → News h₀ L h' (nf (listOf (us ++ [x, y]).toArray (n + 1))) → Q .none { s with heap := h' }) : wpAny (model prog w) A (call (.builtin "list.extend") [.ref D, .ref b]) Q E s := by
  refine kup_extend F N hb (l := us ++ [x, y]) (by simp) (by simp) (updF_upd U) ?_ (by rw [sizeLine_eq]; simp; omega) (by rw [sizeLine_eq]; simp; omega) h
  simp [Builtin.List.listTooLong]
  intro _
  rw [sizeLine_eq]
  omega
theorem ext_lst {us : List Value} {x y : Value} {b : Addr} {n n2 : Nat} {nf : Obj → List (Addr × Obj)} {Q : Value → Shared → Prop} (F : Fr h₀ L s.heap m) (N : News h₀ L s.heap news) (hb : (b, listOf [x, y].toArray n2) ∈ news)
    (U : UpdF D (listOf us.toArray n) news nf) (hz : us.length ≤ 100000) (h : ∀ h', Fr h₀ L h' m → News h₀ L h' (nf (listOf (us ++ [x, y]).toArray (n + 1))) → Q .none { s with heap := h' }) : wpAny (model prog w) A (call (.builtin "list.extend") [.ref D, .ref b]) Q E s := by
  refine kl_extend F N hb (l := us ++ [x, y]) (by simp) (by simp) (updF_upd U) ?_ (by rw [sizeLine_eq]; simp; omega) (by rw [sizeLine_eq]; simp; omega) h
  simp [Builtin.List.listTooLong]
  intro _
  rw [sizeLine_eq]
  omega
end
end Mine

namespace Mine
open PySem PySem.W PyProof.Rows PySem.Calls
set_option maxRecDepth 100000
section
variable {prog : Program} {w : World} {A : Around} {E : Value → Shared → Prop} {s : Shared} {env : Env} {h₀ : Heap} {x : PySem.Str} {body : List Stmt} {Q : Flow → Shared → Prop}
/-- a loop over a list that the call has made: any word that the turns keep -/
theorem iter_vals {D : Addr} {vs : List Value} {nn : Nat} {m₀ : PySem.Str → Option Value} {news : List (Addr × Obj)} (J : Nat → (PySem.Str → Option Value) → List (Addr × Obj) → Prop)
    (hh : A.handled = none) (F : Fr h₀ env.locals s.heap m₀) (N : News h₀ env.locals s.heap news) (hD : (D, listOf vs.toArray nn) ∈ news) (hj : J 0 m₀ news)
    (turn : ∀ i v m₁ nx (s₁ : Shared) I oi own, vs[i]? = some v → J i m₁ nx → (∀ p ∈ nx, p.1 ≠ I) → (I, oi) ∈ own → Fr h₀ env.locals s₁.heap (fun y => if y = x then some v else m₁ y) → News h₀ env.locals s₁.heap (own ++ nx) →
      wpAny (model prog w) A (execs body env) (LoopStepU h₀ env.locals [I] own (J (i + 1)) s₁) E s₁)
    (done : ∀ m₁ nx h tk, J vs.length m₁ nx → Fr h₀ env.locals h m₁ → News h₀ env.locals h nx → Q .next { s with heap := h, toks := tk }) :
    wpAny (model prog w) A (pyIter (.ref D)) (fun it s₂ => LoopAtU prog w A h₀ env x body Q E it s₂) E s := by
  have hls : s.heap.IsList D vs.toArray := PySem.IsL.isList (n := nn) (N _ hD).1
  have hlt : D < s.heap.objs.size := Heap.lt_size (N _ hD).1
  have hne : D ≠ s.heap.objs.size := Nat.ne_of_lt hlt
  refine wpAny_pyIter_list hls ?_
  have W := Walks.list (prog := prog) (w := w) hh s.heap.objs.size D hne vs.toArray
  have hlen : vs.toArray.size = vs.length := by simp
  rw [hlen] at W
  refine ⟨_, _, _, vs.length, _, _, m₀, news, J, rfl, W, ?_, ?_, ?_, ⟨⟨_, Heap.get?_push_size _ rfl, rfl, rfl⟩, hls.at fun o e => Heap.get?_push_of_some _ e⟩, F.push _, (fun p hp => ⟨Heap.get?_push_of_some _ (N p hp).1, (N p hp).2⟩), hj, ?_, ?_⟩
  · intro hm
    rcases List.mem_cons.mp hm with e | hm
    · exact absurd F.ns.lt (e ▸ Nat.lt_irrefl _)
    · exact (N _ hD).2.1 (List.mem_singleton.mp hm).symm
  · intro b hb
    rw [List.mem_singleton.mp hb]
    exact next_is_new F
  · intro p hp hI
    exact absurd (Heap.lt_size (N p hp).1) ((List.mem_singleton.mp hI) ▸ Nat.lt_irrefl _)
  · rintro i v m₁ news₁ s₁ own hin hP hJ hoff hown _ hmem hst F₁ N₁
    obtain ⟨⟨oi, hoi, _⟩, _⟩ := hst
    have hI : (s.heap.objs.size, oi) ∈ own := hmem _ (.head _) (next_is_new F) oi hoi
    exact turn i v m₁ news₁ s₁ _ oi own (by simpa using hP) hJ (fun p hp e => hoff p hp (List.mem_singleton.mpr e)) hI F₁ N₁
  · rintro h' tk m' news' F' N' _ hJ
    exact done m' news' h' tk hJ F' N'
/-- a loop over a range -/
theorem iter_rng {r : Addr} {a₀ b₀ c : Int} {t₀ u₀ v₀ : Tok} {n : Nat} {m₀ : PySem.Str → Option Value} {news : List (Addr × Obj)} (J : Nat → (PySem.Str → Option Value) → List (Addr × Obj) → Prop)
    (hh : A.handled = none) (hr : IsRange s.heap r a₀ b₀ c t₀ u₀ v₀) (hsmall : Builtin.Range.small a₀ b₀ c = true) (hn : Builtin.Range.rangeSize a₀ b₀ c = (n : Int)) (F : Fr h₀ env.locals s.heap m₀) (N : News h₀ env.locals s.heap news) (hj : J 0 m₀ news)
    (turn : ∀ i t m₁ nx (s₁ : Shared) I oi own, i < n → J i m₁ nx → (∀ p ∈ nx, p.1 ≠ I) → (I, oi) ∈ own → Fr h₀ env.locals s₁.heap (fun y => if y = x then some (.int (a₀ + (i : Int) * c) t) else m₁ y) → News h₀ env.locals s₁.heap (own ++ nx) →
      wpAny (model prog w) A (execs body env) (LoopStepU h₀ env.locals [I] own (J (i + 1)) s₁) E s₁)
    (done : ∀ m₁ nx h tk, J n m₁ nx → Fr h₀ env.locals h m₁ → News h₀ env.locals h nx → Q .next { s with heap := h, toks := tk }) :
    wpAny (model prog w) A (pyIter (.ref r)) (fun it s₂ => LoopAtU prog w A h₀ env x body Q E it s₂) E s := by
  refine wpAny_pyIter_range hr hsmall ?_
  have W : Walks prog w A s.heap.objs.size [s.heap.objs.size] [s.heap.objs.size] n (fun i v => i < n ∧ ∃ t, v = .int (a₀ + i * c) t)
      (fun i h => IsRangeIter h s.heap.objs.size (a₀ + (i : Nat) * c) ((n : Int) - (i : Nat)) c) := (Walks.range hh _ a₀ c n).bound
  have hnew := next_is_new F
  refine ⟨_, _, _, n, _, _, m₀, news, J, rfl, W, ?_, ?_, ?_, (by show IsRangeIter _ _ _ _ _; rw [hn]; simpa using Heap.get?_push_size _ rfl), F.push _, (fun p hp => ⟨Heap.get?_push_of_some _ (N p hp).1, (N p hp).2⟩), hj, ?_, ?_⟩
  · intro hm
    exact absurd F.ns.lt ((List.mem_singleton.mp hm) ▸ Nat.lt_irrefl _)
  · intro b hb
    rw [List.mem_singleton.mp hb]
    exact hnew
  · intro p hp hI
    exact absurd (Heap.lt_size (N p hp).1) ((List.mem_singleton.mp hI) ▸ Nat.lt_irrefl _)
  · rintro i v m₁ news₁ s₁ own hin ⟨_, t, rfl⟩ hJ hoff hown hget hall hst F₁ N₁
    have hmem := hall s.heap.objs.size (List.mem_singleton.mpr rfl) hnew _ hst
    exact turn i t m₁ news₁ s₁ _ _ own hin hJ (fun p hp e => hoff p hp (List.mem_singleton.mpr e)) hmem F₁ N₁
  · rintro h' tk m' news' F' N' _ hJ
    exact done m' news' h' tk hJ F' N'
end
section
variable {prog : Program} {w : World} {A : Around} {E : Value → Shared → Prop} {s : Shared} {h₀ : Heap} {L D P : Addr} {m : PySem.Str → Option Value} {news : List (Addr × Obj)}
theorem slice_seg {value slice : PySem.Expr} {vs zs : List Value} {n a c : Nat} {k1 k2 : Int} {u1 u2 : Tok} {Q : Value → Shared → Prop}
    (F : Fr h₀ L s.heap m) (N : News h₀ L s.heap news) (hP : (P, listOf vs.toArray n) ∈ news) (hz : (vs.drop a).take c = zs) (hk1 : k1 = (a : Int)) (hk2 : k2 = (a : Int) + c) (ha : a ≤ vs.length) (hl : vs.length ≤ 100000)
    (h : ∀ D h', Fr h₀ L h' m → News h₀ L h' ((D, listOf zs.toArray 0) :: news) → (∀ p ∈ news, p.1 < D) → Q (.ref D) { s with heap := h' })
    (hs : subscripted slice false (.ref P) (.ref s.heap.objs.size) = operate [.ref s.heap.objs.size, .ref P] (getItem (.ref P) (.ref s.heap.objs.size)) := by with_unfolding_all rfl)
    (ht : ∀ r, letTemporaryGo value (.ref P) r = pure () := by intro _; with_unfolding_all rfl) :
    wpAny (model prog w) A (subscriptTail value slice (.ref P) (.ref s.heap.objs.size)) Q E { s with heap := s.heap.push { cls := .type "slice", data := .fields #[.int k1 u1, .int k2 u2, .none] } } := by
  subst hk1 hk2
  refine kmk_slice F N (PySem.IsL.isList (n := n) (N _ hP).1) (.int _ _) (.int _ _) (fun D h' F' N' l1 => h D h' F' ?_ l1) hs ht (by rw [sizeLine_eq]; simp; omega)
  have e : sliceBounds (some (a : Int)) (some ((a : Int) + c)) none vs.toArray.size = ((a : Int), ((min (a + c) vs.length : Nat) : Int), 1) := by
    simp only [sliceBounds, Option.getD_none, List.size_toArray]
    have h1 : ¬ ((a : Int) < 0) := by omega
    have h2 : ¬ ((a : Int) + c < 0) := by omega
    simp only [h1, h2, if_false, show (1 : Int) > 0 by decide, if_true]
    congr 1
    · omega
    · congr 1
      omega
  rw [kmk_pick_nat _ e] at N'
  have e2 : ((vs.toArray.toList.drop a).take (min (a + c) vs.length - a)) = zs := by
    rw [← hz]
    show (vs.drop a).take (min (a + c) vs.length - a) = _
    rw [← kmk_take_min (vs.drop a) c, List.length_drop]
    congr 1
    omega
  rw [e2] at N'
  exact N'
theorem fm_congr {α β : Type} {f g : α → Option β} : ∀ {l : List α}, (∀ a ∈ l, f a = g a) → l.filterMap f = l.filterMap g
  | [], _ => rfl
  | x :: r, h => by rw [List.filterMap_cons, List.filterMap_cons, h x (.head _), fm_congr fun a ha => h a (.tail _ ha)]
theorem pick_rev2 (vs : List Value) (hne : 0 < vs.length) : slicePick vs.toArray (some (-2)) none (some (-1)) = vs.dropLast.reverse.toArray := by
  have hb : sliceBounds (some (-2)) none (some (-1)) vs.toArray.size = (((vs.length - 1 : Nat) : Int) - 1, -1, -1) := by
    have h1 : ¬ ((-1 : Int) > 0) := by decide
    simp only [sliceBounds, Option.getD_some, List.size_toArray, h1, if_false]
    have h2 : ((-2 : Int) < 0) := by decide
    simp only [h2, if_true]
    congr 1
    omega
  have h3 := krv_pick vs.dropLast.toArray
  unfold slicePick at h3 ⊢
  rw [krv_bounds] at h3
  rw [hb]
  have hs : vs.dropLast.toArray.size = vs.length - 1 := by simp
  rw [hs] at h3
  dsimp only at h3 ⊢
  rw [← h3, krv_sliceRange]
  congr 1
  apply fm_congr
  intro k hk
  obtain ⟨j, hj, rfl⟩ := List.mem_map.mp hk
  have hj' := List.mem_range.mp hj
  simp only [List.getElem?_toArray]
  rw [List.dropLast_eq_take, List.getElem?_take]
  rw [if_pos (by omega)]
theorem slice_rev {value slice : PySem.Expr} {vs : List Value} {n : Nat} {u1 u2 : Tok} {ops : List Value} {Q : Value → Shared → Prop}
    (F : Fr h₀ L s.heap m) (N : News h₀ L s.heap news) (hP : (P, listOf vs.toArray n) ∈ news) (hne : 0 < vs.length) (hl : vs.length ≤ 100000)
    (h : ∀ D h', Fr h₀ L h' m → News h₀ L h' ((D, listOf vs.dropLast.reverse.toArray 0) :: news) → (∀ p ∈ news, p.1 < D) → Q (.ref D) { s with heap := h' })
    (hs : subscripted slice false (.ref P) (.ref s.heap.objs.size) = operate ops (getItem (.ref P) (.ref s.heap.objs.size)) := by with_unfolding_all rfl)
    (ht : ∀ r, letTemporaryGo value (.ref P) r = pure () := by intro _; with_unfolding_all rfl) :
    wpAny (model prog w) A (subscriptTail value slice (.ref P) (.ref s.heap.objs.size)) Q E { s with heap := s.heap.push { cls := .type "slice", data := .fields #[.int (-2) u1, .none, .int (-1) u2] } } :=
  kmk_slice3_lit (zs := vs.dropLast.reverse) F N (PySem.IsL.isList (n := n) (N _ hP).1) (.int _ _) .none (.int _ _) (by decide) (by rw [pick_rev2 vs hne]) h hs ht (by rw [sizeLine_eq]; simp; omega)
theorem item_last {value slice : PySem.Expr} {vs : List Value} {v : Value} {n : Nat} {u : Tok} {Q : Value → Shared → Prop} (N : News h₀ L s.heap news) (hm : (P, listOf (vs ++ [v]).toArray n) ∈ news) (h : Q v s)
    (hs : subscripted slice false (.ref P) (.int (-1) u) = operate [.ref P, .int (-1) u] (getItem (.ref P) (.int (-1) u)) := by with_unfolding_all rfl) :
    wpAny (model prog w) A (subscriptTail value slice (.ref P) (.int (-1) u)) Q E s :=
  have hL : s.heap.IsList P (vs ++ [v]).toArray := PySem.IsL.isList (n := n) (N _ hm).1
  tail_any hL.typeIs slot_list_getitem.lookup (wpAny_getItem_list_neg hL (by decide) (by simp; omega) (by decide) (by
    have e : ((-1 : Int) + ((vs ++ [v]).toArray.size : Nat)).toNat = vs.length := by simp; omega
    rw [e]; simp) h) hs
theorem item_nth {value slice : PySem.Expr} {vs : List Value} {v : Value} {n : Nat} {k : Int} {u : Tok} {Q : Value → Shared → Prop} (N : News h₀ L s.heap news) (hm : (P, listOf vs.toArray n) ∈ news) (h0 : 0 ≤ k) (h1 : k < 2 ^ 63) (hx : vs[k.toNat]? = some v) (h : Q v s)
    (hs : subscripted slice false (.ref P) (.int k u) = operate [.ref P, .int k u] (getItem (.ref P) (.int k u)) := by with_unfolding_all rfl) :
    wpAny (model prog w) A (subscriptTail value slice (.ref P) (.int k u)) Q E s := my_sub N hm h0 h1 hx h hs
end
end Mine

namespace Mine
open PySem PySem.W PyProof.Rows PySem.Calls
set_option maxRecDepth 100000
theorem reset_D1 : True := by
  w_top off
  trivial
theorem drawP {c : Int} (k : Nat) (hk : k ≤ 40) (hc0 : 0 ≤ c) (hc1 : Builtin.Int.intBits c ≤ 500) : 0 ≤ (1000003 : Int) ^ k * c ∧ Builtin.Int.intBits ((1000003 : Int) ^ k * c) ≤ 5000 :=
  ⟨Int.mul_nonneg (Int.le_of_lt (Int.pow_pos (by decide))) hc0, Nat.le_trans (intBits_mul_le (Nat.le_trans (intBits_pow_le (m := 20) (intBits_le_iff.mpr (by decide)) k) (show 20 * k + 1 ≤ 801 by omega)) hc1) (by decide)⟩
theorem drawQ {x many : Int} (hx : 0 ≤ x) (hm : 1 ≤ many) : 0 ≤ x.fdiv many ∧ 0 ≤ x.fmod many ∧ x.fmod many < many := by
  rw [Int.fdiv_eq_ediv_of_nonneg _ (by omega), Int.fmod_eq_emod_of_nonneg _ (by omega)]
  exact ⟨Int.ediv_nonneg hx (by omega), Int.emod_nonneg _ (by omega), Int.emod_lt_of_pos _ (by omega)⟩
local macro_rules | `(tactic| k_all) => `(tactic| assumption)
local macro_rules | `(tactic| walk_at "subscriptTail Name Constant ref int") => `(tactic| (k_here; (with_reducible show wpAny _ _ (subscriptTail _ _ (Value.ref _) (Value.int _ _)) _ _ _); k_dflt (refine' my_sub ?N ?m ?a ?b ?x ?_ ?s; (case N => k_asm); (case m => k_mem); (case a => decide); (case b => decide); (case x => rfl); (case s => with_unfolding_all rfl); k_whole)))
local macro_rules | `(tactic| walk_at "binaryOp Pow int int") => `(tactic| (k_here; refine pow_int_small (by omega) (by omega) (by decide) ?_))
local macro_rules | `(tactic| walk_at "binaryOp Mult int int") => `(tactic| (k_here; refine PyProof.Rows.mul_int ?_ (IntMulOk.of_le (m := 1000000) (n := 1000000) (Nat.le_trans (intBits_pow_le (m := 20) (intBits_le_iff.mpr (by decide)) _) (by omega)) (by omega) (by decide))))
local macro_rules | `(tactic| walk_at "binaryOp FloorDiv int int") => `(tactic| (k_here; refine PyProof.Rows.floordiv_int (by omega) ?_))
local macro_rules | `(tactic| walk_at "binaryOp Mod int int") => `(tactic| (k_here; refine PyProof.Rows.mod_int' (by omega) ?_))
set_option maxHeartbeats 4000000 in
theorem draw_spec {w : World} {dp un : Nat} {gd : Option (List Code)} {cn : PySem.Str} {cs : Scope} {a : Addr} {ccd : Value} {cl : List (PySem.Str × Addr)} {outer : List Env} {A₀ : Around} {base h₀ : Heap} {L : Addr} {m : PySem.Str → Option Value}
    {p : Program} {loose : List PySem.Str} {mean : ExcName → Option Value} {mg mb : PySem.Str → Option Value} {news : List (Addr × Obj)} {nf : Obj → List (Addr × Obj)} {s : Shared} {hp : Addr} {n : Nat} {x b c many : Int} {tx tb tc tm : Tok} {Q E : Value → Shared → Prop}
    (B : Below A₀ base outer h₀) (F : Fr h₀ L s.heap m) (X : (hd.heap_39 w.params).In h₀) (N : News h₀ L s.heap news) (T : Top p loose mean mg mb h₀) (hk : cs.kind = .function) (hd : dp + 5 < recursionLimit)
    (U : UpdF hp (listOf #[.int x tx, .int b tb, .int c tc] n) news nf)
    (hx0 : 0 ≤ x) (hx1 : Builtin.Int.intBits x ≤ 5000) (hb0 : 0 ≤ b) (hb1 : b ≤ 30) (hc0 : 0 ≤ c) (hc1 : Builtin.Int.intBits c ≤ 500) (hm0 : 1 ≤ many) (hm1 : many ≤ 100000)
    (ret : ∀ x' b' d tx' tb' tc' n' td h' tk', Fr h₀ L h' m → News h₀ L h' (nf (listOf #[.int x' tx', .int b' tb', .int c tc'] n')) → 0 ≤ x' → Builtin.Int.intBits x' ≤ 5000 → 0 ≤ b' → b' ≤ b + 1 → 0 ≤ d → d < many → Q (.int d td) { s with heap := h', toks := tk' }) :
    wpAny (model PG w) (ktrTop dp un gd cn cs L a ccd cl outer) (call (.ref 42) [.ref hp, .int many tm]) Q E s := by
  obtain ⟨pre, post, rfl, hnf, U1, U2⟩ := U.split
  clear U
  have N1 : News h₀ L s.heap ((hp, (listOf #[.int x tx, .int b tb, .int c tc] n)) :: (pre ++ post)) := by
    intro q hq
    refine N q ?_
    simp only [List.mem_cons, List.mem_append] at hq ⊢
    rcases hq with rfl | h | h <;> simp [*]
  have U3 : ∀ q ∈ pre ++ post, q.1 ≠ hp := by
    intro q hq
    rcases List.mem_append.mp hq with h | h
    · exact U1 q h
    · exact U2 q h
  have ret' : ∀ x' b' d tx' tb' tc' n' td h' tk', Fr h₀ L h' m → News h₀ L h' ((hp, (listOf #[.int x' tx', .int b' tb', .int c tc'] n')) :: (pre ++ post)) → 0 ≤ x' → Builtin.Int.intBits x' ≤ 5000 → 0 ≤ b' → b' ≤ b + 1 → 0 ≤ d → d < many → Q (.int d td) { s with heap := h', toks := tk' } := by
    intro x' b' d tx' tb' tc' n' td h' tk' F' N' 
    refine ret x' b' d tx' tb' tc' n' td h' tk' F' ?_
    rw [hnf]
    intro q hq
    refine N' q ?_
    simp only [List.mem_cons, List.mem_append] at hq ⊢
    rcases hq with h | rfl | h <;> simp [*]
  clear N ret
  generalize pre ++ post = rest at N1 U3 ret'
  refine wpAny_call ?_
  k_dflt ktr_enter
  k_steps
  · have hX := drawP ((5 + (b + 1)).toNat) (by omega) hc0 hc1
    exact ret' _ _ _ _ _ _ _ _ _ _ (by assumption) (by assumption) (drawQ (many := many) hX.1 hm0).1 (intBits_fdiv_le hX.2) (by omega) (by omega) (drawQ hX.1 hm0).2.1 (drawQ hX.1 hm0).2.2
  · exact ret' _ _ _ _ _ _ _ _ _ _ (by assumption) (by assumption) (drawQ (many := many) hx0 hm0).1 (intBits_fdiv_le hx1) (by omega) (by omega) (drawQ hx0 hm0).2.1 (drawQ hx0 hm0).2.2
end Mine

namespace Mine
open PySem PySem.W PyProof.Rows PySem.Calls
set_option maxRecDepth 100000
theorem reset_E1 : True := by
  w_top off
  trivial
local macro_rules | `(tactic| k_steps) => `(tactic| repeat' (first | (k_unfold; (try dsimp only)) | walk1 | (dsimp only; first | walk1 | (k_unfold; (try dsimp only))) | fail "no step"))
local macro_rules | `(tactic| k_all) => `(tactic| assumption)
local macro_rules | `(tactic| walk_at "exec While Compare cons nil") => `(tactic| (k_here; refine Stop.go ?_))
local macro_rules | `(tactic| walk_at "compareOp NotEq ref ref") => `(tactic| (k_here; k_dflt (first
  | (refine' ne_nil_no ?N ?a ?b ?u ?_; (case N => k_asm); (case a => k_mem); (case b => k_mem); (case u => ktr_units); k_whole)
  | (refine' ne_nil_yes ?N ?a ?b ?u ?_; (case N => k_asm); (case a => k_mem); (case b => k_mem); (case u => ktr_units); k_whole))))
local macro_rules | `(tactic| walk_at "call builtin:list.pop") => `(tactic| (k_here; k_dflt (refine' pop_last ?F ?N ?U ?z ?_; (case F => k_asm); (case N => k_asm); (case U => k_updF); (case z => (rw [sizeLine_eq]; omega)); k_whole); intro h' F' N'; (try dsimp only at N')))
local macro_rules | `(tactic| walk_at "call builtin:list.extend") => `(tactic| (k_here; k_dflt (refine' ext_tup ?F ?N ?b ?U ?z ?_; (case F => k_asm); (case N => k_asm); (case b => k_mem); (case U => k_updF); (case z => omega); k_whole); intro h' F' N'; (try dsimp only at N')))
local macro_rules | `(tactic| walk_at "subscriptTail Name Constant ref int") => `(tactic| (k_here; k_dflt (first
  | ((with_reducible show wpAny _ _ (subscriptTail _ _ (Value.ref _) (Value.int 0 _)) _ _ _); refine' my_tup0 ?N ?m ?_ ?s; (case N => k_asm); (case m => first | assumption | exact List.Mem.tail _ (List.Mem.tail _ (by assumption))); (case s => with_unfolding_all rfl); k_whole)
  | ((with_reducible show wpAny _ _ (subscriptTail _ _ (Value.ref _) (Value.int 1 _)) _ _ _); refine' my_tup1 ?N ?m ?_ ?s; (case N => k_asm); (case m => first | assumption | exact List.Mem.tail _ (List.Mem.tail _ (by assumption))); (case s => with_unfolding_all rfl); k_whole)
  | ((with_reducible show wpAny _ _ (subscriptTail _ _ (Value.ref _) (Value.int 2 _)) _ _ _); refine' my_tup2 ?N ?m ?_ ?s; (case N => k_asm); (case m => first | assumption | exact List.Mem.tail _ (List.Mem.tail _ (by assumption))); (case s => with_unfolding_all rfl); k_whole)); (try dsimp only)))
local macro_rules | `(tactic| walk_at "subscriptTail Subscript Constant ref int") => `(tactic| (k_here; k_dflt ((with_reducible show wpAny _ _ (subscriptTail _ _ (Value.ref _) (Value.int 0 _)) _ _ _); refine' my_tup0 ?N ?m ?_ ?s; (case N => k_asm); (case m => first | assumption | exact List.Mem.tail _ (List.Mem.tail _ (by assumption))); (case s => with_unfolding_all rfl); k_whole); (try dsimp only)))
local macro_rules | `(tactic| walk_at "subscriptTail Name Slice ref ref") => `(tactic| (k_here; k_dflt (refine' slice_and ?F ?N ?m ?_ ?s ?g; (case F => k_asm); (case N => k_asm); (case m => exact List.Mem.tail _ (List.Mem.tail _ (by assumption))); (case s => with_unfolding_all rfl); (case g => intro _; with_unfolding_all rfl); k_whole); intro D' h' F' N' l1; (try k_lt l1)))
theorem key_end {g' : Heap} {L' : Addr} {s₀ : Shared} {h' : Heap} {tk : Nat} {D : Addr} {m' : PySem.Str → Option Value} {news : List (Addr × Obj)} {us : List Value} {ks : List Cond} {nn n : Nat} {b : Bool} {Q : Flow → Shared → Prop}
    (F : Fr g' L' h' m') (N : News g' L' h' ((D, listOf us.toArray nn) :: news)) (hm : m' (PySem.Str.ofString "line") = some (.ref D)) (hc : CondsIn news us ks) (hb : ks.all Cond.good = b) (hl : sizes ks < n) (hn : sizes ks ≤ 10000) :
    WhileStep2 g' L' s₀ (fun n m₁ nx => ∃ us ks nn, nx = (D, listOf us.toArray nn) :: news ∧ m₁ (PySem.Str.ofString "line") = some (.ref D) ∧ CondsIn news us ks ∧ ks.all Cond.good = b ∧ n = sizes ks ∧ n ≤ 10000) Q n .next { s₀ with heap := h', toks := tk } :=
  ⟨h', tk, m', _, sizes ks, rfl, F, N, hl, us, ks, nn, rfl, hm, hc, hb, rfl, hn⟩
set_option maxHeartbeats 4000000 in
theorem key_spec {w : World} {dp un : Nat} {gd : Option (List Code)} {cn : PySem.Str} {cs : Scope} {a : Addr} {ccd : Value} {cl : List (PySem.Str × Addr)} {outer : List Env} {A₀ : Around} {base h₀ : Heap} {L : Addr} {m : PySem.Str → Option Value}
    {p : Program} {loose : List PySem.Str} {mean : ExcName → Option Value} {mg mb : PySem.Str → Option Value} {news : List (Addr × Obj)} {s : Shared} {v : Value} {c : Cond} {Q E : Value → Shared → Prop}
    (B : Below A₀ base outer h₀) (F : Fr h₀ L s.heap m) (X : (hd.heap_39 w.params).In h₀) (N : News h₀ L s.heap news) (T : Top p loose mean mg mb h₀) (hk : cs.kind = .function) (hd : dp + 5 < recursionLimit) (hu : un + 50 < cLine)
    (hc : CondIn news v c) (hz : c.size ≤ 10000)
    (ret : ∀ h' tk', Fr h₀ L h' m → News h₀ L h' news → Q (.bool c.good) { s with heap := h', toks := tk' }) :
    wpAny (model PG w) (ktrTop dp un gd cn cs L a ccd cl outer) (call (.ref 21) [v]) Q E s := by
  refine wpAny_call ?_
  k_dflt ktr_enter
  k_steps
  unfold Stop
  rename_i g' L' h0' FG' B' X' T' tk0 D h1' l1' h2' F1 N1
  refine While_inv2 (fun n m₁ nx => ∃ us ks nn, nx = (D, listOf us.toArray nn) :: news ∧ m₁ (PySem.Str.ofString "line") = some (.ref D) ∧ CondsIn news us ks ∧ ks.all Cond.good = c.good ∧ n = sizes ks ∧ n ≤ 10000) (n₀ := c.size) F1 N1 ?_ ?_
  · exact ⟨[v], [c], 0, rfl, rfl, .cons hc .nil, by simp, by simp [sizes_one], hz⟩
  rintro n m₁ nx h₁ tk₁ F₁ N₁ ⟨us, ks, nn, rfl, hm, hcs, hgood, rfl, hlen⟩
  have hlen2 := hcs.length
  have hlen3 := length_le_sizes ks
  have hne : ∀ p ∈ news, p.1 ≠ D := fun p hp => Nat.ne_of_lt (l1' p hp)
  replace F₁ := Fr_bind F₁ hm
  clear F1 N1
  rcases hcs.last with ⟨rfl, rfl⟩ | ⟨us, y, ks, k, rfl, rfl, hy, hcs'⟩
  · k_steps
    have hg : c.good = true := by rw [← hgood]; rfl
    rw [hg] at ret
    exact ret _ _ (by assumption) (news_drop2 (by assumption))
  · have hul : us.length ≤ 10000 := by
      simp only [List.length_append, List.length_singleton] at hlen2 hlen3
      omega
    have hsz0 : sizes (ks ++ [k]) = sizes ks + k.size := by rw [sizes_append, sizes_one]
    have hg0 : (ks ++ [k]).all Cond.good = (ks.all Cond.good && k.good) := by simp
    cases hy with
    | leaf hl =>
      rename_i g
      have hs1 : sizes ks < sizes (ks ++ [Cond.leaf y g]) := by rw [hsz0]; exact Nat.lt_succ_self _
      have hs2 : sizes ks ≤ 10000 := by omega
      cases g with
      | true =>
        have hg1 : ks.all Cond.good = c.good := by rw [← hgood, hg0]; simp [Cond.good]
        cases hl
        all_goals k_steps
        all_goals exact key_end (by assumption) (news_drop1 (by assumption)) rfl hcs' hg1 hs1 hs2
      | false =>
        have hg1 : c.good = false := by rw [← hgood, hg0]; simp [Cond.good]
        rw [hg1] at ret
        cases hl
        all_goals k_steps
        all_goals dsimp only [WhileStep2]
        all_goals k_steps
        all_goals exact ret _ _ (by assumption) (news_drop2 (by assumption))
    | and hm hx hy =>
      rename_i l r
      have hs1 : sizes (ks ++ [l, r]) < sizes (ks ++ [l.and r]) := by rw [hsz0, sizes_append, sizes_two]; simp only [Cond.size]; omega
      have hs2 : sizes (ks ++ [l, r]) ≤ 10000 := by omega
      have hg1 : (ks ++ [l, r]).all Cond.good = c.good := by rw [← hgood, hg0]; simp [Cond.good]
      k_steps
      all_goals exact key_end (by assumption) (news_drop2 (by assumption)) rfl (hcs'.append (.cons hx (.cons hy .nil))) hg1 hs1 hs2
end Mine

namespace Mine
open PySem PySem.W PyProof.Rows PySem.Calls
set_option maxRecDepth 100000
theorem reset_E2 : True := by
  w_top off
  trivial
local macro_rules | `(tactic| k_steps) => `(tactic| repeat' (first | (k_unfold; (try dsimp only)) | walk1 | (dsimp only; first | walk1 | (k_unfold; (try dsimp only))) | fail "no step"))
local macro_rules | `(tactic| k_all) => `(tactic| assumption)
local macro_rules | `(tactic| walk_at "exec While Compare cons nil") => `(tactic| (k_here; refine Stop.go ?_))
local macro_rules | `(tactic| walk_at "compareOp NotEq ref ref") => `(tactic| (k_here; k_dflt (first
  | (refine' ne_nil_no ?N ?a ?b ?u ?_; (case N => k_asm); (case a => k_mem); (case b => k_mem); (case u => ktr_units); k_whole)
  | (refine' ne_nil_yes ?N ?a ?b ?u ?_; (case N => k_asm); (case a => k_mem); (case b => k_mem); (case u => ktr_units); k_whole))))
local macro_rules | `(tactic| walk_at "call builtin:list.pop") => `(tactic| (k_here; k_dflt (refine' pop_last ?F ?N ?U ?z ?_; (case F => k_asm); (case N => k_asm); (case U => k_updF); (case z => (rw [sizeLine_eq]; omega)); k_whole); intro h' F' N'; (try dsimp only at N')))
local macro_rules | `(tactic| walk_at "call builtin:list.extend") => `(tactic| (k_here; k_dflt (refine' ext_lst ?F ?N ?b ?U ?z ?_; (case F => k_asm); (case N => k_asm); (case b => k_mem); (case U => k_updF); (case z => omega); k_whole); intro h' F' N'; (try dsimp only at N')))
local macro_rules | `(tactic| walk_at "subscriptTail Name Constant ref int") => `(tactic| (k_here; k_dflt (first
  | ((with_reducible show wpAny _ _ (subscriptTail _ _ (Value.ref _) (Value.int 0 _)) _ _ _); refine' my_tup0 ?N ?m ?_ ?s; (case N => k_asm); (case m => first | assumption | exact List.Mem.tail _ (List.Mem.tail _ (List.Mem.tail _ (by assumption)))); (case s => with_unfolding_all rfl); k_whole)
  | ((with_reducible show wpAny _ _ (subscriptTail _ _ (Value.ref _) (Value.int 1 _)) _ _ _); refine' my_tup1 ?N ?m ?_ ?s; (case N => k_asm); (case m => first | assumption | exact List.Mem.tail _ (List.Mem.tail _ (List.Mem.tail _ (by assumption)))); (case s => with_unfolding_all rfl); k_whole)
  | ((with_reducible show wpAny _ _ (subscriptTail _ _ (Value.ref _) (Value.int 2 _)) _ _ _); refine' my_tup2 ?N ?m ?_ ?s; (case N => k_asm); (case m => first | assumption | exact List.Mem.tail _ (List.Mem.tail _ (List.Mem.tail _ (by assumption)))); (case s => with_unfolding_all rfl); k_whole)); (try dsimp only)))
local macro_rules | `(tactic| walk_at "subscriptTail Subscript Constant ref int") => `(tactic| (k_here; k_dflt ((with_reducible show wpAny _ _ (subscriptTail _ _ (Value.ref _) (Value.int 0 _)) _ _ _); refine' my_tup0 ?N ?m ?_ ?s; (case N => k_asm); (case m => first | assumption | exact List.Mem.tail _ (List.Mem.tail _ (List.Mem.tail _ (by assumption)))); (case s => with_unfolding_all rfl); k_whole); (try dsimp only)))
local macro_rules | `(tactic| walk_at "call builtin:list.append") => `(tactic| (k_here; k_dflt (refine' app_one ?F ?N ?U ?z ?_; (case F => k_asm); (case N => k_asm); (case U => k_updF); (case z => omega); k_whole); intro h' F' N'; (try dsimp only at N')))
local macro_rules | `(tactic| walk_at "subscriptTail Name Slice ref ref") => `(tactic| (k_here; k_dflt (refine' slice_and ?F ?N ?m ?_ ?s ?g; (case F => k_asm); (case N => k_asm); (case m => exact List.Mem.tail _ (List.Mem.tail _ (List.Mem.tail _ (by assumption)))); (case s => with_unfolding_all rfl); (case g => intro _; with_unfolding_all rfl); k_whole); intro D' h' F' N' l1; (try k_lt l1)))
theorem parts_end {g' : Heap} {L' : Addr} {s₀ : Shared} {h' : Heap} {tk : Nat} {D G : Addr} {m' : PySem.Str → Option Value} {news : List (Addr × Obj)} {us fs : List Value} {ks : List Cond} {nn n2 n : Nat} {b : List Value} {Q : Flow → Shared → Prop}
    (F : Fr g' L' h' m') (N : News g' L' h' ((D, listOf us.toArray nn) :: (G, listOf fs.toArray n2) :: news)) (hm : m' (PySem.Str.ofString "line") = some (.ref D)) (hm2 : m' (PySem.Str.ofString "found") = some (.ref G)) (hc : CondsIn news us ks)
    (hb : fs ++ ks.reverse.flatMap Cond.leaves = b) (hl : sizes ks < n) (hn : fs.length + sizes ks ≤ 10000) :
    WhileStep2 g' L' s₀ (fun n m₁ nx => ∃ us ks fs nn n2, nx = (D, listOf us.toArray nn) :: (G, listOf fs.toArray n2) :: news ∧ (m₁ (PySem.Str.ofString "line") = some (.ref D) ∧ m₁ (PySem.Str.ofString "found") = some (.ref G)) ∧ CondsIn news us ks ∧ fs ++ ks.reverse.flatMap Cond.leaves = b ∧ n = sizes ks ∧ fs.length + n ≤ 10000) Q n .next { s₀ with heap := h', toks := tk } :=
  ⟨h', tk, m', _, sizes ks, rfl, F, N, hl, us, ks, fs, nn, n2, rfl, ⟨hm, hm2⟩, hc, hb, rfl, hn⟩
set_option maxHeartbeats 4000000 in
theorem parts_spec {w : World} {dp un : Nat} {gd : Option (List Code)} {cn : PySem.Str} {cs : Scope} {a : Addr} {ccd : Value} {cl : List (PySem.Str × Addr)} {outer : List Env} {A₀ : Around} {base h₀ : Heap} {L : Addr} {m : PySem.Str → Option Value}
    {p : Program} {loose : List PySem.Str} {mean : ExcName → Option Value} {mg mb : PySem.Str → Option Value} {news : List (Addr × Obj)} {s : Shared} {v : Value} {c : Cond} {Q E : Value → Shared → Prop}
    (B : Below A₀ base outer h₀) (F : Fr h₀ L s.heap m) (X : (hd.heap_39 w.params).In h₀) (N : News h₀ L s.heap news) (T : Top p loose mean mg mb h₀) (hk : cs.kind = .function) (hd : dp + 5 < recursionLimit) (hu : un + 50 < cLine)
    (hc : CondIn news v c) (hz : c.size ≤ 10000)
    (ret : ∀ D n h' tk', Fr h₀ L h' m → News h₀ L h' ((D, listOf c.leaves.toArray n) :: news) → (∀ p ∈ news, p.1 < D) → Q (.ref D) { s with heap := h', toks := tk' }) :
    wpAny (model PG w) (ktrTop dp un gd cn cs L a ccd cl outer) (call (.ref 28) [v]) Q E s := by
  refine wpAny_call ?_
  k_dflt ktr_enter
  k_steps
  unfold Stop
  rename_i g' L' h0' FG' B' X' T' tk0 G hb' l1' D hc' l2' Tt hd' l3' he' hf' h2' F1 N1
  replace N1 := news_drop1 N1
  refine While_inv2 (fun n m₁ nx => ∃ us ks fs nn n2, nx = (D, listOf us.toArray nn) :: (G, listOf fs.toArray n2) :: news ∧ (m₁ (PySem.Str.ofString "line") = some (.ref D) ∧ m₁ (PySem.Str.ofString "found") = some (.ref G)) ∧ CondsIn news us ks ∧ fs ++ ks.reverse.flatMap Cond.leaves = c.leaves ∧ n = sizes ks ∧ fs.length + n ≤ 10000) (n₀ := c.size) F1 N1 ?_ ?_
  · exact ⟨[v], [c], [], 0, 0, rfl, ⟨rfl, rfl⟩, .cons hc .nil, by simp, by simp [sizes_one], by simpa using hz⟩
  rintro n m₁ nx h₁ tk₁ F₁ N₁ ⟨us, ks, fs, nn, n2, rfl, ⟨hm1, hm2⟩, hcs, hgood, rfl, hlen⟩
  have hlen2 := hcs.length
  have hlen3 := length_le_sizes ks
  have hneG : ∀ p ∈ news, p.1 ≠ G := fun p hp => Nat.ne_of_lt (l1' p hp)
  have hneD : ∀ p ∈ news, p.1 ≠ D := fun p hp => Nat.ne_of_lt (tb_ltOf l2'.2 p hp)
  have hGD := l2'.1
  replace F₁ := Fr_bind (Fr_bind F₁ hm2) (x := PySem.Str.ofString "line") (v := .ref D) (by rw [if_neg (by decide)]; exact hm1)
  clear F1 N1
  rcases hcs.last with ⟨rfl, rfl⟩ | ⟨us, y, ks, k, rfl, rfl, hy, hcs'⟩
  · k_steps
    have hg : c.leaves = fs := by rw [← hgood]; simp
    rw [hg] at ret
    exact ret _ _ _ _ (by assumption) (news_drop2 (by assumption)) l1'
  · have hul : us.length ≤ 10000 := by
      simp only [List.length_append, List.length_singleton] at hlen2 hlen3
      omega
    have hfl : fs.length ≤ 10000 := by omega
    have hsz0 : sizes (ks ++ [k]) = sizes ks + k.size := by rw [sizes_append, sizes_one]
    have hg0 : (ks ++ [k]).reverse.flatMap Cond.leaves = k.leaves ++ ks.reverse.flatMap Cond.leaves := by simp
    cases hy with
    | leaf hl =>
      rename_i g
      have hs1 : sizes ks < sizes (ks ++ [Cond.leaf y g]) := by rw [hsz0]; exact Nat.lt_succ_self _
      have hs2 : (fs ++ [y]).length + sizes ks ≤ 10000 := by
        rw [hsz0] at hlen
        simp only [Cond.size, List.length_append, List.length_singleton] at hlen ⊢
        omega
      have hg1 : (fs ++ [y]) ++ ks.reverse.flatMap Cond.leaves = c.leaves := by rw [← hgood, hg0]; simp [Cond.leaves]
      cases hl
      all_goals k_steps
      all_goals exact parts_end (by assumption) (news_drop1 (by assumption)) rfl rfl hcs' hg1 hs1 hs2
    | and hm hx hy =>
      rename_i l r
      have hs1 : sizes (ks ++ [r, l]) < sizes (ks ++ [l.and r]) := by rw [hsz0, sizes_append, sizes_two]; simp only [Cond.size]; omega
      have hs2 : fs.length + sizes (ks ++ [r, l]) ≤ 10000 := by omega
      have hg1 : fs ++ (ks ++ [r, l]).reverse.flatMap Cond.leaves = c.leaves := by rw [← hgood, hg0]; simp [Cond.leaves]
      k_steps
      all_goals exact parts_end (by assumption) (news_drop2 (by assumption)) rfl rfl (hcs'.append (.cons hy (.cons hx .nil))) hg1 hs1 hs2
end Mine

namespace Mine
open PySem PySem.W PyProof.Rows PySem.Calls
set_option maxRecDepth 100000
/-- what _law_joined holds between two turns -/
def Joined (P : Addr) (way : Int) (tw : Tok) (news : List (Addr × Obj)) (lv : List Value) (gv : List Bool) (sz : Nat) (m : PySem.Str → Option Value) (nx : List (Addr × Obj)) : Prop :=
  ∃ tl c v, nx = tl ++ news ∧ (m (PySem.Str.ofString "cond") = some v ∧ m (PySem.Str.ofString "parts") = some (.ref P) ∧ m (PySem.Str.ofString "way") = some (.int way tw)) ∧ (∀ p ∈ news, ∀ q ∈ tl, p.1 < q.1) ∧ CondIn nx v c ∧ c.leaves = lv ∧ c.good = gv.all id ∧ c.size ≤ sz
theorem joined_end {g' : Heap} {L' : Addr} {s₁ : Shared} {h' : Heap} {tk : Nat} {I P : Addr} {oi : Obj} {m' : PySem.Str → Option Value} {own tl add news nl : List (Addr × Obj)} {way : Int} {tw : Tok} {v : Value} {c : Cond} {lv : List Value} {gv : List Bool} {sz : Nat}
    (F : Fr g' L' h' m') (N : News g' L' h' nl) (hs1 : ∀ p ∈ own, p ∈ nl) (hs2 : ∀ p ∈ add, p ∈ nl) (hs3 : ∀ p ∈ tl ++ news, p ∈ nl) (hlt : ∀ p ∈ add, ∀ q ∈ own ++ (tl ++ news), q.1 < p.1) (hI : (I, oi) ∈ own) (hnI : ∀ p ∈ tl ++ news, p.1 ≠ I)
    (hord : ∀ p ∈ news, ∀ q ∈ tl, p.1 < q.1) (hm1 : m' (PySem.Str.ofString "cond") = some v) (hm2 : m' (PySem.Str.ofString "parts") = some (.ref P)) (hm3 : m' (PySem.Str.ofString "way") = some (.int way tw)) (hc : CondIn (add ++ (tl ++ news)) v c) (hl : c.leaves = lv) (hg : c.good = gv.all id) (hz : c.size ≤ sz) :
    LoopStepU g' L' [I] own (Joined P way tw news lv gv sz) s₁ .next { s₁ with heap := h', toks := tk } := by
  refine LoopStepU.intro (news₂ := (add ++ tl) ++ news) F (fun p hp => N p ?_) (fun p hp hq => ?_) ⟨add ++ tl, c, v, rfl, ⟨hm1, hm2, hm3⟩, ?_, by rw [List.append_assoc]; exact hc, hl, hg, hz⟩
  · rcases List.mem_append.mp hp with h | h
    · exact hs1 p h
    · rw [List.append_assoc] at h
      rcases List.mem_append.mp h with h | h
      · exact hs2 p h
      · exact hs3 p h
  · rw [List.append_assoc] at hp
    have e := List.mem_singleton.mp hq
    rcases List.mem_append.mp hp with h | h
    · exact absurd (hlt p h _ (List.mem_append_left _ hI)) (by rw [e]; exact Nat.lt_irrefl _)
    · exact hnI p h e
  · intro q hq r hr
    rcases List.mem_append.mp hr with h | h
    · exact hlt r h q (List.mem_append_right _ (List.mem_append_right _ hq))
    · exact hord q hq r h
theorem take_next {α : Type} {l : List α} {k : Nat} {x : α} (h : l[k]? = some x) : l.take (k + 1) = l.take k ++ [x] := by rw [List.take_add_one, h]; rfl
theorem drop_prev {α : Type} {l : List α} {k : Nat} {x : α} (h : l[k]? = some x) : l.drop k = x :: l.drop (k + 1) := by
  have hk : k < l.length := by
    rcases Nat.lt_or_ge k l.length with h9 | h9
    · exact h9
    · rw [List.getElem?_eq_none h9] at h; cases h
  rw [List.drop_eq_getElem_cons hk]
  rw [List.getElem?_eq_getElem hk] at h
  rw [Option.some.inj h]
theorem all_snoc {l : List Bool} {g : Bool} : (l ++ [g]).all id = (l.all id && g) := by simp
theorem rng_one (n : Nat) : Builtin.Range.rangeSize 1 ((n + 1 : Nat) : Int) 1 = (n : Int) := by
  unfold Builtin.Range.rangeSize
  simp
  omega
theorem rng_two (n : Nat) : Builtin.Range.rangeSize 1 ((n + 1 : Nat) : Int) 2 = (((n + 1) / 2 : Nat) : Int) := by
  unfold Builtin.Range.rangeSize
  simp
  split <;> omega
theorem fits_long {k : Int} (h0 : 0 ≤ k) (h1 : k ≤ 1000000) : Builtin.Range.rangeFitsLong k = true := by
  unfold Builtin.Range.rangeFitsLong
  simp
  omega
theorem rng_small (n : Nat) (hn : n ≤ 100000) (c : Int) (hc : c = 1 ∨ c = 2) : Builtin.Range.small 1 ((n + 1 : Nat) : Int) c = true := by
  rcases hc with rfl | rfl
  · unfold Builtin.Range.small
    rw [rng_one]
    simp
    refine ⟨⟨⟨⟨fits_long ?_ ?_, fits_long ?_ ?_⟩, fits_long ?_ ?_⟩, fits_long ?_ ?_⟩, .inr (fits_long ?_ ?_)⟩ <;> omega
  · unfold Builtin.Range.small
    rw [rng_two]
    simp
    refine ⟨⟨⟨⟨fits_long ?_ ?_, fits_long ?_ ?_⟩, fits_long ?_ ?_⟩, fits_long ?_ ?_⟩, .inr (fits_long ?_ ?_)⟩ <;> omega
section
variable {prog : Program} {w : World} {A : Around} {E : Value → Shared → Prop} {s : Shared} {h₀ : Heap} {L P : Addr} {news : List (Addr × Obj)} {vs : List Value} {n : Nat} {Q : Value → Shared → Prop}
theorem len_made (N : News h₀ L s.heap news) (hm : (P, listOf vs.toArray n) ∈ news) (hl : vs.length ≤ 100000) (h : ∀ t, Q (.int (vs.length : Int) t) { s with toks := s.toks + 1 + 1 }) :
    wpAny (model prog w) A (call (.builtin "len") [.ref P]) Q E s :=
  PyProof.Rows.len_list (PySem.IsL.isList (n := n) (N _ hm).1) (by simp; omega) (by simpa using h _)
theorem len_1 {x : Value} (N : News h₀ L s.heap news) (hm : (P, listOf [x].toArray n) ∈ news) (h : ∀ t, Q (.int 1 t) { s with toks := s.toks + 1 + 1 }) :
    wpAny (model prog w) A (call (.builtin "len") [.ref P]) Q E s := len_made N hm (by simp) h
theorem len_2 {x y : Value} (N : News h₀ L s.heap news) (hm : (P, listOf [x, y].toArray n) ∈ news) (h : ∀ t, Q (.int 2 t) { s with toks := s.toks + 1 + 1 }) :
    wpAny (model prog w) A (call (.builtin "len") [.ref P]) Q E s := len_made N hm (by simp) h
end
end Mine

namespace Mine
open PySem PySem.W PyProof.Rows PySem.Calls
set_option maxRecDepth 100000
theorem reset_J1 : True := by
  w_top off
  trivial
local macro_rules | `(tactic| k_steps) => `(tactic| repeat' (first | (k_unfold; (try dsimp only)) | walk1 | (dsimp only; first | walk1 | (k_unfold; (try dsimp only))) | fail "no step"))
local macro_rules | `(tactic| k_all) => `(tactic| assumption)
local macro_rules | `(tactic| walk_at "exec For Name Call cons nil") => `(tactic| (k_here; (rename Fr _ _ _ _ => lF'); (with_unfolding_all refine' For_invUF lF' ?k1 ?k2 ?_; (case k1 => exact rfl); (case k2 => exact rfl); k_whole)))
local macro_rules | `(tactic| walk_at "exec For Name Subscript cons nil") => `(tactic| (k_here; (rename Fr _ _ _ _ => lF'); (with_unfolding_all refine' For_invUF lF' ?k1 ?k2 ?_; (case k1 => exact rfl); (case k2 => exact rfl); k_whole)))
local macro_rules | `(tactic| walk_at "pyIter ref") => `(tactic| (k_here; refine Stop.go ?_))
local macro_rules | `(tactic| walk_at "subscriptTail Name Constant ref int") => `(tactic| (k_here; k_dflt (first
  | ((with_reducible show wpAny _ _ (subscriptTail _ _ (Value.ref _) (Value.int 0 _)) _ _ _); refine' my_sub0 ?N ?m ?_ ?s; (case N => k_asm); (case m => first | exact List.Mem.head _ | assumption); (case s => with_unfolding_all rfl); k_whole)
  | ((with_reducible show wpAny _ _ (subscriptTail _ _ (Value.ref _) (Value.int 1 _)) _ _ _); refine' my_sub1 ?N ?m ?_ ?s; (case N => k_asm); (case m => first | exact List.Mem.head _ | assumption); (case s => with_unfolding_all rfl); k_whole)); (try dsimp only)))
local macro_rules | `(tactic| walk_at "subscriptTail Name UnaryOp ref int") => `(tactic| (k_here; k_dflt (refine' item_last ?N ?m ?_ ?s; (case N => k_asm); (case m => assumption); (case s => with_unfolding_all rfl); k_whole); (try dsimp only)))
local macro_rules | `(tactic| walk_at "subscriptTail Name Slice ref ref") => `(tactic| (k_here; k_dflt (first
  | ((with_reducible show wpAny _ _ (subscriptTail _ (PySem.Expr.Slice _ _ none _) (Value.ref _) (Value.ref _)) _ _ _); refine' slice_seg ?F ?N ?P ?z ?k1 ?k2 ?a ?l ?_ ?s ?t; (case F => k_asm); (case N => k_asm); (case P => assumption); (case z => assumption); (case k1 => first | assumption | omega | (simp; done) | (simp; omega)); (case k2 => first | assumption | omega | (simp; done) | (simp; omega)); (case a => assumption); (case l => assumption); (case s => with_unfolding_all rfl); (case t => intro _; with_unfolding_all rfl); k_whole)
  | ((with_reducible show wpAny _ _ (subscriptTail _ (PySem.Expr.Slice _ _ (some _) _) (Value.ref _) (Value.ref _)) _ _ _); refine' slice_rev ?F ?N ?P ?z ?l ?_ ?s ?t; (case F => k_asm); (case N => k_asm); (case P => assumption); (case z => assumption); (case l => assumption); (case s => with_unfolding_all rfl); (case t => intro _; with_unfolding_all rfl); k_whole)); intro D' h' F' N' l1; (try k_lt l1)))
local macro_rules | `(tactic| walk_at "call builtin:len") => `(tactic| (k_here; k_dflt (first
  | (refine' len_1 ?N ?m ?_; (case N => k_asm); (case m => exact List.Mem.head _); k_whole)
  | (refine' len_2 ?N ?m ?_; (case N => k_asm); (case m => exact List.Mem.head _); k_whole)
  | (refine' len_made ?N ?m ?l ?_; (case N => k_asm); (case m => assumption); (case l => assumption); k_whole)); intro _))
theorem map_snoc {us : List Value} {v : Value} : (us ++ [v]).dropLast.reverse = us.reverse := by simp
set_option maxHeartbeats 4000000 in
theorem joined_spec {w : World} {dp un : Nat} {gd : Option (List Code)} {cn : PySem.Str} {cs : Scope} {a : Addr} {ccd : Value} {cl : List (PySem.Str × Addr)} {outer : List Env} {A₀ : Around} {base h₀ : Heap} {L : Addr} {m : PySem.Str → Option Value}
    {p : Program} {loose : List PySem.Str} {mean : ExcName → Option Value} {mg mb : PySem.Str → Option Value} {news : List (Addr × Obj)} {s : Shared} {P : Addr} {n : Nat} {vs : List Value} {gs : List Bool} {way : Int} {tw : Tok} {Q E : Value → Shared → Prop}
    (B : Below A₀ base outer h₀) (F : Fr h₀ L s.heap m) (X : (hd.heap_39 w.params).In h₀) (N : News h₀ L s.heap news) (T : Top p loose mean mg mb h₀) (hk : cs.kind = .function) (hd : dp + 5 < recursionLimit) (hu : un + 50 < cLine)
    (hP : (P, listOf vs.toArray n) ∈ news) (hgl : gs.length = vs.length) (hps : ∀ (i : Nat) (v : Value) (g : Bool), vs[i]? = some v → gs[i]? = some g → LeafIn news v g) (hl0 : 0 < vs.length) (hl1 : vs.length ≤ 4000) (hw0 : 0 ≤ way) (hw1 : way < 3)
    (ret : ∀ v c tl h' tk', Fr h₀ L h' m → News h₀ L h' (tl ++ news) → (∀ p ∈ news, ∀ q ∈ tl, p.1 < q.1) → CondIn (tl ++ news) v c → c.leaves = vs → c.good = gs.all id → c.size ≤ 10000 → Q v { s with heap := h', toks := tk' }) :
    wpAny (model PG w) (ktrTop dp un gd cn cs L a ccd cl outer) (call (.ref 77) [.ref P, .int way tw]) Q E s := by
  have hway : way = 1 ∨ way = 0 ∨ way = 2 := by omega
  have hl2 : vs.length ≤ 100000 := by omega
  have hleaf : ∀ (i : Nat), i < vs.length → ∃ v g, vs[i]? = some v ∧ gs[i]? = some g ∧ LeafIn news v g := fun i hi => by
    have h1 : vs[i]? = some vs[i] := List.getElem?_eq_getElem hi
    have h2 : gs[i]? = some (gs[i]'(by omega)) := List.getElem?_eq_getElem (by omega)
    exact ⟨_, _, h1, h2, hps _ _ _ h1 h2⟩
  refine wpAny_call ?_
  rcases hway with rfl | hway
  · obtain ⟨us, y, rfl⟩ : ∃ us y, vs = us ++ [y] := ⟨vs.dropLast, vs.getLast (by intro h; simp [h] at hl0), (List.dropLast_concat_getLast _).symm⟩
    have hlen : (us ++ [y]).length = us.length + 1 := by simp
    obtain ⟨y', g, hy', hg, hyl⟩ := hleaf us.length (by omega)
    have hyy : y' = y := by simpa using hy'.symm
    subst hyy
    k_dflt ktr_enter
    k_steps
    unfold Stop
    (rename ∀ p ∈ news, p.1 < _ => l1)
    (rename Fr _ _ _ _ => F1)
    (rename News _ _ _ (_ :: _) => N1)
    refine iter_vals (fun i m nx => Joined P 1 tw news ((us ++ [y']).drop (us.length - i)) (gs.drop (us.length - i)) (1 + 2 * i) m nx) rfl F1 N1 (.head _) ?_ ?_ ?_
    · refine ⟨[(_, _)], .leaf y' g, y', rfl, ⟨rfl, rfl, rfl⟩, (fun p hp q hq => by rw [List.mem_singleton.mp hq]; exact l1 p hp), .leaf (hyl.mono fun p hp => .tail _ hp), ?_, ?_, ?_⟩
      · simp [Cond.leaves]
      · rw [Nat.sub_zero, drop_prev hg, List.drop_of_length_le (by omega)]; simp [Cond.good]
      · simp [Cond.size]
    · rintro i vx m₁ nx s₁ I oi own hvi ⟨tl, c, v, rfl, ⟨hm1, hm2, hm3⟩, hord, hc, hlv, hgv, hsz⟩ hnI hI F₁ N₁
      have hi : i < us.length := by
        rcases Nat.lt_or_ge i us.length with h9 | h9
        · exact h9
        · rw [List.getElem?_eq_none (by simp; omega)] at hvi; cases hvi
      have hvx : (us ++ [y'])[us.length - (i + 1)]? = some vx := by
        rw [map_snoc, List.getElem?_reverse hi] at hvi
        rw [List.getElem?_append_left (by omega), ← hvi]
        congr 1
        omega
      obtain ⟨v9, gx, hv9, hgx, hlx⟩ := hleaf (us.length - (i + 1)) (by omega)
      rw [hvx] at hv9
      cases hv9
      replace F₁ := Fr_bind (Fr_bind (Fr_bind F₁ (x := PySem.Str.ofString "cond") (by rw [if_neg (by decide)]; exact hm1)) (x := PySem.Str.ofString "parts") (by rw [if_neg (by decide), if_neg (by decide)]; exact hm2)) (x := PySem.Str.ofString "way") (by rw [if_neg (by decide), if_neg (by decide), if_neg (by decide)]; exact hm3)
      k_steps
      (rename ∀ p ∈ own ++ (tl ++ news), p.1 < _ => l3)
      (rename Fr _ _ _ _ => F3)
      (rename News _ _ _ (_ :: _) => N3)
      have ek : us.length - i = us.length - (i + 1) + 1 := by omega
      exact joined_end (add := [(_, _)]) F3 N3 (fun p hp => .tail _ (List.mem_append_left _ hp)) (fun p hp => (List.mem_singleton.mp hp) ▸ .head _) (fun p hp => .tail _ (List.mem_append_right _ hp))
        (fun p hp q hq => by rw [List.mem_singleton.mp hp]; exact l3 q hq) hI hnI hord rfl rfl rfl (.and (.head _) (.leaf (hlx.mono fun p hp => .tail _ (List.mem_append_right tl hp))) (hc.mono fun p hp => .tail _ hp))
        (by show [vx] ++ c.leaves = _; rw [hlv, drop_prev hvx, ek]; rfl) (by show (gx && c.good) = _; rw [hgv, drop_prev hgx, ek]; rfl) (by show 1 + c.size + 1 ≤ _; omega)
    · rintro m₁ nx h tk ⟨tl, c, v, rfl, ⟨hm1, hm2, hm3⟩, hord, hc, hlv, hgv, hsz⟩ F₁ N₁
      replace F₁ := Fr_bind F₁ hm1
      dsimp only
      k_steps
      have e : us.length - (us ++ [y']).dropLast.reverse.length = 0 := by simp
      rw [e] at hlv hgv
      simp only [List.length_reverse, List.length_dropLast, hlen] at hsz
      exact ret v c tl _ _ (by assumption) (by assumption) hord hc hlv hgv (by omega)
  · obtain ⟨y, us, rfl⟩ : ∃ y us, vs = y :: us := by
      cases vs with
      | nil => simp at hl0
      | cons y us => exact ⟨y, us, rfl⟩
    have hlen : (y :: us).length = us.length + 1 := rfl
    obtain ⟨y', g, hy', hg, hyl⟩ := hleaf 0 hl0
    cases hy'
    rcases hway with rfl | rfl
    · k_dflt ktr_enter
      k_steps
      unfold Stop
      rename_i hr F1 N1 _
      replace hr : IsRange _ _ 1 ((us.length + 1 : Nat) : Int) 1 _ _ _ := hr
      refine iter_rng (fun i m nx => Joined P 0 tw news ((y :: us).take (1 + i)) (gs.take (1 + i)) (1 + 2 * i) m nx) rfl hr (rng_small _ (by omega) _ (.inl rfl)) (rng_one _) F1 N1 ?_ ?_ ?_
      · refine ⟨[], .leaf y g, y, rfl, ⟨rfl, rfl, rfl⟩, (fun _ _ _ h => nomatch h), .leaf hyl, ?_, ?_, ?_⟩
        · simp [Cond.leaves]
        · rw [Nat.add_zero, take_next (k := 0) hg]; simp [Cond.good]
        · simp [Cond.size]
      · rintro i t m₁ nx s₁ I oi own hi ⟨tl, c, v, rfl, ⟨hm1, hm2, hm3⟩, hord, hc, hlv, hgv, hsz⟩ hnI hI F₁ N₁
        obtain ⟨vx, gx, hvx, hgx, hlx⟩ := hleaf (1 + i) (by simp; omega)
        have hz : ((y :: us).drop (1 + i)).take 1 = [vx] := by rw [drop_prev hvx]; rfl
        have ha : 1 + i ≤ (y :: us).length := by simp; omega
        have hP' : (P, listOf (y :: us).toArray n) ∈ own ++ (tl ++ news) := List.mem_append_right _ (List.mem_append_right _ hP)
        replace F₁ := Fr_bind (Fr_bind (Fr_bind F₁ (x := PySem.Str.ofString "cond") (by rw [if_neg (by decide)]; exact hm1)) (x := PySem.Str.ofString "parts") (by rw [if_neg (by decide), if_neg (by decide)]; exact hm2)) (x := PySem.Str.ofString "way") (by rw [if_neg (by decide), if_neg (by decide), if_neg (by decide)]; exact hm3)
        k_steps
        (rename _ ∧ AllLt _ _ => l3)
        (rename Fr _ _ _ _ => F3)
        (rename News _ _ _ (_ :: _) => N3)
        exact joined_end (add := [(_, _)]) F3 N3 (fun p hp => .tail _ (.tail _ (List.mem_append_left _ hp))) (fun p hp => (List.mem_singleton.mp hp) ▸ .head _) (fun p hp => .tail _ (.tail _ (List.mem_append_right _ hp)))
          (fun p hp q hq => by rw [List.mem_singleton.mp hp]; exact tb_ltOf l3.2 q hq) hI hnI hord rfl rfl rfl (.and (.head _) (hc.mono fun p hp => .tail _ hp) (.leaf (hlx.mono fun p hp => .tail _ (List.mem_append_right tl hp))))
          (by show c.leaves ++ [vx] = _; rw [hlv, ← take_next hvx]; rfl) (by show (c.good && gx) = _; rw [hgv, ← all_snoc, ← take_next hgx]; rfl) (by show c.size + 1 + 1 ≤ _; omega)
      · rintro m₁ nx h tk ⟨tl, c, v, rfl, ⟨hm1, hm2, hm3⟩, hord, hc, hlv, hgv, hsz⟩ F₁ N₁
        replace F₁ := Fr_bind F₁ hm1
        dsimp only
        k_steps
        rw [List.take_of_length_le (by simp; omega)] at hlv
        rw [List.take_of_length_le (by omega)] at hgv
        exact ret v c tl _ _ (by assumption) (by assumption) hord hc hlv hgv (by omega)
    · k_dflt ktr_enter
      k_steps
      unfold Stop
      rename_i hr F1 N1 _
      replace hr : IsRange _ _ 1 ((us.length + 1 : Nat) : Int) 2 _ _ _ := hr
      refine iter_rng (fun i m nx => Joined P 2 tw news ((y :: us).take (1 + 2 * i)) (gs.take (1 + 2 * i)) (1 + 4 * i) m nx) rfl hr (rng_small _ (by omega) _ (.inr rfl)) (rng_two _) F1 N1 ?_ ?_ ?_
      · refine ⟨[], .leaf y g, y, rfl, ⟨rfl, rfl, rfl⟩, (fun _ _ _ h => nomatch h), .leaf hyl, ?_, ?_, ?_⟩
        · simp [Cond.leaves]
        · rw [Nat.mul_zero, Nat.add_zero, take_next (k := 0) hg]; simp [Cond.good]
        · simp [Cond.size]
      · rintro i t m₁ nx s₁ I oi own hi ⟨tl, c, v, rfl, ⟨hm1, hm2, hm3⟩, hord, hc, hlv, hgv, hsz⟩ hnI hI F₁ N₁
        obtain ⟨vx, gx, hvx, hgx, hlx⟩ := hleaf (1 + 2 * i) (by simp; omega)
        have ha : 1 + 2 * i ≤ (y :: us).length := by simp; omega
        have hP' : (P, listOf (y :: us).toArray n) ∈ own ++ (tl ++ news) := List.mem_append_right _ (List.mem_append_right _ hP)
        replace F₁ := Fr_bind (Fr_bind (Fr_bind F₁ (x := PySem.Str.ofString "cond") (by rw [if_neg (by decide)]; exact hm1)) (x := PySem.Str.ofString "parts") (by rw [if_neg (by decide), if_neg (by decide)]; exact hm2)) (x := PySem.Str.ofString "way") (by rw [if_neg (by decide), if_neg (by decide), if_neg (by decide)]; exact hm3)
        have e2 : 1 + 2 * (i + 1) = 1 + 2 * i + 1 + 1 := by omega
        by_cases hlast : 1 + 2 * i + 1 < (y :: us).length
        · obtain ⟨vy, gy, hvy, hgy, hly⟩ := hleaf (1 + 2 * i + 1) hlast
          have hz : ((y :: us).drop (1 + 2 * i)).take 2 = [vx, vy] := by rw [drop_prev hvx, drop_prev hvy]; rfl
          k_steps
          (rename _ ∧ _ ∧ AllLt _ _ => l3)
          (rename _ ∧ AllLt _ _ => l2)
          (rename Fr _ _ _ _ => F3)
          (rename News _ _ _ (_ :: _) => N3)
          exact joined_end (add := [(_, _), (_, _)]) F3 N3 (fun p hp => .tail _ (.tail _ (.tail _ (List.mem_append_left _ hp)))) (fun p hp => by
              rcases List.mem_cons.mp hp with h | h
              · rw [h]; exact .head _
              · rw [List.mem_singleton.mp h]; exact .tail _ (.head _)) (fun p hp => .tail _ (.tail _ (.tail _ (List.mem_append_right _ hp))))
            (fun p hp q hq => by
              rcases List.mem_cons.mp hp with h | h
              · rw [h]; exact tb_ltOf l3.2.2 q hq
              · rw [List.mem_singleton.mp h]; exact tb_ltOf l2.2 q hq) hI hnI hord rfl rfl rfl
            (.and (.head _) (hc.mono fun p hp => .tail _ (.tail _ hp)) (.and (.tail _ (.head _)) (.leaf (hlx.mono fun p hp => .tail _ (.tail _ (List.mem_append_right tl hp)))) (.leaf (hly.mono fun p hp => .tail _ (.tail _ (List.mem_append_right tl hp))))))
            (by show c.leaves ++ ([vx] ++ [vy]) = _; rw [hlv, e2, take_next hvy, take_next hvx, List.append_assoc]) (by show (c.good && (gx && gy)) = _; rw [hgv, e2, take_next hgy, take_next hgx, all_snoc, all_snoc, Bool.and_assoc]) (by show c.size + (1 + 1 + 1) + 1 ≤ _; omega)
        · have hz : ((y :: us).drop (1 + 2 * i)).take 2 = [vx] := by rw [drop_prev hvx, List.drop_of_length_le (by omega)]; rfl
          k_steps
          (rename _ ∧ AllLt _ _ => l3)
          (rename Fr _ _ _ _ => F3)
          (rename News _ _ _ (_ :: _) => N3)
          exact joined_end (add := [(_, _)]) F3 N3 (fun p hp => .tail _ (.tail _ (List.mem_append_left _ hp))) (fun p hp => (List.mem_singleton.mp hp) ▸ .head _) (fun p hp => .tail _ (.tail _ (List.mem_append_right _ hp)))
            (fun p hp q hq => by rw [List.mem_singleton.mp hp]; exact tb_ltOf l3.2 q hq) hI hnI hord rfl rfl rfl (.and (.head _) (hc.mono fun p hp => .tail _ hp) (.leaf (hlx.mono fun p hp => .tail _ (List.mem_append_right tl hp))))
            (by show c.leaves ++ [vx] = _; rw [hlv, ← take_next hvx, e2, List.take_of_length_le (by omega), List.take_of_length_le (by omega)]) (by show (c.good && gx) = _; rw [hgv, ← all_snoc, ← take_next hgx, e2, List.take_of_length_le (by omega), List.take_of_length_le (by omega)]) (by show c.size + 1 + 1 ≤ _; omega)
      · rintro m₁ nx h tk ⟨tl, c, v, rfl, ⟨hm1, hm2, hm3⟩, hord, hc, hlv, hgv, hsz⟩ F₁ N₁
        replace F₁ := Fr_bind F₁ hm1
        dsimp only
        k_steps
        rw [List.take_of_length_le (by simp; omega)] at hlv
        rw [List.take_of_length_le (by omega)] at hgv
        exact ret v c tl _ _ (by assumption) (by assumption) hord hc hlv hgv (by omega)
end Mine

namespace Mine
open PySem PySem.W PyProof.Rows PySem.Calls
set_option maxRecDepth 100000
inductive LvIn (news : List (Addr × Obj)) : List Value → List Bool → Prop where
  | nil : LvIn news [] []
  | cons {v : Value} {g : Bool} {vs : List Value} {gs : List Bool} : LeafIn news v g → LvIn news vs gs → LvIn news (v :: vs) (g :: gs)
theorem LvIn.get {news : List (Addr × Obj)} {vs : List Value} {gs : List Bool} (h : LvIn news vs gs) : ∀ (i : Nat) (v : Value) (g : Bool), vs[i]? = some v → gs[i]? = some g → LeafIn news v g := by
  induction h with
  | nil => intro i v g h1; simp at h1
  | cons a _ ih =>
    intro i v g h1 h2
    cases i with
    | zero => simp at h1 h2; subst h1 h2; exact a
    | succ i => exact ih i v g (by simpa using h1) (by simpa using h2)
theorem LvIn.length {news : List (Addr × Obj)} {vs : List Value} {gs : List Bool} (h : LvIn news vs gs) : vs.length = gs.length := by
  induction h with
  | nil => rfl
  | cons _ _ ih => simp [ih]
theorem LvIn.mono {news news' : List (Addr × Obj)} {vs : List Value} {gs : List Bool} (h : LvIn news vs gs) (hs : ∀ p ∈ news, p ∈ news') : LvIn news' vs gs := by
  induction h with
  | nil => exact .nil
  | cons a _ ih => exact .cons (a.mono hs) ih
theorem news_cons {h₀ h : Heap} {L : Addr} {x : Addr × Obj} {r t : List (Addr × Obj)} (N : News h₀ L h r) (hx : x ∈ r) (k : News h₀ L h t) : News h₀ L h (x :: t) := fun p hp => by
  rcases List.mem_cons.mp hp with e | e
  · rw [e]; exact N _ hx
  · exact k p e
theorem sub_self {news : List (Addr × Obj)} : ∀ p ∈ news, p ∈ news := fun _ h => h
theorem sub_cons {x : Addr × Obj} {news r : List (Addr × Obj)} (h : ∀ p ∈ news, p ∈ r) : ∀ p ∈ news, p ∈ x :: r := fun p hp => .tail _ (h p hp)
def Tups (tl : List (Addr × Obj)) : Prop := ∀ q ∈ tl, ∃ l, q.2 = tupOf l
theorem Tups.nil : Tups [] := fun _ h => nomatch h
theorem Tups.cons {a : Addr} {l : List Value} {tl : List (Addr × Obj)} (h : Tups tl) : Tups ((a, tupOf l) :: tl) := fun q hq => by
  rcases List.mem_cons.mp hq with e | e
  · exact ⟨l, by rw [e]⟩
  · exact h q e
theorem plain_end {h₀ h' : Heap} {L : Addr} {m : PySem.Str → Option Value} {news r : List (Addr × Obj)} {D : Addr} {n : Nat} {a1 b1 a2 a3 b3 a4 b4 a5 b5 : Addr} {t1 u1 q1 t2 t3 u3 q3 t4 u4 q4 t5 u5 q5 : Tok} {x1 y11 y12 y13 y14 x2 x3 y31 y32 y33 y34 x4 y41 y42 y43 y44 x5 y51 y52 y53 y54 : Value} {s : Shared} {tk : Nat} {Q : Value → Shared → Prop}
    (N : News h₀ L h' ((D, listOf #[.ref a1, .ref a2, .ref a3, .ref a4, .ref a5] n) :: r)) (lD : AllLt D r)
    (ret : ∀ D n tl vs h' tk', Fr h₀ L h' m → News h₀ L h' ((D, listOf (List.toArray vs) n) :: (tl ++ news)) → Tups tl → (∀ p ∈ news, p.1 < D) → LvIn tl vs [true, true, true, true, true] → Q (.ref D) { s with heap := h', toks := tk' })
    (F : Fr h₀ L h' m) (hsub : ∀ p ∈ news, p ∈ r)
    (e1 : (a1, tupOf [.str (PySem.Str.ofString "rel") t1, .str (PySem.Str.ofString "=") u1, .ref b1, x1]) ∈ r)
    (e2 : (b1, tupOf [.str (PySem.Str.ofString "ref") q1, y11, y12, y13, y14]) ∈ r)
    (e3 : (a2, tupOf [.str (PySem.Str.ofString "named") t2, x2]) ∈ r)
    (e4 : (a3, tupOf [.str (PySem.Str.ofString "rel") t3, .str (PySem.Str.ofString "=") u3, .ref b3, x3]) ∈ r)
    (e5 : (b3, tupOf [.str (PySem.Str.ofString "ref") q3, y31, y32, y33, y34]) ∈ r)
    (e6 : (a4, tupOf [.str (PySem.Str.ofString "rel") t4, .str (PySem.Str.ofString "=") u4, .ref b4, x4]) ∈ r)
    (e7 : (b4, tupOf [.str (PySem.Str.ofString "ref") q4, y41, y42, y43, y44]) ∈ r)
    (e8 : (a5, tupOf [.str (PySem.Str.ofString "rel") t5, .str (PySem.Str.ofString "=") u5, .ref b5, x5]) ∈ r)
    (e9 : (b5, tupOf [.str (PySem.Str.ofString "ref") q5, y51, y52, y53, y54]) ∈ r)
    : Q (.ref D) { s with heap := h', toks := tk } := by
  have N1 := news_drop1 N
  have ND := N _ (.head _)
  refine ret D n [(a1, tupOf [.str (PySem.Str.ofString "rel") t1, .str (PySem.Str.ofString "=") u1, .ref b1, x1]), (b1, tupOf [.str (PySem.Str.ofString "ref") q1, y11, y12, y13, y14]), (a2, tupOf [.str (PySem.Str.ofString "named") t2, x2]), (a3, tupOf [.str (PySem.Str.ofString "rel") t3, .str (PySem.Str.ofString "=") u3, .ref b3, x3]), (b3, tupOf [.str (PySem.Str.ofString "ref") q3, y31, y32, y33, y34]), (a4, tupOf [.str (PySem.Str.ofString "rel") t4, .str (PySem.Str.ofString "=") u4, .ref b4, x4]), (b4, tupOf [.str (PySem.Str.ofString "ref") q4, y41, y42, y43, y44]), (a5, tupOf [.str (PySem.Str.ofString "rel") t5, .str (PySem.Str.ofString "=") u5, .ref b5, x5]), (b5, tupOf [.str (PySem.Str.ofString "ref") q5, y51, y52, y53, y54])] [.ref a1, .ref a2, .ref a3, .ref a4, .ref a5] h' tk F (fun p hp => ?_) (Tups.cons (Tups.cons (Tups.cons (Tups.cons (Tups.cons (Tups.cons (Tups.cons (Tups.cons (Tups.cons Tups.nil))))))))) (fun p hp => tb_ltOf lD p (hsub p hp))
    (.cons (.rel (.head _) (.tail _ (.head _))) (.cons (.named (.tail _ (.tail _ (.head _)))) (.cons (.rel (.tail _ (.tail _ (.tail _ (.head _)))) (.tail _ (.tail _ (.tail _ (.tail _ (.head _)))))) (.cons (.rel (.tail _ (.tail _ (.tail _ (.tail _ (.tail _ (.head _)))))) (.tail _ (.tail _ (.tail _ (.tail _ (.tail _ (.tail _ (.head _)))))))) (.cons (.rel (.tail _ (.tail _ (.tail _ (.tail _ (.tail _ (.tail _ (.tail _ (.head _)))))))) (.tail _ (.tail _ (.tail _ (.tail _ (.tail _ (.tail _ (.tail _ (.tail _ (.head _)))))))))) .nil)))))
  rcases List.mem_cons.mp hp with h | h
  · rw [h]; exact ND
  · exact (news_cons N1 e1 (news_cons N1 e2 (news_cons N1 e3 (news_cons N1 e4 (news_cons N1 e5 (news_cons N1 e6 (news_cons N1 e7 (news_cons N1 e8 (news_cons N1 e9 (fun p hp => N1 p (hsub p hp))))))))))) p h
theorem odd_end {h₀ h' : Heap} {L : Addr} {m : PySem.Str → Option Value} {news r : List (Addr × Obj)} {D : Addr} {n : Nat} {a1 a2 a3 b3 a4 a5 a6 a7 a8 b8 : Addr} {t1 t2 t3 u3 q3 t4 u4 t5 u5 t6 t7 t8 u8 q8 : Tok} {x1 y1 x2 x3 y3 x4 y4 x5 y5 x6 y6 x7 y7 x8 y8 z8 : Value} {s : Shared} {tk : Nat} {Q : Value → Shared → Prop}
    (N : News h₀ L h' ((D, listOf #[.ref a1, .ref a2, .ref a3, .ref a4, .ref a5, .ref a6, .ref a7, .ref a8] n) :: r)) (lD : AllLt D r)
    (ret : ∀ D n tl vs h' tk', Fr h₀ L h' m → News h₀ L h' ((D, listOf (List.toArray vs) n) :: (tl ++ news)) → Tups tl → (∀ p ∈ news, p.1 < D) → LvIn tl vs [false, false, false, false, false, false, false, false] → Q (.ref D) { s with heap := h', toks := tk' })
    (F : Fr h₀ L h' m) (hsub : ∀ p ∈ news, p ∈ r)
    (e1 : (a1, tupOf [.str (PySem.Str.ofString "or") t1, x1, y1]) ∈ r)
    (e2 : (a2, tupOf [.str (PySem.Str.ofString "not") t2, x2]) ∈ r)
    (e3 : (a3, tupOf [.str (PySem.Str.ofString "rel") t3, .str (PySem.Str.ofString "=") u3, .ref b3, x3]) ∈ r)
    (e4 : (b3, tupOf [.str (PySem.Str.ofString "number") q3, y3]) ∈ r)
    (e5 : (a4, tupOf [.str (PySem.Str.ofString "rel") t4, .str (PySem.Str.ofString "<") u4, x4, y4]) ∈ r)
    (e6 : (a5, tupOf [.str (PySem.Str.ofString "rel") t5, .str (PySem.Str.ofString "<>") u5, x5, y5]) ∈ r)
    (e7 : (a6, tupOf [.str (PySem.Str.ofString "class") t6, x6, y6]) ∈ r)
    (e8 : (a7, tupOf [.str (PySem.Str.ofString "sign") t7, x7, y7]) ∈ r)
    (e9 : (a8, tupOf [.str (PySem.Str.ofString "rel") t8, .str (PySem.Str.ofString "=") u8, .ref b8, x8]) ∈ r)
    (e10 : (b8, tupOf [.str (PySem.Str.ofString "+") q8, y8, z8]) ∈ r)
    : Q (.ref D) { s with heap := h', toks := tk } := by
  have N1 := news_drop1 N
  have ND := N _ (.head _)
  refine ret D n [(a1, tupOf [.str (PySem.Str.ofString "or") t1, x1, y1]), (a2, tupOf [.str (PySem.Str.ofString "not") t2, x2]), (a3, tupOf [.str (PySem.Str.ofString "rel") t3, .str (PySem.Str.ofString "=") u3, .ref b3, x3]), (b3, tupOf [.str (PySem.Str.ofString "number") q3, y3]), (a4, tupOf [.str (PySem.Str.ofString "rel") t4, .str (PySem.Str.ofString "<") u4, x4, y4]), (a5, tupOf [.str (PySem.Str.ofString "rel") t5, .str (PySem.Str.ofString "<>") u5, x5, y5]), (a6, tupOf [.str (PySem.Str.ofString "class") t6, x6, y6]), (a7, tupOf [.str (PySem.Str.ofString "sign") t7, x7, y7]), (a8, tupOf [.str (PySem.Str.ofString "rel") t8, .str (PySem.Str.ofString "=") u8, .ref b8, x8]), (b8, tupOf [.str (PySem.Str.ofString "+") q8, y8, z8])] [.ref a1, .ref a2, .ref a3, .ref a4, .ref a5, .ref a6, .ref a7, .ref a8] h' tk F (fun p hp => ?_) (Tups.cons (Tups.cons (Tups.cons (Tups.cons (Tups.cons (Tups.cons (Tups.cons (Tups.cons (Tups.cons (Tups.cons Tups.nil)))))))))) (fun p hp => tb_ltOf lD p (hsub p hp))
    (.cons (.oddOr (.head _)) (.cons (.oddNot (.tail _ (.head _))) (.cons (.oddNum (.tail _ (.tail _ (.head _))) (.tail _ (.tail _ (.tail _ (.head _))))) (.cons (.oddLt (.tail _ (.tail _ (.tail _ (.tail _ (.head _)))))) (.cons (.oddNe (.tail _ (.tail _ (.tail _ (.tail _ (.tail _ (.head _))))))) (.cons (.oddClass (.tail _ (.tail _ (.tail _ (.tail _ (.tail _ (.tail _ (.head _)))))))) (.cons (.oddSign (.tail _ (.tail _ (.tail _ (.tail _ (.tail _ (.tail _ (.tail _ (.head _))))))))) (.cons (.oddPlus (.tail _ (.tail _ (.tail _ (.tail _ (.tail _ (.tail _ (.tail _ (.tail _ (.head _))))))))) (.tail _ (.tail _ (.tail _ (.tail _ (.tail _ (.tail _ (.tail _ (.tail _ (.tail _ (.head _))))))))))) .nil))))))))
  rcases List.mem_cons.mp hp with h | h
  · rw [h]; exact ND
  · exact (news_cons N1 e1 (news_cons N1 e2 (news_cons N1 e3 (news_cons N1 e4 (news_cons N1 e5 (news_cons N1 e6 (news_cons N1 e7 (news_cons N1 e8 (news_cons N1 e9 (news_cons N1 e10 (fun p hp => N1 p (hsub p hp)))))))))))) p h
end Mine

namespace Mine
open PySem PySem.W PyProof.Rows PySem.Calls
set_option maxRecDepth 100000
theorem reset_P1 : True := by
  w_top off
  trivial
local macro_rules | `(tactic| k_steps) => `(tactic| repeat' (first | (k_unfold; (try dsimp only)) | walk1 | (dsimp only; first | walk1 | (k_unfold; (try dsimp only))) | fail "no step"))
local macro_rules | `(tactic| k_all) => `(tactic| assumption)
local macro_rules | `(tactic| walk_at "call ref") => `(tactic| (k_here; k_dflt (refine wpAny_call ?_; refine' code_def ?k1 ?k2 ?k3 ?k4 ?k5 ?kA ?kF ?kK ?k6 ?k7 ?k8 ?k9 ?kB ?_ ?c2 ?c3 ?c4 ?c5; (case kA => exact rfl); (case kF => exact rfl); (case kK => exact rfl); (case k1 => k_asm); (case k2 => k_asm); (case k3 => k_asm); (case k4 => k_asm); (case k5 => k_asm); (case k6 => k_is); (case k7 => k_is); (case k8 => ktr_room); (case k9 => exact BindsTo.of_eq rfl); (case c5 => decide); (case kB => exact locs rfl); (case c2 => exact rfl); (case c3 => exact rfl); (case c4 => exact rfl); k_whole; intro g' L' h' FG' F' N' B' X' T'; (try dsimp only); (try k_fold))))
set_option maxHeartbeats 4000000 in
theorem plain_spec {w : World} {dp un : Nat} {gd : Option (List Code)} {cn : PySem.Str} {cs : Scope} {a : Addr} {ccd : Value} {cl : List (PySem.Str × Addr)} {outer : List Env} {A₀ : Around} {base h₀ : Heap} {L : Addr} {m : PySem.Str → Option Value}
    {p : Program} {loose : List PySem.Str} {mean : ExcName → Option Value} {mg mb : PySem.Str → Option Value} {news : List (Addr × Obj)} {s : Shared} {Q E : Value → Shared → Prop}
    (B : Below A₀ base outer h₀) (F : Fr h₀ L s.heap m) (X : (hd.heap_39 w.params).In h₀) (N : News h₀ L s.heap news) (T : Top p loose mean mg mb h₀) (hk : cs.kind = .function) (hd : dp + 5 < recursionLimit) (hu : un + 50 < cLine)
    (ret : ∀ D n tl vs h' tk', Fr h₀ L h' m → News h₀ L h' ((D, listOf (List.toArray vs) n) :: (tl ++ news)) → Tups tl → (∀ p ∈ news, p.1 < D) → LvIn tl vs [true, true, true, true, true] → Q (.ref D) { s with heap := h', toks := tk' }) :
    wpAny (model PG w) (ktrTop dp un gd cn cs L a ccd cl outer) (call (.ref 63) []) Q E s := by
  refine wpAny_call ?_
  k_dflt ktr_enter
  k_steps
  (rename News h₀ L _ (_ :: _) => kN)
  (rename _ ∧ _ => lD)
  refine plain_end kN lD ret (by assumption) (by repeat (first | exact sub_self | refine sub_cons ?_)) (by k_mem) (by k_mem) (by k_mem) (by k_mem) (by k_mem) (by k_mem) (by k_mem) (by k_mem) (by k_mem)
end Mine

namespace Mine
open PySem PySem.W PyProof.Rows PySem.Calls
set_option maxRecDepth 100000
local macro_rules | `(tactic| walk_at "none of the keys") => `(tactic| skip)
theorem reset_P2 : True := by
  w_top off
  trivial
local macro_rules | `(tactic| k_steps) => `(tactic| repeat' (first | (k_unfold; (try dsimp only)) | walk1 | (dsimp only; first | walk1 | (k_unfold; (try dsimp only))) | fail "no step"))
local macro_rules | `(tactic| k_all) => `(tactic| assumption)
local macro_rules | `(tactic| walk_at "call ref") => `(tactic| (k_here; k_dflt (refine wpAny_call ?_; refine' code_def ?k1 ?k2 ?k3 ?k4 ?k5 ?kA ?kF ?kK ?k6 ?k7 ?k8 ?k9 ?kB ?_ ?c2 ?c3 ?c4 ?c5; (case kA => exact rfl); (case kF => exact rfl); (case kK => exact rfl); (case k1 => k_asm); (case k2 => k_asm); (case k3 => k_asm); (case k4 => k_asm); (case k5 => k_asm); (case k6 => k_is); (case k7 => k_is); (case k8 => ktr_room); (case k9 => exact BindsTo.of_eq rfl); (case c5 => decide); (case kB => exact locs rfl); (case c2 => exact rfl); (case c3 => exact rfl); (case c4 => exact rfl); k_whole; intro g' L' h' FG' F' N' B' X' T'; (try dsimp only); (try k_fold))))
set_option maxHeartbeats 4000000 in
theorem odd_spec {w : World} {dp un : Nat} {gd : Option (List Code)} {cn : PySem.Str} {cs : Scope} {a : Addr} {ccd : Value} {cl : List (PySem.Str × Addr)} {outer : List Env} {A₀ : Around} {base h₀ : Heap} {L : Addr} {m : PySem.Str → Option Value}
    {p : Program} {loose : List PySem.Str} {mean : ExcName → Option Value} {mg mb : PySem.Str → Option Value} {news : List (Addr × Obj)} {s : Shared} {Q E : Value → Shared → Prop}
    (B : Below A₀ base outer h₀) (F : Fr h₀ L s.heap m) (X : (hd.heap_39 w.params).In h₀) (N : News h₀ L s.heap news) (T : Top p loose mean mg mb h₀) (hk : cs.kind = .function) (hd : dp + 5 < recursionLimit) (hu : un + 50 < cLine)
    (ret : ∀ D n tl vs h' tk', Fr h₀ L h' m → News h₀ L h' ((D, listOf (List.toArray vs) n) :: (tl ++ news)) → Tups tl → (∀ p ∈ news, p.1 < D) → LvIn tl vs [false, false, false, false, false, false, false, false] → Q (.ref D) { s with heap := h', toks := tk' }) :
    wpAny (model PG w) (ktrTop dp un gd cn cs L a ccd cl outer) (call (.ref 70) []) Q E s := by
  refine wpAny_call ?_
  k_dflt ktr_enter
  k_steps
  (rename News h₀ L _ (_ :: _) => kN)
  (rename _ ∧ _ => lD)
  refine odd_end kN lD ret (by assumption) (by repeat (first | exact sub_self | refine sub_cons ?_)) (by k_mem) (by k_mem) (by k_mem) (by k_mem) (by k_mem) (by k_mem) (by k_mem) (by k_mem) (by k_mem) (by k_mem)
end Mine

namespace Mine
open PySem PySem.W PyProof.Rows PySem.Calls
set_option maxRecDepth 100000
theorem reset_H1 : True := by
  w_top off
  trivial
theorem ints_at {vs : List Value} {ns : List Int} (h : IntsAre vs ns) : ∀ (i : Nat) (v : Value), vs[i]? = some v → ∃ n t, v = .int n t ∧ n ∈ ns := by
  induction h with
  | nil => intro i v h1; simp at h1
  | cons k t _ ih =>
    intro i v h1
    cases i with
    | zero => exact ⟨k, t, by simpa using h1.symm, .head _⟩
    | succ i =>
      obtain ⟨n, u, e, hm⟩ := ih i v (by simpa using h1)
      exact ⟨n, u, e, .tail _ hm⟩
local macro_rules | `(tactic| k_steps) => `(tactic| repeat' (first | (k_unfold; (try dsimp only)) | walk1 | (dsimp only; first | walk1 | (k_unfold; (try dsimp only))) | fail "no step"))
local macro_rules | `(tactic| k_all) => `(tactic| assumption)
local macro_rules | `(tactic| walk_at "exec For Name Subscript cons nil") => `(tactic| (k_here; (rename Fr _ _ _ _ => lF'); (with_unfolding_all refine' For_invUF lF' ?k1 ?k2 ?_; (case k1 => exact rfl); (case k2 => exact rfl); k_whole)))
local macro_rules | `(tactic| walk_at "pyIter ref") => `(tactic| (k_here; refine Stop.go ?_))
local macro_rules | `(tactic| walk_at "binaryOp Mult int int") => `(tactic| (k_here; first | refine PyProof.Rows.mul_int ?_ (IntMulOk.of_right (by decide)) | refine PyProof.Rows.mul_int ?_ (IntMulOk.of_left (by decide)); (try dsimp only)))
local macro_rules | `(tactic| walk_at "binaryOp Add int int") => `(tactic| (k_here; refine PyProof.Rows.add_int ?_; (try dsimp only)))
local macro_rules | `(tactic| walk_at "binaryOp Pow int int") => `(tactic| (k_here; refine pow_int_small (by decide) (by decide) (by decide) ?_; (try dsimp only)))
theorem heap_bits {x k : Int} {i : Nat} (hx0 : 0 ≤ x) (hx1 : Builtin.Int.intBits x ≤ 130 + 12 * i) : 0 ≤ x * 1543 + ((2 * if k < 0 then -k else k) + if decide (k < 0) = true then 1 else 0).fmod (10 ^ Int.toNat 36) ∧
    Builtin.Int.intBits (x * 1543 + ((2 * if k < 0 then -k else k) + if decide (k < 0) = true then 1 else 0).fmod (10 ^ Int.toNat 36)) ≤ 130 + 12 * (i + 1) := by
  have hb : (10 : Int) ^ Int.toNat 36 ≠ 0 := by decide
  have hp : (0 : Int) ≤ 10 ^ Int.toNat 36 := by decide
  constructor
  · refine Int.add_nonneg (Int.mul_nonneg hx0 (by decide)) ?_
    rw [Int.fmod_eq_emod_of_nonneg _ hp]
    exact Int.emod_nonneg _ hb
  · refine Nat.le_trans (intBits_add_le (intBits_mul_le hx1 (show Builtin.Int.intBits 1543 ≤ 11 by decide)) (intBits_le_of_natAbs (natAbs_fmod_le _ _ hb) (show Builtin.Int.intBits (10 ^ Int.toNat 36) ≤ 120 by decide))) ?_
    omega
theorem heap_end {x : Int} {i : Nat} (hx0 : 0 ≤ x) (hx1 : Builtin.Int.intBits x ≤ 130 + 12 * i) (hi : i ≤ 24) : 0 ≤ 2 * x + 1 ∧ Builtin.Int.intBits x ≤ 5000 ∧ Builtin.Int.intBits (2 * x + 1) ≤ 500 := by
  refine ⟨by omega, by omega, ?_⟩
  refine Nat.le_trans (intBits_add_le (intBits_mul_le (show Builtin.Int.intBits 2 ≤ 2 by decide) hx1) (show Builtin.Int.intBits 1 ≤ 1 by decide)) ?_
  omega
set_option maxHeartbeats 4000000 in
theorem heap_spec {w : World} {dp un : Nat} {gd : Option (List Code)} {cn : PySem.Str} {cs : Scope} {a : Addr} {ccd : Value} {cl : List (PySem.Str × Addr)} {outer : List Env} {A₀ : Around} {base h₀ : Heap} {L : Addr} {m : PySem.Str → Option Value}
    {p : Program} {loose : List PySem.Str} {mean : ExcName → Option Value} {mg mb : PySem.Str → Option Value} {news : List (Addr × Obj)} {s : Shared} {l : Addr} {vs : List Value} {ns : List Int} {Q E : Value → Shared → Prop}
    (B : Below A₀ base outer h₀) (F : Fr h₀ L s.heap m) (X : (hd.heap_39 w.params).In h₀) (N : News h₀ L s.heap news) (T : Top p loose mean mg mb h₀) (hk : cs.kind = .function) (hd : dp + 5 < recursionLimit) (hu : un + 50 < cLine)
    (hL : h₀.IsList l vs.toArray) (hI : IntsAre vs ns) (hlay : (PyData.list (ns.map PyData.int)).layable0 = true)
    (ret : ∀ D x c tx tb tc n h' tk', Fr h₀ L h' m → News h₀ L h' ((D, listOf #[.int x tx, .int 0 tb, .int c tc] n) :: news) → (∀ p ∈ news, p.1 < D) → 0 ≤ x → Builtin.Int.intBits x ≤ 5000 → 0 ≤ c → Builtin.Int.intBits c ≤ 500 → Q (.ref D) { s with heap := h', toks := tk' }) :
    wpAny (model PG w) (ktrTop dp un gd cn cs L a ccd cl outer) (call (.ref 35) [.ref l]) Q E s := by
  refine wpAny_call ?_
  k_dflt ktr_enter
  (rename Fr h₀ L _ m => FG)
  have hL' := Fr.lst FG hL
  k_steps
  unfold Stop
  (rename IntsAre _ (List.take 24 ns) => hI9)
  (rename ∀ p ∈ news, p.1 < _ => l1)
  (rename Fr _ _ _ _ => F1)
  (rename News _ _ _ (_ :: _) => N1)
  rename_i D1 ws hq hC9 hL9
  refine iter_vals (fun i m nx => nx = (D1, listOf ws.toArray 0) :: news ∧ ∃ x t, m (PySem.Str.ofString "whole") = some (.int x t) ∧ 0 ≤ x ∧ Builtin.Int.intBits x ≤ 130 + 12 * i) rfl F1 N1 (.head _) ?_ ?_ ?_
  · exact ⟨rfl, 17, _, rfl, by decide, by decide⟩
  · rintro i v m₁ nx s₁ I oi own hvi ⟨rfl, x, t, hm, hx0, hx1⟩ hnI hI2 F₁ N₁
    obtain ⟨k, u, rfl, hk9⟩ := ints_at hI9 i v hvi
    replace F₁ := Fr_bind F₁ (x := PySem.Str.ofString "whole") (by rw [if_neg (by decide)]; exact hm)
    k_steps
    (rename Fr _ _ _ _ => F3)
    (rename News _ _ _ (own ++ _) => N3)
    exact LoopStepU.intro F3 N3 (fun p hp hq => hnI p hp (List.mem_singleton.mp hq)) ⟨rfl, _, _, rfl, (heap_bits hx0 hx1).1, (heap_bits hx0 hx1).2⟩
  · rintro m₁ nx h tk ⟨rfl, x, t, hm, hx0, hx1⟩ F₁ N₁
    replace F₁ := Fr_bind F₁ hm
    have hlen := hI9.length
    have hl24 : (List.take 24 ns).length ≤ 24 := by simp; omega
    dsimp only
    k_steps
    (rename News h₀ L _ (_ :: _) => N3)
    (rename _ ∧ AllLt _ _ => l3)
    have he := heap_end hx0 hx1 (by omega)
    exact ret _ _ _ _ _ _ _ _ _ (by assumption) (fun p hp => (List.mem_cons.mp hp).elim (fun e => N3 p (e ▸ .head _)) fun e => N3 p (.tail _ (.tail _ e))) (tb_ltOf l3.2) hx0 he.2.1 he.1 he.2.2
end Mine

namespace Mine
open PySem PySem.W PyProof.Rows PySem.Calls
set_option maxRecDepth 100000
theorem reset_K1 : True := by
  w_top off
  trivial
theorem item_any {prog : Program} {w : World} {A : Around} {E : Value → Shared → Prop} {s : Shared} {h₀ : Heap} {L P : Addr} {news : List (Addr × Obj)} {value slice : PySem.Expr} {vs : List Value} {n : Nat} {k : Int} {u : Tok} {Q : Value → Shared → Prop} (N : News h₀ L s.heap news) (hm : (P, listOf vs.toArray n) ∈ news) (h0 : 0 ≤ k) (h1 : k < (vs.length : Int)) (hl : vs.length ≤ 100000) (h : ∀ v, vs[k.toNat]? = some v → Q v s)
    (hs : subscripted slice false (.ref P) (.int k u) = operate [.ref P, .int k u] (getItem (.ref P) (.int k u)) := by with_unfolding_all rfl) :
    wpAny (model prog w) A (subscriptTail value slice (.ref P) (.int k u)) Q E s := by
  have hx : vs[k.toNat]? = some (vs[k.toNat]'(by omega)) := List.getElem?_eq_getElem (by omega)
  exact my_sub N hm h0 (by omega) hx (h _ hx) hs
local macro_rules | `(tactic| k_steps) => `(tactic| repeat' (first | (k_unfold; (try dsimp only)) | walk1 | (dsimp only; first | walk1 | (k_unfold; (try dsimp only))) | fail "no step"))
local macro_rules | `(tactic| k_all) => `(tactic| assumption)
local macro_rules | `(tactic| walk_at "call builtin:len") => `(tactic| (k_here; k_dflt (refine' len_made ?N ?m ?l ?_; (case N => k_asm); (case m => first | assumption | exact List.Mem.tail _ (by assumption)); (case l => assumption); k_whole); intro _))
local macro_rules | `(tactic| walk_at "subscriptTail Name Call ref int") => `(tactic| (k_here; k_dflt (refine' item_any ?N ?m ?a ?b ?l ?_ ?s; (case N => k_asm); (case m => first | assumption | exact List.Mem.tail _ (by assumption)); (case a => assumption); (case b => assumption); (case l => assumption); (case s => with_unfolding_all rfl); k_whole); intro v' hv'))
local macro_rules | `(tactic| walk_at "call ref") => `(tactic| (k_here; k_dflt (refine' draw_spec ?B ?F ?X ?N ?T ?k ?d ?U ?x0 ?x1 ?b0 ?b1 ?c0 ?c1 ?m0 ?m1 ?_; (case B => k_asm); (case F => k_asm); (case X => k_asm); (case N => k_asm); (case T => k_asm); (case k => first | exact rfl | assumption); (case U => k_updF); (case d => ktr_room); (case x0 => omega); (case x1 => omega); (case b0 => omega); (case b1 => omega); (case c0 => omega); (case c1 => omega); (case m0 => omega); (case m1 => omega); k_whole); intro x' b' d' tx' tb' tc' n' td' h' tk' F' N' hx0' hx1' hb0' hb1' hd0' hd1'; (try dsimp only at N')))
set_option maxHeartbeats 4000000 in
theorem pick_spec {w : World} {dp un : Nat} {gd : Option (List Code)} {cn : PySem.Str} {cs : Scope} {a : Addr} {ccd : Value} {cl : List (PySem.Str × Addr)} {outer : List Env} {A₀ : Around} {base h₀ : Heap} {L : Addr} {m : PySem.Str → Option Value}
    {p : Program} {loose : List PySem.Str} {mean : ExcName → Option Value} {mg mb : PySem.Str → Option Value} {news : List (Addr × Obj)} {nf : Obj → List (Addr × Obj)} {s : Shared} {hp S : Addr} {n n2 : Nat} {x b c : Int} {tx tb tc : Tok} {vs : List Value} {Q E : Value → Shared → Prop}
    (B : Below A₀ base outer h₀) (F : Fr h₀ L s.heap m) (X : (hd.heap_39 w.params).In h₀) (N : News h₀ L s.heap news) (T : Top p loose mean mg mb h₀) (hk : cs.kind = .function) (hd : dp + 10 < recursionLimit)
    (U : UpdF hp (listOf #[.int x tx, .int b tb, .int c tc] n) news nf) (hS : (S, listOf vs.toArray n2) ∈ news) (hSp : S ≠ hp) (hl0 : 1 ≤ vs.length) (hl1 : vs.length ≤ 100000)
    (hx0 : 0 ≤ x) (hx1 : Builtin.Int.intBits x ≤ 5000) (hb0 : 0 ≤ b) (hb1 : b ≤ 30) (hc0 : 0 ≤ c) (hc1 : Builtin.Int.intBits c ≤ 500)
    (ret : ∀ x' b' tx' tb' tc' n' (k : Nat) v h' tk', Fr h₀ L h' m → News h₀ L h' (nf (listOf #[.int x' tx', .int b' tb', .int c tc'] n')) → 0 ≤ x' → Builtin.Int.intBits x' ≤ 5000 → 0 ≤ b' → b' ≤ b + 1 → vs[k]? = some v → Q v { s with heap := h', toks := tk' }) :
    wpAny (model PG w) (ktrTop dp un gd cn cs L a ccd cl outer) (call (.ref 49) [.ref hp, .ref S]) Q E s := by
  obtain ⟨pre, post, rfl, hnf, U1, U2⟩ := U.split
  clear U
  have N1 : News h₀ L s.heap ((hp, (listOf #[.int x tx, .int b tb, .int c tc] n)) :: (pre ++ post)) := by
    intro q hq
    refine N q ?_
    simp only [List.mem_cons, List.mem_append] at hq ⊢
    rcases hq with rfl | h | h <;> simp [*]
  have hS1 : (S, listOf vs.toArray n2) ∈ pre ++ post := by
    simp only [List.mem_cons, List.mem_append] at hS ⊢
    rcases hS with h | h | h
    · exact .inl h
    · exact absurd (congrArg Prod.fst h) hSp
    · exact .inr h
  have U3 : ∀ q ∈ pre ++ post, q.1 ≠ hp := by
    intro q hq
    rcases List.mem_append.mp hq with h | h
    · exact U1 q h
    · exact U2 q h
  have ret' : ∀ x' b' tx' tb' tc' n' (k : Nat) v h' tk', Fr h₀ L h' m → News h₀ L h' ((hp, (listOf #[.int x' tx', .int b' tb', .int c tc'] n')) :: (pre ++ post)) → 0 ≤ x' → Builtin.Int.intBits x' ≤ 5000 → 0 ≤ b' → b' ≤ b + 1 → vs[k]? = some v → Q v { s with heap := h', toks := tk' } := by
    intro x' b' tx' tb' tc' n' k v h' tk' F' N'
    refine ret x' b' tx' tb' tc' n' k v h' tk' F' ?_
    rw [hnf]
    intro q hq
    refine N' q ?_
    simp only [List.mem_cons, List.mem_append] at hq ⊢
    rcases hq with h | rfl | h <;> simp [*]
  clear N ret hS
  generalize pre ++ post = rest at N1 U3 ret' hS1
  refine wpAny_call ?_
  k_dflt ktr_enter
  k_steps
  exact ret' _ _ _ _ _ _ _ _ _ _ (by assumption) (by assumption) (by assumption) (by assumption) (by assumption) (by assumption) (by assumption)
end Mine

namespace Mine
open PySem PySem.W PyProof.Rows PySem.Calls
set_option maxRecDepth 100000
/-- new tuples and one new list go behind what must stay in sight -/
theorem opaque_front {h₀ h : Heap} {L S : Addr} {front rest tl : List (Addr × Obj)} {o : Obj} (N : News h₀ L h ((S, o) :: (tl ++ (front ++ rest)))) (ht : Tups tl) (hS : ∀ p ∈ front ++ rest, p.1 < S) (hx : ∀ x ∈ front, ∀ l, x.2 ≠ tupOf l) (dis : ∀ x ∈ front, ∀ q ∈ rest, q.1 ≠ x.1) :
    ∃ big, News h₀ L h (front ++ big) ∧ (∀ x ∈ front, ∀ q ∈ big, q.1 ≠ x.1) ∧ (∀ p ∈ rest, p ∈ big) ∧ (S, o) ∈ big ∧ (∀ p ∈ tl, p ∈ big) := by
  refine ⟨(S, o) :: (tl ++ rest), fun p hp => N p ?_, fun x hxf q hq => ?_, fun p hp => .tail _ (List.mem_append_right _ hp), .head _, fun p hp => .tail _ (List.mem_append_left _ hp)⟩
  · rcases List.mem_append.mp hp with h1 | h1
    · exact .tail _ (List.mem_append_right _ (List.mem_append_left _ h1))
    · rcases List.mem_cons.mp h1 with h2 | h2
      · rw [h2]; exact .head _
      · rcases List.mem_append.mp h2 with h3 | h3
        · exact .tail _ (List.mem_append_left _ h3)
        · exact .tail _ (List.mem_append_right _ (List.mem_append_right _ h3))
  · rcases List.mem_cons.mp hq with h2 | h2
    · rw [h2]
      exact Nat.ne_of_gt (hS x (List.mem_append_left _ hxf))
    · rcases List.mem_append.mp h2 with h3 | h3
      · intro e
        obtain ⟨l, hl⟩ := ht q h3
        have e1 := (N q (.tail _ (List.mem_append_left _ h3))).1
        have e2 := (N x (.tail _ (List.mem_append_right _ (List.mem_append_left _ hxf)))).1
        rw [e, e2] at e1
        exact hx x hxf l ((Option.some.inj e1).trans hl)
      · exact dis x hxf q h3
theorem set_any {prog : Program} {w : World} {A : Around} {E : Value → Shared → Prop} {s : Shared} {h₀ : Heap} {L D : Addr} {m : PySem.Str → Option Value} {news : List (Addr × Obj)} {nf : Obj → List (Addr × Obj)} {us : List Value} {n : Nat} {k : Int} {t : Tok} {v : Value} {Q : Unit → Shared → Prop} (F : Fr h₀ L s.heap m) (N : News h₀ L s.heap news)
    (U : UpdF D (listOf us.toArray n) news nf) (h0 : 0 ≤ k) (h1 : k < (us.length : Int)) (hl : us.length ≤ 100000) (h : ∀ h', Fr h₀ L h' m → News h₀ L h' (nf (listOf (us.set k.toNat v).toArray n)) → Q () { s with heap := h' }) :
    wpAny (model prog w) A (setItem (.ref D) (.int k t) v) Q E s := by
  obtain ⟨pre, post, rfl, hg, a, b⟩ := U.split
  have z := N (D, listOf us.toArray n) (List.mem_append.mpr (.inr (.head _)))
  have hj : k.toNat < us.length := by omega
  refine ki_setAt z.1 h0 (by omega) (by simp; omega) (h _ (F.change (Heap.SameBut.update ..) z.2.1 z.2.2) ?_)
  rw [hg]
  refine ki_turn _ N a b ?_ ?_
  · show us.toArray.setIfInBounds k.toNat v = (us.set k.toNat v).toArray
    apply Array.toList_inj.mp
    simp
  · simp
end Mine

namespace Mine
open PySem PySem.W PyProof.Rows PySem.Calls
set_option maxRecDepth 100000
theorem paired_all {α β : Type} {G : β → Prop} {l₁ : List α} {l₂ : List β} (h : Paired (fun _ y => G y) l₁ l₂) : ∀ y ∈ l₂, G y := by
  induction h with
  | nil => intro y hy; cases hy
  | cons a _ ih =>
    intro y hy
    rcases List.mem_cons.mp hy with e | e
    · rw [e]; exact a
    · exact ih y e
theorem fmod5_lo (x : Int) : 0 ≤ x.fmod 5 := by
  rw [Int.fmod_eq_emod_of_nonneg _ (by decide)]
  exact Int.emod_nonneg _ (by decide)
theorem fmod5_hi (x : Int) : x.fmod 5 < 5 := by
  rw [Int.fmod_eq_emod_of_nonneg _ (by decide)]
  exact Int.emod_lt_of_pos _ (by decide)
theorem news_pick16 {g h : Heap} {L : Addr} {x0 x1 x2 x3 x4 x5 : Addr × Obj} {big : List (Addr × Obj)} (N : News g L h (x0 :: x1 :: x2 :: x3 :: x4 :: x5 :: big)) : News g L h (x0 :: x5 :: big) := fun p hp => by
  rcases List.mem_cons.mp hp with e | e
  · rw [e]; exact N _ (.head _)
  · exact N p (.tail _ (.tail _ (.tail _ (.tail _ (.tail _ e)))))
theorem LvIn.all {news : List (Addr × Obj)} {vs : List Value} {gs : List Bool} {b : Bool} (h : LvIn news vs gs) : (∀ g ∈ gs, g = b) → ∀ y ∈ vs, LeafIn news y b := by
  induction h with
  | nil => intro _ y hy; cases hy
  | cons a _ ih =>
    intro hb y hy
    rcases List.mem_cons.mp hy with e | e
    · rw [e, ← hb _ (.head _)]; exact a
    · exact ih (fun g hg => hb g (.tail _ hg)) y e
theorem rep_leaf {big : List (Addr × Obj)} {ys : List Value} (h : ∀ y ∈ ys, LeafIn big y true) : ∀ (i : Nat) (u : Value) (g : Bool), ys[i]? = some u → (List.replicate ys.length true)[i]? = some g → LeafIn big u g := by
  intro i u g h1 h2
  have e : g = true := by
    rw [List.getElem?_replicate] at h2
    split at h2
    · exact (Option.some.inj h2).symm
    · cases h2
  rw [e]
  exact h u (List.mem_of_getElem? h1)
theorem set_leaf {big : List (Addr × Obj)} {ys : List Value} {k : Nat} {v : Value} (hk : k < ys.length) (h : ∀ y ∈ ys, LeafIn big y true) (hv : LeafIn big v false) :
    ∀ (i : Nat) (u : Value) (g : Bool), (ys.set k v)[i]? = some u → ((List.replicate ys.length true).set k false)[i]? = some g → LeafIn big u g := by
  intro i u g h1 h2
  by_cases e : k = i
  · subst e
    rw [List.getElem?_set_self hk] at h1
    rw [List.getElem?_set_self (by simpa using hk)] at h2
    rw [← Option.some.inj h1, ← Option.some.inj h2]
    exact hv
  · rw [List.getElem?_set_ne e] at h1 h2
    exact rep_leaf h i u g h1 h2
theorem rep_all (n : Nat) : (List.replicate n true).all id = true := by
  rw [List.all_eq_true]
  intro x hx
  exact List.eq_of_mem_replicate hx
theorem set_all {n k : Nat} (hk : k < n) : ((List.replicate n true).set k false).all id = false := by
  rw [List.all_eq_false]
  refine ⟨false, ?_, by simp⟩
  refine List.mem_of_getElem? (i := k) ?_
  rw [List.getElem?_set_self (by simpa using hk)]
section
variable {prog : Program} {w : World} {A : Around} {E : Value → Shared → Prop} {s : Shared} {env : Env} {g : Heap} {Q : Flow → Shared → Prop}
theorem comp_rng {r : Addr} {many : Int} {t₀ u₀ v₀ : Tok} {n : Nat} {m : PySem.Str → Option Value} {news : List (Addr × Obj)} {scope : Scope} {cl : List (PySem.Str × Addr)} {x y : PySem.Str} {elt : PySem.Expr} (FF : Value → Prop)
    (hh : A.handled = none) (hr : IsRange s.heap r 0 many 1 t₀ u₀ v₀) (hsmall : Builtin.Range.small 0 many 1 = true) (hn : Builtin.Range.rangeSize 0 many 1 = (n : Int)) (hz : n ≤ sizeLine) (F : Fr g env.locals s.heap m) (N : News g env.locals s.heap news)
    (helt : ∀ C k t (s₃ : Shared) m₃ E', 0 ≤ k → k < (n : Int) → Fr g env.locals s₃.heap m → News g env.locals s₃.heap news → s₃.heap.Ns C m₃ → m₃ x = some (.int k t) → wpAny (model prog w) A (eval elt (compEnvC scope cl C env)) (fun y s₄ => FF y ∧ Keeps s₃ s₄) E' s₃)
    (done : ∀ D ys kk h' tk, Fr g env.locals h' (fun z => if z = y then some (.ref D) else m z) → News g env.locals h' ((D, listOf (List.toArray ys) kk) :: news) → (∀ p ∈ news, p.1 ≠ D) → ys.length = n → (∀ v ∈ ys, FF v) → Q .next { s with heap := h', toks := tk }) :
    wpAny (model prog w) A (pyIter (.ref r)) (fun it s₂ => ∃ I fp wr n P St m, it = .ref I ∧ Walks prog w A I fp wr n P St ∧ n ≤ sizeLine ∧ St 0 s₂.heap ∧ (∀ b ∈ fp, b < s₂.heap.objs.size) ∧
      env.locals ∉ wr ∧ s₂.heap.Ns env.locals m ∧ QuietOnC prog w A env scope cl x [] elt wr P (fun _ => true) (fun _ y => FF y) s₂ ∧
      (∀ D h' tk ys (vs : List Value), s₂.heap.get? D = none → h'.IsList D ys → h'.PlainList D ys → vs.length = n → (∀ j v, vs[j]? = some v → P j v) → Paired (fun _ y => FF y) (vs.filter (fun _ => true)) ys.toList →
        h'.Ns env.locals (fun z => if z = y then some (.ref D) else m z) → (∀ b o, b ≠ env.locals → b ∉ wr → s₂.heap.get? b = some o → h'.get? b = some o) → Q .next { s₂ with heap := h', toks := tk })) E s := by
  refine wpAny_pyIter_range hr hsmall ?_
  have W : Walks prog w A s.heap.objs.size [s.heap.objs.size] [s.heap.objs.size] n (fun i v => i < n ∧ ∃ t, v = .int (0 + i * 1) t)
      (fun i h => IsRangeIter h s.heap.objs.size (0 + (i : Nat) * 1) ((n : Int) - (i : Nat)) 1) := (Walks.range hh _ 0 1 n).bound
  have hnew := next_is_new F
  have hLI : env.locals ≠ s.heap.objs.size := fun e => absurd F.ns.lt (e ▸ Nat.lt_irrefl _)
  have hNI : ∀ p ∈ news, p.1 ≠ s.heap.objs.size := fun p hp => Nat.ne_of_lt (Heap.lt_size (N p hp).1)
  have up : ∀ (h : Heap) (o' : Obj), (∀ b o, b ∉ [s.heap.objs.size] → (s.heap.push o').get? b = some o → h.get? b = some o) → Fr g env.locals h m ∧ News g env.locals h news := fun h o' hk =>
    ⟨⟨F.ns.at' fun o e => hk _ o (by simpa using hLI) (Heap.get?_push_of_some _ e), fun b o e => hk b o (fun hb => by rw [List.mem_singleton.mp hb, hnew] at e; cases e) (Heap.get?_push_of_some _ (F.keep b o e)), F.above⟩,
     fun p hp => ⟨hk _ _ (by simpa using hNI p hp) (Heap.get?_push_of_some _ (N p hp).1), (N p hp).2⟩⟩
  refine ⟨_, _, _, n, _, _, m, rfl, W, hz, (by show IsRangeIter _ _ _ _ _; rw [hn]; simpa using Heap.get?_push_size _ rfl), ?_, ?_, (F.push _).ns, ⟨?_, ?_⟩, ?_⟩
  · intro b hb
    rw [List.mem_singleton.mp hb, Heap.size_push]
    exact Nat.lt_succ_self _
  · intro hm
    exact hLI (List.mem_singleton.mp hm)
  · intro C i v s₃ m₃ E' _ _ _ _ _ _
    exact wpAny_pure ⟨rfl, s₃.heap, s₃.toks, rfl, fun _ _ e => e⟩
  · rintro C i v s₃ m₃ E' _ ⟨hi, t, rfl⟩ _ hns hm hk _
    obtain ⟨F₃, N₃⟩ := up s₃.heap _ hk
    exact helt C _ t s₃ m₃ E' (by omega) (by omega) F₃ N₃ hns hm
  · intro D h' tk ys vs hD _ hpl hlen _ hP hns hk
    obtain ⟨kk, hpl⟩ := hpl
    obtain ⟨oL, a1, a2, hL, a3⟩ := F.ns
    have hDL : D ≠ env.locals := by
      rintro rfl
      have h9 := hD
      rw [Heap.get?_push_of_some _ hL] at h9
      cases h9
    have hgD : g.get? D = none := by
      cases e : g.get? D with
      | none => rfl
      | some o =>
        have h9 := hD
        rw [Heap.get?_push_of_some _ (F.keep D o e)] at h9
        cases h9
    have hND : ∀ p ∈ news, p.1 ≠ D := by
      intro p hp e
      have h9 := hD
      rw [← e, Heap.get?_push_of_some _ (N p hp).1] at h9
      cases h9
    have hlen2 := hP.length
    have hfil : vs.filter (fun _ => true) = vs := by simp
    rw [hfil] at hlen2
    refine done D ys.toList kk h' tk ⟨hns, fun b o e => hk b o (Nat.ne_of_lt (Nat.lt_of_lt_of_le (Heap.lt_size e) F.above)) (fun hb => by rw [List.mem_singleton.mp hb, hnew] at e; cases e) (Heap.get?_push_of_some _ (F.keep b o e)), F.above⟩ (fun p hp => ?_) hND (hlen2.symm.trans hlen) (paired_all hP)
    rw [Array.toArray_toList] at hp
    rcases List.mem_cons.mp hp with e | e
    · rw [e]; exact ⟨hpl, hDL, hgD⟩
    · exact ⟨hk _ _ (N p e).2.1 (by simpa using hNI p e) (Heap.get?_push_of_some _ (N p e).1), (N p e).2⟩
def CompAt (prog : Program) (w : World) (A : Around) (env : Env) (scope : Scope) (cl : List (PySem.Str × Addr)) (x y : PySem.Str) (elt : PySem.Expr) (Q : Flow → Shared → Prop) (FF : Value → Prop) (xv : Value) (s : Shared) : Prop :=
  ∃ (r : Addr) (many : Int) (t₀ u₀ v₀ : Tok) (n : Nat) (g : Heap) (m : PySem.Str → Option Value) (news : List (Addr × Obj)), xv = .ref r ∧ A.handled = none ∧ IsRange s.heap r 0 many 1 t₀ u₀ v₀ ∧ Builtin.Range.small 0 many 1 = true ∧ Builtin.Range.rangeSize 0 many 1 = (n : Int) ∧ n ≤ sizeLine ∧ Fr g env.locals s.heap m ∧ News g env.locals s.heap news ∧
    (∀ C k t (s₃ : Shared) m₃ E', 0 ≤ k → k < (n : Int) → Fr g env.locals s₃.heap m → News g env.locals s₃.heap news → s₃.heap.Ns C m₃ → m₃ x = some (.int k t) → wpAny (model prog w) A (eval elt (compEnvC scope cl C env)) (fun y s₄ => FF y ∧ Keeps s₃ s₄) E' s₃) ∧
    (∀ D ys kk h' tk, Fr g env.locals h' (fun z => if z = y then some (.ref D) else m z) → News g env.locals h' ((D, listOf (List.toArray ys) kk) :: news) → (∀ p ∈ news, p.1 ≠ D) → ys.length = n → (∀ v ∈ ys, FF v) → Q .next { s with heap := h', toks := tk })
theorem comp_assign {elt iter : PySem.Expr} {x y : PySem.Str} {px py : Pos} {scope : Scope} {cl : List (PySem.Str × Addr)} {pos spos : Pos} (FF : Value → Prop)
    (hsw : swapsWith (.ListComp elt [⟨.Name x px, iter, [], 0⟩] scope pos) (some (.Name y py)) spos.line env = pure true)
    (hclos : closureFor scope env = pure cl) (hcell : ∀ z ∈ scope.names, z.2 ≠ .cell) (hkind : scope.kind = .function)
    (hnames : ∀ z ∈ scope.names, z.2 = .local → scope.names.lookup z.1 = some .local) (hx : scope.names.lookup x = some .local)
    (hy : env.kindOf y = some .local) (hp : (env.scope.kind == .class || (env.scope.kind == .module && env.locals != env.globals)) = false)
    (h : wpAny (model prog w) A (eval iter env) (CompAt prog w A env scope cl x y elt Q FF) E s)
    (hs : ∀ x, foldedSetIterable iter env x = pure x := by intro _; rfl) :
    wpAny (model prog w) A (exec (.Assign [.Name y py] (.ListComp elt [⟨.Name x px, iter, [], 0⟩] scope pos) spos) env) Q E s := by
  refine wpAny_Assign_ListComp_free (fun _ => true) (fun _ y => FF y) hsw hclos hcell hkind hnames hx hy hp (wpAny_mono h (fun xv s₁ h₁ => ?_) fun _ _ e => e) hs
  obtain ⟨r, many, t₀, u₀, v₀, n, g, m, news, rfl, hh, hr, hsm, hn, hz, F, N, helt, done⟩ := h₁
  exact comp_rng FF hh hr hsm hn hz F N helt done
end
end Mine

namespace Mine
open PySem PySem.W PyProof.Rows PySem.Calls
set_option maxRecDepth 100000
theorem reset_L1 : True := by
  w_top off
  trivial
local macro_rules | `(tactic| k_steps) => `(tactic| repeat' (first | (k_unfold; (try dsimp only)) | walk1 | (dsimp only; first | walk1 | (k_unfold; (try dsimp only))) | fail "no step"))
local macro_rules | `(tactic| k_all) => `(tactic| assumption)
local macro_rules | `(tactic| walk_at "call ref") => `(tactic| (k_here; k_dflt (first
  | ((with_reducible show wpAny _ _ (call (Value.ref 42) _) _ _ _); refine' draw_spec ?B ?F ?X ?N ?T ?k ?d ?U ?x0 ?x1 ?b0 ?b1 ?c0 ?c1 ?m0 ?m1 ?_; (case B => k_asm); (case F => k_asm); (case X => k_asm); (case N => k_asm); (case T => k_asm); (case k => first | exact rfl | assumption); (case U => k_updF); (case d => ktr_room); (case x0 => omega); (case x1 => omega); (case b0 => omega); (case b1 => omega); (case c0 => omega); (case c1 => omega); (case m0 => omega); (case m1 => omega); k_whole; intro x' b' d' tx' tb' tc' n' td' h' tk' F' N' hx0' hx1' hb0' hb1' hd0' hd1'; (try dsimp only at N'))
  | ((with_reducible show wpAny _ _ (call (Value.ref 63) _) _ _ _); refine' plain_spec ?B ?F ?X ?N ?T ?k ?d ?u ?_; (case B => k_asm); (case F => k_asm); (case X => k_asm); (case N => k_asm); (case T => k_asm); (case k => first | exact rfl | assumption); (case d => ktr_room); (case u => ktr_units); k_whole; intro S' nS' tl' vs' h' tk' F' N' ht' l1' hv'; refine Stop.go ?_)
  | ((with_reducible show wpAny _ _ (call (Value.ref 70) _) _ _ _); refine' odd_spec ?B ?F ?X ?N ?T ?k ?d ?u ?_; (case B => k_asm); (case F => k_asm); (case X => k_asm); (case N => k_asm); (case T => k_asm); (case k => first | exact rfl | assumption); (case d => ktr_room); (case u => ktr_units); k_whole; intro S' nS' tl' vs' h' tk' F' N' ht' l1' hv'; refine Stop.go ?_)
  | ((with_reducible show wpAny _ _ (call (Value.ref 49) _) _ _ _); refine' pick_spec ?B ?F ?X ?N ?T ?k ?d ?U ?S ?Sp ?l0 ?l1 ?x0 ?x1 ?b0 ?b1 ?c0 ?c1 ?_; (case B => k_asm); (case F => k_asm); (case X => k_asm); (case N => k_asm); (case T => k_asm); (case k => first | exact rfl | assumption); (case U => k_updF); (case S => exact List.Mem.tail _ (List.Mem.tail _ (by assumption))); (case Sp => assumption); (case l0 => assumption); (case l1 => assumption); (case d => ktr_room); (case x0 => omega); (case x1 => omega); (case b0 => omega); (case b1 => omega); (case c0 => omega); (case c1 => omega); k_whole; intro x' b' tx' tb' tc' n' k' v' h' tk' F' N' hx0' hx1' hb0' hb1' hv'; (try dsimp only at N')))))
local macro_rules | `(tactic| walk_at "setItem ref int") => `(tactic| (k_here; k_dflt (refine' set_any ?F ?N ?U ?a ?b ?l ?_; (case F => k_asm); (case N => k_asm); (case U => k_updF); (case a => assumption); (case b => omega); (case l => omega); k_whole); intro h' F' N'; (try dsimp only at N')))
local macro_rules | `(tactic| walk_at "exec Assign cons ListComp") => `(tactic| (k_here; refine Stop.go ?_))
theorem rng_size0 {many : Int} (h : 1 ≤ many) : Builtin.Range.rangeSize 0 many 1 = (many.toNat : Int) := by
  unfold Builtin.Range.rangeSize
  simp
  omega
theorem rng_small0 {many : Int} (h : 1 ≤ many) (h2 : many ≤ 2000) : Builtin.Range.small 0 many 1 = true := by
  unfold Builtin.Range.small
  rw [rng_size0 h]
  simp
  refine ⟨⟨⟨⟨fits_long ?_ ?_, fits_long ?_ ?_⟩, fits_long ?_ ?_⟩, fits_long ?_ ?_⟩, .inr (fits_long ?_ ?_)⟩ <;> omega
theorem comp_local {M : Model} {A : Around} {E : Value → Shared → Prop} {s : Shared} {C : Addr} {scope : Scope} {cl : List (PySem.Str × Addr)} {env : Env} {x : PySem.Str} {pos : Pos} {v : Value} {m : PySem.Str → Option Value} {Q : Value → Shared → Prop} (hn : s.heap.Ns C m) (hm : m x = some v) (h : Q v s)
    (hk : (compEnvC scope cl C env).scope.kind = .function) (hx : (compEnvC scope cl C env).kindOf x = some .local) (hb : (x == ("__debug__" : PySem.Str)) = false) :
    wpAny M A (eval (.Name x pos) (compEnvC scope cl C env)) Q E s := wpAny_Name (wpAny_loadName_local hk hx hn hm h) hb
local macro_rules | `(tactic| walk_at "eval Name") => `(tactic| (k_here; (with_reducible show wpAny _ _ (eval (Expr.Name _ _) (compEnvC _ _ _ _)) _ _ _); k_dflt (refine' comp_local ?n ?m ?_ ?k ?x ?b; (case k => rfl); (case x => rfl); (case n => assumption); (case m => assumption); (case b => decide); k_whole)))
local macro_rules | `(tactic| walk_at "subscriptTail Name BinOp ref int") => `(tactic| (k_here; k_dflt (refine' item_any ?N ?m ?a ?b ?l ?_ ?s; (case N => k_asm); (case m => exact List.Mem.tail _ (List.Mem.tail _ (List.Mem.tail _ (List.Mem.tail _ (List.Mem.tail _ (by assumption)))))); (case a => exact fmod5_lo _); (case b => (rename List.length _ = List.length [true, true, true, true, true] => hvl9; rw [hvl9]; exact fmod5_hi _)); (case l => (rename List.length _ = List.length [true, true, true, true, true] => hvl9; rw [hvl9]; decide)); (case s => with_unfolding_all rfl); k_whole); intro v' hv'))
local macro_rules | `(tactic| walk_at "pyIter ref") => `(tactic| (k_here; refine Stop.go ?_))
set_option maxHeartbeats 4000000 in
theorem partsof_spec {w : World} {dp un : Nat} {gd : Option (List Code)} {cn : PySem.Str} {cs : Scope} {a : Addr} {ccd : Value} {cl : List (PySem.Str × Addr)} {outer : List Env} {A₀ : Around} {base h₀ : Heap} {L : Addr} {m : PySem.Str → Option Value}
    {p : Program} {loose : List PySem.Str} {mean : ExcName → Option Value} {mg mb : PySem.Str → Option Value} {rest : List (Addr × Obj)} {s : Shared} {hp : Addr} {n : Nat} {x b c many : Int} {tx tb tc tm : Tok} {Q E : Value → Shared → Prop}
    (B : Below A₀ base outer h₀) (F : Fr h₀ L s.heap m) (X : (hd.heap_39 w.params).In h₀) (N : News h₀ L s.heap ((hp, listOf #[.int x tx, .int b tb, .int c tc] n) :: rest)) (T : Top p loose mean mg mb h₀) (hk : cs.kind = .function) (hd : dp + 20 < recursionLimit) (hu : un + 150 < cLine)
    (hneH : ∀ q ∈ rest, q.1 ≠ hp)
    (hx0 : 0 ≤ x) (hx1 : Builtin.Int.intBits x ≤ 5000) (hb0 : 0 ≤ b) (hb1 : b ≤ 25) (hc0 : 0 ≤ c) (hc1 : Builtin.Int.intBits c ≤ 500) (hm0 : 1 ≤ many) (hm1 : many ≤ 2000)
    (ret : ∀ (R D : Addr) (n9 : Nat) (vs : List Value) (gs : List Bool) (good : Bool) (big : List (Addr × Obj)) (x' b' : Int) (tx' tb' tc' : Tok) (n' : Nat) (h' : Heap) (tk' : Nat), Fr h₀ L h' m → News h₀ L h' ((R, tupOf [.ref D, .bool good]) :: (D, listOf (List.toArray vs) n9) :: (hp, listOf #[.int x' tx', .int b' tb', .int c tc'] n') :: big) → (∀ p ∈ rest, p ∈ big) → (∀ p ∈ big, p.1 ≠ hp) → (∀ p ∈ big, p.1 ≠ D) → hp ≠ D → (vs.length : Int) = many → gs.length = vs.length →
      (∀ (i : Nat) (v : Value) (g : Bool), vs[i]? = some v → gs[i]? = some g → LeafIn big v g) → good = gs.all id → 0 ≤ x' → Builtin.Int.intBits x' ≤ 5000 → 0 ≤ b' → b' ≤ b + 4 → Q (.ref R) { s with heap := h', toks := tk' }) :
    wpAny (model PG w) (ktrTop dp un gd cn cs L a ccd cl outer) (call (.ref 82) [.ref hp, .int many tm]) Q E s := by
  refine wpAny_call ?_
  k_dflt (refine' code_defC ?k1 ?k2 ?k3 ?k4 ?k5 ?kA ?kF ?kK ?k6 ?k7 ?k8 ?k9 ?kB ?kD ?_ ?c2 ?c3 ?c4; (case kA => exact rfl); (case kF => exact rfl); (case kK => assumption); (case k1 => k_asm); (case k2 => k_asm); (case k3 => k_asm); (case k4 => k_asm); (case k5 => k_asm); (case k6 => k_is); (case k7 => k_is); (case k8 => ktr_room); (case k9 => exact BindsTo.of_eq rfl); (case kB => exact rfl); (case kD => decide +kernel); (case c2 => exact rfl); (case c3 => exact rfl); (case c4 => exact rfl); k_whole; intro g' L' h' tk' cells' FG' F' N' Y' B' X' T' l1; (try k_lt l1); k_cells Y'; (try simp only [List.cons_append, List.nil_append] at N'); (try dsimp only); (try k_fold))
  k_steps
  unfold Stop
  rename_i o1 o2 o3 d1 d2 d3 S nS tl vs hA tkA F2 N2 ht lS hv
  have hneL : ∀ q ∈ rest, q.1 < L' := tb_ltOf l1.2
  have hpL := l1.1
  obtain ⟨big, N3, hd3, hsub3, hS3, htl3⟩ := opaque_front (front := [(L' + 1 + 1 + 1, o1), (L' + 1 + 1, o2), (L' + 1, o3), (hp, _)]) (rest := rest) N2 ht lS
    (by
      intro x hx l e
      simp only [List.mem_cons, List.not_mem_nil, or_false] at hx
      rcases hx with rfl | rfl | rfl | rfl
      · dsimp only at e; rw [e] at d1; cases d1
      · dsimp only at e; rw [e] at d2; cases d2
      · dsimp only at e; rw [e] at d3; cases d3
      · have := congrArg Obj.cls e; simp at this)
    (by
      intro x hx q hq
      have h1 := ltN (hneL q hq)
      have h9 := ltN hpL
      have h2 := hneH q hq
      simp only [List.mem_cons, List.not_mem_nil, or_false] at hx
      rcases hx with rfl | rfl | rfl | rfl
      · exact neN (by dsimp only; omega)
      · exact neN (by dsimp only; omega)
      · exact neN (by dsimp only; omega)
      · exact h2)
  simp only [List.cons_append, List.nil_append] at N3
  have e1 := hd3 _ (.head _)
  have e2 := hd3 _ (.tail _ (.head _))
  have e3 := hd3 _ (.tail _ (.tail _ (.head _)))
  have e4 := hd3 _ (.tail _ (.tail _ (.tail _ (.head _))))
  dsimp only at e1 e2 e3 e4
  have hv3 := hv.mono htl3
  clear N2 N' hd3 F'
  k_steps
  unfold Stop
  refine comp_assign (fun y => y ∈ vs) (by with_unfolding_all rfl) (by with_unfolding_all rfl) (by decide) (by rfl) (by decide) (by rfl) (by rfl) (by rfl) ?_
  k_steps
  (rename IsRange _ _ _ _ _ _ _ _ => hr)
  (rename Fr _ _ _ _ => F4)
  (rename News _ _ _ (_ :: _) => N4)
  have hvl := hv.length
  refine ⟨_, _, _, _, _, many.toNat, _, _, _, rfl, rfl, hr, rng_small0 hm0 hm1, rng_size0 hm0, (by rw [sizeLine_eq]; omega), F4, N4, ?_, ?_⟩
  · intro C k t s₃ m₃ E' hk0 hk1 F5 N5 hns hmx
    k_steps
    all_goals first
      | exact List.mem_of_getElem? (by assumption)
      | exact ⟨_, _, rfl, fun _ _ e => e⟩
  · intro G ys kk h9 tk9 F6 N6 hG hlen hys
    replace N6 := news_pick16 N6
    replace F6 : Fr g' L' h9 _ := F6
    have hGb : ∀ p ∈ big, p.1 ≠ G := fun p h => hG p (.tail _ (.tail _ (.tail _ (.tail _ (.tail _ h)))))
    have hGp := neN (hG _ (.tail _ (.tail _ (.tail _ (.tail _ (.head _))))))
    have hyl : ∀ y ∈ ys, LeafIn big y true := fun y hy => hv3.all (by simp) y (hys y hy)
    have hlm : (ys.length : Int) = many := by omega
    clear N4 F4 hG
    dsimp only at hGp
    k_steps
    · (rename News h₀ L _ (_ :: _) => kN)
      exact ret _ G kk ys (List.replicate ys.length true) true big _ _ _ _ _ _ _ _ (by assumption) kN hsub3 e4 hGb hGp (by omega) (by simp) (rep_leaf hyl) (rep_all _).symm (by assumption) (by assumption) (by assumption) (by omega)
    · unfold Stop
      rename_i So nSo tlo os hAo tko Fo No hto lo hvo
      obtain ⟨big2, N8, hd8, hsub8, hS8, htl8⟩ := opaque_front (front := [(G, _), (hp, _)]) (rest := big) No hto lo
        (by
          intro x hx l e
          simp only [List.mem_cons, List.not_mem_nil, or_false] at hx
          rcases hx with rfl | rfl
          · have := congrArg Obj.cls e; simp at this
          · have := congrArg Obj.cls e; simp at this)
        (by
          intro x hx q hq
          simp only [List.mem_cons, List.not_mem_nil, or_false] at hx
          rcases hx with rfl | rfl
          · exact hGb q hq
          · exact e4 q hq)
      simp only [List.cons_append, List.nil_append] at N8
      have f1 := hd8 _ (.head _)
      have f2 := hd8 _ (.tail _ (.head _))
      dsimp only at f1 f2
      have hv8 := hvo.mono htl8
      have hSo : So ≠ hp := f2 _ hS8
      have hol := hvo.length
      have hol0 : 1 ≤ os.length := by rw [hol]; decide
      have hol1 : os.length ≤ 100000 := by rw [hol]; decide
      clear No hd8
      k_steps
      (rename News h₀ L _ (_ :: _) => kN)
      (rename os[_]? = some _ => hov)
      exact ret _ G kk _ ((List.replicate ys.length true).set _ false) false big2 _ _ _ _ _ _ _ _ (by assumption) kN (fun p hp => hsub8 p (hsub3 p hp)) f2 f1 hGp (by rw [List.length_set]; omega) (by simp) (set_leaf (by omega) (fun y hy => (hyl y hy).mono hsub8) (hv8.all (by simp) _ (List.mem_of_getElem? hov))) (set_all (by omega)).symm (by assumption) (by assumption) (by assumption) (by omega)
end Mine

namespace Mine
open PySem PySem.W PyProof.Rows PySem.Calls PySem.SeqAt
set_option maxRecDepth 100000
theorem reset_R1 : True := by
  w_top off
  trivial
theorem eq_same {prog : Program} {w : World} {A : Around} {E : Value → Shared → Prop} {s : Shared} {h₀ : Heap} {L a b : Addr} {news : List (Addr × Obj)} {us vs : List Value} {n1 n2 : Nat} {Q : Value → Shared → Prop} (N : News h₀ L s.heap news) (ha : (a, listOf us.toArray n1) ∈ news) (hb : (b, listOf vs.toArray n2) ∈ news) (e : us = vs) (hu : A.units < cLine) (h : Q (.bool true) s) :
    wpAny (model prog w) A (compareOp .Eq (.ref a) (.ref b)) Q E s := by
  subst e
  refine eq_listAt (e := fun _ => true) (PySem.IsL.isList (n := n1) (N _ ha).1) (PySem.IsL.isList (n := n2) (N _ hb).1) rfl hu (fun j _ _ => EqAt.same _) ?_
  have e : (List.range us.toArray.size).all (fun _ => true) = true := by simp
  rw [e]
  exact h
local macro_rules | `(tactic| k_steps) => `(tactic| repeat' (first | (k_unfold; (try dsimp only)) | walk1 | (dsimp only; first | walk1 | (k_unfold; (try dsimp only))) | fail "no step"))
local macro_rules | `(tactic| k_all) => `(tactic| assumption)
local macro_rules | `(tactic| walk_at "call ref") => `(tactic| (k_here; k_dflt (first
  | ((with_reducible show wpAny _ _ (call (Value.ref 42) _) _ _ _); refine' draw_spec ?B ?F ?X ?N ?T ?k ?d ?U ?x0 ?x1 ?b0 ?b1 ?c0 ?c1 ?m0 ?m1 ?_; (case B => k_asm); (case F => k_asm); (case X => k_asm); (case N => k_asm); (case T => k_asm); (case k => first | exact rfl | assumption); (case U => k_updF); (case d => ktr_room); (case x0 => omega); (case x1 => omega); (case b0 => omega); (case b1 => omega); (case c0 => omega); (case c1 => omega); (case m0 => omega); (case m1 => omega); k_whole; intro x' b' d' tx' tb' tc' n' td' h' tk' F' N' hx0' hx1' hb0' hb1' hd0' hd1'; (try dsimp only at N'))
  | ((with_reducible show wpAny _ _ (call (Value.ref 82) _) _ _ _); refine' partsof_spec ?B ?F ?X ?N ?T ?k ?d ?u ?ne ?x0 ?x1 ?b0 ?b1 ?c0 ?c1 ?m0 ?m1 ?_; (case B => k_asm); (case F => k_asm); (case X => k_asm); (case N => k_asm); (case T => k_asm); (case k => first | exact rfl | assumption); (case ne => assumption); (case d => ktr_room); (case u => ktr_units); (case x0 => omega); (case x1 => omega); (case b0 => omega); (case b1 => omega); (case c0 => omega); (case c1 => omega); (case m0 => omega); (case m1 => omega); k_whole; intro R' D' n9' vs' gs' good' big' x' b' tx' tb' tc' n' h' tk' F' N' a1 a2 a3 a4 a5 a6 a7 a8 a9 a10 a11 a12; refine Stop.go ?_)
  | ((with_reducible show wpAny _ _ (call (Value.ref 77) _) _ _ _); refine' joined_spec ?B ?F ?X ?N ?T ?k ?d ?u ?P ?gl ?ps ?l0 ?l1 ?w0 ?w1 ?_; (case B => k_asm); (case F => k_asm); (case X => k_asm); (case N => k_asm); (case T => k_asm); (case k => first | exact rfl | assumption); (case d => ktr_room); (case u => ktr_units); (case P => exact List.Mem.tail _ (List.Mem.head _)); (case gl => assumption); (case ps => assumption); (case l0 => omega); (case l1 => omega); (case w0 => omega); (case w1 => omega); k_whole; intro v' c' tl' h' tk' F' N' a1 a2 a3 a4 a5)
  | ((with_reducible show wpAny _ _ (call (Value.ref 21) _) _ _ _); refine' key_spec ?B ?F ?X ?N ?T ?k ?d ?u ?c ?z ?_; (case B => k_asm); (case F => k_asm); (case X => k_asm); (case N => k_asm); (case T => k_asm); (case k => first | exact rfl | assumption); (case d => ktr_room); (case u => ktr_units); (case c => assumption); (case z => assumption); k_whole; intro h' tk' F' N')
  | ((with_reducible show wpAny _ _ (call (Value.ref 28) _) _ _ _); refine' parts_spec ?B ?F ?X ?N ?T ?k ?d ?u ?c ?z ?_; (case B => k_asm); (case F => k_asm); (case X => k_asm); (case N => k_asm); (case T => k_asm); (case k => first | exact rfl | assumption); (case d => ktr_room); (case u => ktr_units); (case c => assumption); (case z => assumption); k_whole; intro Df nf h' tk' F' N' lf))))
local macro_rules | `(tactic| walk_at "compareOp Eq ref ref") => `(tactic| (k_here; k_dflt (refine' eq_same ?N ?a ?b ?e ?u ?_; (case N => k_asm); (case a => exact List.Mem.head _); (case b => exact List.Mem.tail _ (List.mem_append_right _ (List.Mem.tail _ (List.Mem.head _)))); (case e => assumption); (case u => ktr_units); k_whole)))
set_option maxHeartbeats 4000000 in
theorem right_spec {w : World} {dp un : Nat} {gd : Option (List Code)} {cn : PySem.Str} {cs : Scope} {a : Addr} {ccd : Value} {cl : List (PySem.Str × Addr)} {outer : List Env} {A₀ : Around} {base h₀ : Heap} {L : Addr} {m : PySem.Str → Option Value}
    {p : Program} {loose : List PySem.Str} {mean : ExcName → Option Value} {mg mb : PySem.Str → Option Value} {rest : List (Addr × Obj)} {s : Shared} {hp : Addr} {n : Nat} {x b c many : Int} {tx tb tc tm : Tok} {asked : Bool} {Q E : Value → Shared → Prop}
    (B : Below A₀ base outer h₀) (F : Fr h₀ L s.heap m) (X : (hd.heap_39 w.params).In h₀) (N : News h₀ L s.heap ((hp, listOf #[.int x tx, .int b tb, .int c tc] n) :: rest)) (T : Top p loose mean mg mb h₀) (hk : cs.kind = .function) (hd : dp + 40 < recursionLimit) (hu : un + 300 < cLine)
    (hneH : ∀ q ∈ rest, q.1 ≠ hp)
    (hx0 : 0 ≤ x) (hx1 : Builtin.Int.intBits x ≤ 5000) (hb0 : 0 ≤ b) (hb1 : b ≤ 20) (hc0 : 0 ≤ c) (hc1 : Builtin.Int.intBits c ≤ 500) (hm0 : 1 ≤ many) (hm1 : many ≤ 2000)
    (ret : ∀ (big : List (Addr × Obj)) (x' b' : Int) (tx' tb' tc' : Tok) (n' : Nat) (h' : Heap) (tk' : Nat), Fr h₀ L h' m → News h₀ L h' ((hp, listOf #[.int x' tx', .int b' tb', .int c tc'] n') :: big) → (∀ p ∈ rest, p ∈ big) → (∀ p ∈ big, p.1 ≠ hp) → 0 ≤ x' → Builtin.Int.intBits x' ≤ 5000 → 0 ≤ b' → b' ≤ b + 5 → Q (.bool true) { s with heap := h', toks := tk' }) :
    wpAny (model PG w) (ktrTop dp un gd cn cs L a ccd cl outer) (call (.ref 89) [.ref hp, .int many tm, .bool asked]) Q E s := by
  refine wpAny_call ?_
  k_dflt ktr_enter
  k_steps
  unfold Stop
  rename_i R D n9 vs gs good big x2 b2 tx2 tb2 tc2 n2 hA tkA F2 N2 hsub hbp hbD hpD hvl hgl hleaf hgood y1 y2 y3 y4
  have hps : ∀ (i : Nat) (v : Value) (g : Bool), vs[i]? = some v → gs[i]? = some g → LeafIn ((R, tupOf [.ref D, .bool good]) :: (D, listOf (List.toArray vs) n9) :: (hp, listOf #[.int x2 tx2, .int b2 tb2, .int c tc2] n2) :: big) v g :=
    fun i v g h1 h2 => (hleaf i v g h1 h2).mono fun p hp => .tail _ (.tail _ (.tail _ hp))
  cases asked with
  | true =>
    k_steps
    (rename Cond.good _ = List.all gs id => hg)
    rw [hg, ← hgood, beq_self_eq_true]
    (rename News h₀ L _ (_ ++ _) => kN)
    exact ret big _ _ _ _ _ _ _ _ (by assumption) (fun p hp => kN p (List.mem_append_right _ (.tail _ (.tail _ hp)))) hsub hbp y1 y2 y3 (by omega)
  | false =>
    k_steps
    (rename News h₀ L _ (_ :: _) => kN)
    exact ret big _ _ _ _ _ _ _ _ (by assumption) (fun p hp => kN p (.tail _ (List.mem_append_right _ (.tail _ (.tail _ hp))))) hsub hbp y1 y2 y3 (by omega)
theorem right_spec2 {w : World} {dp un : Nat} {gd : Option (List Code)} {cn : PySem.Str} {cs : Scope} {a : Addr} {ccd : Value} {cl : List (PySem.Str × Addr)} {outer : List Env} {A₀ : Around} {base h₀ : Heap} {L : Addr} {m : PySem.Str → Option Value}
    {p : Program} {loose : List PySem.Str} {mean : ExcName → Option Value} {mg mb : PySem.Str → Option Value} {news : List (Addr × Obj)} {nf : Obj → List (Addr × Obj)} {s : Shared} {hp : Addr} {n : Nat} {x b c many : Int} {tx tb tc tm : Tok} {asked : Bool} {Q E : Value → Shared → Prop}
    (B : Below A₀ base outer h₀) (F : Fr h₀ L s.heap m) (X : (hd.heap_39 w.params).In h₀) (N : News h₀ L s.heap news) (T : Top p loose mean mg mb h₀) (hk : cs.kind = .function) (hd : dp + 40 < recursionLimit) (hu : un + 300 < cLine)
    (U : UpdF hp (listOf #[.int x tx, .int b tb, .int c tc] n) news nf)
    (hx0 : 0 ≤ x) (hx1 : Builtin.Int.intBits x ≤ 5000) (hb0 : 0 ≤ b) (hb1 : b ≤ 20) (hc0 : 0 ≤ c) (hc1 : Builtin.Int.intBits c ≤ 500) (hm0 : 1 ≤ many) (hm1 : many ≤ 2000)
    (ret : ∀ (x' b' : Int) (tx' tb' tc' : Tok) (n' : Nat) (h' : Heap) (tk' : Nat), Fr h₀ L h' m → News h₀ L h' (nf (listOf #[.int x' tx', .int b' tb', .int c tc'] n')) → 0 ≤ x' → Builtin.Int.intBits x' ≤ 5000 → 0 ≤ b' → b' ≤ b + 5 → Q (.bool true) { s with heap := h', toks := tk' }) :
    wpAny (model PG w) (ktrTop dp un gd cn cs L a ccd cl outer) (call (.ref 89) [.ref hp, .int many tm, .bool asked]) Q E s := by
  obtain ⟨pre, post, rfl, hnf, U1, U2⟩ := U.split
  have N1 : News h₀ L s.heap ((hp, (listOf #[.int x tx, .int b tb, .int c tc] n)) :: (pre ++ post)) := by
    intro q hq
    refine N q ?_
    simp only [List.mem_cons, List.mem_append] at hq ⊢
    rcases hq with rfl | h | h <;> simp [*]
  have U3 : ∀ q ∈ pre ++ post, q.1 ≠ hp := by
    intro q hq
    rcases List.mem_append.mp hq with h | h
    · exact U1 q h
    · exact U2 q h
  refine right_spec B F X N1 T hk hd hu U3 hx0 hx1 hb0 hb1 hc0 hc1 hm0 hm1 ?_
  intro big x' b' tx' tb' tc' n' h' tk' F' N' hsub _ y1 y2 y3 y4
  refine ret x' b' tx' tb' tc' n' h' tk' F' ?_ y1 y2 y3 y4
  rw [hnf]
  intro q hq
  refine N' q ?_
  rcases List.mem_append.mp hq with h | h
  · exact .tail _ (hsub q (List.mem_append_left _ h))
  · rcases List.mem_cons.mp h with h | h
    · rw [h]; exact .head _
    · exact .tail _ (hsub q (List.mem_append_right _ h))
end Mine

open PySem PySem.W PyProof.Rows PySem.Calls PySem.SeqAt
set_option maxRecDepth 100000
open Mine
local macro_rules | `(tactic| walk_at "call ref") => `(tactic| (k_here; k_dflt (first
  | ((with_reducible show wpAny _ _ (call (Value.ref 35) _) _ _ _); refine' heap_spec ?B ?F ?X ?N ?T ?k ?d ?u ?L ?I ?y ?_; (case B => k_asm); (case F => k_asm); (case X => k_asm); (case N => k_asm); (case T => k_asm); (case k => exact rfl); (case d => ktr_room); (case u => ktr_units); (case L => k_asm); (case I => assumption); (case y => assumption); k_whole; intro D' x' c' tx' tb' tc' n' h' tk' F' N' l1 hx0' hx1' hc0' hc1'; (try k_lt l1))
  | ((with_reducible show wpAny _ _ (call (Value.ref 42) _) _ _ _); refine' draw_spec ?B ?F ?X ?N ?T ?k ?d ?U ?x0 ?x1 ?b0 ?b1 ?c0 ?c1 ?m0 ?m1 ?_; (case B => k_asm); (case F => k_asm); (case X => k_asm); (case N => k_asm); (case T => k_asm); (case k => exact rfl); (case U => k_updF); (case d => ktr_room); (case x0 => omega); (case x1 => omega); (case b0 => omega); (case b1 => omega); (case c0 => omega); (case c1 => omega); (case m0 => omega); (case m1 => omega); k_whole; intro x' b' d' tx' tb' tc' n' td' h' tk' F' N' hx0' hx1' hb0' hb1' hd0' hd1'; (try dsimp only at N'))
  | ((with_reducible show wpAny _ _ (call (Value.ref 89) _) _ _ _); refine' right_spec2 ?B ?F ?X ?N ?T ?k ?d ?u ?U ?x0 ?x1 ?b0 ?b1 ?c0 ?c1 ?m0 ?m1 ?_; (case B => k_asm); (case F => k_asm); (case X => k_asm); (case N => k_asm); (case T => k_asm); (case k => exact rfl); (case U => k_updF); (case d => ktr_room); (case u => ktr_units); (case x0 => omega); (case x1 => omega); (case b0 => omega); (case b1 => omega); (case c0 => omega); (case c1 => omega); (case m0 => omega); (case m1 => omega); k_whole; intro x' b' tx' tb' tc' n' h' tk' F' N' hx0' hx1' hb0' hb1'; (try dsimp only at N')))))
set_option maxRecDepth 100000 in
set_option maxHeartbeats 8000000 in
theorem PySem.Challenge.cw_pq0626_01_holds : PySem.Challenge.rw_pq0626_01.Holds := by
  refine Mine.hd ?_
  k_go0
  (all_goals try k_fold)
  k_steps
