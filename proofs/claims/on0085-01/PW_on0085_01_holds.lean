import PyProof.Rows.All
import Wide.All
import OpenK.AllK
import Wide.FinOn
import Lean
import PySem.Challenge.RW_on0085_01
open PySem PySem.W PyProof.Rows
set_option Elab.async false
namespace Mine

set_option maxRecDepth 100000 in
set_option maxHeartbeats 8000000 in
open_top hd for PySem.Challenge.rw_on0085_01


local macro_rules
  | `(tactic| row_timed "z" ( $t:tacticSeq )) => do
    let c ← Lean.MonadQuotation.getCurrMacroScope
    let m ← Lean.MonadQuotation.getContext
    let k ← `(tactic| skip)
    let u := t.raw.rewriteBottomUp fun s => match s with
      | .ident i r n p => if n.toString.startsWith "Z" then .ident i r (Lean.addMacroScope m n c) p else s
      | .node _ kd as => if kd == ``Lean.Parser.Tactic.fail && (as[1]!)[0].isStrLit? == some "z" then k.raw else s
      | s => s
    `(tactic| ($(⟨u⟩)))
local macro_rules | `(tactic| walk_at $s:str) => `(tactic| k_extra $(Lean.Syntax.mkStrLit ("z" ++ s.getString)))
--deps PH
theorem topOff : True := by
  w_top off
  trivial
section
variable {prog : Program} {w : World} {A : Around} {E : Value → Shared → Prop} {s : Shared}
theorem adjust_upto (b n : Nat) : Builtin.Slice.sliceAdjust none (some (b : Int)) 1 (n : Int) = (0, ((min b n : Nat) : Int)) := by
  unfold Builtin.Slice.sliceAdjust
  have h1 : ¬ ((1 : Int) < 0) := by omega
  have h2 : ¬ ((b : Int) < 0) := by omega
  simp only [h1, h2, if_false]
  congr 1
  omega
theorem places_upto (b : Nat) : Builtin.Slice.slicePlaces 0 (b : Int) 1 = b := by
  unfold Builtin.Slice.slicePlaces
  have h1 : (1 : Int) > 0 := by omega
  simp only [h1, if_true, Int.ediv_one]
  split <;> omega
theorem sliceApplied_upto {sl : Addr} {b n : Nat} {u : Tok} {Q : Int × Int × Nat → Shared → Prop} (hs : s.heap.IsSliceOf sl .none (.int b u) .none) (h : Q (0, 1, min b n) s) :
    wpAny (model prog w) A (Builtin.Slice.sliceApplied (.ref sl) (pure (n : Int))) Q E s := by
  obtain ⟨os, hos, hcs, hds⟩ := id hs
  unfold Builtin.Slice.sliceApplied Builtin.Slice.sliceFields
  refine wpAny_bind (wpAny_bind (wpAny_field hos hds (x := .none) rfl (wpAny_bind (wpAny_field hos hds (x := .int b u) rfl (wpAny_bind (wpAny_field hos hds (x := .none) rfl (wpAny_pure ?_)))))))
  refine wpAny_bind (slicePart_none ?_)
  show wpAny _ _ (if ((1 : Int) == 0) = true then _ else _) _ _ s
  rw [if_neg (by decide)]
  refine wpAny_bind (slicePart_none (wpAny_bind (slicePart_int (wpAny_bind (wpAny_pure ?_)))))
  show wpAny _ _ (match Builtin.Slice.sliceAdjust none (some (b : Int)) 1 (n : Int) with | (lo, hi) => pure (lo, (1 : Int), Builtin.Slice.slicePlaces lo hi 1)) _ _ s
  rw [adjust_upto b n]
  show wpAny _ _ (pure ((0 : Int), (1 : Int), Builtin.Slice.slicePlaces 0 ((min b n : Nat) : Int) 1)) _ _ s
  rw [places_upto]
  exact wpAny_pure h
theorem pick_upto (xs : Array Value) (b : Nat) : ((List.range b).filterMap fun (k : Nat) => xs[((0 : Int) + (k : Int) * 1).toNat]?).toArray = (xs.toList.take b).toArray := by
  have e : (fun (k : Nat) => xs[((0 : Int) + (k : Int) * 1).toNat]?) = fun k => xs[0 + k]? := by
    funext k
    have : ((0 : Int) + (k : Int) * 1).toNat = 0 + k := by omega
    rw [this]
  rw [e]
  have := pick_run xs 0 b
  rw [List.filterMap_map] at this
  have e2 : ((fun x => xs[x]?) ∘ fun x => 0 + x) = fun k => xs[0 + k]? := rfl
  rw [e2] at this
  rw [this, List.drop_zero]
theorem getItem_tuple_upto {t sl : Addr} {items : Array Value} {b : Nat} {u : Tok} {Q : Value → Shared → Prop} (ht : IsTup s.heap t items) (hs : s.heap.IsSliceOf sl .none (.int b u) .none) (hb : b < items.size)
    (h : Q (.ref s.heap.objs.size) { s with heap := s.heap.push { cls := .type "tuple", data := .seq (items.toList.take b).toArray } })
    (hsz : items.size ≤ sizeLine) : wpAny (model prog w) A (getItem (.ref t) (.ref sl)) Q E s := by
  have hdrop : sizeOk (.seq (items.toList.take b).toArray) := by
    show (items.toList.take b).toArray.size ≤ sizeLine
    rw [List.size_toArray, List.length_take, Array.length_toList]
    omega
  obtain ⟨os, hos, hcs, hds⟩ := id hs
  have hTs : s.TypeIs (.ref sl) "slice" := ⟨os, hos, hcs⟩
  unfold getItem
  try with_reducible refine wpAny_holding ?_
  first | refine wpAny_bind (wpAny_pure ?_) | skip
  refine wpAny_bind (wpAny_sequenceKey ht.typeIs (by decide) ?_)
  refine wpAny_bind (wpAny_callSpecial?_slot (name := Str.ofString "__getitem__") ht.typeIs slot_tuple_getitem
    (wpAny_call_entry slot_tuple_getitem ht.typeIs entry_tuple_getitem ?_ (args_tuple_getitem _ _)))
  show wpAny _ _ (Builtin.Tuple.tupleItemsOf (.ref t) >>= _) _ _ s
  refine wpAny_bind (tupleItemsOf_ ht ?_)
  refine wpAny_bind (wpAny_typeOf hTs ?_)
  rw [if_pos (by decide)]
  refine wpAny_bind (sliceApplied_upto hs ?_)
  have hm : min b items.size = b := by omega
  rw [hm]
  have hno : ¬ (((0 : Int) == 0 && (1 : Int) == 1 && b == items.size) = true) := by
    have : (b == items.size) = false := by rw [beq_eq_false_iff_ne]; omega
    rw [this]; simp
  show wpAny _ _ (if ((0 : Int) == 0 && (1 : Int) == 1 && b == items.size) = true then _ else _) _ _ s
  rw [if_neg hno, pick_upto items b]
  first
    | exact wpAny_bind (m := Builtin.Tuple.tupleExact _) (wpAny_newObj_type (wpAny_pure ⟨_, rfl, wpAny_pure h⟩) hdrop)
    | exact wpAny_bind (m := Builtin.Tuple.tupleExact _) (wpAny_newObj_type (wpAny_bind (wpAny_pure (wpAny_pure ⟨_, rfl, wpAny_pure h⟩))) hdrop)
    | exact wpAny_bind (wpAny_bind (m := Builtin.Tuple.tupleExact _) (wpAny_newObj_type (wpAny_pure (wpAny_pure ⟨_, rfl, wpAny_pure h⟩)) hdrop))
    | exact wpAny_bind (wpAny_bind (m := Builtin.Tuple.tupleExact _) (wpAny_newObj_type (wpAny_pure ⟨_, rfl, wpAny_pure h⟩) hdrop))
theorem getItem_tuple_whole {t sl : Addr} {items : Array Value} {b : Nat} {u : Tok} {Q : Value → Shared → Prop} (ht : IsTup s.heap t items) (hs : s.heap.IsSliceOf sl .none (.int b u) .none) (hb : items.size ≤ b)
    (h : Q (.ref t) s) : wpAny (model prog w) A (getItem (.ref t) (.ref sl)) Q E s := by
  obtain ⟨os, hos, hcs, hds⟩ := id hs
  have hTs : s.TypeIs (.ref sl) "slice" := ⟨os, hos, hcs⟩
  unfold getItem
  try with_reducible refine wpAny_holding ?_
  first | refine wpAny_bind (wpAny_pure ?_) | skip
  refine wpAny_bind (wpAny_sequenceKey ht.typeIs (by decide) ?_)
  refine wpAny_bind (wpAny_callSpecial?_slot (name := Str.ofString "__getitem__") ht.typeIs slot_tuple_getitem
    (wpAny_call_entry slot_tuple_getitem ht.typeIs entry_tuple_getitem ?_ (args_tuple_getitem _ _)))
  show wpAny _ _ (Builtin.Tuple.tupleItemsOf (.ref t) >>= _) _ _ s
  refine wpAny_bind (tupleItemsOf_ ht ?_)
  refine wpAny_bind (wpAny_typeOf hTs ?_)
  rw [if_pos (by decide)]
  refine wpAny_bind (sliceApplied_upto hs ?_)
  have hm : min b items.size = items.size := by omega
  rw [hm]
  show wpAny _ _ (if ((0 : Int) == 0 && (1 : Int) == 1 && items.size == items.size) = true then _ else _) _ _ s
  rw [if_pos (by simp)]
  unfold Builtin.Tuple.tupleIsExact
  have hT : s.TypeIs (.ref t) "tuple" := ht.typeIs
  refine wpAny_bind (wpAny_bind (wpAny_typeOf hT (wpAny_pure ?_)))
  rw [if_pos (by decide)]
  exact wpAny_bind (wpAny_rule (wpAny_pure ⟨_, rfl, wpAny_pure h⟩))
end
section
variable {prog : Program} {w : World} {A : Around} {E : Value → Shared → Prop} {s : Shared} {h₀ : Heap} {L : Addr} {m : Str → Option Value} {news : List (Addr × Obj)}
theorem slice_tuple_upto {value slice : Expr} {t : Addr} {vs : List Value} {b : Nat} {i : Int} {u : Tok} {Q : Value → Shared → Prop}
    (F : Fr h₀ L s.heap m) (N : News h₀ L s.heap news) (ht : IsTup s.heap t vs.toArray) (hi : i = (b : Int)) (hb : b < vs.length) (hsz : vs.length ≤ 10000)
    (h : ∀ D h', Fr h₀ L h' m → News h₀ L h' ((D, ({ cls := .type "tuple", data := .seq (vs.take b).toArray } : Obj)) :: news) → (∀ p ∈ news, p.1 < D) → Q (.ref D) { s with heap := h' })
    (hs : subscripted slice false (.ref t) (.ref s.heap.objs.size) = operate [.ref s.heap.objs.size, .ref t] (getItem (.ref t) (.ref s.heap.objs.size)) := by with_unfolding_all rfl)
    (hg : ∀ r, letTemporaryGo value (.ref t) r = pure () := by intro _; with_unfolding_all rfl) :
    wpAny (model prog w) A (subscriptTail value slice (.ref t) (.ref s.heap.objs.size)) Q E { s with heap := s.heap.push { cls := .type "slice", data := .fields #[.none, .int i u, .none] } } := by
  subst hi
  have ht' : IsTup (s.heap.push { cls := .type "slice", data := .fields #[.none, .int b u, .none] }) t vs.toArray := ht.keeps fun _ _ e => Heap.get?_push_of_some _ e
  refine subscriptTail_ops (s := { s with heap := s.heap.push { cls := .type "slice", data := .fields #[.none, .int b u, .none] } }) ht'.typeIs slot_tuple_getitem.lookup
    (getItem_tuple_upto ht' (Heap.IsSliceOf.new ..) (by rw [List.size_toArray]; exact hb) ?_ (by rw [List.size_toArray, sizeLine_eq]; omega)) hs hg
  have N1 := News.push (F.push { cls := .type "slice", data := .fields #[.none, .int b u, .none] }) (N.grown fun _ _ e => Heap.get?_push_of_some _ e) { cls := .type "tuple", data := .seq (vs.take b).toArray }
  rw [Heap.size_push] at N1
  show Q (.ref (s.heap.push _).objs.size) _
  rw [Heap.size_push]
  exact h _ _ ((F.push _).push _) N1 fun p hp => Nat.lt_succ_of_lt (Heap.lt_size (N p hp).1)
theorem slice_tuple_whole {value slice : Expr} {t : Addr} {vs : List Value} {b : Nat} {i : Int} {u : Tok} {Q : Value → Shared → Prop}
    (F : Fr h₀ L s.heap m) (N : News h₀ L s.heap news) (ht : IsTup s.heap t vs.toArray) (hi : i = (b : Int)) (hb : vs.length ≤ b)
    (h : ∀ h', Fr h₀ L h' m → News h₀ L h' news → Q (.ref t) { s with heap := h' })
    (hs : subscripted slice false (.ref t) (.ref s.heap.objs.size) = operate [.ref s.heap.objs.size, .ref t] (getItem (.ref t) (.ref s.heap.objs.size)) := by with_unfolding_all rfl)
    (hg : ∀ r, letTemporaryGo value (.ref t) r = pure () := by intro _; with_unfolding_all rfl) :
    wpAny (model prog w) A (subscriptTail value slice (.ref t) (.ref s.heap.objs.size)) Q E { s with heap := s.heap.push { cls := .type "slice", data := .fields #[.none, .int i u, .none] } } := by
  subst hi
  have ht' : IsTup (s.heap.push { cls := .type "slice", data := .fields #[.none, .int b u, .none] }) t vs.toArray := ht.keeps fun _ _ e => Heap.get?_push_of_some _ e
  exact subscriptTail_ops (s := { s with heap := s.heap.push { cls := .type "slice", data := .fields #[.none, .int b u, .none] } }) ht'.typeIs slot_tuple_getitem.lookup
    (getItem_tuple_whole ht' (Heap.IsSliceOf.new ..) (by rw [List.size_toArray]; exact hb) (h _ (F.push _) (N.grown fun _ _ e => Heap.get?_push_of_some _ e))) hs hg
theorem slice_tuple_fromK {value slice : Expr} {t : Addr} {vs : List Value} {a : Nat} {i : Int} {u : Tok} {Q : Value → Shared → Prop}
    (F : Fr h₀ L s.heap m) (N : News h₀ L s.heap news) (ht : IsTup s.heap t vs.toArray) (hi : i = (a : Int)) (h1 : 1 ≤ a) (ha : a ≤ vs.length) (hsz : vs.length ≤ 10000)
    (h : ∀ D h', Fr h₀ L h' m → News h₀ L h' ((D, ({ cls := .type "tuple", data := .seq (vs.drop a).toArray } : Obj)) :: news) → (∀ p ∈ news, p.1 < D) → Q (.ref D) { s with heap := h' })
    (hs : subscripted slice false (.ref t) (.ref s.heap.objs.size) = operate [.ref s.heap.objs.size, .ref t] (getItem (.ref t) (.ref s.heap.objs.size)) := by with_unfolding_all rfl)
    (hg : ∀ r, letTemporaryGo value (.ref t) r = pure () := by intro _; with_unfolding_all rfl) :
    wpAny (model prog w) A (subscriptTail value slice (.ref t) (.ref s.heap.objs.size)) Q E { s with heap := s.heap.push { cls := .type "slice", data := .fields #[.int i u, .none, .none] } } := by
  subst hi
  exact slice_tuple_from F N ht h1 (by rw [List.size_toArray]; exact ha) (fun h' F' N' => h _ h' F' N' fun p hp => Nat.lt_succ_of_lt (Heap.lt_size (N p hp).1)) hs hg (by rw [List.size_toArray, sizeLine_eq]; omega)
end

--deps PH PT
set_option genSizeOf false
set_option genInjectivity false
/-- the kinds of node: what stands beside the children -/
inductive Kind where
  | const (w a b : Int) | sig (w n : Int) | loc (w : Int) | ev
  | word (w n : Int) (b : Bool) | slice (w k : Int) | ext (w : Int) (b : Bool) | un (w : Int)
  | pick (w k : Int) | bin (w : Int) (b : Bool) | pow (w : Int) | cond (w : Int)
  | cat (w : Int) | call (w : Int) | sys (w : Int)

def Kind.ren : Kind → Kind
  | .sig w n => .sig w (n + 10)
  | .word w n b => .word w (n + 10) b
  | k => k
inductive T where
  | n0 (k : Kind) | n1 (k : Kind) (a : T) | n2 (k : Kind) (a b : T) | n3 (k : Kind) (a b c : T)

abbrev Led := List (Addr × Obj)
abbrev tupOf (vs : List Value) (n : Nat) : Obj := { cls := .type "tuple", data := .seq vs.toArray n }

/-- one node: v stands in the ledger as a node of kind k over the child values -/
inductive NAt (I : Led) : Value → Kind → List Value → Prop
  | const {a n t0 t1 t2 t3 w x y} : (a, tupOf [.str (Str.ofString "const") t0, .int w t1, .int x t2, .int y t3] n) ∈ I → NAt I (.ref a) (.const w x y) []
  | sig {a n t0 t1 t2 w x} : (a, tupOf [.str (Str.ofString "sig") t0, .int w t1, .int x t2] n) ∈ I → NAt I (.ref a) (.sig w x) []
  | loc {a n t0 t1 t2 w} : (a, tupOf [.str (Str.ofString "local") t0, .int w t1, .int 3 t2] n) ∈ I → NAt I (.ref a) (.loc w) []
  | ev {a n t0 t1 t2} : (a, tupOf [.str (Str.ofString "event") t0, .int 1 t1, .int 4 t2] n) ∈ I → NAt I (.ref a) .ev []
  | word {a n t0 t1 t2 w x b c} : (a, tupOf [.str (Str.ofString "word") t0, .int w t1, .int x t2, c, .bool b] n) ∈ I → NAt I (.ref a) (.word w x b) [c]
  | slice {a n t0 t1 t2 w k c} : (a, tupOf [.str (Str.ofString "slice") t0, .int w t1, c, .int k t2] n) ∈ I → NAt I (.ref a) (.slice w k) [c]
  | ext {a n t0 t1 w b c} : (a, tupOf [.str (Str.ofString "ext") t0, .int w t1, c, .bool b] n) ∈ I → NAt I (.ref a) (.ext w b) [c]
  | un {a n t0 t1 t2 w c} : (a, tupOf [.str (Str.ofString "un") t0, .int w t1, .str (Str.ofString "~") t2, c] n) ∈ I → NAt I (.ref a) (.un w) [c]
  | pick {a n t0 t1 t2 t3 w k c d} : (a, tupOf [.str (Str.ofString "pick") t0, .int w t1, c, d, .bool true, .int k t2, .int (-1) t3] n) ∈ I → NAt I (.ref a) (.pick w k) [c, d]
  | bin {a n t0 t1 t2 w b c d} : (a, tupOf [.str (Str.ofString "bin") t0, .int w t1, .str (Str.ofString "*") t2, c, d, .bool b] n) ∈ I → NAt I (.ref a) (.bin w b) [c, d]
  | pow {a n t0 t1 w c d} : (a, tupOf [.str (Str.ofString "pow") t0, .int w t1, c, d, .bool false, .bool true] n) ∈ I → NAt I (.ref a) (.pow w) [c, d]
  | cond {a n t0 t1 w c d e} : (a, tupOf [.str (Str.ofString "cond") t0, .int w t1, c, d, e] n) ∈ I → NAt I (.ref a) (.cond w) [c, d, e]
  | cat {a b n k t0 t1 w cs} : (a, tupOf [.str (Str.ofString "cat") t0, .int w t1, .ref b] n) ∈ I → (b, tupOf cs k) ∈ I → cs.length ≤ 3 → NAt I (.ref a) (.cat w) cs
  | call {a b n k t0 t1 t2 w cs} : (a, tupOf [.str (Str.ofString "call") t0, .int w t1, .int 7 t2, .ref b] n) ∈ I → (b, tupOf cs k) ∈ I → cs.length ≤ 3 → NAt I (.ref a) (.call w) cs
  | sys {a b n k t0 t1 t2 w cs} : (a, tupOf [.str (Str.ofString "sys") t0, .int w t1, .str (Str.ofString "$signed") t2, .ref b] n) ∈ I → (b, tupOf cs k) ∈ I → cs.length ≤ 3 → NAt I (.ref a) (.sys w) cs

inductive TIn (I : Led) : Value → T → Prop
  | n0 {v k} : NAt I v k [] → TIn I v (.n0 k)
  | n1 {v k c x} : NAt I v k [c] → TIn I c x → TIn I v (.n1 k x)
  | n2 {v k c d x y} : NAt I v k [c, d] → TIn I c x → TIn I d y → TIn I v (.n2 k x y)
  | n3 {v k c d e x y z} : NAt I v k [c, d, e] → TIn I c x → TIn I d y → TIn I e z → TIn I v (.n3 k x y z)

def IsTupO (o : Obj) : Prop := o.cls = .type "tuple" ∧ ∃ vs n, o.data = .seq vs n
def Tups (l : Led) : Prop := ∀ q ∈ l, IsTupO q.2

/-- what a call does, from any frame -/
def Run (w : World) (f : Value) (vs : List Value) (D U : Nat) (news : Led) (Post : Value → Led → Prop) : Prop :=
  ∀ (p : Program) (loose : List Str) (mean : ExcName → Option Value) (mg mb : Str → Option Value) (A A₀ : Around) (env : Env) (outer : List Env) (base h₀ : Heap) (L : Addr) (m : Str → Option Value) (s : Shared) (Q E : Value → Shared → Prop),
    Below A₀ base outer h₀ → Fr h₀ L s.heap m → (hd.heap_39 w.params).In h₀ → News h₀ L s.heap news → Top p loose mean mg mb h₀ → A.frames = some (env :: outer) → env.frame = some L → env.scope.kind = .function →
    A.handled = none → A.depth + D < recursionLimit → A.units + U < cLine →
    (∀ r news' h' tk', Fr h₀ L h' m → News h₀ L h' news' → Post r news' → Q r { s with heap := h', toks := tk' }) →
    wpAny (model PySem.Challenge.rw_on0085_01.row.prog w) A (call f vs) Q E s

theorem tups_nil : Tups [] := fun _ h => nomatch h
theorem tups_one {a : Addr} {o : Obj} (h : IsTupO o) : Tups [(a, o)] := fun q hq => by
  cases hq with
  | head => exact h
  | tail _ h => cases h
theorem tups_app {a b : Led} (ha : Tups a) (hb : Tups b) : Tups (a ++ b) := fun q hq => (List.mem_append.mp hq).elim (ha q) (hb q)
theorem tups_cons {a : Addr} {o : Obj} {r : Led} (h : IsTupO o) (hr : Tups r) : Tups ((a, o) :: r) := fun q hq => by
  cases hq with
  | head => exact h
  | tail _ h => exact hr q h
/-- a list's place is no place of a tuple -/
theorem ne_tups {h₀ h : Heap} {L d : Addr} {o : Obj} {news tl : Led} (N : News h₀ L h news) (ht : Tups tl) (hs : ∀ q ∈ tl, q ∈ news) (hm : (d, o) ∈ news) (ho : o.cls ≠ .type "tuple") : ∀ q ∈ tl, q.1 ≠ d := by
  intro q hq e
  have h1 := (N q (hs q hq)).1
  have h2 := (N _ hm).1
  rw [e] at h1
  rw [h1] at h2
  have h3 : q.2 = o := Option.some.inj h2
  exact ho (h3 ▸ (ht q hq).1)
/-- a cell's place is no place of a tuple -/
theorem ne_tups_cell {h₀ h : Heap} {L d : Addr} {o : Obj} {v : Option Value} {news tl : Led} (N : News h₀ L h news) (ht : Tups tl) (hs : ∀ q ∈ tl, q ∈ news) (hm : (d, o) ∈ news) (hd : o.data = .cell v) : ∀ q ∈ tl, q.1 ≠ d := by
  intro q hq e
  have h1 := (N q (hs q hq)).1
  have h2 := (N _ hm).1
  rw [e] at h1
  rw [h1] at h2
  have h3 : q.2 = o := Option.some.inj h2
  obtain ⟨_, vs, n, hx⟩ := ht q hq
  rw [h3, hd] at hx
  cases hx
theorem pr0 {p q : Prop} (h : p ∧ q) : p := h.1
theorem pr1 {a0 p q : Prop} (h : a0 ∧ p ∧ q) : p := h.2.1
theorem pe1 {a0 p : Prop} (h : a0 ∧ p) : p := h.2
theorem pr2 {a0 a1 p q : Prop} (h : a0 ∧ a1 ∧ p ∧ q) : p := h.2.2.1
theorem pe2 {a0 a1 p : Prop} (h : a0 ∧ a1 ∧ p) : p := h.2.2
theorem pr3 {a0 a1 a2 p q : Prop} (h : a0 ∧ a1 ∧ a2 ∧ p ∧ q) : p := h.2.2.2.1
theorem pe3 {a0 a1 a2 p : Prop} (h : a0 ∧ a1 ∧ a2 ∧ p) : p := h.2.2.2
theorem pr4 {a0 a1 a2 a3 p q : Prop} (h : a0 ∧ a1 ∧ a2 ∧ a3 ∧ p ∧ q) : p := h.2.2.2.2.1
theorem pe4 {a0 a1 a2 a3 p : Prop} (h : a0 ∧ a1 ∧ a2 ∧ a3 ∧ p) : p := h.2.2.2.2
theorem pr5 {a0 a1 a2 a3 a4 p q : Prop} (h : a0 ∧ a1 ∧ a2 ∧ a3 ∧ a4 ∧ p ∧ q) : p := h.2.2.2.2.2.1
theorem pe5 {a0 a1 a2 a3 a4 p : Prop} (h : a0 ∧ a1 ∧ a2 ∧ a3 ∧ a4 ∧ p) : p := h.2.2.2.2.2
theorem pr6 {a0 a1 a2 a3 a4 a5 p q : Prop} (h : a0 ∧ a1 ∧ a2 ∧ a3 ∧ a4 ∧ a5 ∧ p ∧ q) : p := h.2.2.2.2.2.2.1
theorem pe6 {a0 a1 a2 a3 a4 a5 p : Prop} (h : a0 ∧ a1 ∧ a2 ∧ a3 ∧ a4 ∧ a5 ∧ p) : p := h.2.2.2.2.2.2
theorem pr7 {a0 a1 a2 a3 a4 a5 a6 p q : Prop} (h : a0 ∧ a1 ∧ a2 ∧ a3 ∧ a4 ∧ a5 ∧ a6 ∧ p ∧ q) : p := h.2.2.2.2.2.2.2.1
theorem pe7 {a0 a1 a2 a3 a4 a5 a6 p : Prop} (h : a0 ∧ a1 ∧ a2 ∧ a3 ∧ a4 ∧ a5 ∧ a6 ∧ p) : p := h.2.2.2.2.2.2.2
theorem pr8 {a0 a1 a2 a3 a4 a5 a6 a7 p q : Prop} (h : a0 ∧ a1 ∧ a2 ∧ a3 ∧ a4 ∧ a5 ∧ a6 ∧ a7 ∧ p ∧ q) : p := h.2.2.2.2.2.2.2.2.1
theorem pe8 {a0 a1 a2 a3 a4 a5 a6 a7 p : Prop} (h : a0 ∧ a1 ∧ a2 ∧ a3 ∧ a4 ∧ a5 ∧ a6 ∧ a7 ∧ p) : p := h.2.2.2.2.2.2.2.2
theorem pr9 {a0 a1 a2 a3 a4 a5 a6 a7 a8 p q : Prop} (h : a0 ∧ a1 ∧ a2 ∧ a3 ∧ a4 ∧ a5 ∧ a6 ∧ a7 ∧ a8 ∧ p ∧ q) : p := h.2.2.2.2.2.2.2.2.2.1
theorem pe9 {a0 a1 a2 a3 a4 a5 a6 a7 a8 p : Prop} (h : a0 ∧ a1 ∧ a2 ∧ a3 ∧ a4 ∧ a5 ∧ a6 ∧ a7 ∧ a8 ∧ p) : p := h.2.2.2.2.2.2.2.2.2
theorem pr10 {a0 a1 a2 a3 a4 a5 a6 a7 a8 a9 p q : Prop} (h : a0 ∧ a1 ∧ a2 ∧ a3 ∧ a4 ∧ a5 ∧ a6 ∧ a7 ∧ a8 ∧ a9 ∧ p ∧ q) : p := h.2.2.2.2.2.2.2.2.2.2.1
theorem pe10 {a0 a1 a2 a3 a4 a5 a6 a7 a8 a9 p : Prop} (h : a0 ∧ a1 ∧ a2 ∧ a3 ∧ a4 ∧ a5 ∧ a6 ∧ a7 ∧ a8 ∧ a9 ∧ p) : p := h.2.2.2.2.2.2.2.2.2.2
theorem pr11 {a0 a1 a2 a3 a4 a5 a6 a7 a8 a9 a10 p q : Prop} (h : a0 ∧ a1 ∧ a2 ∧ a3 ∧ a4 ∧ a5 ∧ a6 ∧ a7 ∧ a8 ∧ a9 ∧ a10 ∧ p ∧ q) : p := h.2.2.2.2.2.2.2.2.2.2.2.1
theorem pe11 {a0 a1 a2 a3 a4 a5 a6 a7 a8 a9 a10 p : Prop} (h : a0 ∧ a1 ∧ a2 ∧ a3 ∧ a4 ∧ a5 ∧ a6 ∧ a7 ∧ a8 ∧ a9 ∧ a10 ∧ p) : p := h.2.2.2.2.2.2.2.2.2.2.2
theorem pr12 {a0 a1 a2 a3 a4 a5 a6 a7 a8 a9 a10 a11 p q : Prop} (h : a0 ∧ a1 ∧ a2 ∧ a3 ∧ a4 ∧ a5 ∧ a6 ∧ a7 ∧ a8 ∧ a9 ∧ a10 ∧ a11 ∧ p ∧ q) : p := h.2.2.2.2.2.2.2.2.2.2.2.2.1
theorem pe12 {a0 a1 a2 a3 a4 a5 a6 a7 a8 a9 a10 a11 p : Prop} (h : a0 ∧ a1 ∧ a2 ∧ a3 ∧ a4 ∧ a5 ∧ a6 ∧ a7 ∧ a8 ∧ a9 ∧ a10 ∧ a11 ∧ p) : p := h.2.2.2.2.2.2.2.2.2.2.2.2
theorem pr13 {a0 a1 a2 a3 a4 a5 a6 a7 a8 a9 a10 a11 a12 p q : Prop} (h : a0 ∧ a1 ∧ a2 ∧ a3 ∧ a4 ∧ a5 ∧ a6 ∧ a7 ∧ a8 ∧ a9 ∧ a10 ∧ a11 ∧ a12 ∧ p ∧ q) : p := h.2.2.2.2.2.2.2.2.2.2.2.2.2.1
theorem pe13 {a0 a1 a2 a3 a4 a5 a6 a7 a8 a9 a10 a11 a12 p : Prop} (h : a0 ∧ a1 ∧ a2 ∧ a3 ∧ a4 ∧ a5 ∧ a6 ∧ a7 ∧ a8 ∧ a9 ∧ a10 ∧ a11 ∧ a12 ∧ p) : p := h.2.2.2.2.2.2.2.2.2.2.2.2.2
theorem pr14 {a0 a1 a2 a3 a4 a5 a6 a7 a8 a9 a10 a11 a12 a13 p q : Prop} (h : a0 ∧ a1 ∧ a2 ∧ a3 ∧ a4 ∧ a5 ∧ a6 ∧ a7 ∧ a8 ∧ a9 ∧ a10 ∧ a11 ∧ a12 ∧ a13 ∧ p ∧ q) : p := h.2.2.2.2.2.2.2.2.2.2.2.2.2.2.1
theorem pe14 {a0 a1 a2 a3 a4 a5 a6 a7 a8 a9 a10 a11 a12 a13 p : Prop} (h : a0 ∧ a1 ∧ a2 ∧ a3 ∧ a4 ∧ a5 ∧ a6 ∧ a7 ∧ a8 ∧ a9 ∧ a10 ∧ a11 ∧ a12 ∧ a13 ∧ p) : p := h.2.2.2.2.2.2.2.2.2.2.2.2.2.2
theorem pr15 {a0 a1 a2 a3 a4 a5 a6 a7 a8 a9 a10 a11 a12 a13 a14 p q : Prop} (h : a0 ∧ a1 ∧ a2 ∧ a3 ∧ a4 ∧ a5 ∧ a6 ∧ a7 ∧ a8 ∧ a9 ∧ a10 ∧ a11 ∧ a12 ∧ a13 ∧ a14 ∧ p ∧ q) : p := h.2.2.2.2.2.2.2.2.2.2.2.2.2.2.2.1
theorem pe15 {a0 a1 a2 a3 a4 a5 a6 a7 a8 a9 a10 a11 a12 a13 a14 p : Prop} (h : a0 ∧ a1 ∧ a2 ∧ a3 ∧ a4 ∧ a5 ∧ a6 ∧ a7 ∧ a8 ∧ a9 ∧ a10 ∧ a11 ∧ a12 ∧ a13 ∧ a14 ∧ p) : p := h.2.2.2.2.2.2.2.2.2.2.2.2.2.2.2
theorem pr16 {a0 a1 a2 a3 a4 a5 a6 a7 a8 a9 a10 a11 a12 a13 a14 a15 p q : Prop} (h : a0 ∧ a1 ∧ a2 ∧ a3 ∧ a4 ∧ a5 ∧ a6 ∧ a7 ∧ a8 ∧ a9 ∧ a10 ∧ a11 ∧ a12 ∧ a13 ∧ a14 ∧ a15 ∧ p ∧ q) : p := h.2.2.2.2.2.2.2.2.2.2.2.2.2.2.2.2.1
theorem pe16 {a0 a1 a2 a3 a4 a5 a6 a7 a8 a9 a10 a11 a12 a13 a14 a15 p : Prop} (h : a0 ∧ a1 ∧ a2 ∧ a3 ∧ a4 ∧ a5 ∧ a6 ∧ a7 ∧ a8 ∧ a9 ∧ a10 ∧ a11 ∧ a12 ∧ a13 ∧ a14 ∧ a15 ∧ p) : p := h.2.2.2.2.2.2.2.2.2.2.2.2.2.2.2.2
theorem pr17 {a0 a1 a2 a3 a4 a5 a6 a7 a8 a9 a10 a11 a12 a13 a14 a15 a16 p q : Prop} (h : a0 ∧ a1 ∧ a2 ∧ a3 ∧ a4 ∧ a5 ∧ a6 ∧ a7 ∧ a8 ∧ a9 ∧ a10 ∧ a11 ∧ a12 ∧ a13 ∧ a14 ∧ a15 ∧ a16 ∧ p ∧ q) : p := h.2.2.2.2.2.2.2.2.2.2.2.2.2.2.2.2.2.1
theorem pe17 {a0 a1 a2 a3 a4 a5 a6 a7 a8 a9 a10 a11 a12 a13 a14 a15 a16 p : Prop} (h : a0 ∧ a1 ∧ a2 ∧ a3 ∧ a4 ∧ a5 ∧ a6 ∧ a7 ∧ a8 ∧ a9 ∧ a10 ∧ a11 ∧ a12 ∧ a13 ∧ a14 ∧ a15 ∧ a16 ∧ p) : p := h.2.2.2.2.2.2.2.2.2.2.2.2.2.2.2.2.2
theorem pr18 {a0 a1 a2 a3 a4 a5 a6 a7 a8 a9 a10 a11 a12 a13 a14 a15 a16 a17 p q : Prop} (h : a0 ∧ a1 ∧ a2 ∧ a3 ∧ a4 ∧ a5 ∧ a6 ∧ a7 ∧ a8 ∧ a9 ∧ a10 ∧ a11 ∧ a12 ∧ a13 ∧ a14 ∧ a15 ∧ a16 ∧ a17 ∧ p ∧ q) : p := h.2.2.2.2.2.2.2.2.2.2.2.2.2.2.2.2.2.2.1
theorem pe18 {a0 a1 a2 a3 a4 a5 a6 a7 a8 a9 a10 a11 a12 a13 a14 a15 a16 a17 p : Prop} (h : a0 ∧ a1 ∧ a2 ∧ a3 ∧ a4 ∧ a5 ∧ a6 ∧ a7 ∧ a8 ∧ a9 ∧ a10 ∧ a11 ∧ a12 ∧ a13 ∧ a14 ∧ a15 ∧ a16 ∧ a17 ∧ p) : p := h.2.2.2.2.2.2.2.2.2.2.2.2.2.2.2.2.2.2
theorem pr19 {a0 a1 a2 a3 a4 a5 a6 a7 a8 a9 a10 a11 a12 a13 a14 a15 a16 a17 a18 p q : Prop} (h : a0 ∧ a1 ∧ a2 ∧ a3 ∧ a4 ∧ a5 ∧ a6 ∧ a7 ∧ a8 ∧ a9 ∧ a10 ∧ a11 ∧ a12 ∧ a13 ∧ a14 ∧ a15 ∧ a16 ∧ a17 ∧ a18 ∧ p ∧ q) : p := h.2.2.2.2.2.2.2.2.2.2.2.2.2.2.2.2.2.2.2.1
theorem pe19 {a0 a1 a2 a3 a4 a5 a6 a7 a8 a9 a10 a11 a12 a13 a14 a15 a16 a17 a18 p : Prop} (h : a0 ∧ a1 ∧ a2 ∧ a3 ∧ a4 ∧ a5 ∧ a6 ∧ a7 ∧ a8 ∧ a9 ∧ a10 ∧ a11 ∧ a12 ∧ a13 ∧ a14 ∧ a15 ∧ a16 ∧ a17 ∧ a18 ∧ p) : p := h.2.2.2.2.2.2.2.2.2.2.2.2.2.2.2.2.2.2.2
theorem pr20 {a0 a1 a2 a3 a4 a5 a6 a7 a8 a9 a10 a11 a12 a13 a14 a15 a16 a17 a18 a19 p q : Prop} (h : a0 ∧ a1 ∧ a2 ∧ a3 ∧ a4 ∧ a5 ∧ a6 ∧ a7 ∧ a8 ∧ a9 ∧ a10 ∧ a11 ∧ a12 ∧ a13 ∧ a14 ∧ a15 ∧ a16 ∧ a17 ∧ a18 ∧ a19 ∧ p ∧ q) : p := h.2.2.2.2.2.2.2.2.2.2.2.2.2.2.2.2.2.2.2.2.1
theorem pe20 {a0 a1 a2 a3 a4 a5 a6 a7 a8 a9 a10 a11 a12 a13 a14 a15 a16 a17 a18 a19 p : Prop} (h : a0 ∧ a1 ∧ a2 ∧ a3 ∧ a4 ∧ a5 ∧ a6 ∧ a7 ∧ a8 ∧ a9 ∧ a10 ∧ a11 ∧ a12 ∧ a13 ∧ a14 ∧ a15 ∧ a16 ∧ a17 ∧ a18 ∧ a19 ∧ p) : p := h.2.2.2.2.2.2.2.2.2.2.2.2.2.2.2.2.2.2.2.2
theorem pr21 {a0 a1 a2 a3 a4 a5 a6 a7 a8 a9 a10 a11 a12 a13 a14 a15 a16 a17 a18 a19 a20 p q : Prop} (h : a0 ∧ a1 ∧ a2 ∧ a3 ∧ a4 ∧ a5 ∧ a6 ∧ a7 ∧ a8 ∧ a9 ∧ a10 ∧ a11 ∧ a12 ∧ a13 ∧ a14 ∧ a15 ∧ a16 ∧ a17 ∧ a18 ∧ a19 ∧ a20 ∧ p ∧ q) : p := h.2.2.2.2.2.2.2.2.2.2.2.2.2.2.2.2.2.2.2.2.2.1
theorem pe21 {a0 a1 a2 a3 a4 a5 a6 a7 a8 a9 a10 a11 a12 a13 a14 a15 a16 a17 a18 a19 a20 p : Prop} (h : a0 ∧ a1 ∧ a2 ∧ a3 ∧ a4 ∧ a5 ∧ a6 ∧ a7 ∧ a8 ∧ a9 ∧ a10 ∧ a11 ∧ a12 ∧ a13 ∧ a14 ∧ a15 ∧ a16 ∧ a17 ∧ a18 ∧ a19 ∧ a20 ∧ p) : p := h.2.2.2.2.2.2.2.2.2.2.2.2.2.2.2.2.2.2.2.2.2
theorem pr22 {a0 a1 a2 a3 a4 a5 a6 a7 a8 a9 a10 a11 a12 a13 a14 a15 a16 a17 a18 a19 a20 a21 p q : Prop} (h : a0 ∧ a1 ∧ a2 ∧ a3 ∧ a4 ∧ a5 ∧ a6 ∧ a7 ∧ a8 ∧ a9 ∧ a10 ∧ a11 ∧ a12 ∧ a13 ∧ a14 ∧ a15 ∧ a16 ∧ a17 ∧ a18 ∧ a19 ∧ a20 ∧ a21 ∧ p ∧ q) : p := h.2.2.2.2.2.2.2.2.2.2.2.2.2.2.2.2.2.2.2.2.2.2.1
theorem pe22 {a0 a1 a2 a3 a4 a5 a6 a7 a8 a9 a10 a11 a12 a13 a14 a15 a16 a17 a18 a19 a20 a21 p : Prop} (h : a0 ∧ a1 ∧ a2 ∧ a3 ∧ a4 ∧ a5 ∧ a6 ∧ a7 ∧ a8 ∧ a9 ∧ a10 ∧ a11 ∧ a12 ∧ a13 ∧ a14 ∧ a15 ∧ a16 ∧ a17 ∧ a18 ∧ a19 ∧ a20 ∧ a21 ∧ p) : p := h.2.2.2.2.2.2.2.2.2.2.2.2.2.2.2.2.2.2.2.2.2.2
theorem pr23 {a0 a1 a2 a3 a4 a5 a6 a7 a8 a9 a10 a11 a12 a13 a14 a15 a16 a17 a18 a19 a20 a21 a22 p q : Prop} (h : a0 ∧ a1 ∧ a2 ∧ a3 ∧ a4 ∧ a5 ∧ a6 ∧ a7 ∧ a8 ∧ a9 ∧ a10 ∧ a11 ∧ a12 ∧ a13 ∧ a14 ∧ a15 ∧ a16 ∧ a17 ∧ a18 ∧ a19 ∧ a20 ∧ a21 ∧ a22 ∧ p ∧ q) : p := h.2.2.2.2.2.2.2.2.2.2.2.2.2.2.2.2.2.2.2.2.2.2.2.1
theorem pe23 {a0 a1 a2 a3 a4 a5 a6 a7 a8 a9 a10 a11 a12 a13 a14 a15 a16 a17 a18 a19 a20 a21 a22 p : Prop} (h : a0 ∧ a1 ∧ a2 ∧ a3 ∧ a4 ∧ a5 ∧ a6 ∧ a7 ∧ a8 ∧ a9 ∧ a10 ∧ a11 ∧ a12 ∧ a13 ∧ a14 ∧ a15 ∧ a16 ∧ a17 ∧ a18 ∧ a19 ∧ a20 ∧ a21 ∧ a22 ∧ p) : p := h.2.2.2.2.2.2.2.2.2.2.2.2.2.2.2.2.2.2.2.2.2.2.2
theorem nA {x y p : Nat} {r : Prop} (h : p ≠ y ∧ r) (k : (p ≠ y ∧ r) → x ≠ y) : x ≠ y := k h
theorem nB {x y p : Nat} {r : Prop} (h : p ≠ x ∧ r) (k : (p ≠ x ∧ r) → x ≠ y) : x ≠ y := k h
theorem lA {x y p : Nat} {r : Prop} (h : p < y ∧ r) (k : (p < y ∧ r) → x ≠ y) : x ≠ y := k h
theorem lB {x y p : Nat} {r : Prop} (h : p < x ∧ r) (k : (p < x ∧ r) → x ≠ y) : x ≠ y := k h
theorem kw1 : True := by
  (k_with "zu pr" => first | exact pr0 (by assumption) | exact pr1 (by assumption) | exact pe1 (by assumption) | exact pr2 (by assumption) | exact pe2 (by assumption) | exact pr3 (by assumption) | exact pe3 (by assumption) | exact pr4 (by assumption) | exact pe4 (by assumption) | exact pr5 (by assumption) | exact pe5 (by assumption) | exact pr6 (by assumption) | exact pe6 (by assumption) | exact pr7 (by assumption) | exact pe7 (by assumption) | exact pr8 (by assumption) | exact pe8 (by assumption) | exact pr9 (by assumption) | exact pe9 (by assumption) | exact pr10 (by assumption) | exact pe10 (by assumption) | exact pr11 (by assumption) | exact pe11 (by assumption) | exact pr12 (by assumption) | exact pe12 (by assumption) | exact pr13 (by assumption) | exact pe13 (by assumption) | exact pr14 (by assumption) | exact pe14 (by assumption) | exact pr15 (by assumption) | exact pe15 (by assumption) | exact pr16 (by assumption) | exact pe16 (by assumption) | exact pr17 (by assumption) | exact pe17 (by assumption) | exact pr18 (by assumption) | exact pe18 (by assumption) | exact pr19 (by assumption) | exact pe19 (by assumption) | exact pr20 (by assumption) | exact pe20 (by assumption) | exact pr21 (by assumption) | exact pe21 (by assumption) | exact pr22 (by assumption) | exact pe22 (by assumption) | exact pr23 (by assumption) | exact pe23 (by assumption))
  exact True.intro
theorem kw2 : True := by
  (k_with "zu ne" => (refine neN ?_; (try dsimp only); first | (with_reducible first | assumption | exact Ne.symm (by assumption) | exact Nat.ne_of_lt (by assumption) | exact Nat.ne_of_gt (by assumption) | ((fail_if_success (fail_if_success (refine nA (by assumption) ?_))); walk_at "u pr") | ((fail_if_success (fail_if_success (refine nB (by assumption) ?_))); refine Ne.symm ?_; walk_at "u pr") | ((fail_if_success (fail_if_success (refine lA (by assumption) ?_))); refine Nat.ne_of_lt ?_; walk_at "u pr") | ((fail_if_success (fail_if_success (refine lB (by assumption) ?_))); refine Nat.ne_of_gt ?_; walk_at "u pr")) | omega))
  exact True.intro
local macro_rules | `(tactic| k_lt $h:ident) => `(tactic| (replace $h := allLt_of $h; dsimp only [AllLt] at $h:ident))
local macro_rules | `(tactic| k_ne) => `(tactic| walk_at "u ne")
theorem kw3 : True := by
  (k_with "zu len" => ((repeat (first | assumption | exact Nat.le_refl _ | refine Nat.le_trans (by assumption) ?_)); done))
  exact True.intro
theorem kw4 : True := by
  (k_with "zu om" => first | (with_reducible assumption) | (with_reducible walk_at "u len") | (with_reducible ((repeat (rename (_ ≠ _ ∧ _) => kx; clear kx)); (repeat (rename (_ < _ ∧ _) => kx; clear kx))); omega))
  exact True.intro
local macro_rules | `(tactic| is_list) => `(tactic| exact News.isList (by assumption) (by kcf_m))
theorem kw5 : True := by
  (k_with "zcall type:tuple" => row_timed "z" (fail "z"; (k_here; (with_reducible show wpAny _ _ (call (Value.type _) [Value.ref _]) _ _ _); k_dflt (refine' kde_tupleOf ?Zk1 ?Zk2 ?Zk3 ?Zk4 ?Zk5 ?_; (case Zk1 => k_asm); (case Zk2 => k_asm); (case Zk3 => exact News.isList (by k_asm) (by kcf_m)); (case Zk4 => (simp only [List.size_toArray]; first | assumption | walk_at "u om")); (case Zk5 => exact rfl); k_whole); intro ZD' Zh' ZF' ZN' Zl1; (try k_sweep))))
  exact True.intro
theorem pop0 {prog : Program} {w : World} {A : Around} {E : Value → Shared → Prop} {s : Shared} {h₀ : Heap} {L D : Addr} {m : Str → Option Value} {news news' : Led} {n : Nat} {x : Value} {xs : List Value} {u : Tok} {Q : Value → Shared → Prop}
    (F : Fr h₀ L s.heap m) (N : News h₀ L s.heap news) (U : Upd D (listOf (x :: xs).toArray n) (listOf xs.toArray (n + 1)) news news') (hz : xs.length < 10000)
    (h : ∀ h', Fr h₀ L h' m → News h₀ L h' news' → Q x { s with heap := h' }) : wpAny (model prog w) A (call (.builtin "list.pop") [.ref D, .int 0 u]) Q E s :=
  kl_popAt (k := 0) (p := []) (q := xs) F N rfl (by simp [seqIndex?]) rfl U (by simp only [List.length_cons, sizeLine_eq]; omega) h
theorem kw6 : True := by
  (k_with "zcall builtin:list.pop" => row_timed "z" (fail "z"; (k_here; (with_reducible show wpAny _ _ (call (Value.builtin _) [Value.ref _, Value.int 0 _]) _ _ _); k_dflt (refine' pop0 ?ZF ?ZN ?ZU ?Zz ?_; (case ZF => k_asm); (case ZN => k_asm); (case ZU => k_upd); (case Zz => (simp only [List.length_cons] at *; walk_at "u om")); k_whole); intro Zh' ZF' ZN'; (try k_sweep))))
  exact True.intro
local macro_rules | `(tactic| k_all) => `(tactic| first
  | assumption
  | exact List.forall_mem_nil _
  | exact ne_tups (by k_asm) (by assumption) (by walk_at "u sub") (by kcf_m) (by show Value.type "list" ≠ Value.type "tuple"; decide)
  | exact ne_tups_cell (by k_asm) (by assumption) (by walk_at "u sub") (by kcf_m) (by assumption)
  | (refine' List.forall_mem_append.mpr ⟨?a, ?b⟩; (case a => k_all); (case b => k_all))
  | (refine' List.forall_mem_cons.mpr ⟨?a, ?b⟩; (case a => k_ne); (case b => k_all)))
theorem News.drop {h₀ h : Heap} {L : Addr} {q : Addr × Obj} {r : Led} (N : News h₀ L h (q :: r)) : News h₀ L h r := fun p hp => N p (.tail _ hp)
theorem News.sub {h₀ h : Heap} {L : Addr} {l r : Led} (N : News h₀ L h l) (hs : ∀ q ∈ r, q ∈ l) : News h₀ L h r := fun p hp => N p (hs p hp)
inductive Pick (q : Addr × Obj) : Led → Led → Prop
  | head {r} : Pick q (q :: r) r
  | tail {p r r'} : Pick q r r' → Pick q (p :: r) (p :: r')
theorem Pick.mem {q : Addr × Obj} {l r : Led} (h : Pick q l r) : ∀ p ∈ q :: r, p ∈ l := by
  induction h with
  | head => exact fun _ h => h
  | tail _ ih =>
    intro p hp
    rcases List.mem_cons.mp hp with rfl | hp
    · exact .tail _ (ih _ (.head _))
    · rcases List.mem_cons.mp hp with rfl | hp
      · exact .head _
      · exact .tail _ (ih _ (.tail _ hp))
theorem News.pick {h₀ h : Heap} {L : Addr} {q : Addr × Obj} {l r : Led} (hp : Pick q l r) (N : News h₀ L h l) : News h₀ L h (q :: r) := News.sub N hp.mem
/-- what a call asks of the frame that makes it -/
structure FrameOk (w : World) (p : Program) (loose : List Str) (mean : ExcName → Option Value) (mg mb : Str → Option Value) (A A₀ : Around) (env : Env) (outer : List Env) (base h₀ : Heap) (L : Addr) (m : Str → Option Value) (h : Heap) (D U : Nat) : Prop where
  B : Below A₀ base outer h₀
  F : Fr h₀ L h m
  X : (hd.heap_39 w.params).In h₀
  T : Top p loose mean mg mb h₀
  hA : A.frames = some (env :: outer)
  hf : env.frame = some L
  hke : env.scope.kind = .function
  hh : A.handled = none
  hd : A.depth + D < recursionLimit
  hu : A.units + U < cLine
theorem Run.use {w : World} {f : Value} {vs : List Value} {D U : Nat} {news : Led} {Post : Value → Led → Prop} {p : Program} {loose : List Str} {mean : ExcName → Option Value} {mg mb : Str → Option Value} {A A₀ : Around} {env : Env} {outer : List Env} {base h₀ : Heap} {L : Addr} {m : Str → Option Value} {s : Shared} {Q E : Value → Shared → Prop}
    (R : Run w f vs D U news Post) (fr : FrameOk w p loose mean mg mb A A₀ env outer base h₀ L m s.heap D U) (N : News h₀ L s.heap news)
    (ret : ∀ r news' h' tk', Fr h₀ L h' m → News h₀ L h' news' → Post r news' → Q r { s with heap := h', toks := tk' }) :
    wpAny (model PySem.Challenge.rw_on0085_01.row.prog w) A (call f vs) Q E s := R _ _ _ _ _ _ _ _ _ _ _ _ _ _ _ _ fr.B fr.F fr.X N fr.T fr.hA fr.hf fr.hke fr.hh fr.hd fr.hu ret
/-- a call, its answer handed on in pieces -/
theorem Run.useK {w : World} {f : Value} {vs : List Value} {D U : Nat} {news : Led} {Post : Value → Led → Prop} {K : (Value → Led → Prop) → Prop} {p : Program} {loose : List Str} {mean : ExcName → Option Value} {mg mb : Str → Option Value} {A A₀ : Around} {env : Env} {outer : List Env} {base h₀ : Heap} {L : Addr} {m : Str → Option Value} {s : Shared} {Q E : Value → Shared → Prop}
    (R : Run w f vs D U news Post) (el : ∀ S : Value → Led → Prop, K S → ∀ r news', Post r news' → S r news') (fr : FrameOk w p loose mean mg mb A A₀ env outer base h₀ L m s.heap D U) (N : News h₀ L s.heap news)
    (ret : K fun r news' => ∀ h' tk', Fr h₀ L h' m → News h₀ L h' news' → Q r { s with heap := h', toks := tk' }) :
    wpAny (model PySem.Challenge.rw_on0085_01.row.prog w) A (call f vs) Q E s := Run.use R fr N fun r news' h' tk' F N P => el _ ret r news' P h' tk' F N
theorem frames_of {A : Around} {e e' : Env} {l : List Env} (h : A.frames = some (e' :: l)) : (A.deeper e).frames = some (e :: e' :: l) := Around.frames_deeper h
theorem kw7 : True := by
  (k_with "zsubscriptTail Name Name ref int" => row_timed "z" (fail "z"; (k_here; (with_reducible show wpAny _ _ (subscriptTail _ _ (Value.ref _) (Value.int _ _)) _ _ _); (fail_if_success (with_reducible show wpAny _ _ (subscriptTail _ _ (Value.ref _) (Value.int (OfNat.ofNat _) _)) _ _ _)); (with_unfolding_all refine' pickK ?Zk3 ?Zk4 ?Zk5 ?Zk6 ?_ ?Zk7; (case Zk3 => exact News.isList (by k_asm) (by kcf_m)); (case Zk4 => walk_at "u om"); (case Zk5 => (simp only [List.length_cons, List.length_nil]; walk_at "u om")); (case Zk6 => walk_at "u om"); (case Zk7 => with_unfolding_all rfl); k_whole); (dsimp only [PickAt]); k_places; (all_goals (try k_fold)))))
  exact True.intro
theorem kw8 : True := by
  (k_with "zsubscriptTail Name Call ref int" => walk_at "subscriptTail Name Name ref int")
  exact True.intro
theorem kw9 : True := by
  (k_with "zsubscriptTail List" => (k_here; k_dflt (refine kba_turn (value' := PySem.Expr.Name (PySem.Str.ofString "_") ⟨0, 0, 0, 0⟩) (fun _ => rfl) ?_)))
  exact True.intro
theorem kw10 : True := by
  (k_with "zsubscriptTail Tuple" => walk_at "subscriptTail List")
  exact True.intro
inductive Split (rest : Led) : Led → Led → Prop
  | base : Split rest rest []
  | keep {a o r tl} : IsTupO o → Split rest r tl → Split rest ((a, o) :: r) ((a, o) :: tl)
  | skip {p r tl} : Split rest r tl → Split rest (p :: r) tl
  | app {t r tl} : Tups t → Split rest r tl → Split rest (r ++ t) (tl ++ t)
theorem Split.spec {rest r tl : Led} (h : Split rest r tl) : Tups tl ∧ (∀ q ∈ tl, q ∈ r) ∧ ∀ q ∈ rest, q ∈ r := by
  induction h with
  | base => exact ⟨tups_nil, fun _ h => (nomatch h), fun _ h => h⟩
  | keep hc _ ih => exact ⟨tups_cons hc ih.1, fun q hq => by
      rcases List.mem_cons.mp hq with rfl | hq
      · exact .head _
      · exact .tail _ (ih.2.1 q hq), fun q hq => .tail _ (ih.2.2 q hq)⟩
  | skip _ ih => exact ⟨ih.1, fun q hq => .tail _ (ih.2.1 q hq), fun q hq => .tail _ (ih.2.2 q hq)⟩
  | app ht _ ih => exact ⟨tups_app ih.1 ht, fun q hq => by
      rcases List.mem_append.mp hq with hq | hq
      · exact List.mem_append.mpr (.inl (ih.2.1 q hq))
      · exact List.mem_append.mpr (.inr hq), fun q hq => List.mem_append.mpr (.inl (ih.2.2 q hq))⟩
theorem ledEnd {h₀ h : Heap} {L : Addr} {q : Addr × Obj} {l r tl rest : Led} (N : News h₀ L h l) (hp : Pick q l r) (hs : Split rest r tl) (hq : q.2.cls ≠ .type "tuple") :
    News h₀ L h (q :: (rest ++ tl)) ∧ Tups tl ∧ ∀ p ∈ tl, p.1 ≠ q.1 := by
  obtain ⟨s1, s2, s3⟩ := hs.spec
  have N1 := News.pick hp N
  have N2 : News h₀ L h (q :: (rest ++ tl)) := News.sub N1 fun p hp => by
    rcases List.mem_cons.mp hp with rfl | hp
    · exact .head _
    · rcases List.mem_append.mp hp with hp | hp
      · exact .tail _ (s3 _ hp)
      · exact .tail _ (s2 _ hp)
  exact ⟨N2, s1, ne_tups N2 s1 (fun p hp => .tail _ (List.mem_append.mpr (.inr hp))) (.head _) hq⟩
theorem ledEnd0 {h₀ h : Heap} {L : Addr} {r tl rest : Led} (N : News h₀ L h r) (hs : Split rest r tl) : News h₀ L h (rest ++ tl) ∧ Tups tl := by
  obtain ⟨s1, s2, s3⟩ := hs.spec
  exact ⟨News.sub N fun p hp => (List.mem_append.mp hp).elim (s3 p) (s2 p), s1⟩
/-- the tuples of one ledger stand in the other -/
def TSub (I J : Led) : Prop := ∀ q ∈ I, IsTupO q.2 → q ∈ J
theorem notCell {a : Addr} {o : Obj} {v : Option Value} {P : Prop} (ho : o.data = .cell v) : IsTupO (a, o).2 → P := fun h => by
  obtain ⟨_, vs, n, hx⟩ := h
  have hx' : o.data = .seq vs n := hx
  rw [ho] at hx'
  cases hx'
theorem notTup {a : Addr} {o : Obj} {c : String} {P : Prop} (ho : o.cls = .type c) (hn : Value.type c ≠ .type "tuple") : IsTupO (a, o).2 → P := fun h => absurd (ho.symm.trans h.1) hn
theorem NAt.mono {I J : Led} {v : Value} {k : Kind} {cs : List Value} (h : NAt I v k cs) (hs : TSub I J) : NAt J v k cs := by
  cases h
  all_goals first
    | exact .cat (hs _ (by assumption) ⟨rfl, _, _, rfl⟩) (hs _ (by assumption) ⟨rfl, _, _, rfl⟩) (by assumption)
    | exact .call (hs _ (by assumption) ⟨rfl, _, _, rfl⟩) (hs _ (by assumption) ⟨rfl, _, _, rfl⟩) (by assumption)
    | exact .sys (hs _ (by assumption) ⟨rfl, _, _, rfl⟩) (hs _ (by assumption) ⟨rfl, _, _, rfl⟩) (by assumption)
    | (constructor; exact hs _ (by assumption) ⟨rfl, _, _, rfl⟩)
theorem TIn.mono {I J : Led} {v : Value} {t : T} (h : TIn I v t) (hs : TSub I J) : TIn J v t := by
  induction h with
  | n0 a => exact .n0 (a.mono hs)
  | n1 a _ i => exact .n1 (a.mono hs) i
  | n2 a _ _ i j => exact .n2 (a.mono hs) i j
  | n3 a _ _ _ i j k => exact .n3 (a.mono hs) i j k
theorem Run.weaken {w : World} {f : Value} {vs : List Value} {D U D' U' : Nat} {news : Led} {Post Post' : Value → Led → Prop} (R : Run w f vs D U news Post) (hd : D ≤ D') (hu : U ≤ U') (hp : ∀ r n, Post r n → Post' r n) : Run w f vs D' U' news Post' :=
  fun p loose mean mg mb A A₀ env outer base h₀ L m s Q E B F X N T hA hf hke hh h1 h2 ret => R p loose mean mg mb A A₀ env outer base h₀ L m s Q E B F X N T hA hf hke hh (by omega) (by omega) fun r n h' tk F' N' P => ret r n h' tk F' N' (hp r n P)
theorem three {x : Int} (h0 : 0 ≤ x) (h1 : x < 3) : x = 0 ∨ x = 1 ∨ x = 2 := by omega
theorem two {x : Int} (h0 : 0 ≤ x) (h1 : x < 2) : x = 0 ∨ x = 1 := by omega

theorem kw11 : True := by
  (k_with "zsubscriptTail Name Slice ref ref" => row_timed "z" (fail "z"; (k_here; (with_reducible show wpAny _ _ (subscriptTail _ (PySem.Expr.Slice none (some _) none _) (Value.ref _) (Value.ref _)) _ _ _); k_dflt (first
  | (refine' slice_tuple_upto (b := 1) ?ZF ?ZN ?Zl ?Zi ?Zb ?Zz ?_ ?Zs ?Zt; (case ZF => k_asm); (case ZN => k_asm); (case Zl => exact News.isTup (by k_asm) (by kcf_m)); (case Zi => exact rfl); (case Zb => first | exact Nat.le_of_ble_eq_true rfl | ((simp only [List.length_cons]); walk_at "u om")); (case Zz => first | exact Nat.le_of_ble_eq_true rfl | ((simp only [List.length_cons]); walk_at "u om")); (case Zs => with_unfolding_all rfl); (case Zt => (intro _; with_unfolding_all rfl)); intro ZD' Zh' ZF' ZN' Zl1)
  | (refine' slice_tuple_upto (b := 2) ?ZF ?ZN ?Zl ?Zi ?Zb ?Zz ?_ ?Zs ?Zt; (case ZF => k_asm); (case ZN => k_asm); (case Zl => exact News.isTup (by k_asm) (by kcf_m)); (case Zi => exact rfl); (case Zb => first | exact Nat.le_of_ble_eq_true rfl | ((simp only [List.length_cons]); walk_at "u om")); (case Zz => first | exact Nat.le_of_ble_eq_true rfl | ((simp only [List.length_cons]); walk_at "u om")); (case Zs => with_unfolding_all rfl); (case Zt => (intro _; with_unfolding_all rfl)); intro ZD' Zh' ZF' ZN' Zl1)
  | (refine' slice_tuple_upto (b := 3) ?ZF ?ZN ?Zl ?Zi ?Zb ?Zz ?_ ?Zs ?Zt; (case ZF => k_asm); (case ZN => k_asm); (case Zl => exact News.isTup (by k_asm) (by kcf_m)); (case Zi => exact rfl); (case Zb => first | exact Nat.le_of_ble_eq_true rfl | ((simp only [List.length_cons]); walk_at "u om")); (case Zz => first | exact Nat.le_of_ble_eq_true rfl | ((simp only [List.length_cons]); walk_at "u om")); (case Zs => with_unfolding_all rfl); (case Zt => (intro _; with_unfolding_all rfl)); intro ZD' Zh' ZF' ZN' Zl1)
  | (refine' slice_tuple_whole (b := 2) ?ZF ?ZN ?Zl ?Zi ?Zb ?_ ?Zs ?Zt; (case ZF => k_asm); (case ZN => k_asm); (case Zl => exact News.isTup (by k_asm) (by kcf_m)); (case Zi => exact rfl); (case Zb => exact Nat.le_of_ble_eq_true rfl); (case Zs => with_unfolding_all rfl); (case Zt => (intro _; with_unfolding_all rfl)); intro Zh' ZF' ZN')
  | (refine' slice_tuple_whole (b := 3) ?ZF ?ZN ?Zl ?Zi ?Zb ?_ ?Zs ?Zt; (case ZF => k_asm); (case ZN => k_asm); (case Zl => exact News.isTup (by k_asm) (by kcf_m)); (case Zi => exact rfl); (case Zb => exact Nat.le_of_ble_eq_true rfl); (case Zs => with_unfolding_all rfl); (case Zt => (intro _; with_unfolding_all rfl)); intro Zh' ZF' ZN')); (try dsimp only [List.take]); (try k_sweep))))
  exact True.intro
theorem kw12 : True := by
  (k_with "zsubscriptTail Name Constant ref int" => row_timed "z" (fail "z"; (k_here; (with_reducible show wpAny _ _ (subscriptTail _ _ (Value.ref _) (Value.int _ _)) _ _ _); (with_unfolding_all refine' item_tupleL ?Zk1 ?Zk2 ?Zk3 ?Zk4 ?Zk5 ?_ ?Zk6 ?Zk7; (case Zk1 => exact News.isTup (by k_asm) (by kcf_m)); (case Zk2 => decide); (case Zk3 => decide); (case Zk4 => exact rfl); (case Zk5 => exact rfl); (case Zk6 => with_unfolding_all rfl); (case Zk7 => (intro _; with_unfolding_all rfl)); k_whole))))
  exact True.intro
def LtAll (D : Addr) (l : Led) : Prop := ∀ p ∈ l, p.1 < D
theorem LtAll.of {D : Addr} {l : Led} (h : ∀ p ∈ l, p.1 < D) : LtAll D l := h
theorem kw13 : True := by
  (k_with "zcall type:list" => row_timed "z" (fail "z"; (k_here; (with_reducible show wpAny _ _ (call (Value.type _) [Value.ref _]) _ _ _); (with_unfolding_all refine' list_copyKT ?Zk1 ?Zk2 ?Zk3 ?_ ?Zz; (case Zk1 => k_asm); (case Zk2 => k_asm); (case Zk3 => exact News.isTup (by k_asm) (by kcf_m)); (case Zz => (simp only [List.size_toArray, List.length_cons, List.length_nil, sizeLine_eq]; walk_at "u om")); k_whole); intro ZD' Zc' Zh' ZF' ZN' Zl1; (have Zl0' := LtAll.of Zl1); (try k_lt Zl1); (try k_sweep))))
  exact True.intro

theorem kw14 : True := by
  (k_with "zCompSrc" => row_timed "z" (fail "z"; (k_here; k_dflt (first
  | (refine LCg.CompSrc.ledger (by assumption) (by k_asm) (by k_asm) (by kcf_m) (by first | size_fits | exact Nat.le_of_ble_eq_true rfl) ?_; intro Zg'; lcg_lit)
  | (refine LCg.CompSrc.range (by assumption) (by k_asm) (by k_asm) (by assumption) (by first | decide | rfl) (by first | rfl | decide) (by first | size_fits | exact Nat.le_of_ble_eq_true rfl) ?_; intro Zg'; lcg_lit)))))
  exact True.intro
theorem kw15 : True := by
  (k_with "zsubscriptTail Name Name ref int" => walk_at "subscriptTail Name Constant ref int")
  exact True.intro
theorem kw16 : True := by
  (k_with "zCompRest" => row_timed "z" (fail "z"; (k_here; (with_unfolding_all first
  | (refine LCg.CompRest.succ ?_; intro Zv' ZI' ZoI' ZC' ZoC' ZD' Zm' Zh' Ztk' ZE' Zhv' ZhC' Zhx' ZF' ZN' Zoff' Zne'; (first | lcg_open Zhv' | (obtain ⟨Zt9', Zhv9'⟩ := Zhv'; subst Zhv9')); (try k_sweep))
  | refine LCg.CompRest.zero ?_))))
  exact True.intro
theorem kw17 : True := by
  (k_with "zCompEnd" => row_timed "z" (fail "z"; (k_here; (rename News _ _ _ _ => ZnE9); (rename LCg.Off3 _ _ _ _ => ZoE9); refine LCg.CompEnd.intro (by assumption) ZnE9 _ (fun _ h => h) ZoE9 (by first | exact True.intro | exact Or.inr ⟨_, by kcf_m, rfl, _, rfl⟩) ?_)))
  exact True.intro
theorem kw18 : True := by
  (k_with "zFinE" => row_timed "z" (fail "z"; (k_here; (unfold LCg.FinE); intro ZD' Zh' Ztk' ZF' ZN' Zo1'; (try simp only [List.nil_append, List.cons_append] at ZN'); (try dsimp only); (try k_sweep))))
  exact True.intro

theorem off1_ne {D : Addr} : ∀ {l : Led}, LCg.Off1 D l → ∀ q ∈ l, q.1 ≠ D
  | [], _, _, h => nomatch h
  | _ :: _, x, q, h => by
    rcases List.mem_cons.mp h with rfl | h
    · exact x.1
    · exact off1_ne x.2 q h
theorem lt_ne {D : Addr} {l : Led} (h : ∀ p ∈ l, p.1 < D) : ∀ q ∈ l, q.1 ≠ D := fun q hq => Nat.ne_of_lt (h q hq)
/-- a call that hands back a new list -/
def ListPost (cvs : List Value) (news : Led) (r : Value) (news' : Led) : Prop :=
  ∃ tl l n, r = .ref l ∧ news' = (l, listOf cvs.toArray n) :: (news ++ tl) ∧ Tups tl ∧ (∀ q ∈ tl, q.1 ≠ l) ∧ ∀ q ∈ news, q.1 ≠ l
theorem ListPost.of {cvs : List Value} {news tl : Led} {l : Addr} {n : Nat} (h1 : Tups tl) (h2 : ∀ q ∈ tl, q.1 ≠ l) (h3 : ∀ q ∈ news, q.1 ≠ l) : ListPost cvs news (.ref l) ((l, listOf cvs.toArray n) :: (news ++ tl)) := ⟨tl, l, n, rfl, rfl, h1, h2, h3⟩
def ListK (cvs : List Value) (news : Led) (S : Value → Led → Prop) : Prop := ∀ tl l n, Tups tl → (∀ q ∈ tl, q.1 ≠ l) → LCg.Off1 l news → S (.ref l) ((l, listOf cvs.toArray n) :: (news ++ tl))
def T.ht : T → Nat
  | .n0 _ => 0
  | .n1 _ a => a.ht + 1
  | .n2 _ a b => max a.ht b.ht + 1
  | .n3 _ a b c => max (max a.ht b.ht) c.ht + 1

theorem off1_of {D : Addr} : ∀ {l : Led}, (∀ q ∈ l, q.1 ≠ D) → LCg.Off1 D l
  | [], _ => trivial
  | _ :: _, h => ⟨h _ (.head _), off1_of fun q hq => h q (.tail _ hq)⟩
theorem listEl {cvs : List Value} {news : Led} (S : Value → Led → Prop) (h : ListK cvs news S) (r : Value) (news' : Led) (P : ListPost cvs news r news') : S r news' := by
  obtain ⟨tl, l, n, rfl, rfl, h1, h2, h3⟩ := P
  exact h tl l n h1 h2 (off1_of h3)
def NodePost (k : Kind) (cvs : List Value) (news : Led) (r : Value) (news' : Led) : Prop := ∃ tl, news' = news ++ tl ∧ Tups tl ∧ NAt news' r k cvs
theorem NodePost.of {k : Kind} {cvs : List Value} {news tl : Led} {r : Value} (h1 : Tups tl) (h2 : NAt (news ++ tl) r k cvs) : NodePost k cvs news r (news ++ tl) := ⟨tl, rfl, h1, h2⟩
def NodeK (k : Kind) (cvs : List Value) (news : Led) (S : Value → Led → Prop) : Prop := ∀ a tl, Tups tl → NAt (news ++ tl) (.ref a) k cvs → S (.ref a) (news ++ tl)
theorem NAt.isRef {I : Led} {v : Value} {k : Kind} {cs : List Value} (h : NAt I v k cs) : ∃ a, v = .ref a := by cases h <;> exact ⟨_, rfl⟩
theorem nodeEl {k : Kind} {cvs : List Value} {news : Led} (S : Value → Led → Prop) (h : NodeK k cvs news S) (r : Value) (news' : Led) (P : NodePost k cvs news r news') : S r news' := by
  obtain ⟨tl, rfl, ht, hn⟩ := P
  obtain ⟨a, rfl⟩ := hn.isRef
  exact h a tl ht hn
theorem append_T {prog : Program} {w : World} {A : Around} {E : Value → Shared → Prop} {s : Shared} {h₀ : Heap} {L D : Addr} {m : Str → Option Value} {news news' : Led} {n : Nat} {x : Value} {xs : List Value} {Q : Value → Shared → Prop}
    (F : Fr h₀ L s.heap m) (N : News h₀ L s.heap news) (U : Upd D (listOf xs.toArray n) (listOf (xs ++ [x]).toArray (n + 1)) news news') (hz : xs.length ≤ 16000)
    (h : ∀ h', Fr h₀ L h' m → News h₀ L h' news' → Q .none { s with heap := h' }) : wpAny (model prog w) A (call (.builtin "list.append") [.ref D, x]) Q E s := by
  have e : xs.toArray.push x = (xs ++ [x]).toArray := by simp
  exact append_K (its := xs.toArray) F N (by rw [e]; exact U) h (by rw [List.size_toArray, sizeLine_eq]; omega)
theorem kw19 : True := by
  (k_with "zcall builtin:list.append" => row_timed "z" (fail "z"; (k_here; (with_reducible show wpAny _ _ (call (Value.builtin _) [Value.ref _, _]) _ _ _); k_dflt (refine' append_T ?Zk1 ?Zk2 ?Zk3 ?Zz ?_; (case Zk1 => k_asm); (case Zk2 => k_asm); (case Zk3 => k_upd); (case Zz => ((try simp only [List.length_append, List.length_cons, List.length_nil] at *); walk_at "u om")); k_whole); intro Zh' ZF' ZN'; (try k_sweep))))
  exact True.intro
theorem item_head {prog : Program} {w : World} {A : Around} {E : Value → Shared → Prop} {s : Shared} {value slice : Expr} {t : Addr} {x : Value} {l : List Value} {u : Tok} {Q : Value → Shared → Prop} (ht : IsTup s.heap t (x :: l).toArray) (h : Q x s)
    (hs : subscripted slice false (.ref t) (.int 0 u) = operate [.ref t, .int 0 u] (getItem (.ref t) (.int 0 u))) (hg : ∀ r, letTemporaryGo value (.ref t) r = pure ()) :
    wpAny (model prog w) A (subscriptTail value slice (.ref t) (.int 0 u)) Q E s :=
  item_tupleL (j := 0) ht (by decide) (by decide) (by simp [seqIndex?]) rfl h hs hg
theorem kw20 : True := by
  (k_with "zsubscriptTail Name Constant ref int" => row_timed "z" (fail "z"; (k_here; (with_reducible show wpAny _ _ (subscriptTail _ _ (Value.ref _) (Value.int 0 _)) _ _ _); (with_unfolding_all refine' item_head ?Zk1 ?_ ?Zk6 ?Zk7; (case Zk1 => exact News.isTup (by k_asm) (by kcf_m)); (case Zk6 => with_unfolding_all rfl); (case Zk7 => (intro _; with_unfolding_all rfl)); k_whole))))
  exact True.intro
theorem kw21 : True := by
  (k_with "zu pick" => (((repeat' (first | exact Pick.head | refine' Pick.tail ?_ )); first | done | fail "left open")))
  exact True.intro
theorem kw22 : True := by
  (k_with "zu split" => (((repeat' (first | exact Split.base | refine' Split.keep ⟨rfl, ⟨_, _, rfl⟩⟩ ?_ | refine' Split.app (by assumption) ?_ | refine' Split.skip ?_)); first | done | fail "left open")))
  exact True.intro
theorem kw23 : True := by
  (k_with "zu sub" => (((repeat' (first | exact fun _ h => h | exact List.forall_mem_nil _ | refine List.forall_mem_append.mpr ⟨?_, ?_⟩ | refine List.forall_mem_cons.mpr ⟨?_, ?_⟩ | kcf_m | (intro p9 h9; kcf_m))); first | done | fail "left open")))
  exact True.intro
theorem kw24 : True := by
  (k_with "zu subt" => (((unfold TSub); (repeat' (first | exact fun _ h _ => h | exact List.forall_mem_nil _ | refine List.forall_mem_append.mpr ⟨?_, ?_⟩ | refine List.forall_mem_cons.mpr ⟨?_, ?_⟩ | exact notTup rfl (by decide) | exact notTup (by assumption) (by decide) | exact notCell (by assumption) | (intro _; kcf_m) | (intro p9 h9 _; kcf_m))); first | done | fail "left open")))
  exact True.intro
theorem dep_deeper {A : Around} {e : Env} {D K : Nat} (h : A.depth + K < recursionLimit) (hk : 1 + D ≤ K) : (A.deeper e).depth + D < recursionLimit := by rw [depth_deeper]; omega
theorem uni_deeper {A : Around} {e : Env} {U K : Nat} (h : A.units + K < cLine) (hk : 3 + U ≤ K) : (A.deeper e).units + U < cLine := by rw [units_deeper]; omega
theorem up_3 {x y c : Nat} (h : 1 + (x + 0) ≤ y + 0) : 3 + (3 * x + c) ≤ 3 * y + c := by omega
theorem up_n {d t c : Nat} (h : Nat.ble (1 + d) c = true) : 1 + d ≤ t + c := Nat.le_trans (Nat.le_of_ble_eq_true h) (Nat.le_add_left _ _)
theorem up_u {d t c : Nat} (h : Nat.ble (3 + d) c = true) : 3 + d ≤ t + c := Nat.le_trans (Nat.le_of_ble_eq_true h) (Nat.le_add_left _ _)
theorem ht_k {a t : T} {c : Nat} (h : a.ht + 1 ≤ t.ht) : 1 + (a.ht + c) ≤ t.ht + c := by omega
theorem dep_s {D c : Nat} : 1 + (D + c) ≤ D + 1 + c := by omega
theorem uni_s {D c : Nat} : 3 + (3 * D + c) ≤ 3 * (D + 1) + c := by omega
theorem kw25 : True := by
  (k_with "zu ht" => with_reducible first | exact ht_k (by assumption))
  exact True.intro
theorem kw26 : True := by
  (k_with "zu dep" => (refine dep_deeper (by assumption) ?_; first | exact Nat.le_of_ble_eq_true rfl | walk_at "u ht" | exact up_n rfl | exact dep_s))
  exact True.intro
theorem kw27 : True := by
  (k_with "zu uni" => (refine uni_deeper (by assumption) ?_; first | exact Nat.le_of_ble_eq_true rfl | (refine up_3 ?_; walk_at "u ht") | exact up_u rfl | exact uni_s))
  exact True.intro
theorem kw28 : True := by
  (k_with "zu frame" => (refine' ⟨?cB, ?cF, ?cX, ?cT, ?cA, ?cf, ?ce, ?cH, ?cd, ?cu⟩; (case cB => k_asm); (case cF => k_asm); (case cX => k_asm); (case cT => k_asm); (case cA => first | exact frames_of (by assumption) | exact rfl); (case cf => exact rfl); (case ce => exact rfl); (case cH => first | exact rfl | assumption); (case cd => first | walk_at "u dep" | ((try simp only [depth_under_make, depth_under_kw, depth_in1, depth_deeper, depth_caller, Mine.T.ht] at *); omega)); (case cu => first | walk_at "u uni" | ((try simp only [units_in1, units_deeper, Around.mark_units, units_caller, Mine.T.ht] at *); omega))))
  exact True.intro
def Halt (P : Prop) : Prop := P
theorem Halt.mk {P : Prop} (h : Halt P) : P := h
theorem Halt.go {P : Prop} (h : P) : Halt P := h
-- a call without a contract stops the walk
theorem kw29 : True := by
  (k_with "zcall ref" => (k_here; (with_reducible show wpAny _ _ (call (Value.ref _) _) _ _ _); refine Halt.mk ?_))
  exact True.intro

section Sec1
--deps PH PT P0
section
variable {prog : Program} {w : World} {A : Around} {E : Value → Shared → Prop} {s : Shared} {hp : Heap} {gn : Array GenState} {dr : Drawn} {os : OsState} {tk : Nat} {h₀ : Heap} {m : Str → Option Value} {env : Env} {x : Str} {p1 p2 p3 p4 p5 p6 p7 p8 : Pos}
/-- an if whose test is a name against a text that it is not -/
theorem tag_skip {lit y : Str} {t : Tok} {k : Nat} {body rest : List Stmt} {Q : Flow → Shared → Prop} (F : Fr h₀ env.locals hp m) (hv : m x = some (.str y t)) (hne : (y == lit) = false)
    (h : wpAny (model prog w) A (execs rest env) Q E ⟨hp, gn, dr, tk + 1, os⟩) (hk : env.scope.kind = .function) (hx : env.kindOf x = some .local) (hd : (x == ("__debug__" : Str)) = false) :
    wpAny (model prog w) A (execs (.If (.Compare (.Name x p1) [.Eq] [.Constant (.str lit) k p2] p3) body [] p4 :: rest) env) Q E ⟨hp, gn, dr, tk, os⟩ := by
  refine wpAny_execs_cons (wpAny_If (wpAny_isTrue_Compare1 (wpAny_Name (wpAny_loadName_local hk hx F.ns hv (Calls.Constant_str (eq_str ?_))) hd)))
  rw [hne]
  exact wpAny_truthy_bool (wpAny_execs_nil h)
theorem tag_skip2 {lit lit' y : Str} {t : Tok} {k k' : Nat} {body rest : List Stmt} {Q : Flow → Shared → Prop} (F : Fr h₀ env.locals hp m) (hv : m x = some (.str y t)) (hne : (y == lit) = false) (hne' : (y == lit') = false)
    (h : wpAny (model prog w) A (execs rest env) Q E ⟨hp, gn, dr, tk + 1 + 1, os⟩) (hk : env.scope.kind = .function) (hx : env.kindOf x = some .local) (hd : (x == ("__debug__" : Str)) = false) :
    wpAny (model prog w) A (execs (.If (.BoolOp .Or [.Compare (.Name x p1) [.Eq] [.Constant (.str lit) k p2] p3, .Compare (.Name x p4) [.Eq] [.Constant (.str lit') k' p5] p6] p7) body [] p8 :: rest) env) Q E ⟨hp, gn, dr, tk, os⟩ := by
  refine wpAny_execs_cons (wpAny_If (isTrue_or (wpAny_isTrue_Compare1 (wpAny_Name (wpAny_loadName_local hk hx F.ns hv (Calls.Constant_str (eq_str ?_))) hd))))
  rw [hne]
  refine wpAny_truthy_bool (isTrue_or (wpAny_isTrue_Compare1 (wpAny_Name (wpAny_loadName_local hk hx F.ns hv (Calls.Constant_str (eq_str ?_))) hd)))
  rw [hne']
  exact wpAny_truthy_bool (isTrue_or_nil (wpAny_execs_nil h))
theorem seqIx {k : Int} {n : Nat} (h0 : 0 ≤ k) (h : k.toNat < n) : seqIndex? k n = some k.toNat := by
  have e : ((k.toNat : Nat) : Int) = k := Int.toNat_of_nonneg h0
  have h1 : k < (n : Int) := by omega
  have h2 : ¬ k < 0 := by omega
  simp only [seqIndex?, if_neg h2]
  rw [if_pos (by rw [Bool.and_eq_true, decide_eq_true_eq, decide_eq_true_eq]; exact ⟨h0, h1⟩)]
theorem sub_tup {a L : Addr} {vs : List Value} {n c : Nat} {k : Int} {v : Value} {news : Led} {Q : Value → Shared → Prop} (F : Fr h₀ env.locals hp m) (hv : m x = some (.ref a)) (N : News h₀ L hp news) (hm : (a, tupOf vs n) ∈ news)
    (hb : (decide (0 ≤ k) && decide (k ≤ 99)) = true) (hi : vs[k.toNat]? = some v) (h : Q v ⟨hp, gn, dr, tk + 1, os⟩) (hk : env.scope.kind = .function) (hx : env.kindOf x = some .local) (hd : (x == ("__debug__" : Str)) = false) :
    wpAny (model prog w) A (eval (.Subscript (.Name x p1) (.Constant (.int k) c p2) p3) env) Q E ⟨hp, gn, dr, tk, os⟩ := by
  rw [Bool.and_eq_true, decide_eq_true_eq, decide_eq_true_eq] at hb
  have hlt := (List.getElem?_eq_some_iff.mp hi).1
  refine Subscript_ (wpAny_Name (wpAny_loadName_local hk hx F.ns hv (wpAny_Constant_int ?_)) hd)
  exact item_tupleL (j := k.toNat) (News.isTup N hm) (by omega) (by omega) (seqIx hb.1 hlt) hi h
theorem sub_lst {a L : Addr} {vs : List Value} {n c : Nat} {k : Int} {v : Value} {news : Led} {Q : Value → Shared → Prop} (F : Fr h₀ env.locals hp m) (hv : m x = some (.ref a)) (N : News h₀ L hp news) (hm : (a, listOf vs.toArray n) ∈ news)
    (hb : (decide (0 ≤ k) && decide (k ≤ 99)) = true) (hi : vs[k.toNat]? = some v) (h : Q v ⟨hp, gn, dr, tk + 1, os⟩) (hk : env.scope.kind = .function) (hx : env.kindOf x = some .local) (hd : (x == ("__debug__" : Str)) = false) :
    wpAny (model prog w) A (eval (.Subscript (.Name x p1) (.Constant (.int k) c p2) p3) env) Q E ⟨hp, gn, dr, tk, os⟩ := by
  rw [Bool.and_eq_true, decide_eq_true_eq, decide_eq_true_eq] at hb
  refine Subscript_ (wpAny_Name (wpAny_loadName_local hk hx F.ns hv (wpAny_Constant_int ?_)) hd)
  exact tail_any (News.isList N hm).typeIs slot_list_getitem.lookup (wpAny_getItem_list (News.isList N hm) hb.1 (by omega) (by simpa using hi) h) (by with_unfolding_all rfl)
end
theorem kw30 : True := by
  (k_with "zexecs cons If" => row_timed "z" (fail "z"; (k_here; (with_reducible show wpAny _ _ (execs (Stmt.If (Expr.Compare (Expr.Name _ _) [CmpOp.Eq] [Expr.Constant (Const.str _) _ _] _) _ [] _ :: _) _) _ _ _); k_dflt (refine' tag_skip ?ZF ?Zv ?Zn ?_ ?Zk ?Zx ?Zd; (case ZF => k_asm); (case Zv => exact rfl); (case Zn => decide); (case Zk => exact rfl); (case Zx => exact rfl); (case Zd => decide); k_whole))))
  exact True.intro
theorem kw31 : True := by
  (k_with "zexecs cons If" => row_timed "z" (fail "z"; (k_here; (with_reducible show wpAny _ _ (execs (Stmt.If (Expr.BoolOp BoolOp.Or [Expr.Compare (Expr.Name _ _) [CmpOp.Eq] [Expr.Constant (Const.str _) _ _] _, Expr.Compare _ _ _ _] _) _ [] _ :: _) _) _ _ _); k_dflt (refine' tag_skip2 ?ZF ?Zv ?Zn ?Zn2 ?_ ?Zk ?Zx ?Zd; (case ZF => k_asm); (case Zv => exact rfl); (case Zn => decide); (case Zn2 => decide); (case Zk => exact rfl); (case Zx => exact rfl); (case Zd => decide); k_whole))))
  exact True.intro
theorem kw32 : True := by
  (k_with "zeval Subscript" => row_timed "z" (fail "z"; (k_here; (with_reducible show wpAny _ _ (eval (Expr.Subscript (Expr.Name _ _) (Expr.Constant (Const.int _) _ _) _) _) _ _ _); k_dflt (first
  | (refine' sub_tup ?ZF ?Zv ?ZN ?Zm ?Zb ?Zi ?_ ?Zk ?Zx ?Zd; (case ZF => k_asm); (case Zv => exact rfl); (case ZN => k_asm); (case Zm => kcf_m); (case Zb => exact rfl); (case Zi => exact rfl); (case Zk => exact rfl); (case Zx => exact rfl); (case Zd => decide); k_whole)
  | (refine' sub_lst ?ZF ?Zv ?ZN ?Zm ?Zb ?Zi ?_ ?Zk ?Zx ?Zd; (case ZF => k_asm); (case Zv => exact rfl); (case ZN => k_asm); (case Zm => kcf_m); (case Zb => exact rfl); (case Zi => exact rfl); (case Zk => exact rfl); (case Zx => exact rfl); (case Zd => decide); k_whole)))))
  exact True.intro

--deps PH PT P0 PZ
set_option maxRecDepth 100000 in set_option maxHeartbeats 8000000 in
theorem children_run {w : World} {v : Value} {k : Kind} {cvs : List Value} {news : Led} (hn : NAt news v k cvs) :
    Run w (.ref 21) [v] 1 200 news (fun r news' => ∃ tl c n, news' = news ++ tl ∧ Tups tl ∧ r = .ref c ∧ (c, tupOf cvs n) ∈ news') := by
  unfold Run; k_fill; intro p loose mean mg mb A A₀ env outer base h₀ L m s Q E B F X N T hA hf hke hnd hdp hun hret
  (refine wpAny_call ?_; k_dflt (refine' code_def ?k1 ?k2 ?k3 ?k4 ?k5 ?kA ?kF ?kK ?k6 ?k7 ?k8 ?k9 ?kB ?_ ?c2 ?c3 ?c4 ?c5; (case kA => assumption); (case kF => assumption); (case kK => assumption); (case k1 => k_asm); (case k2 => k_asm); (case k3 => k_asm); (case k4 => k_asm); (case k5 => k_asm); (case k6 => k_is); (case k7 => k_is); (case k8 => walk_at "u om"); (case k9 => exact BindsTo.of_eq rfl); (case c5 => decide); (case kB => exact locs rfl); (case c2 => exact rfl); (case c3 => exact rfl); (case c4 => exact rfl); k_whole; intro g' L' h' FG' F' N' B' X' T'; (try dsimp only); (try k_fold)))
  k_steps
  cases hn
  all_goals k_steps
  all_goals (rename News _ _ _ _ => kN8; rename Fr _ _ _ _ => kF8; have e8 := ledEnd0 (rest := news) kN8 (by walk_at "u split"); refine' hret _ _ _ _ kF8 e8.1 ⟨_, _, _, rfl, e8.2, rfl, ?hm⟩; (case hm => kcf_m))

--deps PH PT P0 PZ
set_option maxRecDepth 100000 in set_option maxHeartbeats 8000000 in
theorem inside_run {w : World} {v : Value} {k : Kind} {cvs : List Value} {news : Led} (hn : NAt news v k cvs) : Run w (.ref 75) [v] 2 210 news (ListPost cvs news) := by
  unfold Run; k_fill; intro p loose mean mg mb A A₀ env outer base h₀ L m s Q E B F X N T hA hf hke hnd hdp hun hret
  (refine wpAny_call ?_; k_dflt (refine' code_defC ?k1 ?k2 ?k3 ?k4 ?k5 ?kA ?kF ?kK ?k6 ?k7 ?k8 ?k9 ?kB ?kD ?_ ?c2 ?c3 ?c4; (case kA => assumption); (case kF => assumption); (case kK => assumption); (case k1 => k_asm); (case k2 => k_asm); (case k3 => k_asm); (case k4 => k_asm); (case k5 => k_asm); (case k6 => k_is); (case k7 => k_is); (case k8 => walk_at "u om"); (case k9 => exact BindsTo.of_eq rfl); (case kB => exact rfl); (case kD => decide +kernel); (case c2 => exact rfl); (case c3 => exact rfl); (case c4 => exact rfl); k_whole; intro g' L' h' tk' cells' FG' F' N' Y' B' X' T' l1; (try k_lt l1); k_cells Y'; (try simp only [List.cons_append, List.nil_append] at N'); (try dsimp only); (try k_fold)))
  k_steps
  cases hn
  all_goals k_steps
  all_goals first | (rename News _ _ _ _ => kN8; rename Fr _ _ _ _ => kF8; have e8 := ledEnd (q := (_, listOf _ _)) (rest := news) kN8 Pick.head (by walk_at "u split") (by show Value.type "list" ≠ Value.type "tuple"; decide); refine' hret _ _ _ _ kF8 e8.1 (ListPost.of e8.2.1 e8.2.2 ?hn); (case hn => first | (rename LCg.Off1 _ _ => o9; exact fun q hq => off1_ne o9 q (by kcf_m)) | (rename LtAll _ _ => l9; exact fun q hq => lt_ne l9 q (by kcf_m)))) | skip

--deps PH PT P0 PZ
theorem listItem {prog : Program} {w : World} {A : Around} {E : Value → Shared → Prop} {s : Shared} {value slice : PySem.Expr} {l : Addr} {vs : List Value} {k : Int} {u : Tok} {v : Value} {Q : Value → Shared → Prop}
    (hl : s.heap.IsList l vs.toArray) (h0 : 0 ≤ k) (hhi : k < 2 ^ 63) (hx : vs[k.toNat]? = some v) (h : Q v s)
    (hs : subscripted slice false (.ref l) (.int k u) = operate [.ref l, .int k u] (getItem (.ref l) (.int k u)) := by with_unfolding_all rfl) :
    wpAny (model prog w) A (subscriptTail value slice (.ref l) (.int k u)) Q E s :=
  tail_any hl.typeIs slot_list_getitem.lookup (wpAny_getItem_list hl h0 hhi (by simpa using hx) h) hs
theorem kw33 : True := by
  (k_with "zsubscriptTail Name Constant ref int" => row_timed "z" (fail "z"; (k_here; (with_reducible show wpAny _ _ (subscriptTail _ _ (Value.ref _) (Value.int _ _)) _ _ _); (with_unfolding_all refine' listItem ?Zk1 ?Zk2 ?Zk3 ?Zk4 ?_ ?Zk6; (case Zk1 => exact News.isList (by k_asm) (by kcf_m)); (case Zk2 => decide); (case Zk3 => decide); (case Zk4 => exact rfl); (case Zk6 => with_unfolding_all rfl); k_whole))))
  exact True.intro
set_option maxRecDepth 100000 in set_option maxHeartbeats 8000000 in
theorem with_children_run {w : World} {v : Value} {k : Kind} {cvs ps : List Value} {q : Addr} {n : Nat} {news : Led} (hn : NAt news v k cvs) (hq : (q, listOf ps.toArray n) ∈ news) (hl : ps.length = cvs.length) :
    Run w (.ref 28) [v, .ref q] 1 200 news (NodePost k ps news) := by
  unfold Run; k_fill; intro p loose mean mg mb A A₀ env outer base h₀ L m s Q E B F X N T hA hf hke hnd hdp hun hret
  have hsm : ps.length ≤ 16384 := by rw [hl]; cases hn <;> first | exact Nat.le_of_ble_eq_true rfl | omega
  (refine wpAny_call ?_; k_dflt (refine' code_def ?k1 ?k2 ?k3 ?k4 ?k5 ?kA ?kF ?kK ?k6 ?k7 ?k8 ?k9 ?kB ?_ ?c2 ?c3 ?c4 ?c5; (case kA => assumption); (case kF => assumption); (case kK => assumption); (case k1 => k_asm); (case k2 => k_asm); (case k3 => k_asm); (case k4 => k_asm); (case k5 => k_asm); (case k6 => k_is); (case k7 => k_is); (case k8 => walk_at "u om"); (case k9 => exact BindsTo.of_eq rfl); (case c5 => decide); (case kB => exact locs rfl); (case c2 => exact rfl); (case c3 => exact rfl); (case c4 => exact rfl); k_whole; intro g' L' h' FG' F' N' B' X' T'; (try dsimp only); (try k_fold)))
  k_steps
  cases hn
  case cat | call | sys => all_goals k_steps; all_goals (have hn0 := True.intro; rename News _ _ _ _ => kN8; rename Fr _ _ _ _ => kF8; have e8 := ledEnd0 (rest := news) kN8 (by walk_at "u split"); refine' hret _ _ _ _ kF8 e8.1 (NodePost.of e8.2 ?hn); (case hn => ((try dsimp only [Mine.Kind.ren]); first | exact NAt.mono hn0 (by walk_at "u subt") | ((with_reducible apply NAt.const); kcf_m) | ((with_reducible apply NAt.sig); kcf_m) | ((with_reducible apply NAt.loc); kcf_m) | ((with_reducible apply NAt.ev); kcf_m) | ((with_reducible apply NAt.word); kcf_m) | ((with_reducible apply NAt.slice); kcf_m) | ((with_reducible apply NAt.ext); kcf_m) | ((with_reducible apply NAt.un); kcf_m) | ((with_reducible apply NAt.pick); kcf_m) | ((with_reducible apply NAt.bin); kcf_m) | ((with_reducible apply NAt.pow); kcf_m) | ((with_reducible apply NAt.cond); kcf_m) | ((with_reducible apply NAt.cat); kcf_m; kcf_m; omega) | ((with_reducible apply NAt.call); kcf_m; kcf_m; omega) | ((with_reducible apply NAt.sys); kcf_m; kcf_m; omega))))
  all_goals (rcases ps with _ | ⟨p1, _ | ⟨p2, _ | ⟨p3, _ | ⟨p4, ps⟩⟩⟩⟩ <;> (first | (exfalso; simp at hl; done) | skip))
  all_goals k_steps
  all_goals (have hn0 := True.intro; rename News _ _ _ _ => kN8; rename Fr _ _ _ _ => kF8; have e8 := ledEnd0 (rest := news) kN8 (by walk_at "u split"); refine' hret _ _ _ _ kF8 e8.1 (NodePost.of e8.2 ?hn); (case hn => ((try dsimp only [Mine.Kind.ren]); first | exact NAt.mono hn0 (by walk_at "u subt") | ((with_reducible apply NAt.const); kcf_m) | ((with_reducible apply NAt.sig); kcf_m) | ((with_reducible apply NAt.loc); kcf_m) | ((with_reducible apply NAt.ev); kcf_m) | ((with_reducible apply NAt.word); kcf_m) | ((with_reducible apply NAt.slice); kcf_m) | ((with_reducible apply NAt.ext); kcf_m) | ((with_reducible apply NAt.un); kcf_m) | ((with_reducible apply NAt.pick); kcf_m) | ((with_reducible apply NAt.bin); kcf_m) | ((with_reducible apply NAt.pow); kcf_m) | ((with_reducible apply NAt.cond); kcf_m) | ((with_reducible apply NAt.cat); kcf_m; kcf_m; omega) | ((with_reducible apply NAt.call); kcf_m; kcf_m; omega) | ((with_reducible apply NAt.sys); kcf_m; kcf_m; omega))))

--deps PH PT P0 PZ
theorem kw34 : True := by
  (k_with "zsubscriptTail Name Slice ref ref" => row_timed "z" (fail "z"; (k_here; (with_reducible show wpAny _ _ (subscriptTail _ (PySem.Expr.Slice (some _) none none _) (Value.ref _) (Value.ref _)) _ _ _); k_dflt (refine' slice_tuple_fromK (a := 3) ?ZF ?ZN ?Zl ?Zi ?Zo ?Zb ?Zz ?_ ?Zs ?Zt; (case ZF => k_asm); (case ZN => k_asm); (case Zl => exact News.isTup (by k_asm) (by kcf_m)); (case Zi => exact rfl); (case Zo => decide); (case Zb => exact Nat.le_of_ble_eq_true rfl); (case Zz => exact Nat.le_of_ble_eq_true rfl); (case Zs => with_unfolding_all rfl); (case Zt => (intro _; with_unfolding_all rfl)); intro ZD' Zh' ZF' ZN' Zl1); (try dsimp only [List.drop] at ZN'); (try k_sweep))))
  exact True.intro
set_option maxRecDepth 100000 in set_option maxHeartbeats 8000000 in
theorem renamed_run {w : World} {v : Value} {k : Kind} {cvs : List Value} {news : Led} (hn : NAt news v k cvs) : Run w (.ref 89) [v] 1 200 news (NodePost k.ren cvs news) := by
  unfold Run; k_fill; intro p loose mean mg mb A A₀ env outer base h₀ L m s Q E B F X N T hA hf hke hnd hdp hun hret
  have hn0 := hn
  (refine wpAny_call ?_; k_dflt (refine' code_def ?k1 ?k2 ?k3 ?k4 ?k5 ?kA ?kF ?kK ?k6 ?k7 ?k8 ?k9 ?kB ?_ ?c2 ?c3 ?c4 ?c5; (case kA => assumption); (case kF => assumption); (case kK => assumption); (case k1 => k_asm); (case k2 => k_asm); (case k3 => k_asm); (case k4 => k_asm); (case k5 => k_asm); (case k6 => k_is); (case k7 => k_is); (case k8 => walk_at "u om"); (case k9 => exact BindsTo.of_eq rfl); (case c5 => decide); (case kB => exact locs rfl); (case c2 => exact rfl); (case c3 => exact rfl); (case c4 => exact rfl); k_whole; intro g' L' h' FG' F' N' B' X' T'; (try dsimp only); (try k_fold)))
  k_steps
  cases hn
  all_goals k_steps
  all_goals (rename News _ _ _ _ => kN8; rename Fr _ _ _ _ => kF8; have e8 := ledEnd0 (rest := news) kN8 (by walk_at "u split"); refine' hret _ _ _ _ kF8 e8.1 (NodePost.of e8.2 ?hn); (case hn => ((try dsimp only [Mine.Kind.ren]); first | exact NAt.mono hn0 (by walk_at "u subt") | ((with_reducible apply NAt.const); kcf_m) | ((with_reducible apply NAt.sig); kcf_m) | ((with_reducible apply NAt.loc); kcf_m) | ((with_reducible apply NAt.ev); kcf_m) | ((with_reducible apply NAt.word); kcf_m) | ((with_reducible apply NAt.slice); kcf_m) | ((with_reducible apply NAt.ext); kcf_m) | ((with_reducible apply NAt.un); kcf_m) | ((with_reducible apply NAt.pick); kcf_m) | ((with_reducible apply NAt.bin); kcf_m) | ((with_reducible apply NAt.pow); kcf_m) | ((with_reducible apply NAt.cond); kcf_m) | ((with_reducible apply NAt.cat); kcf_m; kcf_m; omega) | ((with_reducible apply NAt.call); kcf_m; kcf_m; omega) | ((with_reducible apply NAt.sys); kcf_m; kcf_m; omega))))

end Sec1
theorem kw35 : True := by
  k_with_none
  (k_with "zu pr" => first | exact pr0 (by assumption) | exact pr1 (by assumption) | exact pe1 (by assumption) | exact pr2 (by assumption) | exact pe2 (by assumption) | exact pr3 (by assumption) | exact pe3 (by assumption) | exact pr4 (by assumption) | exact pe4 (by assumption) | exact pr5 (by assumption) | exact pe5 (by assumption) | exact pr6 (by assumption) | exact pe6 (by assumption) | exact pr7 (by assumption) | exact pe7 (by assumption) | exact pr8 (by assumption) | exact pe8 (by assumption) | exact pr9 (by assumption) | exact pe9 (by assumption) | exact pr10 (by assumption) | exact pe10 (by assumption) | exact pr11 (by assumption) | exact pe11 (by assumption) | exact pr12 (by assumption) | exact pe12 (by assumption) | exact pr13 (by assumption) | exact pe13 (by assumption) | exact pr14 (by assumption) | exact pe14 (by assumption) | exact pr15 (by assumption) | exact pe15 (by assumption) | exact pr16 (by assumption) | exact pe16 (by assumption) | exact pr17 (by assumption) | exact pe17 (by assumption) | exact pr18 (by assumption) | exact pe18 (by assumption) | exact pr19 (by assumption) | exact pe19 (by assumption) | exact pr20 (by assumption) | exact pe20 (by assumption) | exact pr21 (by assumption) | exact pe21 (by assumption) | exact pr22 (by assumption) | exact pe22 (by assumption) | exact pr23 (by assumption) | exact pe23 (by assumption))
  (k_with "zu ne" => (refine neN ?_; (try dsimp only); first | (with_reducible first | assumption | exact Ne.symm (by assumption) | exact Nat.ne_of_lt (by assumption) | exact Nat.ne_of_gt (by assumption) | ((fail_if_success (fail_if_success (refine nA (by assumption) ?_))); walk_at "u pr") | ((fail_if_success (fail_if_success (refine nB (by assumption) ?_))); refine Ne.symm ?_; walk_at "u pr") | ((fail_if_success (fail_if_success (refine lA (by assumption) ?_))); refine Nat.ne_of_lt ?_; walk_at "u pr") | ((fail_if_success (fail_if_success (refine lB (by assumption) ?_))); refine Nat.ne_of_gt ?_; walk_at "u pr")) | omega))
  (k_with "zu len" => ((repeat (first | assumption | exact Nat.le_refl _ | refine Nat.le_trans (by assumption) ?_)); done))
  (k_with "zu om" => first | (with_reducible assumption) | (with_reducible walk_at "u len") | (with_reducible ((repeat (rename (_ ≠ _ ∧ _) => kx; clear kx)); (repeat (rename (_ < _ ∧ _) => kx; clear kx))); omega))
  (k_with "zcall type:tuple" => row_timed "z" (fail "z"; (k_here; (with_reducible show wpAny _ _ (call (Value.type _) [Value.ref _]) _ _ _); k_dflt (refine' kde_tupleOf ?Zk1 ?Zk2 ?Zk3 ?Zk4 ?Zk5 ?_; (case Zk1 => k_asm); (case Zk2 => k_asm); (case Zk3 => exact News.isList (by k_asm) (by kcf_m)); (case Zk4 => (simp only [List.size_toArray]; first | assumption | walk_at "u om")); (case Zk5 => exact rfl); k_whole); intro ZD' Zh' ZF' ZN' Zl1; (try k_sweep))))
  (k_with "zcall builtin:list.pop" => row_timed "z" (fail "z"; (k_here; (with_reducible show wpAny _ _ (call (Value.builtin _) [Value.ref _, Value.int 0 _]) _ _ _); k_dflt (refine' pop0 ?ZF ?ZN ?ZU ?Zz ?_; (case ZF => k_asm); (case ZN => k_asm); (case ZU => k_upd); (case Zz => (simp only [List.length_cons] at *; walk_at "u om")); k_whole); intro Zh' ZF' ZN'; (try k_sweep))))
  (k_with "zsubscriptTail Name Name ref int" => row_timed "z" (fail "z"; (k_here; (with_reducible show wpAny _ _ (subscriptTail _ _ (Value.ref _) (Value.int _ _)) _ _ _); (fail_if_success (with_reducible show wpAny _ _ (subscriptTail _ _ (Value.ref _) (Value.int (OfNat.ofNat _) _)) _ _ _)); (with_unfolding_all refine' pickK ?Zk3 ?Zk4 ?Zk5 ?Zk6 ?_ ?Zk7; (case Zk3 => exact News.isList (by k_asm) (by kcf_m)); (case Zk4 => walk_at "u om"); (case Zk5 => (simp only [List.length_cons, List.length_nil]; walk_at "u om")); (case Zk6 => walk_at "u om"); (case Zk7 => with_unfolding_all rfl); k_whole); (dsimp only [PickAt]); k_places; (all_goals (try k_fold)))))
  (k_with "zsubscriptTail Name Call ref int" => walk_at "subscriptTail Name Name ref int")
  (k_with "zsubscriptTail List" => (k_here; k_dflt (refine kba_turn (value' := PySem.Expr.Name (PySem.Str.ofString "_") ⟨0, 0, 0, 0⟩) (fun _ => rfl) ?_)))
  (k_with "zsubscriptTail Tuple" => walk_at "subscriptTail List")
  (k_with "zsubscriptTail Name Slice ref ref" => row_timed "z" (fail "z"; (k_here; (with_reducible show wpAny _ _ (subscriptTail _ (PySem.Expr.Slice none (some _) none _) (Value.ref _) (Value.ref _)) _ _ _); k_dflt (first
  | (refine' slice_tuple_upto (b := 1) ?ZF ?ZN ?Zl ?Zi ?Zb ?Zz ?_ ?Zs ?Zt; (case ZF => k_asm); (case ZN => k_asm); (case Zl => exact News.isTup (by k_asm) (by kcf_m)); (case Zi => exact rfl); (case Zb => first | exact Nat.le_of_ble_eq_true rfl | ((simp only [List.length_cons]); walk_at "u om")); (case Zz => first | exact Nat.le_of_ble_eq_true rfl | ((simp only [List.length_cons]); walk_at "u om")); (case Zs => with_unfolding_all rfl); (case Zt => (intro _; with_unfolding_all rfl)); intro ZD' Zh' ZF' ZN' Zl1)
  | (refine' slice_tuple_upto (b := 2) ?ZF ?ZN ?Zl ?Zi ?Zb ?Zz ?_ ?Zs ?Zt; (case ZF => k_asm); (case ZN => k_asm); (case Zl => exact News.isTup (by k_asm) (by kcf_m)); (case Zi => exact rfl); (case Zb => first | exact Nat.le_of_ble_eq_true rfl | ((simp only [List.length_cons]); walk_at "u om")); (case Zz => first | exact Nat.le_of_ble_eq_true rfl | ((simp only [List.length_cons]); walk_at "u om")); (case Zs => with_unfolding_all rfl); (case Zt => (intro _; with_unfolding_all rfl)); intro ZD' Zh' ZF' ZN' Zl1)
  | (refine' slice_tuple_upto (b := 3) ?ZF ?ZN ?Zl ?Zi ?Zb ?Zz ?_ ?Zs ?Zt; (case ZF => k_asm); (case ZN => k_asm); (case Zl => exact News.isTup (by k_asm) (by kcf_m)); (case Zi => exact rfl); (case Zb => first | exact Nat.le_of_ble_eq_true rfl | ((simp only [List.length_cons]); walk_at "u om")); (case Zz => first | exact Nat.le_of_ble_eq_true rfl | ((simp only [List.length_cons]); walk_at "u om")); (case Zs => with_unfolding_all rfl); (case Zt => (intro _; with_unfolding_all rfl)); intro ZD' Zh' ZF' ZN' Zl1)
  | (refine' slice_tuple_whole (b := 2) ?ZF ?ZN ?Zl ?Zi ?Zb ?_ ?Zs ?Zt; (case ZF => k_asm); (case ZN => k_asm); (case Zl => exact News.isTup (by k_asm) (by kcf_m)); (case Zi => exact rfl); (case Zb => exact Nat.le_of_ble_eq_true rfl); (case Zs => with_unfolding_all rfl); (case Zt => (intro _; with_unfolding_all rfl)); intro Zh' ZF' ZN')
  | (refine' slice_tuple_whole (b := 3) ?ZF ?ZN ?Zl ?Zi ?Zb ?_ ?Zs ?Zt; (case ZF => k_asm); (case ZN => k_asm); (case Zl => exact News.isTup (by k_asm) (by kcf_m)); (case Zi => exact rfl); (case Zb => exact Nat.le_of_ble_eq_true rfl); (case Zs => with_unfolding_all rfl); (case Zt => (intro _; with_unfolding_all rfl)); intro Zh' ZF' ZN')); (try dsimp only [List.take]); (try k_sweep))))
  (k_with "zsubscriptTail Name Constant ref int" => row_timed "z" (fail "z"; (k_here; (with_reducible show wpAny _ _ (subscriptTail _ _ (Value.ref _) (Value.int _ _)) _ _ _); (with_unfolding_all refine' item_tupleL ?Zk1 ?Zk2 ?Zk3 ?Zk4 ?Zk5 ?_ ?Zk6 ?Zk7; (case Zk1 => exact News.isTup (by k_asm) (by kcf_m)); (case Zk2 => decide); (case Zk3 => decide); (case Zk4 => exact rfl); (case Zk5 => exact rfl); (case Zk6 => with_unfolding_all rfl); (case Zk7 => (intro _; with_unfolding_all rfl)); k_whole))))
  (k_with "zcall type:list" => row_timed "z" (fail "z"; (k_here; (with_reducible show wpAny _ _ (call (Value.type _) [Value.ref _]) _ _ _); (with_unfolding_all refine' list_copyKT ?Zk1 ?Zk2 ?Zk3 ?_ ?Zz; (case Zk1 => k_asm); (case Zk2 => k_asm); (case Zk3 => exact News.isTup (by k_asm) (by kcf_m)); (case Zz => (simp only [List.size_toArray, List.length_cons, List.length_nil, sizeLine_eq]; walk_at "u om")); k_whole); intro ZD' Zc' Zh' ZF' ZN' Zl1; (have Zl0' := LtAll.of Zl1); (try k_lt Zl1); (try k_sweep))))
  (k_with "zCompSrc" => row_timed "z" (fail "z"; (k_here; k_dflt (first
  | (refine LCg.CompSrc.ledger (by assumption) (by k_asm) (by k_asm) (by kcf_m) (by first | size_fits | exact Nat.le_of_ble_eq_true rfl) ?_; intro Zg'; lcg_lit)
  | (refine LCg.CompSrc.range (by assumption) (by k_asm) (by k_asm) (by assumption) (by first | decide | rfl) (by first | rfl | decide) (by first | size_fits | exact Nat.le_of_ble_eq_true rfl) ?_; intro Zg'; lcg_lit)))))
  (k_with "zsubscriptTail Name Name ref int" => walk_at "subscriptTail Name Constant ref int")
  (k_with "zCompRest" => row_timed "z" (fail "z"; (k_here; (with_unfolding_all first
  | (refine LCg.CompRest.succ ?_; intro Zv' ZI' ZoI' ZC' ZoC' ZD' Zm' Zh' Ztk' ZE' Zhv' ZhC' Zhx' ZF' ZN' Zoff' Zne'; (first | lcg_open Zhv' | (obtain ⟨Zt9', Zhv9'⟩ := Zhv'; subst Zhv9')); (try k_sweep))
  | refine LCg.CompRest.zero ?_))))
  (k_with "zCompEnd" => row_timed "z" (fail "z"; (k_here; (rename News _ _ _ _ => ZnE9); (rename LCg.Off3 _ _ _ _ => ZoE9); refine LCg.CompEnd.intro (by assumption) ZnE9 _ (fun _ h => h) ZoE9 (by first | exact True.intro | exact Or.inr ⟨_, by kcf_m, rfl, _, rfl⟩) ?_)))
  (k_with "zFinE" => row_timed "z" (fail "z"; (k_here; (unfold LCg.FinE); intro ZD' Zh' Ztk' ZF' ZN' Zo1'; (try simp only [List.nil_append, List.cons_append] at ZN'); (try dsimp only); (try k_sweep))))
  (k_with "zcall builtin:list.append" => row_timed "z" (fail "z"; (k_here; (with_reducible show wpAny _ _ (call (Value.builtin _) [Value.ref _, _]) _ _ _); k_dflt (refine' append_T ?Zk1 ?Zk2 ?Zk3 ?Zz ?_; (case Zk1 => k_asm); (case Zk2 => k_asm); (case Zk3 => k_upd); (case Zz => ((try simp only [List.length_append, List.length_cons, List.length_nil] at *); walk_at "u om")); k_whole); intro Zh' ZF' ZN'; (try k_sweep))))
  (k_with "zsubscriptTail Name Constant ref int" => row_timed "z" (fail "z"; (k_here; (with_reducible show wpAny _ _ (subscriptTail _ _ (Value.ref _) (Value.int 0 _)) _ _ _); (with_unfolding_all refine' item_head ?Zk1 ?_ ?Zk6 ?Zk7; (case Zk1 => exact News.isTup (by k_asm) (by kcf_m)); (case Zk6 => with_unfolding_all rfl); (case Zk7 => (intro _; with_unfolding_all rfl)); k_whole))))
  (k_with "zu pick" => (((repeat' (first | exact Pick.head | refine' Pick.tail ?_ )); first | done | fail "left open")))
  (k_with "zu split" => (((repeat' (first | exact Split.base | refine' Split.keep ⟨rfl, ⟨_, _, rfl⟩⟩ ?_ | refine' Split.app (by assumption) ?_ | refine' Split.skip ?_)); first | done | fail "left open")))
  (k_with "zu sub" => (((repeat' (first | exact fun _ h => h | exact List.forall_mem_nil _ | refine List.forall_mem_append.mpr ⟨?_, ?_⟩ | refine List.forall_mem_cons.mpr ⟨?_, ?_⟩ | kcf_m | (intro p9 h9; kcf_m))); first | done | fail "left open")))
  (k_with "zu subt" => (((unfold TSub); (repeat' (first | exact fun _ h _ => h | exact List.forall_mem_nil _ | refine List.forall_mem_append.mpr ⟨?_, ?_⟩ | refine List.forall_mem_cons.mpr ⟨?_, ?_⟩ | exact notTup rfl (by decide) | exact notTup (by assumption) (by decide) | exact notCell (by assumption) | (intro _; kcf_m) | (intro p9 h9 _; kcf_m))); first | done | fail "left open")))
  (k_with "zu ht" => with_reducible first | exact ht_k (by assumption))
  (k_with "zu dep" => (refine dep_deeper (by assumption) ?_; first | exact Nat.le_of_ble_eq_true rfl | walk_at "u ht" | exact up_n rfl | exact dep_s))
  (k_with "zu uni" => (refine uni_deeper (by assumption) ?_; first | exact Nat.le_of_ble_eq_true rfl | (refine up_3 ?_; walk_at "u ht") | exact up_u rfl | exact uni_s))
  (k_with "zu frame" => (refine' ⟨?cB, ?cF, ?cX, ?cT, ?cA, ?cf, ?ce, ?cH, ?cd, ?cu⟩; (case cB => k_asm); (case cF => k_asm); (case cX => k_asm); (case cT => k_asm); (case cA => first | exact frames_of (by assumption) | exact rfl); (case cf => exact rfl); (case ce => exact rfl); (case cH => first | exact rfl | assumption); (case cd => first | walk_at "u dep" | ((try simp only [depth_under_make, depth_under_kw, depth_in1, depth_deeper, depth_caller, Mine.T.ht] at *); omega)); (case cu => first | walk_at "u uni" | ((try simp only [units_in1, units_deeper, Around.mark_units, units_caller, Mine.T.ht] at *); omega))))
  (k_with "zcall ref" => (k_here; (with_reducible show wpAny _ _ (call (Value.ref _) _) _ _ _); refine Halt.mk ?_))
  exact True.intro
theorem kw36 : True := by
  (k_with "zsubscriptTail Name Constant ref int" => row_timed "z" (fail "z"; (k_here; (with_reducible show wpAny _ _ (subscriptTail _ _ (Value.ref _) (Value.int _ _)) _ _ _); (with_unfolding_all refine' listItem ?Zk1 ?Zk2 ?Zk3 ?Zk4 ?_ ?Zk6; (case Zk1 => exact News.isList (by k_asm) (by kcf_m)); (case Zk2 => decide); (case Zk3 => decide); (case Zk4 => exact rfl); (case Zk6 => with_unfolding_all rfl); k_whole))))
  exact True.intro
theorem kw37 : True := by
  (k_with "zsubscriptTail Name Slice ref ref" => row_timed "z" (fail "z"; (k_here; (with_reducible show wpAny _ _ (subscriptTail _ (PySem.Expr.Slice (some _) none none _) (Value.ref _) (Value.ref _)) _ _ _); k_dflt (refine' slice_tuple_fromK (a := 3) ?ZF ?ZN ?Zl ?Zi ?Zo ?Zb ?Zz ?_ ?Zs ?Zt; (case ZF => k_asm); (case ZN => k_asm); (case Zl => exact News.isTup (by k_asm) (by kcf_m)); (case Zi => exact rfl); (case Zo => decide); (case Zb => exact Nat.le_of_ble_eq_true rfl); (case Zz => exact Nat.le_of_ble_eq_true rfl); (case Zs => with_unfolding_all rfl); (case Zt => (intro _; with_unfolding_all rfl)); intro ZD' Zh' ZF' ZN' Zl1); (try dsimp only [List.drop] at ZN'); (try k_sweep))))
  exact True.intro
section Sec2
--deps PH PT P0
set_option maxRecDepth 100000 in set_option maxHeartbeats 8000000 in
theorem plate_run {w : World} {pl : Addr} {vs : List Value} {ns : List Int} {n : Nat} {rest : Led} {k : Int} {tk : Tok} (hI : IntsAre vs ns) (hlen : vs.length ≤ 1000) (hk0 : 0 < k) (hk1 : k ≤ 100) (hne : ∀ q ∈ rest, q.1 ≠ pl) :
    Run w (.ref 63) [.ref pl, .int k tk] 1 200 ((pl, listOf vs.toArray n) :: rest) (fun r news' => ∃ x t vs' ns' n', r = .int x t ∧ 0 ≤ x ∧ x < k ∧ IntsAre vs' ns' ∧ vs'.length ≤ vs.length ∧ news' = (pl, listOf vs'.toArray n') :: rest) := by
  unfold Run; k_fill; intro p loose mean mg mb A A₀ env outer base h₀ L m s Q E B F X N T hA hf hke hnd hdp hun hret
  cases hI with
  | nil =>
    (refine wpAny_call ?_; k_dflt (refine' code_def ?k1 ?k2 ?k3 ?k4 ?k5 ?kA ?kF ?kK ?k6 ?k7 ?k8 ?k9 ?kB ?_ ?c2 ?c3 ?c4 ?c5; (case kA => assumption); (case kF => assumption); (case kK => assumption); (case k1 => k_asm); (case k2 => k_asm); (case k3 => k_asm); (case k4 => k_asm); (case k5 => k_asm); (case k6 => k_is); (case k7 => k_is); (case k8 => walk_at "u om"); (case k9 => exact BindsTo.of_eq rfl); (case c5 => decide); (case kB => exact locs rfl); (case c2 => exact rfl); (case c3 => exact rfl); (case c4 => exact rfl); k_whole; intro g' L' h' FG' F' N' B' X' T'; (try dsimp only); (try k_fold)))
    k_steps
    exact hret _ _ _ _ (by assumption) (News.drop (by assumption)) ⟨0, _, _, _, _, rfl, by omega, hk0, .nil, Nat.le_refl _, rfl⟩
  | cons y t r =>
    (refine wpAny_call ?_; k_dflt (refine' code_def ?k1 ?k2 ?k3 ?k4 ?k5 ?kA ?kF ?kK ?k6 ?k7 ?k8 ?k9 ?kB ?_ ?c2 ?c3 ?c4 ?c5; (case kA => assumption); (case kF => assumption); (case kK => assumption); (case k1 => k_asm); (case k2 => k_asm); (case k3 => k_asm); (case k4 => k_asm); (case k5 => k_asm); (case k6 => k_is); (case k7 => k_is); (case k8 => walk_at "u om"); (case k9 => exact BindsTo.of_eq rfl); (case c5 => decide); (case kB => exact locs rfl); (case c2 => exact rfl); (case c3 => exact rfl); (case c4 => exact rfl); k_whole; intro g' L' h' FG' F' N' B' X' T'; (try dsimp only); (try k_fold)))
    k_steps
    · rename decide (_ = ([] : List Int)) = true => hx; exact absurd hx (by simp)
    · exact hret _ _ _ _ (by assumption) (News.drop (by assumption)) ⟨_, _, _, _, _, rfl, Int.fmod_nonneg_of_pos _ hk0, Int.fmod_lt_of_pos _ hk0, r, Nat.le_succ _, rfl⟩
def PlateK (pl : Addr) (k : Int) (len : Nat) (rest : Led) (S : Value → Led → Prop) : Prop := ∀ x t vs' ns' n', 0 ≤ x → x < k → IntsAre vs' ns' → vs'.length ≤ len → S (.int x t) ((pl, listOf vs'.toArray n') :: rest)
theorem plateEl {pl : Addr} {k : Int} {vs : List Value} {rest : Led} (S : Value → Led → Prop) (h : PlateK pl k vs.length rest S) (r : Value) (news' : Led) (P : ∃ x t vs' ns' n', r = .int x t ∧ 0 ≤ x ∧ x < k ∧ IntsAre vs' ns' ∧ vs'.length ≤ vs.length ∧ news' = (pl, listOf vs'.toArray n') :: rest) : S r news' := by
  obtain ⟨x, t, vs', ns', n', rfl, h0, h1, h2, h3, rfl⟩ := P
  exact h x t vs' ns' n' h0 h1 h2 h3
/-- the call of _law_plate from anywhere -/
theorem kw38 : True := by
  (k_with "zcall ref" => row_timed "z" (fail "z"; (k_here; (with_reducible show wpAny _ _ (call (Value.ref 63) _) _ _ _); k_dflt (refine' Run.useK (plate_run ?ZcI ?Zcl ?Zck ?ZcK ?Zcn) plateEl ?Zfr ?ZcN ?_; (case ZcN => (refine' News.pick ?Zpk ?Zpn; (case Zpn => k_asm); (case Zpk => (repeat' (first | exact Pick.head | refine' Pick.tail ?_))))); (case ZcI => assumption); (case Zcl => walk_at "u om"); (case Zck => first | decide | walk_at "u om"); (case ZcK => first | decide | walk_at "u om"); (case Zcn => k_all); (case Zfr => walk_at "u frame"); k_whole); (k_dflt (intro Zx9 Zt9 Zvs9 Zns9 Zn9 Zlo9 Zhi9 ZI9 Zlen9 Zh9 Ztk9 ZF9 ZN9); (try k_sweep); (try dsimp only)))))
  exact True.intro

--deps PH PT P0 P3

def GrownPost (pl : Addr) (len d : Nat) (rest : Led) (r : Value) (news' : Led) : Prop :=
  ∃ t tl vs' ns' n', news' = (pl, listOf vs'.toArray n') :: (rest ++ tl) ∧ Tups tl ∧ (∀ q ∈ tl, q.1 ≠ pl) ∧ IntsAre vs' ns' ∧ vs'.length ≤ len ∧ TIn (rest ++ tl) r t ∧ t.ht ≤ d
theorem GrownPost.of {pl : Addr} {len d n : Nat} {rest tl : Led} {r : Value} {vs : List Value} {ns : List Int} {t : T} (h1 : Tups tl) (h2 : ∀ q ∈ tl, q.1 ≠ pl) (h3 : IntsAre vs ns) (h4 : vs.length ≤ len) (h5 : TIn (rest ++ tl) r t) (h6 : t.ht ≤ d) :
  GrownPost pl len d rest r ((pl, listOf vs.toArray n) :: (rest ++ tl)) := ⟨t, tl, vs, ns, n, rfl, h1, h2, h3, h4, h5, h6⟩
def GrownK (pl : Addr) (len d : Nat) (rest : Led) (S : Value → Led → Prop) : Prop := ∀ r t tl vs' ns' n', Tups tl → (∀ q ∈ tl, q.1 ≠ pl) → IntsAre vs' ns' → vs'.length ≤ len → TIn (rest ++ tl) r t → t.ht ≤ d → S r ((pl, listOf vs'.toArray n') :: (rest ++ tl))
theorem grownEl {pl : Addr} {len d : Nat} {rest : Led} (S : Value → Led → Prop) (h : GrownK pl len d rest S) (r : Value) (news' : Led) (P : GrownPost pl len d rest r news') : S r news' := by
  obtain ⟨t, tl, vs', ns', n', rfl, h1, h2, h3, h4, h5, h6⟩ := P
  exact h r t tl vs' ns' n' h1 h2 h3 h4 h5 h6
def GrownAt (w : World) (D : Nat) : Prop := ∀ (k : Int) (pl : Addr) (vs : List Value) (ns : List Int) (n : Nat) (rest : Led) (tk : Tok), 0 ≤ k → k ≤ D → IntsAre vs ns → vs.length ≤ 1000 → (∀ q ∈ rest, q.1 ≠ pl) →
  Run w (.ref 70) [.ref pl, .int k tk] (D + 2) (3 * D + 210) ((pl, listOf vs.toArray n) :: rest) (GrownPost pl vs.length k.toNat rest)
theorem GrownAt.use {w : World} {D : Nat} (G : GrownAt w D) {k : Int} {pl : Addr} {vs : List Value} {ns : List Int} {n : Nat} {rest : Led} {tk : Tok} (h0 : 0 ≤ k) (h1 : k ≤ D) (hI : IntsAre vs ns) (hl : vs.length ≤ 1000) (hne : ∀ q ∈ rest, q.1 ≠ pl) :
  Run w (.ref 70) [.ref pl, .int k tk] (D + 2) (3 * D + 210) ((pl, listOf vs.toArray n) :: rest) (GrownPost pl vs.length k.toNat rest) := G k pl vs ns n rest tk h0 h1 hI hl hne
theorem kw39 : True := by
  (k_with "zcall ref" => row_timed "z" (fail "z"; (k_here; (with_reducible show wpAny _ _ (call (Value.ref 70) _) _ _ _); k_dflt (refine' Run.useK (GrownAt.use ?ZcG ?Zck ?ZcK ?ZcI ?Zcl ?Zcn) grownEl ?Zfr ?ZcN ?_; (case ZcN => (refine' News.pick ?Zpk ?Zpn; (case Zpn => k_asm); (case Zpk => walk_at "u pick"))); (case ZcG => assumption); (case Zck => first | decide | walk_at "u om"); (case ZcK => first | decide | walk_at "u om"); (case ZcI => assumption); (case Zcl => walk_at "u om"); (case Zcn => k_all); (case Zfr => walk_at "u frame"); k_whole); (k_dflt (intro Zr9 Zx9 Ztl9 Zvs9 Zns9 Zn9 Zts9 Zne9 ZI9 Zlen9 Zti9 Zht9 Zh9 Ztk9 ZF9 ZN9); (try k_sweep); (try dsimp only)))))
  exact True.intro
theorem gh1 {D a : Nat} (h : a ≤ ((D : Int) + 1 - 1).toNat) : a + 1 ≤ ((D : Int) + 1).toNat := by omega
theorem gh2 {D a b : Nat} (h : a ≤ ((D : Int) + 1 - 1).toNat) (h' : b ≤ ((D : Int) + 1 - 1).toNat) : max a b + 1 ≤ ((D : Int) + 1).toNat := by omega
theorem gh3 {D a b c : Nat} (h : a ≤ ((D : Int) + 1 - 1).toNat) (h' : b ≤ ((D : Int) + 1 - 1).toNat) (h'' : c ≤ ((D : Int) + 1 - 1).toNat) : max (max a b) c + 1 ≤ ((D : Int) + 1).toNat := by omega
theorem gh4 {D a b c : Nat} (h : a ≤ ((D : Int) + 1 - 1).toNat) (h' : b ≤ ((D : Int) + 1 - 1).toNat) (h'' : c ≤ Int.toNat 0) : max (max a b) c + 1 ≤ ((D : Int) + 1).toNat := by omega
set_option maxRecDepth 100000 in set_option maxHeartbeats 8000000 in
theorem grown_zero {w : World} : GrownAt w 0 := by
  intro k pl vs ns n rest tk hk0 hk1 hI hlen hne
  obtain rfl : k = 0 := by omega
  unfold Run; k_fill; intro p loose mean mg mb A A₀ env outer base h₀ L m s Q E B F X N T hA hf hke hnd hdp hun hret
  (refine wpAny_call ?_; k_dflt (refine' code_def ?k1 ?k2 ?k3 ?k4 ?k5 ?kA ?kF ?kK ?k6 ?k7 ?k8 ?k9 ?kB ?_ ?c2 ?c3 ?c4 ?c5; (case kA => assumption); (case kF => assumption); (case kK => assumption); (case k1 => k_asm); (case k2 => k_asm); (case k3 => k_asm); (case k4 => k_asm); (case k5 => k_asm); (case k6 => k_is); (case k7 => k_is); (case k8 => walk_at "u om"); (case k9 => exact BindsTo.of_eq rfl); (case c5 => decide); (case kB => exact locs rfl); (case c2 => exact rfl); (case c3 => exact rfl); (case c4 => exact rfl); k_whole; intro g' L' h' FG' F' N' B' X' T'; (try dsimp only); (try k_fold)))
  k_steps
  all_goals (rename News _ _ _ _ => kN8; rename Fr _ _ _ _ => kF8; have e8 := ledEnd (q := (pl, _)) (rest := rest) kN8 (by walk_at "u pick") (by walk_at "u split") (by show Value.type "list" ≠ Value.type "tuple"; decide); refine' hret _ _ _ _ kF8 e8.1 (GrownPost.of e8.2.1 e8.2.2 ?hI ?hl ?ti ?hh); (case hI => assumption); (case hl => walk_at "u om"); (case ti => ((try simp only [List.cons_append, List.nil_append]); (first | exact TIn.n0 (NAt.const (by kcf_m)) | exact TIn.n0 (NAt.sig (by kcf_m)) | exact TIn.n0 (NAt.loc (by kcf_m)) | exact TIn.n0 (NAt.ev (by kcf_m)) | (refine' TIn.n1 (NAt.word (by kcf_m)) (TIn.mono ?mh ?ms); (case mh => assumption); (case ms => walk_at "u subt")) | (refine' TIn.n1 (NAt.slice (by kcf_m)) (TIn.mono ?mh ?ms); (case mh => assumption); (case ms => walk_at "u subt")) | (refine' TIn.n1 (NAt.ext (by kcf_m)) (TIn.mono ?mh ?ms); (case mh => assumption); (case ms => walk_at "u subt")) | (refine' TIn.n1 (NAt.un (by kcf_m)) (TIn.mono ?mh ?ms); (case mh => assumption); (case ms => walk_at "u subt")) | (refine' TIn.n2 (NAt.pick (by kcf_m)) (TIn.mono ?mh ?ms) (TIn.mono ?mi ?mt); (case mh => assumption); (case ms => walk_at "u subt"); (case mi => assumption); (case mt => walk_at "u subt")) | (refine' TIn.n2 (NAt.bin (by kcf_m)) (TIn.mono ?mh ?ms) (TIn.mono ?mi ?mt); (case mh => assumption); (case ms => walk_at "u subt"); (case mi => assumption); (case mt => walk_at "u subt")) | (refine' TIn.n2 (NAt.pow (by kcf_m)) (TIn.mono ?mh ?ms) (TIn.mono ?mi ?mt); (case mh => assumption); (case ms => walk_at "u subt"); (case mi => assumption); (case mt => walk_at "u subt")) | (refine' TIn.n3 (NAt.cond (by kcf_m)) (TIn.mono ?mh ?ms) (TIn.mono ?mi ?mt) (TIn.mono ?mj ?mu); (case mh => assumption); (case ms => walk_at "u subt"); (case mi => assumption); (case mt => walk_at "u subt"); (case mj => assumption); (case mu => walk_at "u subt")) | (refine' TIn.n1 (NAt.cat (by kcf_m) (by kcf_m) (Nat.le_of_ble_eq_true rfl)) (TIn.mono ?mh ?ms); (case mh => assumption); (case ms => walk_at "u subt")) | (refine' TIn.n2 (NAt.cat (by kcf_m) (by kcf_m) (Nat.le_of_ble_eq_true rfl)) (TIn.mono ?mh ?ms) (TIn.mono ?mi ?mt); (case mh => assumption); (case ms => walk_at "u subt"); (case mi => assumption); (case mt => walk_at "u subt")) | (refine' TIn.n3 (NAt.cat (by kcf_m) (by kcf_m) (Nat.le_of_ble_eq_true rfl)) (TIn.mono ?mh ?ms) (TIn.mono ?mi ?mt) (TIn.mono ?mj ?mu); (case mh => assumption); (case ms => walk_at "u subt"); (case mi => assumption); (case mt => walk_at "u subt"); (case mj => assumption); (case mu => walk_at "u subt")) | (refine' TIn.n2 (NAt.call (by kcf_m) (by kcf_m) (Nat.le_of_ble_eq_true rfl)) (TIn.mono ?mh ?ms) (TIn.mono ?mi ?mt); (case mh => assumption); (case ms => walk_at "u subt"); (case mi => assumption); (case mt => walk_at "u subt")) | (refine' TIn.n1 (NAt.sys (by kcf_m) (by kcf_m) (Nat.le_of_ble_eq_true rfl)) (TIn.mono ?mh ?ms); (case mh => assumption); (case ms => walk_at "u subt"))))); (case hh => (simp only [Mine.T.ht]; first | exact Nat.zero_le _ | exact gh1 (by assumption) | exact gh2 (by assumption) (by assumption) | exact gh3 (by assumption) (by assumption) (by assumption) | exact gh4 (by assumption) (by assumption) (by assumption) | omega)))
set_option maxRecDepth 100000 in set_option maxHeartbeats 8000000 in
theorem grown_succ {w : World} {D : Nat} (ih : GrownAt w D) : GrownAt w (D + 1) := by
  intro k pl vs ns n rest tk hk0 hk1 hI hlen hne
  by_cases hkD : k ≤ D
  · exact (ih k pl vs ns n rest tk hk0 hkD hI hlen hne).weaken (by omega) (by omega) fun _ _ h => h
  obtain rfl : k = D + 1 := by omega
  unfold Run; k_fill; intro p loose mean mg mb A A₀ env outer base h₀ L m s Q E B F X N T hA hf hke hnd hdp hun hret
  (refine wpAny_call ?_; k_dflt (refine' code_def ?k1 ?k2 ?k3 ?k4 ?k5 ?kA ?kF ?kK ?k6 ?k7 ?k8 ?k9 ?kB ?_ ?c2 ?c3 ?c4 ?c5; (case kA => assumption); (case kF => assumption); (case kK => assumption); (case k1 => k_asm); (case k2 => k_asm); (case k3 => k_asm); (case k4 => k_asm); (case k5 => k_asm); (case k6 => k_is); (case k7 => k_is); (case k8 => walk_at "u om"); (case k9 => exact BindsTo.of_eq rfl); (case c5 => decide); (case kB => exact locs rfl); (case c2 => exact rfl); (case c3 => exact rfl); (case c4 => exact rfl); k_whole; intro g' L' h' FG' F' N' B' X' T'; (try dsimp only); (try k_fold)))
  k_steps
  all_goals first | (rename News _ _ _ _ => kN8; rename Fr _ _ _ _ => kF8; have e8 := ledEnd (q := (pl, _)) (rest := rest) kN8 (by walk_at "u pick") (by walk_at "u split") (by show Value.type "list" ≠ Value.type "tuple"; decide); refine' hret _ _ _ _ kF8 e8.1 (GrownPost.of e8.2.1 e8.2.2 ?hI ?hl ?ti ?hh); (case hI => assumption); (case hl => walk_at "u om"); (case ti => ((try simp only [List.cons_append, List.nil_append]); (first | exact TIn.n0 (NAt.const (by kcf_m)) | exact TIn.n0 (NAt.sig (by kcf_m)) | exact TIn.n0 (NAt.loc (by kcf_m)) | exact TIn.n0 (NAt.ev (by kcf_m)) | (refine' TIn.n1 (NAt.word (by kcf_m)) (TIn.mono ?mh ?ms); (case mh => assumption); (case ms => walk_at "u subt")) | (refine' TIn.n1 (NAt.slice (by kcf_m)) (TIn.mono ?mh ?ms); (case mh => assumption); (case ms => walk_at "u subt")) | (refine' TIn.n1 (NAt.ext (by kcf_m)) (TIn.mono ?mh ?ms); (case mh => assumption); (case ms => walk_at "u subt")) | (refine' TIn.n1 (NAt.un (by kcf_m)) (TIn.mono ?mh ?ms); (case mh => assumption); (case ms => walk_at "u subt")) | (refine' TIn.n2 (NAt.pick (by kcf_m)) (TIn.mono ?mh ?ms) (TIn.mono ?mi ?mt); (case mh => assumption); (case ms => walk_at "u subt"); (case mi => assumption); (case mt => walk_at "u subt")) | (refine' TIn.n2 (NAt.bin (by kcf_m)) (TIn.mono ?mh ?ms) (TIn.mono ?mi ?mt); (case mh => assumption); (case ms => walk_at "u subt"); (case mi => assumption); (case mt => walk_at "u subt")) | (refine' TIn.n2 (NAt.pow (by kcf_m)) (TIn.mono ?mh ?ms) (TIn.mono ?mi ?mt); (case mh => assumption); (case ms => walk_at "u subt"); (case mi => assumption); (case mt => walk_at "u subt")) | (refine' TIn.n3 (NAt.cond (by kcf_m)) (TIn.mono ?mh ?ms) (TIn.mono ?mi ?mt) (TIn.mono ?mj ?mu); (case mh => assumption); (case ms => walk_at "u subt"); (case mi => assumption); (case mt => walk_at "u subt"); (case mj => assumption); (case mu => walk_at "u subt")) | (refine' TIn.n1 (NAt.cat (by kcf_m) (by kcf_m) (Nat.le_of_ble_eq_true rfl)) (TIn.mono ?mh ?ms); (case mh => assumption); (case ms => walk_at "u subt")) | (refine' TIn.n2 (NAt.cat (by kcf_m) (by kcf_m) (Nat.le_of_ble_eq_true rfl)) (TIn.mono ?mh ?ms) (TIn.mono ?mi ?mt); (case mh => assumption); (case ms => walk_at "u subt"); (case mi => assumption); (case mt => walk_at "u subt")) | (refine' TIn.n3 (NAt.cat (by kcf_m) (by kcf_m) (Nat.le_of_ble_eq_true rfl)) (TIn.mono ?mh ?ms) (TIn.mono ?mi ?mt) (TIn.mono ?mj ?mu); (case mh => assumption); (case ms => walk_at "u subt"); (case mi => assumption); (case mt => walk_at "u subt"); (case mj => assumption); (case mu => walk_at "u subt")) | (refine' TIn.n2 (NAt.call (by kcf_m) (by kcf_m) (Nat.le_of_ble_eq_true rfl)) (TIn.mono ?mh ?ms) (TIn.mono ?mi ?mt); (case mh => assumption); (case ms => walk_at "u subt"); (case mi => assumption); (case mt => walk_at "u subt")) | (refine' TIn.n1 (NAt.sys (by kcf_m) (by kcf_m) (Nat.le_of_ble_eq_true rfl)) (TIn.mono ?mh ?ms); (case mh => assumption); (case ms => walk_at "u subt"))))); (case hh => (simp only [Mine.T.ht]; first | exact Nat.zero_le _ | exact gh1 (by assumption) | exact gh2 (by assumption) (by assumption) | exact gh3 (by assumption) (by assumption) (by assumption) | exact gh4 (by assumption) (by assumption) (by assumption) | omega))) | skip
  rename ((_ : Int) < 3) => hi3
  rename (0 ≤ (_ : Int)) => lo3
  rcases three lo3 hi3 with e | e | e <;> subst e
  all_goals k_steps
  all_goals (rename News _ _ _ _ => kN8; rename Fr _ _ _ _ => kF8; have e8 := ledEnd (q := (pl, _)) (rest := rest) kN8 (by walk_at "u pick") (by walk_at "u split") (by show Value.type "list" ≠ Value.type "tuple"; decide); refine' hret _ _ _ _ kF8 e8.1 (GrownPost.of e8.2.1 e8.2.2 ?hI ?hl ?ti ?hh); (case hI => assumption); (case hl => walk_at "u om"); (case ti => ((try simp only [List.cons_append, List.nil_append]); (first | exact TIn.n0 (NAt.const (by kcf_m)) | exact TIn.n0 (NAt.sig (by kcf_m)) | exact TIn.n0 (NAt.loc (by kcf_m)) | exact TIn.n0 (NAt.ev (by kcf_m)) | (refine' TIn.n1 (NAt.word (by kcf_m)) (TIn.mono ?mh ?ms); (case mh => assumption); (case ms => walk_at "u subt")) | (refine' TIn.n1 (NAt.slice (by kcf_m)) (TIn.mono ?mh ?ms); (case mh => assumption); (case ms => walk_at "u subt")) | (refine' TIn.n1 (NAt.ext (by kcf_m)) (TIn.mono ?mh ?ms); (case mh => assumption); (case ms => walk_at "u subt")) | (refine' TIn.n1 (NAt.un (by kcf_m)) (TIn.mono ?mh ?ms); (case mh => assumption); (case ms => walk_at "u subt")) | (refine' TIn.n2 (NAt.pick (by kcf_m)) (TIn.mono ?mh ?ms) (TIn.mono ?mi ?mt); (case mh => assumption); (case ms => walk_at "u subt"); (case mi => assumption); (case mt => walk_at "u subt")) | (refine' TIn.n2 (NAt.bin (by kcf_m)) (TIn.mono ?mh ?ms) (TIn.mono ?mi ?mt); (case mh => assumption); (case ms => walk_at "u subt"); (case mi => assumption); (case mt => walk_at "u subt")) | (refine' TIn.n2 (NAt.pow (by kcf_m)) (TIn.mono ?mh ?ms) (TIn.mono ?mi ?mt); (case mh => assumption); (case ms => walk_at "u subt"); (case mi => assumption); (case mt => walk_at "u subt")) | (refine' TIn.n3 (NAt.cond (by kcf_m)) (TIn.mono ?mh ?ms) (TIn.mono ?mi ?mt) (TIn.mono ?mj ?mu); (case mh => assumption); (case ms => walk_at "u subt"); (case mi => assumption); (case mt => walk_at "u subt"); (case mj => assumption); (case mu => walk_at "u subt")) | (refine' TIn.n1 (NAt.cat (by kcf_m) (by kcf_m) (Nat.le_of_ble_eq_true rfl)) (TIn.mono ?mh ?ms); (case mh => assumption); (case ms => walk_at "u subt")) | (refine' TIn.n2 (NAt.cat (by kcf_m) (by kcf_m) (Nat.le_of_ble_eq_true rfl)) (TIn.mono ?mh ?ms) (TIn.mono ?mi ?mt); (case mh => assumption); (case ms => walk_at "u subt"); (case mi => assumption); (case mt => walk_at "u subt")) | (refine' TIn.n3 (NAt.cat (by kcf_m) (by kcf_m) (Nat.le_of_ble_eq_true rfl)) (TIn.mono ?mh ?ms) (TIn.mono ?mi ?mt) (TIn.mono ?mj ?mu); (case mh => assumption); (case ms => walk_at "u subt"); (case mi => assumption); (case mt => walk_at "u subt"); (case mj => assumption); (case mu => walk_at "u subt")) | (refine' TIn.n2 (NAt.call (by kcf_m) (by kcf_m) (Nat.le_of_ble_eq_true rfl)) (TIn.mono ?mh ?ms) (TIn.mono ?mi ?mt); (case mh => assumption); (case ms => walk_at "u subt"); (case mi => assumption); (case mt => walk_at "u subt")) | (refine' TIn.n1 (NAt.sys (by kcf_m) (by kcf_m) (Nat.le_of_ble_eq_true rfl)) (TIn.mono ?mh ?ms); (case mh => assumption); (case ms => walk_at "u subt"))))); (case hh => (simp only [Mine.T.ht]; first | exact Nat.zero_le _ | exact gh1 (by assumption) | exact gh2 (by assumption) (by assumption) | exact gh3 (by assumption) (by assumption) (by assumption) | exact gh4 (by assumption) (by assumption) (by assumption) | omega)))
theorem grown_run {w : World} : ∀ D, GrownAt w D
  | 0 => grown_zero
  | D + 1 => grown_succ (grown_run D)

end Sec2
theorem kw40 : True := by
  k_with_none
  (k_with "zu pr" => first | exact pr0 (by assumption) | exact pr1 (by assumption) | exact pe1 (by assumption) | exact pr2 (by assumption) | exact pe2 (by assumption) | exact pr3 (by assumption) | exact pe3 (by assumption) | exact pr4 (by assumption) | exact pe4 (by assumption) | exact pr5 (by assumption) | exact pe5 (by assumption) | exact pr6 (by assumption) | exact pe6 (by assumption) | exact pr7 (by assumption) | exact pe7 (by assumption) | exact pr8 (by assumption) | exact pe8 (by assumption) | exact pr9 (by assumption) | exact pe9 (by assumption) | exact pr10 (by assumption) | exact pe10 (by assumption) | exact pr11 (by assumption) | exact pe11 (by assumption) | exact pr12 (by assumption) | exact pe12 (by assumption) | exact pr13 (by assumption) | exact pe13 (by assumption) | exact pr14 (by assumption) | exact pe14 (by assumption) | exact pr15 (by assumption) | exact pe15 (by assumption) | exact pr16 (by assumption) | exact pe16 (by assumption) | exact pr17 (by assumption) | exact pe17 (by assumption) | exact pr18 (by assumption) | exact pe18 (by assumption) | exact pr19 (by assumption) | exact pe19 (by assumption) | exact pr20 (by assumption) | exact pe20 (by assumption) | exact pr21 (by assumption) | exact pe21 (by assumption) | exact pr22 (by assumption) | exact pe22 (by assumption) | exact pr23 (by assumption) | exact pe23 (by assumption))
  (k_with "zu ne" => (refine neN ?_; (try dsimp only); first | (with_reducible first | assumption | exact Ne.symm (by assumption) | exact Nat.ne_of_lt (by assumption) | exact Nat.ne_of_gt (by assumption) | ((fail_if_success (fail_if_success (refine nA (by assumption) ?_))); walk_at "u pr") | ((fail_if_success (fail_if_success (refine nB (by assumption) ?_))); refine Ne.symm ?_; walk_at "u pr") | ((fail_if_success (fail_if_success (refine lA (by assumption) ?_))); refine Nat.ne_of_lt ?_; walk_at "u pr") | ((fail_if_success (fail_if_success (refine lB (by assumption) ?_))); refine Nat.ne_of_gt ?_; walk_at "u pr")) | omega))
  (k_with "zu len" => ((repeat (first | assumption | exact Nat.le_refl _ | refine Nat.le_trans (by assumption) ?_)); done))
  (k_with "zu om" => first | (with_reducible assumption) | (with_reducible walk_at "u len") | (with_reducible ((repeat (rename (_ ≠ _ ∧ _) => kx; clear kx)); (repeat (rename (_ < _ ∧ _) => kx; clear kx))); omega))
  (k_with "zcall type:tuple" => row_timed "z" (fail "z"; (k_here; (with_reducible show wpAny _ _ (call (Value.type _) [Value.ref _]) _ _ _); k_dflt (refine' kde_tupleOf ?Zk1 ?Zk2 ?Zk3 ?Zk4 ?Zk5 ?_; (case Zk1 => k_asm); (case Zk2 => k_asm); (case Zk3 => exact News.isList (by k_asm) (by kcf_m)); (case Zk4 => (simp only [List.size_toArray]; first | assumption | walk_at "u om")); (case Zk5 => exact rfl); k_whole); intro ZD' Zh' ZF' ZN' Zl1; (try k_sweep))))
  (k_with "zcall builtin:list.pop" => row_timed "z" (fail "z"; (k_here; (with_reducible show wpAny _ _ (call (Value.builtin _) [Value.ref _, Value.int 0 _]) _ _ _); k_dflt (refine' pop0 ?ZF ?ZN ?ZU ?Zz ?_; (case ZF => k_asm); (case ZN => k_asm); (case ZU => k_upd); (case Zz => (simp only [List.length_cons] at *; walk_at "u om")); k_whole); intro Zh' ZF' ZN'; (try k_sweep))))
  (k_with "zsubscriptTail Name Name ref int" => row_timed "z" (fail "z"; (k_here; (with_reducible show wpAny _ _ (subscriptTail _ _ (Value.ref _) (Value.int _ _)) _ _ _); (fail_if_success (with_reducible show wpAny _ _ (subscriptTail _ _ (Value.ref _) (Value.int (OfNat.ofNat _) _)) _ _ _)); (with_unfolding_all refine' pickK ?Zk3 ?Zk4 ?Zk5 ?Zk6 ?_ ?Zk7; (case Zk3 => exact News.isList (by k_asm) (by kcf_m)); (case Zk4 => walk_at "u om"); (case Zk5 => (simp only [List.length_cons, List.length_nil]; walk_at "u om")); (case Zk6 => walk_at "u om"); (case Zk7 => with_unfolding_all rfl); k_whole); (dsimp only [PickAt]); k_places; (all_goals (try k_fold)))))
  (k_with "zsubscriptTail Name Call ref int" => walk_at "subscriptTail Name Name ref int")
  (k_with "zsubscriptTail List" => (k_here; k_dflt (refine kba_turn (value' := PySem.Expr.Name (PySem.Str.ofString "_") ⟨0, 0, 0, 0⟩) (fun _ => rfl) ?_)))
  (k_with "zsubscriptTail Tuple" => walk_at "subscriptTail List")
  (k_with "zsubscriptTail Name Slice ref ref" => row_timed "z" (fail "z"; (k_here; (with_reducible show wpAny _ _ (subscriptTail _ (PySem.Expr.Slice none (some _) none _) (Value.ref _) (Value.ref _)) _ _ _); k_dflt (first
  | (refine' slice_tuple_upto (b := 1) ?ZF ?ZN ?Zl ?Zi ?Zb ?Zz ?_ ?Zs ?Zt; (case ZF => k_asm); (case ZN => k_asm); (case Zl => exact News.isTup (by k_asm) (by kcf_m)); (case Zi => exact rfl); (case Zb => first | exact Nat.le_of_ble_eq_true rfl | ((simp only [List.length_cons]); walk_at "u om")); (case Zz => first | exact Nat.le_of_ble_eq_true rfl | ((simp only [List.length_cons]); walk_at "u om")); (case Zs => with_unfolding_all rfl); (case Zt => (intro _; with_unfolding_all rfl)); intro ZD' Zh' ZF' ZN' Zl1)
  | (refine' slice_tuple_upto (b := 2) ?ZF ?ZN ?Zl ?Zi ?Zb ?Zz ?_ ?Zs ?Zt; (case ZF => k_asm); (case ZN => k_asm); (case Zl => exact News.isTup (by k_asm) (by kcf_m)); (case Zi => exact rfl); (case Zb => first | exact Nat.le_of_ble_eq_true rfl | ((simp only [List.length_cons]); walk_at "u om")); (case Zz => first | exact Nat.le_of_ble_eq_true rfl | ((simp only [List.length_cons]); walk_at "u om")); (case Zs => with_unfolding_all rfl); (case Zt => (intro _; with_unfolding_all rfl)); intro ZD' Zh' ZF' ZN' Zl1)
  | (refine' slice_tuple_upto (b := 3) ?ZF ?ZN ?Zl ?Zi ?Zb ?Zz ?_ ?Zs ?Zt; (case ZF => k_asm); (case ZN => k_asm); (case Zl => exact News.isTup (by k_asm) (by kcf_m)); (case Zi => exact rfl); (case Zb => first | exact Nat.le_of_ble_eq_true rfl | ((simp only [List.length_cons]); walk_at "u om")); (case Zz => first | exact Nat.le_of_ble_eq_true rfl | ((simp only [List.length_cons]); walk_at "u om")); (case Zs => with_unfolding_all rfl); (case Zt => (intro _; with_unfolding_all rfl)); intro ZD' Zh' ZF' ZN' Zl1)
  | (refine' slice_tuple_whole (b := 2) ?ZF ?ZN ?Zl ?Zi ?Zb ?_ ?Zs ?Zt; (case ZF => k_asm); (case ZN => k_asm); (case Zl => exact News.isTup (by k_asm) (by kcf_m)); (case Zi => exact rfl); (case Zb => exact Nat.le_of_ble_eq_true rfl); (case Zs => with_unfolding_all rfl); (case Zt => (intro _; with_unfolding_all rfl)); intro Zh' ZF' ZN')
  | (refine' slice_tuple_whole (b := 3) ?ZF ?ZN ?Zl ?Zi ?Zb ?_ ?Zs ?Zt; (case ZF => k_asm); (case ZN => k_asm); (case Zl => exact News.isTup (by k_asm) (by kcf_m)); (case Zi => exact rfl); (case Zb => exact Nat.le_of_ble_eq_true rfl); (case Zs => with_unfolding_all rfl); (case Zt => (intro _; with_unfolding_all rfl)); intro Zh' ZF' ZN')); (try dsimp only [List.take]); (try k_sweep))))
  (k_with "zsubscriptTail Name Constant ref int" => row_timed "z" (fail "z"; (k_here; (with_reducible show wpAny _ _ (subscriptTail _ _ (Value.ref _) (Value.int _ _)) _ _ _); (with_unfolding_all refine' item_tupleL ?Zk1 ?Zk2 ?Zk3 ?Zk4 ?Zk5 ?_ ?Zk6 ?Zk7; (case Zk1 => exact News.isTup (by k_asm) (by kcf_m)); (case Zk2 => decide); (case Zk3 => decide); (case Zk4 => exact rfl); (case Zk5 => exact rfl); (case Zk6 => with_unfolding_all rfl); (case Zk7 => (intro _; with_unfolding_all rfl)); k_whole))))
  (k_with "zcall type:list" => row_timed "z" (fail "z"; (k_here; (with_reducible show wpAny _ _ (call (Value.type _) [Value.ref _]) _ _ _); (with_unfolding_all refine' list_copyKT ?Zk1 ?Zk2 ?Zk3 ?_ ?Zz; (case Zk1 => k_asm); (case Zk2 => k_asm); (case Zk3 => exact News.isTup (by k_asm) (by kcf_m)); (case Zz => (simp only [List.size_toArray, List.length_cons, List.length_nil, sizeLine_eq]; walk_at "u om")); k_whole); intro ZD' Zc' Zh' ZF' ZN' Zl1; (have Zl0' := LtAll.of Zl1); (try k_lt Zl1); (try k_sweep))))
  (k_with "zCompSrc" => row_timed "z" (fail "z"; (k_here; k_dflt (first
  | (refine LCg.CompSrc.ledger (by assumption) (by k_asm) (by k_asm) (by kcf_m) (by first | size_fits | exact Nat.le_of_ble_eq_true rfl) ?_; intro Zg'; lcg_lit)
  | (refine LCg.CompSrc.range (by assumption) (by k_asm) (by k_asm) (by assumption) (by first | decide | rfl) (by first | rfl | decide) (by first | size_fits | exact Nat.le_of_ble_eq_true rfl) ?_; intro Zg'; lcg_lit)))))
  (k_with "zsubscriptTail Name Name ref int" => walk_at "subscriptTail Name Constant ref int")
  (k_with "zCompRest" => row_timed "z" (fail "z"; (k_here; (with_unfolding_all first
  | (refine LCg.CompRest.succ ?_; intro Zv' ZI' ZoI' ZC' ZoC' ZD' Zm' Zh' Ztk' ZE' Zhv' ZhC' Zhx' ZF' ZN' Zoff' Zne'; (first | lcg_open Zhv' | (obtain ⟨Zt9', Zhv9'⟩ := Zhv'; subst Zhv9')); (try k_sweep))
  | refine LCg.CompRest.zero ?_))))
  (k_with "zCompEnd" => row_timed "z" (fail "z"; (k_here; (rename News _ _ _ _ => ZnE9); (rename LCg.Off3 _ _ _ _ => ZoE9); refine LCg.CompEnd.intro (by assumption) ZnE9 _ (fun _ h => h) ZoE9 (by first | exact True.intro | exact Or.inr ⟨_, by kcf_m, rfl, _, rfl⟩) ?_)))
  (k_with "zFinE" => row_timed "z" (fail "z"; (k_here; (unfold LCg.FinE); intro ZD' Zh' Ztk' ZF' ZN' Zo1'; (try simp only [List.nil_append, List.cons_append] at ZN'); (try dsimp only); (try k_sweep))))
  (k_with "zcall builtin:list.append" => row_timed "z" (fail "z"; (k_here; (with_reducible show wpAny _ _ (call (Value.builtin _) [Value.ref _, _]) _ _ _); k_dflt (refine' append_T ?Zk1 ?Zk2 ?Zk3 ?Zz ?_; (case Zk1 => k_asm); (case Zk2 => k_asm); (case Zk3 => k_upd); (case Zz => ((try simp only [List.length_append, List.length_cons, List.length_nil] at *); walk_at "u om")); k_whole); intro Zh' ZF' ZN'; (try k_sweep))))
  (k_with "zsubscriptTail Name Constant ref int" => row_timed "z" (fail "z"; (k_here; (with_reducible show wpAny _ _ (subscriptTail _ _ (Value.ref _) (Value.int 0 _)) _ _ _); (with_unfolding_all refine' item_head ?Zk1 ?_ ?Zk6 ?Zk7; (case Zk1 => exact News.isTup (by k_asm) (by kcf_m)); (case Zk6 => with_unfolding_all rfl); (case Zk7 => (intro _; with_unfolding_all rfl)); k_whole))))
  (k_with "zu pick" => (((repeat' (first | exact Pick.head | refine' Pick.tail ?_ )); first | done | fail "left open")))
  (k_with "zu split" => (((repeat' (first | exact Split.base | refine' Split.keep ⟨rfl, ⟨_, _, rfl⟩⟩ ?_ | refine' Split.app (by assumption) ?_ | refine' Split.skip ?_)); first | done | fail "left open")))
  (k_with "zu sub" => (((repeat' (first | exact fun _ h => h | exact List.forall_mem_nil _ | refine List.forall_mem_append.mpr ⟨?_, ?_⟩ | refine List.forall_mem_cons.mpr ⟨?_, ?_⟩ | kcf_m | (intro p9 h9; kcf_m))); first | done | fail "left open")))
  (k_with "zu subt" => (((unfold TSub); (repeat' (first | exact fun _ h _ => h | exact List.forall_mem_nil _ | refine List.forall_mem_append.mpr ⟨?_, ?_⟩ | refine List.forall_mem_cons.mpr ⟨?_, ?_⟩ | exact notTup rfl (by decide) | exact notTup (by assumption) (by decide) | exact notCell (by assumption) | (intro _; kcf_m) | (intro p9 h9 _; kcf_m))); first | done | fail "left open")))
  (k_with "zu ht" => with_reducible first | exact ht_k (by assumption))
  (k_with "zu dep" => (refine dep_deeper (by assumption) ?_; first | exact Nat.le_of_ble_eq_true rfl | walk_at "u ht" | exact up_n rfl | exact dep_s))
  (k_with "zu uni" => (refine uni_deeper (by assumption) ?_; first | exact Nat.le_of_ble_eq_true rfl | (refine up_3 ?_; walk_at "u ht") | exact up_u rfl | exact uni_s))
  (k_with "zu frame" => (refine' ⟨?cB, ?cF, ?cX, ?cT, ?cA, ?cf, ?ce, ?cH, ?cd, ?cu⟩; (case cB => k_asm); (case cF => k_asm); (case cX => k_asm); (case cT => k_asm); (case cA => first | exact frames_of (by assumption) | exact rfl); (case cf => exact rfl); (case ce => exact rfl); (case cH => first | exact rfl | assumption); (case cd => first | walk_at "u dep" | ((try simp only [depth_under_make, depth_under_kw, depth_in1, depth_deeper, depth_caller, Mine.T.ht] at *); omega)); (case cu => first | walk_at "u uni" | ((try simp only [units_in1, units_deeper, Around.mark_units, units_caller, Mine.T.ht] at *); omega))))
  (k_with "zcall ref" => (k_here; (with_reducible show wpAny _ _ (call (Value.ref _) _) _ _ _); refine Halt.mk ?_))
  (k_with "zsubscriptTail Name Constant ref int" => row_timed "z" (fail "z"; (k_here; (with_reducible show wpAny _ _ (subscriptTail _ _ (Value.ref _) (Value.int _ _)) _ _ _); (with_unfolding_all refine' listItem ?Zk1 ?Zk2 ?Zk3 ?Zk4 ?_ ?Zk6; (case Zk1 => exact News.isList (by k_asm) (by kcf_m)); (case Zk2 => decide); (case Zk3 => decide); (case Zk4 => exact rfl); (case Zk6 => with_unfolding_all rfl); k_whole))))
  (k_with "zsubscriptTail Name Slice ref ref" => row_timed "z" (fail "z"; (k_here; (with_reducible show wpAny _ _ (subscriptTail _ (PySem.Expr.Slice (some _) none none _) (Value.ref _) (Value.ref _)) _ _ _); k_dflt (refine' slice_tuple_fromK (a := 3) ?ZF ?ZN ?Zl ?Zi ?Zo ?Zb ?Zz ?_ ?Zs ?Zt; (case ZF => k_asm); (case ZN => k_asm); (case Zl => exact News.isTup (by k_asm) (by kcf_m)); (case Zi => exact rfl); (case Zo => decide); (case Zb => exact Nat.le_of_ble_eq_true rfl); (case Zz => exact Nat.le_of_ble_eq_true rfl); (case Zs => with_unfolding_all rfl); (case Zt => (intro _; with_unfolding_all rfl)); intro ZD' Zh' ZF' ZN' Zl1); (try dsimp only [List.drop] at ZN'); (try k_sweep))))
  exact True.intro
--deps PH PT P0
section
variable {prog : Program} {w : World} {A : Around} {E : Value → Shared → Prop} {env : Env} {h₀ : Heap} {x : Str} {body : List Stmt} {Q : Flow → Shared → Prop}
/-- the turns that are left of a loop over the values of a list or a tuple -/
def SeqRest (cls : String) (prog : Program) (w : World) (A : Around) (E : Value → Shared → Prop) (h₀ : Heap) (env : Env) (x : Str) (body : List Stmt) (Q : Flow → Shared → Prop) (s : Shared) (I : Addr) (lp : Addr × Obj) : List Value → (Str → Option Value) → Led → Prop
  | [], m, news => ∀ h tk, Fr h₀ env.locals h m → News h₀ env.locals h news → Q .next { s with heap := h, toks := tk }
  | v :: r, m, news => ∀ (it : Obj) h tk, it.cls = .type cls → Fr h₀ env.locals h (fun y => if y = x then some v else m y) → News h₀ env.locals h ((I, it) :: news) →
      wpAny (model prog w) A (execs body env) (UnrPost h₀ env.locals { s with heap := h, toks := tk } I it (fun m' n' => lp ∈ n' ∧ SeqRest cls prog w A E h₀ env x body Q s I lp r m' n') Q) E { s with heap := h, toks := tk }
variable {s : Shared} {cls : String}
theorem SeqRest.zero {I : Addr} {lp : Addr × Obj} {m : Str → Option Value} {news : Led} (h : ∀ h tk, Fr h₀ env.locals h m → News h₀ env.locals h news → Q .next { s with heap := h, toks := tk }) :
    SeqRest cls prog w A E h₀ env x body Q s I lp [] m news := h
theorem SeqRest.succ {I : Addr} {lp : Addr × Obj} {v : Value} {r : List Value} {m : Str → Option Value} {news : Led}
    (h : ∀ (it : Obj) h tk, it.cls = .type cls → Fr h₀ env.locals h (fun y => if y = x then some v else m y) → News h₀ env.locals h ((I, it) :: news) →
      wpAny (model prog w) A (execs body env) (UnrPost h₀ env.locals { s with heap := h, toks := tk } I it (fun m' n' => lp ∈ n' ∧ SeqRest cls prog w A E h₀ env x body Q s I lp r m' n') Q) E { s with heap := h, toks := tk }) :
    SeqRest cls prog w A E h₀ env x body Q s I lp (v :: r) m news := h

theorem seq_loop {g : Heap} {tk₀ : Nat} {I ax : Addr} {lo : Obj} {xs : List Value} {P : Nat → Value → Prop} {St : Nat → Heap → Prop} {m₀ : Str → Option Value} {news : Led}
    (W : Walks prog w A I [I, ax] [I] xs.length P St) (hPx : ∀ i v, P i v → xs[i]? = some v) (hSt : ∀ i h, St i h → ∃ o, h.get? I = some o ∧ o.cls = .type cls) (hst0 : St 0 g)
    (F : Fr h₀ env.locals g m₀) (N : News h₀ env.locals g news) (hm : (ax, lo) ∈ news) (hI0 : h₀.get? I = none) (hIL : env.locals ≠ I) (hof : ∀ p ∈ news, p.1 ≠ I)
    (rest : SeqRest cls prog w A E h₀ env x body Q s I (ax, lo) xs m₀ news) : LoopAtV prog w A h₀ env x body Q E (.ref I) { s with heap := g, toks := tk₀ } := by
  have hax := N _ hm
  refine ⟨I, _, _, xs.length, _, _, m₀, news, fun i m₁ news₁ => (ax, lo) ∈ news₁ ∧ SeqRest cls prog w A E h₀ env x body Q s I (ax, lo) (xs.drop i) m₁ news₁, rfl, W, ?_, ?_, ?_, hst0, F, N, ⟨hm, by rw [List.drop_zero]; exact rest⟩, ?_, ?_⟩
  · intro hmm
    rcases List.mem_cons.mp hmm with e | hmm
    · exact hIL e
    · exact hax.2.1 (List.mem_singleton.mp hmm).symm
  · intro b hb
    rw [List.mem_singleton.mp hb]
    exact hI0
  · intro p hp hI
    exact hof p hp (List.mem_singleton.mp hI)
  · rintro i v m₁ news₁ s₁ own ⟨hh', tk', rfl⟩ hin hP ⟨hmem₁, hJ⟩ hoff hown hget hall hst F₁ N₁
    obtain ⟨it, hit, hic⟩ := hSt _ _ hst
    have hmemI := hall I (List.mem_cons_self ..) hI0 _ hit
    have hdrop : xs.drop i = v :: xs.drop (i + 1) := by
      have hlt' : i < xs.length := hin
      rw [List.drop_eq_getElem_cons hlt']
      congr 1
      exact Option.some.inj ((List.getElem?_eq_getElem hlt').symm.trans (hPx i v hP))
    rw [hdrop] at hJ
    have N₂ : News h₀ env.locals hh' ((I, it) :: news₁) := fun p hp => by
      rcases List.mem_cons.mp hp with rfl | hp
      · exact N₁ _ (List.mem_append_left _ hmemI)
      · exact N₁ _ (List.mem_append_right _ hp)
    refine wpAny_mono (hJ it hh' tk' hic F₁ N₂) (fun f s₂ p => ?_) fun _ _ e => e
    have fin : UnrEnd h₀ env.locals { s with heap := hh', toks := tk' } I it (fun m' n' => (ax, lo) ∈ n' ∧ SeqRest cls prog w A E h₀ env x body Q s I (ax, lo) (xs.drop (i + 1)) m' n') s₂ →
        LoopStepU h₀ env.locals [I] own (fun m' n' => (ax, lo) ∈ n' ∧ SeqRest cls prog w A E h₀ env x body Q s I (ax, lo) (xs.drop (i + 1)) m' n') { s with heap := hh', toks := tk' } .next s₂ := by
      rintro ⟨h', tk, m', news', e, F', N', ho, hmm, r⟩
      refine ⟨rfl, h', tk, m', news', e, F', fun p hp => ?_, fun p hp hI => ho p hp (List.mem_singleton.mp hI), hmm, r⟩
      rcases List.mem_append.mp hp with hp | hp
      · have h2 : hh'.get? p.1 = some p.2 := hget p hp
        rcases List.mem_cons.mp (hown p hp) with h1 | h1
        · have h3 : p = (I, it) := by
            rw [h1, hit] at h2
            exact Prod.ext h1 (Option.some.inj h2).symm
          rw [h3]; exact N' _ (List.mem_cons_self ..)
        · have h1' : p.1 = ax := List.mem_singleton.mp h1
          have h3 : p = (ax, lo) := by
            rw [h1', (N₁ _ (List.mem_append_right _ hmem₁)).1] at h2
            exact Prod.ext h1' (Option.some.inj h2).symm
          rw [h3]; exact N' _ (List.mem_cons_of_mem _ hmm)
      · exact N' _ (List.mem_cons_of_mem _ hp)
    cases f with
    | ret v => exact .ret p
    | brk => exact .brk p
    | next => exact .next (fin p)
    | cont => exact .cont (fin p)
  · rintro h' tk m' news' F' N' _ ⟨_, hJ⟩
    have z : xs.drop xs.length = [] := List.drop_length
    rw [z] at hJ
    exact hJ h' tk F' N'

theorem seq_list {ax : Addr} {vs : List Value} {n : Nat} {m₀ : Str → Option Value} {news : Led} (hh : A.handled = none) (F : Fr h₀ env.locals s.heap m₀) (N : News h₀ env.locals s.heap news) (hm : (ax, listOf vs.toArray n) ∈ news)
    (rest : ∀ I : Addr, (∀ p ∈ news, p.1 < I) → SeqRest "list_iterator" prog w A E h₀ env x body Q s I (ax, listOf vs.toArray n) vs m₀ news) :
    wpAny (model prog w) A (pyIter (.ref ax)) (fun it s₂ => LoopAtV prog w A h₀ env x body Q E it s₂) E s := by
  have hax := N _ hm
  have hl : s.heap.IsList ax vs.toArray := ⟨_, hax.1, rfl, n, rfl⟩
  have hne : ax ≠ s.heap.objs.size := Nat.ne_of_lt (Heap.lt_size hax.1)
  refine wpAny_pyIter_list hl ?_
  have W := Walks.list (prog := prog) (w := w) hh s.heap.objs.size ax hne vs.toArray
  rw [List.size_toArray] at W
  exact seq_loop (s := s) (xs := vs) W (fun i v h => by simpa using h) (fun i h st => by obtain ⟨o, h1, h2, _⟩ := st.1; exact ⟨o, h1, h2⟩) ⟨⟨_, Heap.get?_push_size _ rfl, rfl, rfl⟩, hl.at fun o e => Heap.get?_push_of_some _ e⟩
    (F.push _) (fun p hp => ⟨Heap.get?_push_of_some _ (N p hp).1, (N p hp).2⟩) hm (next_is_new F) (Nat.ne_of_lt F.ns.lt) (fun p hp => Nat.ne_of_lt (Heap.lt_size (N p hp).1)) (rest s.heap.objs.size fun p hp => Heap.lt_size (N p hp).1)
theorem seq_tuple {ax : Addr} {vs : List Value} {n : Nat} {m₀ : Str → Option Value} {news : Led} (hh : A.handled = none) (F : Fr h₀ env.locals s.heap m₀) (N : News h₀ env.locals s.heap news) (hm : (ax, tupOf vs n) ∈ news)
    (rest : ∀ I : Addr, (∀ p ∈ news, p.1 < I) → SeqRest "tuple_iterator" prog w A E h₀ env x body Q s I (ax, tupOf vs n) vs m₀ news) :
    wpAny (model prog w) A (pyIter (.ref ax)) (fun it s₂ => LoopAtV prog w A h₀ env x body Q E it s₂) E s := by
  have hax := N _ hm
  have hl : s.heap.IsTuple ax vs.toArray := ⟨_, hax.1, rfl, n, rfl⟩
  have hne : ax ≠ s.heap.objs.size := Nat.ne_of_lt (Heap.lt_size hax.1)
  refine wpAny_pyIter_tuple hl ?_
  have W := Walks.tuple (prog := prog) (w := w) hh s.heap.objs.size ax hne vs.toArray
  rw [List.size_toArray] at W
  exact seq_loop (s := s) (xs := vs) W (fun i v h => by simpa using h) (fun i h st => by obtain ⟨o, h1, h2, _⟩ := st.1; exact ⟨o, h1, h2⟩) ⟨⟨_, Heap.get?_push_size _ rfl, rfl, rfl⟩, hl.at fun o e => Heap.get?_push_of_some _ e⟩
    (F.push _) (fun p hp => ⟨Heap.get?_push_of_some _ (N p hp).1, (N p hp).2⟩) hm (next_is_new F) (Nat.ne_of_lt F.ns.lt) (fun p hp => Nat.ne_of_lt (Heap.lt_size (N p hp).1)) (rest s.heap.objs.size fun p hp => Heap.lt_size (N p hp).1)
end
def OffAll (I : Addr) (it : Obj) (l : Led) : Prop := ∀ p ∈ l, p.1 ≠ I ∨ p.2.cls ≠ it.cls
theorem offTups {I : Addr} {it : Obj} {l : Led} {c : String} (h : Tups l) (hc : it.cls = .type c) (hn : Value.type "tuple" ≠ .type c) : ∀ p ∈ l, p.1 ≠ I ∨ p.2.cls ≠ it.cls := fun p hp => .inr (by rw [(h p hp).1, hc]; exact hn)
theorem offLt {I : Addr} {it : Obj} {l r : Led} (h : LtAll I l) (hs : ∀ q ∈ r, q ∈ l) : ∀ p ∈ r, p.1 ≠ I ∨ p.2.cls ≠ it.cls := fun p hp => .inl (Nat.ne_of_lt (h p (hs p hp)))
theorem offCls {I a : Addr} {it o : Obj} {c c' : String} (hc : it.cls = .type c) (ho : o.cls = .type c') (hn : Value.type c' ≠ .type c) : (a, o).1 ≠ I ∨ (a, o).2.cls ≠ it.cls := .inr (by show o.cls ≠ it.cls; rw [hc, ho]; exact hn)
theorem unrEnd {h₀ : Heap} {L I : Addr} {it : Obj} {rest : (Str → Option Value) → Led → Prop} {s₁ : Shared} {h' : Heap} {tk : Nat} {m' : Str → Option Value} {all news' : Led} (F : Fr h₀ L h' m') (N : News h₀ L h' all)
    (hp : Pick (I, it) all news') (off : ∀ p ∈ news', p.1 ≠ I ∨ p.2.cls ≠ it.cls) (r : rest m' news') : UnrEnd h₀ L s₁ I it rest { s₁ with heap := h', toks := tk } :=
  UnrEnd.intro F N news' hp.mem (fun p hq e => by
    rcases off p hq with h | h
    · exact h e
    · have h1 := (N _ (hp.mem _ (.tail _ hq))).1
      have h2 := (N _ (hp.mem _ (.head _))).1
      rw [e] at h1
      exact h (congrArg Obj.cls (Option.some.inj (h1.symm.trans h2)))) r
theorem kw41 : True := by
  (k_with "zpyIter ref" => row_timed "z" (fail "z"; (k_here; (with_reducible show wpAny _ _ (pyIter (Value.ref _)) (fun it s₂ => LoopAtV _ _ _ _ _ _ _ _ _ it s₂) _ _); (rename Fr _ _ _ _ => ZlF'); (with_unfolding_all first
  | (refine' seq_list ?Zhh ZlF' ?ZN ?Zhm ?_; (case ZN => k_asm); (case Zhm => kcf_m); (case Zhh => assumption); k_whole)
  | (refine' seq_tuple ?Zhh ZlF' ?ZN ?Zhm ?_; (case ZN => k_asm); (case Zhm => kcf_m); (case Zhh => assumption); k_whole)); intro Zi' Zl1; (have Zl0' := LtAll.of Zl1); (try k_lt Zl1))))
  exact True.intro
theorem kw42 : True := by
  (k_with "zSeqRest" => row_timed "z" (fail "z"; (k_here; (with_unfolding_all first | (refine SeqRest.succ (fun Zit' Zh' Ztk' Zhit' ZF' ZN' => ?_)) | (refine SeqRest.zero (fun Zh' Ztk' ZF' ZN' => ?_))); (try k_sweep))))
  exact True.intro
theorem kw43 : True := by
  (k_with "zUnrEnd" => row_timed "z" (fail "z"; (k_here; (rename Fr _ _ _ _ => ZuF9); (rename News _ _ _ _ => ZuN9); (with_unfolding_all refine' unrEnd ZuF9 ZuN9 ?Zpk ?Zoff ⟨?Zlm, ?_⟩; (case Zpk => walk_at "u pick"); (case Zoff => ((repeat' (first | exact List.forall_mem_nil _ | exact offTups (by assumption) (by assumption) (by decide) | exact offLt (by assumption) (by walk_at "u sub") | refine List.forall_mem_append.mpr ⟨?_, ?_⟩ | refine List.forall_mem_cons.mpr ⟨?_, ?_⟩ | exact offCls (by assumption) rfl (by decide) | exact Or.inl (by k_ne))); first | done | fail "left open")); (case Zlm => kcf_m)))))
  exact True.intro
section
variable {prog : Program} {w : World} {A : Around} {E : Value → Shared → Prop} {env : Env} {h₀ : Heap} {x : Str} {body : List Stmt} {Q : Flow → Shared → Prop} {s : Shared} {cls : String}
/-- a loop by what holds between its turns -/
theorem SeqRest.byJ {I : Addr} {lp : Addr × Obj} (J : List Value → (Str → Option Value) → Led → Prop)
    (h0 : ∀ m news, J [] m news → ∀ h tk, Fr h₀ env.locals h m → News h₀ env.locals h news → Q .next { s with heap := h, toks := tk })
    (hs : ∀ v r m news, J (v :: r) m news → ∀ (it : Obj) h tk, it.cls = .type cls → Fr h₀ env.locals h (fun y => if y = x then some v else m y) → News h₀ env.locals h ((I, it) :: news) →
      wpAny (model prog w) A (execs body env) (UnrPost h₀ env.locals { s with heap := h, toks := tk } I it (fun m' n' => lp ∈ n' ∧ J r m' n') Q) E { s with heap := h, toks := tk }) :
    ∀ ws m news, J ws m news → SeqRest cls prog w A E h₀ env x body Q s I lp ws m news
  | [], m, news, hJ => h0 m news hJ
  | v :: r, m, news, hJ => fun it h tk hc F N => wpAny_mono (hs v r m news hJ it h tk hc F N) (fun f s₂ p => by
      have fin : UnrEnd h₀ env.locals { s with heap := h, toks := tk } I it (fun m' n' => lp ∈ n' ∧ J r m' n') s₂ → UnrEnd h₀ env.locals { s with heap := h, toks := tk } I it (fun m' n' => lp ∈ n' ∧ SeqRest cls prog w A E h₀ env x body Q s I lp r m' n') s₂ := by
        rintro ⟨h', tk', m', n', e, F', N', o, l, j⟩
        exact ⟨h', tk', m', n', e, F', N', o, l, SeqRest.byJ J h0 hs r m' n' j⟩
      cases f with
      | ret v => exact p
      | brk => exact p
      | next => exact fin p
      | cont => exact fin p) fun _ _ e => e
theorem SeqRest.byJ2 {I : Addr} {lp : Addr × Obj} (J : Addr × Obj → List Value → (Str → Option Value) → Led → Prop)
    (h0 : ∀ m news, J lp [] m news → ∀ h tk, Fr h₀ env.locals h m → News h₀ env.locals h news → Q .next { s with heap := h, toks := tk })
    (hs : ∀ v r m news, J lp (v :: r) m news → ∀ (it : Obj) h tk, it.cls = .type cls → Fr h₀ env.locals h (fun y => if y = x then some v else m y) → News h₀ env.locals h ((I, it) :: news) →
      wpAny (model prog w) A (execs body env) (UnrPost h₀ env.locals { s with heap := h, toks := tk } I it (fun m' n' => lp ∈ n' ∧ J lp r m' n') Q) E { s with heap := h, toks := tk }) :
    ∀ ws m news, J lp ws m news → SeqRest cls prog w A E h₀ env x body Q s I lp ws m news := SeqRest.byJ (J lp) h0 hs
end
theorem kw44 : True := by
  (k_with "zeval Name" => row_timed "z" (fail "z"; (k_here; (fail_if_success (fail_if_success (with_reducible rename ((_ : Str → Option Value) (Str.ofString _) = some _) => ZgX))); k_dflt (refine' ld ?Zk1 ?Zk2 ?_; (case Zk1 => k_asm); (case Zk2 => assumption); k_whole))))
  exact True.intro
theorem ldL {prog : Program} {w : World} {A : Around} {E : Value → Shared → Prop} {s : Shared} {env : Env} {h₀ : Heap} {m : Str → Option Value} {x : Str} {v : Value} {Q : Value → Shared → Prop} (F : Fr h₀ env.locals s.heap m) (hv : m x = some v) (h : Q v s) (hk : env.scope.kind = .function) (hx : env.kindOf x = some .local) :
    wpAny (model prog w) A (loadName env x) Q E s := wpAny_loadName_local hk hx F.ns hv h
theorem kw45 : True := by
  (k_with "zloadName" => row_timed "z" (fail "z"; (k_here; (fail_if_success (fail_if_success (with_reducible rename ((_ : Str → Option Value) (Str.ofString _) = some _) => ZgX))); k_dflt (refine' ldL ?Zk1 ?Zk2 ?_ ?Zk3 ?Zk4; (case Zk1 => k_asm); (case Zk2 => assumption); (case Zk3 => exact rfl); (case Zk4 => exact rfl); k_whole))))
  exact True.intro

section Sec3
--deps PH PT P0 PL
section
variable {prog : Program} {w : World} {A : Around} {E : Value → Shared → Prop} {env : Env} {h₀ : Heap} {x : Str} {body : List Stmt} {Q : Flow → Shared → Prop} {s : Shared}
theorem RangeRest.byJ {I : Addr} {a : Int} {n : Nat} (J : Nat → Nat → (Str → Option Value) → Led → Prop)
    (h0 : ∀ i m news, J 0 i m news → ∀ h tk, Fr h₀ env.locals h m → News h₀ env.locals h news → Q .next { s with heap := h, toks := tk })
    (hs : ∀ k i m news, J (k + 1) i m news → ∀ (it : Obj) t h tk, it.cls = .type "range_iterator" → Fr h₀ env.locals h (fun y => if y = x then some (.int (a + (i : Int)) t) else m y) → News h₀ env.locals h ((I, it) :: news) →
      wpAny (model prog w) A (execs body env) (UnrPost h₀ env.locals { s with heap := h, toks := tk } I it (fun m' n' => J k (i + 1) m' n') Q) E { s with heap := h, toks := tk }) :
    ∀ k i m news, J k i m news → RangeRest prog w A E h₀ env x body Q s I a n k i m news
  | 0, i, m, news, hJ => h0 i m news hJ
  | k + 1, i, m, news, hJ => fun t h tk F N => wpAny_mono (hs k i m news hJ _ t h tk rfl F N) (fun f s₂ p => by
      cases f with
      | ret v => exact p
      | brk => exact p
      | next =>
        obtain ⟨h', tk', m', n', e, F', N', o, j⟩ := p
        exact ⟨h', tk', m', n', e, F', N', o, RangeRest.byJ J h0 hs k (i + 1) m' n' j⟩
      | cont =>
        obtain ⟨h', tk', m', n', e, F', N', o, j⟩ := p
        exact ⟨h', tk', m', n', e, F', N', o, RangeRest.byJ J h0 hs k (i + 1) m' n' j⟩) fun _ _ e => e
end
theorem ne_cls {h₀ h : Heap} {L a b : Addr} {o o' : Obj} {l : Led} (N : News h₀ L h l) (ha : (a, o) ∈ l) (hb : (b, o') ∈ l) (hc : o.cls ≠ o'.cls) : @Ne Nat a b := fun e => by
  have h1 := (N _ ha).1
  have h2 := (N _ hb).1
  have e' : a = b := e
  subst e'
  exact hc (congrArg Obj.cls (Option.some.inj (h1.symm.trans h2)))
theorem kw46 : True := by
  (k_with "zexec For Name Subscript cons nil" => row_timed "z" (fail "z"; (k_here; (rename Fr _ _ _ _ => ZlF'); (with_unfolding_all refine' For_invVF ZlF' ?Zk1 ?Zk2 ?_; (case Zk1 => exact rfl); (case Zk2 => exact rfl); k_whole))))
  exact True.intro
theorem kw47 : True := by
  (k_with "zsubscriptTail Name Slice ref ref" => row_timed "z" (fail "z"; (k_here; (with_reducible show wpAny _ _ (subscriptTail _ (PySem.Expr.Slice none (some _) none _) (Value.ref _) (Value.ref _)) _ _ _); k_dflt (refine' kmk_slice_ints ?ZF ?ZN ?Zl ?Zp ?Zq ?Zi ?Zm ?Zc ?_ ?Zs ?Zt ?Zz; (case ZF => k_asm); (case ZN => k_asm); (case Zl => first | exact News.isList (by k_asm) (by kcf_m) | exact Fr.lst (by assumption) (by assumption)); (case Zp => kmk_part); (case Zq => kmk_part); (case Zi => assumption); (case Zm => exact kmk_upto (by assumption) (by decide)); (case Zc => exact rfl); (case Zs => with_unfolding_all rfl); (case Zt => kmk_pure); (case Zz => ((rw [List.size_toArray, sizeLine_eq]); walk_at "u om"))); intro ZD' Zws' Zh' ZF' ZN' Zl1 ZhI' ZhC' ZhL'; (have Zl0' := LtAll.of Zl1); (have ZhQ' := IntsAre.length ZhI'); (try simp only [List.length_take] at ZhQ'); (try k_lt Zl1); (try k_sweep))))
  exact True.intro
def StackJ (pl sl : Addr) (ws : List Value) (news : Led) (r : List Value) (m : Str → Option Value) (n : Led) : Prop :=
  ∃ xs ms c, (∃ rs, IntsAre r rs) ∧ IntsAre xs ms ∧ xs.length + 12 * r.length ≤ 1000 ∧ m (Str.ofString "plates") = some (.ref pl) ∧ ∀ q ∈ (pl, listOf xs.toArray c) :: (sl, listOf ws.toArray 0) :: news, q ∈ n
theorem StackJ.of {pl sl : Addr} {ws : List Value} {news : Led} {r : List Value} {rs : List Int} {m : Str → Option Value} {n : Led} {xs : List Value} {ms : List Int} {c : Nat} (h1 : IntsAre r rs) (h2 : IntsAre xs ms) (h3 : xs.length + 12 * r.length ≤ 1000) (h4 : m (Str.ofString "plates") = some (.ref pl))
    (h5 : ∀ q ∈ (pl, listOf xs.toArray c) :: (sl, listOf ws.toArray 0) :: news, q ∈ n) : StackJ pl sl ws news r m n := ⟨xs, ms, c, ⟨rs, h1⟩, h2, h3, h4, h5⟩
def StackJ2 (pl sl : Addr) (ws : List Value) (news : Led) (hd : Addr × Obj) (len : Nat) (k i : Nat) (m : Str → Option Value) (n : Led) : Prop :=
  ∃ xs ms c a ta, IntsAre xs ms ∧ xs.length = len + i ∧ i + k = 12 ∧ m (Str.ofString "plates") = some (.ref pl) ∧ m (Str.ofString "left") = some (.int a ta) ∧ ∀ q ∈ hd :: (pl, listOf xs.toArray c) :: (sl, listOf ws.toArray 0) :: news, q ∈ n
theorem StackJ2.of {pl sl : Addr} {ws : List Value} {news : Led} {hd : Addr × Obj} {len k i : Nat} {m : Str → Option Value} {n : Led} {xs : List Value} {ms : List Int} {c : Nat} {a : Int} {ta : Tok} (h1 : IntsAre xs ms) (h2 : xs.length = len + i) (h3 : i + k = 12) (h4 : m (Str.ofString "plates") = some (.ref pl)) (h6 : m (Str.ofString "left") = some (.int a ta))
    (h5 : ∀ q ∈ hd :: (pl, listOf xs.toArray c) :: (sl, listOf ws.toArray 0) :: news, q ∈ n) : StackJ2 pl sl ws news hd len k i m n := ⟨xs, ms, c, a, ta, h1, h2, h3, h4, h6, h5⟩
def StackPost (news : Led) (r : Value) (news' : Led) : Prop := ∃ l xs ms c, r = .ref l ∧ IntsAre xs ms ∧ xs.length ≤ 1000 ∧ (∀ q ∈ news, q.1 ≠ l) ∧ news' = (l, listOf xs.toArray c) :: news
theorem stackPost {news : Led} {l : Addr} {xs : List Value} {ms : List Int} {c : Nat} (h1 : IntsAre xs ms) (h2 : xs.length ≤ 1000) (h3 : ∀ q ∈ news, q.1 ≠ l) : StackPost news (.ref l) ((l, listOf xs.toArray c) :: news) := ⟨l, xs, ms, c, rfl, h1, h2, h3, rfl⟩
set_option maxRecDepth 100000 in set_option maxHeartbeats 8000000 in
theorem stack_run {w : World} {sc : Addr} {vs : List Value} {ns : List Int} (hI : IntsAre vs ns) (hl : vs.length ≤ 63) :
  ∀ (p : Program) (loose : List Str) (mean : ExcName → Option Value) (mg mb : Str → Option Value) (A A₀ : Around) (env : Env) (outer : List Env) (base h₀ : Heap) (L : Addr) (m : Str → Option Value) (s : Shared) (Q E : Value → Shared → Prop) (news : Led), h₀.IsList sc vs.toArray → 
    Below A₀ base outer h₀ → Fr h₀ L s.heap m → (hd.heap_39 w.params).In h₀ → News h₀ L s.heap news → Top p loose mean mg mb h₀ → A.frames = some (env :: outer) → env.frame = some L → env.scope.kind = .function →
    A.handled = none → A.depth + 2 < recursionLimit → A.units + 200 < cLine →
    (∀ r news' h' tk', Fr h₀ L h' m → News h₀ L h' news' → StackPost news r news' → Q r { s with heap := h', toks := tk' }) →
    wpAny (model PySem.Challenge.rw_on0085_01.row.prog w) A (call (.ref 56) [.ref sc]) Q E s := by
  k_fill
  intro p loose mean mg mb A A₀ env outer base h₀ L m s Q E news hS B F X N T hA hf hke hnd hdp hun hret
  (refine wpAny_call ?_; k_dflt (refine' code_def ?k1 ?k2 ?k3 ?k4 ?k5 ?kA ?kF ?kK ?k6 ?k7 ?k8 ?k9 ?kB ?_ ?c2 ?c3 ?c4 ?c5; (case kA => assumption); (case kF => assumption); (case kK => assumption); (case k1 => k_asm); (case k2 => k_asm); (case k3 => k_asm); (case k4 => k_asm); (case k5 => k_asm); (case k6 => k_is); (case k7 => k_is); (case k8 => walk_at "u om"); (case k9 => exact BindsTo.of_eq rfl); (case c5 => decide); (case kB => exact locs rfl); (case c2 => exact rfl); (case c3 => exact rfl); (case c4 => exact rfl); k_whole; intro g' L' h' FG' F' N' B' X' T'; (try dsimp only); (try k_fold)))
  have hS' : g'.IsList sc vs.toArray := by
    obtain ⟨o, h1, h2⟩ := hS
    exact ⟨o, FG'.keep _ _ h1, h2⟩
  k_steps
  rename_i pl h2 l1a h1 sl ws h3 lF lN hI2 hC2 hL2 l0a hQ2 l1b i0 l0 l1c
  have hwl := hI2.length
  have hpn : ∀ q ∈ news, q.1 ≠ pl := lt_ne l1a
  refine SeqRest.byJ (J := StackJ pl sl ws news) ?h0 ?hs ws _ _ (StackJ.of (c := 0) hI2 .nil (by simp only [List.length_nil]; omega) rfl ?hsub)
  case hsub => walk_at "u sub"
  case h0 =>
    rintro m₁ n₁ ⟨xs, ms, c, _, hxs, hlen, hm, hsub⟩ h tk F9 N9
    have N8 := News.sub N9 hsub
    clear N9
    k_steps
    (rename News _ _ _ _ => kN8; rename Fr _ _ _ _ => kF8; rename IntsAre _ _ => hI8; rename LtAll _ _ => l8)
    refine' hret _ _ _ _ kF8 (News.sub kN8 ?sb) (stackPost hI8 ?le ?nn)
    case le => omega
    case nn => exact fun q hq => lt_ne l8 q (by kcf_m)
    case sb => walk_at "u sub"
  case hs =>
  rintro v r m₁ n₁ ⟨xs, ms, c, ⟨rs, hrs⟩, hxs, hlen, hm, hsub⟩ it h tk hit F9 N9
  have N8 : News g' _ h ((i0, it) :: (pl, listOf xs.toArray c) :: (sl, listOf ws.toArray 0) :: news) := News.sub N9 (List.forall_mem_cons.mpr ⟨.head _, fun q hq => .tail _ (hsub q hq)⟩)
  clear N9
  have hne1 := ne_cls N8 (.tail _ (.head _)) (.head _) (by rw [hit]; show Value.type "list" ≠ Value.type "list_iterator"; decide)
  cases hrs with
  | cons y ty rr =>
  simp only [List.length_cons] at hlen
  k_steps
  · (rename Fr _ _ _ _ => lF9; rename News _ _ _ _ => lN9; rename IsRange _ _ _ _ _ _ _ _ => lR9)
    with_unfolding_all refine' iter_rangeUnr (n := 12) (by assumption) lR9 (by decide) (by decide) lF9 lN9 (fun i2 l2 => RangeRest.byJ (J := StackJ2 pl sl ws news (i0, it) xs.length) ?i0a ?isa _ _ _ _ (StackJ2.of hxs rfl rfl hm rfl (fun _ h => h)))
    case i0a =>
      rintro i m₂ n₂ ⟨xs', ms', c', a, ta, hxs', hl', hik, hm', hlf, hsub'⟩ h tk F9 N9
      have N8 := News.sub N9 hsub'
      clear N9
      k_steps
      refine StackJ.of rr hxs' (by omega) hm' (by walk_at "u sub")
    case isa =>
      rintro k i m₂ n₂ ⟨xs', ms', c', a, ta, hxs', hl', hik, hm', hlf, hsub'⟩ it2 t2 h tk hit2 F9 N9
      have N8 : News g' _ h ((i2, it2) :: (i0, it) :: (pl, listOf xs'.toArray c') :: (sl, listOf ws.toArray 0) :: news) := News.sub N9 (List.forall_mem_cons.mpr ⟨.head _, fun q hq => .tail _ (hsub' q hq)⟩)
      clear N9
      have hne2 := ne_cls N8 (.tail _ (.tail _ (.head _))) (.head _) (by rw [hit2]; show Value.type "list" ≠ Value.type "range_iterator"; decide)
      have l2' := LtAll.of l2
      k_steps
      · (rename Fr _ _ _ _ => uF9; rename News _ _ _ _ => uN9)
        exact unrEnd uF9 uN9 (by walk_at "u pick") (by ((repeat' (first | exact List.forall_mem_nil _ | exact offTups (by assumption) (by assumption) (by decide) | exact offLt (by assumption) (by walk_at "u sub") | refine List.forall_mem_append.mpr ⟨?_, ?_⟩ | refine List.forall_mem_cons.mpr ⟨?_, ?_⟩ | exact offCls (by assumption) rfl (by decide) | exact offCls (by assumption) (by assumption) (by decide) | exact Or.inl (by k_ne))); first | done | fail "left open")) ⟨by kcf_m, StackJ.of rr (IntsAre.append hxs' (.cons _ _ .nil)) (by (simp only [List.length_append, List.length_cons, List.length_nil]; omega)) hm' (by walk_at "u sub")⟩
      · (rename Fr _ _ _ _ => uF9; rename News _ _ _ _ => uN9)
        exact unrEnd uF9 uN9 (by walk_at "u pick") (by ((repeat' (first | exact List.forall_mem_nil _ | exact offTups (by assumption) (by assumption) (by decide) | exact offLt (by assumption) (by walk_at "u sub") | refine List.forall_mem_append.mpr ⟨?_, ?_⟩ | refine List.forall_mem_cons.mpr ⟨?_, ?_⟩ | exact offCls (by assumption) rfl (by decide) | exact offCls (by assumption) (by assumption) (by decide) | exact Or.inl (by k_ne))); first | done | fail "left open")) (StackJ2.of (IntsAre.append hxs' (.cons _ _ .nil)) (by (simp only [List.length_append, List.length_cons, List.length_nil]; omega)) (by omega) hm' rfl (by walk_at "u sub"))
  · (rename Fr _ _ _ _ => lF9; rename News _ _ _ _ => lN9; rename IsRange _ _ _ _ _ _ _ _ => lR9)
    with_unfolding_all refine' iter_rangeUnr (n := 12) (by assumption) lR9 (by decide) (by decide) lF9 lN9 (fun i2 l2 => RangeRest.byJ (J := StackJ2 pl sl ws news (i0, it) xs.length) ?i0b ?isb _ _ _ _ (StackJ2.of hxs rfl rfl hm rfl (fun _ h => h)))
    case i0b =>
      rintro i m₂ n₂ ⟨xs', ms', c', a, ta, hxs', hl', hik, hm', hlf, hsub'⟩ h tk F9 N9
      have N8 := News.sub N9 hsub'
      clear N9
      k_steps
      refine StackJ.of rr hxs' (by omega) hm' (by walk_at "u sub")
    case isb =>
      rintro k i m₂ n₂ ⟨xs', ms', c', a, ta, hxs', hl', hik, hm', hlf, hsub'⟩ it2 t2 h tk hit2 F9 N9
      have N8 : News g' _ h ((i2, it2) :: (i0, it) :: (pl, listOf xs'.toArray c') :: (sl, listOf ws.toArray 0) :: news) := News.sub N9 (List.forall_mem_cons.mpr ⟨.head _, fun q hq => .tail _ (hsub' q hq)⟩)
      clear N9
      have hne2 := ne_cls N8 (.tail _ (.tail _ (.head _))) (.head _) (by rw [hit2]; show Value.type "list" ≠ Value.type "range_iterator"; decide)
      have l2' := LtAll.of l2
      k_steps
      · (rename Fr _ _ _ _ => uF9; rename News _ _ _ _ => uN9)
        exact unrEnd uF9 uN9 (by walk_at "u pick") (by ((repeat' (first | exact List.forall_mem_nil _ | exact offTups (by assumption) (by assumption) (by decide) | exact offLt (by assumption) (by walk_at "u sub") | refine List.forall_mem_append.mpr ⟨?_, ?_⟩ | refine List.forall_mem_cons.mpr ⟨?_, ?_⟩ | exact offCls (by assumption) rfl (by decide) | exact offCls (by assumption) (by assumption) (by decide) | exact Or.inl (by k_ne))); first | done | fail "left open")) ⟨by kcf_m, StackJ.of rr (IntsAre.append hxs' (.cons _ _ .nil)) (by (simp only [List.length_append, List.length_cons, List.length_nil]; omega)) hm' (by walk_at "u sub")⟩
      · (rename Fr _ _ _ _ => uF9; rename News _ _ _ _ => uN9)
        exact unrEnd uF9 uN9 (by walk_at "u pick") (by ((repeat' (first | exact List.forall_mem_nil _ | exact offTups (by assumption) (by assumption) (by decide) | exact offLt (by assumption) (by walk_at "u sub") | refine List.forall_mem_append.mpr ⟨?_, ?_⟩ | refine List.forall_mem_cons.mpr ⟨?_, ?_⟩ | exact offCls (by assumption) rfl (by decide) | exact offCls (by assumption) (by assumption) (by decide) | exact Or.inl (by k_ne))); first | done | fail "left open")) (StackJ2.of (IntsAre.append hxs' (.cons _ _ .nil)) (by (simp only [List.length_append, List.length_cons, List.length_nil]; omega)) (by omega) hm' rfl (by walk_at "u sub"))

end Sec3
theorem kw48 : True := by
  k_with_none
  (k_with "zu pr" => first | exact pr0 (by assumption) | exact pr1 (by assumption) | exact pe1 (by assumption) | exact pr2 (by assumption) | exact pe2 (by assumption) | exact pr3 (by assumption) | exact pe3 (by assumption) | exact pr4 (by assumption) | exact pe4 (by assumption) | exact pr5 (by assumption) | exact pe5 (by assumption) | exact pr6 (by assumption) | exact pe6 (by assumption) | exact pr7 (by assumption) | exact pe7 (by assumption) | exact pr8 (by assumption) | exact pe8 (by assumption) | exact pr9 (by assumption) | exact pe9 (by assumption) | exact pr10 (by assumption) | exact pe10 (by assumption) | exact pr11 (by assumption) | exact pe11 (by assumption) | exact pr12 (by assumption) | exact pe12 (by assumption) | exact pr13 (by assumption) | exact pe13 (by assumption) | exact pr14 (by assumption) | exact pe14 (by assumption) | exact pr15 (by assumption) | exact pe15 (by assumption) | exact pr16 (by assumption) | exact pe16 (by assumption) | exact pr17 (by assumption) | exact pe17 (by assumption) | exact pr18 (by assumption) | exact pe18 (by assumption) | exact pr19 (by assumption) | exact pe19 (by assumption) | exact pr20 (by assumption) | exact pe20 (by assumption) | exact pr21 (by assumption) | exact pe21 (by assumption) | exact pr22 (by assumption) | exact pe22 (by assumption) | exact pr23 (by assumption) | exact pe23 (by assumption))
  (k_with "zu ne" => (refine neN ?_; (try dsimp only); first | (with_reducible first | assumption | exact Ne.symm (by assumption) | exact Nat.ne_of_lt (by assumption) | exact Nat.ne_of_gt (by assumption) | ((fail_if_success (fail_if_success (refine nA (by assumption) ?_))); walk_at "u pr") | ((fail_if_success (fail_if_success (refine nB (by assumption) ?_))); refine Ne.symm ?_; walk_at "u pr") | ((fail_if_success (fail_if_success (refine lA (by assumption) ?_))); refine Nat.ne_of_lt ?_; walk_at "u pr") | ((fail_if_success (fail_if_success (refine lB (by assumption) ?_))); refine Nat.ne_of_gt ?_; walk_at "u pr")) | omega))
  (k_with "zu len" => ((repeat (first | assumption | exact Nat.le_refl _ | refine Nat.le_trans (by assumption) ?_)); done))
  (k_with "zu om" => first | (with_reducible assumption) | (with_reducible walk_at "u len") | (with_reducible ((repeat (rename (_ ≠ _ ∧ _) => kx; clear kx)); (repeat (rename (_ < _ ∧ _) => kx; clear kx))); omega))
  (k_with "zcall type:tuple" => row_timed "z" (fail "z"; (k_here; (with_reducible show wpAny _ _ (call (Value.type _) [Value.ref _]) _ _ _); k_dflt (refine' kde_tupleOf ?Zk1 ?Zk2 ?Zk3 ?Zk4 ?Zk5 ?_; (case Zk1 => k_asm); (case Zk2 => k_asm); (case Zk3 => exact News.isList (by k_asm) (by kcf_m)); (case Zk4 => (simp only [List.size_toArray]; first | assumption | walk_at "u om")); (case Zk5 => exact rfl); k_whole); intro ZD' Zh' ZF' ZN' Zl1; (try k_sweep))))
  (k_with "zcall builtin:list.pop" => row_timed "z" (fail "z"; (k_here; (with_reducible show wpAny _ _ (call (Value.builtin _) [Value.ref _, Value.int 0 _]) _ _ _); k_dflt (refine' pop0 ?ZF ?ZN ?ZU ?Zz ?_; (case ZF => k_asm); (case ZN => k_asm); (case ZU => k_upd); (case Zz => (simp only [List.length_cons] at *; walk_at "u om")); k_whole); intro Zh' ZF' ZN'; (try k_sweep))))
  (k_with "zsubscriptTail Name Name ref int" => row_timed "z" (fail "z"; (k_here; (with_reducible show wpAny _ _ (subscriptTail _ _ (Value.ref _) (Value.int _ _)) _ _ _); (fail_if_success (with_reducible show wpAny _ _ (subscriptTail _ _ (Value.ref _) (Value.int (OfNat.ofNat _) _)) _ _ _)); (with_unfolding_all refine' pickK ?Zk3 ?Zk4 ?Zk5 ?Zk6 ?_ ?Zk7; (case Zk3 => exact News.isList (by k_asm) (by kcf_m)); (case Zk4 => walk_at "u om"); (case Zk5 => (simp only [List.length_cons, List.length_nil]; walk_at "u om")); (case Zk6 => walk_at "u om"); (case Zk7 => with_unfolding_all rfl); k_whole); (dsimp only [PickAt]); k_places; (all_goals (try k_fold)))))
  (k_with "zsubscriptTail Name Call ref int" => walk_at "subscriptTail Name Name ref int")
  (k_with "zsubscriptTail List" => (k_here; k_dflt (refine kba_turn (value' := PySem.Expr.Name (PySem.Str.ofString "_") ⟨0, 0, 0, 0⟩) (fun _ => rfl) ?_)))
  (k_with "zsubscriptTail Tuple" => walk_at "subscriptTail List")
  (k_with "zsubscriptTail Name Slice ref ref" => row_timed "z" (fail "z"; (k_here; (with_reducible show wpAny _ _ (subscriptTail _ (PySem.Expr.Slice none (some _) none _) (Value.ref _) (Value.ref _)) _ _ _); k_dflt (first
  | (refine' slice_tuple_upto (b := 1) ?ZF ?ZN ?Zl ?Zi ?Zb ?Zz ?_ ?Zs ?Zt; (case ZF => k_asm); (case ZN => k_asm); (case Zl => exact News.isTup (by k_asm) (by kcf_m)); (case Zi => exact rfl); (case Zb => first | exact Nat.le_of_ble_eq_true rfl | ((simp only [List.length_cons]); walk_at "u om")); (case Zz => first | exact Nat.le_of_ble_eq_true rfl | ((simp only [List.length_cons]); walk_at "u om")); (case Zs => with_unfolding_all rfl); (case Zt => (intro _; with_unfolding_all rfl)); intro ZD' Zh' ZF' ZN' Zl1)
  | (refine' slice_tuple_upto (b := 2) ?ZF ?ZN ?Zl ?Zi ?Zb ?Zz ?_ ?Zs ?Zt; (case ZF => k_asm); (case ZN => k_asm); (case Zl => exact News.isTup (by k_asm) (by kcf_m)); (case Zi => exact rfl); (case Zb => first | exact Nat.le_of_ble_eq_true rfl | ((simp only [List.length_cons]); walk_at "u om")); (case Zz => first | exact Nat.le_of_ble_eq_true rfl | ((simp only [List.length_cons]); walk_at "u om")); (case Zs => with_unfolding_all rfl); (case Zt => (intro _; with_unfolding_all rfl)); intro ZD' Zh' ZF' ZN' Zl1)
  | (refine' slice_tuple_upto (b := 3) ?ZF ?ZN ?Zl ?Zi ?Zb ?Zz ?_ ?Zs ?Zt; (case ZF => k_asm); (case ZN => k_asm); (case Zl => exact News.isTup (by k_asm) (by kcf_m)); (case Zi => exact rfl); (case Zb => first | exact Nat.le_of_ble_eq_true rfl | ((simp only [List.length_cons]); walk_at "u om")); (case Zz => first | exact Nat.le_of_ble_eq_true rfl | ((simp only [List.length_cons]); walk_at "u om")); (case Zs => with_unfolding_all rfl); (case Zt => (intro _; with_unfolding_all rfl)); intro ZD' Zh' ZF' ZN' Zl1)
  | (refine' slice_tuple_whole (b := 2) ?ZF ?ZN ?Zl ?Zi ?Zb ?_ ?Zs ?Zt; (case ZF => k_asm); (case ZN => k_asm); (case Zl => exact News.isTup (by k_asm) (by kcf_m)); (case Zi => exact rfl); (case Zb => exact Nat.le_of_ble_eq_true rfl); (case Zs => with_unfolding_all rfl); (case Zt => (intro _; with_unfolding_all rfl)); intro Zh' ZF' ZN')
  | (refine' slice_tuple_whole (b := 3) ?ZF ?ZN ?Zl ?Zi ?Zb ?_ ?Zs ?Zt; (case ZF => k_asm); (case ZN => k_asm); (case Zl => exact News.isTup (by k_asm) (by kcf_m)); (case Zi => exact rfl); (case Zb => exact Nat.le_of_ble_eq_true rfl); (case Zs => with_unfolding_all rfl); (case Zt => (intro _; with_unfolding_all rfl)); intro Zh' ZF' ZN')); (try dsimp only [List.take]); (try k_sweep))))
  (k_with "zsubscriptTail Name Constant ref int" => row_timed "z" (fail "z"; (k_here; (with_reducible show wpAny _ _ (subscriptTail _ _ (Value.ref _) (Value.int _ _)) _ _ _); (with_unfolding_all refine' item_tupleL ?Zk1 ?Zk2 ?Zk3 ?Zk4 ?Zk5 ?_ ?Zk6 ?Zk7; (case Zk1 => exact News.isTup (by k_asm) (by kcf_m)); (case Zk2 => decide); (case Zk3 => decide); (case Zk4 => exact rfl); (case Zk5 => exact rfl); (case Zk6 => with_unfolding_all rfl); (case Zk7 => (intro _; with_unfolding_all rfl)); k_whole))))
  (k_with "zcall type:list" => row_timed "z" (fail "z"; (k_here; (with_reducible show wpAny _ _ (call (Value.type _) [Value.ref _]) _ _ _); (with_unfolding_all refine' list_copyKT ?Zk1 ?Zk2 ?Zk3 ?_ ?Zz; (case Zk1 => k_asm); (case Zk2 => k_asm); (case Zk3 => exact News.isTup (by k_asm) (by kcf_m)); (case Zz => (simp only [List.size_toArray, List.length_cons, List.length_nil, sizeLine_eq]; walk_at "u om")); k_whole); intro ZD' Zc' Zh' ZF' ZN' Zl1; (have Zl0' := LtAll.of Zl1); (try k_lt Zl1); (try k_sweep))))
  (k_with "zCompSrc" => row_timed "z" (fail "z"; (k_here; k_dflt (first
  | (refine LCg.CompSrc.ledger (by assumption) (by k_asm) (by k_asm) (by kcf_m) (by first | size_fits | exact Nat.le_of_ble_eq_true rfl) ?_; intro Zg'; lcg_lit)
  | (refine LCg.CompSrc.range (by assumption) (by k_asm) (by k_asm) (by assumption) (by first | decide | rfl) (by first | rfl | decide) (by first | size_fits | exact Nat.le_of_ble_eq_true rfl) ?_; intro Zg'; lcg_lit)))))
  (k_with "zsubscriptTail Name Name ref int" => walk_at "subscriptTail Name Constant ref int")
  (k_with "zCompRest" => row_timed "z" (fail "z"; (k_here; (with_unfolding_all first
  | (refine LCg.CompRest.succ ?_; intro Zv' ZI' ZoI' ZC' ZoC' ZD' Zm' Zh' Ztk' ZE' Zhv' ZhC' Zhx' ZF' ZN' Zoff' Zne'; (first | lcg_open Zhv' | (obtain ⟨Zt9', Zhv9'⟩ := Zhv'; subst Zhv9')); (try k_sweep))
  | refine LCg.CompRest.zero ?_))))
  (k_with "zCompEnd" => row_timed "z" (fail "z"; (k_here; (rename News _ _ _ _ => ZnE9); (rename LCg.Off3 _ _ _ _ => ZoE9); refine LCg.CompEnd.intro (by assumption) ZnE9 _ (fun _ h => h) ZoE9 (by first | exact True.intro | exact Or.inr ⟨_, by kcf_m, rfl, _, rfl⟩) ?_)))
  (k_with "zFinE" => row_timed "z" (fail "z"; (k_here; (unfold LCg.FinE); intro ZD' Zh' Ztk' ZF' ZN' Zo1'; (try simp only [List.nil_append, List.cons_append] at ZN'); (try dsimp only); (try k_sweep))))
  (k_with "zcall builtin:list.append" => row_timed "z" (fail "z"; (k_here; (with_reducible show wpAny _ _ (call (Value.builtin _) [Value.ref _, _]) _ _ _); k_dflt (refine' append_T ?Zk1 ?Zk2 ?Zk3 ?Zz ?_; (case Zk1 => k_asm); (case Zk2 => k_asm); (case Zk3 => k_upd); (case Zz => ((try simp only [List.length_append, List.length_cons, List.length_nil] at *); walk_at "u om")); k_whole); intro Zh' ZF' ZN'; (try k_sweep))))
  (k_with "zsubscriptTail Name Constant ref int" => row_timed "z" (fail "z"; (k_here; (with_reducible show wpAny _ _ (subscriptTail _ _ (Value.ref _) (Value.int 0 _)) _ _ _); (with_unfolding_all refine' item_head ?Zk1 ?_ ?Zk6 ?Zk7; (case Zk1 => exact News.isTup (by k_asm) (by kcf_m)); (case Zk6 => with_unfolding_all rfl); (case Zk7 => (intro _; with_unfolding_all rfl)); k_whole))))
  (k_with "zu pick" => (((repeat' (first | exact Pick.head | refine' Pick.tail ?_ )); first | done | fail "left open")))
  (k_with "zu split" => (((repeat' (first | exact Split.base | refine' Split.keep ⟨rfl, ⟨_, _, rfl⟩⟩ ?_ | refine' Split.app (by assumption) ?_ | refine' Split.skip ?_)); first | done | fail "left open")))
  (k_with "zu sub" => (((repeat' (first | exact fun _ h => h | exact List.forall_mem_nil _ | refine List.forall_mem_append.mpr ⟨?_, ?_⟩ | refine List.forall_mem_cons.mpr ⟨?_, ?_⟩ | kcf_m | (intro p9 h9; kcf_m))); first | done | fail "left open")))
  (k_with "zu subt" => (((unfold TSub); (repeat' (first | exact fun _ h _ => h | exact List.forall_mem_nil _ | refine List.forall_mem_append.mpr ⟨?_, ?_⟩ | refine List.forall_mem_cons.mpr ⟨?_, ?_⟩ | exact notTup rfl (by decide) | exact notTup (by assumption) (by decide) | exact notCell (by assumption) | (intro _; kcf_m) | (intro p9 h9 _; kcf_m))); first | done | fail "left open")))
  (k_with "zu ht" => with_reducible first | exact ht_k (by assumption))
  (k_with "zu dep" => (refine dep_deeper (by assumption) ?_; first | exact Nat.le_of_ble_eq_true rfl | walk_at "u ht" | exact up_n rfl | exact dep_s))
  (k_with "zu uni" => (refine uni_deeper (by assumption) ?_; first | exact Nat.le_of_ble_eq_true rfl | (refine up_3 ?_; walk_at "u ht") | exact up_u rfl | exact uni_s))
  (k_with "zu frame" => (refine' ⟨?cB, ?cF, ?cX, ?cT, ?cA, ?cf, ?ce, ?cH, ?cd, ?cu⟩; (case cB => k_asm); (case cF => k_asm); (case cX => k_asm); (case cT => k_asm); (case cA => first | exact frames_of (by assumption) | exact rfl); (case cf => exact rfl); (case ce => exact rfl); (case cH => first | exact rfl | assumption); (case cd => first | walk_at "u dep" | ((try simp only [depth_under_make, depth_under_kw, depth_in1, depth_deeper, depth_caller, Mine.T.ht] at *); omega)); (case cu => first | walk_at "u uni" | ((try simp only [units_in1, units_deeper, Around.mark_units, units_caller, Mine.T.ht] at *); omega))))
  (k_with "zcall ref" => (k_here; (with_reducible show wpAny _ _ (call (Value.ref _) _) _ _ _); refine Halt.mk ?_))
  (k_with "zsubscriptTail Name Constant ref int" => row_timed "z" (fail "z"; (k_here; (with_reducible show wpAny _ _ (subscriptTail _ _ (Value.ref _) (Value.int _ _)) _ _ _); (with_unfolding_all refine' listItem ?Zk1 ?Zk2 ?Zk3 ?Zk4 ?_ ?Zk6; (case Zk1 => exact News.isList (by k_asm) (by kcf_m)); (case Zk2 => decide); (case Zk3 => decide); (case Zk4 => exact rfl); (case Zk6 => with_unfolding_all rfl); k_whole))))
  (k_with "zsubscriptTail Name Slice ref ref" => row_timed "z" (fail "z"; (k_here; (with_reducible show wpAny _ _ (subscriptTail _ (PySem.Expr.Slice (some _) none none _) (Value.ref _) (Value.ref _)) _ _ _); k_dflt (refine' slice_tuple_fromK (a := 3) ?ZF ?ZN ?Zl ?Zi ?Zo ?Zb ?Zz ?_ ?Zs ?Zt; (case ZF => k_asm); (case ZN => k_asm); (case Zl => exact News.isTup (by k_asm) (by kcf_m)); (case Zi => exact rfl); (case Zo => decide); (case Zb => exact Nat.le_of_ble_eq_true rfl); (case Zz => exact Nat.le_of_ble_eq_true rfl); (case Zs => with_unfolding_all rfl); (case Zt => (intro _; with_unfolding_all rfl)); intro ZD' Zh' ZF' ZN' Zl1); (try dsimp only [List.drop] at ZN'); (try k_sweep))))
  (k_with "zpyIter ref" => row_timed "z" (fail "z"; (k_here; (with_reducible show wpAny _ _ (pyIter (Value.ref _)) (fun it s₂ => LoopAtV _ _ _ _ _ _ _ _ _ it s₂) _ _); (rename Fr _ _ _ _ => ZlF'); (with_unfolding_all first
  | (refine' seq_list ?Zhh ZlF' ?ZN ?Zhm ?_; (case ZN => k_asm); (case Zhm => kcf_m); (case Zhh => assumption); k_whole)
  | (refine' seq_tuple ?Zhh ZlF' ?ZN ?Zhm ?_; (case ZN => k_asm); (case Zhm => kcf_m); (case Zhh => assumption); k_whole)); intro Zi' Zl1; (have Zl0' := LtAll.of Zl1); (try k_lt Zl1))))
  (k_with "zSeqRest" => row_timed "z" (fail "z"; (k_here; (with_unfolding_all first | (refine SeqRest.succ (fun Zit' Zh' Ztk' Zhit' ZF' ZN' => ?_)) | (refine SeqRest.zero (fun Zh' Ztk' ZF' ZN' => ?_))); (try k_sweep))))
  (k_with "zUnrEnd" => row_timed "z" (fail "z"; (k_here; (rename Fr _ _ _ _ => ZuF9); (rename News _ _ _ _ => ZuN9); (with_unfolding_all refine' unrEnd ZuF9 ZuN9 ?Zpk ?Zoff ⟨?Zlm, ?_⟩; (case Zpk => walk_at "u pick"); (case Zoff => ((repeat' (first | exact List.forall_mem_nil _ | exact offTups (by assumption) (by assumption) (by decide) | exact offLt (by assumption) (by walk_at "u sub") | refine List.forall_mem_append.mpr ⟨?_, ?_⟩ | refine List.forall_mem_cons.mpr ⟨?_, ?_⟩ | exact offCls (by assumption) rfl (by decide) | exact Or.inl (by k_ne))); first | done | fail "left open")); (case Zlm => kcf_m)))))
  (k_with "zeval Name" => row_timed "z" (fail "z"; (k_here; (fail_if_success (fail_if_success (with_reducible rename ((_ : Str → Option Value) (Str.ofString _) = some _) => ZgX))); k_dflt (refine' ld ?Zk1 ?Zk2 ?_; (case Zk1 => k_asm); (case Zk2 => assumption); k_whole))))
  (k_with "zloadName" => row_timed "z" (fail "z"; (k_here; (fail_if_success (fail_if_success (with_reducible rename ((_ : Str → Option Value) (Str.ofString _) = some _) => ZgX))); k_dflt (refine' ldL ?Zk1 ?Zk2 ?_ ?Zk3 ?Zk4; (case Zk1 => k_asm); (case Zk2 => assumption); (case Zk3 => exact rfl); (case Zk4 => exact rfl); k_whole))))
  exact True.intro
--deps PH PT P0 PL P5
def T.kind : T → Kind
  | .n0 k => k
  | .n1 k _ => k
  | .n2 k _ _ => k
  | .n3 k _ _ _ => k
def T.size : T → Nat
  | .n0 _ => 1
  | .n1 _ a => a.size + 1
  | .n2 _ a b => a.size + b.size + 1
  | .n3 _ a b c => a.size + b.size + c.size + 1
def T.post : T → List T
  | .n0 k => [.n0 k]
  | .n1 k a => a.post ++ [.n1 k a]
  | .n2 k a b => a.post ++ (b.post ++ [.n2 k a b])
  | .n3 k a b c => a.post ++ (b.post ++ (c.post ++ [.n3 k a b c]))
def T.pre : T → List T
  | .n0 k => [.n0 k]
  | .n1 k a => .n1 k a :: a.pre
  | .n2 k a b => .n2 k a b :: (a.pre ++ b.pre)
  | .n3 k a b c => .n3 k a b c :: (a.pre ++ (b.pre ++ c.pre))
def T.kids : T → List T
  | .n0 _ => []
  | .n1 _ a => [a]
  | .n2 _ a b => [a, b]
  | .n3 _ a b c => [a, b, c]
theorem T.indK {P : T → Prop} (h : ∀ t, (∀ u ∈ t.kids, P u) → P t) (t : T) : P t := by
  induction t with
  | n0 k => exact h _ (fun _ h => nomatch h)
  | n1 k a ia => exact h _ (List.forall_mem_cons.mpr ⟨ia, fun _ h => nomatch h⟩)
  | n2 k a b ia ib => exact h _ (List.forall_mem_cons.mpr ⟨ia, List.forall_mem_cons.mpr ⟨ib, fun _ h => nomatch h⟩⟩)
  | n3 k a b c ia ib ic => exact h _ (List.forall_mem_cons.mpr ⟨ia, List.forall_mem_cons.mpr ⟨ib, List.forall_mem_cons.mpr ⟨ic, fun _ h => nomatch h⟩⟩⟩)
theorem T.kids_ht (t : T) : ∀ u ∈ t.kids, u.ht + 1 ≤ t.ht := by
  cases t with
  | n0 k => exact fun _ h => nomatch h
  | n1 k a => exact List.forall_mem_cons.mpr ⟨Nat.le_refl _, fun _ h => nomatch h⟩
  | n2 k a b => exact List.forall_mem_cons.mpr ⟨Nat.succ_le_succ (Nat.le_max_left _ _), List.forall_mem_cons.mpr ⟨Nat.succ_le_succ (Nat.le_max_right _ _), fun _ h => nomatch h⟩⟩
  | n3 k a b c => exact List.forall_mem_cons.mpr ⟨Nat.succ_le_succ (Nat.le_trans (Nat.le_max_left _ _) (Nat.le_max_left _ _)), List.forall_mem_cons.mpr ⟨Nat.succ_le_succ (Nat.le_trans (Nat.le_max_right _ _) (Nat.le_max_left _ _)), List.forall_mem_cons.mpr ⟨Nat.succ_le_succ (Nat.le_max_right _ _), fun _ h => nomatch h⟩⟩⟩
def sizeAll : List T → Nat
  | [] => 0
  | t :: r => t.size + sizeAll r
def postAll : List T → List T
  | [] => []
  | t :: r => t.post ++ postAll r
def preAll : List T → List T
  | [] => []
  | t :: r => t.pre ++ preAll r
theorem sizeAll_mem : ∀ ts : List T, ∀ u ∈ ts, u.size ≤ sizeAll ts
  | [] => fun _ h => nomatch h
  | t :: r => List.forall_mem_cons.mpr ⟨Nat.le_add_right _ _, fun u hu => Nat.le_trans (sizeAll_mem r u hu) (Nat.le_add_left _ _)⟩
theorem T.size_eq (t : T) : t.size = sizeAll t.kids + 1 := by cases t <;> simp only [T.size, T.kids, sizeAll, Nat.add_zero, Nat.add_assoc]
theorem T.post_eq (t : T) : t.post = postAll t.kids ++ [t] := by cases t <;> simp only [T.post, T.kids, postAll, List.append_nil, List.nil_append, List.append_assoc]
theorem T.pre_eq (t : T) : t.pre = t :: preAll t.kids := by cases t <;> simp only [T.pre, T.kids, preAll, List.append_nil, List.append_assoc]
theorem postAll_length : ∀ ts : List T, (∀ u ∈ ts, u.post.length = u.size) → (postAll ts).length = sizeAll ts
  | [], _ => rfl
  | t :: r, h => by rw [postAll, sizeAll, List.length_append, h t (.head _), postAll_length r fun u hu => h u (.tail _ hu)]
theorem preAll_length : ∀ ts : List T, (∀ u ∈ ts, u.pre.length = u.size) → (preAll ts).length = sizeAll ts
  | [], _ => rfl
  | t :: r, h => by rw [preAll, sizeAll, List.length_append, h t (.head _), preAll_length r fun u hu => h u (.tail _ hu)]
theorem T.post_length (t : T) : t.post.length = t.size := T.indK (P := fun t => t.post.length = t.size) (fun t h => by rw [t.post_eq, t.size_eq, List.length_append, postAll_length _ h]; rfl) t
theorem T.pre_length (t : T) : t.pre.length = t.size := T.indK (P := fun t => t.pre.length = t.size) (fun t h => by rw [t.pre_eq, t.size_eq, List.length_cons, preAll_length _ h]) t
inductive TAll (I : Led) : List Value → List T → Prop
  | nil : TAll I [] []
  | cons {v t vs ts} : TIn I v t → TAll I vs ts → TAll I (v :: vs) (t :: ts)
theorem TAll.mono {I J : Led} {vs : List Value} {ts : List T} (h : TAll I vs ts) (hs : TSub I J) : TAll J vs ts := by
  induction h with
  | nil => exact .nil
  | cons a _ ih => exact .cons (a.mono hs) ih
theorem TAll.app {I : Led} {vs us : List Value} {ts rs : List T} (h : TAll I vs ts) (k : TAll I us rs) : TAll I (vs ++ us) (ts ++ rs) := by
  induction h with
  | nil => exact k
  | cons a _ ih => exact .cons a ih
theorem TAll.length {I : Led} {vs : List Value} {ts : List T} (h : TAll I vs ts) : vs.length = ts.length := by
  induction h with
  | nil => rfl
  | cons _ _ ih => simp [ih]
theorem TIn.opened {I : Led} {v : Value} {t : T} (h : TIn I v t) : ∃ cvs, NAt I v t.kind cvs ∧ TAll I cvs t.kids ∧ cvs.length ≤ 3 := by
  cases h with
  | n0 hn => exact ⟨_, hn, .nil, Nat.le_of_ble_eq_true rfl⟩
  | n1 hn ha => exact ⟨_, hn, .cons ha .nil, Nat.le_of_ble_eq_true rfl⟩
  | n2 hn ha hb => exact ⟨_, hn, .cons ha (.cons hb .nil), Nat.le_of_ble_eq_true rfl⟩
  | n3 hn ha hb hc => exact ⟨_, hn, .cons ha (.cons hb (.cons hc .nil)), Nat.le_of_ble_eq_true rfl⟩
theorem TIn.closed {I : Led} {v : Value} {t : T} {cvs : List Value} (h : NAt I v t.kind cvs) (hc : TAll I cvs t.kids) : TIn I v t := by
  cases t with
  | n0 k => cases hc; exact .n0 h
  | n1 k a => rcases hc with _ | ⟨ha, _ | _⟩; exact .n1 h ha
  | n2 k a b => rcases hc with _ | ⟨ha, _ | ⟨hb, _ | _⟩⟩; exact .n2 h ha hb
  | n3 k a b c => rcases hc with _ | ⟨ha, _ | ⟨hb, _ | ⟨hc, _ | _⟩⟩⟩; exact .n3 h ha hb hc
def OrderPost (fa : Addr) (fs : List Value) (ts : List T) (rest : Led) (news' : Led) : Prop :=
  ∃ tl gs n', news' = (fa, listOf (fs ++ gs).toArray n') :: (rest ++ tl) ∧ Tups tl ∧ (∀ q ∈ tl, q.1 ≠ fa) ∧ TAll (rest ++ tl) gs ts
theorem OrderPost.of {fa : Addr} {fs gs hs : List Value} {ts : List T} {rest tl : Led} {n : Nat} (e : hs = fs ++ gs) (h1 : Tups tl) (h2 : ∀ q ∈ tl, q.1 ≠ fa) (h3 : TAll (rest ++ tl) gs ts) : OrderPost fa fs ts rest ((fa, listOf hs.toArray n) :: (rest ++ tl)) :=
  ⟨tl, gs, n, by rw [e], h1, h2, h3⟩
def OrderAt (w : World) (t : T) : Prop := ∀ (v : Value) (fa : Addr) (fs : List Value) (n : Nat) (rest : Led), TIn rest v t → fs.length + t.size ≤ 5000 → (∀ q ∈ rest, q.1 ≠ fa) →
  Run w (.ref 82) [v, .ref fa] (t.ht + 5) (3 * t.ht + 220) ((fa, listOf fs.toArray n) :: rest) (fun _ => OrderPost fa fs t.post rest)
theorem OrderAt.use {w : World} {t : T} (G : OrderAt w t) {v : Value} {fa : Addr} {fs : List Value} {n : Nat} {rest : Led} (h1 : TIn rest v t) (h2 : fs.length + t.size ≤ 5000) (h3 : ∀ q ∈ rest, q.1 ≠ fa) :
  Run w (.ref 82) [v, .ref fa] (t.ht + 5) (3 * t.ht + 220) ((fa, listOf fs.toArray n) :: rest) (fun _ => OrderPost fa fs t.post rest) := G v fa fs n rest h1 h2 h3
def OrderK (t : T) (fa : Addr) (fs : List Value) (rest : Led) (S : Value → Led → Prop) : Prop := ∀ r tl gs n', Tups tl → (∀ q ∈ tl, q.1 ≠ fa) → TAll (rest ++ tl) gs t.post → gs.length = t.size → S r ((fa, listOf (fs ++ gs).toArray n') :: (rest ++ tl))
theorem orderEl {t : T} {fa : Addr} {fs : List Value} {rest : Led} (S : Value → Led → Prop) (h : OrderK t fa fs rest S) (r : Value) (news' : Led) (P : OrderPost fa fs t.post rest news') : S r news' := by
  obtain ⟨tl, gs, n', rfl, h1, h2, h3⟩ := P
  exact h r tl gs n' h1 h2 h3 (h3.length.trans t.post_length)
theorem kw49 : True := by
  (k_with "zcall ref" => row_timed "z" (fail "z"; (k_here; (with_reducible show wpAny _ _ (call (Value.ref 75) _) _ _ _); k_dflt (refine' Run.useK (inside_run (NAt.mono ?Zma ?Zmb)) listEl ?Zfr ?ZcN ?_; (case ZcN => k_asm); (case Zma => assumption); (case Zmb => walk_at "u subt"); (case Zfr => walk_at "u frame"); k_whole); (k_dflt (intro Ztl9 Zl9 Zn9 Zts9 Zne9 Znf9 Zh9 Ztk9 ZF9 ZN9); (try dsimp only [LCg.Off1] at Znf9); (try dsimp only [List.cons_append, List.nil_append] at ZN9); (try k_sweep); (try dsimp only)))))
  exact True.intro
theorem kw50 : True := by
  (k_with "zcall ref" => row_timed "z" (fail "z"; (k_here; (with_reducible show wpAny _ _ (call (Value.ref 82) _) _ _ _); k_dflt (refine' Run.useK (OrderAt.use ?ZcG (TIn.mono ?Zma ?Zmb) ?Zcl ?Zcn) orderEl ?Zfr ?ZcN ?_; (case ZcN => (refine' News.pick ?Zpk ?Zpn; (case Zpn => k_asm); (case Zpk => walk_at "u pick"))); (case Zma => assumption); (case ZcG => assumption); (case Zmb => walk_at "u subt"); (case Zcl => ((try simp only [List.length_append, Mine.T.size] at *); walk_at "u om")); (case Zcn => k_all); (case Zfr => walk_at "u frame"); k_whole); (k_dflt (intro Zr9 Ztl9 Zgs9 Zn9 Zts9 Zne9 Zta9 Zgl9 Zh9 Ztk9 ZF9 ZN9); (try dsimp only [List.cons_append, List.nil_append] at ZN9); (try k_sweep); (try dsimp only)))))
  exact True.intro
theorem size_next {a b c g k : Nat} (h : a + (b + c) + 1 ≤ k) (e : g = b) : a + g + c + 1 ≤ k := by omega
def OrderJ (t : T) (fa : Addr) (fs : List Value) (rest : Led) (v : Value) (lp : Addr × Obj) (r : List Value) (m : Str → Option Value) (n : Led) : Prop :=
  ∃ kr gs ds hs c tl, hs = fs ++ gs ∧ TAll rest r kr ∧ (∀ u ∈ kr, u ∈ t.kids) ∧ Tups tl ∧ (∀ q ∈ tl, q.1 ≠ fa) ∧ TAll (rest ++ tl) gs ds ∧ ds ++ postAll kr = postAll t.kids ∧ hs.length + sizeAll kr + 1 ≤ 5000 ∧ m (Str.ofString "found") = some (.ref fa) ∧ m (Str.ofString "e") = some v ∧ ∀ q ∈ (fa, listOf hs.toArray c) :: lp :: (rest ++ tl), q ∈ n
theorem OrderJ.of {t : T} {fa : Addr} {fs : List Value} {rest : Led} {v : Value} {lp : Addr × Obj} {r : List Value} {m : Str → Option Value} {n : Led} {kr : List T} {gs : List Value} {ds : List T} {hs : List Value} {c : Nat} {tl : Led}
    (h0 : hs = fs ++ gs) (h1 : TAll rest r kr) (h2 : ∀ u ∈ kr, u ∈ t.kids) (h3 : Tups tl) (h4 : ∀ q ∈ tl, q.1 ≠ fa) (h5 : TAll (rest ++ tl) gs ds) (h6 : ds ++ postAll kr = postAll t.kids) (h7 : hs.length + sizeAll kr + 1 ≤ 5000) (h8 : m (Str.ofString "found") = some (.ref fa)) (h9 : m (Str.ofString "e") = some v)
    (h10 : ∀ q ∈ (fa, listOf hs.toArray c) :: lp :: (rest ++ tl), q ∈ n) : OrderJ t fa fs rest v lp r m n := ⟨kr, gs, ds, hs, c, tl, h0, h1, h2, h3, h4, h5, h6, h7, h8, h9, h10⟩
set_option maxRecDepth 100000 in set_option maxHeartbeats 8000000 in
theorem order_step {w : World} {t : T} (ih : ∀ u ∈ t.kids, OrderAt w u) : OrderAt w t := by
  intro v fa fs n rest ht hsz hne
  obtain ⟨cvs, hn, hks, hl⟩ := ht.opened
  rw [t.size_eq] at hsz
  unfold Run; k_fill; intro p loose mean mg mb A A₀ env outer base h₀ L m s Q E B F X N T hA hf hke hnd hdp hun hret
  (refine wpAny_call ?_; k_dflt (refine' code_def ?k1 ?k2 ?k3 ?k4 ?k5 ?kA ?kF ?kK ?k6 ?k7 ?k8 ?k9 ?kB ?_ ?c2 ?c3 ?c4 ?c5; (case kA => assumption); (case kF => assumption); (case kK => assumption); (case k1 => k_asm); (case k2 => k_asm); (case k3 => k_asm); (case k4 => k_asm); (case k5 => k_asm); (case k6 => k_is); (case k7 => k_is); (case k8 => walk_at "u om"); (case k9 => exact BindsTo.of_eq rfl); (case c5 => decide); (case kB => exact locs rfl); (case c2 => exact rfl); (case c3 => exact rfl); (case c4 => exact rfl); k_whole; intro g' L' h' FG' F' N' B' X' T'; (try dsimp only); (try k_fold)))
  k_steps
  refine SeqRest.byJ2 (J := OrderJ t fa fs rest v) ?h0 ?hs cvs _ _ (OrderJ.of (gs := []) (c := n) (List.append_nil _).symm hks (fun _ h => h) (by assumption) ?a1 .nil rfl (by omega) rfl rfl ?a2)
  case a1 => k_all
  case a2 => walk_at "u sub"
  case h0 =>
    rintro m₁ n₁ ⟨kr, gs, ds, hs, c, tl, ehs, hr, hkr, htl, hnf, hgs, hds, hsz1, hmf, hme, hsub⟩ h tk F9 N9
    have N8 := News.sub N9 hsub
    clear N9
    cases hr
    subst ehs
    k_steps
    rename News _ _ _ _ => kN8; rename Fr _ _ _ _ => kF8; have e8 := ledEnd (q := (fa, _)) (rest := rest) kN8 (by walk_at "u pick") (by walk_at "u split") (by show Value.type "list" ≠ Value.type "tuple"; decide); refine' hret _ _ _ _ kF8 e8.1 (OrderPost.of ?e e8.2.1 e8.2.2 ?ta);
    case ta => rw [t.post_eq, ← hds, postAll, List.append_nil]; exact TAll.app (TAll.mono hgs (by walk_at "u subt")) (TAll.cons (TIn.mono ht (by walk_at "u subt")) .nil)
    case e => simp only [List.append_assoc]
  case hs =>
    rintro v1 r m₁ n₁ ⟨kr, gs, ds, hs, c, tl, ehs, hr, hkr, htl, hnf, hgs, hds, hsz1, hmf, hme, hsub⟩ it h tk hit F9 N9
    have N8 := News.sub N9 (List.forall_mem_cons.mpr ⟨.head _, fun q hq => .tail _ (hsub q hq)⟩)
    clear N9
    cases hr with
    | @cons _ u _ kr1 hu hr1 =>
    have hG := ih u (hkr u (.head _))
    have hh := t.kids_ht u (hkr u (.head _))
    simp only [sizeAll] at hsz1
    k_steps
    refine OrderJ.of (hs := hs ++ _) (gs := gs ++ _) (c := _) (tl := tl ++ _) (by rw [ehs, List.append_assoc]) hr1 (fun u hu => hkr u (.tail _ hu)) (tups_app htl (by assumption)) (by k_all) (TAll.app (TAll.mono hgs (by walk_at "u subt")) (TAll.mono (by assumption) (by walk_at "u subt"))) (by rw [List.append_assoc]; exact hds) (by rw [List.length_append]; exact size_next hsz1 (by assumption)) (by assumption) (by assumption) (by walk_at "u sub")
theorem order_run {w : World} (t : T) : OrderAt w t := T.indK (fun _ h => order_step h) t

section Sec4
--deps PH PT P0
section
variable {prog : Program} {w : World} {A : Around} {E : Value → Shared → Prop} {s : Shared}
theorem inplace_list {a b : Value} {Q : Value → Shared → Prop} (ha : s.TypeIs a "list") (hb : s.TypeIs b "list") (hc : wpAny (model prog w) A (call (.builtin "list.__iadd__") [a, b]) Q E s) : wpAny (model prog w) A (inplaceOp .Add a b) Q E s := by
  have hlk : typeLookup (.type "list") (dunderI "add") = pure (some (.builtin "list.__iadd__")) := PySem.F.slot_list_iadd.lookup
  have hsq : isSeqSlot (some (.builtin "list.__iadd__")) = true := by decide +kernel
  unfold inplaceOp
  refine wpAny_holding ?_
  have hfi : fillsInplaceSlot (.type "list") "add" (Operator.Add == .Add) = pure false := by
    unfold fillsInplaceSlot
    show (typeLookup (.type "list") (dunderI "add") >>= fun fi => pure (fi.isSome && !isSeqSlot fi)) = pure false
    rw [hlk]
    show (pure ((some (Value.builtin "list.__iadd__")).isSome && !isSeqSlot (some (.builtin "list.__iadd__"))) : Sem Bool) = pure false
    rw [hsq]; rfl
  have hsi : seqSlot? (.type "list") (dunderI "add") = pure (some (.builtin "list.__iadd__")) := PySem.seqSlot_of hlk hsq
  refine wpAny_bind (wpAny_typeOf ha (wpAny_bind (wpAny_of_eq hfi ?_)))
  show wpAny _ A (if false = true then _ else _) Q E s
  rw [if_neg Bool.false_ne_true]
  refine wpAny_bind (wpAny_binaryOp1_none (nm := "add") ha hb noFill_list_add ?_)
  refine wpAny_bind (wpAny_of_eq hsi ?_)
  exact wpAny_bind (wpAny_rule hc)
theorem iadd_T {h₀ : Heap} {L D b : Addr} {m : Str → Option Value} {news : Led} {news' : Nat → Led} {n n2 : Nat} {xs ys : List Value} {Q : Value → Shared → Prop}
    (F : Fr h₀ L s.heap m) (N : News h₀ L s.heap news) (hb : (b, listOf ys.toArray n2) ∈ news) (U : ∀ c, Upd D (listOf xs.toArray n) (listOf (xs ++ ys).toArray c) news (news' c)) (hz : xs.length + ys.length ≤ 16000)
    (h : ∀ h' c, Fr h₀ L h' m → News h₀ L h' (news' c) → Q (.ref D) { s with heap := h' }) : wpAny (model prog w) A (inplaceOp .Add (.ref D) (.ref b)) Q E s := by
  obtain ⟨pre, post, e1, _, _, _⟩ := (U 0).split
  have zD : s.heap.get? D = some (listOf xs.toArray n) ∧ D ≠ L ∧ h₀.get? D = none := N (D, listOf xs.toArray n) (by rw [e1]; exact List.mem_append.mpr (.inr (.head _)))
  have zb := N _ hb
  refine inplace_list ⟨_, zD.1, rfl⟩ ⟨_, zb.1, rfl⟩ ?_
  have hs1 : xs.toArray.size ≤ sizeLine := by rw [List.size_toArray, sizeLine_eq]; omega
  have hs2 : xs.toArray.size + ys.toArray.size ≤ sizeLine := by rw [List.size_toArray, List.size_toArray, sizeLine_eq]; omega
  refine call_meets PySem.F.slot_list_iadd ⟨_, zD.1, rfl⟩ PySem.F.entry_list_iadd (PySem.F.args_list_iadd_2 _ _) (AutoSeq1.list___iadd___list_list_0 D xs.toArray n b ys.toArray n2 ?_ hs1 (Nat.le_succ_of_le hs2)) ⟨zD.1, zb.1, ?_⟩
  · simp only [Builtin.List.listTooLong]
    simp only [gt_iff_lt, decide_eq_true_eq, Bool.and_eq_true, not_and]
    intro _ h; omega
  · have q := PySem.IsL.update zD.1 (fun x => x ++ ys.toArray)
    have ea : xs.toArray ++ ys.toArray = (xs ++ ys).toArray := by simp
    rw [ea] at q
    obtain ⟨c, hc⟩ : ∃ c, (s.heap.update D (Obj.mapSeq fun x => x ++ ys.toArray)).get? D = some (listOf (xs ++ ys).toArray c) := ⟨_, q⟩
    refine h _ c (F.change (Heap.SameBut.update ..) zD.2.1 zD.2.2) ?_
    obtain ⟨pre, post, e1, e2, p1, p2⟩ := (U c).split
    rw [e2]
    rw [e1] at N
    exact news_set N p1 p2 (Heap.SameBut.update ..) hc
end
theorem kw51 : True := by
  (k_with "zinplaceOp Add ref" => row_timed "z" (fail "z"; (k_here; (with_reducible show wpAny _ _ (inplaceOp Operator.Add (Value.ref _) (Value.ref _)) _ _ _); k_dflt (refine' iadd_T ?Zk1 ?Zk2 ?Zkb ?Zk3 ?Zz ?_; (case Zk1 => k_asm); (case Zk2 => k_asm); (case Zkb => kcf_m); (case Zk3 => (intro _; k_upd)); (case Zz => ((simp only [List.length_append, List.length_cons, List.length_nil] at *); walk_at "u om")); k_whole); intro Zh' Zc' ZF' ZN'; (try dsimp only at ZN'); (try k_sweep))))
  exact True.intro

--deps PH PT P0 PL PI P5 P6 P7
def Kind.tag : Kind → Str
  | .const .. => Str.ofString "const" | .sig .. => Str.ofString "sig" | .loc .. => Str.ofString "local" | .ev => Str.ofString "event"
  | .word .. => Str.ofString "word" | .slice .. => Str.ofString "slice" | .ext .. => Str.ofString "ext" | .un .. => Str.ofString "un"
  | .pick .. => Str.ofString "pick" | .bin .. => Str.ofString "bin" | .pow .. => Str.ofString "pow" | .cond .. => Str.ofString "cond"
  | .cat .. => Str.ofString "cat" | .call .. => Str.ofString "call" | .sys .. => Str.ofString "sys"
def Kind.wid : Kind → Int
  | .const w _ _ | .sig w _ | .loc w | .word w _ _ | .slice w _ | .ext w _ | .un w | .pick w _ | .bin w _ | .pow w | .cond w | .cat w | .call w | .sys w => w
  | .ev => 1
def Kind.plain : Kind → Bool
  | .sig .. | .word .. => false
  | _ => true
/-- what stands first in a node's tuple -/
theorem NAt.view {I : Led} {v : Value} {k : Kind} {cs : List Value} (h : NAt I v k cs) : ∃ a t0 t1 y r n, v = .ref a ∧ r.length ≤ 5 ∧ (a, tupOf (.str k.tag t0 :: .int k.wid t1 :: y :: r) n) ∈ I := by
  cases h
  all_goals exact ⟨_, _, _, _, _, _, rfl, Nat.le_of_ble_eq_true rfl, by assumption⟩
theorem plain_tag {k : Kind} (h : k.plain = true) : k.tag ≠ Str.ofString "sig" ∧ k.tag ≠ Str.ofString "word" := by
  cases k <;> first | (simp [Kind.plain] at h; done) | exact ⟨by show Str.ofString _ ≠ _; decide, by show Str.ofString _ ≠ _; decide⟩
inductive CutAt (I : Led) : Value → Kind → Prop
  | sig {a n t0 t1 t2 w x} : (a, tupOf [.str (Str.ofString "sig") t0, .int w t1, .int x t2] n) ∈ I → CutAt I (.ref a) (.sig w x)
  | word {a n t0 t1 t2 w x b} : (a, tupOf [.str (Str.ofString "word") t0, .int w t1, .int x t2] n) ∈ I → CutAt I (.ref a) (.word w x b)
  | other {a n t0 t1 k} : k.plain = true → (a, tupOf [.str k.tag t0, .int k.wid t1] n) ∈ I → CutAt I (.ref a) k
theorem CutAt.mono {I J : Led} {v : Value} {k : Kind} (h : CutAt I v k) (hs : TSub I J) : CutAt J v k := by
  cases h with
  | sig h => exact .sig (hs _ h ⟨rfl, _, _, rfl⟩)
  | word h => exact .word (hs _ h ⟨rfl, _, _, rfl⟩)
  | other p h => exact .other p (hs _ h ⟨rfl, _, _, rfl⟩)
inductive CAll (I : Led) : List Value → List Kind → Prop
  | nil : CAll I [] []
  | cons {v k vs ks} : CutAt I v k → CAll I vs ks → CAll I (v :: vs) (k :: ks)
theorem CAll.mono {I J : Led} {vs : List Value} {ks : List Kind} (h : CAll I vs ks) (hs : TSub I J) : CAll J vs ks := by
  induction h with
  | nil => exact .nil
  | cons a _ ih => exact .cons (a.mono hs) ih
theorem CAll.app {I : Led} {vs us : List Value} {ks js : List Kind} (h : CAll I vs ks) (k : CAll I us js) : CAll I (vs ++ us) (ks ++ js) := by
  induction h with
  | nil => exact k
  | cons a _ ih => exact .cons a ih
theorem CAll.length {I : Led} {vs : List Value} {ks : List Kind} (h : CAll I vs ks) : vs.length = ks.length := by
  induction h with
  | nil => rfl
  | cons _ _ ih => simp [ih]
def T.flat : T → List Kind
  | .n0 k => [k.ren]
  | .n1 k a => k.ren :: a.flat
  | .n2 k a b => k.ren :: (a.flat ++ b.flat)
  | .n3 k a b c => k.ren :: ((a.flat ++ b.flat) ++ c.flat)
def flatAll : List T → List Kind
  | [] => []
  | t :: r => t.flat ++ flatAll r
theorem T.flat_eq (t : T) : t.flat = t.kind.ren :: flatAll t.kids := by cases t <;> simp only [T.flat, T.kids, T.kind, flatAll, List.append_nil, List.append_assoc]
theorem flatAll_length : ∀ ts : List T, (∀ u ∈ ts, u.flat.length = u.size) → (flatAll ts).length = sizeAll ts
  | [], _ => rfl
  | t :: r, h => by rw [flatAll, sizeAll, List.length_append, h t (.head _), flatAll_length r fun u hu => h u (.tail _ hu)]
theorem T.flat_length (t : T) : t.flat.length = t.size := T.indK (P := fun t => t.flat.length = t.size) (fun t h => by rw [t.flat_eq, t.size_eq, List.length_cons, flatAll_length _ h]) t
def FlatPost (ks : List Kind) (rest : Led) (r : Value) (news' : Led) : Prop :=
  ∃ tl l gs n, r = .ref l ∧ news' = (l, listOf gs.toArray n) :: (rest ++ tl) ∧ Tups tl ∧ (∀ q ∈ tl, q.1 ≠ l) ∧ (∀ q ∈ rest, q.1 ≠ l) ∧ CAll (rest ++ tl) gs ks
def FlatAt (w : World) (t : T) : Prop := ∀ (v : Value) (rest : Led), TIn rest v t → t.size ≤ 1000 → Run w (.ref 96) [v] (t.ht + 6) (3 * t.ht + 230) rest (FlatPost t.flat rest)
theorem FlatAt.use {w : World} {t : T} (G : FlatAt w t) {v : Value} {rest : Led} (h1 : TIn rest v t) (h2 : t.size ≤ 1000) : Run w (.ref 96) [v] (t.ht + 6) (3 * t.ht + 230) rest (FlatPost t.flat rest) := G v rest h1 h2
def FlatK (t : T) (rest : Led) (S : Value → Led → Prop) : Prop := ∀ tl l gs n, Tups tl → (∀ q ∈ tl, q.1 ≠ l) → LCg.Off1 l rest → CAll (rest ++ tl) gs t.flat → gs.length = t.size → S (.ref l) ((l, listOf gs.toArray n) :: (rest ++ tl))
theorem flatEl {t : T} {rest : Led} (S : Value → Led → Prop) (h : FlatK t rest S) (r : Value) (news' : Led) (P : FlatPost t.flat rest r news') : S r news' := by
  obtain ⟨tl, l, gs, n, rfl, rfl, h1, h2, h3, h4⟩ := P
  exact h tl l gs n h1 h2 (off1_of h3) h4 (h4.length.trans t.flat_length)
theorem kw52 : True := by
  (k_with "zcall ref" => row_timed "z" (fail "z"; (k_here; (with_reducible show wpAny _ _ (call (Value.ref 89) _) _ _ _); k_dflt (refine' Run.useK (renamed_run (NAt.mono ?Zma ?Zmb)) nodeEl ?Zfr ?ZcN ?_; (case ZcN => k_asm); (case Zma => assumption); (case Zmb => walk_at "u subt"); (case Zfr => walk_at "u frame"); k_whole); (k_dflt (intro Za9 Ztl9 Zts9 Zna9 Zh9 Ztk9 ZF9 ZN9); (try dsimp only [Mine.Kind.ren] at Zna9); (try cases Zna9); (try dsimp only [List.cons_append, List.nil_append] at ZN9); (try k_sweep); (try dsimp only)))))
  exact True.intro
theorem kw53 : True := by
  (k_with "zcall ref" => row_timed "z" (fail "z"; (k_here; (with_reducible show wpAny _ _ (call (Value.ref 96) _) _ _ _); k_dflt (refine' Run.useK (FlatAt.use ?ZcG (TIn.mono ?Zma ?Zmb) ?Zcl) flatEl ?Zfr ?ZcN ?_; (case ZcN => k_asm); (case Zma => assumption); (case ZcG => assumption); (case Zmb => walk_at "u subt"); (case Zcl => walk_at "u om"); (case Zfr => walk_at "u frame"); k_whole); (k_dflt (intro Ztl9 Zl9 Zgs9 Zn9 Zts9 Zne9 Znf9 Zca9 Zgl9 Zh9 Ztk9 ZF9 ZN9); (try dsimp only [LCg.Off1] at Znf9); (try dsimp only [List.cons_append, List.nil_append] at ZN9); (try k_sweep); (try dsimp only)))))
  exact True.intro
theorem ret_of {h₀ : Heap} {L : Addr} {m : Str → Option Value} {s : Shared} {Q : Value → Shared → Prop} {Post : Value → Led → Prop} (hret : ∀ r news' h' tk', Fr h₀ L h' m → News h₀ L h' news' → Post r news' → Q r { s with heap := h', toks := tk' }) {r : Value} {h' : Heap} {tk' : Nat} (F : Fr h₀ L h' m)
    (x : ∃ news', News h₀ L h' news' ∧ Post r news') : Q r { s with heap := h', toks := tk' } := by
  obtain ⟨n, N, P⟩ := x
  exact hret _ _ _ _ F N P
theorem ltAll_ne {d : Addr} {l r : Led} (h : LtAll d l) (hs : ∀ q ∈ r, q ∈ l) : ∀ q ∈ r, q.1 ≠ d := fun q hq => Nat.ne_of_lt (h q (hs q hq))
theorem kw54 : True := by
  (k_with "znewList" => row_timed "z" (fail "z"; (k_here; k_dflt (refine' newList_K ?Zk1 ?Zk2 ?_; (case Zk1 => k_asm); (case Zk2 => k_asm); k_whole); intro Zl' Zh' ZF' ZN' Zl1; (have Zl0' := LtAll.of Zl1); (try k_lt Zl1); (try k_sweep))))
  exact True.intro
theorem cutOther {I : Led} {a : Addr} {n : Nat} {t0 t1 : Tok} {k k' : Kind} (h : k.plain = true) (e : k' = k) (hm : (a, tupOf [.str k.tag t0, .int k.wid t1] n) ∈ I) : CutAt I (.ref a) k' := e ▸ .other h hm
theorem flat_ret {h₀ h : Heap} {L l : Addr} {gs : List Value} {n : Nat} {ks : List Kind} {led r tl rest : Led} (N : News h₀ L h led) (hp : Pick (l, listOf gs.toArray n) led r) (hs : Split rest r tl) (hr : ∀ q ∈ rest, q.1 ≠ l) (hc : CAll (rest ++ tl) gs ks) :
    ∃ news', News h₀ L h news' ∧ FlatPost ks rest (.ref l) news' := by
  have e := ledEnd N hp hs (by show Value.type "list" ≠ Value.type "tuple"; decide)
  exact ⟨_, e.1, tl, l, gs, n, rfl, rfl, e.2.1, e.2.2, hr, hc⟩
def FlatJ (t : T) (fl : Addr) (rest : Led) (lp : Addr × Obj) (r : List Value) (m : Str → Option Value) (n : Led) : Prop :=
  ∃ kr gs ks c tl, TAll rest r kr ∧ (∀ u ∈ kr, u ∈ t.kids) ∧ Tups tl ∧ CAll (rest ++ tl) gs ks ∧ ks ++ flatAll kr = t.flat ∧ gs.length + sizeAll kr ≤ 1000 ∧ m (Str.ofString "found") = some (.ref fl) ∧ ∀ q ∈ (fl, listOf gs.toArray c) :: lp :: (rest ++ tl), q ∈ n
theorem FlatJ.of {t : T} {fl : Addr} {rest : Led} {lp : Addr × Obj} {r : List Value} {m : Str → Option Value} {n : Led} {kr : List T} {gs : List Value} {ks : List Kind} {c : Nat} {tl : Led}
    (h1 : TAll rest r kr) (h2 : ∀ u ∈ kr, u ∈ t.kids) (h3 : Tups tl) (h4 : CAll (rest ++ tl) gs ks) (h5 : ks ++ flatAll kr = t.flat) (h6 : gs.length + sizeAll kr ≤ 1000) (h8 : m (Str.ofString "found") = some (.ref fl))
    (h11 : ∀ q ∈ (fl, listOf gs.toArray c) :: lp :: (rest ++ tl), q ∈ n) : FlatJ t fl rest lp r m n := ⟨kr, gs, ks, c, tl, h1, h2, h3, h4, h5, h6, h8, h11⟩
theorem size_next0 {a b c g k : Nat} (h : a + (b + c) ≤ k) (e : g = b) : a + g + c ≤ k := by omega
theorem ledSplit {h₀ h : Heap} {L : Addr} {r tl rest : Led} (_ : News h₀ L h r) (hs : Split rest r tl) : Tups tl ∧ (∀ q ∈ tl, q ∈ r) ∧ ∀ q ∈ rest, q ∈ r := hs.spec
set_option maxRecDepth 100000 in set_option maxHeartbeats 8000000 in
theorem flat_plain {w : World} {t : T} (ih : ∀ u ∈ t.kids, FlatAt w u) (hk : t.kind.plain = true) : FlatAt w t := by
  intro v rest ht hsz
  obtain ⟨cvs, hn, hks, hl⟩ := ht.opened
  obtain ⟨va, t0, t1, y, r, nn, rfl, hr, hm⟩ := hn.view
  have hpt := plain_tag hk
  have hrk : t.kind.ren = t.kind := by cases hq : t.kind <;> first | rfl | (rw [hq] at hk; simp [Kind.plain] at hk)
  rw [t.size_eq] at hsz
  have hkz : ∀ u ∈ t.kids, u.size ≤ sizeAll t.kids := sizeAll_mem _
  unfold Run; k_fill; intro p loose mean mg mb A A₀ env outer base h₀ L m s Q E B F X N T hA hf hke hnd hdp hun hret
  (refine wpAny_call ?_; k_dflt (refine' code_def ?k1 ?k2 ?k3 ?k4 ?k5 ?kA ?kF ?kK ?k6 ?k7 ?k8 ?k9 ?kB ?_ ?c2 ?c3 ?c4 ?c5; (case kA => assumption); (case kF => assumption); (case kK => assumption); (case k1 => k_asm); (case k2 => k_asm); (case k3 => k_asm); (case k4 => k_asm); (case k5 => k_asm); (case k6 => k_is); (case k7 => k_is); (case k8 => walk_at "u om"); (case k9 => exact BindsTo.of_eq rfl); (case c5 => decide); (case kB => exact locs rfl); (case c2 => exact rfl); (case c3 => exact rfl); (case c4 => exact rfl); k_whole; intro g' L' h' FG' F' N' B' X' T'; (try dsimp only); (try k_fold)))
  k_steps
  · rename (List.any _ _) = true => hany
    exact absurd hany (by simp [hpt.1.symm, hpt.2.symm])
  k_steps
  rename News _ _ _ _ => kN8
  have e9 := ledSplit (rest := rest) kN8 (by walk_at "u split")
  refine SeqRest.byJ2 (J := FlatJ t _ rest) ?h0 ?hs cvs _ _ (FlatJ.of (gs := [_]) (c := 0) hks (fun _ h => h) e9.1 (CAll.cons (cutOther hk hrk (by kcf_m)) .nil) (by rw [t.flat_eq]; rfl) (by rw [List.length_cons, List.length_nil]; omega) rfl (by walk_at "u sub"))
  case h0 =>
    rintro m₁ n₁ ⟨kr, gs, ks, c, tl, hr, hkr, htl, hgs, hds, hsz1, hmf, hsub⟩ h tk F9 N9
    have N8 := News.sub N9 hsub
    clear N9
    cases hr
    k_steps
    (rename News _ _ _ _ => kN8; rename Fr _ _ _ _ => kF8; refine' ret_of hret kF8 (flat_ret kN8 ?pk ?sp ?hr ?hc))
    case pk => walk_at "u pick"
    case sp => walk_at "u split"
    case hr => exact ltAll_ne (by assumption) (by walk_at "u sub")
    case hc => rw [← hds, flatAll, List.append_nil]; exact CAll.mono hgs (by walk_at "u subt")
  case hs =>
    rintro v1 r m₁ n₁ ⟨kr, gs, ks, c, tl, hr, hkr, htl, hgs, hds, hsz1, hmf, hsub⟩ it h tk hit F9 N9
    have N8 := News.sub N9 (List.forall_mem_cons.mpr ⟨.head _, fun q hq => .tail _ (hsub q hq)⟩)
    clear N9
    cases hr with
    | @cons _ u _ kr1 hu hr1 =>
    have hG := ih u (hkr u (.head _))
    have hh := t.kids_ht u (hkr u (.head _))
    simp only [sizeAll] at hsz1
    k_steps
    exact FlatJ.of (gs := gs ++ _) (tl := tl ++ _) hr1 (fun u hu => hkr u (.tail _ hu)) (tups_app htl (by assumption)) (CAll.app (CAll.mono hgs (by walk_at "u subt")) (CAll.mono (by assumption) (by walk_at "u subt"))) (by rw [List.append_assoc]; exact hds) (by rw [List.length_append]; exact size_next0 hsz1 (by assumption)) rfl (by walk_at "u sub")
set_option maxRecDepth 100000 in set_option maxHeartbeats 8000000 in
theorem flat_sig {w : World} {u x : Int}  : FlatAt w (.n0 (.sig u x)) := by
  intro v rest ht hsz
  have ht0 := ht
  cases ht with
  | n0 hn =>
  have hn0 := hn
  cases hn
  simp only [Mine.T.size] at hsz
  unfold Run; k_fill; intro p loose mean mg mb A A₀ env outer base h₀ L m s Q E B F X N T hA hf hke hnd hdp hun hret
  (refine wpAny_call ?_; k_dflt (refine' code_def ?k1 ?k2 ?k3 ?k4 ?k5 ?kA ?kF ?kK ?k6 ?k7 ?k8 ?k9 ?kB ?_ ?c2 ?c3 ?c4 ?c5; (case kA => assumption); (case kF => assumption); (case kK => assumption); (case k1 => k_asm); (case k2 => k_asm); (case k3 => k_asm); (case k4 => k_asm); (case k5 => k_asm); (case k6 => k_is); (case k7 => k_is); (case k8 => walk_at "u om"); (case k9 => exact BindsTo.of_eq rfl); (case c5 => decide); (case kB => exact locs rfl); (case c2 => exact rfl); (case c3 => exact rfl); (case c4 => exact rfl); k_whole; intro g' L' h' FG' F' N' B' X' T'; (try dsimp only); (try k_fold)))
  k_steps
  (rename News _ _ _ _ => kN8; rename Fr _ _ _ _ => kF8; refine' ret_of hret kF8 (flat_ret kN8 ?pk ?sp ?hr ?hc))
  case pk => walk_at "u pick"
  case sp => walk_at "u split"
  case hr => exact ltAll_ne (by assumption) (by walk_at "u sub")
  case hc => exact CAll.cons (CutAt.mono (CutAt.sig (by assumption)) (by walk_at "u subt")) .nil
set_option maxRecDepth 100000 in set_option maxHeartbeats 8000000 in
theorem flat_word {w : World} {u x : Int} {b : Bool} {a : T} (ha : FlatAt w a) : FlatAt w (.n1 (.word u x b) a) := by
  intro v rest ht hsz
  have ht0 := ht
  cases ht with
  | n1 hn hta =>
  have hn0 := hn
  cases hn
  have hh : a.ht + 1 ≤ (T.n1 (.word u x b) a).ht := Nat.le_refl _
  simp only [Mine.T.size] at hsz
  unfold Run; k_fill; intro p loose mean mg mb A A₀ env outer base h₀ L m s Q E B F X N T hA hf hke hnd hdp hun hret
  (refine wpAny_call ?_; k_dflt (refine' code_def ?k1 ?k2 ?k3 ?k4 ?k5 ?kA ?kF ?kK ?k6 ?k7 ?k8 ?k9 ?kB ?_ ?c2 ?c3 ?c4 ?c5; (case kA => assumption); (case kF => assumption); (case kK => assumption); (case k1 => k_asm); (case k2 => k_asm); (case k3 => k_asm); (case k4 => k_asm); (case k5 => k_asm); (case k6 => k_is); (case k7 => k_is); (case k8 => walk_at "u om"); (case k9 => exact BindsTo.of_eq rfl); (case c5 => decide); (case kB => exact locs rfl); (case c2 => exact rfl); (case c3 => exact rfl); (case c4 => exact rfl); k_whole; intro g' L' h' FG' F' N' B' X' T'; (try dsimp only); (try k_fold)))
  k_steps
  (rename News _ _ _ _ => kN8; rename Fr _ _ _ _ => kF8; refine' ret_of hret kF8 (flat_ret kN8 ?pk ?sp ?hr ?hc))
  case pk => walk_at "u pick"
  case sp => walk_at "u split"
  case hr => exact ltAll_ne (by assumption) (by walk_at "u sub")
  case hc => exact CAll.cons (CutAt.word (by kcf_m)) (CAll.mono (by assumption) (by walk_at "u subt"))
theorem plain_cut {k : Kind} (h : k.plain = false) : (∃ w x, k = .sig w x) ∨ ∃ w x b, k = .word w x b := by
  cases k <;> first | exact .inl ⟨_, _, rfl⟩ | exact .inr ⟨_, _, _, rfl⟩ | exact Bool.noConfusion (show true = false from h)
theorem NAt.sig0 {I : Led} {v : Value} {w x : Int} {cvs : List Value} (h : NAt I v (.sig w x) cvs) : cvs.length = 0 := by cases h; rfl
theorem NAt.word1 {I : Led} {v : Value} {w x : Int} {b : Bool} {cvs : List Value} (h : NAt I v (.word w x b) cvs) : cvs.length = 1 := by cases h; rfl
theorem T.of0 {t : T} (h : t.kids.length = 0) : t = .n0 t.kind := by cases t <;> first | rfl | cases h
theorem T.of1 {t : T} (h : t.kids.length = 1) : ∃ a, t = .n1 t.kind a := by cases t <;> first | exact ⟨_, rfl⟩ | cases h
theorem TIn.cutShape {I : Led} {v : Value} {t : T} (h : TIn I v t) (hk : t.kind.plain = false) : (∃ w x, t = .n0 (.sig w x)) ∨ ∃ w x b a, t = .n1 (.word w x b) a := by
  obtain ⟨cvs, hn, hks, _⟩ := h.opened
  rcases plain_cut hk with ⟨w, x, e⟩ | ⟨w, x, b, e⟩
  · rw [e] at hn
    exact .inl ⟨w, x, e ▸ T.of0 (hks.length ▸ hn.sig0)⟩
  · rw [e] at hn
    obtain ⟨a, ha⟩ := T.of1 (t := t) (hks.length ▸ hn.word1)
    exact .inr ⟨w, x, b, a, e ▸ ha⟩
theorem TAll.each {I : Led} {vs : List Value} {ts : List T} (h : TAll I vs ts) : ∀ u ∈ ts, ∃ v, TIn I v u := by
  induction h with
  | nil => exact fun _ h => nomatch h
  | cons a _ ih => exact List.forall_mem_cons.mpr ⟨⟨_, a⟩, ih⟩
theorem flat_all {w : World} : ∀ t : T, (∃ I v, TIn I v t) → FlatAt w t := T.indK fun t ih ⟨I, v, h⟩ => by
  have hk : ∀ u ∈ t.kids, FlatAt w u := fun u hu => by
    obtain ⟨_, _, hks, _⟩ := h.opened
    obtain ⟨x, hx⟩ := hks.each u hu
    exact ih u hu ⟨I, x, hx⟩
  cases hp : t.kind.plain with
  | true => exact flat_plain hk hp
  | false =>
    rcases h.cutShape hp with ⟨_, _, rfl⟩ | ⟨_, _, _, a, rfl⟩
    · exact flat_sig
    · exact flat_word (hk a (.head _))
theorem flat_run {w : World} {v : Value} {I : Led} (t : T) (h : TIn I v t) : FlatAt w t := flat_all t ⟨I, v, h⟩

end Sec4
theorem kw55 : True := by
  k_with_none
  (k_with "zu pr" => first | exact pr0 (by assumption) | exact pr1 (by assumption) | exact pe1 (by assumption) | exact pr2 (by assumption) | exact pe2 (by assumption) | exact pr3 (by assumption) | exact pe3 (by assumption) | exact pr4 (by assumption) | exact pe4 (by assumption) | exact pr5 (by assumption) | exact pe5 (by assumption) | exact pr6 (by assumption) | exact pe6 (by assumption) | exact pr7 (by assumption) | exact pe7 (by assumption) | exact pr8 (by assumption) | exact pe8 (by assumption) | exact pr9 (by assumption) | exact pe9 (by assumption) | exact pr10 (by assumption) | exact pe10 (by assumption) | exact pr11 (by assumption) | exact pe11 (by assumption) | exact pr12 (by assumption) | exact pe12 (by assumption) | exact pr13 (by assumption) | exact pe13 (by assumption) | exact pr14 (by assumption) | exact pe14 (by assumption) | exact pr15 (by assumption) | exact pe15 (by assumption) | exact pr16 (by assumption) | exact pe16 (by assumption) | exact pr17 (by assumption) | exact pe17 (by assumption) | exact pr18 (by assumption) | exact pe18 (by assumption) | exact pr19 (by assumption) | exact pe19 (by assumption) | exact pr20 (by assumption) | exact pe20 (by assumption) | exact pr21 (by assumption) | exact pe21 (by assumption) | exact pr22 (by assumption) | exact pe22 (by assumption) | exact pr23 (by assumption) | exact pe23 (by assumption))
  (k_with "zu ne" => (refine neN ?_; (try dsimp only); first | (with_reducible first | assumption | exact Ne.symm (by assumption) | exact Nat.ne_of_lt (by assumption) | exact Nat.ne_of_gt (by assumption) | ((fail_if_success (fail_if_success (refine nA (by assumption) ?_))); walk_at "u pr") | ((fail_if_success (fail_if_success (refine nB (by assumption) ?_))); refine Ne.symm ?_; walk_at "u pr") | ((fail_if_success (fail_if_success (refine lA (by assumption) ?_))); refine Nat.ne_of_lt ?_; walk_at "u pr") | ((fail_if_success (fail_if_success (refine lB (by assumption) ?_))); refine Nat.ne_of_gt ?_; walk_at "u pr")) | omega))
  (k_with "zu len" => ((repeat (first | assumption | exact Nat.le_refl _ | refine Nat.le_trans (by assumption) ?_)); done))
  (k_with "zu om" => first | (with_reducible assumption) | (with_reducible walk_at "u len") | (with_reducible ((repeat (rename (_ ≠ _ ∧ _) => kx; clear kx)); (repeat (rename (_ < _ ∧ _) => kx; clear kx))); omega))
  (k_with "zcall type:tuple" => row_timed "z" (fail "z"; (k_here; (with_reducible show wpAny _ _ (call (Value.type _) [Value.ref _]) _ _ _); k_dflt (refine' kde_tupleOf ?Zk1 ?Zk2 ?Zk3 ?Zk4 ?Zk5 ?_; (case Zk1 => k_asm); (case Zk2 => k_asm); (case Zk3 => exact News.isList (by k_asm) (by kcf_m)); (case Zk4 => (simp only [List.size_toArray]; first | assumption | walk_at "u om")); (case Zk5 => exact rfl); k_whole); intro ZD' Zh' ZF' ZN' Zl1; (try k_sweep))))
  (k_with "zcall builtin:list.pop" => row_timed "z" (fail "z"; (k_here; (with_reducible show wpAny _ _ (call (Value.builtin _) [Value.ref _, Value.int 0 _]) _ _ _); k_dflt (refine' pop0 ?ZF ?ZN ?ZU ?Zz ?_; (case ZF => k_asm); (case ZN => k_asm); (case ZU => k_upd); (case Zz => (simp only [List.length_cons] at *; walk_at "u om")); k_whole); intro Zh' ZF' ZN'; (try k_sweep))))
  (k_with "zsubscriptTail Name Name ref int" => row_timed "z" (fail "z"; (k_here; (with_reducible show wpAny _ _ (subscriptTail _ _ (Value.ref _) (Value.int _ _)) _ _ _); (fail_if_success (with_reducible show wpAny _ _ (subscriptTail _ _ (Value.ref _) (Value.int (OfNat.ofNat _) _)) _ _ _)); (with_unfolding_all refine' pickK ?Zk3 ?Zk4 ?Zk5 ?Zk6 ?_ ?Zk7; (case Zk3 => exact News.isList (by k_asm) (by kcf_m)); (case Zk4 => walk_at "u om"); (case Zk5 => (simp only [List.length_cons, List.length_nil]; walk_at "u om")); (case Zk6 => walk_at "u om"); (case Zk7 => with_unfolding_all rfl); k_whole); (dsimp only [PickAt]); k_places; (all_goals (try k_fold)))))
  (k_with "zsubscriptTail Name Call ref int" => walk_at "subscriptTail Name Name ref int")
  (k_with "zsubscriptTail List" => (k_here; k_dflt (refine kba_turn (value' := PySem.Expr.Name (PySem.Str.ofString "_") ⟨0, 0, 0, 0⟩) (fun _ => rfl) ?_)))
  (k_with "zsubscriptTail Tuple" => walk_at "subscriptTail List")
  (k_with "zsubscriptTail Name Slice ref ref" => row_timed "z" (fail "z"; (k_here; (with_reducible show wpAny _ _ (subscriptTail _ (PySem.Expr.Slice none (some _) none _) (Value.ref _) (Value.ref _)) _ _ _); k_dflt (first
  | (refine' slice_tuple_upto (b := 1) ?ZF ?ZN ?Zl ?Zi ?Zb ?Zz ?_ ?Zs ?Zt; (case ZF => k_asm); (case ZN => k_asm); (case Zl => exact News.isTup (by k_asm) (by kcf_m)); (case Zi => exact rfl); (case Zb => first | exact Nat.le_of_ble_eq_true rfl | ((simp only [List.length_cons]); walk_at "u om")); (case Zz => first | exact Nat.le_of_ble_eq_true rfl | ((simp only [List.length_cons]); walk_at "u om")); (case Zs => with_unfolding_all rfl); (case Zt => (intro _; with_unfolding_all rfl)); intro ZD' Zh' ZF' ZN' Zl1)
  | (refine' slice_tuple_upto (b := 2) ?ZF ?ZN ?Zl ?Zi ?Zb ?Zz ?_ ?Zs ?Zt; (case ZF => k_asm); (case ZN => k_asm); (case Zl => exact News.isTup (by k_asm) (by kcf_m)); (case Zi => exact rfl); (case Zb => first | exact Nat.le_of_ble_eq_true rfl | ((simp only [List.length_cons]); walk_at "u om")); (case Zz => first | exact Nat.le_of_ble_eq_true rfl | ((simp only [List.length_cons]); walk_at "u om")); (case Zs => with_unfolding_all rfl); (case Zt => (intro _; with_unfolding_all rfl)); intro ZD' Zh' ZF' ZN' Zl1)
  | (refine' slice_tuple_upto (b := 3) ?ZF ?ZN ?Zl ?Zi ?Zb ?Zz ?_ ?Zs ?Zt; (case ZF => k_asm); (case ZN => k_asm); (case Zl => exact News.isTup (by k_asm) (by kcf_m)); (case Zi => exact rfl); (case Zb => first | exact Nat.le_of_ble_eq_true rfl | ((simp only [List.length_cons]); walk_at "u om")); (case Zz => first | exact Nat.le_of_ble_eq_true rfl | ((simp only [List.length_cons]); walk_at "u om")); (case Zs => with_unfolding_all rfl); (case Zt => (intro _; with_unfolding_all rfl)); intro ZD' Zh' ZF' ZN' Zl1)
  | (refine' slice_tuple_whole (b := 2) ?ZF ?ZN ?Zl ?Zi ?Zb ?_ ?Zs ?Zt; (case ZF => k_asm); (case ZN => k_asm); (case Zl => exact News.isTup (by k_asm) (by kcf_m)); (case Zi => exact rfl); (case Zb => exact Nat.le_of_ble_eq_true rfl); (case Zs => with_unfolding_all rfl); (case Zt => (intro _; with_unfolding_all rfl)); intro Zh' ZF' ZN')
  | (refine' slice_tuple_whole (b := 3) ?ZF ?ZN ?Zl ?Zi ?Zb ?_ ?Zs ?Zt; (case ZF => k_asm); (case ZN => k_asm); (case Zl => exact News.isTup (by k_asm) (by kcf_m)); (case Zi => exact rfl); (case Zb => exact Nat.le_of_ble_eq_true rfl); (case Zs => with_unfolding_all rfl); (case Zt => (intro _; with_unfolding_all rfl)); intro Zh' ZF' ZN')); (try dsimp only [List.take]); (try k_sweep))))
  (k_with "zsubscriptTail Name Constant ref int" => row_timed "z" (fail "z"; (k_here; (with_reducible show wpAny _ _ (subscriptTail _ _ (Value.ref _) (Value.int _ _)) _ _ _); (with_unfolding_all refine' item_tupleL ?Zk1 ?Zk2 ?Zk3 ?Zk4 ?Zk5 ?_ ?Zk6 ?Zk7; (case Zk1 => exact News.isTup (by k_asm) (by kcf_m)); (case Zk2 => decide); (case Zk3 => decide); (case Zk4 => exact rfl); (case Zk5 => exact rfl); (case Zk6 => with_unfolding_all rfl); (case Zk7 => (intro _; with_unfolding_all rfl)); k_whole))))
  (k_with "zcall type:list" => row_timed "z" (fail "z"; (k_here; (with_reducible show wpAny _ _ (call (Value.type _) [Value.ref _]) _ _ _); (with_unfolding_all refine' list_copyKT ?Zk1 ?Zk2 ?Zk3 ?_ ?Zz; (case Zk1 => k_asm); (case Zk2 => k_asm); (case Zk3 => exact News.isTup (by k_asm) (by kcf_m)); (case Zz => (simp only [List.size_toArray, List.length_cons, List.length_nil, sizeLine_eq]; walk_at "u om")); k_whole); intro ZD' Zc' Zh' ZF' ZN' Zl1; (have Zl0' := LtAll.of Zl1); (try k_lt Zl1); (try k_sweep))))
  (k_with "zCompSrc" => row_timed "z" (fail "z"; (k_here; k_dflt (first
  | (refine LCg.CompSrc.ledger (by assumption) (by k_asm) (by k_asm) (by kcf_m) (by first | size_fits | exact Nat.le_of_ble_eq_true rfl) ?_; intro Zg'; lcg_lit)
  | (refine LCg.CompSrc.range (by assumption) (by k_asm) (by k_asm) (by assumption) (by first | decide | rfl) (by first | rfl | decide) (by first | size_fits | exact Nat.le_of_ble_eq_true rfl) ?_; intro Zg'; lcg_lit)))))
  (k_with "zsubscriptTail Name Name ref int" => walk_at "subscriptTail Name Constant ref int")
  (k_with "zCompRest" => row_timed "z" (fail "z"; (k_here; (with_unfolding_all first
  | (refine LCg.CompRest.succ ?_; intro Zv' ZI' ZoI' ZC' ZoC' ZD' Zm' Zh' Ztk' ZE' Zhv' ZhC' Zhx' ZF' ZN' Zoff' Zne'; (first | lcg_open Zhv' | (obtain ⟨Zt9', Zhv9'⟩ := Zhv'; subst Zhv9')); (try k_sweep))
  | refine LCg.CompRest.zero ?_))))
  (k_with "zCompEnd" => row_timed "z" (fail "z"; (k_here; (rename News _ _ _ _ => ZnE9); (rename LCg.Off3 _ _ _ _ => ZoE9); refine LCg.CompEnd.intro (by assumption) ZnE9 _ (fun _ h => h) ZoE9 (by first | exact True.intro | exact Or.inr ⟨_, by kcf_m, rfl, _, rfl⟩) ?_)))
  (k_with "zFinE" => row_timed "z" (fail "z"; (k_here; (unfold LCg.FinE); intro ZD' Zh' Ztk' ZF' ZN' Zo1'; (try simp only [List.nil_append, List.cons_append] at ZN'); (try dsimp only); (try k_sweep))))
  (k_with "zcall builtin:list.append" => row_timed "z" (fail "z"; (k_here; (with_reducible show wpAny _ _ (call (Value.builtin _) [Value.ref _, _]) _ _ _); k_dflt (refine' append_T ?Zk1 ?Zk2 ?Zk3 ?Zz ?_; (case Zk1 => k_asm); (case Zk2 => k_asm); (case Zk3 => k_upd); (case Zz => ((try simp only [List.length_append, List.length_cons, List.length_nil] at *); walk_at "u om")); k_whole); intro Zh' ZF' ZN'; (try k_sweep))))
  (k_with "zsubscriptTail Name Constant ref int" => row_timed "z" (fail "z"; (k_here; (with_reducible show wpAny _ _ (subscriptTail _ _ (Value.ref _) (Value.int 0 _)) _ _ _); (with_unfolding_all refine' item_head ?Zk1 ?_ ?Zk6 ?Zk7; (case Zk1 => exact News.isTup (by k_asm) (by kcf_m)); (case Zk6 => with_unfolding_all rfl); (case Zk7 => (intro _; with_unfolding_all rfl)); k_whole))))
  (k_with "zu pick" => (((repeat' (first | exact Pick.head | refine' Pick.tail ?_ )); first | done | fail "left open")))
  (k_with "zu split" => (((repeat' (first | exact Split.base | refine' Split.keep ⟨rfl, ⟨_, _, rfl⟩⟩ ?_ | refine' Split.app (by assumption) ?_ | refine' Split.skip ?_)); first | done | fail "left open")))
  (k_with "zu sub" => (((repeat' (first | exact fun _ h => h | exact List.forall_mem_nil _ | refine List.forall_mem_append.mpr ⟨?_, ?_⟩ | refine List.forall_mem_cons.mpr ⟨?_, ?_⟩ | kcf_m | (intro p9 h9; kcf_m))); first | done | fail "left open")))
  (k_with "zu subt" => (((unfold TSub); (repeat' (first | exact fun _ h _ => h | exact List.forall_mem_nil _ | refine List.forall_mem_append.mpr ⟨?_, ?_⟩ | refine List.forall_mem_cons.mpr ⟨?_, ?_⟩ | exact notTup rfl (by decide) | exact notTup (by assumption) (by decide) | exact notCell (by assumption) | (intro _; kcf_m) | (intro p9 h9 _; kcf_m))); first | done | fail "left open")))
  (k_with "zu ht" => with_reducible first | exact ht_k (by assumption))
  (k_with "zu dep" => (refine dep_deeper (by assumption) ?_; first | exact Nat.le_of_ble_eq_true rfl | walk_at "u ht" | exact up_n rfl | exact dep_s))
  (k_with "zu uni" => (refine uni_deeper (by assumption) ?_; first | exact Nat.le_of_ble_eq_true rfl | (refine up_3 ?_; walk_at "u ht") | exact up_u rfl | exact uni_s))
  (k_with "zu frame" => (refine' ⟨?cB, ?cF, ?cX, ?cT, ?cA, ?cf, ?ce, ?cH, ?cd, ?cu⟩; (case cB => k_asm); (case cF => k_asm); (case cX => k_asm); (case cT => k_asm); (case cA => first | exact frames_of (by assumption) | exact rfl); (case cf => exact rfl); (case ce => exact rfl); (case cH => first | exact rfl | assumption); (case cd => first | walk_at "u dep" | ((try simp only [depth_under_make, depth_under_kw, depth_in1, depth_deeper, depth_caller, Mine.T.ht] at *); omega)); (case cu => first | walk_at "u uni" | ((try simp only [units_in1, units_deeper, Around.mark_units, units_caller, Mine.T.ht] at *); omega))))
  (k_with "zcall ref" => (k_here; (with_reducible show wpAny _ _ (call (Value.ref _) _) _ _ _); refine Halt.mk ?_))
  (k_with "zsubscriptTail Name Constant ref int" => row_timed "z" (fail "z"; (k_here; (with_reducible show wpAny _ _ (subscriptTail _ _ (Value.ref _) (Value.int _ _)) _ _ _); (with_unfolding_all refine' listItem ?Zk1 ?Zk2 ?Zk3 ?Zk4 ?_ ?Zk6; (case Zk1 => exact News.isList (by k_asm) (by kcf_m)); (case Zk2 => decide); (case Zk3 => decide); (case Zk4 => exact rfl); (case Zk6 => with_unfolding_all rfl); k_whole))))
  (k_with "zsubscriptTail Name Slice ref ref" => row_timed "z" (fail "z"; (k_here; (with_reducible show wpAny _ _ (subscriptTail _ (PySem.Expr.Slice (some _) none none _) (Value.ref _) (Value.ref _)) _ _ _); k_dflt (refine' slice_tuple_fromK (a := 3) ?ZF ?ZN ?Zl ?Zi ?Zo ?Zb ?Zz ?_ ?Zs ?Zt; (case ZF => k_asm); (case ZN => k_asm); (case Zl => exact News.isTup (by k_asm) (by kcf_m)); (case Zi => exact rfl); (case Zo => decide); (case Zb => exact Nat.le_of_ble_eq_true rfl); (case Zz => exact Nat.le_of_ble_eq_true rfl); (case Zs => with_unfolding_all rfl); (case Zt => (intro _; with_unfolding_all rfl)); intro ZD' Zh' ZF' ZN' Zl1); (try dsimp only [List.drop] at ZN'); (try k_sweep))))
  (k_with "zpyIter ref" => row_timed "z" (fail "z"; (k_here; (with_reducible show wpAny _ _ (pyIter (Value.ref _)) (fun it s₂ => LoopAtV _ _ _ _ _ _ _ _ _ it s₂) _ _); (rename Fr _ _ _ _ => ZlF'); (with_unfolding_all first
  | (refine' seq_list ?Zhh ZlF' ?ZN ?Zhm ?_; (case ZN => k_asm); (case Zhm => kcf_m); (case Zhh => assumption); k_whole)
  | (refine' seq_tuple ?Zhh ZlF' ?ZN ?Zhm ?_; (case ZN => k_asm); (case Zhm => kcf_m); (case Zhh => assumption); k_whole)); intro Zi' Zl1; (have Zl0' := LtAll.of Zl1); (try k_lt Zl1))))
  (k_with "zSeqRest" => row_timed "z" (fail "z"; (k_here; (with_unfolding_all first | (refine SeqRest.succ (fun Zit' Zh' Ztk' Zhit' ZF' ZN' => ?_)) | (refine SeqRest.zero (fun Zh' Ztk' ZF' ZN' => ?_))); (try k_sweep))))
  (k_with "zUnrEnd" => row_timed "z" (fail "z"; (k_here; (rename Fr _ _ _ _ => ZuF9); (rename News _ _ _ _ => ZuN9); (with_unfolding_all refine' unrEnd ZuF9 ZuN9 ?Zpk ?Zoff ⟨?Zlm, ?_⟩; (case Zpk => walk_at "u pick"); (case Zoff => ((repeat' (first | exact List.forall_mem_nil _ | exact offTups (by assumption) (by assumption) (by decide) | exact offLt (by assumption) (by walk_at "u sub") | refine List.forall_mem_append.mpr ⟨?_, ?_⟩ | refine List.forall_mem_cons.mpr ⟨?_, ?_⟩ | exact offCls (by assumption) rfl (by decide) | exact Or.inl (by k_ne))); first | done | fail "left open")); (case Zlm => kcf_m)))))
  (k_with "zeval Name" => row_timed "z" (fail "z"; (k_here; (fail_if_success (fail_if_success (with_reducible rename ((_ : Str → Option Value) (Str.ofString _) = some _) => ZgX))); k_dflt (refine' ld ?Zk1 ?Zk2 ?_; (case Zk1 => k_asm); (case Zk2 => assumption); k_whole))))
  (k_with "zloadName" => row_timed "z" (fail "z"; (k_here; (fail_if_success (fail_if_success (with_reducible rename ((_ : Str → Option Value) (Str.ofString _) = some _) => ZgX))); k_dflt (refine' ldL ?Zk1 ?Zk2 ?_ ?Zk3 ?Zk4; (case Zk1 => k_asm); (case Zk2 => assumption); (case Zk3 => exact rfl); (case Zk4 => exact rfl); k_whole))))
  (k_with "zcall ref" => row_timed "z" (fail "z"; (k_here; (with_reducible show wpAny _ _ (call (Value.ref 75) _) _ _ _); k_dflt (refine' Run.useK (inside_run (NAt.mono ?Zma ?Zmb)) listEl ?Zfr ?ZcN ?_; (case ZcN => k_asm); (case Zma => assumption); (case Zmb => walk_at "u subt"); (case Zfr => walk_at "u frame"); k_whole); (k_dflt (intro Ztl9 Zl9 Zn9 Zts9 Zne9 Znf9 Zh9 Ztk9 ZF9 ZN9); (try dsimp only [LCg.Off1] at Znf9); (try dsimp only [List.cons_append, List.nil_append] at ZN9); (try k_sweep); (try dsimp only)))))
  (k_with "zcall ref" => row_timed "z" (fail "z"; (k_here; (with_reducible show wpAny _ _ (call (Value.ref 82) _) _ _ _); k_dflt (refine' Run.useK (OrderAt.use ?ZcG (TIn.mono ?Zma ?Zmb) ?Zcl ?Zcn) orderEl ?Zfr ?ZcN ?_; (case ZcN => (refine' News.pick ?Zpk ?Zpn; (case Zpn => k_asm); (case Zpk => walk_at "u pick"))); (case Zma => assumption); (case ZcG => assumption); (case Zmb => walk_at "u subt"); (case Zcl => ((try simp only [List.length_append, Mine.T.size] at *); walk_at "u om")); (case Zcn => k_all); (case Zfr => walk_at "u frame"); k_whole); (k_dflt (intro Zr9 Ztl9 Zgs9 Zn9 Zts9 Zne9 Zta9 Zgl9 Zh9 Ztk9 ZF9 ZN9); (try dsimp only [List.cons_append, List.nil_append] at ZN9); (try k_sweep); (try dsimp only)))))
  exact True.intro
--deps PH PT P0 PL P1 P2 P6 P7
theorem mem_skip {a b : Addr} {o o' : Obj} {X : Led} (h : (a, o) ∈ (b, o') :: X) (hc : o.cls ≠ o'.cls) : (a, o) ∈ X := by
  rcases List.mem_cons.mp h with e | h
  · exact absurd (congrArg (fun p : Addr × Obj => p.2.cls) e) hc
  · exact h
/-- map_expr with the change that renames -/
def T.ren : T → T
  | .n0 k => .n0 k.ren
  | .n1 k a => .n1 k.ren a.ren
  | .n2 k a b => .n2 k.ren a.ren b.ren
  | .n3 k a b c => .n3 k.ren a.ren b.ren c.ren
def MapRPost (t : T) (rest : Led) (r : Value) (news' : Led) : Prop := ∃ tl, news' = rest ++ tl ∧ Tups tl ∧ TIn news' r t
theorem MapRPost.of {t : T} {rest tl : Led} {r : Value} (h1 : Tups tl) (h2 : TIn (rest ++ tl) r t) : MapRPost t rest r (rest ++ tl) := ⟨tl, rfl, h1, h2⟩
def MapRAt (w : World) (t : T) : Prop := ∀ (v : Value) (rest : Led), TIn rest v t → Run w (.ref 42) [v, .ref 89] (t.ht + 5) (3 * t.ht + 220) rest (MapRPost t.ren rest)
theorem MapRAt.use {w : World} {t : T} (G : MapRAt w t) {v : Value} {rest : Led} (h1 : TIn rest v t) : Run w (.ref 42) [v, .ref 89] (t.ht + 5) (3 * t.ht + 220) rest (MapRPost t.ren rest) := G v rest h1
def ChildK (cvs : List Value) (news : Led) (S : Value → Led → Prop) : Prop := ∀ tl c n, Tups tl → (c, tupOf cvs n) ∈ news ++ tl → S (.ref c) (news ++ tl)
theorem childEl {cvs : List Value} {news : Led} (S : Value → Led → Prop) (h : ChildK cvs news S) (r : Value) (news' : Led) (P : ∃ tl c n, news' = news ++ tl ∧ Tups tl ∧ r = .ref c ∧ (c, tupOf cvs n) ∈ news') : S r news' := by
  obtain ⟨tl, c, n, rfl, h1, rfl, h2⟩ := P
  exact h tl c n h1 h2
theorem TIn.isRef {I : Led} {v : Value} {t : T} (h : TIn I v t) : ∃ a, v = .ref a := by
  cases h with
  | n0 hn => exact hn.isRef
  | n1 hn _ => exact hn.isRef
  | n2 hn _ _ => exact hn.isRef
  | n3 hn _ _ _ => exact hn.isRef
def MapRK (t : T) (rest : Led) (S : Value → Led → Prop) : Prop := ∀ a tl, Tups tl → TIn (rest ++ tl) (.ref a) t → S (.ref a) (rest ++ tl)
theorem mapREl {t : T} {rest : Led} (S : Value → Led → Prop) (h : MapRK t rest S) (r : Value) (news' : Led) (P : MapRPost t rest r news') : S r news' := by
  obtain ⟨tl, rfl, h1, h2⟩ := P
  obtain ⟨a, rfl⟩ := h2.isRef
  exact h a tl h1 h2
theorem kw56 : True := by
  (k_with "zcall ref" => row_timed "z" (fail "z"; (k_here; (with_reducible show wpAny _ _ (call (Value.ref 21) _) _ _ _); k_dflt (refine' Run.useK (children_run (NAt.mono ?Zma ?Zmb)) childEl ?Zfr ?ZcN ?_; (case ZcN => k_asm); (case Zma => assumption); (case Zmb => walk_at "u subt"); (case Zfr => walk_at "u frame"); k_whole); (k_dflt (intro Ztl9 Zc9 Zn9 Zts9 Zm9 Zh9 Ztk9 ZF9 ZN9); (try dsimp only [List.cons_append, List.nil_append] at ZN9); (try dsimp only [List.cons_append, List.nil_append] at Zm9); (repeat (replace Zm9 := mem_skip Zm9 (by show Value.type "tuple" ≠ Value.type "list"; decide))); (try k_sweep); (try dsimp only)))))
  exact True.intro
theorem kw57 : True := by
  (k_with "zcall ref" => row_timed "z" (fail "z"; (k_here; (with_reducible show wpAny _ _ (call (Value.ref 28) _) _ _ _); k_dflt (refine' Run.useK (with_children_run (NAt.mono ?Zma ?Zmb) ?Zmq ?Zml) nodeEl ?Zfr ?ZcN ?_; (case ZcN => k_asm); (case Zma => assumption); (case Zmb => walk_at "u subt"); (case Zmq => kcf_m); (case Zml => first | exact rfl | assumption); (case Zfr => walk_at "u frame"); k_whole); (k_dflt (intro Za9 Ztl9 Zts9 Zna9 Zh9 Ztk9 ZF9 ZN9); (try dsimp only [List.cons_append, List.nil_append] at ZN9); (try dsimp only [List.cons_append, List.nil_append] at Zna9); (try k_sweep); (try dsimp only)))))
  exact True.intro
theorem kw58 : True := by
  (k_with "zcall ref" => row_timed "z" (fail "z"; (k_here; (with_reducible show wpAny _ _ (call (Value.ref 89) _) _ _ _); k_dflt (refine' Run.useK (renamed_run (NAt.mono ?Zma ?Zmb)) nodeEl ?Zfr ?ZcN ?_; (case ZcN => k_asm); (case Zma => assumption); (case Zmb => walk_at "u subt"); (case Zfr => walk_at "u frame"); k_whole); (k_dflt (intro Za9 Ztl9 Zts9 Zna9 Zh9 Ztk9 ZF9 ZN9); (try dsimp only [List.cons_append, List.nil_append] at ZN9); (try k_sweep); (try dsimp only)))))
  exact True.intro
theorem kw59 : True := by
  (k_with "zcall ref" => row_timed "z" (fail "z"; (k_here; (with_reducible show wpAny _ _ (call (Value.ref 42) [_, Value.ref 89]) _ _ _); k_dflt (refine' Run.useK (MapRAt.use ?ZcG (TIn.mono ?Zma ?Zmb)) mapREl ?Zfr ?ZcN ?_; (case ZcN => k_asm); (case Zma => assumption); (case ZcG => assumption); (case Zmb => walk_at "u subt"); (case Zfr => walk_at "u frame"); k_whole); (k_dflt (intro Za9 Ztl9 Zts9 Zta9 Zh9 Ztk9 ZF9 ZN9); (try dsimp only [List.cons_append, List.nil_append] at ZN9); (try k_sweep); (try dsimp only)))))
  exact True.intro
theorem T.ren_kind (t : T) : t.ren.kind = t.kind.ren := by cases t <;> rfl
theorem T.ren_kids (t : T) : t.ren.kids = t.kids.map T.ren := by cases t <;> rfl
def MapRJ (t : T) (pl : Addr) (rest : Led) (v : Value) (lp : Addr × Obj) (r : List Value) (m : Str → Option Value) (n : Led) : Prop :=
  ∃ kr ps ks c tl, TAll rest r kr ∧ (∀ u ∈ kr, u ∈ t.kids) ∧ Tups tl ∧ TAll (rest ++ tl) ps ks ∧ ks ++ kr.map T.ren = t.kids.map T.ren ∧ ps.length + kr.length ≤ 3 ∧ lp ∈ rest ++ tl ∧ m (Str.ofString "parts") = some (.ref pl) ∧ m (Str.ofString "change") = some (.ref 89) ∧ m (Str.ofString "e") = some v ∧ ∀ q ∈ (pl, listOf ps.toArray c) :: (rest ++ tl), q ∈ n
theorem MapRJ.of {t : T} {pl : Addr} {rest : Led} {v : Value} {lp : Addr × Obj} {r : List Value} {m : Str → Option Value} {n : Led} {kr : List T} {ps : List Value} {ks : List T} {c : Nat} {tl : Led}
    (h1 : TAll rest r kr) (h2 : ∀ u ∈ kr, u ∈ t.kids) (h3 : Tups tl) (h4 : TAll (rest ++ tl) ps ks) (h5 : ks ++ kr.map T.ren = t.kids.map T.ren) (h6 : ps.length + kr.length ≤ 3) (h7 : lp ∈ rest ++ tl) (h8 : m (Str.ofString "parts") = some (.ref pl)) (h9 : m (Str.ofString "change") = some (.ref 89)) (h10 : m (Str.ofString "e") = some v)
    (h11 : ∀ q ∈ (pl, listOf ps.toArray c) :: (rest ++ tl), q ∈ n) : MapRJ t pl rest v lp r m n := ⟨kr, ps, ks, c, tl, h1, h2, h3, h4, h5, h6, h7, h8, h9, h10, h11⟩
theorem len_next {a b : Nat} (h : a + (b + 1) ≤ 3) : a + 1 + b ≤ 3 := by omega
set_option maxRecDepth 100000 in set_option maxHeartbeats 8000000 in
theorem mapr_step {w : World} {t : T} (ih : ∀ u ∈ t.kids, MapRAt w u) : MapRAt w t := by
  intro v rest ht
  obtain ⟨cvs, hn, hks, hl⟩ := ht.opened
  unfold Run; k_fill; intro p loose mean mg mb A A₀ env outer base h₀ L m s Q E B F X N T hA hf hke hnd hdp hun hret
  (refine wpAny_call ?_; k_dflt (refine' code_def ?k1 ?k2 ?k3 ?k4 ?k5 ?kA ?kF ?kK ?k6 ?k7 ?k8 ?k9 ?kB ?_ ?c2 ?c3 ?c4 ?c5; (case kA => assumption); (case kF => assumption); (case kK => assumption); (case k1 => k_asm); (case k2 => k_asm); (case k3 => k_asm); (case k4 => k_asm); (case k5 => k_asm); (case k6 => k_is); (case k7 => k_is); (case k8 => walk_at "u om"); (case k9 => exact BindsTo.of_eq rfl); (case c5 => decide); (case kB => exact locs rfl); (case c2 => exact rfl); (case c3 => exact rfl); (case c4 => exact rfl); k_whole; intro g' L' h' FG' F' N' B' X' T'; (try dsimp only); (try k_fold)))
  k_steps
  refine SeqRest.byJ2 (J := MapRJ t _ rest v) ?h0 ?hs cvs _ _ (MapRJ.of (ps := []) (c := 0) hks (fun _ h => h) (by assumption) .nil rfl (by rw [← hks.length]; simpa using hl) ?a3 rfl rfl rfl ?a2)
  case a2 => walk_at "u sub"
  case a3 => kcf_m
  case h0 =>
    rintro m₁ n₁ ⟨kr, ps, ks, c, tl, hr, hkr, htl, hps, hds, hsz1, hlp, hmp, hmc, hme, hsub⟩ h tk F9 N9
    have N8 := News.sub N9 hsub
    clear N9
    cases hr
    rw [List.map_nil, List.append_nil] at hds
    subst hds
    have hlen : ps.length = cvs.length := by rw [hps.length, List.length_map, hks.length]
    k_steps
    rename News _ _ _ _ => kN8; rename Fr _ _ _ _ => kF8
    have e8 := ledEnd0 (rest := rest) kN8 (by walk_at "u split")
    refine' hret _ _ _ _ kF8 e8.1 (MapRPost.of e8.2 (TIn.closed (cvs := ps) ?ti ?tj))
    case ti => rw [t.ren_kind]; exact NAt.mono (by assumption) (by walk_at "u subt")
    case tj => rw [t.ren_kids]; exact TAll.mono hps (by walk_at "u subt")
  case hs =>
    rintro v1 r m₁ n₁ ⟨kr, ps, ks, c, tl, hr, hkr, htl, hps, hds, hsz1, hlp, hmp, hmc, hme, hsub⟩ it h tk hit F9 N9
    have N8 := News.sub N9 (List.forall_mem_cons.mpr ⟨.head _, fun q hq => .tail _ (hsub q hq)⟩)
    clear N9
    cases hr with
    | @cons _ u _ kr1 hu hr1 =>
    have hG := ih u (hkr u (.head _))
    have hh := t.kids_ht u (hkr u (.head _))
    rw [List.length_cons] at hsz1
    k_steps
    exact MapRJ.of (ps := ps ++ [_]) (tl := tl ++ _) hr1 (fun u hu => hkr u (.tail _ hu)) (tups_app htl (by assumption)) (TAll.app (TAll.mono hps (by walk_at "u subt")) (.cons (TIn.mono (by assumption) (by walk_at "u subt")) .nil)) (by rw [List.append_assoc]; exact hds) (by rw [List.length_append]; exact len_next hsz1) (by rw [← List.append_assoc]; exact List.mem_append.mpr (.inl hlp)) (by assumption) (by assumption) (by assumption) (by walk_at "u sub")
theorem mapr_run {w : World} (t : T) : MapRAt w t := T.indK (fun _ h => mapr_step h) t

--deps PH PT P0 PL P5 P6 P7 P8
def Kind.data : Kind → List PyData → PyData
  | .const w x y, _ => .tuple [.str (Str.ofString "const"), .int w, .int x, .int y]
  | .sig w x, _ => .tuple [.str (Str.ofString "sig"), .int w, .int x]
  | .loc w, _ => .tuple [.str (Str.ofString "local"), .int w, .int 3]
  | .ev, _ => .tuple [.str (Str.ofString "event"), .int 1, .int 4]
  | .word w x b, ds => .tuple (.str (Str.ofString "word") :: .int w :: .int x :: (ds ++ [.bool b]))
  | .slice w k, ds => .tuple (.str (Str.ofString "slice") :: .int w :: (ds ++ [.int k]))
  | .ext w b, ds => .tuple (.str (Str.ofString "ext") :: .int w :: (ds ++ [.bool b]))
  | .un w, ds => .tuple (.str (Str.ofString "un") :: .int w :: .str (Str.ofString "~") :: ds)
  | .pick w k, ds => .tuple (.str (Str.ofString "pick") :: .int w :: (ds ++ [.bool true, .int k, .int (-1)]))
  | .bin w b, ds => .tuple (.str (Str.ofString "bin") :: .int w :: .str (Str.ofString "*") :: (ds ++ [.bool b]))
  | .pow w, ds => .tuple (.str (Str.ofString "pow") :: .int w :: (ds ++ [.bool false, .bool true]))
  | .cond w, ds => .tuple (.str (Str.ofString "cond") :: .int w :: ds)
  | .cat w, ds => .tuple [.str (Str.ofString "cat"), .int w, .tuple ds]
  | .call w, ds => .tuple [.str (Str.ofString "call"), .int w, .int 7, .tuple ds]
  | .sys w, ds => .tuple [.str (Str.ofString "sys"), .int w, .str (Str.ofString "$signed"), .tuple ds]
theorem canLayAll0_app (a b : List PyData) (ha : PyData.canLayAll0 a = true) (hb : PyData.canLayAll0 b = true) : PyData.canLayAll0 (a ++ b) = true := by
  induction a with
  | nil => exact hb
  | cons x r ih =>
    have h' : x.canLay0 = true ∧ PyData.canLayAll0 r = true := by simpa [PyData.canLayAll0] using ha
    simp only [List.cons_append, PyData.canLayAll0, h'.1, ih h'.2, Bool.and_self]
theorem depthAll_app (a b : List PyData) : PyData.depthAll (a ++ b) = max (PyData.depthAll a) (PyData.depthAll b) := by
  induction a with
  | nil => simp [PyData.depthAll]
  | cons x r ih => simp only [List.cons_append, PyData.depthAll, ih, Nat.max_assoc]
theorem dNil {n : Nat} : PyData.depthAll [] ≤ n := by rw [PyData.depthAll]; exact Nat.zero_le _
theorem dCons {x : PyData} {r : List PyData} {n : Nat} (h : x.depth ≤ n) (h' : PyData.depthAll r ≤ n) : PyData.depthAll (x :: r) ≤ n := by rw [PyData.depthAll]; exact Nat.max_le.mpr ⟨h, h'⟩
theorem dApp {a b : List PyData} {n : Nat} (h : PyData.depthAll a ≤ n) (h' : PyData.depthAll b ≤ n) : PyData.depthAll (a ++ b) ≤ n := by rw [depthAll_app]; exact Nat.max_le.mpr ⟨h, h'⟩
theorem dTup {a : List PyData} {n : Nat} (h : PyData.depthAll a ≤ n) : PyData.depth (.tuple a) ≤ n + 1 := by rw [PyData.depth]; exact Nat.succ_le_succ h
theorem dStr {x : Str} {n : Nat} : PyData.depth (.str x) ≤ n := by simp [PyData.depth]
theorem dInt {x : Int} {n : Nat} : PyData.depth (.int x) ≤ n := by simp [PyData.depth]
theorem dBool {x : Bool} {n : Nat} : PyData.depth (.bool x) ≤ n := by simp [PyData.depth]
theorem dUp {a : List PyData} {n : Nat} (h : PyData.depthAll a ≤ n) : PyData.depthAll a ≤ n + 1 := Nat.le_succ_of_le h
theorem layStr (x : Str) (h : PyData.strOk x = true) : PyData.canLay0 (.str x) = true := by simp [PyData.canLay0, h]
theorem layInt (x : Int) : PyData.canLay0 (.int x) = true := by simp [PyData.canLay0]
theorem layBool (x : Bool) : PyData.canLay0 (.bool x) = true := by simp [PyData.canLay0]
theorem layTup (xs : List PyData) (h : PyData.canLayAll0 xs = true) : PyData.canLay0 (.tuple xs) = true := by simp [PyData.canLay0, h]
theorem layCons {x : PyData} {xs : List PyData} (hx : x.canLay0 = true) (h : PyData.canLayAll0 xs = true) : PyData.canLayAll0 (x :: xs) = true := by simp [PyData.canLayAll0, hx, h]
theorem layNil : PyData.canLayAll0 [] = true := by simp [PyData.canLayAll0]
theorem Kind.data_lay (k : Kind) (ds : List PyData) (h : PyData.canLayAll0 ds = true) : (k.data ds).canLay0 = true := by
  cases k
  all_goals (show PyData.canLay0 (.tuple _) = true; refine layTup _ ?_)
  all_goals (repeat' (with_reducible first | exact h | exact layNil | exact layInt _ | exact layBool _ | exact layStr _ (by decide +kernel) | refine layTup _ ?_ | refine layCons ?_ ?_ | refine canLayAll0_app _ _ h ?_))
theorem Kind.data_depth (k : Kind) (ds : List PyData) : (k.data ds).depth ≤ PyData.depthAll ds + 2 := by
  have h0 := Nat.le_refl (PyData.depthAll ds)
  have h1 := Nat.le_succ (PyData.depthAll ds)
  cases k
  all_goals (show PyData.depth (.tuple _) ≤ _; refine dTup ?_)
  all_goals (repeat' (with_reducible first | exact h1 | exact h0 | exact dNil | exact dInt | exact dBool | exact dStr | refine dTup ?_ | refine dCons ?_ ?_ | refine dApp ?_ ?_))
def T.data : T → PyData
  | .n0 k => k.data []
  | .n1 k a => k.data [a.data]
  | .n2 k a b => k.data [a.data, b.data]
  | .n3 k a b c => k.data [a.data, b.data, c.data]
theorem T.data_lay (t : T) : t.data.canLay0 = true := by
  induction t with
  | n0 k => exact k.data_lay _ rfl
  | n1 k a ia => exact k.data_lay _ (by simp only [PyData.canLayAll0, ia, Bool.and_self])
  | n2 k a b ia ib => exact k.data_lay _ (by simp only [PyData.canLayAll0, ia, ib, Bool.and_self])
  | n3 k a b c ia ib ic => exact k.data_lay _ (by simp only [PyData.canLayAll0, ia, ib, ic, Bool.and_self])
theorem T.data_depth (t : T) : t.data.depth ≤ 2 * t.ht + 2 := by
  have up {a d : Nat} (h : d ≤ 2 * a + 2) {b : Nat} (hb : a ≤ b) : d ≤ 2 * (b + 1) := Nat.le_trans h (Nat.mul_le_mul_left 2 (Nat.succ_le_succ hb))
  induction t with
  | n0 k => exact k.data_depth []
  | n1 k a ia => exact Nat.le_trans (k.data_depth [a.data]) (Nat.add_le_add_right (dCons (up ia (Nat.le_refl _)) dNil) 2)
  | n2 k a b ia ib => exact Nat.le_trans (k.data_depth [a.data, b.data]) (Nat.add_le_add_right (dCons (up ia (Nat.le_max_left _ _)) (dCons (up ib (Nat.le_max_right _ _)) dNil)) 2)
  | n3 k a b c ia ib ic => exact Nat.le_trans (k.data_depth [a.data, b.data, c.data]) (Nat.add_le_add_right (dCons (up ia (Nat.le_trans (Nat.le_max_left _ _) (Nat.le_max_left _ _))) (dCons (up ib (Nat.le_trans (Nat.le_max_right _ _) (Nat.le_max_left _ _))) (dCons (up ic (Nat.le_max_right _ _)) dNil))) 2)
theorem readsAll_app {h : Heap} {vs us : List Value} {ds es : List PyData} {as bs : List Addr} (x : ReadsAll h vs ds as) (y : ReadsAll h us es bs) : ∃ cs, ReadsAll h (vs ++ us) (ds ++ es) cs := by
  induction vs generalizing ds as with
  | nil => cases x with | nil => exact ⟨_, y⟩
  | cons v r ih =>
    cases x with
    | cons h1 h2 =>
      obtain ⟨cs, hc⟩ := ih h2
      exact ⟨_, .cons h1 hc⟩
theorem NAt.reads {I : Led} {h : Heap} {v : Value} {k : Kind} {cs : List Value} {ds : List PyData} {as : List Addr} (n : NAt I v k cs) (H : ∀ q ∈ I, h.get? q.1 = some q.2) (r : ReadsAll h cs ds as) : ∃ bs, Reads h v (k.data ds) bs := by
  cases n
  case cat hm1 hm2 hl => exact ⟨_, Reads.tuple (H _ hm1) rfl rfl (.cons (.str _ _) (.cons (.int _ _) (.cons (.tuple (H _ hm2) rfl rfl r) .nil)))⟩
  case call hm1 hm2 hl => exact ⟨_, Reads.tuple (H _ hm1) rfl rfl (.cons (.str _ _) (.cons (.int _ _) (.cons (.int _ _) (.cons (.tuple (H _ hm2) rfl rfl r) .nil))))⟩
  case sys hm1 hm2 hl => exact ⟨_, Reads.tuple (H _ hm1) rfl rfl (.cons (.str _ _) (.cons (.int _ _) (.cons (.str _ _) (.cons (.tuple (H _ hm2) rfl rfl r) .nil))))⟩
  case const hm => exact ⟨_, Reads.tuple (H _ hm) rfl rfl (.cons (.str _ _) (.cons (.int _ _) (.cons (.int _ _) (.cons (.int _ _) .nil))))⟩
  case sig hm => exact ⟨_, Reads.tuple (H _ hm) rfl rfl (.cons (.str _ _) (.cons (.int _ _) (.cons (.int _ _) .nil)))⟩
  case loc hm => exact ⟨_, Reads.tuple (H _ hm) rfl rfl (.cons (.str _ _) (.cons (.int _ _) (.cons (.int _ _) .nil)))⟩
  case ev hm => exact ⟨_, Reads.tuple (H _ hm) rfl rfl (.cons (.str _ _) (.cons (.int _ _) (.cons (.int _ _) .nil)))⟩
  case word hm =>
    obtain ⟨cs, hc⟩ := readsAll_app r (ReadsAll.cons (Reads.bool _) ReadsAll.nil)
    exact ⟨_, Reads.tuple (H _ hm) rfl rfl (.cons (.str _ _) (.cons (.int _ _) (.cons (.int _ _) hc)))⟩
  case slice hm =>
    obtain ⟨cs, hc⟩ := readsAll_app r (ReadsAll.cons (Reads.int _ _) ReadsAll.nil)
    exact ⟨_, Reads.tuple (H _ hm) rfl rfl (.cons (.str _ _) (.cons (.int _ _) hc))⟩
  case ext hm =>
    obtain ⟨cs, hc⟩ := readsAll_app r (ReadsAll.cons (Reads.bool _) ReadsAll.nil)
    exact ⟨_, Reads.tuple (H _ hm) rfl rfl (.cons (.str _ _) (.cons (.int _ _) hc))⟩
  case un hm =>
    exact ⟨_, Reads.tuple (H _ hm) rfl rfl (.cons (.str _ _) (.cons (.int _ _) (.cons (.str _ _) r)))⟩
  case pick hm =>
    obtain ⟨cs, hc⟩ := readsAll_app r (ReadsAll.cons (Reads.bool _) (ReadsAll.cons (Reads.int _ _) (ReadsAll.cons (Reads.int _ _) ReadsAll.nil)))
    exact ⟨_, Reads.tuple (H _ hm) rfl rfl (.cons (.str _ _) (.cons (.int _ _) hc))⟩
  case bin hm =>
    obtain ⟨cs, hc⟩ := readsAll_app r (ReadsAll.cons (Reads.bool _) ReadsAll.nil)
    exact ⟨_, Reads.tuple (H _ hm) rfl rfl (.cons (.str _ _) (.cons (.int _ _) (.cons (.str _ _) hc)))⟩
  case pow hm =>
    obtain ⟨cs, hc⟩ := readsAll_app r (ReadsAll.cons (Reads.bool _) (ReadsAll.cons (Reads.bool _) ReadsAll.nil))
    exact ⟨_, Reads.tuple (H _ hm) rfl rfl (.cons (.str _ _) (.cons (.int _ _) hc))⟩
  case cond hm =>
    exact ⟨_, Reads.tuple (H _ hm) rfl rfl (.cons (.str _ _) (.cons (.int _ _) r))⟩
theorem TIn.reads {I : Led} {h : Heap} {v : Value} {t : T} (n : TIn I v t) (H : ∀ q ∈ I, h.get? q.1 = some q.2) : ∃ bs, Reads h v t.data bs := by
  induction n with
  | n0 hn => exact hn.reads H .nil
  | n1 hn _ ia =>
    obtain ⟨_, ra⟩ := ia
    exact hn.reads H (.cons ra .nil)
  | n2 hn _ _ ia ib =>
    obtain ⟨_, ra⟩ := ia
    obtain ⟨_, rb⟩ := ib
    exact hn.reads H (.cons ra (.cons rb .nil))
  | n3 hn _ _ _ ia ib ic =>
    obtain ⟨_, ra⟩ := ia
    obtain ⟨_, rb⟩ := ib
    obtain ⟨_, rc⟩ := ic
    exact hn.reads H (.cons ra (.cons rb (.cons rc .nil)))
theorem TAll.reads {I : Led} {h : Heap} {vs : List Value} {ts : List T} (n : TAll I vs ts) (H : ∀ q ∈ I, h.get? q.1 = some q.2) : ∃ bs, ReadsAll h vs (ts.map T.data) bs := by
  induction n with
  | nil => exact ⟨_, .nil⟩
  | cons a _ ih =>
    obtain ⟨_, ra⟩ := a.reads H
    obtain ⟨_, rb⟩ := ih
    exact ⟨_, .cons ra rb⟩
def Kind.cut : Kind → PyData
  | .sig w x => .tuple [.str (Str.ofString "sig"), .int w, .int x]
  | .word w x _ => .tuple [.str (Str.ofString "word"), .int w, .int x]
  | k => .tuple [.str k.tag, .int k.wid]
theorem Kind.tag_ok (k : Kind) : PyData.strOk k.tag = true := by cases k <;> (show PyData.strOk (Str.ofString _) = true; decide +kernel)
theorem Kind.cut_lay (k : Kind) : k.cut.canLay0 = true := by
  have h := k.tag_ok
  cases k
  all_goals (show PyData.canLay0 (.tuple _) = true; refine layTup _ ?_)
  all_goals (repeat' (with_reducible first | exact layNil | exact layInt _ | exact layStr _ h | exact layStr _ (by decide +kernel) | refine layCons ?_ ?_))
theorem Kind.cut_depth (k : Kind) : k.cut.depth ≤ 1 := by
  cases k <;> simp [Kind.cut, PyData.depth, PyData.depthAll]
theorem CutAt.reads {I : Led} {h : Heap} {v : Value} {k : Kind} (c : CutAt I v k) (H : ∀ q ∈ I, h.get? q.1 = some q.2) : ∃ bs, Reads h v k.cut bs := by
  cases c with
  | sig hm => exact ⟨_, Reads.tuple (H _ hm) rfl rfl (.cons (.str _ _) (.cons (.int _ _) (.cons (.int _ _) .nil)))⟩
  | word hm => exact ⟨_, Reads.tuple (H _ hm) rfl rfl (.cons (.str _ _) (.cons (.int _ _) (.cons (.int _ _) .nil)))⟩
  | other p hm =>
    have e : k.cut = .tuple [.str k.tag, .int k.wid] := by cases k <;> first | rfl | (simp [Kind.plain] at p; done)
    rw [e]
    exact ⟨_, Reads.tuple (H _ hm) rfl rfl (.cons (.str _ _) (.cons (.int _ _) .nil))⟩
theorem CAll.reads {I : Led} {h : Heap} {vs : List Value} {ks : List Kind} (n : CAll I vs ks) (H : ∀ q ∈ I, h.get? q.1 = some q.2) : ∃ bs, ReadsAll h vs (ks.map Kind.cut) bs := by
  induction n with
  | nil => exact ⟨_, .nil⟩
  | cons a _ ih =>
    obtain ⟨_, ra⟩ := a.reads H
    obtain ⟨_, rb⟩ := ih
    exact ⟨_, .cons ra rb⟩
theorem lay_map {α : Type} (f : α → PyData) (hf : ∀ x, (f x).canLay0 = true) : ∀ xs : List α, PyData.canLayAll0 (xs.map f) = true
  | [] => layNil
  | x :: r => layCons (hf x) (lay_map f hf r)
theorem depth_map {α : Type} (f : α → PyData) (n : Nat) : ∀ xs : List α, (∀ x ∈ xs, (f x).depth ≤ n) → PyData.depthAll (xs.map f) ≤ n
  | [], _ => Nat.zero_le _
  | x :: r, h => by
    have h1 := h x (.head _)
    have h2 := depth_map f n r fun y hy => h y (.tail _ hy)
    simp only [List.map_cons, PyData.depthAll]
    omega
theorem layList (xs : List PyData) (h : PyData.canLayAll0 xs = true) : PyData.canLay0 (.list xs) = true := by simp [PyData.canLay0, h]
theorem shapedT {t : T} (h : t.ht ≤ 20) : SeqAt.shaped t.data = true := by
  have h1 := t.data_depth
  show (t.data.canLay0 && decide (t.data.depth ≤ 64)) = true
  rw [t.data_lay, Bool.true_and]
  exact decide_eq_true (by omega)
theorem shapedTs {ts : List T} (h : ∀ t ∈ ts, t.ht ≤ 20) : SeqAt.shaped (.list (ts.map T.data)) = true := by
  have h1 := depth_map T.data 42 ts fun t ht => by have := t.data_depth; have := h t ht; omega
  show (PyData.canLay0 (.list _) && decide (PyData.depth (.list _) ≤ 64)) = true
  rw [layList _ (lay_map T.data T.data_lay ts), Bool.true_and]
  exact decide_eq_true (by simp only [PyData.depth]; omega)
theorem shapedKs (ks : List Kind) : SeqAt.shaped (.list (ks.map Kind.cut)) = true := by
  have h1 := depth_map Kind.cut 1 ks fun t _ => t.cut_depth
  show (PyData.canLay0 (.list _) && decide (PyData.depth (.list _) ≤ 64)) = true
  rw [layList _ (lay_map Kind.cut Kind.cut_lay ks), Bool.true_and]
  exact decide_eq_true (by simp only [PyData.depth]; omega)
section
variable {prog : Program} {w : World} {A : Around} {E : Value → Shared → Prop} {s : Shared} {h₀ : Heap} {L : Addr} {news : Led} {Q : Value → Shared → Prop}
theorem ne_same {a b : Value} {d : PyData} {as bs : List Addr} (ra : Reads s.heap a d as) (rb : Reads s.heap b d bs) (hd : SeqAt.shaped d = true) (hu : A.units + 64 < cLine) (h : Q (.bool false) s) : wpAny (model prog w) A (compareOp .NotEq a b) Q E s := by
  have hl : d.canLay0 = true := (Bool.and_eq_true_iff.mp hd).1
  refine ne_dataH ra rb hd hd hu ?_
  rw [PySem.SeqAt.eqv_refl d hl]
  exact h
theorem ne_T {a b : Value} {t : T} (N : News h₀ L s.heap news) (ha : TIn news a t) (hb : TIn news b t) (ht : t.ht ≤ 20) (hu : A.units + 64 < cLine) (h : Q (.bool false) s) : wpAny (model prog w) A (compareOp .NotEq a b) Q E s := by
  obtain ⟨_, ra⟩ := ha.reads fun q hq => (N q hq).1
  obtain ⟨_, rb⟩ := hb.reads fun q hq => (N q hq).1
  exact ne_same ra rb (shapedT ht) hu h
theorem reads_listT {h : Heap} {a : Addr} {vs : List Value} {n : Nat} {ds : List PyData} {as : List Addr} (ho : h.get? a = some (listOf vs.toArray n)) (r : ReadsAll h vs ds as) : Reads h (.ref a) (.list ds) (a :: as) := Reads.list ho rfl rfl r
theorem ne_TAll {a b : Addr} {vs us : List Value} {n k : Nat} {ts : List T} (N : News h₀ L s.heap news) (hma : (a, listOf vs.toArray n) ∈ news) (hmb : (b, listOf us.toArray k) ∈ news) (ha : TAll news vs ts) (hb : TAll news us ts) (ht : ∀ t ∈ ts, t.ht ≤ 20) (hu : A.units + 64 < cLine) (h : Q (.bool false) s) :
    wpAny (model prog w) A (compareOp .NotEq (.ref a) (.ref b)) Q E s := by
  obtain ⟨_, ra⟩ := ha.reads fun q hq => (N q hq).1
  obtain ⟨_, rb⟩ := hb.reads fun q hq => (N q hq).1
  exact ne_same (reads_listT (N _ hma).1 ra) (reads_listT (N _ hmb).1 rb) (shapedTs ht) hu h
theorem ne_CAll {a b : Addr} {vs us : List Value} {n k : Nat} {ks : List Kind} (N : News h₀ L s.heap news) (hma : (a, listOf vs.toArray n) ∈ news) (hmb : (b, listOf us.toArray k) ∈ news) (ha : CAll news vs ks) (hb : CAll news us ks) (hu : A.units + 64 < cLine) (h : Q (.bool false) s) :
    wpAny (model prog w) A (compareOp .NotEq (.ref a) (.ref b)) Q E s := by
  obtain ⟨_, ra⟩ := ha.reads fun q hq => (N q hq).1
  obtain ⟨_, rb⟩ := hb.reads fun q hq => (N q hq).1
  exact ne_same (reads_listT (N _ hma).1 ra) (reads_listT (N _ hmb).1 rb) (shapedKs _) hu h
end
theorem postAll_ht {n : Nat} : ∀ ts : List T, (∀ u ∈ ts, u.ht + 1 ≤ n ∧ ∀ x ∈ u.post, x.ht ≤ u.ht) → ∀ x ∈ postAll ts, x.ht ≤ n
  | [], _ => fun _ h => nomatch h
  | t :: r, h => fun x hx => (List.mem_append.mp hx).elim (fun hx => Nat.le_trans ((h t (.head _)).2 x hx) (Nat.le_of_succ_le (h t (.head _)).1)) fun hx => postAll_ht r (fun u hu => h u (.tail _ hu)) x hx
theorem T.post_ht (t : T) : ∀ u ∈ t.post, u.ht ≤ t.ht := T.indK (P := fun t => ∀ u ∈ t.post, u.ht ≤ t.ht) (fun t h => by
  rw [t.post_eq]
  exact fun u hu => (List.mem_append.mp hu).elim (fun hu => postAll_ht _ (fun x hx => ⟨t.kids_ht x hx, h x hx⟩) u hu) fun hu => by rw [List.mem_singleton.mp hu]; exact Nat.le_refl _) t

section Sec5
--deps PH PT P0 PL P1 P2 P6 P7 P9
/-- the function object that the law's own def makes -/
abbrev notedFn (qual : Str) (ca : Addr) (doc pm : Value) (c' : Addr) (ct : Value) : Obj :=
  fnMade (Str.ofString "_law_noted") qual
    { posonlyargs := [], args := [{ arg := Str.ofString "node", annotation := none, pos := { line := 133, col := 19, endLine := 133, endCol := 23 } }], vararg := none, kwonlyargs := [], kw_defaults := [], kwarg := none, defaults := [] }
    [Stmt.Expr (((Expr.Name (Str.ofString "met") { line := 134, col := 8, endLine := 134, endCol := 11 }).Attribute (Str.ofString "append") { line := 134, col := 8, endLine := 134, endCol := 18 }).Call [Expr.Name (Str.ofString "node") { line := 134, col := 19, endLine := 134, endCol := 23 }] [] { line := 134, col := 8, endLine := 134, endCol := 24 }) { line := 134, col := 8, endLine := 134, endCol := 24 },
     Stmt.Return (some (Expr.Name (Str.ofString "node") { line := 135, col := 15, endLine := 135, endCol := 19 })) { line := 135, col := 8, endLine := 135, endCol := 19 }]
    { kind := ScopeKind.function, names := [(Str.ofString "node", NameKind.local), (Str.ofString "met", NameKind.free)], isGenerator := false, isCoroutine := false }
    [(Str.ofString "met", ca)] doc pm c' ct
def NotedIn (I : Led) (fa ma : Addr) : Prop := ∃ qual ca doc pm c' ct co oc vs t, (fa, notedFn qual ca doc pm c' ct) ∈ I ∧ (c', oc) ∈ I ∧ oc.data = .fields vs ∧ vs[1]? = some (.str qual t) ∧ (ca, co) ∈ I ∧ co.data = .cell (some (.ref ma))
theorem NotedIn.mono {I J : Led} {fa ma : Addr} (h : NotedIn I fa ma) (hs : ∀ q ∈ I, q ∈ J) : NotedIn J fa ma := by
  obtain ⟨qual, ca, doc, pm, c', ct, co, oc, vs, t, h1, h2, h3, h4, h5, h6⟩ := h
  exact ⟨qual, ca, doc, pm, c', ct, co, oc, vs, t, hs _ h1, hs _ h2, h3, h4, hs _ h5, h6⟩
theorem NotedIn.fnAt {h₀ h : Heap} {L fa ma : Addr} {I news : Led} (N : News h₀ L h news) (hN : NotedIn I fa ma) (hs : ∀ q ∈ I, q ∈ news) : FnAt fa h := by
  obtain ⟨qual, ca, doc, pm, c', ct, co, oc, vs, t, h1, _⟩ := hN
  exact ⟨_, _, _, _, (N _ (hs _ h1)).1⟩
theorem kw60 : True := by
  (k_with "zFnAt" => (k_dflt (exact NotedIn.fnAt (by k_asm) (by assumption) (by walk_at "u sub"))))
  exact True.intro
theorem kw61 : True := by
  (k_with "zcallWith ref" => row_timed "z" (fail "z"; (k_here; k_dflt (refine' callWith_F ?Zk1 ?_; (case Zk1 => exact NotedIn.fnAt (by k_asm) (by assumption) (by walk_at "u sub")); k_whole))))
  exact True.intro
theorem kw62 : True := by
  (k_with "zeval Name" => row_timed "z" (fail "z"; (k_here; (with_reducible show wpAny _ _ (eval (Expr.Name (Str.ofString "met") _) _) _ _ _); k_dflt (refine' nameX_F ?ZN ?Zc ?Zm ?Zd ?_ ?Za ?Zb; (case Za => rfl); (case Zb => rfl); (case ZN => k_asm); (case Zc => rfl); (case Zm => kcf_m); (case Zd => assumption); k_whole))))
  exact True.intro
def NotedPost (ma : Addr) (ms : List Value) (rest : Led) (v : Value) (r : Value) (news' : Led) : Prop := r = v ∧ ∃ n', news' = (ma, listOf (ms ++ [v]).toArray n') :: rest
set_option maxRecDepth 100000 in set_option maxHeartbeats 8000000 in
theorem noted_run {w : World} {fa ma : Addr} {ms : List Value} {n : Nat} {rest : Led} {v : Value} (hN : NotedIn rest fa ma) (hne : ∀ q ∈ rest, q.1 ≠ ma) (hz : ms.length ≤ 5000) :
    Run w (.ref fa) [v] 1 200 ((ma, listOf ms.toArray n) :: rest) (NotedPost ma ms rest v) := by
  unfold Run; k_fill; intro p loose mean mg mb A A₀ env outer base h₀ L m s Q E B F X N T hA hf hke hnd hdp hun hret
  obtain ⟨qual, ca, doc, pm, c', ct, co, oc, vs, t, h1, h2, h3, h4, h5, h6⟩ := hN
  (refine wpAny_call ?_; k_dflt (refine' code_nest ?k1 ?k2 ?k3 ?k4 ?k5 ?kA ?kF ?kK ?k6 ?k7 ?k8 ?k9 ?kB ?_ ?c2 ?c3 ?c4 ?c5; (case kA => assumption); (case kF => assumption); (case kK => assumption); (case k1 => k_asm); (case k2 => k_asm); (case k3 => k_asm); (case k4 => k_asm); (case k5 => k_asm); (case k6 => exact List.mem_cons_of_mem _ h1); (case k7 => exact codeRec_news (by k_asm) (List.mem_cons_of_mem _ h2) h3 h4); (case k8 => omega); (case k9 => exact BindsTo.of_eq rfl); (case c5 => decide); (case kB => exact locs rfl); (case c2 => exact rfl); (case c3 => exact rfl); (case c4 => exact rfl); k_whole; intro g' L' h' FG' F' N' B' X' T'; (try dsimp only); (try k_fold)))
  k_steps
  (rename News _ _ _ _ => kN8; rename Fr _ _ _ _ => kF8; refine' hret _ _ _ _ kF8 kN8 ⟨rfl, _, rfl⟩)
def NotedK (ma : Addr) (ms : List Value) (rest : Led) (v : Value) (S : Value → Led → Prop) : Prop := ∀ n', S v ((ma, listOf (ms ++ [v]).toArray n') :: rest)
theorem notedEl {ma : Addr} {ms : List Value} {rest : Led} {v : Value} (S : Value → Led → Prop) (h : NotedK ma ms rest v S) (r : Value) (news' : Led) (P : NotedPost ma ms rest v r news') : S r news' := by
  obtain ⟨rfl, n', rfl⟩ := P
  exact h n'
theorem kw63 : True := by
  (k_with "zcall ref" => row_timed "z" (fail "z"; (k_here; (with_reducible show wpAny _ _ (call (Value.ref _) [_]) _ _ _); k_dflt (refine' Run.useK (noted_run (NotedIn.mono ?ZhN ?Zhs) ?Zhn ?Zhz) notedEl ?Zfr ?ZcN ?_; (case ZhN => assumption); (case ZcN => (refine' News.pick ?Zpk ?Zpn; (case Zpn => k_asm); (case Zpk => walk_at "u pick"))); (case Zhs => walk_at "u sub"); (case Zhn => k_all); (case Zhz => ((try simp only [List.length_append, Mine.T.size] at *); walk_at "u om")); (case Zfr => walk_at "u frame"); k_whole); (k_dflt (intro Zn9 Zh9 Ztk9 ZF9 ZN9); (try k_sweep); (try dsimp only)))))
  exact True.intro
def MapNPost (t : T) (ma : Addr) (ms : List Value) (rest : Led) (r : Value) (news' : Led) : Prop :=
  ∃ tl gs n', news' = (ma, listOf (ms ++ gs).toArray n') :: (rest ++ tl) ∧ Tups tl ∧ (∀ q ∈ tl, q.1 ≠ ma) ∧ TAll (rest ++ tl) gs t.post ∧ TIn (rest ++ tl) r t
theorem MapNPost.of {t : T} {ma : Addr} {ms gs hs : List Value} {rest tl : Led} {n : Nat} {r : Value} (e : hs = ms ++ gs) (h1 : Tups tl) (h2 : ∀ q ∈ tl, q.1 ≠ ma) (h4 : TIn (rest ++ tl) r t) (h3 : TIn (rest ++ tl) r t → TAll (rest ++ tl) gs t.post) : MapNPost t ma ms rest r ((ma, listOf hs.toArray n) :: (rest ++ tl)) :=
  ⟨tl, gs, n, by rw [e], h1, h2, h3 h4, h4⟩
def MapNAt (w : World) (fa ma : Addr) (t : T) : Prop := ∀ (v : Value) (ms : List Value) (n : Nat) (rest : Led), TIn rest v t → NotedIn rest fa ma → ms.length + t.size ≤ 5000 → (∀ q ∈ rest, q.1 ≠ ma) →
  Run w (.ref 42) [v, .ref fa] (t.ht + 5) (3 * t.ht + 220) ((ma, listOf ms.toArray n) :: rest) (MapNPost t ma ms rest)
theorem MapNAt.use {w : World} {fa ma : Addr} {t : T} (G : MapNAt w fa ma t) {v : Value} {ms : List Value} {n : Nat} {rest : Led} (h1 : TIn rest v t) (h2 : NotedIn rest fa ma) (h3 : ms.length + t.size ≤ 5000) (h4 : ∀ q ∈ rest, q.1 ≠ ma) :
  Run w (.ref 42) [v, .ref fa] (t.ht + 5) (3 * t.ht + 220) ((ma, listOf ms.toArray n) :: rest) (MapNPost t ma ms rest) := G v ms n rest h1 h2 h3 h4
def MapNK (t : T) (ma : Addr) (ms : List Value) (rest : Led) (S : Value → Led → Prop) : Prop := ∀ a tl gs n', Tups tl → (∀ q ∈ tl, q.1 ≠ ma) → TAll (rest ++ tl) gs t.post → TIn (rest ++ tl) (.ref a) t → gs.length = t.size → S (.ref a) ((ma, listOf (ms ++ gs).toArray n') :: (rest ++ tl))
theorem mapNEl {t : T} {ma : Addr} {ms : List Value} {rest : Led} (S : Value → Led → Prop) (h : MapNK t ma ms rest S) (r : Value) (news' : Led) (P : MapNPost t ma ms rest r news') : S r news' := by
  obtain ⟨tl, gs, n', rfl, h1, h2, h3, h4⟩ := P
  obtain ⟨a, rfl⟩ := h4.isRef
  exact h a tl gs n' h1 h2 h3 h4 (h3.length.trans t.post_length)
theorem kw64 : True := by
  (k_with "zcall ref" => row_timed "z" (fail "z"; (k_here; (with_reducible show wpAny _ _ (call (Value.ref 42) [_, Value.ref _]) _ _ _); k_dflt (refine' Run.useK (MapNAt.use ?ZcG (TIn.mono ?Zma ?Zmb) (NotedIn.mono ?ZhN ?Zhs) ?Zcl ?Zcn) mapNEl ?Zfr ?ZcN ?_; (case Zma => assumption); (case ZcG => assumption); (case ZhN => assumption); (case ZcN => (refine' News.pick ?Zpk ?Zpn; (case Zpn => k_asm); (case Zpk => walk_at "u pick"))); (case Zmb => walk_at "u subt"); (case Zhs => walk_at "u sub"); (case Zcl => ((try simp only [List.length_append, Mine.T.size] at *); walk_at "u om")); (case Zcn => k_all); (case Zfr => walk_at "u frame"); k_whole); (k_dflt (intro Za9 Ztl9 Zgs9 Zn9 Zts9 Zne9 Zta9 Zti9 Zgl9 Zh9 Ztk9 ZF9 ZN9); (try dsimp only [List.cons_append, List.nil_append] at ZN9); (try k_sweep); (try dsimp only)))))
  exact True.intro
def MapNJ (t : T) (pl ma fa : Addr) (ms : List Value) (rest : Led) (v : Value) (lp : Addr × Obj) (r : List Value) (m : Str → Option Value) (n : Led) : Prop :=
  ∃ kr gs ds hs ps ks c c2 tl, hs = ms ++ gs ∧ TAll rest r kr ∧ (∀ u ∈ kr, u ∈ t.kids) ∧ Tups tl ∧ (∀ q ∈ tl, q.1 ≠ ma) ∧ TAll (rest ++ tl) gs ds ∧ ds ++ postAll kr = postAll t.kids ∧ hs.length + sizeAll kr + 1 ≤ 5000 ∧ TAll (rest ++ tl) ps ks ∧ ks ++ kr = t.kids ∧ ps.length + kr.length ≤ 3 ∧ lp ∈ rest ++ tl ∧ m (Str.ofString "parts") = some (.ref pl) ∧ m (Str.ofString "change") = some (.ref fa) ∧ m (Str.ofString "e") = some v ∧ ∀ q ∈ (pl, listOf ps.toArray c) :: (ma, listOf hs.toArray c2) :: (rest ++ tl), q ∈ n
theorem MapNJ.of {t : T} {pl ma fa : Addr} {ms : List Value} {rest : Led} {v : Value} {lp : Addr × Obj} {r : List Value} {m : Str → Option Value} {n : Led} {kr : List T} {gs hs ps : List Value} {ds ks : List T} {c c2 : Nat} {tl : Led}
    (h0 : hs = ms ++ gs) (h1 : TAll rest r kr) (h2 : ∀ u ∈ kr, u ∈ t.kids) (h3 : Tups tl) (h3' : ∀ q ∈ tl, q.1 ≠ ma) (h4 : TAll (rest ++ tl) gs ds) (h4' : ds ++ postAll kr = postAll t.kids) (h4'' : hs.length + sizeAll kr + 1 ≤ 5000) (h5 : TAll (rest ++ tl) ps ks) (h5' : ks ++ kr = t.kids) (h6 : ps.length + kr.length ≤ 3) (h7 : lp ∈ rest ++ tl)
    (h8 : m (Str.ofString "parts") = some (.ref pl)) (h9 : m (Str.ofString "change") = some (.ref fa)) (h10 : m (Str.ofString "e") = some v)
    (h11 : ∀ q ∈ (pl, listOf ps.toArray c) :: (ma, listOf hs.toArray c2) :: (rest ++ tl), q ∈ n) : MapNJ t pl ma fa ms rest v lp r m n := ⟨kr, gs, ds, hs, ps, ks, c, c2, tl, h0, h1, h2, h3, h3', h4, h4', h4'', h5, h5', h6, h7, h8, h9, h10, h11⟩
set_option maxRecDepth 100000 in set_option maxHeartbeats 8000000 in
theorem mapn_step {w : World} {fa ma : Addr} {t : T} (ih : ∀ u ∈ t.kids, MapNAt w fa ma u) : MapNAt w fa ma t := by
  intro v ms n rest ht hN hsz hne
  obtain ⟨cvs, hn, hks, hl⟩ := ht.opened
  rw [t.size_eq] at hsz
  unfold Run; k_fill; intro p loose mean mg mb A A₀ env outer base h₀ L m s Q E B F X N T hA hf hke hnd hdp hun hret
  (refine wpAny_call ?_; k_dflt (refine' code_def ?k1 ?k2 ?k3 ?k4 ?k5 ?kA ?kF ?kK ?k6 ?k7 ?k8 ?k9 ?kB ?_ ?c2 ?c3 ?c4 ?c5; (case kA => assumption); (case kF => assumption); (case kK => assumption); (case k1 => k_asm); (case k2 => k_asm); (case k3 => k_asm); (case k4 => k_asm); (case k5 => k_asm); (case k6 => k_is); (case k7 => k_is); (case k8 => walk_at "u om"); (case k9 => exact BindsTo.of_eq rfl); (case c5 => decide); (case kB => exact locs rfl); (case c2 => exact rfl); (case c3 => exact rfl); (case c4 => exact rfl); k_whole; intro g' L' h' FG' F' N' B' X' T'; (try dsimp only); (try k_fold)))
  k_steps
  refine SeqRest.byJ2 (J := MapNJ t _ ma fa ms rest v) ?h0 ?hs cvs _ _ (MapNJ.of (gs := []) (ps := []) (c := 0) (c2 := n) (List.append_nil _).symm hks (fun _ h => h) (by assumption) ?a4 .nil rfl (by omega) .nil rfl (by rw [← hks.length]; simpa using hl) ?a3 rfl rfl rfl ?a2)
  case a2 => walk_at "u sub"
  case a3 => kcf_m
  case a4 => k_all
  case h0 =>
    rintro m₁ n₁ ⟨kr, gs, ds, hs, ps, ks, c, c2, tl, ehs, hr, hkr, htl, hnf, hgs, hds, hsz1, hps, hkk, hsz2, hlp, hmp, hmc, hme, hsub⟩ h tk F9 N9
    have N8 := News.sub N9 hsub
    clear N9
    cases hr
    rw [List.append_nil] at hkk
    subst hkk ehs
    have hlen : ps.length = cvs.length := by rw [hps.length, hks.length]
    have hsz3 : (ms ++ gs).length ≤ 5000 := by omega
    k_steps
    rename News _ _ _ _ => kN8; rename Fr _ _ _ _ => kF8; have e8 := ledEnd (q := (ma, _)) (rest := rest) kN8 (by walk_at "u pick") (by walk_at "u split") (by show Value.type "list" ≠ Value.type "tuple"; decide); refine' hret _ _ _ _ kF8 e8.1 (MapNPost.of ?e e8.2.1 e8.2.2 ?ti ?ta);
    case ti => exact TIn.closed (NAt.mono (by assumption) (by walk_at "u subt")) (TAll.mono hps (by walk_at "u subt"))
    case ta => intro ti9; rw [t.post_eq, ← hds, postAll, List.append_nil]; exact TAll.app (TAll.mono hgs (by walk_at "u subt")) (TAll.cons ti9 .nil)
    case e => simp only [List.append_assoc]
  case hs =>
    rintro v1 r m₁ n₁ ⟨kr, gs, ds, hs, ps, ks, c, c2, tl, ehs, hr, hkr, htl, hnf, hgs, hds, hsz1, hps, hkk, hsz2, hlp, hmp, hmc, hme, hsub⟩ it h tk hit F9 N9
    have N8 := News.sub N9 (List.forall_mem_cons.mpr ⟨.head _, fun q hq => .tail _ (hsub q hq)⟩)
    clear N9
    cases hr with
    | @cons _ u _ kr1 hu hr1 =>
    have hG := ih u (hkr u (.head _))
    have hh := t.kids_ht u (hkr u (.head _))
    rw [List.length_cons] at hsz2
    simp only [sizeAll] at hsz1
    k_steps
    exact MapNJ.of (hs := hs ++ _) (gs := gs ++ _) (ps := ps ++ [_]) (tl := tl ++ _) (by rw [ehs, List.append_assoc]) hr1 (fun u hu => hkr u (.tail _ hu)) (tups_app htl (by assumption)) (by k_all) (TAll.app (TAll.mono hgs (by walk_at "u subt")) (TAll.mono (by assumption) (by walk_at "u subt"))) (by rw [List.append_assoc]; exact hds) (by rw [List.length_append]; exact size_next hsz1 (by assumption)) (TAll.app (TAll.mono hps (by walk_at "u subt")) (.cons (TIn.mono (by assumption) (by walk_at "u subt")) .nil)) (by rw [List.append_assoc]; exact hkk) (by rw [List.length_append]; exact len_next hsz2) (by rw [← List.append_assoc]; exact List.mem_append.mpr (.inl hlp)) (by assumption) (by assumption) (by assumption) (by walk_at "u sub")
theorem mapn_run {w : World} {fa ma : Addr} (t : T) : MapNAt w fa ma t := T.indK (fun _ h => mapn_step h) t

end Sec5
theorem kw65 : True := by
  k_with_none
  (k_with "zu pr" => first | exact pr0 (by assumption) | exact pr1 (by assumption) | exact pe1 (by assumption) | exact pr2 (by assumption) | exact pe2 (by assumption) | exact pr3 (by assumption) | exact pe3 (by assumption) | exact pr4 (by assumption) | exact pe4 (by assumption) | exact pr5 (by assumption) | exact pe5 (by assumption) | exact pr6 (by assumption) | exact pe6 (by assumption) | exact pr7 (by assumption) | exact pe7 (by assumption) | exact pr8 (by assumption) | exact pe8 (by assumption) | exact pr9 (by assumption) | exact pe9 (by assumption) | exact pr10 (by assumption) | exact pe10 (by assumption) | exact pr11 (by assumption) | exact pe11 (by assumption) | exact pr12 (by assumption) | exact pe12 (by assumption) | exact pr13 (by assumption) | exact pe13 (by assumption) | exact pr14 (by assumption) | exact pe14 (by assumption) | exact pr15 (by assumption) | exact pe15 (by assumption) | exact pr16 (by assumption) | exact pe16 (by assumption) | exact pr17 (by assumption) | exact pe17 (by assumption) | exact pr18 (by assumption) | exact pe18 (by assumption) | exact pr19 (by assumption) | exact pe19 (by assumption) | exact pr20 (by assumption) | exact pe20 (by assumption) | exact pr21 (by assumption) | exact pe21 (by assumption) | exact pr22 (by assumption) | exact pe22 (by assumption) | exact pr23 (by assumption) | exact pe23 (by assumption))
  (k_with "zu ne" => (refine neN ?_; (try dsimp only); first | (with_reducible first | assumption | exact Ne.symm (by assumption) | exact Nat.ne_of_lt (by assumption) | exact Nat.ne_of_gt (by assumption) | ((fail_if_success (fail_if_success (refine nA (by assumption) ?_))); walk_at "u pr") | ((fail_if_success (fail_if_success (refine nB (by assumption) ?_))); refine Ne.symm ?_; walk_at "u pr") | ((fail_if_success (fail_if_success (refine lA (by assumption) ?_))); refine Nat.ne_of_lt ?_; walk_at "u pr") | ((fail_if_success (fail_if_success (refine lB (by assumption) ?_))); refine Nat.ne_of_gt ?_; walk_at "u pr")) | omega))
  (k_with "zu len" => ((repeat (first | assumption | exact Nat.le_refl _ | refine Nat.le_trans (by assumption) ?_)); done))
  (k_with "zu om" => first | (with_reducible assumption) | (with_reducible walk_at "u len") | (with_reducible ((repeat (rename (_ ≠ _ ∧ _) => kx; clear kx)); (repeat (rename (_ < _ ∧ _) => kx; clear kx))); omega))
  (k_with "zcall type:tuple" => row_timed "z" (fail "z"; (k_here; (with_reducible show wpAny _ _ (call (Value.type _) [Value.ref _]) _ _ _); k_dflt (refine' kde_tupleOf ?Zk1 ?Zk2 ?Zk3 ?Zk4 ?Zk5 ?_; (case Zk1 => k_asm); (case Zk2 => k_asm); (case Zk3 => exact News.isList (by k_asm) (by kcf_m)); (case Zk4 => (simp only [List.size_toArray]; first | assumption | walk_at "u om")); (case Zk5 => exact rfl); k_whole); intro ZD' Zh' ZF' ZN' Zl1; (try k_sweep))))
  (k_with "zcall builtin:list.pop" => row_timed "z" (fail "z"; (k_here; (with_reducible show wpAny _ _ (call (Value.builtin _) [Value.ref _, Value.int 0 _]) _ _ _); k_dflt (refine' pop0 ?ZF ?ZN ?ZU ?Zz ?_; (case ZF => k_asm); (case ZN => k_asm); (case ZU => k_upd); (case Zz => (simp only [List.length_cons] at *; walk_at "u om")); k_whole); intro Zh' ZF' ZN'; (try k_sweep))))
  (k_with "zsubscriptTail Name Name ref int" => row_timed "z" (fail "z"; (k_here; (with_reducible show wpAny _ _ (subscriptTail _ _ (Value.ref _) (Value.int _ _)) _ _ _); (fail_if_success (with_reducible show wpAny _ _ (subscriptTail _ _ (Value.ref _) (Value.int (OfNat.ofNat _) _)) _ _ _)); (with_unfolding_all refine' pickK ?Zk3 ?Zk4 ?Zk5 ?Zk6 ?_ ?Zk7; (case Zk3 => exact News.isList (by k_asm) (by kcf_m)); (case Zk4 => walk_at "u om"); (case Zk5 => (simp only [List.length_cons, List.length_nil]; walk_at "u om")); (case Zk6 => walk_at "u om"); (case Zk7 => with_unfolding_all rfl); k_whole); (dsimp only [PickAt]); k_places; (all_goals (try k_fold)))))
  (k_with "zsubscriptTail Name Call ref int" => walk_at "subscriptTail Name Name ref int")
  (k_with "zsubscriptTail List" => (k_here; k_dflt (refine kba_turn (value' := PySem.Expr.Name (PySem.Str.ofString "_") ⟨0, 0, 0, 0⟩) (fun _ => rfl) ?_)))
  (k_with "zsubscriptTail Tuple" => walk_at "subscriptTail List")
  (k_with "zsubscriptTail Name Slice ref ref" => row_timed "z" (fail "z"; (k_here; (with_reducible show wpAny _ _ (subscriptTail _ (PySem.Expr.Slice none (some _) none _) (Value.ref _) (Value.ref _)) _ _ _); k_dflt (first
  | (refine' slice_tuple_upto (b := 1) ?ZF ?ZN ?Zl ?Zi ?Zb ?Zz ?_ ?Zs ?Zt; (case ZF => k_asm); (case ZN => k_asm); (case Zl => exact News.isTup (by k_asm) (by kcf_m)); (case Zi => exact rfl); (case Zb => first | exact Nat.le_of_ble_eq_true rfl | ((simp only [List.length_cons]); walk_at "u om")); (case Zz => first | exact Nat.le_of_ble_eq_true rfl | ((simp only [List.length_cons]); walk_at "u om")); (case Zs => with_unfolding_all rfl); (case Zt => (intro _; with_unfolding_all rfl)); intro ZD' Zh' ZF' ZN' Zl1)
  | (refine' slice_tuple_upto (b := 2) ?ZF ?ZN ?Zl ?Zi ?Zb ?Zz ?_ ?Zs ?Zt; (case ZF => k_asm); (case ZN => k_asm); (case Zl => exact News.isTup (by k_asm) (by kcf_m)); (case Zi => exact rfl); (case Zb => first | exact Nat.le_of_ble_eq_true rfl | ((simp only [List.length_cons]); walk_at "u om")); (case Zz => first | exact Nat.le_of_ble_eq_true rfl | ((simp only [List.length_cons]); walk_at "u om")); (case Zs => with_unfolding_all rfl); (case Zt => (intro _; with_unfolding_all rfl)); intro ZD' Zh' ZF' ZN' Zl1)
  | (refine' slice_tuple_upto (b := 3) ?ZF ?ZN ?Zl ?Zi ?Zb ?Zz ?_ ?Zs ?Zt; (case ZF => k_asm); (case ZN => k_asm); (case Zl => exact News.isTup (by k_asm) (by kcf_m)); (case Zi => exact rfl); (case Zb => first | exact Nat.le_of_ble_eq_true rfl | ((simp only [List.length_cons]); walk_at "u om")); (case Zz => first | exact Nat.le_of_ble_eq_true rfl | ((simp only [List.length_cons]); walk_at "u om")); (case Zs => with_unfolding_all rfl); (case Zt => (intro _; with_unfolding_all rfl)); intro ZD' Zh' ZF' ZN' Zl1)
  | (refine' slice_tuple_whole (b := 2) ?ZF ?ZN ?Zl ?Zi ?Zb ?_ ?Zs ?Zt; (case ZF => k_asm); (case ZN => k_asm); (case Zl => exact News.isTup (by k_asm) (by kcf_m)); (case Zi => exact rfl); (case Zb => exact Nat.le_of_ble_eq_true rfl); (case Zs => with_unfolding_all rfl); (case Zt => (intro _; with_unfolding_all rfl)); intro Zh' ZF' ZN')
  | (refine' slice_tuple_whole (b := 3) ?ZF ?ZN ?Zl ?Zi ?Zb ?_ ?Zs ?Zt; (case ZF => k_asm); (case ZN => k_asm); (case Zl => exact News.isTup (by k_asm) (by kcf_m)); (case Zi => exact rfl); (case Zb => exact Nat.le_of_ble_eq_true rfl); (case Zs => with_unfolding_all rfl); (case Zt => (intro _; with_unfolding_all rfl)); intro Zh' ZF' ZN')); (try dsimp only [List.take]); (try k_sweep))))
  (k_with "zsubscriptTail Name Constant ref int" => row_timed "z" (fail "z"; (k_here; (with_reducible show wpAny _ _ (subscriptTail _ _ (Value.ref _) (Value.int _ _)) _ _ _); (with_unfolding_all refine' item_tupleL ?Zk1 ?Zk2 ?Zk3 ?Zk4 ?Zk5 ?_ ?Zk6 ?Zk7; (case Zk1 => exact News.isTup (by k_asm) (by kcf_m)); (case Zk2 => decide); (case Zk3 => decide); (case Zk4 => exact rfl); (case Zk5 => exact rfl); (case Zk6 => with_unfolding_all rfl); (case Zk7 => (intro _; with_unfolding_all rfl)); k_whole))))
  (k_with "zcall type:list" => row_timed "z" (fail "z"; (k_here; (with_reducible show wpAny _ _ (call (Value.type _) [Value.ref _]) _ _ _); (with_unfolding_all refine' list_copyKT ?Zk1 ?Zk2 ?Zk3 ?_ ?Zz; (case Zk1 => k_asm); (case Zk2 => k_asm); (case Zk3 => exact News.isTup (by k_asm) (by kcf_m)); (case Zz => (simp only [List.size_toArray, List.length_cons, List.length_nil, sizeLine_eq]; walk_at "u om")); k_whole); intro ZD' Zc' Zh' ZF' ZN' Zl1; (have Zl0' := LtAll.of Zl1); (try k_lt Zl1); (try k_sweep))))
  (k_with "zCompSrc" => row_timed "z" (fail "z"; (k_here; k_dflt (first
  | (refine LCg.CompSrc.ledger (by assumption) (by k_asm) (by k_asm) (by kcf_m) (by first | size_fits | exact Nat.le_of_ble_eq_true rfl) ?_; intro Zg'; lcg_lit)
  | (refine LCg.CompSrc.range (by assumption) (by k_asm) (by k_asm) (by assumption) (by first | decide | rfl) (by first | rfl | decide) (by first | size_fits | exact Nat.le_of_ble_eq_true rfl) ?_; intro Zg'; lcg_lit)))))
  (k_with "zsubscriptTail Name Name ref int" => walk_at "subscriptTail Name Constant ref int")
  (k_with "zCompRest" => row_timed "z" (fail "z"; (k_here; (with_unfolding_all first
  | (refine LCg.CompRest.succ ?_; intro Zv' ZI' ZoI' ZC' ZoC' ZD' Zm' Zh' Ztk' ZE' Zhv' ZhC' Zhx' ZF' ZN' Zoff' Zne'; (first | lcg_open Zhv' | (obtain ⟨Zt9', Zhv9'⟩ := Zhv'; subst Zhv9')); (try k_sweep))
  | refine LCg.CompRest.zero ?_))))
  (k_with "zCompEnd" => row_timed "z" (fail "z"; (k_here; (rename News _ _ _ _ => ZnE9); (rename LCg.Off3 _ _ _ _ => ZoE9); refine LCg.CompEnd.intro (by assumption) ZnE9 _ (fun _ h => h) ZoE9 (by first | exact True.intro | exact Or.inr ⟨_, by kcf_m, rfl, _, rfl⟩) ?_)))
  (k_with "zFinE" => row_timed "z" (fail "z"; (k_here; (unfold LCg.FinE); intro ZD' Zh' Ztk' ZF' ZN' Zo1'; (try simp only [List.nil_append, List.cons_append] at ZN'); (try dsimp only); (try k_sweep))))
  (k_with "zcall builtin:list.append" => row_timed "z" (fail "z"; (k_here; (with_reducible show wpAny _ _ (call (Value.builtin _) [Value.ref _, _]) _ _ _); k_dflt (refine' append_T ?Zk1 ?Zk2 ?Zk3 ?Zz ?_; (case Zk1 => k_asm); (case Zk2 => k_asm); (case Zk3 => k_upd); (case Zz => ((try simp only [List.length_append, List.length_cons, List.length_nil] at *); walk_at "u om")); k_whole); intro Zh' ZF' ZN'; (try k_sweep))))
  (k_with "zsubscriptTail Name Constant ref int" => row_timed "z" (fail "z"; (k_here; (with_reducible show wpAny _ _ (subscriptTail _ _ (Value.ref _) (Value.int 0 _)) _ _ _); (with_unfolding_all refine' item_head ?Zk1 ?_ ?Zk6 ?Zk7; (case Zk1 => exact News.isTup (by k_asm) (by kcf_m)); (case Zk6 => with_unfolding_all rfl); (case Zk7 => (intro _; with_unfolding_all rfl)); k_whole))))
  (k_with "zu pick" => (((repeat' (first | exact Pick.head | refine' Pick.tail ?_ )); first | done | fail "left open")))
  (k_with "zu split" => (((repeat' (first | exact Split.base | refine' Split.keep ⟨rfl, ⟨_, _, rfl⟩⟩ ?_ | refine' Split.app (by assumption) ?_ | refine' Split.skip ?_)); first | done | fail "left open")))
  (k_with "zu sub" => (((repeat' (first | exact fun _ h => h | exact List.forall_mem_nil _ | refine List.forall_mem_append.mpr ⟨?_, ?_⟩ | refine List.forall_mem_cons.mpr ⟨?_, ?_⟩ | kcf_m | (intro p9 h9; kcf_m))); first | done | fail "left open")))
  (k_with "zu subt" => (((unfold TSub); (repeat' (first | exact fun _ h _ => h | exact List.forall_mem_nil _ | refine List.forall_mem_append.mpr ⟨?_, ?_⟩ | refine List.forall_mem_cons.mpr ⟨?_, ?_⟩ | exact notTup rfl (by decide) | exact notTup (by assumption) (by decide) | exact notCell (by assumption) | (intro _; kcf_m) | (intro p9 h9 _; kcf_m))); first | done | fail "left open")))
  (k_with "zu ht" => with_reducible first | exact ht_k (by assumption))
  (k_with "zu dep" => (refine dep_deeper (by assumption) ?_; first | exact Nat.le_of_ble_eq_true rfl | walk_at "u ht" | exact up_n rfl | exact dep_s))
  (k_with "zu uni" => (refine uni_deeper (by assumption) ?_; first | exact Nat.le_of_ble_eq_true rfl | (refine up_3 ?_; walk_at "u ht") | exact up_u rfl | exact uni_s))
  (k_with "zu frame" => (refine' ⟨?cB, ?cF, ?cX, ?cT, ?cA, ?cf, ?ce, ?cH, ?cd, ?cu⟩; (case cB => k_asm); (case cF => k_asm); (case cX => k_asm); (case cT => k_asm); (case cA => first | exact frames_of (by assumption) | exact rfl); (case cf => exact rfl); (case ce => exact rfl); (case cH => first | exact rfl | assumption); (case cd => first | walk_at "u dep" | ((try simp only [depth_under_make, depth_under_kw, depth_in1, depth_deeper, depth_caller, Mine.T.ht] at *); omega)); (case cu => first | walk_at "u uni" | ((try simp only [units_in1, units_deeper, Around.mark_units, units_caller, Mine.T.ht] at *); omega))))
  (k_with "zcall ref" => (k_here; (with_reducible show wpAny _ _ (call (Value.ref _) _) _ _ _); refine Halt.mk ?_))
  (k_with "zsubscriptTail Name Constant ref int" => row_timed "z" (fail "z"; (k_here; (with_reducible show wpAny _ _ (subscriptTail _ _ (Value.ref _) (Value.int _ _)) _ _ _); (with_unfolding_all refine' listItem ?Zk1 ?Zk2 ?Zk3 ?Zk4 ?_ ?Zk6; (case Zk1 => exact News.isList (by k_asm) (by kcf_m)); (case Zk2 => decide); (case Zk3 => decide); (case Zk4 => exact rfl); (case Zk6 => with_unfolding_all rfl); k_whole))))
  (k_with "zsubscriptTail Name Slice ref ref" => row_timed "z" (fail "z"; (k_here; (with_reducible show wpAny _ _ (subscriptTail _ (PySem.Expr.Slice (some _) none none _) (Value.ref _) (Value.ref _)) _ _ _); k_dflt (refine' slice_tuple_fromK (a := 3) ?ZF ?ZN ?Zl ?Zi ?Zo ?Zb ?Zz ?_ ?Zs ?Zt; (case ZF => k_asm); (case ZN => k_asm); (case Zl => exact News.isTup (by k_asm) (by kcf_m)); (case Zi => exact rfl); (case Zo => decide); (case Zb => exact Nat.le_of_ble_eq_true rfl); (case Zz => exact Nat.le_of_ble_eq_true rfl); (case Zs => with_unfolding_all rfl); (case Zt => (intro _; with_unfolding_all rfl)); intro ZD' Zh' ZF' ZN' Zl1); (try dsimp only [List.drop] at ZN'); (try k_sweep))))
  (k_with "zpyIter ref" => row_timed "z" (fail "z"; (k_here; (with_reducible show wpAny _ _ (pyIter (Value.ref _)) (fun it s₂ => LoopAtV _ _ _ _ _ _ _ _ _ it s₂) _ _); (rename Fr _ _ _ _ => ZlF'); (with_unfolding_all first
  | (refine' seq_list ?Zhh ZlF' ?ZN ?Zhm ?_; (case ZN => k_asm); (case Zhm => kcf_m); (case Zhh => assumption); k_whole)
  | (refine' seq_tuple ?Zhh ZlF' ?ZN ?Zhm ?_; (case ZN => k_asm); (case Zhm => kcf_m); (case Zhh => assumption); k_whole)); intro Zi' Zl1; (have Zl0' := LtAll.of Zl1); (try k_lt Zl1))))
  (k_with "zSeqRest" => row_timed "z" (fail "z"; (k_here; (with_unfolding_all first | (refine SeqRest.succ (fun Zit' Zh' Ztk' Zhit' ZF' ZN' => ?_)) | (refine SeqRest.zero (fun Zh' Ztk' ZF' ZN' => ?_))); (try k_sweep))))
  (k_with "zUnrEnd" => row_timed "z" (fail "z"; (k_here; (rename Fr _ _ _ _ => ZuF9); (rename News _ _ _ _ => ZuN9); (with_unfolding_all refine' unrEnd ZuF9 ZuN9 ?Zpk ?Zoff ⟨?Zlm, ?_⟩; (case Zpk => walk_at "u pick"); (case Zoff => ((repeat' (first | exact List.forall_mem_nil _ | exact offTups (by assumption) (by assumption) (by decide) | exact offLt (by assumption) (by walk_at "u sub") | refine List.forall_mem_append.mpr ⟨?_, ?_⟩ | refine List.forall_mem_cons.mpr ⟨?_, ?_⟩ | exact offCls (by assumption) rfl (by decide) | exact Or.inl (by k_ne))); first | done | fail "left open")); (case Zlm => kcf_m)))))
  (k_with "zeval Name" => row_timed "z" (fail "z"; (k_here; (fail_if_success (fail_if_success (with_reducible rename ((_ : Str → Option Value) (Str.ofString _) = some _) => ZgX))); k_dflt (refine' ld ?Zk1 ?Zk2 ?_; (case Zk1 => k_asm); (case Zk2 => assumption); k_whole))))
  (k_with "zloadName" => row_timed "z" (fail "z"; (k_here; (fail_if_success (fail_if_success (with_reducible rename ((_ : Str → Option Value) (Str.ofString _) = some _) => ZgX))); k_dflt (refine' ldL ?Zk1 ?Zk2 ?_ ?Zk3 ?Zk4; (case Zk1 => k_asm); (case Zk2 => assumption); (case Zk3 => exact rfl); (case Zk4 => exact rfl); k_whole))))
  (k_with "zcall ref" => row_timed "z" (fail "z"; (k_here; (with_reducible show wpAny _ _ (call (Value.ref 75) _) _ _ _); k_dflt (refine' Run.useK (inside_run (NAt.mono ?Zma ?Zmb)) listEl ?Zfr ?ZcN ?_; (case ZcN => k_asm); (case Zma => assumption); (case Zmb => walk_at "u subt"); (case Zfr => walk_at "u frame"); k_whole); (k_dflt (intro Ztl9 Zl9 Zn9 Zts9 Zne9 Znf9 Zh9 Ztk9 ZF9 ZN9); (try dsimp only [LCg.Off1] at Znf9); (try dsimp only [List.cons_append, List.nil_append] at ZN9); (try k_sweep); (try dsimp only)))))
  (k_with "zcall ref" => row_timed "z" (fail "z"; (k_here; (with_reducible show wpAny _ _ (call (Value.ref 82) _) _ _ _); k_dflt (refine' Run.useK (OrderAt.use ?ZcG (TIn.mono ?Zma ?Zmb) ?Zcl ?Zcn) orderEl ?Zfr ?ZcN ?_; (case ZcN => (refine' News.pick ?Zpk ?Zpn; (case Zpn => k_asm); (case Zpk => walk_at "u pick"))); (case Zma => assumption); (case ZcG => assumption); (case Zmb => walk_at "u subt"); (case Zcl => ((try simp only [List.length_append, Mine.T.size] at *); walk_at "u om")); (case Zcn => k_all); (case Zfr => walk_at "u frame"); k_whole); (k_dflt (intro Zr9 Ztl9 Zgs9 Zn9 Zts9 Zne9 Zta9 Zgl9 Zh9 Ztk9 ZF9 ZN9); (try dsimp only [List.cons_append, List.nil_append] at ZN9); (try k_sweep); (try dsimp only)))))
  (k_with "zcall ref" => row_timed "z" (fail "z"; (k_here; (with_reducible show wpAny _ _ (call (Value.ref 21) _) _ _ _); k_dflt (refine' Run.useK (children_run (NAt.mono ?Zma ?Zmb)) childEl ?Zfr ?ZcN ?_; (case ZcN => k_asm); (case Zma => assumption); (case Zmb => walk_at "u subt"); (case Zfr => walk_at "u frame"); k_whole); (k_dflt (intro Ztl9 Zc9 Zn9 Zts9 Zm9 Zh9 Ztk9 ZF9 ZN9); (try dsimp only [List.cons_append, List.nil_append] at ZN9); (try dsimp only [List.cons_append, List.nil_append] at Zm9); (repeat (replace Zm9 := mem_skip Zm9 (by show Value.type "tuple" ≠ Value.type "list"; decide))); (try k_sweep); (try dsimp only)))))
  (k_with "zcall ref" => row_timed "z" (fail "z"; (k_here; (with_reducible show wpAny _ _ (call (Value.ref 28) _) _ _ _); k_dflt (refine' Run.useK (with_children_run (NAt.mono ?Zma ?Zmb) ?Zmq ?Zml) nodeEl ?Zfr ?ZcN ?_; (case ZcN => k_asm); (case Zma => assumption); (case Zmb => walk_at "u subt"); (case Zmq => kcf_m); (case Zml => first | exact rfl | assumption); (case Zfr => walk_at "u frame"); k_whole); (k_dflt (intro Za9 Ztl9 Zts9 Zna9 Zh9 Ztk9 ZF9 ZN9); (try dsimp only [List.cons_append, List.nil_append] at ZN9); (try dsimp only [List.cons_append, List.nil_append] at Zna9); (try k_sweep); (try dsimp only)))))
  (k_with "zcall ref" => row_timed "z" (fail "z"; (k_here; (with_reducible show wpAny _ _ (call (Value.ref 89) _) _ _ _); k_dflt (refine' Run.useK (renamed_run (NAt.mono ?Zma ?Zmb)) nodeEl ?Zfr ?ZcN ?_; (case ZcN => k_asm); (case Zma => assumption); (case Zmb => walk_at "u subt"); (case Zfr => walk_at "u frame"); k_whole); (k_dflt (intro Za9 Ztl9 Zts9 Zna9 Zh9 Ztk9 ZF9 ZN9); (try dsimp only [List.cons_append, List.nil_append] at ZN9); (try k_sweep); (try dsimp only)))))
  (k_with "zcall ref" => row_timed "z" (fail "z"; (k_here; (with_reducible show wpAny _ _ (call (Value.ref 42) [_, Value.ref 89]) _ _ _); k_dflt (refine' Run.useK (MapRAt.use ?ZcG (TIn.mono ?Zma ?Zmb)) mapREl ?Zfr ?ZcN ?_; (case ZcN => k_asm); (case Zma => assumption); (case ZcG => assumption); (case Zmb => walk_at "u subt"); (case Zfr => walk_at "u frame"); k_whole); (k_dflt (intro Za9 Ztl9 Zts9 Zta9 Zh9 Ztk9 ZF9 ZN9); (try dsimp only [List.cons_append, List.nil_append] at ZN9); (try k_sweep); (try dsimp only)))))
  exact True.intro
section Sec6
theorem kw66 : True := by
  (k_with "zexec For Name Subscript cons nil" => row_timed "z" (fail "z"; (k_here; (rename Fr _ _ _ _ => ZlF'); (with_unfolding_all refine' For_invVF ZlF' ?Zk1 ?Zk2 ?_; (case Zk1 => exact rfl); (case Zk2 => exact rfl); k_whole))))
  exact True.intro
theorem kw67 : True := by
  (k_with "zsubscriptTail Name Slice ref ref" => row_timed "z" (fail "z"; (k_here; (with_reducible show wpAny _ _ (subscriptTail _ (PySem.Expr.Slice none (some _) none _) (Value.ref _) (Value.ref _)) _ _ _); k_dflt (refine' kmk_slice_ints ?ZF ?ZN ?Zl ?Zp ?Zq ?Zi ?Zm ?Zc ?_ ?Zs ?Zt ?Zz; (case ZF => k_asm); (case ZN => k_asm); (case Zl => first | exact News.isList (by k_asm) (by kcf_m) | exact Fr.lst (by assumption) (by assumption)); (case Zp => kmk_part); (case Zq => kmk_part); (case Zi => assumption); (case Zm => exact kmk_upto (by assumption) (by decide)); (case Zc => exact rfl); (case Zs => with_unfolding_all rfl); (case Zt => kmk_pure); (case Zz => ((rw [List.size_toArray, sizeLine_eq]); walk_at "u om"))); intro ZD' Zws' Zh' ZF' ZN' Zl1 ZhI' ZhC' ZhL'; (have Zl0' := LtAll.of Zl1); (have ZhQ' := IntsAre.length ZhI'); (try simp only [List.length_take] at ZhQ'); (try k_lt Zl1); (try k_sweep))))
  exact True.intro
--deps PH PT P0 PL
theorem owner_rvd : Manifest.owners.lookup (String.ofList ['d', 'e', 's', 'r', 'e', 'v', 'e', 'r'].reverse) = some Manifest.sig_reversed := by kernel_rfl
theorem slot_rvd_next : Slot "reversed" "__next__" "reversed.__next__" :=
  .of (owner := "reversed") (n := "__next__") (by rw [typeLookup_type, builtinLookup_eq_fast]; kernel_rfl) (by decide +kernel) (by decide +kernel) (by decide +kernel)
    (by first | exact .inl (by decide +kernel) | exact .inr (by decide +kernel)) (by rw [isSubtype_type]; kernel_rfl)
theorem entry_rvd_next : entryFor table "reversed.__next__" = some Builtin.«reversed.__next__» := entryFor_of_tree (by kernel_rfl)
theorem args_rvd_next (a : Value) : argsOk "reversed.__next__" ⟨[a], []⟩ := by
  unfold argsOk; rw [signature?_of (id := "reversed.__next__") (n := ['_', '_', 't', 'x', 'e', 'n', '_', '_']) (o := ['d', 'e', 's', 'r', 'e', 'v', 'e', 'r']) (by kernel_rfl) owner_rvd]; kernel_rfl
theorem slot_rvd_iter : Slot "reversed" "__iter__" "reversed.__iter__" :=
  .of (owner := "reversed") (n := "__iter__") (by rw [typeLookup_type, builtinLookup_eq_fast]; kernel_rfl) (by decide +kernel) (by decide +kernel) (by decide +kernel)
    (by first | exact .inl (by decide +kernel) | exact .inr (by decide +kernel)) (by rw [isSubtype_type]; kernel_rfl)
theorem args_rvd_iter (a : Value) : argsOk "reversed.__iter__" ⟨[a], []⟩ := by
  unfold argsOk; rw [signature?_of (id := "reversed.__iter__") (n := ['_', '_', 'r', 'e', 't', 'i', '_', '_']) (o := ['d', 'e', 's', 'r', 'e', 'v', 'e', 'r']) (by kernel_rfl) owner_rvd]; kernel_rfl
theorem entry_rvd_iter : entryFor table "reversed.__iter__" = some Builtin.«dict_keyiterator.__iter__» :=
  entryFor_alias (id' := "dict_keyiterator.__iter__") (by kernel_rfl) (by first | rfl | decide +kernel | (unfold String.splitOn; simp +decide [String.splitOnAux])) (by decide +kernel) (by kernel_rfl)
theorem slot_rvd_init : Slot "reversed" "__init__" "object.__init__" :=
  .of (owner := "object") (n := "__init__") (by rw [typeLookup_type, builtinLookup_eq_fast]; kernel_rfl) (by decide +kernel) (by decide +kernel) (by decide +kernel)
    (by first | exact .inl (by decide +kernel) | exact .inr (by decide +kernel)) (by rw [isSubtype_type]; kernel_rfl)
theorem tup_no_reversed : typeLookup (.type "tuple") "__reversed__" = pure none := by rw [typeLookup_type, builtinLookup_eq_fast]; kernel_rfl
theorem tup_no_dict : isSubtype (.type "tuple") (.type "dict") = pure false := by rw [isSubtype_type]; kernel_rfl
theorem called_rvd : TypeCalled "reversed" "reversed.__new__" "object.__init__" :=
  ⟨by decide +kernel, PySem.F.create_reversed, ⟨_, _, PySem.F.mro_reversed⟩, PySem.F.made_reversed, PySem.F.plain_reversed_new, PySem.F.sub_reversed_self, slot_rvd_init⟩
def rvdObj (t : Addr) (i : Int) : Obj := { cls := .type "reversed", data := .fields #[.ref t, rawInt i] }
section
variable {prog : Program} {w : World} {A : Around} {E : Value → Shared → Prop} {s : Shared}
theorem rvd_new {t : Addr} {items : Array Value} {Q₁ : Value → Shared → Prop} (ht : IsTup s.heap t items) (hsz : (items.size : Int) < 1000)
    (h : Q₁ (.ref s.heap.objs.size) { s with heap := s.heap.push (rvdObj t ((items.size : Int) - 1)), toks := s.toks + 1 + 1 }) :
    codeAny (model prog w) A (.call (.builtin "reversed.__new__") ⟨[.type "reversed", .ref t], []⟩) (wants Q₁ E) s := by
  refine codeAny_of_tree ?_
  show wpAny _ A.in1 (do checkBuiltinCall "reversed.__new__" ⟨[.type "reversed", .ref t], []⟩; again (.builtin "reversed.__new__" ⟨[.type "reversed", .ref t], []⟩)) _ _ s
  refine wpAny_bind (wpAny_of_eq (PySem.F.newCall_reversed_1 _) (wpAny_pure ⟨plainId_quiet PySem.F.plain_reversed_new _, codeAny_builtin PySem.F.entry_reversed_new ?_⟩))
  rw [Around.under_plainId PySem.F.plain_reversed_new _]
  unfold Builtin.«reversed.__new__»
  refine wpAny_bind (wpAny_of_eq (newClass_reversed _) ?_)
  try dsimp only
  refine wpAny_bind (wpAny_of_eq (a := ()) (by first | rfl | kernel_rfl) ?_)
  refine wpAny_bind (wpAny_of_eq (a := ()) (by first | rfl | kernel_rfl) ?_)
  try dsimp only
  refine wpAny_bind (wpAny_specialOf ht.typeIs tup_no_reversed ?_)
  try dsimp only
  refine wpAny_bind ?_
  with_unfolding_all refine wpAny_bind (m := isInstance (Value.ref t) (Value.type "dict")) (wpAny_isInstance ht.typeIs tup_no_dict ?_)
  try dsimp only
  rw [if_neg Bool.false_ne_true]
  refine wpAny_bind (wpAny_specialOf ht.typeIs slot_tuple_getitem.lookup ?_)
  try dsimp only
  rw [if_pos (by decide)]
  refine wpAny_pure ?_
  try dsimp only
  rw [if_neg (by decide)]
  refine wpAny_bind (len_tuple ht (by omega) ?_)
  refine wpAny_bind (wpAny_of_eq (a := some (items.size : Int)) rfl ?_)
  try dsimp only
  refine wpAny_bind (m := Builtin.SmallTypes.newRecord _ _) (wpAny_newObj_type (T := "reversed") (data := .fields #[.ref t, rawInt ((items.size : Int) - 1)]) ?_ (by size_fits))
  exact wpAny_pure h
theorem rvd_call {t : Addr} {items : Array Value} {Q : Value → Shared → Prop} (ht : IsTup s.heap t items) (hsz : (items.size : Int) < 1000)
    (h : Q (.ref s.heap.objs.size) { s with heap := s.heap.push (rvdObj t ((items.size : Int) - 1)), toks := s.toks + 1 + 1 }) : wpAny (model prog w) A (call (.type "reversed") [.ref t]) Q E s := by
  refine callType_codes (Q₁ := fun obj s₁ => obj = .ref s.heap.objs.size ∧ s₁ = { s with heap := s.heap.push (rvdObj t ((items.size : Int) - 1)), toks := s.toks + 1 + 1 }) called_rvd (PySem.F.typeCall_reversed_1 _) PySem.F.entry_object_init (rvd_new ht hsz ⟨rfl, rfl⟩) ?_
  rintro obj s₁ ⟨rfl, rfl⟩
  refine ⟨⟨_, Heap.get?_push_size _ rfl, rfl⟩, PySem.F.args_object_init_2 _ _, ?_⟩
  exact (object_init_meets slot_rvd_init.lookup PySem.F.made_reversed (by decide)) prog w A.in1 _ _ ⟨⟨_, Heap.get?_push_size _ rfl, rfl⟩, rfl, h⟩
theorem rvd_iter {it : Addr} {Q : Value → Shared → Prop} (hit : s.TypeIs (.ref it) "reversed") (h : Q (.ref it) s) : wpAny (model prog w) A (pyIter (.ref it)) Q E s := by
  refine wpAny_pyIter_slot hit slot_rvd_iter (wpAny_call_entry slot_rvd_iter hit entry_rvd_iter ?_ (args_rvd_iter _))
  show wpAny _ _ (ret (.ref it)) _ _ s
  exact wpAny_pure ⟨_, rfl, "reversed", _, hit, slot_rvd_next.lookup, h⟩
def IsRvd (h : Heap) (a l : Addr) (i : Int) : Prop := ∃ o, h.get? a = some o ∧ o.cls = .type "reversed" ∧ o.data = .fields #[.ref l, rawInt i]
theorem IsRvd.typeIs {a l : Addr} {i : Int} (x : IsRvd s.heap a l i) : s.TypeIs (.ref a) "reversed" := let ⟨o, ho, hc, _⟩ := x; ⟨o, ho, hc⟩
theorem IsRvd.at {h h' : Heap} {a l : Addr} {i : Int} (x : IsRvd h a l i) (e : ∀ o, h.get? a = some o → h'.get? a = some o) : IsRvd h' a l i := let ⟨o, ho, r⟩ := x; ⟨o, e _ ho, r⟩
theorem rvd_item {it l : Addr} {i : Nat} {items : Array Value} {x : Value} {Q : Option Value → Shared → Prop} (hit : IsRvd s.heap it l (i : Int)) (hl : IsTup s.heap l items) (hx : items[i]? = some x) (hsz : (items.size : Int) < 1000)
    (hQ : ∀ h' tk, IsRvd h' it l ((i : Int) - 1) → Heap.SameBut it s.heap h' → Q (some x) { s with heap := h', toks := tk }) : wpAny (model prog w) A (pyNext (.ref it)) Q E s := by
  obtain ⟨o, ho, hc, hd⟩ := id hit
  unfold pyNext
  refine wpAny_bind (wpAny_attempt (wpAny_callSpecial?_slot (name := Str.ofString "__next__") hit.typeIs slot_rvd_next
    (wpAny_call_entry slot_rvd_next hit.typeIs entry_rvd_next ?_ (args_rvd_next _))))
  unfold Builtin.«reversed.__next__»
  refine wpAny_bind (wpAny_of_eq (a := (Value.ref it, [])) rfl ?_)
  try dsimp only
  refine wpAny_bind (wpAny_field ho hd (x := .ref l) rfl ?_)
  refine wpAny_bind (wpAny_field ho hd (x := rawInt (i : Int)) rfl ?_)
  try dsimp only
  show wpAny _ _ (if (i : Int) < 0 then _ else _) _ _ s
  rw [if_neg (by omega)]
  have hi : i < items.size := (Array.getElem?_eq_some_iff.mp hx).1
  have hsi : seqIndex? (i : Int) items.size = some i := by
    unfold seqIndex?
    simp [show ¬ ((i : Int) < 0) by omega, hi]
  refine wpAny_bind (wpAny_specialOf hl.typeIs slot_tuple_getitem.lookup ?_)
  rw [if_neg (by simp)]
  refine wpAny_bind (wpAny_mkInt ?_)
  refine wpAny_bind (wpAny_attempt (getItem_tuple (s := { s with toks := s.toks + 1 }) hl (by omega) (by omega) (j := i) hsi hx ?_))
  try dsimp only
  refine wpAny_bind (wpAny_field ho hd (x := rawInt (i : Int)) rfl ?_)
  show wpAny _ _ (setField (.ref it) 1 (rawInt ((i : Int) - 1)) >>= _) _ _ _
  refine wpAny_bind (wpAny_setField ho hd (by simp) ?_)
  refine wpAny_pure ⟨x, rfl, wpAny_pure (hQ _ _ ?_ (Heap.SameBut.update ..))⟩
  exact ⟨_, Heap.get?_update_self _ ho (Obj.isFreed_of_fields (Obj.data_mapFields hd _)), (Obj.cls_mapFields ..).trans hc, by
    rw [Obj.data_mapFields hd]; simp⟩
theorem rvd_end {it l : Addr} {Q : Option Value → Shared → Prop} (hh : A.handled = none) (hit : IsRvd s.heap it l (-1))
    (hQ : ∀ h', Heap.ExtBut it s.heap h' → Q none { s with heap := h' }) : wpAny (model prog w) A (pyNext (.ref it)) Q E s := by
  obtain ⟨o, ho, hc, hd⟩ := id hit
  unfold pyNext
  refine wpAny_bind (wpAny_attempt (wpAny_callSpecial?_slot (name := Str.ofString "__next__") hit.typeIs slot_rvd_next
    (wpAny_call_entry slot_rvd_next hit.typeIs entry_rvd_next ?_ (args_rvd_next _))))
  unfold Builtin.«reversed.__next__»
  refine wpAny_bind (wpAny_of_eq (a := (Value.ref it, [])) rfl ?_)
  try dsimp only
  refine wpAny_bind (wpAny_field ho hd (x := .ref l) rfl ?_)
  refine wpAny_bind (wpAny_field ho hd (x := rawInt (-1)) rfl ?_)
  try dsimp only
  show wpAny _ _ (if (-1 : Int) < 0 then _ else _) _ _ s
  rw [if_pos (by decide)]
  refine wpAny_bind (wpAny_rule ?_)
  refine wpAny_bind ?_
  with_unfolding_all refine wpAny_bind (m := setField (.ref it) 1 (rawInt (-1))) (wpAny_setField ho hd (by simp) ?_)
  have ho2 : (s.heap.update it (Obj.mapFields fun x => x.setIfInBounds 1 (rawInt (-1)))).get? it = some (o.mapFields fun x => x.setIfInBounds 1 (rawInt (-1))) := Heap.get?_update_self _ ho (Obj.isFreed_of_fields (Obj.data_mapFields hd _))
  refine wpAny_setField ho2 (Obj.data_mapFields hd _) (by simp) ?_
  try dsimp only
  first
  | show wpAny _ _ (newExc (.type "StopIteration") [] >>= _) _ _ _
  | (refine wpAny_bind ?_; show wpAny _ _ (newExc (.type "StopIteration") [] >>= _) _ _ _)
  refine wpAny_bind ?_
  simp only [newExc, newTuple]
  refine wpAny_bind (wpAny_newObj_type ?_ (by size_fits))
  refine wpAny_bind (m := firstArgMember _ _) (wpAny_of_eq (a := Value.none) (by first | rfl | (simp only [firstArgMember]; rfl)) ?_)
  refine wpAny_newObj_type ?_ (by size_fits)
  simp only [raiseNew]
  refine wpAny_bind (wpAny_handled ?_)
  first | rw [show A.in1.handled = none from hh] | rw [hh]
  refine wpAny_bind (wpAny_pure (wpAny_throw ?_))
  refine wpAny_bind (wpAny_isInstance (T := "StopIteration") (b := true) ⟨_, Heap.get?_push_size _ rfl, rfl⟩ isSubtype_stop ?_)
  refine wpAny_pure (hQ _ ?_)
  have x1 := (Heap.SameBut.update s.heap it (Obj.mapFields fun x => x.setIfInBounds 1 (rawInt (-1)))).extBut
  have x2 := (Heap.SameBut.update (s.heap.update it (Obj.mapFields fun x => x.setIfInBounds 1 (rawInt (-1)))) it (Obj.mapFields fun x => x.setIfInBounds 0 .none)).extBut
  exact fun b o9 hb eo => (((Heap.ExtBut.refl _ _).push _).push _) b o9 hb (x2 b o9 hb (x1 b o9 hb eo))
end
theorem walksRvd {prog : Program} {w : World} {A : Around} (hh : A.handled = none) (I l : Addr) (hne : l ≠ I) (items : Array Value) (hsz : (items.size : Int) < 1000) :
    Walks prog w A I [I, l] [I] items.size (fun i v => i < items.size ∧ items[items.size - 1 - i]? = some v) (fun i h => i ≤ items.size ∧ IsRvd h I l ((items.size : Int) - 1 - (i : Int)) ∧ IsTup h l items) where
  sub := fun b hb => by simp at hb; simp [hb]
  frame := fun _ _ _ x hk => ⟨x.1, x.2.1.at fun o e => hk I (by simp) o e, let ⟨o, ho, r⟩ := x.2.2; ⟨o, hk l (by simp) o ho, r⟩⟩
  item := fun i s Q E hi x hQ => by
    have e : (items.size : Int) - 1 - (i : Int) = ((items.size - 1 - i : Nat) : Int) := by omega
    have hit := x.2.1
    rw [e] at hit
    have hx : items[items.size - 1 - i]? = some (items[items.size - 1 - i]'(by omega)) := Array.getElem?_eq_getElem (by omega)
    refine rvd_item hit x.2.2 hx hsz fun h' tk hit' hs' => ?_
    have e2 : ((items.size - 1 - i : Nat) : Int) - 1 = (items.size : Int) - 1 - ((i + 1 : Nat) : Int) := by omega
    rw [e2] at hit'
    exact hQ _ h' tk ⟨hi, hx⟩ ⟨hi, hit', let ⟨o, ho, r⟩ := x.2.2; ⟨o, (hs'.2 l hne).trans ho, r⟩⟩ fun b o hb eo => hs'.extBut b o (fun h => hb (by simp [h])) eo
  done := fun s Q E x hQ => by
    have e : (items.size : Int) - 1 - (items.size : Int) = -1 := by omega
    have hit := x.2.1
    rw [e] at hit
    exact rvd_end hh hit fun h' he' => hQ h' s.toks fun b o hb eo => he' b o (fun h => hb (by simp [h])) eo
  self := fun _ _ _ _ x hQ => rvd_iter x.2.1.typeIs hQ
section
variable {prog : Program} {w : World} {A : Around} {E : Value → Shared → Prop} {env : Env} {h₀ : Heap} {x : Str} {body : List Stmt} {Q : Flow → Shared → Prop} {s : Shared}
theorem seq_rvd {ax I : Addr} {vs : List Value} {n : Nat} {m₀ : Str → Option Value} {news : Led} (hh : A.handled = none) (F : Fr h₀ env.locals s.heap m₀) (N : News h₀ env.locals s.heap ((I, rvdObj ax ((vs.length : Int) - 1)) :: news)) (hm : (ax, tupOf vs n) ∈ news) (hsz : vs.length < 1000)
    (hof : ∀ p ∈ news, p.1 ≠ I) (rest : SeqRest "reversed" prog w A E h₀ env x body Q s I (ax, tupOf vs n) vs.reverse m₀ news) :
    wpAny (model prog w) A (pyIter (.ref I)) (fun it s₂ => LoopAtV prog w A h₀ env x body Q E it s₂) E s := by
  have hIx := N _ (List.mem_cons_self ..)
  have hax := N _ (List.mem_cons_of_mem _ hm)
  have hl : IsTup s.heap ax vs.toArray := ⟨_, hax.1, rfl, n, rfl⟩
  have hne : ax ≠ I := hof _ hm
  refine rvd_iter ⟨_, hIx.1, rfl⟩ ?_
  have W := walksRvd (prog := prog) (w := w) hh I ax hne vs.toArray (by rw [List.size_toArray]; omega)
  have hlen : vs.toArray.size = vs.reverse.length := by simp
  rw [hlen] at W
  refine seq_loop (s := s) (xs := vs.reverse) (g := s.heap) (tk₀ := s.toks) W (fun i v h => ?_) (fun i h st => ?_) ⟨Nat.zero_le _, ⟨_, hIx.1, rfl, ?_⟩, hl⟩ F (fun p hp => N p (List.mem_cons_of_mem _ hp)) hm hIx.2.2 (fun e => hIx.2.1 e.symm) hof rest
  · have hi : i < vs.length := by simpa using h.1
    rw [List.getElem?_reverse hi]
    simpa using h.2
  · obtain ⟨o, h1, h2, _⟩ := st.2.1
    exact ⟨o, h1, h2⟩
  · show Data.fields #[.ref ax, rawInt ((vs.length : Int) - 1)] = _
    have e : ((vs.reverse.length : Nat) : Int) - 1 - ((0 : Nat) : Int) = (vs.length : Int) - 1 := by simp
    rw [e]
end
theorem ltAll_ne' {d : Addr} {l r : Led} (h : LtAll d l) (hs : ∀ q ∈ r, q ∈ l) : ∀ q ∈ r, q.1 ≠ d := fun q hq => Nat.ne_of_lt (h q (hs q hq))
theorem kde_rvd {prog : Program} {w : World} {A : Around} {E : Value → Shared → Prop} {s : Shared} {h₀ : Heap} {L : Addr} {m : Str → Option Value} {ax : Addr} {vs : List Value} {n : Nat} {news : Led} {Q : Value → Shared → Prop} (F : Fr h₀ L s.heap m) (N : News h₀ L s.heap news) (hm : (ax, tupOf vs n) ∈ news) (hsz : vs.length < 1000)
    (h : ∀ D h' tk, Fr h₀ L h' m → News h₀ L h' ((D, rvdObj ax ((vs.length : Int) - 1)) :: news) → (∀ p ∈ news, p.1 < D) → Q (.ref D) { s with heap := h', toks := tk }) : wpAny (model prog w) A (call (.type "reversed") [.ref ax]) Q E s := by
  refine rvd_call (items := vs.toArray) ⟨_, (N _ hm).1, rfl, n, rfl⟩ (by rw [List.size_toArray]; omega) ?_
  have e : ((vs.toArray.size : Nat) : Int) - 1 = (vs.length : Int) - 1 := by simp
  rw [e]
  exact h _ _ _ (F.push _) (News.push F N _) fun p hp => Heap.lt_size (N p hp).1
theorem kw68 : True := by
  (k_with "zcall type:reversed" => row_timed "z" (fail "z"; (k_here; (with_reducible show wpAny _ _ (call (Value.type _) [Value.ref _]) _ _ _); k_dflt (refine' kde_rvd ?ZF ?ZN ?Zl ?Zz ?_; (case ZF => k_asm); (case ZN => k_asm); (case Zl => kcf_m); (case Zz => first | exact Nat.le_of_ble_eq_true rfl | walk_at "u om")); intro ZD' Zh' Ztk' ZF' ZN' Zl1; (have Zl0' := LtAll.of Zl1); (try k_lt Zl1); (try k_sweep))))
  exact True.intro
theorem kw69 : True := by
  (k_with "zpyIter ref" => row_timed "z" (fail "z"; (k_here; (with_reducible show wpAny _ _ (pyIter (Value.ref _)) (fun it s₂ => LoopAtV _ _ _ _ _ _ _ _ _ it s₂) _ _); (rename Fr _ _ _ _ => ZlF'); (rename News _ _ _ _ => ZlN'); (with_unfolding_all refine' seq_rvd ?Zhh ZlF' (News.pick ?Zpk ZlN') ?Zhm ?Zz ?Zhf ?_; (case Zpk => exact Pick.head); (case Zhh => assumption); (case Zhm => kcf_m); (case Zz => first | exact Nat.le_of_ble_eq_true rfl | walk_at "u om"); (case Zhf => exact ltAll_ne' (by assumption) (by walk_at "u sub"))); clear ZlF' ZlN'; (try simp only [List.reverse_cons, List.reverse_nil, List.nil_append, List.cons_append]))))
  exact True.intro

--deps PH PT P0 PL P1 P2 P6 P7 P9 PA PR
theorem T.size_pos (t : T) : 1 ≤ t.size := by cases t <;> simp only [T.size] <;> omega
theorem sizeAll_le : ∀ ws : List T, ws.length ≤ sizeAll ws
  | [] => Nat.le_refl _
  | t :: r => by
    have h1 := T.size_pos t
    have h2 := sizeAll_le r
    simp only [List.length_cons, sizeAll]
    omega
def SubJ (fl sl : Addr) (t0 : T) (rest : Led) (k : Nat) (m : Str → Option Value) (n : Led) : Prop :=
  ∃ fs vs ts ws c1 c2, TAll rest fs ts ∧ TAll rest vs ws ∧ ts ++ preAll ws = t0.pre ∧ k = sizeAll ws ∧ fs.length + k = t0.size ∧ m (Str.ofString "found") = some (.ref fl) ∧ m (Str.ofString "stack") = some (.ref sl) ∧
    ∀ q ∈ (fl, listOf fs.toArray c1) :: (sl, listOf vs.reverse.toArray c2) :: rest, q ∈ n
theorem SubJ.of {fl sl : Addr} {t0 : T} {rest : Led} {k : Nat} {m : Str → Option Value} {n : Led} {fs vs gs : List Value} {ts ws : List T} {c1 c2 : Nat} (h1 : TAll rest fs ts) (h2 : TAll rest vs ws) (h3 : ts ++ preAll ws = t0.pre) (h4 : k = sizeAll ws) (h5 : fs.length + k = t0.size)
    (h6 : m (Str.ofString "found") = some (.ref fl)) (h7 : m (Str.ofString "stack") = some (.ref sl)) (h9 : gs = vs.reverse) (h8 : ∀ q ∈ (fl, listOf fs.toArray c1) :: (sl, listOf gs.toArray c2) :: rest, q ∈ n) : SubJ fl sl t0 rest k m n := ⟨fs, vs, ts, ws, c1, c2, h1, h2, h3, h4, h5, h6, h7, h9 ▸ h8⟩
def SubPost (ts : List T) (rest : Led) (r : Value) (news' : Led) : Prop := ∃ l gs n, r = .ref l ∧ news' = (l, listOf gs.toArray n) :: rest ∧ (∀ q ∈ rest, q.1 ≠ l) ∧ TAll rest gs ts
theorem subPost {ts : List T} {rest : Led} {l : Addr} {gs : List Value} {n : Nat} (h1 : ∀ q ∈ rest, q.1 ≠ l) (h2 : TAll rest gs ts) : SubPost ts rest (.ref l) ((l, listOf gs.toArray n) :: rest) := ⟨l, gs, n, rfl, rfl, h1, h2⟩
theorem kw70 : True := by
  (k_with "zexec While Name cons nil" => (k_here; refine Halt.mk ?_))
  exact True.intro
theorem pop_T {prog : Program} {w : World} {A : Around} {E : Value → Shared → Prop} {s : Shared} {h₀ : Heap} {L D : Addr} {m : Str → Option Value} {news news' : Led} {n : Nat} {x : Value} {xs : List Value} {Q : Value → Shared → Prop}
    (F : Fr h₀ L s.heap m) (N : News h₀ L s.heap news) (U : Upd D (listOf (xs ++ [x]).toArray n) (listOf xs.toArray (n + 1)) news news') (hz : xs.length < 10000)
    (h : ∀ h', Fr h₀ L h' m → News h₀ L h' news' → Q x { s with heap := h' }) : wpAny (model prog w) A (call (.builtin "list.pop") [.ref D]) Q E s :=
  kl_pop (p := xs) F N (by rw [List.toList_toArray]; exact kpa_last x xs) U (by simp only [List.length_append, List.length_cons, List.length_nil, sizeLine_eq]; omega) h
theorem kw71 : True := by
  (k_with "zcall builtin:list.pop" => row_timed "z" (fail "z"; (k_here; (with_reducible show wpAny _ _ (call (Value.builtin _) [Value.ref _]) _ _ _); k_dflt (refine' pop_T ?ZF ?ZN ?ZU ?Zz ?_; (case ZF => k_asm); (case ZN => k_asm); (case ZU => k_upd); (case Zz => walk_at "u om"); k_whole); intro Zh' ZF' ZN'; (try k_sweep))))
  exact True.intro
theorem truthy_T {prog : Program} {w : World} {A : Around} {E : Value → Shared → Prop} {s : Shared} {D : Addr} {x : Value} {xs : List Value} {Q : Bool → Shared → Prop} (hl : s.heap.IsList D (xs ++ [x]).toArray) (hz : xs.length < 10000)
    (h : Q true { s with toks := s.toks + 1 + 1 }) : wpAny (model prog w) A (truthy (.ref D)) Q E s :=
  wpAny_truthy_list hl (by rw [List.size_toArray, List.length_append, List.length_cons, List.length_nil]; omega) (by
    have e : (!(xs ++ [x]).toArray.isEmpty) = true := by simp
    rw [e]; exact h)
theorem kw72 : True := by
  (k_with "ztruthy ref" => row_timed "z" (fail "z"; (k_here; (with_reducible show wpAny _ _ (truthy (Value.ref _)) _ _ _); (with_unfolding_all refine' truthy_T ?Zk1 ?Zk2 ?_; (case Zk1 => exact News.isList (by k_asm) (by kcf_m)); (case Zk2 => walk_at "u om"); k_whole))))
  exact True.intro
theorem whileStep2 {h₀ : Heap} {L : Addr} {s : Shared} {J : Nat → (Str → Option Value) → Led → Prop} {Q : Flow → Shared → Prop} {n n' : Nat} {h' : Heap} {tk : Nat} {m₂ : Str → Option Value} {news₂ : Led} (F : Fr h₀ L h' m₂) (N : News h₀ L h' news₂) (hn : n' < n) (j : J n' m₂ news₂) :
    WhileStep2 h₀ L s J Q n .next { s with heap := h', toks := tk } := ⟨h', tk, m₂, news₂, n', rfl, F, N, hn, j⟩
theorem preAll_append : ∀ a b : List T, preAll (a ++ b) = preAll a ++ preAll b
  | [], _ => rfl
  | t :: r, b => by rw [List.cons_append, preAll, preAll, preAll_append r b, List.append_assoc]
theorem sizeAll_append : ∀ a b : List T, sizeAll (a ++ b) = sizeAll a + sizeAll b
  | [], _ => (Nat.zero_add _).symm
  | t :: r, b => by rw [List.cons_append, sizeAll, sizeAll, sizeAll_append r b, Nat.add_assoc]
def SubJ2 (fl sl : Addr) (fo : Obj) (vs cvs : List Value) (base : Led) (r : List Value) (m : Str → Option Value) (n : Led) : Prop :=
  ∃ dn st c2, cvs.reverse = dn ++ r ∧ st = vs.reverse ++ dn ∧ st.length + r.length ≤ 2010 ∧ m (Str.ofString "found") = some (.ref fl) ∧ m (Str.ofString "stack") = some (.ref sl) ∧ ∀ q ∈ (fl, fo) :: (sl, listOf st.toArray c2) :: base, q ∈ n
theorem subStart {fl sl : Addr} {fo : Obj} {vs cvs : List Value} {base : Led} {m : Str → Option Value} {c2 : Nat} (hz : vs.reverse.length + cvs.reverse.length ≤ 2010) (h1 : m (Str.ofString "found") = some (.ref fl)) (h2 : m (Str.ofString "stack") = some (.ref sl)) :
    SubJ2 fl sl fo vs cvs base cvs.reverse m ((fl, fo) :: (sl, listOf vs.reverse.toArray c2) :: base) := ⟨[], _, c2, rfl, (List.append_nil _).symm, hz, h1, h2, fun _ h => h⟩
theorem SubJ2.of {fl sl : Addr} {fo : Obj} {vs cvs : List Value} {base : Led} {r : List Value} {m : Str → Option Value} {n : Led} {dn st : List Value} {c2 : Nat} {x : Value} (h1 : cvs.reverse = dn ++ x :: r) (h2 : st = vs.reverse ++ dn) (h3 : st.length + (x :: r).length ≤ 2010) (h4 : m (Str.ofString "found") = some (.ref fl)) (h5 : m (Str.ofString "stack") = some (.ref sl))
    (h6 : ∀ q ∈ (fl, fo) :: (sl, listOf (st ++ [x]).toArray c2) :: base, q ∈ n) : SubJ2 fl sl fo vs cvs base r m n :=
  ⟨dn ++ [x], st ++ [x], c2, by rw [h1, List.append_assoc]; rfl, by rw [h2, List.append_assoc], by rw [List.length_append]; rw [List.length_cons] at h3; simp only [List.length_cons, List.length_nil]; omega, h4, h5, h6⟩
set_option maxRecDepth 100000 in set_option maxHeartbeats 8000000 in
theorem sub_run {w : World} {v : Value} {t : T} {rest : Led} (ht : TIn rest v t) (hsz : t.size ≤ 1000) : Run w (.ref 35) [v] 3 300 rest (SubPost t.pre rest) := by
  unfold Run; k_fill; intro p loose mean mg mb A A₀ env outer base h₀ L m s Q E B F X N T hA hf hke hnd hdp hun hret
  (refine wpAny_call ?_; k_dflt (refine' code_def ?k1 ?k2 ?k3 ?k4 ?k5 ?kA ?kF ?kK ?k6 ?k7 ?k8 ?k9 ?kB ?_ ?c2 ?c3 ?c4 ?c5; (case kA => assumption); (case kF => assumption); (case kK => assumption); (case k1 => k_asm); (case k2 => k_asm); (case k3 => k_asm); (case k4 => k_asm); (case k5 => k_asm); (case k6 => k_is); (case k7 => k_is); (case k8 => walk_at "u om"); (case k9 => exact BindsTo.of_eq rfl); (case c5 => decide); (case kB => exact locs rfl); (case c2 => exact rfl); (case c3 => exact rfl); (case c4 => exact rfl); k_whole; intro g' L' h' FG' F' N' B' X' T'; (try dsimp only); (try k_fold)))
  k_steps
  rename_i fl h1 l1 h11 tk1 sl h2 l2 h21 lF9 lN9
  refine Halt.go ?_
  refine While_inv2 (SubJ fl sl t rest) lF9 lN9 (SubJ.of (c1 := 0) (c2 := 0) .nil (.cons ht .nil) ?a1 rfl ?a2 rfl rfl rfl ?a3) ?_
  case a1 => simp [preAll]
  case a2 => simp [sizeAll]
  case a3 => walk_at "u sub"
  rintro k m₁ n₁ h tk F9 N9 ⟨fs, vs, ts, ws, c1, c2, hfs, hvs, hpre, hk, hlen, hmf, hms, hsub⟩
  have N8 := News.sub N9 hsub
  clear N9
  cases hvs with
  | nil =>
    simp only [List.reverse_nil] at N8
    k_steps
    (rename News _ _ _ _ => kN8; rename Fr _ _ _ _ => kF8)
    simp only [preAll, List.append_nil] at hpre
    exact hret _ _ _ _ kF8 (News.sub kN8 (by walk_at "u sub")) (subPost (lt_ne l1) (hpre ▸ hfs))
  | @cons v1 t1 vs ws hv hvs =>
    simp only [List.reverse_cons] at N8
    rw [sizeAll, t1.size_eq] at hk
    have hb1 := sizeAll_le ws
    have hb2 := hvs.length
    have hb3 : vs.reverse.length < 2000 := by rw [List.length_reverse]; omega
    have hb4 : fs.length < 2000 := by omega
    obtain ⟨cvs, hn, hks, hl⟩ := hv.opened
    have hkl := hks.length
    have hks1 := sizeAll_le t1.kids
    k_steps
    refine SeqRest.byJ (J := SubJ2 fl sl _ vs cvs _) ?h0 ?hs _ _ _ (subStart ?z (by assumption) (by assumption))
    case z => rw [List.length_reverse, List.length_reverse]; clear hsub; omega
    case h0 =>
      rintro m₂ n₂ ⟨dn, st, c3, hdn, hst, hz, hmf2, hms2, hsub2⟩ h tk F9 N9
      have N8 := News.sub N9 hsub2
      clear N9
      rw [List.append_nil] at hdn
      subst hdn
      k_steps
      (rename News _ _ _ _ => kN8; rename Fr _ _ _ _ => kF8)
      (try simp only [List.push_toArray] at kN8)
      refine whileStep2 kF8 kN8 ?lt (SubJ.of (c1 := ?ca0) (c2 := c3) (gs := st) (TAll.app hfs (.cons hv .nil)) (hks.app hvs) ?pre rfl ?len hmf2 hms2 ?rev ?sub)
      case sub => walk_at "u sub"
      case rev => rw [List.reverse_append]; exact hst
      case pre => rw [← hpre, preAll_append, preAll, t1.pre_eq, List.append_assoc]; rfl
      case len => rw [List.length_append, sizeAll_append, ← hlen, hk]; show fs.length + 1 + _ = _; clear hsub hsub2 hz hb3 hb4; omega
      case lt => rw [sizeAll_append, hk]; clear hsub hsub2 hz hb3 hb4; omega
    case hs =>
      rintro v2 r m₂ n₂ ⟨dn, st, c3, hdn, hst, hz, hmf2, hms2, hsub2⟩ it h tk hit F9 N9
      have N8 := News.sub N9 (List.forall_mem_cons.mpr ⟨.head _, fun q hq => .tail _ (hsub2 q hq)⟩)
      clear N9
      have hz9 : st.length ≤ 16000 := by clear hsub hsub2; omega
      k_steps
      exact SubJ2.of hdn hst hz (by assumption) (by assumption) (fun _ h => h)

end Sec6
theorem kw73 : True := by
  k_with_none
  (k_with "zu pr" => first | exact pr0 (by assumption) | exact pr1 (by assumption) | exact pe1 (by assumption) | exact pr2 (by assumption) | exact pe2 (by assumption) | exact pr3 (by assumption) | exact pe3 (by assumption) | exact pr4 (by assumption) | exact pe4 (by assumption) | exact pr5 (by assumption) | exact pe5 (by assumption) | exact pr6 (by assumption) | exact pe6 (by assumption) | exact pr7 (by assumption) | exact pe7 (by assumption) | exact pr8 (by assumption) | exact pe8 (by assumption) | exact pr9 (by assumption) | exact pe9 (by assumption) | exact pr10 (by assumption) | exact pe10 (by assumption) | exact pr11 (by assumption) | exact pe11 (by assumption) | exact pr12 (by assumption) | exact pe12 (by assumption) | exact pr13 (by assumption) | exact pe13 (by assumption) | exact pr14 (by assumption) | exact pe14 (by assumption) | exact pr15 (by assumption) | exact pe15 (by assumption) | exact pr16 (by assumption) | exact pe16 (by assumption) | exact pr17 (by assumption) | exact pe17 (by assumption) | exact pr18 (by assumption) | exact pe18 (by assumption) | exact pr19 (by assumption) | exact pe19 (by assumption) | exact pr20 (by assumption) | exact pe20 (by assumption) | exact pr21 (by assumption) | exact pe21 (by assumption) | exact pr22 (by assumption) | exact pe22 (by assumption) | exact pr23 (by assumption) | exact pe23 (by assumption))
  (k_with "zu ne" => (refine neN ?_; (try dsimp only); first | (with_reducible first | assumption | exact Ne.symm (by assumption) | exact Nat.ne_of_lt (by assumption) | exact Nat.ne_of_gt (by assumption) | ((fail_if_success (fail_if_success (refine nA (by assumption) ?_))); walk_at "u pr") | ((fail_if_success (fail_if_success (refine nB (by assumption) ?_))); refine Ne.symm ?_; walk_at "u pr") | ((fail_if_success (fail_if_success (refine lA (by assumption) ?_))); refine Nat.ne_of_lt ?_; walk_at "u pr") | ((fail_if_success (fail_if_success (refine lB (by assumption) ?_))); refine Nat.ne_of_gt ?_; walk_at "u pr")) | omega))
  (k_with "zu len" => ((repeat (first | assumption | exact Nat.le_refl _ | refine Nat.le_trans (by assumption) ?_)); done))
  (k_with "zu om" => first | (with_reducible assumption) | (with_reducible walk_at "u len") | (with_reducible ((repeat (rename (_ ≠ _ ∧ _) => kx; clear kx)); (repeat (rename (_ < _ ∧ _) => kx; clear kx))); omega))
  (k_with "zcall type:tuple" => row_timed "z" (fail "z"; (k_here; (with_reducible show wpAny _ _ (call (Value.type _) [Value.ref _]) _ _ _); k_dflt (refine' kde_tupleOf ?Zk1 ?Zk2 ?Zk3 ?Zk4 ?Zk5 ?_; (case Zk1 => k_asm); (case Zk2 => k_asm); (case Zk3 => exact News.isList (by k_asm) (by kcf_m)); (case Zk4 => (simp only [List.size_toArray]; first | assumption | walk_at "u om")); (case Zk5 => exact rfl); k_whole); intro ZD' Zh' ZF' ZN' Zl1; (try k_sweep))))
  (k_with "zcall builtin:list.pop" => row_timed "z" (fail "z"; (k_here; (with_reducible show wpAny _ _ (call (Value.builtin _) [Value.ref _, Value.int 0 _]) _ _ _); k_dflt (refine' pop0 ?ZF ?ZN ?ZU ?Zz ?_; (case ZF => k_asm); (case ZN => k_asm); (case ZU => k_upd); (case Zz => (simp only [List.length_cons] at *; walk_at "u om")); k_whole); intro Zh' ZF' ZN'; (try k_sweep))))
  (k_with "zsubscriptTail Name Name ref int" => row_timed "z" (fail "z"; (k_here; (with_reducible show wpAny _ _ (subscriptTail _ _ (Value.ref _) (Value.int _ _)) _ _ _); (fail_if_success (with_reducible show wpAny _ _ (subscriptTail _ _ (Value.ref _) (Value.int (OfNat.ofNat _) _)) _ _ _)); (with_unfolding_all refine' pickK ?Zk3 ?Zk4 ?Zk5 ?Zk6 ?_ ?Zk7; (case Zk3 => exact News.isList (by k_asm) (by kcf_m)); (case Zk4 => walk_at "u om"); (case Zk5 => (simp only [List.length_cons, List.length_nil]; walk_at "u om")); (case Zk6 => walk_at "u om"); (case Zk7 => with_unfolding_all rfl); k_whole); (dsimp only [PickAt]); k_places; (all_goals (try k_fold)))))
  (k_with "zsubscriptTail Name Call ref int" => walk_at "subscriptTail Name Name ref int")
  (k_with "zsubscriptTail List" => (k_here; k_dflt (refine kba_turn (value' := PySem.Expr.Name (PySem.Str.ofString "_") ⟨0, 0, 0, 0⟩) (fun _ => rfl) ?_)))
  (k_with "zsubscriptTail Tuple" => walk_at "subscriptTail List")
  (k_with "zsubscriptTail Name Slice ref ref" => row_timed "z" (fail "z"; (k_here; (with_reducible show wpAny _ _ (subscriptTail _ (PySem.Expr.Slice none (some _) none _) (Value.ref _) (Value.ref _)) _ _ _); k_dflt (first
  | (refine' slice_tuple_upto (b := 1) ?ZF ?ZN ?Zl ?Zi ?Zb ?Zz ?_ ?Zs ?Zt; (case ZF => k_asm); (case ZN => k_asm); (case Zl => exact News.isTup (by k_asm) (by kcf_m)); (case Zi => exact rfl); (case Zb => first | exact Nat.le_of_ble_eq_true rfl | ((simp only [List.length_cons]); walk_at "u om")); (case Zz => first | exact Nat.le_of_ble_eq_true rfl | ((simp only [List.length_cons]); walk_at "u om")); (case Zs => with_unfolding_all rfl); (case Zt => (intro _; with_unfolding_all rfl)); intro ZD' Zh' ZF' ZN' Zl1)
  | (refine' slice_tuple_upto (b := 2) ?ZF ?ZN ?Zl ?Zi ?Zb ?Zz ?_ ?Zs ?Zt; (case ZF => k_asm); (case ZN => k_asm); (case Zl => exact News.isTup (by k_asm) (by kcf_m)); (case Zi => exact rfl); (case Zb => first | exact Nat.le_of_ble_eq_true rfl | ((simp only [List.length_cons]); walk_at "u om")); (case Zz => first | exact Nat.le_of_ble_eq_true rfl | ((simp only [List.length_cons]); walk_at "u om")); (case Zs => with_unfolding_all rfl); (case Zt => (intro _; with_unfolding_all rfl)); intro ZD' Zh' ZF' ZN' Zl1)
  | (refine' slice_tuple_upto (b := 3) ?ZF ?ZN ?Zl ?Zi ?Zb ?Zz ?_ ?Zs ?Zt; (case ZF => k_asm); (case ZN => k_asm); (case Zl => exact News.isTup (by k_asm) (by kcf_m)); (case Zi => exact rfl); (case Zb => first | exact Nat.le_of_ble_eq_true rfl | ((simp only [List.length_cons]); walk_at "u om")); (case Zz => first | exact Nat.le_of_ble_eq_true rfl | ((simp only [List.length_cons]); walk_at "u om")); (case Zs => with_unfolding_all rfl); (case Zt => (intro _; with_unfolding_all rfl)); intro ZD' Zh' ZF' ZN' Zl1)
  | (refine' slice_tuple_whole (b := 2) ?ZF ?ZN ?Zl ?Zi ?Zb ?_ ?Zs ?Zt; (case ZF => k_asm); (case ZN => k_asm); (case Zl => exact News.isTup (by k_asm) (by kcf_m)); (case Zi => exact rfl); (case Zb => exact Nat.le_of_ble_eq_true rfl); (case Zs => with_unfolding_all rfl); (case Zt => (intro _; with_unfolding_all rfl)); intro Zh' ZF' ZN')
  | (refine' slice_tuple_whole (b := 3) ?ZF ?ZN ?Zl ?Zi ?Zb ?_ ?Zs ?Zt; (case ZF => k_asm); (case ZN => k_asm); (case Zl => exact News.isTup (by k_asm) (by kcf_m)); (case Zi => exact rfl); (case Zb => exact Nat.le_of_ble_eq_true rfl); (case Zs => with_unfolding_all rfl); (case Zt => (intro _; with_unfolding_all rfl)); intro Zh' ZF' ZN')); (try dsimp only [List.take]); (try k_sweep))))
  (k_with "zsubscriptTail Name Constant ref int" => row_timed "z" (fail "z"; (k_here; (with_reducible show wpAny _ _ (subscriptTail _ _ (Value.ref _) (Value.int _ _)) _ _ _); (with_unfolding_all refine' item_tupleL ?Zk1 ?Zk2 ?Zk3 ?Zk4 ?Zk5 ?_ ?Zk6 ?Zk7; (case Zk1 => exact News.isTup (by k_asm) (by kcf_m)); (case Zk2 => decide); (case Zk3 => decide); (case Zk4 => exact rfl); (case Zk5 => exact rfl); (case Zk6 => with_unfolding_all rfl); (case Zk7 => (intro _; with_unfolding_all rfl)); k_whole))))
  (k_with "zcall type:list" => row_timed "z" (fail "z"; (k_here; (with_reducible show wpAny _ _ (call (Value.type _) [Value.ref _]) _ _ _); (with_unfolding_all refine' list_copyKT ?Zk1 ?Zk2 ?Zk3 ?_ ?Zz; (case Zk1 => k_asm); (case Zk2 => k_asm); (case Zk3 => exact News.isTup (by k_asm) (by kcf_m)); (case Zz => (simp only [List.size_toArray, List.length_cons, List.length_nil, sizeLine_eq]; walk_at "u om")); k_whole); intro ZD' Zc' Zh' ZF' ZN' Zl1; (have Zl0' := LtAll.of Zl1); (try k_lt Zl1); (try k_sweep))))
  (k_with "zCompSrc" => row_timed "z" (fail "z"; (k_here; k_dflt (first
  | (refine LCg.CompSrc.ledger (by assumption) (by k_asm) (by k_asm) (by kcf_m) (by first | size_fits | exact Nat.le_of_ble_eq_true rfl) ?_; intro Zg'; lcg_lit)
  | (refine LCg.CompSrc.range (by assumption) (by k_asm) (by k_asm) (by assumption) (by first | decide | rfl) (by first | rfl | decide) (by first | size_fits | exact Nat.le_of_ble_eq_true rfl) ?_; intro Zg'; lcg_lit)))))
  (k_with "zsubscriptTail Name Name ref int" => walk_at "subscriptTail Name Constant ref int")
  (k_with "zCompRest" => row_timed "z" (fail "z"; (k_here; (with_unfolding_all first
  | (refine LCg.CompRest.succ ?_; intro Zv' ZI' ZoI' ZC' ZoC' ZD' Zm' Zh' Ztk' ZE' Zhv' ZhC' Zhx' ZF' ZN' Zoff' Zne'; (first | lcg_open Zhv' | (obtain ⟨Zt9', Zhv9'⟩ := Zhv'; subst Zhv9')); (try k_sweep))
  | refine LCg.CompRest.zero ?_))))
  (k_with "zCompEnd" => row_timed "z" (fail "z"; (k_here; (rename News _ _ _ _ => ZnE9); (rename LCg.Off3 _ _ _ _ => ZoE9); refine LCg.CompEnd.intro (by assumption) ZnE9 _ (fun _ h => h) ZoE9 (by first | exact True.intro | exact Or.inr ⟨_, by kcf_m, rfl, _, rfl⟩) ?_)))
  (k_with "zFinE" => row_timed "z" (fail "z"; (k_here; (unfold LCg.FinE); intro ZD' Zh' Ztk' ZF' ZN' Zo1'; (try simp only [List.nil_append, List.cons_append] at ZN'); (try dsimp only); (try k_sweep))))
  (k_with "zcall builtin:list.append" => row_timed "z" (fail "z"; (k_here; (with_reducible show wpAny _ _ (call (Value.builtin _) [Value.ref _, _]) _ _ _); k_dflt (refine' append_T ?Zk1 ?Zk2 ?Zk3 ?Zz ?_; (case Zk1 => k_asm); (case Zk2 => k_asm); (case Zk3 => k_upd); (case Zz => ((try simp only [List.length_append, List.length_cons, List.length_nil] at *); walk_at "u om")); k_whole); intro Zh' ZF' ZN'; (try k_sweep))))
  (k_with "zsubscriptTail Name Constant ref int" => row_timed "z" (fail "z"; (k_here; (with_reducible show wpAny _ _ (subscriptTail _ _ (Value.ref _) (Value.int 0 _)) _ _ _); (with_unfolding_all refine' item_head ?Zk1 ?_ ?Zk6 ?Zk7; (case Zk1 => exact News.isTup (by k_asm) (by kcf_m)); (case Zk6 => with_unfolding_all rfl); (case Zk7 => (intro _; with_unfolding_all rfl)); k_whole))))
  (k_with "zu pick" => (((repeat' (first | exact Pick.head | refine' Pick.tail ?_ )); first | done | fail "left open")))
  (k_with "zu split" => (((repeat' (first | exact Split.base | refine' Split.keep ⟨rfl, ⟨_, _, rfl⟩⟩ ?_ | refine' Split.app (by assumption) ?_ | refine' Split.skip ?_)); first | done | fail "left open")))
  (k_with "zu sub" => (((repeat' (first | exact fun _ h => h | exact List.forall_mem_nil _ | refine List.forall_mem_append.mpr ⟨?_, ?_⟩ | refine List.forall_mem_cons.mpr ⟨?_, ?_⟩ | kcf_m | (intro p9 h9; kcf_m))); first | done | fail "left open")))
  (k_with "zu subt" => (((unfold TSub); (repeat' (first | exact fun _ h _ => h | exact List.forall_mem_nil _ | refine List.forall_mem_append.mpr ⟨?_, ?_⟩ | refine List.forall_mem_cons.mpr ⟨?_, ?_⟩ | exact notTup rfl (by decide) | exact notTup (by assumption) (by decide) | exact notCell (by assumption) | (intro _; kcf_m) | (intro p9 h9 _; kcf_m))); first | done | fail "left open")))
  (k_with "zu ht" => with_reducible first | exact ht_k (by assumption))
  (k_with "zu dep" => (refine dep_deeper (by assumption) ?_; first | exact Nat.le_of_ble_eq_true rfl | walk_at "u ht" | exact up_n rfl | exact dep_s))
  (k_with "zu uni" => (refine uni_deeper (by assumption) ?_; first | exact Nat.le_of_ble_eq_true rfl | (refine up_3 ?_; walk_at "u ht") | exact up_u rfl | exact uni_s))
  (k_with "zu frame" => (refine' ⟨?cB, ?cF, ?cX, ?cT, ?cA, ?cf, ?ce, ?cH, ?cd, ?cu⟩; (case cB => k_asm); (case cF => k_asm); (case cX => k_asm); (case cT => k_asm); (case cA => first | exact frames_of (by assumption) | exact rfl); (case cf => exact rfl); (case ce => exact rfl); (case cH => first | exact rfl | assumption); (case cd => first | walk_at "u dep" | ((try simp only [depth_under_make, depth_under_kw, depth_in1, depth_deeper, depth_caller, Mine.T.ht] at *); omega)); (case cu => first | walk_at "u uni" | ((try simp only [units_in1, units_deeper, Around.mark_units, units_caller, Mine.T.ht] at *); omega))))
  (k_with "zcall ref" => (k_here; (with_reducible show wpAny _ _ (call (Value.ref _) _) _ _ _); refine Halt.mk ?_))
  (k_with "zsubscriptTail Name Constant ref int" => row_timed "z" (fail "z"; (k_here; (with_reducible show wpAny _ _ (subscriptTail _ _ (Value.ref _) (Value.int _ _)) _ _ _); (with_unfolding_all refine' listItem ?Zk1 ?Zk2 ?Zk3 ?Zk4 ?_ ?Zk6; (case Zk1 => exact News.isList (by k_asm) (by kcf_m)); (case Zk2 => decide); (case Zk3 => decide); (case Zk4 => exact rfl); (case Zk6 => with_unfolding_all rfl); k_whole))))
  (k_with "zsubscriptTail Name Slice ref ref" => row_timed "z" (fail "z"; (k_here; (with_reducible show wpAny _ _ (subscriptTail _ (PySem.Expr.Slice (some _) none none _) (Value.ref _) (Value.ref _)) _ _ _); k_dflt (refine' slice_tuple_fromK (a := 3) ?ZF ?ZN ?Zl ?Zi ?Zo ?Zb ?Zz ?_ ?Zs ?Zt; (case ZF => k_asm); (case ZN => k_asm); (case Zl => exact News.isTup (by k_asm) (by kcf_m)); (case Zi => exact rfl); (case Zo => decide); (case Zb => exact Nat.le_of_ble_eq_true rfl); (case Zz => exact Nat.le_of_ble_eq_true rfl); (case Zs => with_unfolding_all rfl); (case Zt => (intro _; with_unfolding_all rfl)); intro ZD' Zh' ZF' ZN' Zl1); (try dsimp only [List.drop] at ZN'); (try k_sweep))))
  (k_with "zpyIter ref" => row_timed "z" (fail "z"; (k_here; (with_reducible show wpAny _ _ (pyIter (Value.ref _)) (fun it s₂ => LoopAtV _ _ _ _ _ _ _ _ _ it s₂) _ _); (rename Fr _ _ _ _ => ZlF'); (with_unfolding_all first
  | (refine' seq_list ?Zhh ZlF' ?ZN ?Zhm ?_; (case ZN => k_asm); (case Zhm => kcf_m); (case Zhh => assumption); k_whole)
  | (refine' seq_tuple ?Zhh ZlF' ?ZN ?Zhm ?_; (case ZN => k_asm); (case Zhm => kcf_m); (case Zhh => assumption); k_whole)); intro Zi' Zl1; (have Zl0' := LtAll.of Zl1); (try k_lt Zl1))))
  (k_with "zSeqRest" => row_timed "z" (fail "z"; (k_here; (with_unfolding_all first | (refine SeqRest.succ (fun Zit' Zh' Ztk' Zhit' ZF' ZN' => ?_)) | (refine SeqRest.zero (fun Zh' Ztk' ZF' ZN' => ?_))); (try k_sweep))))
  (k_with "zUnrEnd" => row_timed "z" (fail "z"; (k_here; (rename Fr _ _ _ _ => ZuF9); (rename News _ _ _ _ => ZuN9); (with_unfolding_all refine' unrEnd ZuF9 ZuN9 ?Zpk ?Zoff ⟨?Zlm, ?_⟩; (case Zpk => walk_at "u pick"); (case Zoff => ((repeat' (first | exact List.forall_mem_nil _ | exact offTups (by assumption) (by assumption) (by decide) | exact offLt (by assumption) (by walk_at "u sub") | refine List.forall_mem_append.mpr ⟨?_, ?_⟩ | refine List.forall_mem_cons.mpr ⟨?_, ?_⟩ | exact offCls (by assumption) rfl (by decide) | exact Or.inl (by k_ne))); first | done | fail "left open")); (case Zlm => kcf_m)))))
  (k_with "zeval Name" => row_timed "z" (fail "z"; (k_here; (fail_if_success (fail_if_success (with_reducible rename ((_ : Str → Option Value) (Str.ofString _) = some _) => ZgX))); k_dflt (refine' ld ?Zk1 ?Zk2 ?_; (case Zk1 => k_asm); (case Zk2 => assumption); k_whole))))
  (k_with "zloadName" => row_timed "z" (fail "z"; (k_here; (fail_if_success (fail_if_success (with_reducible rename ((_ : Str → Option Value) (Str.ofString _) = some _) => ZgX))); k_dflt (refine' ldL ?Zk1 ?Zk2 ?_ ?Zk3 ?Zk4; (case Zk1 => k_asm); (case Zk2 => assumption); (case Zk3 => exact rfl); (case Zk4 => exact rfl); k_whole))))
  (k_with "zcall ref" => row_timed "z" (fail "z"; (k_here; (with_reducible show wpAny _ _ (call (Value.ref 75) _) _ _ _); k_dflt (refine' Run.useK (inside_run (NAt.mono ?Zma ?Zmb)) listEl ?Zfr ?ZcN ?_; (case ZcN => k_asm); (case Zma => assumption); (case Zmb => walk_at "u subt"); (case Zfr => walk_at "u frame"); k_whole); (k_dflt (intro Ztl9 Zl9 Zn9 Zts9 Zne9 Znf9 Zh9 Ztk9 ZF9 ZN9); (try dsimp only [LCg.Off1] at Znf9); (try dsimp only [List.cons_append, List.nil_append] at ZN9); (try k_sweep); (try dsimp only)))))
  (k_with "zcall ref" => row_timed "z" (fail "z"; (k_here; (with_reducible show wpAny _ _ (call (Value.ref 82) _) _ _ _); k_dflt (refine' Run.useK (OrderAt.use ?ZcG (TIn.mono ?Zma ?Zmb) ?Zcl ?Zcn) orderEl ?Zfr ?ZcN ?_; (case ZcN => (refine' News.pick ?Zpk ?Zpn; (case Zpn => k_asm); (case Zpk => walk_at "u pick"))); (case Zma => assumption); (case ZcG => assumption); (case Zmb => walk_at "u subt"); (case Zcl => ((try simp only [List.length_append, Mine.T.size] at *); walk_at "u om")); (case Zcn => k_all); (case Zfr => walk_at "u frame"); k_whole); (k_dflt (intro Zr9 Ztl9 Zgs9 Zn9 Zts9 Zne9 Zta9 Zgl9 Zh9 Ztk9 ZF9 ZN9); (try dsimp only [List.cons_append, List.nil_append] at ZN9); (try k_sweep); (try dsimp only)))))
  (k_with "zcall ref" => row_timed "z" (fail "z"; (k_here; (with_reducible show wpAny _ _ (call (Value.ref 21) _) _ _ _); k_dflt (refine' Run.useK (children_run (NAt.mono ?Zma ?Zmb)) childEl ?Zfr ?ZcN ?_; (case ZcN => k_asm); (case Zma => assumption); (case Zmb => walk_at "u subt"); (case Zfr => walk_at "u frame"); k_whole); (k_dflt (intro Ztl9 Zc9 Zn9 Zts9 Zm9 Zh9 Ztk9 ZF9 ZN9); (try dsimp only [List.cons_append, List.nil_append] at ZN9); (try dsimp only [List.cons_append, List.nil_append] at Zm9); (repeat (replace Zm9 := mem_skip Zm9 (by show Value.type "tuple" ≠ Value.type "list"; decide))); (try k_sweep); (try dsimp only)))))
  (k_with "zcall ref" => row_timed "z" (fail "z"; (k_here; (with_reducible show wpAny _ _ (call (Value.ref 28) _) _ _ _); k_dflt (refine' Run.useK (with_children_run (NAt.mono ?Zma ?Zmb) ?Zmq ?Zml) nodeEl ?Zfr ?ZcN ?_; (case ZcN => k_asm); (case Zma => assumption); (case Zmb => walk_at "u subt"); (case Zmq => kcf_m); (case Zml => first | exact rfl | assumption); (case Zfr => walk_at "u frame"); k_whole); (k_dflt (intro Za9 Ztl9 Zts9 Zna9 Zh9 Ztk9 ZF9 ZN9); (try dsimp only [List.cons_append, List.nil_append] at ZN9); (try dsimp only [List.cons_append, List.nil_append] at Zna9); (try k_sweep); (try dsimp only)))))
  (k_with "zcall ref" => row_timed "z" (fail "z"; (k_here; (with_reducible show wpAny _ _ (call (Value.ref 89) _) _ _ _); k_dflt (refine' Run.useK (renamed_run (NAt.mono ?Zma ?Zmb)) nodeEl ?Zfr ?ZcN ?_; (case ZcN => k_asm); (case Zma => assumption); (case Zmb => walk_at "u subt"); (case Zfr => walk_at "u frame"); k_whole); (k_dflt (intro Za9 Ztl9 Zts9 Zna9 Zh9 Ztk9 ZF9 ZN9); (try dsimp only [List.cons_append, List.nil_append] at ZN9); (try k_sweep); (try dsimp only)))))
  (k_with "zcall ref" => row_timed "z" (fail "z"; (k_here; (with_reducible show wpAny _ _ (call (Value.ref 42) [_, Value.ref 89]) _ _ _); k_dflt (refine' Run.useK (MapRAt.use ?ZcG (TIn.mono ?Zma ?Zmb)) mapREl ?Zfr ?ZcN ?_; (case ZcN => k_asm); (case Zma => assumption); (case ZcG => assumption); (case Zmb => walk_at "u subt"); (case Zfr => walk_at "u frame"); k_whole); (k_dflt (intro Za9 Ztl9 Zts9 Zta9 Zh9 Ztk9 ZF9 ZN9); (try dsimp only [List.cons_append, List.nil_append] at ZN9); (try k_sweep); (try dsimp only)))))
  exact True.intro
theorem kw74 : True := by
  (k_with "zexecs cons If" => row_timed "z" (fail "z"; (k_here; (with_reducible show wpAny _ _ (execs (Stmt.If (Expr.Compare (Expr.Name _ _) [CmpOp.Eq] [Expr.Constant (Const.str _) _ _] _) _ [] _ :: _) _) _ _ _); k_dflt (refine' tag_skip ?ZF ?Zv ?Zn ?_ ?Zk ?Zx ?Zd; (case ZF => k_asm); (case Zv => exact rfl); (case Zn => decide); (case Zk => exact rfl); (case Zx => exact rfl); (case Zd => decide); k_whole))))
  exact True.intro
theorem kw75 : True := by
  (k_with "zexecs cons If" => row_timed "z" (fail "z"; (k_here; (with_reducible show wpAny _ _ (execs (Stmt.If (Expr.BoolOp BoolOp.Or [Expr.Compare (Expr.Name _ _) [CmpOp.Eq] [Expr.Constant (Const.str _) _ _] _, Expr.Compare _ _ _ _] _) _ [] _ :: _) _) _ _ _); k_dflt (refine' tag_skip2 ?ZF ?Zv ?Zn ?Zn2 ?_ ?Zk ?Zx ?Zd; (case ZF => k_asm); (case Zv => exact rfl); (case Zn => decide); (case Zn2 => decide); (case Zk => exact rfl); (case Zx => exact rfl); (case Zd => decide); k_whole))))
  exact True.intro
theorem kw76 : True := by
  (k_with "zeval Subscript" => row_timed "z" (fail "z"; (k_here; (with_reducible show wpAny _ _ (eval (Expr.Subscript (Expr.Name _ _) (Expr.Constant (Const.int _) _ _) _) _) _ _ _); k_dflt (first
  | (refine' sub_tup ?ZF ?Zv ?ZN ?Zm ?Zb ?Zi ?_ ?Zk ?Zx ?Zd; (case ZF => k_asm); (case Zv => exact rfl); (case ZN => k_asm); (case Zm => kcf_m); (case Zb => exact rfl); (case Zi => exact rfl); (case Zk => exact rfl); (case Zx => exact rfl); (case Zd => decide); k_whole)
  | (refine' sub_lst ?ZF ?Zv ?ZN ?Zm ?Zb ?Zi ?_ ?Zk ?Zx ?Zd; (case ZF => k_asm); (case Zv => exact rfl); (case ZN => k_asm); (case Zm => kcf_m); (case Zb => exact rfl); (case Zi => exact rfl); (case Zk => exact rfl); (case Zx => exact rfl); (case Zd => decide); k_whole)))))
  exact True.intro
theorem kw77 : True := by
  (k_with "zcall ref" => row_timed "z" (fail "z"; (k_here; (with_reducible show wpAny _ _ (call (Value.ref 63) _) _ _ _); k_dflt (refine' Run.useK (plate_run ?ZcI ?Zcl ?Zck ?ZcK ?Zcn) plateEl ?Zfr ?ZcN ?_; (case ZcN => (refine' News.pick ?Zpk ?Zpn; (case Zpn => k_asm); (case Zpk => (repeat' (first | exact Pick.head | refine' Pick.tail ?_))))); (case ZcI => assumption); (case Zcl => walk_at "u om"); (case Zck => first | decide | walk_at "u om"); (case ZcK => first | decide | walk_at "u om"); (case Zcn => k_all); (case Zfr => walk_at "u frame"); k_whole); (k_dflt (intro Zx9 Zt9 Zvs9 Zns9 Zn9 Zlo9 Zhi9 ZI9 Zlen9 Zh9 Ztk9 ZF9 ZN9); (try k_sweep); (try dsimp only)))))
  exact True.intro
theorem kw78 : True := by
  (k_with "zcall ref" => row_timed "z" (fail "z"; (k_here; (with_reducible show wpAny _ _ (call (Value.ref 70) _) _ _ _); k_dflt (refine' Run.useK (GrownAt.use ?ZcG ?Zck ?ZcK ?ZcI ?Zcl ?Zcn) grownEl ?Zfr ?ZcN ?_; (case ZcN => (refine' News.pick ?Zpk ?Zpn; (case Zpn => k_asm); (case Zpk => walk_at "u pick"))); (case ZcG => assumption); (case Zck => first | decide | walk_at "u om"); (case ZcK => first | decide | walk_at "u om"); (case ZcI => assumption); (case Zcl => walk_at "u om"); (case Zcn => k_all); (case Zfr => walk_at "u frame"); k_whole); (k_dflt (intro Zr9 Zx9 Ztl9 Zvs9 Zns9 Zn9 Zts9 Zne9 ZI9 Zlen9 Zti9 Zht9 Zh9 Ztk9 ZF9 ZN9); (try k_sweep); (try dsimp only)))))
  exact True.intro
theorem kw79 : True := by
  (k_with "zexec For Name Subscript cons nil" => row_timed "z" (fail "z"; (k_here; (rename Fr _ _ _ _ => ZlF'); (with_unfolding_all refine' For_invVF ZlF' ?Zk1 ?Zk2 ?_; (case Zk1 => exact rfl); (case Zk2 => exact rfl); k_whole))))
  exact True.intro
theorem kw80 : True := by
  (k_with "zsubscriptTail Name Slice ref ref" => row_timed "z" (fail "z"; (k_here; (with_reducible show wpAny _ _ (subscriptTail _ (PySem.Expr.Slice none (some _) none _) (Value.ref _) (Value.ref _)) _ _ _); k_dflt (refine' kmk_slice_ints ?ZF ?ZN ?Zl ?Zp ?Zq ?Zi ?Zm ?Zc ?_ ?Zs ?Zt ?Zz; (case ZF => k_asm); (case ZN => k_asm); (case Zl => first | exact News.isList (by k_asm) (by kcf_m) | exact Fr.lst (by assumption) (by assumption)); (case Zp => kmk_part); (case Zq => kmk_part); (case Zi => assumption); (case Zm => exact kmk_upto (by assumption) (by decide)); (case Zc => exact rfl); (case Zs => with_unfolding_all rfl); (case Zt => kmk_pure); (case Zz => ((rw [List.size_toArray, sizeLine_eq]); walk_at "u om"))); intro ZD' Zws' Zh' ZF' ZN' Zl1 ZhI' ZhC' ZhL'; (have Zl0' := LtAll.of Zl1); (have ZhQ' := IntsAre.length ZhI'); (try simp only [List.length_take] at ZhQ'); (try k_lt Zl1); (try k_sweep))))
  exact True.intro
theorem kw81 : True := by
  (k_with "zinplaceOp Add ref" => row_timed "z" (fail "z"; (k_here; (with_reducible show wpAny _ _ (inplaceOp Operator.Add (Value.ref _) (Value.ref _)) _ _ _); k_dflt (refine' iadd_T ?Zk1 ?Zk2 ?Zkb ?Zk3 ?Zz ?_; (case Zk1 => k_asm); (case Zk2 => k_asm); (case Zkb => kcf_m); (case Zk3 => (intro _; k_upd)); (case Zz => ((simp only [List.length_append, List.length_cons, List.length_nil] at *); walk_at "u om")); k_whole); intro Zh' Zc' ZF' ZN'; (try dsimp only at ZN'); (try k_sweep))))
  exact True.intro
theorem kw82 : True := by
  (k_with "zcall ref" => row_timed "z" (fail "z"; (k_here; (with_reducible show wpAny _ _ (call (Value.ref 89) _) _ _ _); k_dflt (refine' Run.useK (renamed_run (NAt.mono ?Zma ?Zmb)) nodeEl ?Zfr ?ZcN ?_; (case ZcN => k_asm); (case Zma => assumption); (case Zmb => walk_at "u subt"); (case Zfr => walk_at "u frame"); k_whole); (k_dflt (intro Za9 Ztl9 Zts9 Zna9 Zh9 Ztk9 ZF9 ZN9); (try dsimp only [Mine.Kind.ren] at Zna9); (try cases Zna9); (try dsimp only [List.cons_append, List.nil_append] at ZN9); (try k_sweep); (try dsimp only)))))
  exact True.intro
theorem kw83 : True := by
  (k_with "zcall ref" => row_timed "z" (fail "z"; (k_here; (with_reducible show wpAny _ _ (call (Value.ref 96) _) _ _ _); k_dflt (refine' Run.useK (FlatAt.use ?ZcG (TIn.mono ?Zma ?Zmb) ?Zcl) flatEl ?Zfr ?ZcN ?_; (case ZcN => k_asm); (case Zma => assumption); (case ZcG => assumption); (case Zmb => walk_at "u subt"); (case Zcl => walk_at "u om"); (case Zfr => walk_at "u frame"); k_whole); (k_dflt (intro Ztl9 Zl9 Zgs9 Zn9 Zts9 Zne9 Znf9 Zca9 Zgl9 Zh9 Ztk9 ZF9 ZN9); (try dsimp only [LCg.Off1] at Znf9); (try dsimp only [List.cons_append, List.nil_append] at ZN9); (try k_sweep); (try dsimp only)))))
  exact True.intro
theorem kw84 : True := by
  (k_with "znewList" => row_timed "z" (fail "z"; (k_here; k_dflt (refine' newList_K ?Zk1 ?Zk2 ?_; (case Zk1 => k_asm); (case Zk2 => k_asm); k_whole); intro Zl' Zh' ZF' ZN' Zl1; (have Zl0' := LtAll.of Zl1); (try k_lt Zl1); (try k_sweep))))
  exact True.intro
theorem kw85 : True := by
  (k_with "zFnAt" => (k_dflt (exact NotedIn.fnAt (by k_asm) (by assumption) (by walk_at "u sub"))))
  exact True.intro
theorem kw86 : True := by
  (k_with "zcallWith ref" => row_timed "z" (fail "z"; (k_here; k_dflt (refine' callWith_F ?Zk1 ?_; (case Zk1 => exact NotedIn.fnAt (by k_asm) (by assumption) (by walk_at "u sub")); k_whole))))
  exact True.intro
theorem kw87 : True := by
  (k_with "zeval Name" => row_timed "z" (fail "z"; (k_here; (with_reducible show wpAny _ _ (eval (Expr.Name (Str.ofString "met") _) _) _ _ _); k_dflt (refine' nameX_F ?ZN ?Zc ?Zm ?Zd ?_ ?Za ?Zb; (case Za => rfl); (case Zb => rfl); (case ZN => k_asm); (case Zc => rfl); (case Zm => kcf_m); (case Zd => assumption); k_whole))))
  exact True.intro
theorem kw88 : True := by
  (k_with "zcall ref" => row_timed "z" (fail "z"; (k_here; (with_reducible show wpAny _ _ (call (Value.ref _) [_]) _ _ _); k_dflt (refine' Run.useK (noted_run (NotedIn.mono ?ZhN ?Zhs) ?Zhn ?Zhz) notedEl ?Zfr ?ZcN ?_; (case ZhN => assumption); (case ZcN => (refine' News.pick ?Zpk ?Zpn; (case Zpn => k_asm); (case Zpk => walk_at "u pick"))); (case Zhs => walk_at "u sub"); (case Zhn => k_all); (case Zhz => ((try simp only [List.length_append, Mine.T.size] at *); walk_at "u om")); (case Zfr => walk_at "u frame"); k_whole); (k_dflt (intro Zn9 Zh9 Ztk9 ZF9 ZN9); (try k_sweep); (try dsimp only)))))
  exact True.intro
theorem kw89 : True := by
  (k_with "zcall ref" => row_timed "z" (fail "z"; (k_here; (with_reducible show wpAny _ _ (call (Value.ref 42) [_, Value.ref _]) _ _ _); k_dflt (refine' Run.useK (MapNAt.use ?ZcG (TIn.mono ?Zma ?Zmb) (NotedIn.mono ?ZhN ?Zhs) ?Zcl ?Zcn) mapNEl ?Zfr ?ZcN ?_; (case Zma => assumption); (case ZcG => assumption); (case ZhN => assumption); (case ZcN => (refine' News.pick ?Zpk ?Zpn; (case Zpn => k_asm); (case Zpk => walk_at "u pick"))); (case Zmb => walk_at "u subt"); (case Zhs => walk_at "u sub"); (case Zcl => ((try simp only [List.length_append, Mine.T.size] at *); walk_at "u om")); (case Zcn => k_all); (case Zfr => walk_at "u frame"); k_whole); (k_dflt (intro Za9 Ztl9 Zgs9 Zn9 Zts9 Zne9 Zta9 Zti9 Zgl9 Zh9 Ztk9 ZF9 ZN9); (try dsimp only [List.cons_append, List.nil_append] at ZN9); (try k_sweep); (try dsimp only)))))
  exact True.intro
theorem kw90 : True := by
  (k_with "zcall type:reversed" => row_timed "z" (fail "z"; (k_here; (with_reducible show wpAny _ _ (call (Value.type _) [Value.ref _]) _ _ _); k_dflt (refine' kde_rvd ?ZF ?ZN ?Zl ?Zz ?_; (case ZF => k_asm); (case ZN => k_asm); (case Zl => kcf_m); (case Zz => first | exact Nat.le_of_ble_eq_true rfl | walk_at "u om")); intro ZD' Zh' Ztk' ZF' ZN' Zl1; (have Zl0' := LtAll.of Zl1); (try k_lt Zl1); (try k_sweep))))
  exact True.intro
theorem kw91 : True := by
  (k_with "zpyIter ref" => row_timed "z" (fail "z"; (k_here; (with_reducible show wpAny _ _ (pyIter (Value.ref _)) (fun it s₂ => LoopAtV _ _ _ _ _ _ _ _ _ it s₂) _ _); (rename Fr _ _ _ _ => ZlF'); (rename News _ _ _ _ => ZlN'); (with_unfolding_all refine' seq_rvd ?Zhh ZlF' (News.pick ?Zpk ZlN') ?Zhm ?Zz ?Zhf ?_; (case Zpk => exact Pick.head); (case Zhh => assumption); (case Zhm => kcf_m); (case Zz => first | exact Nat.le_of_ble_eq_true rfl | walk_at "u om"); (case Zhf => exact ltAll_ne' (by assumption) (by walk_at "u sub"))); clear ZlF' ZlN'; (try simp only [List.reverse_cons, List.reverse_nil, List.nil_append, List.cons_append]))))
  exact True.intro
theorem kw92 : True := by
  (k_with "zexec While Name cons nil" => (k_here; refine Halt.mk ?_))
  exact True.intro
theorem kw93 : True := by
  (k_with "zcall builtin:list.pop" => row_timed "z" (fail "z"; (k_here; (with_reducible show wpAny _ _ (call (Value.builtin _) [Value.ref _]) _ _ _); k_dflt (refine' pop_T ?ZF ?ZN ?ZU ?Zz ?_; (case ZF => k_asm); (case ZN => k_asm); (case ZU => k_upd); (case Zz => walk_at "u om"); k_whole); intro Zh' ZF' ZN'; (try k_sweep))))
  exact True.intro
theorem kw94 : True := by
  (k_with "ztruthy ref" => row_timed "z" (fail "z"; (k_here; (with_reducible show wpAny _ _ (truthy (Value.ref _)) _ _ _); (with_unfolding_all refine' truthy_T ?Zk1 ?Zk2 ?_; (case Zk1 => exact News.isList (by k_asm) (by kcf_m)); (case Zk2 => walk_at "u om"); k_whole))))
  exact True.intro
--deps PH PT P0 PL PI P1 P2 P3 P4 P5 P6 P7 P8 P9 PA PR PE PB
theorem notFields {a : Addr} {o : Obj} {v : Array Value} {P : Prop} (ho : o.data = .fields v) : IsTupO (a, o).2 → P := fun h => by
  obtain ⟨_, vs, n, hx⟩ := h
  have hx' : o.data = .seq vs n := hx
  rw [ho] at hx'
  cases hx'
theorem notFunc {a : Addr} {o : Obj} {v : FuncData} {P : Prop} (ho : o.data = .func v) : IsTupO (a, o).2 → P := fun h => by
  obtain ⟨_, vs, n, hx⟩ := h
  have hx' : o.data = .seq vs n := hx
  rw [ho] at hx'
  cases hx'
theorem kw95 : True := by
  (k_with "zu subtx" => (((unfold TSub); (repeat' (first | exact fun _ h _ => h | exact List.forall_mem_nil _ | refine List.forall_mem_append.mpr ⟨?_, ?_⟩ | refine List.forall_mem_cons.mpr ⟨?_, ?_⟩ | exact notTup rfl (by decide) | exact notTup (by assumption) (by decide) | exact notCell (by assumption) | exact notFields rfl | exact notFields (by assumption) | exact notFunc rfl | (intro _; kcf_m) | (intro p9 h9 _; kcf_m))); first | done | fail "left open")))
  exact True.intro
theorem kw96 : True := by
  (k_with "zcompareOp NotEq ref ref" => (k_here; refine Halt.mk ?_))
  exact True.intro
theorem kw97 : True := by
  (k_with "zcompareOp NotEq ref ref" => row_timed "z" (fail "z"; (k_here; (with_reducible show wpAny _ _ (compareOp _ _ _) _ _ _); k_dflt (refine' ne_T ?ZN (TIn.mono ?Zha ?Zsa) (TIn.mono ?Zhb ?Zsb) ?Zht ?Zhu ?_; (case ZN => k_asm); (case Zha => assumption); (case Zsa => walk_at "u subt"); (case Zhb => assumption); (case Zsb => walk_at "u subt"); (case Zht => walk_at "u om"); (case Zhu => ((try simp only [units_in1, units_deeper, Around.mark_units, units_caller] at *); walk_at "u om")); k_whole))))
  exact True.intro
theorem kw98 : True := by
  (k_with "zcompareOp NotEq ref ref" => row_timed "z" (fail "z"; (k_here; (with_reducible show wpAny _ _ (compareOp _ (Value.ref _) (Value.ref _)) _ _ _); k_dflt (refine' ne_TAll ?ZN ?Zma ?Zmb (TAll.mono ?Zha ?Zsa) (TAll.mono ?Zhb ?Zsb) ?Zht ?Zhu ?_; (case ZN => k_asm); (case Zma => kcf_m); (case Zmb => kcf_m); (case Zha => assumption); (case Zsa => walk_at "u subt"); (case Zhb => assumption); (case Zsb => walk_at "u subt"); (case Zht => assumption); (case Zhu => ((try simp only [units_in1, units_deeper, Around.mark_units, units_caller] at *); walk_at "u om")); k_whole))))
  exact True.intro
theorem kw99 : True := by
  (k_with "zcall ref" => row_timed "z" (fail "z"; (k_here; (with_reducible show wpAny _ _ (call (Value.ref 28) _) _ _ _); k_dflt (refine' Run.useK (with_children_run (NAt.mono ?Zma ?Zmb) ?Zmq ?Zml) nodeEl ?Zfr ?ZcN ?_; (case ZcN => k_asm); (case Zma => assumption); (case Zmb => walk_at "u subt"); (case Zmq => kcf_m); (case Zml => first | exact rfl | assumption); (case Zfr => walk_at "u frame"); k_whole); (k_dflt (intro Za9 Ztl9 Zts9 Zna9 Zh9 Ztk9 ZF9 ZN9); (try dsimp only [List.cons_append, List.nil_append] at ZN9); (try dsimp only [List.cons_append, List.nil_append] at Zna9); k_dflt (try (have Zti9 := TIn.closed Zna9 (TAll.mono (by assumption) (by walk_at "u subt")))); (try k_sweep); (try dsimp only)))))
  exact True.intro
theorem stack_use {w : World} {sc : Addr} {vs : List Value} {ns : List Int} {p : Program} {loose : List Str} {mean : ExcName → Option Value} {mg mb : Str → Option Value} {A A₀ : Around} {env : Env} {outer : List Env} {base h₀ : Heap} {L : Addr} {m : Str → Option Value} {s : Shared} {Q E : Value → Shared → Prop} {news : Led}
    (hI : IntsAre vs ns) (hl : vs.length ≤ 63) (hS : h₀.IsList sc vs.toArray) (fr : FrameOk w p loose mean mg mb A A₀ env outer base h₀ L m s.heap 2 200) (N : News h₀ L s.heap news)
    (ret : ∀ l xs ms c h' tk', IntsAre xs ms → xs.length ≤ 1000 → LCg.Off1 l news → Fr h₀ L h' m → News h₀ L h' ((l, listOf xs.toArray c) :: news) → Q (.ref l) { s with heap := h', toks := tk' }) :
    wpAny (model PySem.Challenge.rw_on0085_01.row.prog w) A (call (.ref 56) [.ref sc]) Q E s :=
  stack_run hI hl _ _ _ _ _ _ _ _ _ _ _ _ _ _ _ _ _ hS fr.B fr.F fr.X N fr.T fr.hA fr.hf fr.hke fr.hh fr.hd fr.hu (by
    rintro r news' h' tk' F N ⟨l, xs, ms, c, rfl, h1, h2, h3, rfl⟩
    exact ret l xs ms c h' tk' h1 h2 (off1_of h3) F N)
theorem kw100 : True := by
  (k_with "zcall ref" => row_timed "z" (fail "z"; (k_here; (with_reducible show wpAny _ _ (call (Value.ref 56) _) _ _ _); k_dflt (refine' stack_use ?ZcI ?Zcl ?ZcS ?Zfr ?ZcN ?_; (case ZcN => k_asm); (case ZcI => assumption); (case Zcl => (have ZhLen9 := IntsAre.length (by assumption); walk_at "u om")); (case ZcS => assumption); (case Zfr => walk_at "u frame"); k_whole); (intro Zl9 Zxs9 Zms9 Zc9 Zh9 Ztk9 ZI9 Zlen9 Znf9 ZF9 ZN9; (try dsimp only [LCg.Off1] at Znf9); (try k_sweep); (try dsimp only)))))
  exact True.intro
theorem kw101 : True := by
  (k_with "zcall ref" => row_timed "z" (fail "z"; (k_here; (with_reducible show wpAny _ _ (call (Value.ref 70) _) _ _ _); k_dflt (refine' Run.useK (GrownAt.use (grown_run 3) ?Zck ?ZcK ?ZcI ?Zcl ?Zcn) grownEl ?Zfr ?ZcN ?_; (case ZcN => (refine' News.pick ?Zpk ?Zpn; (case Zpn => k_asm); (case Zpk => walk_at "u pick"))); (case Zck => decide); (case ZcK => decide); (case ZcI => assumption); (case Zcl => walk_at "u om"); (case Zcn => k_all); (case Zfr => walk_at "u frame"); k_whole); (k_dflt (intro Zr9 Zx9 Ztl9 Zvs9 Zns9 Zn9 Zts9 Zne9 ZI9 Zlen9 Zti9 Zht9 Zh9 Ztk9 ZF9 ZN9); (try dsimp only [List.cons_append, List.nil_append] at ZN9); (try dsimp only [List.cons_append, List.nil_append] at Zti9); (try k_sweep); (try dsimp only)))))
  exact True.intro
theorem compByJ {prog : Program} {w : World} {A : Around} {s : Shared} {h₀ : Heap} {L : Addr} {m : Str → Option Value} {env : Env} {elt : Expr} {x : Str} {scope : Scope} {cl : List (Str × Addr)} {S : Led → Prop} {P : Nat → Value → Prop} {Fin : List Value → Led → Prop}
    (J : Nat → Nat → List Value → Led → Prop) (h0 : ∀ i ys news, J 0 i ys news → Fin ys news)
    (hs : ∀ k i ys news, J (k + 1) i ys news → ∀ v I oI C oC D m₂ h tk (E' : Value → Shared → Prop), P i v → LCg.NsObj oC m₂ → m₂ x = some v → Fr h₀ L h m → News h₀ L h ((I, oI) :: (C, oC) :: (D, LCg.lst ys) :: news) → LCg.Off3 I C D news → ((@Ne Nat I C) ∧ (@Ne Nat I D) ∧ (@Ne Nat C D)) →
      wpAny (model prog w) A (eval elt (compEnvC scope cl C env)) (LCg.CompEnd h₀ L m { s with heap := h, toks := tk } I oI C oC D (LCg.lst ys) S (fun y news' => J k (i + 1) (ys ++ [y]) news')) E' { s with heap := h, toks := tk }) :
    ∀ k i ys news, J k i ys news → LCg.CompRest prog w A h₀ L m env elt x scope cl s S P Fin k i ys news
  | 0, i, ys, news, hJ => h0 i ys news hJ
  | k + 1, i, ys, news, hJ => fun v I oI C oC D m₂ h tk E' hP hC hx F N off ne => wpAny_mono (hs k i ys news hJ v I oI C oC D m₂ h tk E' hP hC hx F N off ne) (fun y s₂ p => by
      obtain ⟨h', tk', news', e, F', N', o, sS, j⟩ := p
      exact ⟨h', tk', news', e, F', N', o, sS, compByJ J h0 hs k (i + 1) _ _ j⟩) fun _ _ e => e
theorem len_T {prog : Program} {w : World} {A : Around} {E : Value → Shared → Prop} {s : Shared} {h₀ : Heap} {L l : Addr} {news : Led} {vs : List Value} {n : Nat} {Q : Value → Shared → Prop} (N : News h₀ L s.heap news) (hm : (l, listOf vs.toArray n) ∈ news) (hz : vs.length ≤ 10000) (h : ∀ t tk, Q (.int vs.length t) { s with toks := tk }) :
    wpAny (model prog w) A (call (.builtin "len") [.ref l]) Q E s := by
  refine PySem.Calls.call_len_list (items := vs.toArray) ⟨_, (N _ hm).1, rfl, n, rfl⟩ (by rw [List.size_toArray]; omega) ?_
  have e : ((vs.toArray.size : Nat) : Int) = (vs.length : Int) := by simp
  rw [e]
  exact h _ _
theorem kw102 : True := by
  (k_with "zcall builtin:len" => row_timed "z" (fail "z"; (k_here; (with_reducible show wpAny _ _ (call (Value.builtin _) [Value.ref _]) _ _ _); k_dflt (refine' len_T ?ZN ?Zm ?Zz ?_; (case ZN => k_asm); (case Zm => kcf_m); (case Zz => walk_at "u om"); k_whole); intro Zt' Ztk')))
  exact True.intro
theorem kw103 : True := by
  (k_with "zcall type:range" => row_timed "z" (fail "z"; (k_here; (with_reducible show wpAny _ _ (call (Value.type _) [Value.int _ _]) _ _ _); k_dflt (refine' range1_rows ?ZF ?ZN ?_; (case ZF => k_asm); (case ZN => k_asm); k_whole); intro Zh' Ztk' Zt1' Zu1' Zv1' ZR' ZF' ZN' Zk')))
  exact True.intro
theorem kw104 : True := by
  (k_with "zexec Assign cons ListComp" => (k_here; k_dflt (refine LCg.Assign_ListComp_U (F₀ := by k_asm) (by rfl) (by with_unfolding_all rfl) (by rfl) (by decide) (by rfl) (by decide) (by rfl) (by rfl) (by rfl) ?_); k_dflt lcg_toSrc))
  exact True.intro
theorem kw105 : True := by
  (k_with "zCompSrc" => (k_here; refine Halt.mk ?_))
  exact True.intro
def marksT (i : Nat) : List T := (List.range i).map fun (j : Nat) => T.n0 (.const 1 (0 + (j : Int)) 0)
def MarksJ (len : Nat) (base : Led) (k i : Nat) (ys : List Value) (n : Led) : Prop := i + k = len ∧ ∃ tl, n = base ++ tl ∧ Tups tl ∧ TAll n ys (marksT i)
theorem marksT_len (i : Nat) : (marksT i).length = i := by simp [marksT]
theorem marksT_ht (i : Nat) : ∀ t ∈ marksT i, t.ht ≤ 20 := by
  intro t ht
  simp only [marksT, List.mem_map] at ht
  obtain ⟨j, _, rfl⟩ := ht
  exact Nat.zero_le _
theorem marksEnd {h₀ : Heap} {L I C D a : Addr} {m : Str → Option Value} {s₁ : Shared} {oI oC oD : Obj} {h' : Heap} {tk : Nat} {base tl : Led} {len k i n : Nat} {ys : List Value} {t0 t1 t2 t3 : Tok} 
    (F : Fr h₀ L h' m) (N : News h₀ L h' ((a, tupOf [.str (Str.ofString "const") t0, .int 1 t1, .int (0 + (i : Int)) t2, .int 0 t3] n) :: (I, oI) :: (C, oC) :: (D, oD) :: (base ++ tl))) (off : LCg.Off3 I C D (base ++ tl))
    (h1 : @Ne Nat a I) (h2 : @Ne Nat a C) (h3 : @Ne Nat a D) (hik : i + (k + 1) = len) (ht : Tups tl) (hall : TAll (base ++ tl) ys (marksT i)) :
    LCg.CompEnd h₀ L m s₁ I oI C oC D oD (fun _ => True) (fun y news' => MarksJ len base k (i + 1) (ys ++ [y]) news') (.ref a) { s₁ with heap := h', toks := tk } := by
  refine LCg.CompEnd.intro F N (base ++ (tl ++ [(a, tupOf [.str (Str.ofString "const") t0, .int 1 t1, .int (0 + (i : Int)) t2, .int 0 t3] n)])) (fun p hp => ?_) (LCg.Off3.of fun p hp => ?_) trivial ⟨by omega, _, rfl, tups_app ht (tups_one ⟨rfl, _, _, rfl⟩), ?_⟩
  · simp only [List.mem_cons, List.mem_append, List.not_mem_nil, or_false] at hp ⊢
    rcases hp with h | h | h | h | h | h <;> simp [h]
  · rw [← List.append_assoc] at hp
    rcases List.mem_append.mp hp with hp | hp
    · exact off.mem p hp
    · rw [List.mem_singleton.mp hp]; exact ⟨h1, h2, h3⟩
  · have e : marksT (i + 1) = marksT i ++ [T.n0 (.const 1 (0 + (i : Int)) 0)] := by simp [marksT, List.range_succ]
    rw [e]
    refine TAll.app (hall.mono fun q hq _ => ?_) (.cons (.n0 (NAt.const (t0 := t0) (t1 := t1) (t2 := t2) (t3 := t3) (n := n) ?_)) .nil)
    · rw [← List.append_assoc]; exact List.mem_append.mpr (.inl hq)
    · simp
theorem law_cut {h₀ h : Heap} {L : Addr} {a b1 b2 b3 b4 p c2 c1 tb : Addr × Obj} {TL : Led} {v : Value} {t : T} (N : News h₀ L h (a :: b1 :: b2 :: b3 :: b4 :: p :: c2 :: c1 :: tb :: TL)) (hT : TIn TL v t) (hs : Tups TL) :
    ∃ TL', News h₀ L h (a :: p :: c2 :: c1 :: tb :: TL') ∧ Tups TL' ∧ TIn TL' v t :=
  ⟨TL, News.sub N (by
    intro q hq
    simp only [List.mem_cons] at hq ⊢
    rcases hq with h | h | h | h | h | h <;> simp [h]), hs, hT⟩
local macro_rules | `(tactic| k_all) => `(tactic| exact ne_tups (by k_asm) (by assumption) (by walk_at "u sub") (by kcf_m) (by show Value.none ≠ Value.type "tuple"; decide))

--deps PH PT P0 PL PI P1 P2 P3 P4 P5 P6 P7 P8 P9 PA PR PE PB PC PF
theorem T.size_le (t : T) : 2 * t.size + 1 ≤ 3 ^ (t.ht + 1) := by
  induction t with
  | n0 k => simp [T.size, T.ht]
  | n1 k a ia =>
    have e : 3 ^ (a.ht + 1 + 1) = 3 * 3 ^ (a.ht + 1) := by rw [Nat.pow_succ, Nat.mul_comm]
    simp only [T.size, T.ht, e]
    omega
  | n2 k a b ia ib =>
    have e : 3 ^ (max a.ht b.ht + 1 + 1) = 3 * 3 ^ (max a.ht b.ht + 1) := by rw [Nat.pow_succ, Nat.mul_comm]
    have h1 : 3 ^ (a.ht + 1) ≤ 3 ^ (max a.ht b.ht + 1) := Nat.pow_le_pow_right (Nat.le_of_ble_eq_true rfl) (Nat.succ_le_succ (Nat.le_max_left _ _))
    have h2 : 3 ^ (b.ht + 1) ≤ 3 ^ (max a.ht b.ht + 1) := Nat.pow_le_pow_right (Nat.le_of_ble_eq_true rfl) (Nat.succ_le_succ (Nat.le_max_right _ _))
    simp only [T.size, T.ht, e]
    replace ia := Nat.le_trans ia h1
    replace ib := Nat.le_trans ib h2
    clear h1 h2 e
    revert ia ib
    generalize 3 ^ (max a.ht b.ht + 1) = z
    omega
  | n3 k a b c ia ib ic =>
    have e : 3 ^ (max (max a.ht b.ht) c.ht + 1 + 1) = 3 * 3 ^ (max (max a.ht b.ht) c.ht + 1) := by rw [Nat.pow_succ, Nat.mul_comm]
    have h1 : 3 ^ (a.ht + 1) ≤ 3 ^ (max (max a.ht b.ht) c.ht + 1) := Nat.pow_le_pow_right (Nat.le_of_ble_eq_true rfl) (Nat.succ_le_succ (Nat.le_trans (Nat.le_max_left _ _) (Nat.le_max_left _ _)))
    have h2 : 3 ^ (b.ht + 1) ≤ 3 ^ (max (max a.ht b.ht) c.ht + 1) := Nat.pow_le_pow_right (Nat.le_of_ble_eq_true rfl) (Nat.succ_le_succ (Nat.le_trans (Nat.le_max_right _ _) (Nat.le_max_left _ _)))
    have h3 : 3 ^ (c.ht + 1) ≤ 3 ^ (max (max a.ht b.ht) c.ht + 1) := Nat.pow_le_pow_right (Nat.le_of_ble_eq_true rfl) (Nat.succ_le_succ (Nat.le_max_right _ _))
    simp only [T.size, T.ht, e]
    replace ia := Nat.le_trans ia h1
    replace ib := Nat.le_trans ib h2
    replace ic := Nat.le_trans ic h3
    clear h1 h2 h3 e
    revert ia ib ic
    generalize 3 ^ (max (max a.ht b.ht) c.ht + 1) = z
    omega
theorem T.size_40 {t : T} (h : t.ht ≤ 3) : t.size ≤ 40 := by
  have h1 := t.size_le
  have h2 : 3 ^ (t.ht + 1) ≤ 3 ^ 4 := Nat.pow_le_pow_right (by omega) (by omega)
  omega
theorem T.ren_ht (t : T) : t.ren.ht = t.ht := by induction t <;> simp_all [T.ren, T.ht]
theorem T.ren_size (t : T) : t.ren.size = t.size := by induction t <;> simp_all [T.ren, T.size]
def SubK (t : T) (rest : Led) (S : Value → Led → Prop) : Prop := ∀ l gs n, LCg.Off1 l rest → TAll rest gs t.pre → gs.length = t.size → S (.ref l) ((l, listOf gs.toArray n) :: rest)
theorem subEl {t : T} {rest : Led} (S : Value → Led → Prop) (h : SubK t rest S) (r : Value) (news' : Led) (P : SubPost t.pre rest r news') : S r news' := by
  obtain ⟨l, gs, n, rfl, rfl, h1, h2⟩ := P
  exact h l gs n (off1_of h1) h2 (h2.length.trans t.pre_length)
theorem kw106 : True := by
  (k_with "zcall ref" => row_timed "z" (fail "z"; (k_here; (with_reducible show wpAny _ _ (call (Value.ref 42) [_, Value.ref _]) _ _ _); k_dflt (refine' Run.useK (MapNAt.use (mapn_run _) (TIn.mono ?Zma ?Zmb) ?ZhN ?Zcl ?Zcn) mapNEl ?Zfr ?ZcN ?_; (case ZcN => (refine' News.pick ?Zpk ?Zpn; (case Zpn => k_asm); (case Zpk => walk_at "u pick"))); (case Zma => assumption); (case Zmb => walk_at "u subt"); (case ZhN => (refine' ⟨_, _, _, _, _, _, _, _, _, _, ?Zn1, ?Zn2, ?Zn3, ?Zn4, ?Zn5, ?Zn6⟩; (case Zn1 => kcf_m); (case Zn2 => kcf_m); (case Zn3 => assumption); (case Zn4 => assumption); (case Zn5 => kcf_m); (case Zn6 => assumption))); (case Zcl => ((try simp only [List.length_nil] at *); walk_at "u om")); (case Zcn => k_all); (case Zfr => walk_at "u frame"); k_whole); (k_dflt (intro Za9 Ztl9 Zgs9 Zn9 Zts9 Zne9 Zta9 Zti9 Zgl9 Zh9 Ztk9 ZF9 ZN9); (try dsimp only [List.cons_append, List.nil_append] at ZN9); (try k_sweep); (try dsimp only)))))
  exact True.intro
theorem kw107 : True := by
  (k_with "zcall ref" => row_timed "z" (fail "z"; (k_here; (with_reducible show wpAny _ _ (call (Value.ref 82) _) _ _ _); k_dflt (refine' Run.useK (OrderAt.use (order_run _) (TIn.mono ?Zma ?Zmb) ?Zcl ?Zcn) orderEl ?Zfr ?ZcN ?_; (case ZcN => (refine' News.pick ?Zpk ?Zpn; (case Zpn => k_asm); (case Zpk => walk_at "u pick"))); (case Zma => assumption); (case Zmb => walk_at "u subt"); (case Zcl => ((try simp only [List.length_nil] at *); walk_at "u om")); (case Zcn => k_all); (case Zfr => walk_at "u frame"); k_whole); (k_dflt (intro Zr9 Ztl9 Zgs9 Zn9 Zts9 Zne9 Zta9 Zgl9 Zh9 Ztk9 ZF9 ZN9); (try dsimp only [List.cons_append, List.nil_append] at ZN9); (try k_sweep); (try dsimp only)))))
  exact True.intro
theorem kw108 : True := by
  (k_with "zcall ref" => row_timed "z" (fail "z"; (k_here; (with_reducible show wpAny _ _ (call (Value.ref 35) _) _ _ _); k_dflt (refine' Run.useK (sub_run (TIn.mono ?Zma ?Zmb) ?Zcl) subEl ?Zfr ?ZcN ?_; (case ZcN => k_asm); (case Zma => assumption); (case Zmb => walk_at "u subt"); (case Zcl => ((try simp only [Mine.T.ren_size] at *); walk_at "u om")); (case Zfr => walk_at "u frame"); k_whole); (k_dflt (intro Zl9 Zgs9 Zn9 Znf9 Zta9 Zgl9 Zh9 Ztk9 ZF9 ZN9); (try dsimp only [LCg.Off1] at Znf9); (try dsimp only [List.cons_append, List.nil_append] at ZN9); (try k_sweep); (try dsimp only)))))
  exact True.intro
theorem kw109 : True := by
  (k_with "zcall ref" => row_timed "z" (fail "z"; (k_here; (with_reducible show wpAny _ _ (call (Value.ref 42) [_, Value.ref 89]) _ _ _); k_dflt (refine' Run.useK (MapRAt.use (mapr_run _) (TIn.mono ?Zma ?Zmb)) mapREl ?Zfr ?ZcN ?_; (case ZcN => k_asm); (case Zma => assumption); (case Zmb => walk_at "u subt"); (case Zfr => walk_at "u frame"); k_whole); (k_dflt (intro Za9 Ztl9 Zts9 Zti9 Zh9 Ztk9 ZF9 ZN9); (try dsimp only [List.cons_append, List.nil_append] at ZN9); (try k_sweep); (try dsimp only)))))
  exact True.intro

--deps PH PT P0 PL PI P1 P2 P3 P4 P5 P6 P7 P8 P9 PA PR PE PB PC PF PG
theorem TAll.at {I : Led} {vs : List Value} {ts : List T} (h : TAll I vs ts) : ∀ {i : Nat} {v : Value}, vs[i]? = some v → ∃ t, ts[i]? = some t ∧ TIn I v t := by
  induction h with
  | nil => intro i v e; simp at e
  | cons a _ ih =>
    intro i v e
    cases i with
    | zero => simp at e; subst e; exact ⟨_, by simp, a⟩
    | succ j => simp at e; simpa using ih e
theorem ren_kind (t : T) : t.ren.kind = t.kind.ren := by cases t <;> rfl
theorem ren_flat (t : T) : t.ren.pre.map T.kind = t.flat := by
  induction t <;> simp_all [T.ren, T.pre, T.flat, T.kind]
theorem NAt.three {I : Led} {v : Value} {k : Kind} {cs : List Value} (h : NAt I v k cs) :
    (∃ a n t0 t1 t2 w x, v = .ref a ∧ k = .sig w x ∧ (a, tupOf [.str (Str.ofString "sig") t0, .int w t1, .int x t2] n) ∈ I) ∨
    (∃ a n t0 t1 t2 w x b c, v = .ref a ∧ k = .word w x b ∧ (a, tupOf [.str (Str.ofString "word") t0, .int w t1, .int x t2, c, .bool b] n) ∈ I) ∨
    (k.plain = true ∧ k.tag ≠ Str.ofString "sig" ∧ k.tag ≠ Str.ofString "word" ∧ ∃ a t0 t1 y r n, v = .ref a ∧ r.length ≤ 5 ∧ (a, tupOf (.str k.tag t0 :: .int k.wid t1 :: y :: r) n) ∈ I) := by
  cases hk : k.plain with
  | true => exact .inr (.inr ⟨rfl, (plain_tag hk).1, (plain_tag hk).2, h.view⟩)
  | false =>
    cases h
    case sig hm => exact .inl ⟨_, _, _, _, _, _, _, rfl, rfl, hm⟩
    case word hm => exact .inr (.inl ⟨_, _, _, _, _, _, _, _, _, rfl, rfl, hm⟩)
    all_goals simp [Kind.plain] at hk
def KeptJ (ks : List Kind) (base : Led) (k i : Nat) (ys : List Value) (n : Led) : Prop := i + k = ks.length ∧ ∃ tl, n = base ++ tl ∧ Tups tl ∧ CAll n ys (ks.take i)
theorem keptEnd {h₀ h : Heap} {L I C D a ax : Addr} {m : Str → Option Value} {s₁ : Shared} {oI oC oD o : Obj} {tk : Nat} {base tl all : Led} {ks : List Kind} {kd : Kind} {k i n : Nat} {vs ys : List Value}
    (F : Fr h₀ L h m) (N : News h₀ L h all) (off : LCg.Off3 I C D (base ++ tl)) (hx : (ax, listOf vs.toArray n) ∈ base) {led : Led} (hlt : ∀ p ∈ led, p.1 < a) (hI : (I, oI) ∈ led) (hC : (C, oC) ∈ led) (hD : (D, oD) ∈ led) (ho : IsTupO o) (hik : i + (k + 1) = ks.length) (ht : Tups tl) (hall : CAll (base ++ tl) ys (ks.take i)) (hk : ks[i]? = some kd)
    (hc : CutAt [(a, o)] (.ref a) kd) (hsub : ∀ p ∈ (a, o) :: (I, oI) :: (C, oC) :: (D, oD) :: (base ++ tl), p ∈ all) :
    LCg.CompEnd h₀ L m s₁ I oI C oC D oD (LCg.SrcAt h₀ ax vs.toArray) (fun y news' => KeptJ ks base k (i + 1) (ys ++ [y]) news') (.ref a) { s₁ with heap := h, toks := tk } := by
  have h1 : @Ne Nat a I := fun e => Nat.lt_irrefl _ (e ▸ hlt _ hI)
  have h2 : @Ne Nat a C := fun e => Nat.lt_irrefl _ (e ▸ hlt _ hC)
  have h3 : @Ne Nat a D := fun e => Nat.lt_irrefl _ (e ▸ hlt _ hD)
  have hm1 : ∀ q ∈ base ++ tl, q ∈ base ++ (tl ++ [(a, o)]) := fun q hq => by rw [← List.append_assoc]; exact List.mem_append.mpr (.inl hq)
  refine LCg.CompEnd.intro F N (base ++ (tl ++ [(a, o)])) (fun p hp => hsub p ?_) (LCg.Off3.of fun p hp => ?_) (Or.inr ⟨_, List.mem_append.mpr (.inl hx), rfl, _, rfl⟩) ⟨by omega, _, rfl, tups_app ht (tups_one ho), ?_⟩
  · simp only [List.mem_cons, List.mem_append, List.not_mem_nil, or_false] at hp ⊢
    rcases hp with h | h | h | h | h | h <;> simp [h]
  · rw [← List.append_assoc] at hp
    rcases List.mem_append.mp hp with hp | hp
    · exact off.mem p hp
    · rw [List.mem_singleton.mp hp]; exact ⟨h1, h2, h3⟩
  · have e : ks.take (i + 1) = ks.take i ++ [kd] := by rw [List.take_add_one, hk]; rfl
    rw [e]
    refine CAll.app (hall.mono fun q hq _ => hm1 q hq) (.cons (hc.mono fun q hq _ => ?_) .nil)
    rw [List.mem_singleton.mp hq]
    simp
theorem kw110 : True := by
  (k_with "zcall ref" => row_timed "z" (fail "z"; (k_here; (with_reducible show wpAny _ _ (call (Value.ref 96) _) _ _ _); k_dflt (refine' Run.useK (FlatAt.use (flat_run _ ?ZcG) (TIn.mono ?Zma ?Zmb) ?Zcl) flatEl ?Zfr ?ZcN ?_; (case ZcN => k_asm); (case Zma => assumption); (case ZcG => assumption); (case Zmb => walk_at "u subt"); (case Zcl => walk_at "u om"); (case Zfr => walk_at "u frame"); k_whole); (k_dflt (intro Ztl9 Zl9 Zgs9 Zn9 Zts9 Zne9 Znf9 Zca9 Zgl9 Zh9 Ztk9 ZF9 ZN9); (try dsimp only [LCg.Off1] at Znf9); (try dsimp only [List.cons_append, List.nil_append] at ZN9); (try k_sweep); (try dsimp only)))))
  exact True.intro
theorem kw111 : True := by
  (k_with "zcompareOp NotEq ref ref" => row_timed "z" (fail "z"; (k_here; (with_reducible show wpAny _ _ (compareOp _ (Value.ref _) (Value.ref _)) _ _ _); k_dflt (refine' ne_CAll ?ZN ?Zma ?Zmb (CAll.mono ?Zha ?Zsa) (CAll.mono ?Zhb ?Zsb) ?Zhu ?_; (case ZN => k_asm); (case Zma => kcf_m); (case Zmb => kcf_m); (case Zha => assumption); (case Zsa => walk_at "u subtx"); (case Zhb => assumption); (case Zsb => walk_at "u subtx"); (case Zhu => ((try simp only [units_in1, units_deeper, Around.mark_units, units_caller] at *); walk_at "u om")); k_whole))))
  exact True.intro
theorem keptEnd0 {h₀ h : Heap} {L I C D a ax : Addr} {m : Str → Option Value} {s₁ : Shared} {oI oC oD : Obj} {tk : Nat} {base tl all : Led} {ks : List Kind} {kd : Kind} {k i n : Nat} {vs ys : List Value}
    (F : Fr h₀ L h m) (N : News h₀ L h all) (off : LCg.Off3 I C D (base ++ tl)) (hx : (ax, listOf vs.toArray n) ∈ base) (hik : i + (k + 1) = ks.length) (ht : Tups tl) (hall : CAll (base ++ tl) ys (ks.take i)) (hk : ks[i]? = some kd)
    (hc : CutAt base (.ref a) kd) (hsub : ∀ p ∈ (I, oI) :: (C, oC) :: (D, oD) :: (base ++ tl), p ∈ all) :
    LCg.CompEnd h₀ L m s₁ I oI C oC D oD (LCg.SrcAt h₀ ax vs.toArray) (fun y news' => KeptJ ks base k (i + 1) (ys ++ [y]) news') (.ref a) { s₁ with heap := h, toks := tk } := by
  refine LCg.CompEnd.intro F N (base ++ tl) (fun p hp => hsub p hp) off (Or.inr ⟨_, List.mem_append.mpr (.inl hx), rfl, _, rfl⟩) ⟨by omega, _, rfl, ht, ?_⟩
  have e : ks.take (i + 1) = ks.take i ++ [kd] := by rw [List.take_add_one, hk]; rfl
  rw [e]
  exact CAll.app hall (.cons (hc.mono fun q hq _ => List.mem_append.mpr (.inl hq)) .nil)
theorem law_cut2 {h₀ h : Heap} {L : Addr} {a b1 b2 b3 b4 b5 b6 b7 b8 p c2 c1 tb : Addr × Obj} {TL : Led} (N : News h₀ L h (a :: b1 :: b2 :: b3 :: b4 :: b5 :: b6 :: b7 :: b8 :: p :: c2 :: c1 :: tb :: TL)) :
    News h₀ L h [a, p, c2, c1, tb] := News.sub N (by
    intro q hq
    simp only [List.mem_cons, List.not_mem_nil, or_false] at hq ⊢
    rcases hq with h | h | h | h | h <;> simp [h])
theorem notin_two {prog : Program} {w : World} {A : Around} {E : Value → Shared → Prop} {s : Shared} {t : Addr} {x a b : Str} {u ta tb : Tok} {Q : Value → Shared → Prop} (ht : IsTup s.heap t #[.str a ta, .str b tb]) (h1 : x ≠ a) (h2 : x ≠ b) (h : Q (.bool false) s) :
    wpAny (model prog w) A (compareOp .In (.str x u) (.ref t)) Q E s :=
  in_tuple_strs ht (.cons _ _ (.cons _ _ .nil)) (by rw [show [a, b].any (· == x) = false by simp [Ne.symm h1, Ne.symm h2]]; exact h)
theorem kw112 : True := by
  (k_with "zcompareOp In str ref" => row_timed "z" (fail "z"; (k_here; (with_reducible show wpAny _ _ (compareOp CmpOp.In (Value.str _ _) (Value.ref _)) _ _ _); k_dflt (refine' notin_two ?Zk1 ?Zk2 ?Zk3 ?_; (case Zk1 => exact News.isTup (by k_asm) (by kcf_m)); (case Zk2 => assumption); (case Zk3 => assumption); k_whole))))
  exact True.intro

--deps PH PT P0 PL PI P1 P2 P3 P4 P5 P6 P7 P8 P9 PA PR PE PB PC PF PG PK
theorem kw113 : True := by
  (k_with "zexec For Name Call cons nil" => row_timed "z" (fail "z"; (k_here; (rename Fr _ _ _ _ => ZlF'); (with_unfolding_all refine' For_invVF ZlF' ?Zk1 ?Zk2 ?_; (case Zk1 => exact rfl); (case Zk2 => exact rfl); k_whole))))
  exact True.intro
theorem kw114 : True := by
  (k_with "zpyIter ref" => (k_here; (with_reducible show wpAny _ _ (pyIter (Value.ref _)) _ _ _); refine Halt.mk ?_))
  exact True.intro
structure Hid (P : Prop) : Prop where
  go : P
theorem kw115 : True := by
  (k_with "zUnrEnd" => (k_here; refine Halt.mk ?_))
  exact True.intro
theorem kw116 : True := by
  (k_with "zeval Name" => row_timed "z" (fail "z"; (k_here; k_dflt (refine' nameX_L ?ZF ?Zv ?_ ?Za ?Zb; (case Za => rfl); (case Zb => rfl); (case ZF => k_asm); (case Zv => first | rfl | assumption); k_whole))))
  exact True.intro
theorem kw117 : True := by
  (k_with "zeval Name" => row_timed "z" (fail "z"; (k_here; (with_reducible show wpAny _ _ (eval (Expr.Name (Str.ofString "parts") _) _) _ _ _); k_dflt (refine' nameX_C ?ZN ?Zc ?Zm ?Zd ?_ ?Za ?Zb; (case Za => rfl); (case Zb => rfl); (case ZN => k_asm); (case Zc => rfl); (case Zm => kcf_m); (case Zd => assumption); k_whole))))
  exact True.intro
theorem kw118 : True := by
  (k_with "zcallWith ref" => row_timed "z" (fail "z"; (k_here; k_dflt (refine' callWith_K ?Zk1 ?Zk2 ?_; (case Zk1 => k_asm); (case Zk2 => k_is); k_whole))))
  exact True.intro
theorem kw119 : True := by
  (k_with "zeval Name" => row_timed "z" (fail "z"; (k_here; (with_reducible show wpAny _ _ (eval (Expr.Name (Str.ofString "met") _) _) _ _ _); k_dflt (refine' nameX_C ?ZN ?Zc ?Zm ?Zd ?_ ?Za ?Zb; (case Za => rfl); (case Zb => rfl); (case ZN => k_asm); (case Zc => rfl); (case Zm => kcf_m); (case Zd => assumption); k_whole))))
  exact True.intro

--deps PH PT P0 PL PI P1 P2 P3 P4 P5 P6 P7 P8 P9 PA PR PE PB PC PF PG PK PM
/-- one part of the target: is it a signal, and its key -/
inductive PAt (I : Led) : Value → Bool × Int → Prop
  | sig {a n t0 t1 t2 x y} : (a, tupOf [.str (Str.ofString "sig") t0, .int 2 t1, .int x t2, .none, y] n) ∈ I → PAt I (.ref a) (true, x)
  | loc {a n t0 t1 t2 x y} : (a, tupOf [.str (Str.ofString "local") t0, .int 2 t1, .int x t2, .none, y] n) ∈ I → PAt I (.ref a) (false, x)
theorem PAt.mono {I J : Led} {v : Value} {p : Bool × Int} (h : PAt I v p) (hs : TSub I J) : PAt J v p := by
  cases h with
  | sig h => exact .sig (hs _ h ⟨rfl, _, _, rfl⟩)
  | loc h => exact .loc (hs _ h ⟨rfl, _, _, rfl⟩)
inductive PAll (I : Led) : List Value → List (Bool × Int) → Prop
  | nil : PAll I [] []
  | cons {v p vs ps} : PAt I v p → PAll I vs ps → PAll I (v :: vs) (p :: ps)
theorem PAll.mono {I J : Led} {vs : List Value} {ps : List (Bool × Int)} (h : PAll I vs ps) (hs : TSub I J) : PAll J vs ps := by
  induction h with
  | nil => exact .nil
  | cons a _ ih => exact .cons (a.mono hs) ih
theorem PAll.app {I : Led} {vs us : List Value} {ps qs : List (Bool × Int)} (h : PAll I vs ps) (k : PAll I us qs) : PAll I (vs ++ us) (ps ++ qs) := by
  induction h with
  | nil => exact k
  | cons a _ ih => exact .cons a ih
theorem PAll.length {I : Led} {vs : List Value} {ps : List (Bool × Int)} (h : PAll I vs ps) : vs.length = ps.length := by
  induction h with
  | nil => rfl
  | cons _ _ ih => simp [ih]
theorem PAll.at {I : Led} {vs : List Value} {ps : List (Bool × Int)} (h : PAll I vs ps) : ∀ {i : Nat} {v : Value}, vs[i]? = some v → ∃ p, ps[i]? = some p ∧ PAt I v p := by
  induction h with
  | nil => intro i v e; simp at e
  | cons a _ ih =>
    intro i v e
    cases i with
    | zero => simp at e; subst e; exact ⟨_, by simp, a⟩
    | succ j => simp at e; simpa using ih e
def PartsJ (pa pl : Addr) (base : Led) (n : Nat) (k i : Nat) (m : Str → Option Value) (news : Led) : Prop :=
  ∃ ys ps vs ns tl c c', i + k = n ∧ PAll tl ys ps ∧ Tups tl ∧ ps.length = i ∧ (∀ p ∈ ps, 0 ≤ p.2 ∧ p.2 < 4) ∧ IntsAre vs ns ∧ vs.length ≤ 1000 ∧ m (Str.ofString "plates") = some (.ref pl) ∧
    ∀ q ∈ (pa, listOf ys.toArray c) :: (pl, listOf vs.toArray c') :: (base ++ tl), q ∈ news
theorem PartsJ.start {pa pl : Addr} {c2 c1 tb : Addr × Obj} {k n0 c : Nat} {m : Str → Option Value} {vs : List Value} {ns : List Int} (hI : IntsAre vs ns) (hl : vs.length ≤ 1000) (hm : m (Str.ofString "plates") = some (.ref pl)) :
    PartsJ pa pl [c2, c1, tb] k k 0 m [(pl, listOf vs.toArray n0), (pa, listOf #[] c), c2, c1, tb] :=
  ⟨[], [], vs, ns, [], c, n0, by omega, .nil, tups_nil, rfl, fun p h => (nomatch h), hI, hl, hm, fun q hq => by
    simp only [List.mem_cons, List.append_nil] at hq ⊢
    rcases hq with h | h | h | h | h | h <;> simp_all⟩
theorem PartsJ.next {pa pl a : Addr} {base tl news : Led} {n k i c c' : Nat} {m : Str → Option Value} {o : Obj} {p : Bool × Int} {ys vs : List Value} {ps : List (Bool × Int)} {ns : List Int} (hik : i + (k + 1) = n) (hpa : PAll tl ys ps) (ht : Tups tl) (hpl : ps.length = i) (hb : ∀ p ∈ ps, 0 ≤ p.2 ∧ p.2 < 4)
    (hp : PAt [(a, o)] (.ref a) p) (ho : IsTupO o) (h0 : 0 ≤ p.2) (h4 : p.2 < 4) (hI : IntsAre vs ns) (hl : vs.length ≤ 1000) (hm : m (Str.ofString "plates") = some (.ref pl)) (hsub : ∀ q ∈ (pa, listOf (ys ++ [Value.ref a]).toArray c) :: (pl, listOf vs.toArray c') :: (a, o) :: (base ++ tl), q ∈ news) :
    PartsJ pa pl base n k (i + 1) m news :=
  ⟨ys ++ [.ref a], ps ++ [p], vs, ns, tl ++ [(a, o)], c, c', by omega, PAll.app (hpa.mono fun q hq _ => List.mem_append.mpr (.inl hq)) (.cons (hp.mono fun q hq _ => List.mem_append.mpr (.inr hq)) .nil), tups_app ht (tups_one ho), by simp [hpl],
    fun q hq => by
      rcases List.mem_append.mp hq with hq | hq
      · exact hb q hq
      · rw [List.mem_singleton.mp hq]; exact ⟨h0, h4⟩, hI, hl, hm, fun q hq => hsub q (by
      simp only [List.mem_cons, List.mem_append, List.not_mem_nil, or_false] at hq ⊢
      rcases hq with h | h | h | h | h <;> simp [h])⟩
theorem news_in {h₀ h : Heap} {L : Addr} {x : Addr × Obj} {n r : Led} (N : News h₀ L h (x :: n)) (hs : ∀ q ∈ r, q ∈ n) : News h₀ L h (x :: r) := News.sub N (List.forall_mem_cons.mpr ⟨.head _, fun q hq => .tail _ (hs q hq)⟩)
theorem range_nat {b : Int} (h : 0 ≤ b) : Builtin.Range.rangeSize 0 b 1 = ((b.toNat : Nat) : Int) := by
  rw [rangeSize_one]
  split <;> omega
theorem kw120 : True := by
  (k_with "zu turnoff" => (((repeat' (first | exact List.forall_mem_nil _ | exact offTups (by assumption) (by assumption) (by decide) | exact offLt (by assumption) (by walk_at "u sub") | refine List.forall_mem_append.mpr ⟨?_, ?_⟩ | refine List.forall_mem_cons.mpr ⟨?_, ?_⟩ | exact offCls (by assumption) rfl (by decide) | exact offCls (by assumption) (by assumption) (by decide) | exact Or.inl (by k_ne))); first | done | fail "left open")))
  exact True.intro

--deps PH PT P0 PL PI P1 P2 P3 P4 P5 P6 P7 P8 P9 PA PR PE PB PC PF PG PK PM PN
theorem compByJT {prog : Program} {w : World} {A : Around} {s : Shared} {h₀ : Heap} {L : Addr} {m : Str → Option Value} {env : Env} {ct elt : Expr} {x : Str} {scope : Scope} {cl : List (Str × Addr)} {S : Led → Prop} {P : Nat → Value → Prop} {Fin : List Value → Led → Prop}
    (J : Nat → Nat → List Value → Led → Prop) (h0 : ∀ i ys news, J 0 i ys news → Fin ys news)
    (hs : ∀ k i ys news, J (k + 1) i ys news → ∀ v I oI C oC D m₂ h tk (E' : Value → Shared → Prop), P i v → LCg.NsObj oC m₂ → m₂ x = some v → Fr h₀ L h m → News h₀ L h ((I, oI) :: (C, oC) :: (D, LCg.lst ys) :: news) → LCg.Off3 I C D news → ((@Ne Nat I C) ∧ (@Ne Nat I D) ∧ (@Ne Nat C D)) →
      wpAny (model prog w) A (isTrue ct (compEnvC scope cl C env) (eval ct (compEnvC scope cl C env))) (fun ok s' => if ok = true then
        wpAny (model prog w) A (eval elt (compEnvC scope cl C env)) (LCg.CompEnd h₀ L m { s with heap := h, toks := tk } I oI C oC D (LCg.lst ys) S (fun y news' => J k (i + 1) (ys ++ [y]) news')) E' s'
        else LCg.CompEnd h₀ L m { s with heap := h, toks := tk } I oI C oC D (LCg.lst ys) S (fun _ news' => J k (i + 1) ys news') Value.none s') E' { s with heap := h, toks := tk }) :
    ∀ k i ys news, J k i ys news → LCt.CompRestT prog w A h₀ L m env ct elt x scope cl s S P Fin k i ys news
  | 0, i, ys, news, hJ => h0 i ys news hJ
  | k + 1, i, ys, news, hJ => fun v I oI C oC D m₂ h tk E' hP hC hx F N off ne => wpAny_mono (hs k i ys news hJ v I oI C oC D m₂ h tk E' hP hC hx F N off ne) (fun ok s₂ p => by
      by_cases hok : ok = true
      · rw [if_pos hok] at p ⊢
        refine wpAny_mono p (fun y s₃ q => ?_) fun _ _ e => e
        obtain ⟨h', tk', news', e, F', N', o, sS, j⟩ := q
        exact ⟨h', tk', news', e, F', N', o, sS, compByJT J h0 hs k (i + 1) _ _ j⟩
      · rw [if_neg hok] at p ⊢
        obtain ⟨h', tk', news', e, F', N', o, sS, j⟩ := p
        exact ⟨h', tk', news', e, F', N', o, sS, compByJT J h0 hs k (i + 1) _ _ j⟩) fun _ _ e => e
theorem kw121 : True := by
  (k_with "zexec Assign cons ListComp" => (k_here; (with_reducible show wpAny _ _ (exec (PySem.Stmt.Assign [_] (PySem.Expr.ListComp _ [⟨_, _, [_], _⟩] _ _) _) _) _ _ _); k_dflt (refine LCt.Assign_ListComp_T (F₀ := by k_asm) (by rfl) (by with_unfolding_all rfl) (by with_unfolding_all rfl) (by decide) (by rfl) (by decide) (by rfl) (by rfl) (by rfl) ?_); k_dflt lct_toSrc))
  exact True.intro
theorem kw122 : True := by
  (k_with "zeval ListComp" => (k_here; (with_reducible show wpAny _ _ (eval (PySem.Expr.ListComp _ [⟨_, _, [_], _⟩] _ _) _) _ _ _); k_dflt (refine LCt.ListComp_T (F₀ := by k_asm) (by with_unfolding_all rfl) (by decide) (by rfl) (by decide) (by rfl) ?_); k_dflt lct_toSrc))
  exact True.intro
theorem kw123 : True := by
  (k_with "zCompSrcT" => (k_here; refine Halt.mk ?_))
  exact True.intro
theorem kw124 : True := by
  (k_with "zCompEnd" => (k_here; refine Halt.mk ?_))
  exact True.intro
theorem kw125 : True := by
  (k_with "zcompareOp In int ref" => row_timed "z" (fail "z"; (k_here; (with_reducible show wpAny _ _ (compareOp _ (Value.int _ _) (Value.ref _)) _ _ _); k_dflt (refine' in_list_ints ?Zl ?Zi ?_; (case Zl => exact News.isList (by k_asm) (by kcf_m)); (case Zi => assumption); k_whole))))
  exact True.intro
/-- the keys of the signals among the parts -/
def sigKeys (ps : List (Bool × Int)) : List Int := (ps.filter fun p => p.1).map fun p => p.2
def InJ (ps : List (Bool × Int)) (base : Led) (k i : Nat) (ys : List Value) (n : Led) : Prop := i + k = ps.length ∧ n = base ∧ IntsAre ys (sigKeys (ps.take i))
def keysTo (ks : List Int) (i : Nat) : List Int := ((List.range i).map fun (j : Nat) => (0 : Int) + (j : Int)).filter fun k => ks.any (· == k)
def OutJ (ks : List Int) (len : Nat) (base : Led) (k i : Nat) (ys : List Value) (n : Led) : Prop := i + k = len ∧ n = base ∧ IntsAre ys (keysTo ks i)
theorem sigKeys_next {ps : List (Bool × Int)} {i : Nat} {x : Int} (h : ps[i]? = some (true, x)) : sigKeys (ps.take (i + 1)) = sigKeys (ps.take i) ++ [x] := by
  rw [List.take_add_one, h]
  simp [sigKeys, List.filter_append]
theorem sigKeys_skip {ps : List (Bool × Int)} {i : Nat} {x : Int} (h : ps[i]? = some (false, x)) : sigKeys (ps.take (i + 1)) = sigKeys (ps.take i) := by
  rw [List.take_add_one, h]
  simp [sigKeys, List.filter_append]
theorem keysTo_next {ks : List Int} {i : Nat} (h : ks.any (· == (0 : Int) + (i : Int)) = true) : keysTo ks (i + 1) = keysTo ks i ++ [(0 : Int) + (i : Int)] := by
  simp only [keysTo, List.range_succ, List.map_append, List.filter_append, List.map_cons, List.map_nil]
  rw [List.filter_cons_of_pos (by exact h), List.filter_nil]
theorem keysTo_skip {ks : List Int} {i : Nat} (h : ks.any (· == (0 : Int) + (i : Int)) = false) : keysTo ks (i + 1) = keysTo ks i := by
  simp only [keysTo, List.range_succ, List.map_append, List.filter_append, List.map_cons, List.map_nil]
  rw [List.filter_cons_of_neg (by rw [h]; decide), List.filter_nil, List.append_nil]
theorem srcAt {h₀ : Heap} {ax : Addr} {vs : List Value} {n : Nat} {news : Led} (h : (ax, listOf vs.toArray n) ∈ news) : LCg.SrcAt h₀ ax vs.toArray news := Or.inr ⟨_, h, rfl, _, rfl⟩

--deps PH PT P0 PL PI P1 P2 P3 P4 P5 P6 P7 P8 P9 PA PR PE PB PC PF PG PK PM PN PQ
section
variable {prog : Program} {w : World} {A : Around} {E : Value → Shared → Prop} {s : Shared} {h₀ : Heap} {L D : Addr} {m : Str → Option Value} {rest : Led}
theorem sort_T {vs : List Value} {ns : List Int} {c0 : Nat} {Q : Value → Shared → Prop} (F : Fr h₀ L s.heap m) (N : News h₀ L s.heap ((D, listOf vs.toArray c0) :: rest)) (hoff : ∀ q ∈ rest, q.1 ≠ D) (hi : IntsAre vs ns) (h64 : vs.length < 64)
    (h : ∀ (vs' : List Value) (ns' : List Int) (c : Nat) (h' : Heap), Fr h₀ L h' m → News h₀ L h' ((D, listOf vs'.toArray c) :: rest) → IntsAre vs' ns' → ns'.Perm ns → ns'.Pairwise (· ≤ ·) → Q .none { s with heap := h' }) :
    wpAny (model prog w) A (call (.builtin "list.sort") [.ref D]) Q E s := by
  have z := N _ (List.mem_cons_self ..)
  have ho : s.heap.get? D = some (seqObj "list" vs.toArray c0) := z.1
  refine wpAny_call_entry PyProof.Rows.slot_list_sort ⟨_, z.1, rfl⟩ PyProof.Rows.entry_list_sort (list_sort_tree (n := c0) (vs := vs) ho hi h64 fun out ns' hI hp hP => ⟨.none, rfl, ?_⟩) (PyProof.Rows.args_list_sort _)
  obtain ⟨e, he⟩ := sortedHeap_at (vs := vs) (out := out) ho
  have F4 : Fr h₀ L (sortedHeap s.heap D vs out) m :=
    (((F.change (Heap.SameBut.update s.heap D (Obj.mapSeq fun _ => (#[] : Array Value))) z.2.1 z.2.2).push (seqObj "tuple" vs.toArray 0)).push (seqObj "list" #[] 0)).change (Heap.SameBut.update ..) z.2.1 z.2.2
  refine h out.toList ns' e _ F4 (fun q hq => ?_) hI hp hP
  rcases List.mem_cons.mp hq with rfl | hq
  · exact ⟨by rw [Array.toArray_toList]; exact he, z.2⟩
  · have zq := N q (List.mem_cons_of_mem _ hq)
    exact ⟨by rw [sortedHeap_old (hoff q hq) (Heap.lt_size zq.1)]; exact zq.1, zq.2⟩
theorem intsOf {kvs : List (Int × Value)} : ∀ {vs : List Value}, vs.length = kvs.length → (∀ (j : Nat) (v : Value), vs[j]? = some v → ∃ k x, kvs[j]? = some (k, x) ∧ (PySem.intKind prog w).is k v = true) → IntsAre vs (kvs.map (·.1)) := by
  induction kvs with
  | nil =>
    intro vs hl _
    cases vs with
    | nil => exact .nil
    | cons v r => simp at hl
  | cons p r ih =>
    intro vs hl hv
    cases vs with
    | nil => simp at hl
    | cons v us =>
      obtain ⟨k, x, e, hk⟩ := hv 0 v rfl
      obtain ⟨t, rfl⟩ := PyProof.V.Flat.int_inv (kdl_flat_int hk)
      obtain rfl : p = (k, x) := by simpa using e
      exact .cons _ _ (ih (by simpa using hl) fun j u hu => by
        obtain ⟨k', x', e', h'⟩ := hv (j + 1) u (by simpa using hu)
        exact ⟨k', x', by simpa using e', h'⟩)
theorem sorted_dict_T {d : Addr} {o : Obj} {kvs : List (Int × Value)} {news : Led} {Q : Value → Shared → Prop} (hh : A.handled = none) (F : Fr h₀ L s.heap m) (N : News h₀ L s.heap news) (hp : (d, o) ∈ news) (hd : o.IsDictOf (PySem.intKind prog w) kvs) (lo : (d == sysModules) = false) (hn : kvs.length < 64)
    (h : ∀ (B : Addr) (h' : Heap) (tk : Nat) (vs : List Value) (ns : List Int) (c : Nat), Fr h₀ L h' m → News h₀ L h' ((B, listOf vs.toArray c) :: news) → (∀ q ∈ news, q.1 < B) → IntsAre vs ns → ns.Perm (kvs.map (·.1)) → ns.Pairwise (· ≤ ·) → Q (.ref B) { s with heap := h', toks := tk }) :
    wpAny (model prog w) A (call (.builtin "sorted") [.ref d]) Q E s := by
  obtain ⟨ep, hat⟩ := (kda_dict N hp hd).dictAt
  refine kdu_sorted (kdl_dict (knd := PySem.intKind prog w) (kvs := kvs) (ep := ep) lo) hh F N hat (by rw [sizeLine_eq]; omega) fun B h' tk vs F' N' l1 hl hv => ?_
  refine sort_T F' N' (fun q hq => Nat.ne_of_lt (l1 q hq)) (intsOf hl hv) (by omega) fun vs' ns' c h'' F'' N'' hI hP hS => ?_
  exact h B h'' tk vs' ns' c F'' N'' l1 hI hP hS
end
theorem stored_mem {kvs : List (Int × Value)} {k : Int} {v : Value} (x : Int) : x ∈ (stored kvs k v).map (·.1) ↔ x ∈ kvs.map (·.1) ∨ x = k := by
  unfold stored
  split
  case isTrue h =>
    have e : ∀ l : List (Int × Value), (l.map fun kv => if kv.1 = k then (kv.1, v) else kv).map (·.1) = l.map (·.1) := fun l => by
      induction l with
      | nil => rfl
      | cons p r ih => simp only [List.map_cons, ih]; congr 1; split <;> rfl
    rw [e]
    constructor
    · exact .inl
    · rintro (h' | rfl)
      · exact h'
      · obtain ⟨p, hp, he⟩ := List.any_eq_true.mp h
        exact List.mem_map.mpr ⟨p, hp, of_decide_eq_true he⟩
  case isFalse h => simp [List.map_append]
theorem stored_nodup {kvs : List (Int × Value)} {k : Int} {v : Value} (hn : (kvs.map (·.1)).Nodup) : ((stored kvs k v).map (·.1)).Nodup := by
  unfold stored
  split
  case isTrue h =>
    have e : ∀ l : List (Int × Value), (l.map fun kv => if kv.1 = k then (kv.1, v) else kv).map (·.1) = l.map (·.1) := fun l => by
      induction l with
      | nil => rfl
      | cons p r ih => simp only [List.map_cons, ih]; congr 1; split <;> rfl
    rw [e]; exact hn
  case isFalse h =>
    simp only [List.map_append, List.map_cons, List.map_nil]
    refine List.nodup_append.mpr ⟨hn, by simp, ?_⟩
    intro a ha b hb
    rw [List.mem_singleton.mp hb]
    rintro rfl
    obtain ⟨p, hp, he⟩ := List.mem_map.mp ha
    exact h (List.any_eq_true.mpr ⟨p, hp, decide_eq_true he⟩)
def TwJ (rest : Led) (prog : Program) (w : World) (ps : List (Bool × Int)) (d : Addr) (ws : List Value) (m : Str → Option Value) (n : Led) : Prop :=
  ∃ qs dn o kvs, PAll rest ws qs ∧ sigKeys ps = dn ++ sigKeys qs ∧ o.IsDictOf (PySem.intKind prog w) kvs ∧ kvs.length + ws.length ≤ 60 ∧ (kvs.map (·.1)).Nodup ∧ (∀ x, x ∈ kvs.map (·.1) ↔ x ∈ dn) ∧ m (Str.ofString "keys") = some (.ref d) ∧ ∀ q ∈ (d, o) :: rest, q ∈ n
def TwPost (ps : List (Bool × Int)) (rest : Led) (r : Value) (news' : Led) : Prop :=
  ∃ l vs ns c, r = .ref l ∧ news' = (l, listOf vs.toArray c) :: rest ∧ (∀ q ∈ rest, q.1 ≠ l) ∧ IntsAre vs ns ∧ ns.Pairwise (· < ·) ∧ ∀ x, x ∈ ns ↔ x ∈ sigKeys ps
theorem lt_of_le_nodup {l : List Int} (h : l.Pairwise (· ≤ ·)) (hn : l.Nodup) : l.Pairwise (· < ·) := by
  induction l with
  | nil => exact .nil
  | cons a r ih =>
    have h1 := List.pairwise_cons.mp h
    have h2 := List.nodup_cons.mp hn
    refine List.pairwise_cons.mpr ⟨fun b hb => ?_, ih h1.2 h2.2⟩
    have h3 := h1.1 b hb
    have h4 : a ≠ b := fun e => h2.1 (e ▸ hb)
    omega
theorem twPost {ps : List (Bool × Int)} {rest : Led} {l : Addr} {vs : List Value} {ns : List Int} {c : Nat} {kvs : List (Int × Value)} (h1 : ∀ q ∈ rest, q.1 ≠ l) (hI : IntsAre vs ns) (hp : ns.Perm (kvs.map (·.1))) (hs : ns.Pairwise (· ≤ ·)) (hn : (kvs.map (·.1)).Nodup) (hk : ∀ x, x ∈ kvs.map (·.1) ↔ x ∈ sigKeys ps) :
    TwPost ps rest (.ref l) ((l, listOf vs.toArray c) :: rest) :=
  ⟨l, vs, ns, c, rfl, rfl, h1, hI, lt_of_le_nodup hs (hp.nodup_iff.mpr hn), fun x => hp.mem_iff.trans (hk x)⟩
theorem stored_len {kvs : List (Int × Value)} {k : Int} {v : Value} : (stored kvs k v).length ≤ kvs.length + 1 := stored_length_le kvs k v
theorem TwJ.next {rest n : Led} {prog : Program} {w : World} {ps qs : List (Bool × Int)} {d : Addr} {ws : List Value} {m : Str → Option Value} {dn : List Int} {o : Obj} {kvs : List (Int × Value)} {x : Int} {v : Value} (hr : PAll rest ws qs) (hdn : sigKeys ps = dn ++ sigKeys ((true, x) :: qs)) (hd : o.IsDictOf (PySem.intKind prog w) (stored kvs x v))
    (hlen : kvs.length + (ws.length + 1) ≤ 60) (hn : (kvs.map (·.1)).Nodup) (hmem : ∀ x, x ∈ kvs.map (·.1) ↔ x ∈ dn) (hm : m (Str.ofString "keys") = some (.ref d)) (hsub : ∀ q ∈ (d, o) :: rest, q ∈ n) : TwJ rest prog w ps d ws m n := by
  have hs9 := @stored_len kvs x v
  refine ⟨qs, dn ++ [x], o, _, hr, ?_, hd, by omega, stored_nodup hn, fun y => ?_, hm, hsub⟩
  · rw [hdn]; simp [sigKeys]
  · rw [stored_mem, hmem]; simp
theorem kw126 : True := by
  (k_with "zsetItem ref int" => row_timed "z" (fail "z"; (k_here; k_dflt (refine' kda_set (knd := PySem.intKind _ _) ?ZF ?ZN ?ZU ?Zd (intKind_is _ _ _ _) ?Zz ?_; (case ZF => k_asm); (case ZN => k_asm); (case ZU => first | (refine' UpdF.head ?Zua; (case Zua => first | assumption | k_all)) | (refine' UpdF.tail ?Zub ?Zuc; (case Zub => k_ne); (case Zuc => (refine' UpdF.head ?Zud; (case Zud => assumption))))); (case Zd => assumption); (case Zz => (rw [sizeLine_eq]; walk_at "u om"))); intro Zh' Zo' ZF' ZN' Zhd'; (try dsimp only at ZN'); (try k_sweep))))
  exact True.intro
theorem kw127 : True := by
  (k_with "zcall builtin:sorted" => row_timed "z" (fail "z"; (k_here; (with_reducible show wpAny _ _ (call (Value.builtin "sorted") [Value.ref _]) _ _ _); k_dflt (refine' sorted_dict_T ?ZH ?ZF ?ZN ?Zm ?Zd ?Zlo ?Zz ?_; (case ZH => assumption); (case ZF => k_asm); (case ZN => k_asm); (case Zm => kcf_m); (case Zd => assumption); (case Zlo => assumption); (case Zz => walk_at "u om")); intro ZB' Zh' Ztk' Zvs' Zns' Zc' ZF' ZN' Zl1 Zi' Zp' Zo'; (have Zl0' := LtAll.of Zl1); (try k_sweep))))
  exact True.intro
set_option maxRecDepth 100000 in set_option maxHeartbeats 8000000 in
theorem tw_run {w : World} {lv tp : Addr} {t0 t1 : Tok} {x0 : Str} {z : Int} {n k : Nat} {ys : List Value} {ps : List (Bool × Int)} {rest : Led} (h1 : (lv, tupOf [.str x0 t0, .int z t1, .ref tp] n) ∈ rest) (h2 : (tp, tupOf ys k) ∈ rest) (h3 : PAll rest ys ps) (hl : ys.length ≤ 60) :
    Run w (.ref 49) [.ref lv] 3 300 rest (TwPost ps rest) := by
  unfold Run; k_fill; intro p loose mean mg mb A A₀ env outer base h₀ L m s Q E B F X N T hA hf hke hnd hdp hun hret
  (refine wpAny_call ?_; k_dflt (refine' code_def ?k1 ?k2 ?k3 ?k4 ?k5 ?kA ?kF ?kK ?k6 ?k7 ?k8 ?k9 ?kB ?_ ?c2 ?c3 ?c4 ?c5; (case kA => assumption); (case kF => assumption); (case kK => assumption); (case k1 => k_asm); (case k2 => k_asm); (case k3 => k_asm); (case k4 => k_asm); (case k5 => k_asm); (case k6 => k_is); (case k7 => k_is); (case k8 => walk_at "u om"); (case k9 => exact BindsTo.of_eq rfl); (case c5 => decide); (case kB => exact locs rfl); (case c2 => exact rfl); (case c3 => exact rfl); (case c4 => exact rfl); k_whole; intro g' L' h' FG' F' N' B' X' T'; (try dsimp only); (try k_fold)))
  k_steps
  unfold Halt
  (rename Fr _ _ _ _ => lF9; rename News _ _ _ _ => lN9; rename Obj.IsDictOf (PySem.intKind _ _) _ _ => hi9; rename (∀ p : Addr × Obj, p ∈ rest → p.1 < _) => l1)
  refine seq_tuple hnd lF9 lN9 (.tail _ h2) (fun I l2 => SeqRest.byJ (J := TwJ rest _ w ps _) ?h0 ?hs ys _ _ ⟨ps, [], _, [], h3, rfl, hi9, by simp only [List.length_nil]; omega, by simp, by simp, rfl, fun _ h => h⟩)
  case hs =>
    rintro v r m₁ n₁ ⟨qs, dn, o, kvs, hq, hdn, hd, hlen, hnd2, hmem, hm, hsub⟩ it h5 tk5 hit F9 N9
    clear lF9 lN9 hi9
    have N8 := news_in N9 hsub
    clear N9
    have hdI := l2
    k_lt hdI
    have l2' := LtAll.of l2
    have hne := lt_ne l1
    cases hq with
    | cons hp hr =>
    simp only [List.length_cons] at hlen
    cases hp
    · k_steps
      unfold Halt
      (rename Fr _ _ _ _ => uF9; rename News _ _ _ _ => uN9; rename Obj.IsDictOf (PySem.intKind _ _) _ (stored _ _ _) => hd9)
      refine unrEnd uF9 uN9 (by walk_at "u pick") (by walk_at "u turnoff") ⟨.tail _ h2, TwJ.next hr hdn hd9 hlen hnd2 hmem hm (fun _ h => h)⟩
    · k_steps
      unfold Halt
      (rename Fr _ _ _ _ => uF9; rename News _ _ _ _ => uN9)
      refine unrEnd uF9 uN9 (by walk_at "u pick") (by walk_at "u turnoff") ⟨?lm, _, _, _, _, hr, hdn, hd, by omega, hnd2, hmem, hm, ?e4⟩
      case lm => exact .tail _ h2
      case e4 => exact fun _ h => h
  rintro m₁ n₁ ⟨qs, dn, o, kvs, hq, hdn, hd, hlen, hnd2, hmem, hm, hsub⟩ h5 tk5 F9 N9
  clear lF9 lN9 hi9
  have N8 := News.sub N9 hsub
  clear N9
  cases hq
  simp only [List.length_nil] at hlen
  k_steps
  (rename News _ _ _ _ => kN8; rename Fr _ _ _ _ => kF8; rename List.Perm _ _ => hp8; rename (List.Pairwise (fun a b : Int => a ≤ b) _) => ho8; rename IntsAre _ _ => hI8; rename LtAll _ _ => hl8)
  refine' hret _ _ _ _ kF8 (News.sub kN8 ?sb) (twPost (fun q hq => Nat.ne_of_lt (hl8 q (.tail _ hq))) hI8 hp8 ho8 hnd2 ?mk)
  case sb => walk_at "u sub"
  case mk => intro x; rw [hmem, hdn]; simp [sigKeys]

--deps PH PT P0 PL PI P1 P2 P3 P4 P5 P6 P7 P8 P9 PA PR PE PB PC PF PG PK PM PN PQ PV
theorem sigKeys_in {ps : List (Bool × Int)} (h : ∀ p ∈ ps, 0 ≤ p.2 ∧ p.2 < 4) : ∀ x ∈ sigKeys ps, 0 ≤ x ∧ x < 4 := by
  intro x hx
  obtain ⟨p, hp, rfl⟩ := List.mem_map.mp hx
  exact h p (List.mem_filter.mp hp).1
theorem lt_ext : ∀ {a b : List Int}, a.Pairwise (· < ·) → b.Pairwise (· < ·) → (∀ x, x ∈ a ↔ x ∈ b) → a = b
  | [], [], _, _, _ => rfl
  | [], y :: b, _, _, h => absurd ((h y).mpr (.head _)) (by simp)
  | x :: a, [], _, _, h => absurd ((h x).mp (.head _)) (by simp)
  | x :: a, y :: b, ha, hb, h => by
    have a1 := List.pairwise_cons.mp ha
    have b1 := List.pairwise_cons.mp hb
    have e : x = y := by
      rcases List.mem_cons.mp ((h x).mp (.head _)) with e | hx
      · exact e
      · rcases List.mem_cons.mp ((h y).mpr (.head _)) with e | hy
        · exact e.symm
        · have h1 := a1.1 y hy
          have h2 := b1.1 x hx
          omega
    subst e
    rw [lt_ext a1.2 b1.2 fun z => ⟨fun hz => by
      rcases List.mem_cons.mp ((h z).mp (.tail _ hz)) with e | h'
      · exact absurd (a1.1 z hz) (by rw [e]; exact Int.lt_irrefl _)
      · exact h', fun hz => by
      rcases List.mem_cons.mp ((h z).mpr (.tail _ hz)) with e | h'
      · exact absurd (b1.1 z hz) (by rw [e]; exact Int.lt_irrefl _)
      · exact h'⟩]
theorem keys_eq {ks ns : List Int} (hb : ∀ x ∈ ks, 0 ≤ x ∧ x < 4) (hp : ns.Pairwise (· < ·)) (hm : ∀ x, x ∈ ns ↔ x ∈ ks) : ns = keysTo ks 4 := by
  refine lt_ext hp ?_ fun x => (hm x).trans ?_
  · have e : ((List.range 4).map fun (j : Nat) => (0 : Int) + (j : Int)).Pairwise (· < ·) := by decide
    exact e.filter _
  · have e : (List.range 4).map (fun (j : Nat) => (0 : Int) + (j : Int)) = [0, 1, 2, 3] := by decide
    unfold keysTo
    rw [e, List.mem_filter, List.any_eq_true]
    constructor
    · intro hx
      have := hb x hx
      refine ⟨?_, x, hx, by simp⟩
      simp only [List.mem_cons, List.not_mem_nil, or_false]
      omega
    · rintro ⟨_, y, hy, he⟩
      have : y = x := by simpa using he
      exact this ▸ hy
theorem eq_same_ints {prog : Program} {w : World} {A : Around} {E : Value → Shared → Prop} {s : Shared} {a b : Addr} {vs us : List Value} {ns ms : List Int} {Q : Value → Shared → Prop} (hl : s.heap.IsList a vs.toArray) (hl' : s.heap.IsList b us.toArray) (hi : IntsAre vs ns) (hi' : IntsAre us ms) (hu : A.units + 64 < cLine) (e : ns = ms) (h : Q (.bool true) s) :
    wpAny (model prog w) A (compareOp .Eq (.ref a) (.ref b)) Q E s := by
  subst e
  refine eq_intsK hl hi hl' hi' hu ?_
  rw [decide_eq_true rfl]
  exact h
theorem kw128 : True := by
  (k_with "zcall ref" => row_timed "z" (fail "z"; (k_here; (with_reducible show wpAny _ _ (call (Value.ref 49) _) _ _ _); k_dflt (refine' Run.use (tw_run ?Za1 ?Za2 (PAll.mono ?Za3 ?Za4) ?Za5) ?Zfr ?ZcN ?_; (case ZcN => k_asm); (case Za1 => first | exact .head _ | kcf_m); (case Za2 => first | exact .tail _ (.head _) | kcf_m); (case Za3 => assumption); (case Za4 => walk_at "u subtx"); (case Za5 => first | walk_at "u om" | ((simp only [List.toList_toArray]); walk_at "u om")); (case Zfr => walk_at "u frame"); k_whole); (intro Zr9 Znews9 Zh9 Ztk9 ZF9 ZN9 ZP9; k_dflt (obtain ⟨Zl9, Zvs9, Zns9, Zc9, Ze9, Zen9, Znf9, Zi9, Zpw9, Zmem9⟩ := ZP9); subst Ze9; subst Zen9; (try k_sweep); (try dsimp only)))))
  exact True.intro
theorem kw129 : True := by
  (k_with "zcompareOp Eq ref ref" => row_timed "z" (fail "z"; (k_here; (with_reducible show wpAny _ _ (compareOp CmpOp.Eq (Value.ref _) (Value.ref _)) _ _ _); k_dflt (refine' eq_same_ints ?Zl1 ?Zl2 ?Zi1 ?Zi2 ?Zhu ?Ze ?_; (case Zl1 => exact News.isList (by k_asm) (by kcf_m)); (case Zl2 => exact News.isList (by k_asm) (by kcf_m)); (case Zi1 => assumption); (case Zi2 => assumption); (case Zhu => ((try simp only [units_in1, units_deeper, Around.mark_units, units_caller] at *); walk_at "u om")); (case Ze => exact keys_eq (by assumption) (by assumption) (by assumption)); k_whole))))
  exact True.intro

set_option maxRecDepth 100000 in
set_option maxHeartbeats 0 in
theorem law_holds : PySem.Challenge.rw_on0085_01.Holds := hd (by
  k_go0
  all_goals try k_fold
  have hRL : recursionLimit = 1000 := rfl
  have hCL : cLine = 9900 := rfl
  k_steps
  rename TIn _ _ _ => hti
  rename T.ht _ ≤ _ => hht
  obtain ⟨cvs, hn, hc, hcl⟩ := hti.opened
  rename T => t0
  obtain ⟨ea, he⟩ := hn.isRef
  subst he
  have hkh : ∀ t ∈ t0.kids, t.ht ≤ 20 := fun u hu => by have h9 := t0.kids_ht u hu; have h8 : t0.ht ≤ 3 := hht; omega
  unfold Halt
  k_steps
  rename IsRange _ _ _ _ _ _ _ _ => hR
  rename Fr _ _ _ _ => kF8; rename News _ _ _ _ => kN8
  unfold Halt
  refine LCg.CompSrc.range (n := cvs.length) rfl kF8 kN8 hR ?smz1 ?rsz1 ?szz1 ?_
  case smz1 => exact small_one (by omega) (by omega) (by omega) (by omega)
  case rsz1 => (rw [rangeSize_one]; split <;> omega)
  case szz1 => (rw [sizeLine_eq]; omega)
  intro g'
  refine compByJ (MarksJ cvs.length _) ?h0z1 ?hsz1 _ _ _ _ ⟨by omega, [], (List.append_nil _).symm, tups_nil, .nil⟩
  case hsz1 =>
    rintro k i ys news ⟨hik, tl, rfl, ht, hall⟩ v I oI C oC D m₂ h tk E' ⟨tv, rfl⟩ hC hx F9 N9 off ne
    k_steps
    (try unfold Halt)
    exact marksEnd (by assumption) (by assumption) off (by k_ne) (by k_ne) (by k_ne) hik ht hall
  rintro i ys news ⟨hik, tl, rfl, ht, hall⟩
  obtain rfl : i = cvs.length := by omega
  have hys : ys.length = cvs.length := by rw [hall.length, marksT_len]
  have hys' := hys.symm
  have hmh := marksT_ht cvs.length
  k_steps
  rename News _ _ _ _ => kN8
  obtain ⟨TL, kN7, hTL, htL⟩ := law_cut kN8 (TIn.mono hti (by walk_at "u subtx")) (by (repeat' (first | assumption | refine tups_app ?_ ?_)))
  clear kN8
  as_aux_lemma =>
    w_top off
    have h3 : t0.ht ≤ 3 := hht
    have hz := T.size_40 h3
    have hph : ∀ u ∈ t0.post, u.ht ≤ 20 := fun u hu => by have := t0.post_ht u hu; omega
    k_steps
    unfold Halt
    k_steps
    as_aux_lemma =>
      w_top off
      unfold Halt
      rename Fr _ _ _ _ => kF8; rename News _ _ _ _ => kN8
      rename TAll _ _ (T.pre _) => hpre
      have hfl := ren_flat t0
      have hplen := TAll.length hpre
      have hflen : t0.flat.length = t0.ren.pre.length := by rw [← hfl, List.length_map]
      refine LCg.CompSrc.ledger rfl kF8 kN8 (by kcf_m) ?szz3 ?_
      case szz3 => (rw [sizeLine_eq, List.size_toArray]; simp only [Mine.T.pre_length, Mine.T.ren_size] at hplen; omega)
      intro g'
      refine compByJ (KeptJ t0.flat _) ?h0z3 ?hsz3 _ _ _ _ ⟨by rw [List.size_toArray]; omega, [], (List.append_nil _).symm, tups_nil, .nil⟩
      case hsz3 =>
        rintro k i ys news ⟨hik, tl, rfl, ht, hall⟩ v I oI C oC D m₂ h tk E' hv hC hx F9 N9 off ne
        obtain ⟨u, hu, htu⟩ := TAll.at hpre (by simpa using hv)
        have hku : t0.flat[i]? = some u.kind := by rw [← hfl, List.getElem?_map, hu]; rfl
        obtain ⟨cvs9, hn9, -, -⟩ := htu.opened
        generalize u.kind = ku at hku hn9
        rcases hn9.three with ⟨a, n, t0, t1, t2, w9, x9, rfl, rfl, hm9⟩ | ⟨a, n, t0, t1, t2, w9, x9, b9, c9, rfl, rfl, hm9⟩ | ⟨hpl, hs1, hs2, a, t0, t1, y, r, n, rfl, hr, hm9⟩
        all_goals clear htu hu
        · k_steps
          (try unfold Halt)
          exact keptEnd0 (by k_asm) (by k_asm) off (by kcf_m) hik ht hall hku (CutAt.sig (.tail _ hm9)) (by walk_at "u sub")
        · k_steps
          (try unfold Halt)
          exact keptEnd (by k_asm) (by k_asm) off (by kcf_m) (by assumption) (by kcf_m) (by kcf_m) (by kcf_m) ⟨rfl, _, _, rfl⟩ hik ht hall hku (CutAt.word (.head _)) (by walk_at "u sub")
        · k_steps
          (try unfold Halt)
          exact keptEnd (by k_asm) (by k_asm) off (by kcf_m) (by assumption) (by kcf_m) (by kcf_m) (by kcf_m) ⟨rfl, _, _, rfl⟩ hik ht hall hku (CutAt.other hpl (.head _)) (by walk_at "u sub")
      rintro i ys news ⟨hik, tl, rfl, ht, hall⟩
      obtain rfl : i = t0.flat.length := by omega
      rw [List.take_length] at hall
      k_steps
      rename News _ _ _ _ => kN8
      have kN7 := law_cut2 kN8
      clear kN8
      as_aux_lemma =>
        w_top off
        rename ((_ : Nat) + 1 + 1 ≠ _ ∧ _) => nfP; replace nfP := Hid.mk nfP; rename (_ < _ ∧ _) => ltP; replace ltP := Hid.mk ltP; (repeat (rename (_ ≠ _ ∧ _) => kx; clear kx)); (repeat (rename (_ < _ ∧ _) => kx; clear kx)); (repeat (rename (LtAll _ _) => kx; clear kx)); (repeat (rename (LCg.Off1 _ _) => kx; clear kx)); (repeat (rename (TAll _ _ _) => kx; clear kx)); (repeat (rename (CAll _ _ _) => kx; clear kx)); (repeat (rename (TIn _ _ _) => kx; clear kx)); (repeat (rename (NAt _ _ _ _) => kx; clear kx)); (repeat (rename (Tups _) => kx; clear kx)); (repeat (rename (∀ q : Addr × Obj, q ∈ _ → q.1 ≠ _) => kx; clear kx)); replace nfP := Hid.go nfP; replace ltP := Hid.go ltP;
        k_steps
        unfold Halt
        (rename Fr _ _ _ _ => lF9; rename News _ _ _ _ => lN9; rename IsRange _ _ _ _ _ _ _ _ => lR9)
        with_unfolding_all refine' iter_rangeUnr rfl lR9 ?smz4 (range_nat ?nnz4) lF9 lN9 (fun i2 l2 => RangeRest.byJ (J := PartsJ _ _ _ _) ?h0z4 ?hsz4 _ _ _ _ (PartsJ.start ?sIz4 ?slz4 rfl))
        case smz4 => exact small_one (by omega) (by omega) (by omega) (by omega)
        case nnz4 => omega
        case sIz4 => assumption
        case slz4 => omega
        case hsz4 =>
          rintro k i m₂ n₂ ⟨ys, ps, vs, ns, tl, c, c', hik, hpa, ht, hpl, hb, hIv, hlv, hm, hsub⟩ it t h tk hit F9 N9
          clear lF9 lN9
          have hyl := hpa.length
          have N8 := news_in N9 hsub
          clear N9
          simp only [List.cons_append, List.nil_append] at N8
          k_lt l2
          k_steps
          all_goals unfold Halt
          all_goals (rename Fr _ _ _ _ => uF9; rename News _ _ _ _ => uN9)
          · exact unrEnd uF9 uN9 (by walk_at "u pick") (by walk_at "u turnoff") (PartsJ.next hik hpa ht hpl hb (.sig (.head _)) ⟨rfl, _, _, rfl⟩ (by assumption) (by assumption) (by assumption) (by omega) hm (by walk_at "u sub"))
          · exact unrEnd uF9 uN9 (by walk_at "u pick") (by walk_at "u turnoff") (PartsJ.next hik hpa ht hpl hb (.loc (.head _)) ⟨rfl, _, _, rfl⟩ (by assumption) (by assumption) (by assumption) (by omega) hm (by walk_at "u sub"))
        rintro i m₂ n₂ ⟨ys, ps, vs, ns, tl, c, c', hik, hpa, ht, hpl, hb, hIv, hlv, hm, hsub⟩ h tk F9 N9
        clear lF9 lN9
        have hyl := hpa.length
        have N8 := News.sub N9 hsub
        clear N9
        simp only [List.cons_append, List.nil_append] at N8
        as_aux_lemma =>
          w_top off
          k_steps
          rename IsRange _ _ _ _ _ _ _ _ => hR
          rename Fr _ _ _ _ => kF8; rename News _ _ _ _ => kN8
          unfold Halt
          refine LCt.CompSrcT.range (n := 4) rfl kF8 kN8 hR (by decide) (by decide) (Nat.le_of_ble_eq_true rfl) ?_
          intro g'
          refine compByJT (OutJ (sigKeys ps) 4 _) ?h0z5 ?hsz5 _ _ _ _ ⟨rfl, rfl, .nil⟩
          case hsz5 =>
            rintro k5 i5 ys5 news ⟨hik5, rfl, hys5⟩ v I oI C oC D m₃ h5 tk5 E' ⟨tv, rfl⟩ hC hx F9 N9 off ne
            k_steps
            rename Fr _ _ _ _ => kF8; rename News _ _ _ _ => kN8
            unfold Halt
            refine LCt.CompSrcT.ledger rfl kF8 kN8 (by kcf_m) (by rw [sizeLine_eq, List.size_toArray]; omega) ?_
            intro g2
            refine compByJT (InJ ps _) ?i0z5 ?isz5 _ _ _ _ ⟨by rw [List.size_toArray]; omega, rfl, .nil⟩
            case isz5 =>
              rintro k6 i6 ys6 news ⟨hik6, rfl, hys6⟩ v2 I2 oI2 C2 oC2 D2 m₄ h6 tk6 E2 hv2 hC2 hx2 F10 N10 off2 ne2
              obtain ⟨p, hp, hpt⟩ := PAll.at hpa (by simpa using hv2)
              cases hpt
              · k_steps
                unfold Halt
                refine LCg.CompEnd.intro (by k_asm) (by k_asm) _ ?sb1z5 off2 ?mm1z5 ⟨by omega, rfl, ?ii1z5⟩
                case ii1z5 => rw [sigKeys_next hp]; exact IntsAre.append hys6 (.cons _ _ .nil)
                case mm1z5 => exact srcAt (by kcf_m)
                case sb1z5 => walk_at "u sub"
              · k_steps
                unfold Halt
                refine LCg.CompEnd.intro (by k_asm) (by k_asm) _ ?sb2z5 off2 ?mm2z5 ⟨by omega, rfl, ?ii2z5⟩
                case ii2z5 => rw [sigKeys_skip hp]; exact hys6
                case mm2z5 => exact srcAt (by kcf_m)
                case sb2z5 => walk_at "u sub"
            rintro i6 ys6 news ⟨hik6, rfl, hys6⟩
            obtain rfl : i6 = ps.length := by omega
            rw [List.take_length] at hys6
            k_steps
            all_goals unfold Halt
            · refine LCg.CompEnd.intro (by k_asm) (by k_asm) _ ?sb3z5 off True.intro ⟨by omega, rfl, ?ii3z5⟩
              case ii3z5 => rw [keysTo_next (by assumption)]; exact IntsAre.append hys5 (.cons _ _ .nil)
              case sb3z5 => walk_at "u sub"
            · refine LCg.CompEnd.intro (by k_asm) (by k_asm) _ ?sb4z5 off True.intro ⟨by omega, rfl, ?ii4z5⟩
              case ii4z5 => rw [keysTo_skip (by assumption)]; exact hys5
              case sb4z5 => walk_at "u sub"
          rintro i5 ys5 news ⟨hik5, rfl, hys5⟩
          obtain rfl : i5 = 4 := by omega
          as_aux_lemma =>
            w_top off
            have hkb := sigKeys_in hb
            k_steps)
end Mine
theorem PySem.Challenge.cw_on0085_01_holds : PySem.Challenge.rw_on0085_01.Holds := by
  exact Mine.law_holds
