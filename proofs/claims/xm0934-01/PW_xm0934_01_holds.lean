import PyProof.Rows.All
import Wide.All
import OpenK.AllK
import Wide.FinOn
import Lean
import PySem.Challenge.RW_xm0934_01
open PySem PySem.W PySem.Calls PyProof.Rows
set_option Elab.async false
set_option linter.unusedVariables false
set_option maxRecDepth 100000
namespace Mine
section
local macro_rules | `(tactic| o_head $H) => `(tactic| skip)
theorem fr : True := by
  refine (fun (_ : False → OpenRow.Holds PySem.Challenge.rw_xm0934_01.row) => trivial) (fun hf => ?_)
  k_head
  exact hf.elim
end
/-- a node of the heap: the object, its fields' list, its values' list, its number -/
inductive Node (news : List (Addr × Obj)) (x d f v : Addr) (num : Int) : Prop
  | mk {h1 h2 h3 h4 h5 : Int} {t1 t2 t3 t4 t5 u1 u2 u3 q1 q2 q3 : Tok} {mk : Int} {nd nf : Nat} (hx : (x, instObj 204 d) ∈ news)
      (hd : (d, dictOf [⟨h1, .str "word" t1, .str "NODE" u1⟩, ⟨h2, .str "number" t2, .int num u2⟩, ⟨h3, .str "mark" t3, .int mk u3⟩, ⟨h4, .str "fields" t4, .ref f⟩, ⟨h5, .str "values" t5, .ref v⟩] nd) ∈ news)
      (hf : (f, listOf #[.str "L" q1, .str "R" q2, .str "M" q3] nf) ∈ news) : Node news x d f v num

section
variable {prog : Program} {w : World} {A : Around} {E : Value → Shared → Prop} {s : Shared} {h₀ : Heap} {L D : Addr} {m : Str → Option Value} {news : List (Addr × Obj)} {its : Array Value} {n : Nat}
theorem strs3 {a b c : Str} {q1 q2 q3 : Tok} : StrsAre [.str a q1, .str b q2, .str c q3] [a, b, c] := .cons _ _ (.cons _ _ (.cons _ _ .nil))
theorem my_notin {a b c : Str} {q1 q2 q3 : Tok} {k : Str} {t : Tok} {r : Bool} {Q : Value → Shared → Prop} (N : News h₀ L s.heap news) (hm : (D, listOf #[.str a q1, .str b q2, .str c q3] n) ∈ news)
    (hr : (!([a, b, c].any (· == k))) = r) (h : Q (.bool r) s) : wpAny (model prog w) A (compareOp .NotIn (.str k t) (.ref D)) Q E s :=
  notin_list_strs (vs := [.str a q1, .str b q2, .str c q3]) (PySem.IsL.isList (n := n) (N _ hm).1) strs3 (hr ▸ h)
theorem my_index {a b c : Str} {q1 q2 q3 : Tok} {k : Str} {t : Tok} (j : Nat) (i : Int) {Q : Value → Shared → Prop} (N : News h₀ L s.heap news) (hm : (D, listOf #[.str a q1, .str b q2, .str c q3] n) ∈ news)
    (hi : (j : Int) = i) (hj : j < 3) (h1 : ([a, b, c][j]! == k) = true) (h2 : ∀ i, i < j → ([a, b, c][i]! == k) = false) (h : Q (.int i s.toks) { s with toks := s.toks + 1 }) :
    wpAny (model prog w) A (call (.builtin "list.index") [.ref D, .str k t]) Q E s := by
  subst hi
  have ho := (N _ hm).1
  refine call_meets PySem.F.slot_list_index ⟨_, ho, rfl⟩ PySem.F.entry_list_index (PySem.F.args_list_index_2 _ _)
    (SeqAt.list_indexAt D #[.str a q1, .str b q2, .str c q3] n none #[] (.str k t) (isStrOf k) j hj (by omega) ?_ ?_) ⟨ho, fun y hy => (eq_isStrOf k t (strs3 (q1 := q1) (q2 := q2) (q3 := q3)) y (by simpa using hy)).at _ _, h⟩
  · match j, hj with
    | 0, _ => exact h1
    | 1, _ => exact h1
    | 2, _ => exact h1
  · intro i hi hlt
    have := h2 i hlt
    match i, hi with
    | 0, _ => exact this
    | 1, _ => exact this
    | 2, _ => exact this
theorem my_indexL {q1 q2 q3 : Tok} {t : Tok} {Q : Value → Shared → Prop} (N : News h₀ L s.heap news) (hm : (D, listOf #[.str "L" q1, .str "R" q2, .str "M" q3] n) ∈ news) (h : Q (.int 0 s.toks) { s with toks := s.toks + 1 }) :
    wpAny (model prog w) A (call (.builtin "list.index") [.ref D, .str "L" t]) Q E s := my_index 0 0 N hm rfl (by decide) (by decide) (fun i hi => by omega) h
theorem my_indexR {q1 q2 q3 : Tok} {t : Tok} {Q : Value → Shared → Prop} (N : News h₀ L s.heap news) (hm : (D, listOf #[.str "L" q1, .str "R" q2, .str "M" q3] n) ∈ news) (h : Q (.int 1 s.toks) { s with toks := s.toks + 1 }) :
    wpAny (model prog w) A (call (.builtin "list.index") [.ref D, .str "R" t]) Q E s := my_index 1 1 N hm rfl (by decide) (by decide) (by decide) h
theorem my_indexM {q1 q2 q3 : Tok} {t : Tok} {Q : Value → Shared → Prop} (N : News h₀ L s.heap news) (hm : (D, listOf #[.str "L" q1, .str "R" q2, .str "M" q3] n) ∈ news) (h : Q (.int 2 s.toks) { s with toks := s.toks + 1 }) :
    wpAny (model prog w) A (call (.builtin "list.index") [.ref D, .str "M" t]) Q E s := my_index 2 2 N hm rfl (by decide) (by decide) (by decide) h
theorem my_item {value slice : PySem.Expr} {l : Addr} {k : Int} {u : Tok} {v : Value} {Q : Value → Shared → Prop} (N : News h₀ L s.heap news) (hm : (l, listOf its n) ∈ news) (h0 : 0 ≤ k) (hhi : k < 2 ^ 63) (hx : its[k.toNat]? = some v) (h : Q v s)
    (hs : subscripted slice false (.ref l) (.int k u) = operate [.ref l, .int k u] (getItem (.ref l) (.int k u)) := by with_unfolding_all rfl) :
    wpAny (model prog w) A (subscriptTail value slice (.ref l) (.int k u)) Q E s :=
  have hl : s.heap.IsList l its := PySem.IsL.isList (n := n) (N _ hm).1
  tail_any hl.typeIs slot_list_getitem.lookup (wpAny_getItem_list hl h0 hhi hx h) hs
theorem my_item0 {value slice : PySem.Expr} {l : Addr} {u : Tok} {a : Value} {r : List Value} {Q : Value → Shared → Prop} (N : News h₀ L s.heap news) (hm : (l, listOf (List.toArray (a :: r)) n) ∈ news) (h : Q a s)
    (hs : subscripted slice false (.ref l) (.int 0 u) = operate [.ref l, .int 0 u] (getItem (.ref l) (.int 0 u)) := by with_unfolding_all rfl) :
    wpAny (model prog w) A (subscriptTail value slice (.ref l) (.int 0 u)) Q E s := my_item N hm (by decide) (by decide) (by rfl) h hs
theorem my_item1 {value slice : PySem.Expr} {l : Addr} {u : Tok} {a b : Value} {r : List Value} {Q : Value → Shared → Prop} (N : News h₀ L s.heap news) (hm : (l, listOf (List.toArray (a :: b :: r)) n) ∈ news) (h : Q b s)
    (hs : subscripted slice false (.ref l) (.int 1 u) = operate [.ref l, .int 1 u] (getItem (.ref l) (.int 1 u)) := by with_unfolding_all rfl) :
    wpAny (model prog w) A (subscriptTail value slice (.ref l) (.int 1 u)) Q E s := my_item N hm (by decide) (by decide) (by rfl) h hs
theorem my_item2 {value slice : PySem.Expr} {l : Addr} {u : Tok} {a b c : Value} {r : List Value} {Q : Value → Shared → Prop} (N : News h₀ L s.heap news) (hm : (l, listOf (List.toArray (a :: b :: c :: r)) n) ∈ news) (h : Q c s)
    (hs : subscripted slice false (.ref l) (.int 2 u) = operate [.ref l, .int 2 u] (getItem (.ref l) (.int 2 u)) := by with_unfolding_all rfl) :
    wpAny (model prog w) A (subscriptTail value slice (.ref l) (.int 2 u)) Q E s := my_item N hm (by decide) (by decide) (by rfl) h hs
theorem newsSub {h : Heap} {news' : List (Addr × Obj)} (N : News h₀ L h news) (hs : ∀ p ∈ news', p ∈ news) : News h₀ L h news' := fun p hp => N p (hs p hp)
end
local macro_rules | `(tactic| k_mem) => `(tactic| first | exact List.Mem.head _ | with_reducible assumption | (refine' List.mem_cons_of_mem _ ?_; k_mem))
local macro_rules | `(tactic| k_room) => `(tactic| ktr_room)
local macro_rules | `(tactic| k_units) => `(tactic| ktr_units)
local macro_rules | `(tactic| walk_at "compareOp NotIn str ref") => `(tactic| (k_here; k_dflt (refine' my_notin (r := false) ?k1 ?k2 ?k3 ?_; (case k1 => k_asm); (case k2 => k_mem); (case k3 => decide); k_whole)))
local macro_rules | `(tactic| walk_at "call builtin:list.index") => `(tactic| (k_here; (with_reducible show wpAny _ _ (call _ [Value.ref _, Value.str (PySem.Str.ofString "L") _]) _ _ _); k_dflt (refine' my_indexL ?k1 ?k2 ?_; (case k1 => k_asm); (case k2 => k_mem); k_whole)))
local macro_rules | `(tactic| walk_at "call builtin:list.index") => `(tactic| (k_here; (with_reducible show wpAny _ _ (call _ [Value.ref _, Value.str (PySem.Str.ofString "R") _]) _ _ _); k_dflt (refine' my_indexR ?k1 ?k2 ?_; (case k1 => k_asm); (case k2 => k_mem); k_whole)))
local macro_rules | `(tactic| walk_at "call builtin:list.index") => `(tactic| (k_here; (with_reducible show wpAny _ _ (call _ [Value.ref _, Value.str (PySem.Str.ofString "M") _]) _ _ _); k_dflt (refine' my_indexM ?k1 ?k2 ?_; (case k1 => k_asm); (case k2 => k_mem); k_whole)))
local macro_rules | `(tactic| walk_at "subscriptTail") => `(tactic| (k_here; (with_reducible show wpAny _ _ (subscriptTail _ _ (Value.ref _) (Value.int 0 _)) _ _ _); k_dflt (refine' my_item0 ?k1 ?k2 ?_ ?k6; (case k1 => k_asm); (case k2 => k_mem); (case k6 => with_unfolding_all rfl); k_whole)))
local macro_rules | `(tactic| walk_at "subscriptTail") => `(tactic| (k_here; (with_reducible show wpAny _ _ (subscriptTail _ _ (Value.ref _) (Value.int 1 _)) _ _ _); k_dflt (refine' my_item1 ?k1 ?k2 ?_ ?k6; (case k1 => k_asm); (case k2 => k_mem); (case k6 => with_unfolding_all rfl); k_whole)))
local macro_rules | `(tactic| walk_at "subscriptTail") => `(tactic| (k_here; (with_reducible show wpAny _ _ (subscriptTail _ _ (Value.ref _) (Value.int 2 _)) _ _ _); k_dflt (refine' my_item2 ?k1 ?k2 ?_ ?k6; (case k1 => k_asm); (case k2 => k_mem); (case k6 => with_unfolding_all rfl); k_whole)))
theorem off_00 : True := by
  w_top off
  trivial
set_option maxHeartbeats 4000000 in
theorem get_L {w : World} {dp un : Nat} {gd : Option (List Code)} {cn : Str} {cs : Scope} {a : Addr} {ccd : Value} {cl : List (Str × Addr)} {outer : List Env} {A₀ : Around} {base h₀ : Heap} {L : Addr} {m : Str → Option Value}
    {news : List (Addr × Obj)} {s : Shared} {Q E : Value → Shared → Prop} {p : Program} {loose : List Str} {mean : ExcName → Option Value} {mg mb : Str → Option Value}
    {x d f v : Addr} {num : Int} {v0 v1 v2 : Value} {nv : Nat} {t : Tok}
    (B : Below A₀ base outer h₀) (F : Fr h₀ L s.heap m) (X : (fr.heap_1 w.params).In h₀) (N : News h₀ L s.heap news) (T : Top p loose mean mg mb h₀) (hk : cs.kind = .function)
    (hdp : dp < 450) (hun : un < 5000) (hn : Node news x d f v num) (hv : (v, listOf #[v0, v1, v2] nv) ∈ news)
    (ret : ∀ h' tk', Fr h₀ L h' m → News h₀ L h' news → Q v0 { s with heap := h', toks := tk' }) :
    wpAny (model PySem.Challenge.rw_xm0934_01.row.prog w) (ktrTop dp un gd cn cs L a ccd cl outer) (call (.ref 310) [.ref x, .str "L" t]) Q E s := by
  revert X; k_fill; intro X
  obtain ⟨hx, hd, hf⟩ := hn
  refine wpAny_call ?_
  k_dflt ktr_enter
  k_steps
  exact ret _ _ (by k_asm) (newsSub (by k_asm) (fun p hp => by repeat (first | exact hp | refine List.mem_cons_of_mem _ ?_)))
set_option maxHeartbeats 4000000 in
theorem get_R {w : World} {dp un : Nat} {gd : Option (List Code)} {cn : Str} {cs : Scope} {a : Addr} {ccd : Value} {cl : List (Str × Addr)} {outer : List Env} {A₀ : Around} {base h₀ : Heap} {L : Addr} {m : Str → Option Value}
    {news : List (Addr × Obj)} {s : Shared} {Q E : Value → Shared → Prop} {p : Program} {loose : List Str} {mean : ExcName → Option Value} {mg mb : Str → Option Value}
    {x d f v : Addr} {num : Int} {v0 v1 v2 : Value} {nv : Nat} {t : Tok}
    (B : Below A₀ base outer h₀) (F : Fr h₀ L s.heap m) (X : (fr.heap_1 w.params).In h₀) (N : News h₀ L s.heap news) (T : Top p loose mean mg mb h₀) (hk : cs.kind = .function)
    (hdp : dp < 450) (hun : un < 5000) (hn : Node news x d f v num) (hv : (v, listOf #[v0, v1, v2] nv) ∈ news)
    (ret : ∀ h' tk', Fr h₀ L h' m → News h₀ L h' news → Q v1 { s with heap := h', toks := tk' }) :
    wpAny (model PySem.Challenge.rw_xm0934_01.row.prog w) (ktrTop dp un gd cn cs L a ccd cl outer) (call (.ref 310) [.ref x, .str "R" t]) Q E s := by
  revert X; k_fill; intro X
  obtain ⟨hx, hd, hf⟩ := hn
  refine wpAny_call ?_
  k_dflt ktr_enter
  k_steps
  exact ret _ _ (by k_asm) (newsSub (by k_asm) (fun p hp => by repeat (first | exact hp | refine List.mem_cons_of_mem _ ?_)))
set_option maxHeartbeats 4000000 in
theorem get_M {w : World} {dp un : Nat} {gd : Option (List Code)} {cn : Str} {cs : Scope} {a : Addr} {ccd : Value} {cl : List (Str × Addr)} {outer : List Env} {A₀ : Around} {base h₀ : Heap} {L : Addr} {m : Str → Option Value}
    {news : List (Addr × Obj)} {s : Shared} {Q E : Value → Shared → Prop} {p : Program} {loose : List Str} {mean : ExcName → Option Value} {mg mb : Str → Option Value}
    {x d f v : Addr} {num : Int} {v0 v1 v2 : Value} {nv : Nat} {t : Tok}
    (B : Below A₀ base outer h₀) (F : Fr h₀ L s.heap m) (X : (fr.heap_1 w.params).In h₀) (N : News h₀ L s.heap news) (T : Top p loose mean mg mb h₀) (hk : cs.kind = .function)
    (hdp : dp < 450) (hun : un < 5000) (hn : Node news x d f v num) (hv : (v, listOf #[v0, v1, v2] nv) ∈ news)
    (ret : ∀ h' tk', Fr h₀ L h' m → News h₀ L h' news → Q v2 { s with heap := h', toks := tk' }) :
    wpAny (model PySem.Challenge.rw_xm0934_01.row.prog w) (ktrTop dp un gd cn cs L a ccd cl outer) (call (.ref 310) [.ref x, .str "M" t]) Q E s := by
  revert X; k_fill; intro X
  obtain ⟨hx, hd, hf⟩ := hn
  refine wpAny_call ?_
  k_dflt ktr_enter
  k_steps
  exact ret _ _ (by k_asm) (newsSub (by k_asm) (fun p hp => by repeat (first | exact hp | refine List.mem_cons_of_mem _ ?_)))
theorem off_01 : True := by
  w_top off
  trivial
def setL (d : Addr) (o : Obj) (news : List (Addr × Obj)) : List (Addr × Obj) := (d, o) :: news.filter (fun p => p.1 != d)
theorem setL_mem {d : Addr} {o : Obj} {news : List (Addr × Obj)} {p : Addr × Obj} (hp : p ∈ news) (h : p.1 ≠ d) : p ∈ setL d o news :=
  List.mem_cons_of_mem _ (List.mem_filter.mpr ⟨hp, by simpa using h⟩)
theorem setL_head {d : Addr} {o : Obj} {news : List (Addr × Obj)} : (d, o) ∈ setL d o news := List.Mem.head _
theorem setL_sub {d : Addr} {o : Obj} {news news' : List (Addr × Obj)} (h : ∀ p ∈ news, p ∈ news') : ∀ p ∈ setL d o news, p ∈ setL d o news' := by
  intro p hp
  rcases List.mem_cons.mp hp with rfl | hp
  · exact setL_head
  · obtain ⟨a, b⟩ := List.mem_filter.mp hp
    exact setL_mem (h p a) (by simpa using b)
theorem setL_off {d : Addr} {news : List (Addr × Obj)} : ∀ p ∈ news.filter (fun p => p.1 != d), p.1 ≠ d := fun p hp => by simpa using (List.mem_filter.mp hp).2
theorem setL_news {h₀ h : Heap} {L d : Addr} {m : Str → Option Value} {news : List (Addr × Obj)} {o o' : Obj} {f : Obj → Obj} (F : Fr h₀ L h m) (N : News h₀ L h news) (hm : (d, o) ∈ news) (e : f o = o') (hf : o'.isFreed = false) :
    Fr h₀ L (h.update d f) m ∧ News h₀ L (h.update d f) (setL d o' news) :=
  news_upd (pre := []) (post := news.filter (fun p => p.1 != d)) (o := o) F (fun p hp => by
    rcases List.mem_cons.mp hp with rfl | hp
    · exact N _ hm
    · exact N _ (List.mem_filter.mp hp).1) (fun _ h => nomatch h) setL_off e hf
section
variable {prog : Program} {w : World} {A : Around} {E : Value → Shared → Prop} {s : Shared} {h₀ : Heap} {L D : Addr} {m : Str → Option Value} {news : List (Addr × Obj)} {n : Nat}
theorem my_setItem {its : Array Value} {k : Int} {t : Tok} {v : Value} {Q : Unit → Shared → Prop} (F : Fr h₀ L s.heap m) (N : News h₀ L s.heap news) (hm : (D, listOf its n) ∈ news) (h0 : 0 ≤ k) (hfit : k < 2 ^ 63) (hn : k < its.size)
    (h : ∀ h', Fr h₀ L h' m → News h₀ L h' (setL D (listOf (its.setIfInBounds k.toNat v) n) news) → Q () { s with heap := h' }) : wpAny (model prog w) A (setItem (.ref D) (.int k t) v) Q E s := by
  have e : Obj.mapSeq (·.setIfInBounds k.toNat v) (listOf its n) = listOf (its.setIfInBounds k.toNat v) n := by simp [Obj.mapSeq, W.listOf]
  have z := setL_news (f := Obj.mapSeq (·.setIfInBounds k.toNat v)) F N hm e rfl
  exact ki_setAt (N _ hm).1 h0 hfit hn (h _ z.1 z.2)
theorem my_set0 {a b c v : Value} {t : Tok} {Q : Unit → Shared → Prop} (F : Fr h₀ L s.heap m) (N : News h₀ L s.heap news) (hm : (D, listOf #[a, b, c] n) ∈ news)
    (h : ∀ h', Fr h₀ L h' m → News h₀ L h' (setL D (listOf #[v, b, c] n) news) → Q () { s with heap := h' }) : wpAny (model prog w) A (setItem (.ref D) (.int 0 t) v) Q E s := my_setItem F N hm (by decide) (by decide) (by simp) h
theorem my_set1 {a b c v : Value} {t : Tok} {Q : Unit → Shared → Prop} (F : Fr h₀ L s.heap m) (N : News h₀ L s.heap news) (hm : (D, listOf #[a, b, c] n) ∈ news)
    (h : ∀ h', Fr h₀ L h' m → News h₀ L h' (setL D (listOf #[a, v, c] n) news) → Q () { s with heap := h' }) : wpAny (model prog w) A (setItem (.ref D) (.int 1 t) v) Q E s := my_setItem F N hm (by decide) (by decide) (by simp) h
theorem my_set2 {a b c v : Value} {t : Tok} {Q : Unit → Shared → Prop} (F : Fr h₀ L s.heap m) (N : News h₀ L s.heap news) (hm : (D, listOf #[a, b, c] n) ∈ news)
    (h : ∀ h', Fr h₀ L h' m → News h₀ L h' (setL D (listOf #[a, b, v] n) news) → Q () { s with heap := h' }) : wpAny (model prog w) A (setItem (.ref D) (.int 2 t) v) Q E s := my_setItem F N hm (by decide) (by decide) (by simp) h
end
local macro_rules | `(tactic| walk_at "setItem ref int") => `(tactic| (k_here; (with_reducible show wpAny _ _ (setItem (Value.ref _) (Value.int 0 _) _) _ _ _); k_dflt (refine' my_set0 ?k1 ?k2 ?k3 ?_; (case k1 => k_asm); (case k2 => k_asm); (case k3 => k_mem); k_whole); intro h' F' N'))
local macro_rules | `(tactic| walk_at "setItem ref int") => `(tactic| (k_here; (with_reducible show wpAny _ _ (setItem (Value.ref _) (Value.int 1 _) _) _ _ _); k_dflt (refine' my_set1 ?k1 ?k2 ?k3 ?_; (case k1 => k_asm); (case k2 => k_asm); (case k3 => k_mem); k_whole); intro h' F' N'))
local macro_rules | `(tactic| walk_at "setItem ref int") => `(tactic| (k_here; (with_reducible show wpAny _ _ (setItem (Value.ref _) (Value.int 2 _) _) _ _ _); k_dflt (refine' my_set2 ?k1 ?k2 ?k3 ?_; (case k1 => k_asm); (case k2 => k_asm); (case k3 => k_mem); k_whole); intro h' F' N'))
theorem off_02 : True := by
  w_top off
  trivial
section
set_option maxHeartbeats 4000000 in
theorem put_L {w : World} {dp un : Nat} {gd : Option (List Code)} {cn : Str} {cs : Scope} {a : Addr} {ccd : Value} {cl : List (Str × Addr)} {outer : List Env} {A₀ : Around} {base h₀ : Heap} {L : Addr} {m : Str → Option Value}
    {news : List (Addr × Obj)} {s : Shared} {Q E : Value → Shared → Prop} {p : Program} {loose : List Str} {mean : ExcName → Option Value} {mg mb : Str → Option Value}
    {x d f v : Addr} {num : Int} {v0 v1 v2 u : Value} {nv : Nat} {t : Tok}
    (B : Below A₀ base outer h₀) (F : Fr h₀ L s.heap m) (X : (fr.heap_1 w.params).In h₀) (N : News h₀ L s.heap news) (T : Top p loose mean mg mb h₀) (hk : cs.kind = .function)
    (hdp : dp < 450) (hun : un < 5000) (hn : Node news x d f v num) (hv : (v, listOf #[v0, v1, v2] nv) ∈ news)
    (ret : ∀ h' tk', Fr h₀ L h' m → News h₀ L h' (setL v (listOf #[u, v1, v2] nv) news) → Q .none { s with heap := h', toks := tk' }) :
    wpAny (model PySem.Challenge.rw_xm0934_01.row.prog w) (ktrTop dp un gd cn cs L a ccd cl outer) (call (.ref 317) [.ref x, .str "L" t, u]) Q E s := by
  revert X; k_fill; intro X
  obtain ⟨hx, hd, hf⟩ := hn
  refine wpAny_call ?_
  k_dflt ktr_enter
  k_steps
  exact ret _ _ (by k_asm) (newsSub (by k_asm) (setL_sub fun p hp => by repeat (first | exact hp | refine List.mem_cons_of_mem _ ?_)))
set_option maxHeartbeats 4000000 in
theorem put_R {w : World} {dp un : Nat} {gd : Option (List Code)} {cn : Str} {cs : Scope} {a : Addr} {ccd : Value} {cl : List (Str × Addr)} {outer : List Env} {A₀ : Around} {base h₀ : Heap} {L : Addr} {m : Str → Option Value}
    {news : List (Addr × Obj)} {s : Shared} {Q E : Value → Shared → Prop} {p : Program} {loose : List Str} {mean : ExcName → Option Value} {mg mb : Str → Option Value}
    {x d f v : Addr} {num : Int} {v0 v1 v2 u : Value} {nv : Nat} {t : Tok}
    (B : Below A₀ base outer h₀) (F : Fr h₀ L s.heap m) (X : (fr.heap_1 w.params).In h₀) (N : News h₀ L s.heap news) (T : Top p loose mean mg mb h₀) (hk : cs.kind = .function)
    (hdp : dp < 450) (hun : un < 5000) (hn : Node news x d f v num) (hv : (v, listOf #[v0, v1, v2] nv) ∈ news)
    (ret : ∀ h' tk', Fr h₀ L h' m → News h₀ L h' (setL v (listOf #[v0, u, v2] nv) news) → Q .none { s with heap := h', toks := tk' }) :
    wpAny (model PySem.Challenge.rw_xm0934_01.row.prog w) (ktrTop dp un gd cn cs L a ccd cl outer) (call (.ref 317) [.ref x, .str "R" t, u]) Q E s := by
  revert X; k_fill; intro X
  obtain ⟨hx, hd, hf⟩ := hn
  refine wpAny_call ?_
  k_dflt ktr_enter
  k_steps
  exact ret _ _ (by k_asm) (newsSub (by k_asm) (setL_sub fun p hp => by repeat (first | exact hp | refine List.mem_cons_of_mem _ ?_)))
set_option maxHeartbeats 4000000 in
theorem put_M {w : World} {dp un : Nat} {gd : Option (List Code)} {cn : Str} {cs : Scope} {a : Addr} {ccd : Value} {cl : List (Str × Addr)} {outer : List Env} {A₀ : Around} {base h₀ : Heap} {L : Addr} {m : Str → Option Value}
    {news : List (Addr × Obj)} {s : Shared} {Q E : Value → Shared → Prop} {p : Program} {loose : List Str} {mean : ExcName → Option Value} {mg mb : Str → Option Value}
    {x d f v : Addr} {num : Int} {v0 v1 v2 u : Value} {nv : Nat} {t : Tok}
    (B : Below A₀ base outer h₀) (F : Fr h₀ L s.heap m) (X : (fr.heap_1 w.params).In h₀) (N : News h₀ L s.heap news) (T : Top p loose mean mg mb h₀) (hk : cs.kind = .function)
    (hdp : dp < 450) (hun : un < 5000) (hn : Node news x d f v num) (hv : (v, listOf #[v0, v1, v2] nv) ∈ news)
    (ret : ∀ h' tk', Fr h₀ L h' m → News h₀ L h' (setL v (listOf #[v0, v1, u] nv) news) → Q .none { s with heap := h', toks := tk' }) :
    wpAny (model PySem.Challenge.rw_xm0934_01.row.prog w) (ktrTop dp un gd cn cs L a ccd cl outer) (call (.ref 317) [.ref x, .str "M" t, u]) Q E s := by
  revert X; k_fill; intro X
  obtain ⟨hx, hd, hf⟩ := hn
  refine wpAny_call ?_
  k_dflt ktr_enter
  k_steps
  exact ret _ _ (by k_asm) (newsSub (by k_asm) (setL_sub fun p hp => by repeat (first | exact hp | refine List.mem_cons_of_mem _ ?_)))
end
set_option maxHeartbeats 4000000 in
theorem things_ref {w : World} {dp un : Nat} {gd : Option (List Code)} {cn : Str} {cs : Scope} {a : Addr} {ccd : Value} {cl : List (Str × Addr)} {outer : List Env} {A₀ : Around} {base h₀ : Heap} {L : Addr} {m : Str → Option Value}
    {news : List (Addr × Obj)} {s : Shared} {Q E : Value → Shared → Prop} {p : Program} {loose : List Str} {mean : ExcName → Option Value} {mg mb : Str → Option Value}
    {x d f v : Addr} {num : Int} {v0 v1 v2 : Value} {nv : Nat}
    (B : Below A₀ base outer h₀) (F : Fr h₀ L s.heap m) (X : (fr.heap_1 w.params).In h₀) (N : News h₀ L s.heap news) (T : Top p loose mean mg mb h₀) (hk : cs.kind = .function)
    (hdp : dp < 450) (hun : un < 5000) (hn : Node news x d f v num) (hv : (v, listOf #[v0, v1, v2] nv) ∈ news)
    (ret : ∀ h' tk', Fr h₀ L h' m → News h₀ L h' news → Q (.ref v) { s with heap := h', toks := tk' }) :
    wpAny (model PySem.Challenge.rw_xm0934_01.row.prog w) (ktrTop dp un gd cn cs L a ccd cl outer) (call (.ref 296) [.ref x]) Q E s := by
  revert X; k_fill; intro X
  obtain ⟨hx, hd, hf⟩ := hn
  refine wpAny_call ?_
  k_dflt ktr_enter
  k_steps
  exact ret _ _ (by k_asm) (newsSub (by k_asm) (fun p hp => by repeat (first | exact hp | refine List.mem_cons_of_mem _ ?_)))
set_option maxHeartbeats 4000000 in
theorem things_str {w : World} {dp un : Nat} {gd : Option (List Code)} {cn : Str} {cs : Scope} {a : Addr} {ccd : Value} {cl : List (Str × Addr)} {outer : List Env} {A₀ : Around} {base h₀ : Heap} {L : Addr} {m : Str → Option Value}
    {news : List (Addr × Obj)} {s : Shared} {Q E : Value → Shared → Prop} {p : Program} {loose : List Str} {mean : ExcName → Option Value} {mg mb : Str → Option Value}
    {y : Str} {t : Tok}
    (B : Below A₀ base outer h₀) (F : Fr h₀ L s.heap m) (X : (fr.heap_1 w.params).In h₀) (N : News h₀ L s.heap news) (T : Top p loose mean mg mb h₀) (hk : cs.kind = .function)
    (hdp : dp < 450) (hun : un < 5000)
    (ret : ∀ h' tk' D n, Fr h₀ L h' m → News h₀ L h' ((D, listOf #[] n) :: news) → (∀ q ∈ news, q.1 < D) → Q (.ref D) { s with heap := h', toks := tk' }) :
    wpAny (model PySem.Challenge.rw_xm0934_01.row.prog w) (ktrTop dp un gd cn cs L a ccd cl outer) (call (.ref 296) [.str y t]) Q E s := by
  revert X; k_fill; intro X
  refine wpAny_call ?_
  k_dflt ktr_enter
  k_steps
  exact ret _ _ _ _ (by k_asm) (by k_asm) (by first | assumption | exact fun q hq => kst_ltOf (by assumption) q hq)
set_option maxHeartbeats 4000000 in
theorem things_int {w : World} {dp un : Nat} {gd : Option (List Code)} {cn : Str} {cs : Scope} {a : Addr} {ccd : Value} {cl : List (Str × Addr)} {outer : List Env} {A₀ : Around} {base h₀ : Heap} {L : Addr} {m : Str → Option Value}
    {news : List (Addr × Obj)} {s : Shared} {Q E : Value → Shared → Prop} {p : Program} {loose : List Str} {mean : ExcName → Option Value} {mg mb : Str → Option Value}
    {y : Int} {t : Tok}
    (B : Below A₀ base outer h₀) (F : Fr h₀ L s.heap m) (X : (fr.heap_1 w.params).In h₀) (N : News h₀ L s.heap news) (T : Top p loose mean mg mb h₀) (hk : cs.kind = .function)
    (hdp : dp < 450) (hun : un < 5000)
    (ret : ∀ h' tk' D n, Fr h₀ L h' m → News h₀ L h' ((D, listOf #[] n) :: news) → (∀ q ∈ news, q.1 < D) → Q (.ref D) { s with heap := h', toks := tk' }) :
    wpAny (model PySem.Challenge.rw_xm0934_01.row.prog w) (ktrTop dp un gd cn cs L a ccd cl outer) (call (.ref 296) [.int y t]) Q E s := by
  revert X; k_fill; intro X
  refine wpAny_call ?_
  k_dflt ktr_enter
  k_steps
  exact ret _ _ _ _ (by k_asm) (by k_asm) (by first | assumption | exact fun q hq => kst_ltOf (by assumption) q hq)
theorem off_03 : True := by
  w_top off
  trivial
structure Adr where
  x : Addr
  d : Addr
  f : Addr
  v : Addr
structure Nd where
  l : Nat
  r : Nat
  m : Nat
def LinkV (As : List Adr) (val : Value) (k : Nat) : Prop := (k = 0 ∧ ∃ t, val = .str "" t) ∨ (∃ a, k ≠ 0 ∧ As[k - 1]? = some a ∧ val = .ref a.x)
structure GraphIn (news : List (Addr × Obj)) (As : List Adr) (G : List Nd) : Prop where
  len : As.length = G.length
  node : ∀ (i : Nat) a, As[i]? = some a → Node news a.x a.d a.f a.v ((i : Int) + 1)
  vals : ∀ (i : Nat) a g, As[i]? = some a → G[i]? = some g → ∃ v0 v1 t n, (a.v, listOf #[v0, v1, .int (g.m : Int) t] n) ∈ news ∧ LinkV As v0 g.l ∧ LinkV As v1 g.r
structure Apart (As : List Adr) : Prop where
  vx : ∀ a ∈ As, ∀ b ∈ As, b.x ≠ a.v
  vd : ∀ a ∈ As, ∀ b ∈ As, b.d ≠ a.v
  vf : ∀ a ∈ As, ∀ b ∈ As, b.f ≠ a.v
  dx : ∀ a ∈ As, ∀ b ∈ As, b.x ≠ a.d
  df : ∀ a ∈ As, ∀ b ∈ As, b.f ≠ a.d
  vv : ∀ (i j : Nat) a b, As[i]? = some a → As[j]? = some b → a.v = b.v → i = j
  dd : ∀ (i j : Nat) a b, As[i]? = some a → As[j]? = some b → a.d = b.d → i = j
def Adr.has (a : Adr) (y : Addr) : Prop := y = a.x ∨ y = a.d ∨ y = a.f ∨ y = a.v
theorem mem_of_get {α : Type} {l : List α} {i : Nat} {a : α} (h : l[i]? = some a) : a ∈ l := List.mem_of_getElem? h
theorem Node.mono {news news' : List (Addr × Obj)} {x d f v : Addr} {num : Int} (h : Node news x d f v num) (hs : ∀ p ∈ news, (p.1 = x ∨ p.1 = d ∨ p.1 = f) → p ∈ news') : Node news' x d f v num := by
  obtain ⟨hx, hd, hf⟩ := h
  exact .mk (hs _ hx (.inl rfl)) (hs _ hd (.inr (.inl rfl))) (hs _ hf (.inr (.inr rfl)))
theorem GraphIn.mono {news news' : List (Addr × Obj)} {As : List Adr} {G : List Nd} (h : GraphIn news As G) (hs : ∀ p ∈ news, (∃ a ∈ As, a.has p.1) → p ∈ news') : GraphIn news' As G where
  len := h.len
  node := fun i a ha => (h.node i a ha).mono fun p hp q => hs p hp ⟨a, mem_of_get ha, by rcases q with q | q | q <;> simp [Adr.has, q]⟩
  vals := fun i a g ha hg => by
    obtain ⟨v0, v1, t, n, hm, h0, h1⟩ := h.vals i a g ha hg
    exact ⟨v0, v1, t, n, hs _ hm ⟨a, mem_of_get ha, by simp [Adr.has]⟩, h0, h1⟩
/-- a list's values turned: the graph turned at that node -/
theorem GraphIn.put {news : List (Addr × Obj)} {As : List Adr} {G : List Nd} {i : Nat} {a : Adr} {g : Nd} {u0 u1 : Value} {t : Tok} {n : Nat} {mv : Int} (h : GraphIn news As G) (AP : Apart As) (ha : As[i]? = some a) (hg : LinkV As u0 g.l ∧ LinkV As u1 g.r) (hmv : (g.m : Int) = mv) :
    GraphIn (setL a.v (listOf #[u0, u1, .int mv t] n) news) As (G.set i g) where
  len := by rw [List.length_set]; exact h.len
  node := fun j b hb => (h.node j b hb).mono fun p hp q => setL_mem hp (by
    have hA := mem_of_get ha; have hB := mem_of_get hb
    rcases q with q | q | q <;> rw [q]
    · exact AP.vx a hA b hB
    · exact AP.vd a hA b hB
    · exact AP.vf a hA b hB)
  vals := fun j b g' hb hg' => by
    by_cases e : j = i
    · subst e
      rw [ha] at hb
      cases hb
      have hj : j < G.length := by rw [← h.len]; exact (List.getElem?_eq_some_iff.mp ha).1
      rw [List.getElem?_set_self hj] at hg'
      cases hg'
      subst hmv
      exact ⟨u0, u1, t, n, setL_head, hg.1, hg.2⟩
    · rw [List.getElem?_set_ne (Ne.symm e)] at hg'
      obtain ⟨v0, v1, t', n', hm, h0, h1⟩ := h.vals j b g' hb hg'
      exact ⟨v0, v1, t', n', setL_mem hm (fun q => e (AP.vv j i b a hb ha q)), h0, h1⟩
/-- the same, told by what the ledger bears -/
theorem GraphIn.over {news news' : List (Addr × Obj)} {As : List Adr} {G : List Nd} {i : Nat} {a : Adr} {u0 u1 : Value} {t : Tok} {n : Nat} {mv : Int} (g : Nd) (h : GraphIn news As G) (AP : Apart As) (ha : As[i]? = some a) (hm : (a.v, listOf #[u0, u1, .int mv t] n) ∈ news') (hs : ∀ q ∈ news, q.1 ≠ a.v → q ∈ news')
    (h0 : LinkV As u0 g.l) (h1 : LinkV As u1 g.r) (hmv : (g.m : Int) = mv) : GraphIn news' As (G.set i g) :=
  (h.put AP ha ⟨h0, h1⟩ hmv).mono fun p hp _ => by
    rcases List.mem_cons.mp hp with rfl | hp
    · exact hm
    · obtain ⟨q1, q2⟩ := List.mem_filter.mp hp
      exact hs p q1 (by simpa using q2)
/-- a node's mark turned: the graph as it was -/
theorem GraphIn.mark {news : List (Addr × Obj)} {As : List Adr} {G : List Nd} {i : Nat} {a : Adr} {h1 h2 h3 h4 h5 : Int} {t1 t2 t3 t4 t5 u1 u2 u3 : Tok} {mk num : Int} {nd : Nat} (h : GraphIn news As G) (AP : Apart As) (ha : As[i]? = some a) (hnum : (i : Int) + 1 = num) :
    GraphIn (setL a.d (dictOf [⟨h1, .str "word" t1, .str "NODE" u1⟩, ⟨h2, .str "number" t2, .int num u2⟩, ⟨h3, .str "mark" t3, .int mk u3⟩, ⟨h4, .str "fields" t4, .ref a.f⟩, ⟨h5, .str "values" t5, .ref a.v⟩] nd) news) As G where
  len := h.len
  node := fun j b hb => by
    have hA := mem_of_get ha; have hB := mem_of_get hb
    by_cases e : j = i
    · subst e
      rw [ha] at hb
      cases hb
      subst hnum
      obtain ⟨hx, hd, hf⟩ := h.node j a ha
      exact .mk (setL_mem hx (AP.dx a hA a hA)) setL_head (setL_mem hf (AP.df a hA a hA))
    · exact (h.node j b hb).mono fun p hp q => setL_mem hp (by
        rcases q with q | q | q <;> rw [q]
        · exact AP.dx a hA b hB
        · exact fun q => e (AP.dd j i b a hb ha q)
        · exact AP.df a hA b hB)
  vals := fun j b g hb hg => by
    obtain ⟨v0, v1, t, n, hm, h0, h1⟩ := h.vals j b g hb hg
    exact ⟨v0, v1, t, n, setL_mem hm (Ne.symm (AP.vd b (mem_of_get hb) a (mem_of_get ha))), h0, h1⟩
theorem GraphIn.off {news : List (Addr × Obj)} {As : List Adr} {G : List Nd} {D : Addr} {o : Obj} (h : GraphIn news As G) (hD : ∀ a ∈ As, ¬ a.has D) : GraphIn (setL D o news) As G :=
  h.mono fun p hp ⟨a, ha, q⟩ => setL_mem hp fun e => hD a ha (e ▸ q)
theorem GraphIn.lt {news : List (Addr × Obj)} {As : List Adr} {G : List Nd} {D : Addr} (g : GraphIn news As G) (hD : ∀ q ∈ news, q.1 < D) : ∀ a ∈ As, ¬ a.has D := fun a ha hh => by
  obtain ⟨i, hi⟩ := List.getElem?_of_mem ha
  obtain ⟨hx, hd, hf⟩ := g.node i a hi
  have hlt : i < G.length := by rw [← g.len]; exact (List.getElem?_eq_some_iff.mp hi).1
  obtain ⟨_, _, _, _, hv, _⟩ := g.vals i a G[i] hi (by simp [hlt])
  rcases hh with e | e | e | e
  · exact absurd (hD _ hx) (by rw [e]; exact Nat.lt_irrefl _)
  · exact absurd (hD _ hd) (by rw [e]; exact Nat.lt_irrefl _)
  · exact absurd (hD _ hf) (by rw [e]; exact Nat.lt_irrefl _)
  · exact absurd (hD _ hv) (by rw [e]; exact Nat.lt_irrefl _)

-- plain: what is reached
def Kid (G : List Nd) (k c : Nat) : Prop := c ≠ 0 ∧ ∃ g, k ≠ 0 ∧ G[k - 1]? = some g ∧ (c = g.l ∨ c = g.r)
inductive Rch (G : List Nd) (R : List Nat) : Nat → Prop
  | root {k : Nat} : k ∈ R → k ≠ 0 → Rch G R k
  | kid {k c : Nat} : Rch G R k → Kid G k c → Rch G R c
theorem pig : ∀ (n : Nat) (l : List Nat), l.Nodup → (∀ k ∈ l, 1 ≤ k ∧ k ≤ n) → l.length ≤ n
  | 0, l, _, h => by
    cases l with
    | nil => exact Nat.le_refl _
    | cons a r => have := h a (.head _); omega
  | n + 1, l, hn, h => by
    by_cases hm : n + 1 ∈ l
    · have := pig n (l.erase (n + 1)) (hn.erase _) (fun k hk => by
        have h1 := h k (List.mem_of_mem_erase hk)
        have h2 : k ≠ n + 1 := fun e => by rw [e] at hk; exact (List.Nodup.mem_erase_iff hn).mp hk |>.1 rfl
        omega)
      rw [List.length_erase_of_mem hm] at this
      omega
    · have := pig n l hn (fun k hk => by
        have h1 := h k hk
        have h2 : k ≠ n + 1 := fun e => hm (e ▸ hk)
        omega)
      omega

def WV (As : List Adr) (v : Value) (k : Nat) : Prop := (k = 0 ∧ ((∃ y t, v = .str y t) ∨ ∃ y t, v = .int y t)) ∨ (∃ a, k ≠ 0 ∧ As[k - 1]? = some a ∧ v = .ref a.x)
theorem LinkV.wv {As : List Adr} {v : Value} {k : Nat} (h : LinkV As v k) : WV As v k := h.elim (fun ⟨a, t, e⟩ => .inl ⟨a, .inl ⟨_, t, e⟩⟩) .inr
/-- the state of reach's loop, in plain -/
structure RInv (As : List Adr) (G : List Nd) (R : List Nat) (zs : List (Value × Nat)) (met : List Nat) : Prop where
  wv : ∀ z ∈ zs, WV As z.1 z.2
  zr : ∀ z ∈ zs, z.2 ≠ 0 → Rch G R z.2
  mr : ∀ k ∈ met, Rch G R k
  mkd : ∀ k ∈ met, ∀ c, Kid G k c → c ∈ met ∨ ∃ z ∈ zs, z.2 = c
  rt : ∀ k ∈ R, k ≠ 0 → k ∈ met ∨ ∃ z ∈ zs, z.2 = k
  nd : met.Nodup
  bd : ∀ k ∈ met, 1 ≤ k ∧ k ≤ As.length
def rMu (As : List Adr) (zs : List (Value × Nat)) (met : List Nat) : Nat := 4 * (As.length - met.length) + zs.length
theorem RInv.start {As : List Adr} {G : List Nd} {va vb : Value} {a b : Nat} (ha : LinkV As va a) (hb : LinkV As vb b) : RInv As G [a, b] [(va, a), (vb, b)] [] where
  wv := by
    intro z hz
    rcases List.mem_cons.mp hz with rfl | hz
    · exact ha.wv
    · rw [List.mem_singleton.mp hz]; exact hb.wv
  zr := by
    intro z hz h0
    rcases List.mem_cons.mp hz with rfl | hz
    · exact .root (.head _) h0
    · rw [List.mem_singleton.mp hz] at h0 ⊢; exact .root (.tail _ (.head _)) h0
  mr := fun _ h => nomatch h
  mkd := fun _ h => nomatch h
  rt := by
    intro k hk h0
    right
    rcases List.mem_cons.mp hk with rfl | hk
    · exact ⟨_, .head _, rfl⟩
    · exact ⟨_, .tail _ (.head _), (List.mem_singleton.mp hk).symm⟩
  nd := List.nodup_nil
  bd := fun _ h => nomatch h
/-- a dropped word: nothing, or a thing that was met -/
theorem RInv.drop {As : List Adr} {G : List Nd} {R : List Nat} {zs : List (Value × Nat)} {z : Value × Nat} {met : List Nat} (I : RInv As G R (zs ++ [z]) met) (h : z.2 = 0 ∨ z.2 ∈ met) (hkid : ∀ k c, Kid G k c → c ≠ 0 := fun _ _ h => h.1) : RInv As G R zs met where
  wv := fun y hy => I.wv y (List.mem_append_left _ hy)
  zr := fun y hy => I.zr y (List.mem_append_left _ hy)
  mr := I.mr
  mkd := fun k hk c hc => (I.mkd k hk c hc).elim .inl fun ⟨y, hy, e⟩ => by
    rcases List.mem_append.mp hy with hy | hy
    · exact .inr ⟨y, hy, e⟩
    · rw [List.mem_singleton.mp hy] at e
      rcases h with h | h
      · exact absurd (e ▸ h) (hkid _ _ hc)
      · exact .inl (e ▸ h)
  rt := fun k hk h0 => (I.rt k hk h0).elim .inl fun ⟨y, hy, e⟩ => by
    rcases List.mem_append.mp hy with hy | hy
    · exact .inr ⟨y, hy, e⟩
    · rw [List.mem_singleton.mp hy] at e
      rcases h with h | h
      · exact absurd (e ▸ h) h0
      · exact .inl (e ▸ h)
  nd := I.nd
  bd := I.bd
/-- a thing that is met anew -/
theorem RInv.meet {As : List Adr} {G : List Nd} {R : List Nat} {zs : List (Value × Nat)} {v : Value} {k : Nat} {met : List Nat} {g : Nd} {v0 v1 v2 : Value} (I : RInv As G R (zs ++ [(v, k)]) met) (hk : k ∉ met) (k0 : k ≠ 0) (hkn : k ≤ As.length) (hg : G[k - 1]? = some g)
    (h0 : LinkV As v0 g.l) (h1 : LinkV As v1 g.r) (h2 : ∃ y t, v2 = .int y t) : RInv As G R (zs ++ [(v0, g.l), (v1, g.r), (v2, 0)]) (met ++ [k]) where
  wv := by
    intro y hy
    rcases List.mem_append.mp hy with hy | hy
    · exact I.wv y (List.mem_append_left _ hy)
    · simp only [List.mem_cons, List.not_mem_nil, or_false] at hy
      rcases hy with rfl | rfl | rfl
      · exact h0.wv
      · exact h1.wv
      · exact .inl ⟨rfl, .inr h2⟩
  zr := by
    intro y hy hy0
    have hR : Rch G R k := I.zr (v, k) (List.mem_append_right _ (.head _)) k0
    rcases List.mem_append.mp hy with hy | hy
    · exact I.zr y (List.mem_append_left _ hy) hy0
    · simp only [List.mem_cons, List.not_mem_nil, or_false] at hy
      rcases hy with rfl | rfl | rfl
      · exact .kid hR ⟨hy0, g, k0, hg, .inl rfl⟩
      · exact .kid hR ⟨hy0, g, k0, hg, .inr rfl⟩
      · exact absurd rfl hy0
  mr := by
    intro c hc
    rcases List.mem_append.mp hc with hc | hc
    · exact I.mr c hc
    · rw [List.mem_singleton.mp hc]; exact I.zr (v, k) (List.mem_append_right _ (.head _)) k0
  mkd := by
    intro j hj c hc
    rcases List.mem_append.mp hj with hj | hj
    · rcases I.mkd j hj c hc with h | ⟨y, hy, e⟩
      · exact .inl (List.mem_append_left _ h)
      · rcases List.mem_append.mp hy with hy | hy
        · exact .inr ⟨y, List.mem_append_left _ hy, e⟩
        · rw [List.mem_singleton.mp hy] at e
          exact .inl (List.mem_append_right _ (by rw [← e]; exact .head _))
    · rw [List.mem_singleton.mp hj] at hc
      obtain ⟨_, g', _, hg', h⟩ := hc
      rw [hg] at hg'
      cases hg'
      right
      rcases h with rfl | rfl
      · exact ⟨(v0, g.l), List.mem_append_right _ (.head _), rfl⟩
      · exact ⟨(v1, g.r), List.mem_append_right _ (.tail _ (.head _)), rfl⟩
  rt := by
    intro j hj j0
    rcases I.rt j hj j0 with h | ⟨y, hy, e⟩
    · exact .inl (List.mem_append_left _ h)
    · rcases List.mem_append.mp hy with hy | hy
      · exact .inr ⟨y, List.mem_append_left _ hy, e⟩
      · rw [List.mem_singleton.mp hy] at e
        exact .inl (List.mem_append_right _ (by rw [← e]; exact .head _))
  nd := by
    rw [List.nodup_append]
    exact ⟨I.nd, List.nodup_cons.mpr ⟨List.not_mem_nil, List.nodup_nil⟩, fun a ha b hb e => hk (by rw [← List.mem_singleton.mp hb, ← e]; exact ha)⟩
  bd := by
    intro j hj
    rcases List.mem_append.mp hj with hj | hj
    · exact I.bd j hj
    · rw [List.mem_singleton.mp hj]; exact ⟨by omega, hkn⟩
theorem RInv.done {As : List Adr} {G : List Nd} {R : List Nat} {met : List Nat} (I : RInv As G R [] met) (k : Nat) : k ∈ met ↔ Rch G R k := by
  refine ⟨I.mr k, fun h => ?_⟩
  induction h with
  | root hm h0 => exact (I.rt _ hm h0).elim id fun ⟨_, h, _⟩ => nomatch h
  | kid _ hc ih => exact (I.mkd _ ih _ hc).elim id fun ⟨_, h, _⟩ => nomatch h
theorem rMu_drop {As : List Adr} {zs : List (Value × Nat)} {z : Value × Nat} {met : List Nat} : rMu As zs met < rMu As (zs ++ [z]) met := by
  unfold rMu; rw [List.length_append]; simp
theorem rMu_meet {As : List Adr} {G : List Nd} {R : List Nat} {zs : List (Value × Nat)} {z a b c : Value × Nat} {k : Nat} {met : List Nat} (I : RInv As G R (zs ++ [a, b, c]) (met ++ [k])) : rMu As (zs ++ [a, b, c]) (met ++ [k]) < rMu As (zs ++ [z]) met := by
  have := pig As.length _ I.nd I.bd
  unfold rMu
  rw [List.length_append] at this ⊢
  rw [List.length_append, List.length_append]
  simp at this ⊢
  omega
theorem off_04 : True := by
  w_top off
  trivial
section
variable {prog : Program} {w : World} {A : Around} {E : Value → Shared → Prop} {s : Shared} {h₀ : Heap} {L D d : Addr} {m : Str → Option Value} {news : List (Addr × Obj)} {n : Nat} {o : Obj}
theorem newsHead {h : Heap} {o : Obj} (N : News h₀ L h news) (hm : (D, o) ∈ news) : News h₀ L h ((D, o) :: news.filter (fun p => p.1 != D)) := newsSub N fun p hp => by
  rcases List.mem_cons.mp hp with rfl | hp
  · exact hm
  · exact (List.mem_filter.mp hp).1
theorem my_len {us : List Value} {k c : Nat} {Q : Value → Shared → Prop} (N : News h₀ L s.heap news) (hm : (D, listOf us.toArray c) ∈ news) (e : us.length = k) (hfit : k < 100)
    (h : Q (.int (k : Int) (s.toks + 1)) { s with toks := s.toks + 1 + 1 }) : wpAny (model prog w) A (call (.builtin "len") [.ref D]) Q E s := kst_len N hm e (by omega) h
theorem lastSnoc (ps : List Value) (y : Value) : kl_last (ps ++ [y]) = some (ps, y) := by
  induction ps with
  | nil => rfl
  | cons a r ih => show kl_last (a :: (r ++ [y])) = _; unfold kl_last; rw [ih]
theorem my_pop {ps : List Value} {y : Value} {Q : Value → Shared → Prop} (F : Fr h₀ L s.heap m) (N : News h₀ L s.heap news) (hm : (D, listOf (ps ++ [y]).toArray n) ∈ news) (hz : ps.length < 100)
    (h : ∀ h', Fr h₀ L h' m → News h₀ L h' (setL D (listOf ps.toArray (n + 1)) news) → Q y { s with heap := h' }) : wpAny (model prog w) A (call (.builtin "list.pop") [.ref D]) Q E s :=
  kl_pop F (newsHead N hm) (lastSnoc ps y) (Upd.head setL_off) (by rw [sizeLine_eq]; simp; omega) h
theorem notLong {a b : Nat} (ha : a < 100) (hb : b < 100) {c : Bool} : ¬(!c && Builtin.List.listTooLong (a + b)) = true := by
  have : Builtin.List.listTooLong (a + b) = false := by
    unfold Builtin.List.listTooLong
    rw [sizeLine_eq]
    exact decide_eq_false (by omega)
  rw [this]; simp
theorem my_extend {ps : List Value} {a0 a1 a2 : Value} {b : Addr} {n2 : Nat} {Q : Value → Shared → Prop} (F : Fr h₀ L s.heap m) (N : News h₀ L s.heap news) (hm : (D, listOf ps.toArray n) ∈ news) (hb : (b, listOf #[a0, a1, a2] n2) ∈ news) (hne : b ≠ D) (hz : ps.length < 100)
    (h : ∀ h', Fr h₀ L h' m → News h₀ L h' (setL D (listOf (ps ++ [a0, a1, a2]).toArray (n + 1)) news) → Q .none { s with heap := h' }) : wpAny (model prog w) A (call (.builtin "list.extend") [.ref D, .ref b]) Q E s :=
  kl_extend F (newsHead N hm) (List.mem_cons_of_mem _ (List.mem_filter.mpr ⟨hb, by simpa using hne⟩)) rfl (by simp) (Upd.head setL_off) (notLong (by simpa using hz) (by simp)) (by rw [sizeLine_eq]; simp; omega) (by rw [sizeLine_eq]; simp; omega) h
theorem my_extend0 {ps : List Value} {b : Addr} {n2 : Nat} {Q : Value → Shared → Prop} (F : Fr h₀ L s.heap m) (N : News h₀ L s.heap news) (hm : (D, listOf ps.toArray n) ∈ news) (hb : (b, listOf #[] n2) ∈ news) (hne : b ≠ D) (hz : ps.length < 100)
    (h : ∀ h', Fr h₀ L h' m → News h₀ L h' (setL D (listOf ps.toArray n) news) → Q .none { s with heap := h' }) : wpAny (model prog w) A (call (.builtin "list.extend") [.ref D, .ref b]) Q E s :=
  kxn_extend F (newsHead N hm) (List.mem_cons_of_mem _ (List.mem_filter.mpr ⟨hb, by simpa using hne⟩)) rfl (Upd.head setL_off) (notLong (by simpa using hz) (by simp)) (by rw [sizeLine_eq]; simp; omega) (by rw [sizeLine_eq]; simp; omega) h
abbrev metKv (met : List Nat) : List (Int × Value) := met.map fun (k : Nat) => ((k : Int), Value.bool true)
theorem met_any {met : List Nat} {k : Nat} : (metKv met).any (fun kv => decide (kv.1 = (k : Int))) = decide (k ∈ met) := by
  rw [Bool.eq_iff_iff]
  simp only [List.any_eq_true, decide_eq_true_eq, List.mem_map]
  constructor
  · rintro ⟨p, ⟨j, hj, rfl⟩, e⟩
    have : j = k := Int.ofNat.inj e
    exact this ▸ hj
  · exact fun h => ⟨_, ⟨k, h, rfl⟩, rfl⟩
theorem met_in {met : List Nat} {k : Nat} : (valueAt (metKv met) (k : Int)).isSome = decide (k ∈ met) := by
  unfold valueAt
  rw [Option.isSome_map, ← met_any]
  rw [Bool.eq_iff_iff, List.find?_isSome, List.any_eq_true]
theorem met_stored {met : List Nat} {k : Nat} (hk : k ∉ met) : stored (metKv met) (k : Int) (.bool true) = metKv (met ++ [k]) := by
  unfold stored
  rw [met_any, if_neg (by simpa using hk)]
  simp [metKv]
theorem my_din {met : List Nat} {k : Nat} {t : Tok} {b : Bool} {Q : Value → Shared → Prop} (N : News h₀ L s.heap news) (hp : (d, o) ∈ news) (hd : o.IsDictOf (PySem.intKind prog w) (metKv met)) (lo : (d == sysModules) = false) (hb : decide (k ∈ met) = b) (h : Q (.bool b) { s with toks := s.toks + 1 }) :
    wpAny (model prog w) A (compareOp .In (.int (k : Int) t) (.ref d)) Q E s := kda_in N hp hd lo (intKind_is _ _ _ _) b (met_in.trans hb) h
theorem my_dset {met : List Nat} {k : Nat} {t : Tok} {Q : Unit → Shared → Prop} (F : Fr h₀ L s.heap m) (N : News h₀ L s.heap news) (hp : (d, o) ∈ news) (hd : o.IsDictOf (PySem.intKind prog w) (metKv met)) (hk : k ∉ met) (hz : met.length < 100)
    (h : ∀ h' o', Fr h₀ L h' m → News h₀ L h' (setL d o' news) → o'.IsDictOf (PySem.intKind prog w) (metKv (met ++ [k])) → Q () { s with heap := h', toks := s.toks + 1 }) : wpAny (model prog w) A (setItem (.ref d) (.int (k : Int) t) (.bool true)) Q E s :=
  kda_set F (newsHead N hp) (UpdF.head setL_off) hd (intKind_is _ _ _ _) (by rw [sizeLine_eq]; simp; omega) fun h' o' F' N' hd' => h h' o' F' N' (met_stored hk ▸ hd')
theorem intsOf {met : List Nat} : ∀ (vs : List Value), vs.length = met.length → (∀ (j : Nat) v, vs[j]? = some v → ∃ (k : Int) (x : Value), (metKv met)[j]? = some (k, x) ∧ ∃ t : Tok, v = .int k t) → IntsAre vs (met.map fun (k : Nat) => (k : Int)) := by
  induction met with
  | nil => intro vs hl _; cases vs with
    | nil => exact .nil
    | cons _ _ => simp at hl
  | cons a r ih => intro vs hl h; cases vs with
    | nil => simp at hl
    | cons v vs =>
      obtain ⟨k, x, e, t, rfl⟩ := h 0 v rfl
      simp only [metKv, List.map_cons, List.getElem?_cons_zero, Option.some.injEq, Prod.mk.injEq] at e
      obtain ⟨rfl, _⟩ := e
      exact .cons _ _ (ih vs (by simpa using hl) fun j u hu => by simpa [metKv] using h (j + 1) u (by simpa using hu))
theorem my_dlist {met : List Nat} {Q : Value → Shared → Prop} (hh : A.handled = none) (F : Fr h₀ L s.heap m) (N : News h₀ L s.heap news) (hp : (d, o) ∈ news) (hd : o.IsDictOf (PySem.intKind prog w) (metKv met)) (lo : (d == sysModules) = false) (hz : met.length < 100)
    (h : ∀ (B : Addr) c h' tk vs, Fr h₀ L h' m → News h₀ L h' ((B, listOf vs.toArray c) :: news) → IntsAre vs (met.map fun (k : Nat) => (k : Int)) → Q (.ref B) { s with heap := h', toks := tk }) :
    wpAny (model prog w) A (call (.type "list") [.ref d]) Q E s := by
  obtain ⟨ep, hat⟩ := (kda_dict N hp hd).dictAt
  refine kdl_N (kdl_dict (knd := PySem.intKind prog w) (kvs := metKv met) (ep := ep) lo) hh F N hat (by rw [sizeLine_eq]; simp; omega) fun B c h' tk vs F' N' l1 hl hv => ?_
  exact h B c h' tk vs F' N' (intsOf vs (by simpa using hl) fun j u hu => by
    obtain ⟨k, x, hx, hk⟩ := hv j u hu
    exact ⟨k, x, hx, Value.isInt_shape hk⟩)
theorem my_sorted {l : Addr} {c : Nat} {vs : List Value} {ns : List Int} {Q : Value → Shared → Prop} (F : Fr h₀ L s.heap m) (N : News h₀ L s.heap news) (hm : (l, listOf vs.toArray c) ∈ news) (hI : IntsAre vs ns) (h64 : ns.length < 64)
    (h : ∀ (h' : Heap) (D : Addr) (vs' : List Value) (ns' : List Int) (e : Nat), Fr h₀ L h' m → News h₀ L h' ((D, listOf vs'.toArray e) :: news) → (∀ q ∈ news, q.1 < D) → IntsAre vs' ns' → ns'.Perm ns → ns'.Pairwise (· ≤ ·) → Q (.ref D) { s with heap := h' }) :
    wpAny (model prog w) A (call (.builtin "sorted") [.ref l]) Q E s :=
  sorted_N F N (PySem.IsL.isList (n := c) (N _ hm).1) hI (by have := hI.length; omega) fun h' vs' ns' e F' N' hI' hp hs => h h' _ vs' ns' e F' N' (fun q hq => Nat.lt_succ_of_lt (Heap.lt_size (N q hq).1)) hI' hp hs
theorem my_copy {l : Addr} {c : Nat} {vs : List Value} {Q : Value → Shared → Prop} (F : Fr h₀ L s.heap m) (N : News h₀ L s.heap news) (hm : (l, listOf vs.toArray c) ∈ news) (hz : vs.length < 100)
    (h : ∀ D c h', Fr h₀ L h' m → News h₀ L h' ((D, listOf vs.toArray c) :: news) → (∀ q ∈ news, q.1 < D) → Q (.ref D) { s with heap := h' }) : wpAny (model prog w) A (call (.type "list") [.ref l]) Q E s :=
  list_copyK F N (PySem.IsL.isList (n := c) (N _ hm).1) h (by rw [sizeLine_eq]; simp; omega)
theorem my_method {name : Str} {id : String} {its : Array Value} {pl : Sem Bool} {Q : Value × List Value → Shared → Prop} (N : News h₀ L s.heap news) (hm : (D, listOf its n) ∈ news) (slot : Slot "list" name id) (hty : typeOf (.builtin id) = pure (.type "method_descriptor"))
    (h : Q (.builtin id, [.ref D]) s) : wpAny (model prog w) A (getMethod (.ref D) name pl) Q E s := kl_method N hm slot hty h
end
theorem my_setMark {w : World} {A : Around} {E : Value → Shared → Prop} {s : Shared} {h₀ : Heap} {L : Addr} {m : Str → Option Value} {news : List (Addr × Obj)} {x d f v : Addr} {num : Int} {h1 h2 h3 h4 h5 : Int} {t1 t2 t3 t4 t5 u1 u2 u3 : Tok} {mk : Int} {nd : Nat} {y : Int} {u : Tok} {Q : Unit → Shared → Prop}
    (F : Fr h₀ L s.heap m) (X : (fr.heap_1 w.params).In h₀) (N : News h₀ L s.heap news) (hx : (x, instObj 204 d) ∈ news) (hne : d ≠ x)
    (hd : (d, dictOf [⟨h1, .str "word" t1, .str "NODE" u1⟩, ⟨h2, .str "number" t2, .int num u2⟩, ⟨h3, .str "mark" t3, .int mk u3⟩, ⟨h4, .str "fields" t4, .ref f⟩, ⟨h5, .str "values" t5, .ref v⟩] nd) ∈ news)
    (h : ∀ h', Fr h₀ L h' m → News h₀ L h' (setL d (dictOf [⟨h1, .str "word" t1, .str "NODE" u1⟩, ⟨h2, .str "number" t2, .int num u2⟩, ⟨h3, .str "mark" t3, .int y u⟩, ⟨h4, .str "fields" t4, .ref f⟩, ⟨h5, .str "values" t5, .ref v⟩] nd) news) → Q () { s with heap := h', toks := s.toks + 2 }) :
    wpAny (model PySem.Challenge.rw_xm0934_01.row.prog w) A (setAttr (.ref x) "mark" (.int y u)) Q E s := by
  revert X; k_fill; intro X
  refine set_dict (C := 204) F X (newsHead N hd) (InstAt.of_news (newsHead N hd) (List.mem_cons_of_mem _ (List.mem_filter.mpr ⟨hx, by simpa using Ne.symm hne⟩)) (List.Mem.head _)) rfl (by k_is) (by k_is) (by k_is) (by k_is) (by rfl) (by rfl) (Upd.head setL_off) (Nat.le_of_ble_eq_true rfl) h
local macro_rules | `(tactic| k_mem) => `(tactic| first | exact List.Mem.head _ | with_reducible assumption | (refine' List.mem_cons_of_mem _ ?_; k_mem) | exact setL_head | (refine' setL_mem ?mm ?nn; (case nn => k_ne); (case mm => k_mem)))
local macro_rules | `(tactic| ktr_rel) => `(tactic| first | omega | (simp only [List.length_append, List.length_map, List.length_cons, List.length_nil] at *; omega) | (simp only [depth_deeper, Around.deeper_units, depth_in1, units_in1, units_deeper] at *; (try dsimp only [ktrTop] at *); omega) | ((try dsimp only [ktrTop, Around.deeper]); omega))
theorem off_05 : True := by
  w_top off
  trivial
theorem frTwo {h₀ h : Heap} {L : Addr} {m : Str → Option Value} {x y : Str} {u v : Value} (F : Fr h₀ L h m) (hx : m x = some u) (hy : m y = some v) : Fr h₀ L h (fun z => if z = x then some u else if z = y then some v else m z) := by
  have e : (fun z => if z = x then some u else if z = y then some v else m z) = m := by
    funext z
    by_cases h1 : z = x
    · rw [if_pos h1, h1, hx]
    · rw [if_neg h1]
      by_cases h2 : z = y
      · rw [if_pos h2, h2, hy]
      · rw [if_neg h2]
  rw [e]; exact F
theorem lenSnoc (ps : List Value) (v : Value) : (ps ++ [v]).length = ps.length + 1 := by simp
theorem lenNil : ([] : List Value).length = 0 := rfl
theorem snocCases {α : Type} (l : List α) : l = [] ∨ ∃ r z, l = r ++ [z] := by
  cases e : l.reverse with
  | nil => left; simpa using e
  | cons z r => right; exact ⟨r.reverse, z, by have := congrArg List.reverse e; simpa using this⟩
local macro_rules | `(tactic| walk_at "call builtin:len") => `(tactic| (k_here; (with_reducible show wpAny _ _ (call (Value.builtin "len") [Value.ref _]) _ _ _); k_dflt (refine' my_len ?k1 ?k2 ?k3 ?k4 ?_; (case k1 => k_asm); (case k2 => k_mem); (case k3 => ktr_unf); (case k4 => ktr_rel); k_whole)))
local macro_rules | `(tactic| walk_at "call builtin:list.pop") => `(tactic| (k_here; k_dflt (refine' my_pop ?k1 ?k2 ?k3 ?k4 ?_; (case k1 => k_asm); (case k2 => k_asm); (case k3 => k_mem); (case k4 => ktr_rel); k_whole); intro h' F' N'))
local macro_rules | `(tactic| walk_at "call builtin:list.extend") => `(tactic| (k_here; k_dflt (first
  | (refine' my_extend ?k1 ?k2 ?k3 ?k4 ?k5 ?k6 ?_; (case k1 => k_asm); (case k2 => k_asm); (case k3 => k_mem); (case k4 => k_mem); (case k5 => k_ne); (case k6 => ktr_rel); k_whole)
  | (refine' my_extend0 ?k1 ?k2 ?k3 ?k4 ?k5 ?k6 ?_; (case k1 => k_asm); (case k2 => k_asm); (case k3 => k_mem); (case k4 => k_mem); (case k5 => k_ne); (case k6 => ktr_rel); k_whole)); intro h' F' N'))
local macro_rules | `(tactic| walk_at "compareOp In int ref") => `(tactic| (k_here; k_dflt (refine' my_din ?k1 ?k2 ?k3 ?k4 ?k5 ?_; (case k1 => k_asm); (case k2 => k_mem); (case k3 => assumption); (case k4 => assumption); (case k5 => assumption); k_whole)))
local macro_rules | `(tactic| walk_at "setItem ref int") => `(tactic| (k_here; (with_reducible show wpAny _ _ (setItem (Value.ref _) (Value.int _ _) (Value.bool true)) _ _ _); k_dflt (refine' my_dset ?k1 ?k2 ?k3 ?k4 ?k5 ?k6 ?_; (case k1 => k_asm); (case k2 => k_asm); (case k3 => k_mem); (case k4 => assumption); (case k5 => assumption); (case k6 => ktr_rel); k_whole); intro h' o' F' N' D'))
local macro_rules | `(tactic| walk_at "setAttr ref") => `(tactic| (k_here; (with_reducible show wpAny _ _ (setAttr (Value.ref _) (PySem.Str.ofString "mark") (Value.int _ _)) _ _ _); k_dflt (refine' my_setMark ?k1 ?k2 ?k3 ?k4 ?k5 ?k6 ?_; (case k1 => k_asm); (case k2 => k_asm); (case k3 => k_asm); (case k4 => k_mem); (case k6 => k_mem); (case k5 => k_ne); k_whole); intro h' F' N'))
local macro_rules | `(tactic| walk_at "call type:list") => `(tactic| (k_here; (with_reducible show wpAny _ _ (call (Value.type _) [Value.ref _]) _ _ _); k_dflt (first
  | (refine' my_dlist ?k0 ?k1 ?k2 ?k3 ?k4 ?k5 ?k6 ?_; (case k0 => rfl); (case k1 => k_asm); (case k2 => k_asm); (case k3 => k_mem); (case k4 => assumption); (case k5 => assumption); (case k6 => ktr_rel); k_whole; intro B' c' h' tk' vs' F' N' I')
  | (refine' my_copy ?k1 ?k2 ?k3 ?k4 ?_; (case k1 => k_asm); (case k2 => k_asm); (case k3 => k_mem); (case k4 => exact Nat.le_of_ble_eq_true rfl); k_whole; intro D' c' h' F' N' l1))))
local macro_rules | `(tactic| walk_at "call builtin:sorted") => `(tactic| (k_here; (with_reducible show wpAny _ _ (call (Value.builtin "sorted") [Value.ref _]) _ _ _); k_dflt (refine' my_sorted ?k1 ?k2 ?k3 ?k4 ?k5 ?_; (case k1 => k_asm); (case k2 => k_asm); (case k3 => k_mem); (case k4 => assumption); (case k5 => ktr_rel); k_whole); intro h' D' vs' ns' e' F' N' l1 I' P' S'))
local macro_rules | `(tactic| walk_at "call ref") => `(tactic| (k_here; (with_reducible show wpAny _ _ (call (Value.ref 296) [Value.ref _]) _ _ _); k_dflt (refine' things_ref ?k1 ?k2 ?k3 ?k4 ?k5 ?k6 ?k7 ?k8 ?k9 ?k10 ?_; (case k1 => k_asm); (case k2 => k_asm); (case k3 => k_asm); (case k4 => k_asm); (case k5 => k_asm); (case k6 => exact rfl); (case k9 => exact .mk (by k_mem) (by k_mem) (by k_mem)); (case k10 => k_mem); (case k7 => ktr_rel); (case k8 => ktr_rel); k_whole); intro h' tk' F' N'))
local macro_rules | `(tactic| walk_at "call ref") => `(tactic| (k_here; (with_reducible show wpAny _ _ (call (Value.ref 296) [Value.str _ _]) _ _ _); k_dflt (refine' things_str ?k1 ?k2 ?k3 ?k4 ?k5 ?k6 ?k7 ?k8 ?_; (case k1 => k_asm); (case k2 => k_asm); (case k3 => k_asm); (case k4 => k_asm); (case k5 => k_asm); (case k6 => exact rfl); (case k7 => ktr_rel); (case k8 => ktr_rel); k_whole); intro h' tk' D' n' F' N' l1; (try (have l9' := ltN (l1 _ setL_head); dsimp only at l9'))))
local macro_rules | `(tactic| walk_at "call ref") => `(tactic| (k_here; (with_reducible show wpAny _ _ (call (Value.ref 296) [Value.int _ _]) _ _ _); k_dflt (refine' things_int ?k1 ?k2 ?k3 ?k4 ?k5 ?k6 ?k7 ?k8 ?_; (case k1 => k_asm); (case k2 => k_asm); (case k3 => k_asm); (case k4 => k_asm); (case k5 => k_asm); (case k6 => exact rfl); (case k7 => ktr_rel); (case k8 => ktr_rel); k_whole); intro h' tk' D' n' F' N' l1; (try (have l9' := ltN (l1 _ setL_head); dsimp only at l9'))))
local macro_rules | `(tactic| ktr_unf) => `(tactic| first | exact lenSnoc _ _ | exact lenNil)
local macro_rules | `(tactic| tb_start) => `(tactic| repeat' ((fail_if_success (with_reducible show wpAny _ _ (exec (Stmt.While _ _ _ _) _) _ _ _)); first | (k_unfold; (try dsimp only)) | (k_end; wrow_close) | walk1 | (dsimp only; walk1) | (leave1; try dsimp only) | fail "no step"))
theorem off_06 : True := by
  w_top off
  trivial
section
set_option maxHeartbeats 4000000 in
theorem reach_call {w : World} {dp un : Nat} {gd : Option (List Code)} {cn : Str} {cs : Scope} {a : Addr} {ccd : Value} {cl : List (Str × Addr)} {outer : List Env} {A₀ : Around} {base h₀ : Heap} {L : Addr} {m : Str → Option Value}
    {news : List (Addr × Obj)} {s : Shared} {Q E : Value → Shared → Prop} {p : Program} {loose : List Str} {mean : ExcName → Option Value} {mg mb : Str → Option Value}
    {lr : Addr} {va vb : Value} {nl ka kb : Nat} {As : List Adr} {G : List Nd}
    (B : Below A₀ base outer h₀) (F : Fr h₀ L s.heap m) (X : (fr.heap_1 w.params).In h₀) (N : News h₀ L s.heap news) (T : Top p loose mean mg mb h₀) (hk : cs.kind = .function)
    (hdp : dp < 440) (hun : un < 4000) (GI : GraphIn news As G) (AP : Apart As) (hAs : As.length ≤ 4) (hr : (lr, listOf #[va, vb] nl) ∈ news) (ha : LinkV As va ka) (hb : LinkV As vb kb)
    (ret : ∀ h' tk' news' D c vs ns, Fr h₀ L h' m → News h₀ L h' ((D, listOf vs.toArray c) :: news') → (∀ q ∈ news', q.1 < D) → (∀ q ∈ news, (∀ a ∈ As, q.1 ≠ a.d) → q ∈ news') → GraphIn news' As G → IntsAre vs ns → ns.Pairwise (· ≤ ·) → ns.Nodup →
      (∀ k : Int, k ∈ ns ↔ ∃ j : Nat, k = j ∧ Rch G [ka, kb] j) → Q (.ref D) { s with heap := h', toks := tk' }) :
    wpAny (model PySem.Challenge.rw_xm0934_01.row.prog w) (ktrTop dp un gd cn cs L a ccd cl outer) (call (.ref 303) [.ref lr]) Q E s := by
  revert X; k_fill; intro X
  refine wpAny_call ?_
  k_dflt ktr_enter
  tb_start
  rename_i lw c1 hh1 l1 dm hh2 oo lo hs fs hi fi l2 DT hh3 l3 hh4 hh5 hh6 F9 N9
  clear hs fs fi l3
  have N8 := newsSub N9 (fun p hp => List.mem_cons_of_mem _ hp)
  clear N9
  obtain ⟨l2a, l2b⟩ := l2
  have l2c := kst_ltOf l2b
  have offL := GI.lt l1
  have offD := GI.lt l2c
  refine While_inv2 (fun k m₁ news₁ => ∃ zs met c o, m₁ "waiting" = some (.ref lw) ∧ m₁ "met" = some (.ref dm) ∧ (lw, listOf (List.map Prod.fst zs).toArray c) ∈ news₁ ∧ (dm, o) ∈ news₁ ∧ o.IsDictOf (PySem.intKind PySem.Challenge.rw_xm0934_01.row.prog w) (metKv met) ∧ GraphIn news₁ As G ∧
    (∀ q ∈ news, (∀ a ∈ As, q.1 ≠ a.d) → q ∈ news₁) ∧ RInv As G [ka, kb] zs met ∧ k = rMu As zs met ∧ k ≤ 18) F9 N8 ⟨[(va, ka), (vb, kb)], [], c1, oo, rfl, rfl, .tail _ (.head _), .head _, hi, GI.mono (fun q hq _ => .tail _ (.tail _ hq)), (fun q hq _ => .tail _ (.tail _ hq)), RInv.start ha hb, rfl, by simp [rMu]; omega⟩ ?_ ?_
  · clear F9 N8
    rintro k m₁ news₁ h₁ tk₁ F₁ N₁ ⟨zs, met, c, o, hw, hm, hlw, hdm, hD, hG, hkeep, hI, hk9, hb9⟩
    have F₂ := frTwo F₁ hw hm
    clear F₁
    have hml : met.length ≤ 4 := Nat.le_trans (pig _ _ hI.nd hI.bd) hAs
    rcases snocCases zs with rfl | ⟨zs', z, rfl⟩
    · have hlw' : (lw, listOf ([] : List Value).toArray c) ∈ news₁ := hlw
      tb_start
      rename_i Bb cc hx tk2 vs1 F8 N8 I8 h9 D9 vs9 ns9 e9 F9 N9 l9 I9 P9 S9 kF kN Tc kX
      refine ret _ _ _ _ _ _ _ kF kN l9 (fun q hq hh => .tail _ (hkeep q hq hh)) (hG.mono fun q hq _ => .tail _ hq) I9 S9 (P9.nodup_iff.mpr (List.pairwise_map.mpr (hI.nd.imp fun h e => h (Int.ofNat.inj e)))) fun k => ?_
      rw [P9.mem_iff, List.mem_map]
      exact ⟨fun ⟨j, hj, e⟩ => ⟨j, e.symm, (hI.done j).mp hj⟩, fun ⟨j, e, hj⟩ => ⟨j, (hI.done j).mpr hj, e.symm⟩⟩
    · obtain ⟨v, kz⟩ := z
      have hlw' : (lw, listOf (List.map Prod.fst zs' ++ [v]).toArray c) ∈ news₁ := by simpa using hlw
      clear hlw
      have hpl : (List.map Prod.fst zs').length < 50 := by
        have : rMu As (zs' ++ [(v, kz)]) met ≤ 18 := hk9 ▸ hb9
        unfold rMu at this
        simp at this ⊢
        omega
      generalize hps : List.map Prod.fst zs' = ps at hlw' hpl
      rcases hI.wv (v, kz) (List.mem_append_right _ (.head _)) with ⟨h0, ⟨y, t, hv⟩ | ⟨y, t, hv⟩⟩ | ⟨a1, k0, hA, hv⟩
      · dsimp only at hv h0
        subst hv h0
        tb_start
        rename Fr _ _ _ _ => F9
        rename News _ _ _ _ => N9
        refine ⟨_, _, _, _, rMu As zs' met, rfl, F9, N9, hk9 ▸ rMu_drop, zs', met, c + 1, o, rfl, rfl, hps ▸ setL_head, by k_mem, hD, ((hG.off offL).mono fun q hq _ => List.mem_cons_of_mem _ hq).off offL,
          fun q hq hh => setL_mem (List.mem_cons_of_mem _ (setL_mem (hkeep q hq hh) (Nat.ne_of_lt (l1 q hq)))) (Nat.ne_of_lt (l1 q hq)), hI.drop (.inl rfl), rfl, ?_⟩
        have := rMu_drop (As := As) (zs := zs') (z := (Value.str y t, 0)) (met := met)
        omega
      · dsimp only at hv h0
        subst hv h0
        tb_start
        rename Fr _ _ _ _ => F9
        rename News _ _ _ _ => N9
        refine ⟨_, _, _, _, rMu As zs' met, rfl, F9, N9, hk9 ▸ rMu_drop, zs', met, c + 1, o, rfl, rfl, hps ▸ setL_head, by k_mem, hD, ((hG.off offL).mono fun q hq _ => List.mem_cons_of_mem _ hq).off offL,
          fun q hq hh => setL_mem (List.mem_cons_of_mem _ (setL_mem (hkeep q hq hh) (Nat.ne_of_lt (l1 q hq)))) (Nat.ne_of_lt (l1 q hq)), hI.drop (.inl rfl), rfl, ?_⟩
        have := rMu_drop (As := As) (zs := zs') (z := (Value.int y t, 0)) (met := met)
        omega
      · dsimp only at hv k0 hA
        subst hv
        have hAm := mem_of_get hA
        have hki : kz - 1 < As.length := (List.getElem?_eq_some_iff.mp hA).1
        have hGi : kz - 1 < G.length := by rw [← hG.len]; exact hki
        have hg : G[kz - 1]? = some G[kz - 1] := by simp [hGi]
        obtain ⟨v0, v1, t2, n2, hv, hl0, hl1⟩ := hG.vals _ _ _ hA hg
        obtain ⟨hx, hdd, hf⟩ := hG.node _ _ hA
        have ek9 : (((kz - 1 : Nat) : Int) + 1) = (kz : Int) := by omega
        rw [ek9] at hdd
        have nx : @Ne Nat a1.x lw := fun q => offL a1 hAm (.inl q.symm)
        have nd : @Ne Nat a1.d lw := fun q => offL a1 hAm (.inr (.inl q.symm))
        have nf : @Ne Nat a1.f lw := fun q => offL a1 hAm (.inr (.inr (.inl q.symm)))
        have nv : @Ne Nat a1.v lw := fun q => offL a1 hAm (.inr (.inr (.inr q.symm)))
        have mx : @Ne Nat a1.x dm := fun q => offD a1 hAm (.inl q.symm)
        have md : @Ne Nat a1.d dm := fun q => offD a1 hAm (.inr (.inl q.symm))
        have mf : @Ne Nat a1.f dm := fun q => offD a1 hAm (.inr (.inr (.inl q.symm)))
        have mv : @Ne Nat a1.v dm := fun q => offD a1 hAm (.inr (.inr (.inr q.symm)))
        have xd : @Ne Nat a1.x a1.d := AP.dx a1 hAm a1 hAm
        have fd : @Ne Nat a1.f a1.d := AP.df a1 hAm a1 hAm
        have vd : @Ne Nat a1.v a1.d := Ne.symm (AP.vd a1 hAm a1 hAm)
        by_cases hmk : kz ∈ met
        · have hb' : decide (kz ∈ met) = true := decide_eq_true hmk
          tb_start
          rename Fr _ _ _ _ => F9
          rename News _ _ _ _ => N9
          refine ⟨_, _, _, _, rMu As zs' met, rfl, F9, N9, hk9 ▸ rMu_drop, zs', met, c + 1, o, rfl, rfl, hps ▸ setL_head, by k_mem, hD, hG.off offL, fun q hq hh => setL_mem (hkeep q hq hh) (Nat.ne_of_lt (l1 q hq)), hI.drop (.inr hmk), rfl, ?_⟩
          have := rMu_drop (As := As) (zs := zs') (z := (Value.ref a1.x, kz)) (met := met)
          omega
        · have hb' : decide (kz ∈ met) = false := decide_eq_false hmk
          tb_start
          rename Obj.IsDictOf _ _ (metKv (met ++ [kz])) => hD9
          rename Fr _ _ _ _ => F9
          rename News _ _ _ _ => N9
          have I9 := hI.meet (v2 := .int ((G[kz - 1].m : Nat) : Int) t2) hmk k0 (by omega) hg hl0 hl1 ⟨_, t2, rfl⟩
          have hlt9 := rMu_meet (z := (Value.ref a1.x, kz)) I9
          have nl := fun q hq => Nat.ne_of_lt (l1 q hq)
          refine ⟨_, _, _, _, rMu As _ (met ++ [kz]), rfl, F9, N9, hk9 ▸ hlt9, _, met ++ [kz], c + 1 + 1, _, rfl, rfl, by rw [List.map_append, hps]; exact setL_head, by k_mem, hD9, (((hG.off offL).mark AP hA ek9).off offD).off offL,
            fun q hq hh => setL_mem (setL_mem (setL_mem (setL_mem (hkeep q hq hh) (nl q hq)) (hh a1 hAm)) (Nat.ne_of_lt (l2c q hq))) (nl q hq), I9, rfl, ?_⟩
          omega
  · passes_own
end
theorem get_L' {w : World} {dp un : Nat} {gd : Option (List Code)} {cn : Str} {cs : Scope} {a : Addr} {ccd : Value} {cl : List (Str × Addr)} {outer : List Env} {A₀ : Around} {base h₀ : Heap} {L : Addr} {m : Str → Option Value}
    {news : List (Addr × Obj)} {s : Shared} {Q E : Value → Shared → Prop} {p : Program} {loose : List Str} {mean : ExcName → Option Value} {mg mb : Str → Option Value}
    {h1 h2 h3 h4 h5 : Int} {t1 t2 t3 t4 t5 z1 z2 z3 q1 q2 q3 : Tok} {mk num : Int} {nd nf nv : Nat} {x d f v : Addr} {v0 v1 v2 : Value} {t : Tok}
    (B : Below A₀ base outer h₀) (F : Fr h₀ L s.heap m) (X : (fr.heap_1 w.params).In h₀) (N : News h₀ L s.heap news) (T : Top p loose mean mg mb h₀) (hk : cs.kind = .function)
    (hdp : dp < 450) (hun : un < 5000)
    (hx : (x, instObj 204 d) ∈ news)
    (hd : (d, dictOf [⟨h1, .str "word" t1, .str "NODE" z1⟩, ⟨h2, .str "number" t2, .int num z2⟩, ⟨h3, .str "mark" t3, .int mk z3⟩, ⟨h4, .str "fields" t4, .ref f⟩, ⟨h5, .str "values" t5, .ref v⟩] nd) ∈ news)
    (hf : (f, listOf #[.str "L" q1, .str "R" q2, .str "M" q3] nf) ∈ news) (hv : (v, listOf #[v0, v1, v2] nv) ∈ news)
    (ret : ∀ h' tk', Fr h₀ L h' m → News h₀ L h' news → Q v0 { s with heap := h', toks := tk' }) :
    wpAny (model PySem.Challenge.rw_xm0934_01.row.prog w) (ktrTop dp un gd cn cs L a ccd cl outer) (call (.ref 310) [.ref x, .str "L" t]) Q E s := get_L B F X N T hk hdp hun (.mk hx hd hf) hv ret
theorem get_R' {w : World} {dp un : Nat} {gd : Option (List Code)} {cn : Str} {cs : Scope} {a : Addr} {ccd : Value} {cl : List (Str × Addr)} {outer : List Env} {A₀ : Around} {base h₀ : Heap} {L : Addr} {m : Str → Option Value}
    {news : List (Addr × Obj)} {s : Shared} {Q E : Value → Shared → Prop} {p : Program} {loose : List Str} {mean : ExcName → Option Value} {mg mb : Str → Option Value}
    {h1 h2 h3 h4 h5 : Int} {t1 t2 t3 t4 t5 z1 z2 z3 q1 q2 q3 : Tok} {mk num : Int} {nd nf nv : Nat} {x d f v : Addr} {v0 v1 v2 : Value} {t : Tok}
    (B : Below A₀ base outer h₀) (F : Fr h₀ L s.heap m) (X : (fr.heap_1 w.params).In h₀) (N : News h₀ L s.heap news) (T : Top p loose mean mg mb h₀) (hk : cs.kind = .function)
    (hdp : dp < 450) (hun : un < 5000)
    (hx : (x, instObj 204 d) ∈ news)
    (hd : (d, dictOf [⟨h1, .str "word" t1, .str "NODE" z1⟩, ⟨h2, .str "number" t2, .int num z2⟩, ⟨h3, .str "mark" t3, .int mk z3⟩, ⟨h4, .str "fields" t4, .ref f⟩, ⟨h5, .str "values" t5, .ref v⟩] nd) ∈ news)
    (hf : (f, listOf #[.str "L" q1, .str "R" q2, .str "M" q3] nf) ∈ news) (hv : (v, listOf #[v0, v1, v2] nv) ∈ news)
    (ret : ∀ h' tk', Fr h₀ L h' m → News h₀ L h' news → Q v1 { s with heap := h', toks := tk' }) :
    wpAny (model PySem.Challenge.rw_xm0934_01.row.prog w) (ktrTop dp un gd cn cs L a ccd cl outer) (call (.ref 310) [.ref x, .str "R" t]) Q E s := get_R B F X N T hk hdp hun (.mk hx hd hf) hv ret
theorem get_M' {w : World} {dp un : Nat} {gd : Option (List Code)} {cn : Str} {cs : Scope} {a : Addr} {ccd : Value} {cl : List (Str × Addr)} {outer : List Env} {A₀ : Around} {base h₀ : Heap} {L : Addr} {m : Str → Option Value}
    {news : List (Addr × Obj)} {s : Shared} {Q E : Value → Shared → Prop} {p : Program} {loose : List Str} {mean : ExcName → Option Value} {mg mb : Str → Option Value}
    {h1 h2 h3 h4 h5 : Int} {t1 t2 t3 t4 t5 z1 z2 z3 q1 q2 q3 : Tok} {mk num : Int} {nd nf nv : Nat} {x d f v : Addr} {v0 v1 v2 : Value} {t : Tok}
    (B : Below A₀ base outer h₀) (F : Fr h₀ L s.heap m) (X : (fr.heap_1 w.params).In h₀) (N : News h₀ L s.heap news) (T : Top p loose mean mg mb h₀) (hk : cs.kind = .function)
    (hdp : dp < 450) (hun : un < 5000)
    (hx : (x, instObj 204 d) ∈ news)
    (hd : (d, dictOf [⟨h1, .str "word" t1, .str "NODE" z1⟩, ⟨h2, .str "number" t2, .int num z2⟩, ⟨h3, .str "mark" t3, .int mk z3⟩, ⟨h4, .str "fields" t4, .ref f⟩, ⟨h5, .str "values" t5, .ref v⟩] nd) ∈ news)
    (hf : (f, listOf #[.str "L" q1, .str "R" q2, .str "M" q3] nf) ∈ news) (hv : (v, listOf #[v0, v1, v2] nv) ∈ news)
    (ret : ∀ h' tk', Fr h₀ L h' m → News h₀ L h' news → Q v2 { s with heap := h', toks := tk' }) :
    wpAny (model PySem.Challenge.rw_xm0934_01.row.prog w) (ktrTop dp un gd cn cs L a ccd cl outer) (call (.ref 310) [.ref x, .str "M" t]) Q E s := get_M B F X N T hk hdp hun (.mk hx hd hf) hv ret
theorem put_L' {w : World} {dp un : Nat} {gd : Option (List Code)} {cn : Str} {cs : Scope} {a : Addr} {ccd : Value} {cl : List (Str × Addr)} {outer : List Env} {A₀ : Around} {base h₀ : Heap} {L : Addr} {m : Str → Option Value}
    {news : List (Addr × Obj)} {s : Shared} {Q E : Value → Shared → Prop} {p : Program} {loose : List Str} {mean : ExcName → Option Value} {mg mb : Str → Option Value}
    {h1 h2 h3 h4 h5 : Int} {t1 t2 t3 t4 t5 z1 z2 z3 q1 q2 q3 : Tok} {mk num : Int} {nd nf nv : Nat} {x d f v : Addr} {v0 v1 v2 u : Value} {t : Tok}
    (B : Below A₀ base outer h₀) (F : Fr h₀ L s.heap m) (X : (fr.heap_1 w.params).In h₀) (N : News h₀ L s.heap news) (T : Top p loose mean mg mb h₀) (hk : cs.kind = .function)
    (hdp : dp < 450) (hun : un < 5000)
    (hx : (x, instObj 204 d) ∈ news)
    (hd : (d, dictOf [⟨h1, .str "word" t1, .str "NODE" z1⟩, ⟨h2, .str "number" t2, .int num z2⟩, ⟨h3, .str "mark" t3, .int mk z3⟩, ⟨h4, .str "fields" t4, .ref f⟩, ⟨h5, .str "values" t5, .ref v⟩] nd) ∈ news)
    (hf : (f, listOf #[.str "L" q1, .str "R" q2, .str "M" q3] nf) ∈ news) (hv : (v, listOf #[v0, v1, v2] nv) ∈ news)
    (ret : ∀ h' tk', Fr h₀ L h' m → News h₀ L h' (setL v (listOf #[u, v1, v2] nv) news) → Q .none { s with heap := h', toks := tk' }) :
    wpAny (model PySem.Challenge.rw_xm0934_01.row.prog w) (ktrTop dp un gd cn cs L a ccd cl outer) (call (.ref 317) [.ref x, .str "L" t, u]) Q E s := put_L B F X N T hk hdp hun (.mk hx hd hf) hv ret
theorem put_R' {w : World} {dp un : Nat} {gd : Option (List Code)} {cn : Str} {cs : Scope} {a : Addr} {ccd : Value} {cl : List (Str × Addr)} {outer : List Env} {A₀ : Around} {base h₀ : Heap} {L : Addr} {m : Str → Option Value}
    {news : List (Addr × Obj)} {s : Shared} {Q E : Value → Shared → Prop} {p : Program} {loose : List Str} {mean : ExcName → Option Value} {mg mb : Str → Option Value}
    {h1 h2 h3 h4 h5 : Int} {t1 t2 t3 t4 t5 z1 z2 z3 q1 q2 q3 : Tok} {mk num : Int} {nd nf nv : Nat} {x d f v : Addr} {v0 v1 v2 u : Value} {t : Tok}
    (B : Below A₀ base outer h₀) (F : Fr h₀ L s.heap m) (X : (fr.heap_1 w.params).In h₀) (N : News h₀ L s.heap news) (T : Top p loose mean mg mb h₀) (hk : cs.kind = .function)
    (hdp : dp < 450) (hun : un < 5000)
    (hx : (x, instObj 204 d) ∈ news)
    (hd : (d, dictOf [⟨h1, .str "word" t1, .str "NODE" z1⟩, ⟨h2, .str "number" t2, .int num z2⟩, ⟨h3, .str "mark" t3, .int mk z3⟩, ⟨h4, .str "fields" t4, .ref f⟩, ⟨h5, .str "values" t5, .ref v⟩] nd) ∈ news)
    (hf : (f, listOf #[.str "L" q1, .str "R" q2, .str "M" q3] nf) ∈ news) (hv : (v, listOf #[v0, v1, v2] nv) ∈ news)
    (ret : ∀ h' tk', Fr h₀ L h' m → News h₀ L h' (setL v (listOf #[v0, u, v2] nv) news) → Q .none { s with heap := h', toks := tk' }) :
    wpAny (model PySem.Challenge.rw_xm0934_01.row.prog w) (ktrTop dp un gd cn cs L a ccd cl outer) (call (.ref 317) [.ref x, .str "R" t, u]) Q E s := put_R B F X N T hk hdp hun (.mk hx hd hf) hv ret
theorem put_M' {w : World} {dp un : Nat} {gd : Option (List Code)} {cn : Str} {cs : Scope} {a : Addr} {ccd : Value} {cl : List (Str × Addr)} {outer : List Env} {A₀ : Around} {base h₀ : Heap} {L : Addr} {m : Str → Option Value}
    {news : List (Addr × Obj)} {s : Shared} {Q E : Value → Shared → Prop} {p : Program} {loose : List Str} {mean : ExcName → Option Value} {mg mb : Str → Option Value}
    {h1 h2 h3 h4 h5 : Int} {t1 t2 t3 t4 t5 z1 z2 z3 q1 q2 q3 : Tok} {mk num : Int} {nd nf nv : Nat} {x d f v : Addr} {v0 v1 v2 u : Value} {t : Tok}
    (B : Below A₀ base outer h₀) (F : Fr h₀ L s.heap m) (X : (fr.heap_1 w.params).In h₀) (N : News h₀ L s.heap news) (T : Top p loose mean mg mb h₀) (hk : cs.kind = .function)
    (hdp : dp < 450) (hun : un < 5000)
    (hx : (x, instObj 204 d) ∈ news)
    (hd : (d, dictOf [⟨h1, .str "word" t1, .str "NODE" z1⟩, ⟨h2, .str "number" t2, .int num z2⟩, ⟨h3, .str "mark" t3, .int mk z3⟩, ⟨h4, .str "fields" t4, .ref f⟩, ⟨h5, .str "values" t5, .ref v⟩] nd) ∈ news)
    (hf : (f, listOf #[.str "L" q1, .str "R" q2, .str "M" q3] nf) ∈ news) (hv : (v, listOf #[v0, v1, v2] nv) ∈ news)
    (ret : ∀ h' tk', Fr h₀ L h' m → News h₀ L h' (setL v (listOf #[v0, v1, u] nv) news) → Q .none { s with heap := h', toks := tk' }) :
    wpAny (model PySem.Challenge.rw_xm0934_01.row.prog w) (ktrTop dp un gd cn cs L a ccd cl outer) (call (.ref 317) [.ref x, .str "M" t, u]) Q E s := put_M B F X N T hk hdp hun (.mk hx hd hf) hv ret
local macro_rules | `(tactic| walk_at "call ref") => `(tactic| (k_here; (with_reducible show wpAny _ _ (call (Value.ref 310) [Value.ref _, Value.str (PySem.Str.ofString "L") _]) _ _ _); k_dflt (refine' get_L' ?k1 ?k2 ?k3 ?k4 ?k5 ?k6 ?k7 ?k8 ?k9 ?k10 ?k11 ?k12 ?_; (case k1 => k_asm); (case k2 => k_asm); (case k3 => k_asm); (case k4 => k_asm); (case k5 => k_asm); (case k6 => exact rfl); (case k9 => k_mem); (case k10 => k_mem); (case k11 => k_mem); (case k12 => k_mem); (case k7 => ktr_rel); (case k8 => ktr_rel); k_whole); intro h' tk' F' N'))
local macro_rules | `(tactic| walk_at "call ref") => `(tactic| (k_here; (with_reducible show wpAny _ _ (call (Value.ref 310) [Value.ref _, Value.str (PySem.Str.ofString "R") _]) _ _ _); k_dflt (refine' get_R' ?k1 ?k2 ?k3 ?k4 ?k5 ?k6 ?k7 ?k8 ?k9 ?k10 ?k11 ?k12 ?_; (case k1 => k_asm); (case k2 => k_asm); (case k3 => k_asm); (case k4 => k_asm); (case k5 => k_asm); (case k6 => exact rfl); (case k9 => k_mem); (case k10 => k_mem); (case k11 => k_mem); (case k12 => k_mem); (case k7 => ktr_rel); (case k8 => ktr_rel); k_whole); intro h' tk' F' N'))
local macro_rules | `(tactic| walk_at "call ref") => `(tactic| (k_here; (with_reducible show wpAny _ _ (call (Value.ref 310) [Value.ref _, Value.str (PySem.Str.ofString "M") _]) _ _ _); k_dflt (refine' get_M' ?k1 ?k2 ?k3 ?k4 ?k5 ?k6 ?k7 ?k8 ?k9 ?k10 ?k11 ?k12 ?_; (case k1 => k_asm); (case k2 => k_asm); (case k3 => k_asm); (case k4 => k_asm); (case k5 => k_asm); (case k6 => exact rfl); (case k9 => k_mem); (case k10 => k_mem); (case k11 => k_mem); (case k12 => k_mem); (case k7 => ktr_rel); (case k8 => ktr_rel); k_whole); intro h' tk' F' N'))
local macro_rules | `(tactic| walk_at "call ref") => `(tactic| (k_here; (with_reducible show wpAny _ _ (call (Value.ref 317) [Value.ref _, Value.str (PySem.Str.ofString "L") _, _]) _ _ _); k_dflt (refine' put_L' ?k1 ?k2 ?k3 ?k4 ?k5 ?k6 ?k7 ?k8 ?k9 ?k10 ?k11 ?k12 ?_; (case k1 => k_asm); (case k2 => k_asm); (case k3 => k_asm); (case k4 => k_asm); (case k5 => k_asm); (case k6 => exact rfl); (case k9 => k_mem); (case k10 => k_mem); (case k11 => k_mem); (case k12 => k_mem); (case k7 => ktr_rel); (case k8 => ktr_rel); k_whole); intro h' tk' F' N'))
local macro_rules | `(tactic| walk_at "call ref") => `(tactic| (k_here; (with_reducible show wpAny _ _ (call (Value.ref 317) [Value.ref _, Value.str (PySem.Str.ofString "R") _, _]) _ _ _); k_dflt (refine' put_R' ?k1 ?k2 ?k3 ?k4 ?k5 ?k6 ?k7 ?k8 ?k9 ?k10 ?k11 ?k12 ?_; (case k1 => k_asm); (case k2 => k_asm); (case k3 => k_asm); (case k4 => k_asm); (case k5 => k_asm); (case k6 => exact rfl); (case k9 => k_mem); (case k10 => k_mem); (case k11 => k_mem); (case k12 => k_mem); (case k7 => ktr_rel); (case k8 => ktr_rel); k_whole); intro h' tk' F' N'))
local macro_rules | `(tactic| walk_at "call ref") => `(tactic| (k_here; (with_reducible show wpAny _ _ (call (Value.ref 317) [Value.ref _, Value.str (PySem.Str.ofString "M") _, _]) _ _ _); k_dflt (refine' put_M' ?k1 ?k2 ?k3 ?k4 ?k5 ?k6 ?k7 ?k8 ?k9 ?k10 ?k11 ?k12 ?_; (case k1 => k_asm); (case k2 => k_asm); (case k3 => k_asm); (case k4 => k_asm); (case k5 => k_asm); (case k6 => exact rfl); (case k9 => k_mem); (case k10 => k_mem); (case k11 => k_mem); (case k12 => k_mem); (case k7 => ktr_rel); (case k8 => ktr_rel); k_whole); intro h' tk' F' N'))
theorem off_07 : True := by
  w_top off
  trivial
theorem str_eq_inst (b : Str) (u : Tok) (x : Addr) (o : Obj) (hp' : o.data = .plain) :
    Meets (Builtin.«str.__eq__» ⟨[.str b u, .ref x], []⟩) (fun _ R s => s.heap.get? x = some o ∧ R (.ok (.ret .notImplemented)) s) :=
  .of_wp fun prog w A R s h => by
    obtain ⟨hp, g, d, tk, os⟩ := s
    obtain ⟨hl, h⟩ := h
    obtain ⟨c, dd, dt, sl⟩ := o
    simp only at hp'
    subst hp'
    wp_walk using wpAny_loadPart' hl, wpAny_load hl
    exact ⟨_, rfl, h⟩
theorem str_ne_inst (b : Str) (u : Tok) (x : Addr) (o : Obj) (hp' : o.data = .plain) :
    Meets (Builtin.«str.__ne__» ⟨[.str b u, .ref x], []⟩) (fun _ R s => s.heap.get? x = some o ∧ R (.ok (.ret .notImplemented)) s) :=
  .of_wp fun prog w A R s h => by
    obtain ⟨hp, g, d, tk, os⟩ := s
    obtain ⟨hl, h⟩ := h
    obtain ⟨c, dd, dt, sl⟩ := o
    simp only at hp'
    subst hp'
    wp_walk using wpAny_loadPart' hl, wpAny_load hl
    exact ⟨_, rfl, h⟩
section
variable {prog : Program} {w : World} {A : Around} {E : Value → Shared → Prop} {s : Shared} {K : Frag} {x C : Addr} {ox : Obj} {od : Option Obj} {y : Str} {t : Tok}
theorem ifBoundB {M : Model} {name : Str} {id : String} {args : List Value} {Q : Option Value → Shared → Prop} (X : K.In s.heap) (I : InstAt s.heap x ox C od) (hs : findIn K (.ref C) name = some (some (.builtin id))) (bnd : bindSpecial (.builtin id) (.ref x) = pure (.builtin id, [.ref x]))
    (h : wpAny M A (call (.builtin id) (.ref x :: args)) (fun v => Q (some v)) E s) : wpAny M A (callSpecialIfBound? (.ref x) name args) Q E s := by
  simp only [callSpecialIfBound?, bindSpecialIfBound?]
  refine wpAny_holding (wpAny_bind (wpAny_bind (wpAny_bind (I.type.here ((looks_findIn X hs).here ?_)))))
  simp only [bnd]
  refine wpAny_bind (wpAny_askSetting (wpAny_ite ?_))
  have fin : wpAny M A (call (.builtin id) ([.ref x] ++ args) >>= fun v => pure (some v)) Q E s := wpAny_bind (wpAny_mono h (fun v s' h' => wpAny_pure h') fun _ _ h' => h')
  split
  · exact wpAny_bind (wpAny_pure (wpAny_pure fin))
  · exact wpAny_tryCatch (wpAny_bind (wpAny_pure (wpAny_pure fin)))
theorem objEq_str {Q : Value → Shared → Prop} (X : K.In s.heap) (I : InstAt s.heap x ox C od) (hob : mroIn K C (.type "object") = some true) (h : Q .notImplemented s) :
    wpAny (model prog w) A (call (.builtin "object.__eq__") [.ref x, .str y t]) Q E s := by
  refine wpAny_call (codeAny_call_builtin F.cmp_object.eq.plain F.cmpEntry_eq (check_slot F.cmpKind_eq F.cmpSplit_eq (I.type.andThen (looks_mroIn X hob)) (F.cmpArgs_eq _ _) ?_))
  obtain ⟨hp, g, d, tk, os⟩ := s
  unfold Builtin.«object.__eq__»
  have hsame : isSame (.ref x) (.str y t) = pure false := rfl
  repeat (first | (rw [hsame]) | wp_step)
  exact h
theorem special_str {Q : Option Value → Shared → Prop} (X : K.In s.heap) (I : InstAt s.heap x ox C od) (he : findIn K (.ref C) "__eq__" = some (some (.builtin "object.__eq__"))) (hob : mroIn K C (.type "object") = some true) (h : Q (some .notImplemented) s) :
    wpAny (model prog w) A (callSpecialIfBound? (.ref x) "__eq__" [.str y t]) Q E s := ifBoundB X I he (F.cmp_object.eq.bind _) (objEq_str X I hob h)
theorem objNe_str {Q : Value → Shared → Prop} (X : K.In s.heap) (I : InstAt s.heap x ox C od) (he : findIn K (.ref C) "__eq__" = some (some (.builtin "object.__eq__"))) (hob : mroIn K C (.type "object") = some true) (hu : A.units + 1 < cLine) (h : Q .notImplemented s) :
    wpAny (model prog w) A (call (.builtin "object.__ne__") [.ref x, .str y t]) Q E s := by
  refine wpAny_call (codeAny_call_builtin F.cmp_object.ne.plain F.cmpEntry_ne (check_slot F.cmpKind_ne F.cmpSplit_ne (I.type.andThen (looks_mroIn X hob)) (F.cmpArgs_ne _ _) ?_))
  obtain ⟨hp, g, d, tk, os⟩ := s
  unfold Builtin.«object.__ne__»
  have hu' : A.in1.units < cLine := hu
  repeat (first | with_reducible refine wpAny_cRoomFor hu' ?_ | with_reducible refine special_str X I he hob ?_ | wp_step)
  exact h
theorem inst_eq_str {Q : Value → Shared → Prop} (X : K.In s.heap) (I : InstAt s.heap x ox C od) (ho : ox.data = .plain) (hu : A.units < cLine) (he : findIn K (.ref C) "__eq__" = some (some (.builtin "object.__eq__"))) (hob : mroIn K C (.type "object") = some true) (h : Q (.bool false) s) :
    wpAny (model prog w) A (compareOp .Eq (.ref x) (.str y t)) Q E s := by
  show wpAny (model prog w) A (richCompare .Eq (.ref x) (.str y t)) Q E s
  have hx := I.1
  simp only [richCompare, cmpInfo_Eq, oneThing_ref]
  refine wpAny_holding (wpAny_bind (wpAny_cRoomFor hu ?_))
  refine wpAny_bind (I.type.here (wpAny_bind (wpAny_typeOf (typeIs_str s y t) ?_)))
  have hne : (Value.ref C != Value.type "str") = true := by simp
  simp only [hne, if_true]
  refine wpAny_bind (wpAny_of_eq (show isSubtype (.type "str") (.ref C) = pure false from by rw [isSubtype_type]; rfl) ?_)
  simp only [Bool.false_eq_true, if_false, Bool.not_false, if_true]
  refine wpAny_bind (m := tryCompare (.ref x) "__eq__" (.str y t)) ?_
  unfold tryCompare
  refine wpAny_bind (special_str X I he hob (wpAny_pure ?_))
  refine wpAny_bind (m := tryCompare (.str y t) "__eq__" (.ref x)) (wpAny_tryCompare_declines (typeIs_str s y t) F.slot_str_eq_refl (call_meets F.slot_str_eq_refl (typeIs_str s y t) F.entry_str_eq (F.args_str_eq_2 _ _) (str_eq_inst y t x ox ho) ⟨hx, rfl, ?_⟩))
  exact wpAny_bind (wpAny_rule (wpAny_bind (wpAny_of_eq (show isSame (.ref x) (.str y t) = pure false from rfl) (wpAny_pure h))))
theorem inst_ne_str {Q : Value → Shared → Prop} (X : K.In s.heap) (I : InstAt s.heap x ox C od) (ho : ox.data = .plain) (hu : A.units + 1 < cLine) (he : findIn K (.ref C) "__eq__" = some (some (.builtin "object.__eq__"))) (hn : findIn K (.ref C) "__ne__" = some (some (.builtin "object.__ne__")))
    (hob : mroIn K C (.type "object") = some true) (h : Q (.bool true) s) :
    wpAny (model prog w) A (compareOp .NotEq (.ref x) (.str y t)) Q E s := by
  show wpAny (model prog w) A (richCompare .NotEq (.ref x) (.str y t)) Q E s
  have hx := I.1
  simp only [richCompare, cmpInfo_NotEq, oneThing_ref]
  refine wpAny_holding (wpAny_bind (wpAny_cRoomFor (Nat.lt_of_succ_lt hu) ?_))
  refine wpAny_bind (I.type.here (wpAny_bind (wpAny_typeOf (typeIs_str s y t) ?_)))
  have hne : (Value.ref C != Value.type "str") = true := by simp
  simp only [hne, if_true]
  refine wpAny_bind (wpAny_of_eq (show isSubtype (.type "str") (.ref C) = pure false from by rw [isSubtype_type]; rfl) ?_)
  simp only [Bool.false_eq_true, if_false, Bool.not_false, if_true]
  refine wpAny_bind (m := tryCompare (.ref x) "__ne__" (.str y t)) ?_
  unfold tryCompare
  refine wpAny_bind (ifBoundB X I hn (F.cmp_object.ne.bind _) (objNe_str X I he hob hu (wpAny_pure ?_)))
  refine wpAny_bind (m := tryCompare (.str y t) "__ne__" (.ref x)) (wpAny_tryCompare_declines (typeIs_str s y t) F.slot_str_ne_refl (call_meets F.slot_str_ne_refl (typeIs_str s y t) F.entry_str_ne (F.args_str_ne_2 _ _) (str_ne_inst y t x ox ho) ⟨hx, rfl, ?_⟩))
  exact wpAny_bind (wpAny_rule (wpAny_bind (wpAny_of_eq (show isSame (.ref x) (.str y t) = pure false from rfl) (wpAny_pure h))))
end
section
variable {prog : Program} {w : World} {A : Around} {E : Value → Shared → Prop} {s : Shared}
theorem my_LR {value slice : PySem.Expr} {t u : Tok} {i : Int} {c : Str} {Q : Value → Shared → Prop} (hi : 0 ≤ i) (h2 : i < 2) (hc : Txt.item "LR" i = c) (h : Q (.str c s.toks) { s with toks := s.toks + 1 })
    (hs : subscripted slice false (.str "LR" t) (.int i u) = operate [.str "LR" t, .int i u] (getItem (.str "LR" t) (.int i u)) := by with_unfolding_all rfl)
    (ht : ∀ r, letTemporaryGo value (.str "LR" t) r = pure () := by intro _; with_unfolding_all rfl) :
    wpAny (model prog w) A (subscriptTail value slice (.str "LR" t) (.int i u)) Q E s := KXi.item (n := 2) (by decide) (by omega) (by omega) (by decide) (fun _ => hc ▸ h) hs ht
end
local macro_rules | `(tactic| walk_at "compareOp NotEq ref") => `(tactic| (k_here; (with_reducible show wpAny _ _ (compareOp CmpOp.NotEq (Value.ref _) (Value.str _ _)) _ _ _); k_dflt (refine' inst_ne_str ?X ?I ?o ?u ?e ?n ?b ?_; (case X => k_in); (case I => k_inst); (case o => rfl); (case u => k_units); (case e => k_is); (case n => k_is); (case b => k_is); k_whole)))
local macro_rules | `(tactic| walk_at "compareOp Eq ref") => `(tactic| (k_here; (with_reducible show wpAny _ _ (compareOp CmpOp.Eq (Value.ref _) (Value.str _ _)) _ _ _); k_dflt (refine' inst_eq_str ?X ?I ?o ?u ?e ?b ?_; (case X => k_in); (case I => k_inst); (case o => rfl); (case u => k_units); (case e => k_is); (case b => k_is); k_whole)))
local macro_rules | `(tactic| walk_at "subscriptTail") => `(tactic| (k_here; (with_reducible show wpAny _ _ (subscriptTail _ _ (Value.str (PySem.Str.ofString "LR") _) (Value.int (1 - 1) _)) _ _ _); k_dflt (refine' my_LR (i := 1 - 1) (c := (PySem.Str.ofString "L")) ?k1 ?k2 ?k3 ?_ ?k6 ?k7; (case k1 => decide); (case k2 => decide); (case k3 => decide +kernel); (case k6 => with_unfolding_all rfl); (case k7 => (intro _; with_unfolding_all rfl)); k_whole)))
local macro_rules | `(tactic| walk_at "subscriptTail") => `(tactic| (k_here; (with_reducible show wpAny _ _ (subscriptTail _ _ (Value.str (PySem.Str.ofString "LR") _) (Value.int (2 - 1) _)) _ _ _); k_dflt (refine' my_LR (i := 2 - 1) (c := (PySem.Str.ofString "R")) ?k1 ?k2 ?k3 ?_ ?k6 ?k7; (case k1 => decide); (case k2 => decide); (case k3 => decide +kernel); (case k6 => with_unfolding_all rfl); (case k7 => (intro _; with_unfolding_all rfl)); k_whole)))
local macro_rules | `(tactic| walk_at "subscriptTail") => `(tactic| (k_here; (with_reducible show wpAny _ _ (subscriptTail _ _ (Value.str (PySem.Str.ofString "LR") _) (Value.int (0) _)) _ _ _); k_dflt (refine' my_LR (i := 0) (c := (PySem.Str.ofString "L")) ?k1 ?k2 ?k3 ?_ ?k6 ?k7; (case k1 => decide); (case k2 => decide); (case k3 => decide +kernel); (case k6 => with_unfolding_all rfl); (case k7 => (intro _; with_unfolding_all rfl)); k_whole)))
local macro_rules | `(tactic| walk_at "subscriptTail") => `(tactic| (k_here; (with_reducible show wpAny _ _ (subscriptTail _ _ (Value.str (PySem.Str.ofString "LR") _) (Value.int (1) _)) _ _ _); k_dflt (refine' my_LR (i := 1) (c := (PySem.Str.ofString "R")) ?k1 ?k2 ?k3 ?_ ?k6 ?k7; (case k1 => decide); (case k2 => decide); (case k3 => decide +kernel); (case k6 => with_unfolding_all rfl); (case k7 => (intro _; with_unfolding_all rfl)); k_whole)))
theorem off_08 : True := by
  w_top off
  trivial
set_option maxHeartbeats 4000000 in
theorem step_down {w : World} {dp un : Nat} {gd : Option (List Code)} {cn : Str} {cs : Scope} {a : Addr} {ccd : Value} {cl : List (Str × Addr)} {outer : List Env} {A₀ : Around} {base h₀ : Heap} {L : Addr} {m : Str → Option Value}
    {news : List (Addr × Obj)} {s : Shared} {Q E : Value → Shared → Prop} {p : Program} {loose : List Str} {mean : ExcName → Option Value} {mg mb : Str → Option Value}
    {vb : Value} {kh kb : Nat} {As : List Adr} {G : List Nd} {g : Nd} {a1 : Adr}
    (B : Below A₀ base outer h₀) (F : Fr h₀ L s.heap m) (X : (fr.heap_1 w.params).In h₀) (N : News h₀ L s.heap news) (T : Top p loose mean mg mb h₀) (hk : cs.kind = .function)
    (hdp : dp < 440) (hun : un < 4000) (GI : GraphIn news As G) (AP : Apart As) (hh : kh ≠ 0) (hA : As[kh - 1]? = some a1) (hg : G[kh - 1]? = some g) (hm : g.m = 0) (hb : LinkV As vb kb)
    (ret : ∀ h' tk' D w1 w2 news', Fr h₀ L h' m → News h₀ L h' ((D, { cls := .type "tuple", data := .seq #[w1, w2] }) :: news') → (∀ q ∈ news', q.1 < D) → (∀ q ∈ news, (∀ a ∈ As, q.1 ≠ a.v) → q ∈ news') →
      GraphIn news' As (G.set (kh - 1) ⟨kb, g.r, 1⟩) → LinkV As w1 g.l → LinkV As w2 kh → Q (.ref D) { s with heap := h', toks := tk' }) :
    wpAny (model PySem.Challenge.rw_xm0934_01.row.prog w) (ktrTop dp un gd cn cs L a ccd cl outer) (call (.ref 324) [.ref a1.x, vb]) Q E s := by
  revert X; k_fill; intro X
  have hAm := mem_of_get hA
  have hGi : kh - 1 < G.length := by rw [← GI.len]; exact (List.getElem?_eq_some_iff.mp hA).1
  obtain ⟨v0, v1, t2, n2, hv, hl0, hl1⟩ := GI.vals _ _ _ hA hg
  obtain ⟨hx, hdd, hf⟩ := GI.node _ _ hA
  have vx : @Ne Nat a1.x a1.v := AP.vx a1 hAm a1 hAm
  have vd : @Ne Nat a1.d a1.v := AP.vd a1 hAm a1 hAm
  have vf : @Ne Nat a1.f a1.v := AP.vf a1 hAm a1 hAm
  have hm9 : ((g.m : Nat) : Int) = 0 := by omega
  rw [hm9] at hv
  refine wpAny_call ?_
  k_dflt ktr_enter
  tb_start
  rename Fr _ _ _ _ => F9
  rename News _ _ _ _ => N9
  exact ret _ _ _ _ _ _ F9 N9 (by assumption) (fun q hq hh => setL_mem (setL_mem hq (hh a1 hAm)) (hh a1 hAm)) (GI.over ⟨kb, g.r, 1⟩ AP hA setL_head (fun q hq hne => setL_mem (setL_mem hq hne) hne) hb hl1 rfl) hl0 (.inr ⟨a1, hh, hA, rfl⟩)
set_option maxHeartbeats 4000000 in
theorem step_none {w : World} {dp un : Nat} {gd : Option (List Code)} {cn : Str} {cs : Scope} {a : Addr} {ccd : Value} {cl : List (Str × Addr)} {outer : List Env} {A₀ : Around} {base h₀ : Heap} {L : Addr} {m : Str → Option Value}
    {news : List (Addr × Obj)} {s : Shared} {Q E : Value → Shared → Prop} {p : Program} {loose : List Str} {mean : ExcName → Option Value} {mg mb : Str → Option Value}
    {vh : Value} {kh : Nat} {As : List Adr} {G : List Nd} {tb : Tok}
    (B : Below A₀ base outer h₀) (F : Fr h₀ L s.heap m) (X : (fr.heap_1 w.params).In h₀) (N : News h₀ L s.heap news) (T : Top p loose mean mg mb h₀) (hk : cs.kind = .function)
    (hdp : dp < 440) (hun : un < 4000) (GI : GraphIn news As G) (hh : (kh = 0 ∧ ∃ t, vh = .str "" t) ∨ ∃ a0 g0, kh ≠ 0 ∧ As[kh - 1]? = some a0 ∧ G[kh - 1]? = some g0 ∧ g0.m ≠ 0 ∧ vh = .ref a0.x)
    (ret : ∀ h' tk', Fr h₀ L h' m → News h₀ L h' news → Q .none { s with heap := h', toks := tk' }) :
    wpAny (model PySem.Challenge.rw_xm0934_01.row.prog w) (ktrTop dp un gd cn cs L a ccd cl outer) (call (.ref 324) [vh, .str "" tb]) Q E s := by
  revert X; k_fill; intro X
  rcases hh with ⟨hz, t0, rfl⟩ | ⟨a0, g0, h0, hA0, hg0, hm0, rfl⟩
  · refine wpAny_call ?_
    k_dflt ktr_enter
    tb_start
    exact ret _ _ (by k_asm) (by k_asm)
  · obtain ⟨x0, x1, t2, n2, hv, _, _⟩ := GI.vals _ _ _ hA0 hg0
    obtain ⟨hx, hdd, hf⟩ := GI.node _ _ hA0
    have hmi : ((g0.m : Nat) : Int) ≠ 0 := by omega
    generalize ((g0.m : Nat) : Int) = mi at hv hmi
    have hmb : (mi == 0) = false := by simpa using hmi
    have hmb2 : decide (mi = 0) = false := decide_eq_false hmi
    refine wpAny_call ?_
    k_dflt ktr_enter
    tb_start
    exact ret _ _ (by k_asm) (by k_asm)
set_option maxHeartbeats 4000000 in
theorem step_turn {w : World} {dp un : Nat} {gd : Option (List Code)} {cn : Str} {cs : Scope} {a : Addr} {ccd : Value} {cl : List (Str × Addr)} {outer : List Env} {A₀ : Around} {base h₀ : Heap} {L : Addr} {m : Str → Option Value}
    {news : List (Addr × Obj)} {s : Shared} {Q E : Value → Shared → Prop} {p : Program} {loose : List Str} {mean : ExcName → Option Value} {mg mb : Str → Option Value}
    {vh : Value} {kh kb : Nat} {As : List Adr} {G : List Nd} {g : Nd} {a1 : Adr}
    (B : Below A₀ base outer h₀) (F : Fr h₀ L s.heap m) (X : (fr.heap_1 w.params).In h₀) (N : News h₀ L s.heap news) (T : Top p loose mean mg mb h₀) (hk : cs.kind = .function)
    (hdp : dp < 440) (hun : un < 4000) (GI : GraphIn news As G) (AP : Apart As) (hh : (kh = 0 ∧ ∃ t, vh = .str "" t) ∨ ∃ a0 g0, kh ≠ 0 ∧ As[kh - 1]? = some a0 ∧ G[kh - 1]? = some g0 ∧ g0.m ≠ 0 ∧ vh = .ref a0.x)
    (hlh : LinkV As vh kh) (hb : kb ≠ 0) (hA : As[kb - 1]? = some a1) (hg : G[kb - 1]? = some g) (hm : g.m = 1)
    (ret : ∀ h' tk' D w1 w2 news', Fr h₀ L h' m → News h₀ L h' ((D, { cls := .type "tuple", data := .seq #[w1, w2] }) :: news') → (∀ q ∈ news', q.1 < D) → (∀ q ∈ news, (∀ a ∈ As, q.1 ≠ a.v) → q ∈ news') →
      GraphIn news' As (G.set (kb - 1) ⟨kh, g.l, 2⟩) → LinkV As w1 g.r → LinkV As w2 kb → Q (.ref D) { s with heap := h', toks := tk' }) :
    wpAny (model PySem.Challenge.rw_xm0934_01.row.prog w) (ktrTop dp un gd cn cs L a ccd cl outer) (call (.ref 324) [vh, .ref a1.x]) Q E s := by
  revert X; k_fill; intro X
  have hAm := mem_of_get hA
  have hGi : kb - 1 < G.length := by rw [← GI.len]; exact (List.getElem?_eq_some_iff.mp hA).1
  obtain ⟨v0, v1, t2, n2, hv, hl0, hl1⟩ := GI.vals _ _ _ hA hg
  obtain ⟨hx, hdd, hf⟩ := GI.node _ _ hA
  have vx : @Ne Nat a1.x a1.v := AP.vx a1 hAm a1 hAm
  have vd : @Ne Nat a1.d a1.v := AP.vd a1 hAm a1 hAm
  have vf : @Ne Nat a1.f a1.v := AP.vf a1 hAm a1 hAm
  have hm9 : ((g.m : Nat) : Int) = 1 := by omega
  rw [hm9] at hv
  rcases hh with ⟨hz, t0, rfl⟩ | ⟨a0, g0, h0, hA0, hg0, hm0, rfl⟩
  · refine wpAny_call ?_
    k_dflt ktr_enter
    tb_start
    rename Fr _ _ _ _ => F9
    rename News _ _ _ _ => N9
    exact ret _ _ _ _ _ _ F9 N9 (by assumption) (fun q hq hh => setL_mem (setL_mem (setL_mem hq (hh a1 hAm)) (hh a1 hAm)) (hh a1 hAm)) (GI.over ⟨kh, g.l, 2⟩ AP hA setL_head (fun q hq hne => setL_mem (setL_mem (setL_mem hq hne) hne) hne) hlh hl0 rfl) hl1 (.inr ⟨a1, hb, hA, rfl⟩)
  · obtain ⟨x0, x1, t3, n3, hv0, _, _⟩ := GI.vals _ _ _ hA0 hg0
    obtain ⟨hx0, hdd0, hf0⟩ := GI.node _ _ hA0
    have hmi : ((g0.m : Nat) : Int) ≠ 0 := by omega
    generalize ((g0.m : Nat) : Int) = mi at hv0 hmi
    have hmb : (mi == 0) = false := by simpa using hmi
    have hmb2 : decide (mi = 0) = false := decide_eq_false hmi
    refine wpAny_call ?_
    k_dflt ktr_enter
    tb_start
    rename Fr _ _ _ _ => F9
    rename News _ _ _ _ => N9
    exact ret _ _ _ _ _ _ F9 N9 (by assumption) (fun q hq hh => setL_mem (setL_mem (setL_mem hq (hh a1 hAm)) (hh a1 hAm)) (hh a1 hAm)) (GI.over ⟨kh, g.l, 2⟩ AP hA setL_head (fun q hq hne => setL_mem (setL_mem (setL_mem hq hne) hne) hne) hlh hl0 rfl) hl1 (.inr ⟨a1, hb, hA, rfl⟩)
set_option maxHeartbeats 4000000 in
theorem step_up {w : World} {dp un : Nat} {gd : Option (List Code)} {cn : Str} {cs : Scope} {a : Addr} {ccd : Value} {cl : List (Str × Addr)} {outer : List Env} {A₀ : Around} {base h₀ : Heap} {L : Addr} {m : Str → Option Value}
    {news : List (Addr × Obj)} {s : Shared} {Q E : Value → Shared → Prop} {p : Program} {loose : List Str} {mean : ExcName → Option Value} {mg mb : Str → Option Value}
    {vh : Value} {kh kb : Nat} {As : List Adr} {G : List Nd} {g : Nd} {a1 : Adr}
    (B : Below A₀ base outer h₀) (F : Fr h₀ L s.heap m) (X : (fr.heap_1 w.params).In h₀) (N : News h₀ L s.heap news) (T : Top p loose mean mg mb h₀) (hk : cs.kind = .function)
    (hdp : dp < 440) (hun : un < 4000) (GI : GraphIn news As G) (AP : Apart As) (hh : (kh = 0 ∧ ∃ t, vh = .str "" t) ∨ ∃ a0 g0, kh ≠ 0 ∧ As[kh - 1]? = some a0 ∧ G[kh - 1]? = some g0 ∧ g0.m ≠ 0 ∧ vh = .ref a0.x)
    (hlh : LinkV As vh kh) (hb : kb ≠ 0) (hA : As[kb - 1]? = some a1) (hg : G[kb - 1]? = some g) (hm : g.m = 2)
    (ret : ∀ h' tk' D w1 w2 news', Fr h₀ L h' m → News h₀ L h' ((D, { cls := .type "tuple", data := .seq #[w1, w2] }) :: news') → (∀ q ∈ news', q.1 < D) → (∀ q ∈ news, (∀ a ∈ As, q.1 ≠ a.v) → q ∈ news') →
      GraphIn news' As (G.set (kb - 1) ⟨g.l, kh, 3⟩) → LinkV As w1 kb → LinkV As w2 g.r → Q (.ref D) { s with heap := h', toks := tk' }) :
    wpAny (model PySem.Challenge.rw_xm0934_01.row.prog w) (ktrTop dp un gd cn cs L a ccd cl outer) (call (.ref 324) [vh, .ref a1.x]) Q E s := by
  revert X; k_fill; intro X
  have hAm := mem_of_get hA
  have hGi : kb - 1 < G.length := by rw [← GI.len]; exact (List.getElem?_eq_some_iff.mp hA).1
  obtain ⟨v0, v1, t2, n2, hv, hl0, hl1⟩ := GI.vals _ _ _ hA hg
  obtain ⟨hx, hdd, hf⟩ := GI.node _ _ hA
  have vx : @Ne Nat a1.x a1.v := AP.vx a1 hAm a1 hAm
  have vd : @Ne Nat a1.d a1.v := AP.vd a1 hAm a1 hAm
  have vf : @Ne Nat a1.f a1.v := AP.vf a1 hAm a1 hAm
  have hm9 : ((g.m : Nat) : Int) = 2 := by omega
  rw [hm9] at hv
  rcases hh with ⟨hz, t0, rfl⟩ | ⟨a0, g0, h0, hA0, hg0, hm0, rfl⟩
  · refine wpAny_call ?_
    k_dflt ktr_enter
    tb_start
    rename Fr _ _ _ _ => F9
    rename News _ _ _ _ => N9
    exact ret _ _ _ _ _ _ F9 N9 (by assumption) (fun q hq hh => setL_mem (setL_mem hq (hh a1 hAm)) (hh a1 hAm)) (GI.over ⟨g.l, kh, 3⟩ AP hA setL_head (fun q hq hne => setL_mem (setL_mem hq hne) hne) hl0 hlh rfl) (.inr ⟨a1, hb, hA, rfl⟩) hl1
  · obtain ⟨x0, x1, t3, n3, hv0, _, _⟩ := GI.vals _ _ _ hA0 hg0
    obtain ⟨hx0, hdd0, hf0⟩ := GI.node _ _ hA0
    have hmi : ((g0.m : Nat) : Int) ≠ 0 := by omega
    generalize ((g0.m : Nat) : Int) = mi at hv0 hmi
    have hmb : (mi == 0) = false := by simpa using hmi
    have hmb2 : decide (mi = 0) = false := decide_eq_false hmi
    refine wpAny_call ?_
    k_dflt ktr_enter
    tb_start
    rename Fr _ _ _ _ => F9
    rename News _ _ _ _ => N9
    exact ret _ _ _ _ _ _ F9 N9 (by assumption) (fun q hq hh => setL_mem (setL_mem hq (hh a1 hAm)) (hh a1 hAm)) (GI.over ⟨g.l, kh, 3⟩ AP hA setL_head (fun q hq hne => setL_mem (setL_mem hq hne) hne) hl0 hlh rfl) (.inr ⟨a1, hb, hA, rfl⟩) hl1
theorem off_09 : True := by
  w_top off
  trivial
theorem newsSame {h₀ h h' : Heap} {L b : Addr} {news : List (Addr × Obj)} (N : News h₀ L h news) (hs : Heap.SameBut b h h') (off : ∀ p ∈ news, p.1 ≠ b) : News h₀ L h' news := fun p hp => ⟨(hs.2 _ (off p hp)).trans (N p hp).1, (N p hp).2⟩
theorem frSame {h₀ h h' : Heap} {L b : Addr} {m : Str → Option Value} (F : Fr h₀ L h m) (hs : Heap.SameBut b h h') (hL : b ≠ L) (hn : h₀.get? b = none) : Fr h₀ L h' m := F.change hs hL hn
abbrev lstO (ys : List Value) : Obj := LCg.lst ys
abbrev Off4 (I C D ce : Addr) (nw : List (Addr × Obj)) : Prop := ∀ p ∈ nw, p.1 ≠ I ∧ p.1 ≠ C ∧ p.1 ≠ D ∧ p.1 ≠ ce
section
variable {prog : Program} {w : World} {A : Around} {E : Value → Shared → Prop} {s : Shared} {h₀ : Heap} {L : Addr} {m : Str → Option Value} {env : Env}
set_option maxHeartbeats 1000000 in
theorem block_cell {elt iter : Expr} {x : Str} {px : Pos} {scope : Scope} {pos : Pos} {s₂ : Shared} {I : Addr} {fp : List Addr} {n : Nat} {P : Nat → Value → Prop} {St : Nat → Heap → Prop} {S : List (Addr × Obj) → Prop} {news : List (Addr × Obj)}
    {Inv : Nat → List Value → List (Addr × Obj) → Prop} {RR : Value → Addr → Result → Shared → Prop}
    (W : Walks prog w A I fp [I] n P St) (hsz : n ≤ 100) (hIo : ∀ i h, St i h → ∃ o, h.get? I = some o)
    (hSt : ∀ i h h' o nw, St i h → h.get? I = some o → h'.get? I = some o → (∀ b o, h₀.get? b = some o → h'.get? b = some o) → News h₀ L h' nw → S nw → St i h')
    (hx0 : (x == (".0" : Str)) = false) (hnm : scope.names = [((".0" : Str), .local), (x, .cell)]) (hkind : scope.kind = .function) (hst : St 0 s₂.heap) (hfp : ∀ b ∈ fp, b < s₂.heap.objs.size)
    (F : Fr h₀ L s₂.heap m) (N : News h₀ L s₂.heap news) (hIL : L ≠ I) (hI₀ : h₀.get? I = none) (off : ∀ p ∈ news, p.1 ≠ I) (hS : ∀ i ys nw, Inv i ys nw → S nw) (h0 : Inv 0 [] news)
    (step : ∀ i v ys nw oI C oC D ce oce h tk (E' : Value → Shared → Prop), P i v → i < n → ys.length = i → Inv i ys nw → oce.data = .cell (some v) → Fr h₀ L h m → News h₀ L h ((I, oI) :: (C, oC) :: (D, lstO ys) :: (ce, oce) :: nw) → Off4 I C D ce nw →
      wpAny (model prog w) A (eval elt (compEnvC scope [(x, ce)] C env)) (fun y s₃ => ∃ h' tk' nw', s₃ = { s₂ with heap := h', toks := tk' } ∧ Fr h₀ L h' m ∧ News h₀ L h' ((I, oI) :: (C, oC) :: (D, lstO ys) :: (ce, oce) :: nw') ∧ Off4 I C D ce nw' ∧ Inv (i + 1) (ys ++ [y]) nw') E' { s₂ with heap := h, toks := tk })
    (hRR : ∀ D C h tk m' ys nw, Fr h₀ L h m → News h₀ L h ((D, lstO ys) :: nw) → (∀ p ∈ nw, p.1 ≠ D) → h.Ns C m' → h₀.get? C = none → h₀.get? D = none → C ≠ L → D ≠ L → C ≠ D → (∀ p ∈ nw, p.1 ≠ C) → Inv n ys nw → RR (.ref D) C (.ok .next) { s₂ with heap := h, toks := tk }) :
    wpAny (model prog w) A (newList []) (fun acc s₃ => wpAny (model prog w) A (newFunctionEnv scope env.globals [] [] env.qual none .none (some env)) (fun cenv s₄ =>
      codeAny (model prog w) A (.compStart (.ListComp elt [⟨.Name x px, iter, [], 0⟩] scope pos) 0 (.ref I) acc { cenv with scope := relabel scope env }) (RR acc cenv.locals) s₄) E s₃) E s₂ := by
  refine wpAny_newObj_type ?_
  unfold newFunctionEnv
  simp only [hnm, Option.isSome_some, if_true]
  refine wpAny_bind (wpAny_alloc ?_)
  simp only [List.forIn_cons, List.forIn_nil]
  refine wpAny_bind (wpAny_bind ?_)
  rw [if_neg (by decide)]
  refine wpAny_pure ?_
  dsimp only
  refine wpAny_bind ?_
  rw [if_pos (by decide)]
  refine wpAny_bind (wpAny_alloc (wpAny_pure ?_))
  refine wpAny_pure (wpAny_bind (wpAny_pure (wpAny_pure ?_)))
  dsimp only
  generalize hH1 : s₂.heap.push { cls := .type "list", dict := none, data := .seq ([] : List Value).toArray } = H1
  generalize hH2 : H1.push { cls := .type "dict", dict := none, data := .dict #[] } = H2
  generalize hH3 : H2.push { cls := .type "cell", dict := none, data := .cell none } = H3
  have eC : H1.objs.size = s₂.heap.objs.size + 1 := by rw [← hH1, Heap.size_push]
  have ece : H2.objs.size = s₂.heap.objs.size + 2 := by rw [← hH2, Heap.size_push, eC]
  have old : ∀ b o, s₂.heap.get? b = some o → H3.get? b = some o := fun b o e => hH3 ▸ Heap.get?_push_of_some _ (hH2 ▸ Heap.get?_push_of_some _ (hH1 ▸ Heap.get?_push_of_some _ e))
  have gD : H3.get? s₂.heap.objs.size = some (lstO []) := hH3 ▸ Heap.get?_push_of_some _ (hH2 ▸ Heap.get?_push_of_some _ (hH1 ▸ Heap.get?_push_size _ rfl))
  have gC : H3.get? H1.objs.size = some { cls := .type "dict", dict := none, data := .dict #[] } := hH3 ▸ Heap.get?_push_of_some _ (hH2 ▸ Heap.get?_push_size _ rfl)
  have gce : H3.get? H2.objs.size = some { cls := .type "cell", dict := none, data := .cell none } := hH3 ▸ Heap.get?_push_size _ rfl
  have lt : ∀ b o, s₂.heap.get? b = some o → b ≠ s₂.heap.objs.size ∧ b ≠ H1.objs.size ∧ b ≠ H2.objs.size := fun b o e => by
    have := ltN (Heap.lt_size e)
    exact ⟨neN (by omega), neN (by omega), neN (by omega)⟩
  have fresh₀ : ∀ a, s₂.heap.objs.size ≤ a → h₀.get? a = none := fun a ha => by
    cases e : h₀.get? a with
    | none => rfl
    | some o' => exact absurd (Heap.lt_size (F.keep a o' e)) (Nat.not_lt.mpr ha)
  have hLlt := ltN F.ns.lt
  have hIlt := ltN (hfp I (W.sub I (List.mem_singleton.mpr rfl)))
  have nCL : H1.objs.size ≠ L := neN (by omega)
  have nDL : s₂.heap.objs.size ≠ L := neN (by omega)
  have nceL : H2.objs.size ≠ L := neN (by omega)
  have nDI : s₂.heap.objs.size ≠ I := neN (by omega)
  have nCI : H1.objs.size ≠ I := neN (by omega)
  have nceI : H2.objs.size ≠ I := neN (by omega)
  have nCD : H1.objs.size ≠ s₂.heap.objs.size := neN (by omega)
  have nceD : H2.objs.size ≠ s₂.heap.objs.size := neN (by omega)
  have nceC : H2.objs.size ≠ H1.objs.size := neN (by omega)
  have fD := fresh₀ s₂.heap.objs.size (Nat.le_refl _)
  have fC := fresh₀ H1.objs.size (by omega)
  have fce := fresh₀ H2.objs.size (by omega)
  have hfp' : ∀ b ∈ fp, b ≠ s₂.heap.objs.size ∧ b ≠ H1.objs.size ∧ b ≠ H2.objs.size := fun b hb => by have := ltN (hfp b hb); exact ⟨neN (by omega), neN (by omega), neN (by omega)⟩
  have hst₁ : St 0 H3 := W.frame _ _ _ hst fun b _ o e => old b o e
  have F₁ : Fr h₀ L H3 m := F.keeps old
  have off₀ : Off4 I H1.objs.size s₂.heap.objs.size H2.objs.size news := fun p hp => by
    have := lt _ _ (N p hp).1
    exact ⟨off p hp, this.2.1, this.1, this.2.2⟩
  have N₁ : News h₀ L H3 ((H1.objs.size, { cls := .type "dict", dict := none, data := .dict #[] }) :: (s₂.heap.objs.size, lstO []) :: (H2.objs.size, { cls := .type "cell", dict := none, data := .cell none }) :: news) := fun p hp => by
    simp only [List.mem_cons] at hp
    rcases hp with rfl | rfl | rfl | hp
    · exact ⟨gC, nCL, fC⟩
    · exact ⟨gD, nDL, fD⟩
    · exact ⟨gce, nceL, fce⟩
    · exact ⟨old _ _ (N p hp).1, (N p hp).2⟩
  have hkind' : (compEnvC scope [(x, H2.objs.size)] H1.objs.size env).scope.kind = .function := by simp [compEnvC, relabel, hkind]
  have hkx : (compEnvC scope [(x, H2.objs.size)] H1.objs.size env).kindOf x = some .cell := by
    simp only [Env.kindOf, compEnvC, relabel, hnm, List.map_cons, List.map_nil]
    simp [List.lookup, hx0]
  have loop : ∀ s₃ : Shared, s₃ = { s₂ with heap := H3 } →
      codeAny (model prog w) A (.compLoop (.ListComp elt [⟨.Name x px, iter, [], 0⟩] scope pos) 0 (.ref I) (.ref s₂.heap.objs.size) (compEnvC scope [(x, H2.objs.size)] H1.objs.size env))
        (RR (.ref s₂.heap.objs.size) H1.objs.size) s₃ := by
    rintro s₃ rfl
    refine codeAny_compLoop_tests
      (fun k s' => ∃ (h' : Heap) (tk i : Nat) (ys : List Value) (nw : List (Addr × Obj)) (oce : Obj) (v0 : Option Value), s' = { s₂ with heap := h', toks := tk } ∧ i ≤ n ∧ k = n + 1 - i ∧ ys.length = i ∧ St i h' ∧ Fr h₀ L h' m ∧ oce.data = .cell v0 ∧
        News h₀ L h' ((H1.objs.size, { cls := .type "dict", dict := none, data := .dict #[] }) :: (s₂.heap.objs.size, lstO ys) :: (H2.objs.size, oce) :: nw) ∧ Off4 I H1.objs.size s₂.heap.objs.size H2.objs.size nw ∧ Inv i ys nw) ?_ (n + 1)
      ⟨H3, _, 0, [], news, _, _, rfl, Nat.zero_le _, rfl, rfl, hst₁, F₁, rfl, N₁, off₀, h0⟩
    rintro k s' ⟨h', tk, i, ys, nw, oce, v0, rfl, hi, rfl, hyl, hst', F', hce', N', off', hI'⟩
    by_cases hlt : i < n
    · refine W.item i _ _ _ hlt hst' fun v h₂ tk₂ hPv hst₂ hk₂ => ?_
      have F₂ : Fr h₀ L h₂ m := LCg.fr_but F' hk₂ hIL hI₀
      have N₂ := LCg.news_but N' hk₂ (fun p hp => by
        simp only [List.mem_cons] at hp
        rcases hp with rfl | rfl | rfl | hp
        · exact nCI
        · exact nDI
        · exact nceI
        · exact (off' p hp).1)
      refine wpAny_assign_Name (wpAny_storeName_cell hkind' hkx (by simp [compEnvC]) ⟨oce, (N₂ (H2.objs.size, oce) (by simp)).1, hce'⟩ fun h₃ hc₃ hs₃ => ?_)
      refine wpAny_tests_nil ?_
      simp only [if_true]
      obtain ⟨oce₃, hoce₃, hdce₃⟩ := hc₃
      have hst₃ : St (i + 1) h₃ := W.frame _ _ _ hst₂ fun b hb o e => hs₃.extBut b o (hfp' b hb).2.2 e
      obtain ⟨oI, heI⟩ := hIo _ _ hst₃
      have F₃ : Fr h₀ L h₃ m := F₂.change hs₃ nceL fce
      have N₃ : News h₀ L h₃ ((I, oI) :: (H1.objs.size, { cls := .type "dict", dict := none, data := .dict #[] }) :: (s₂.heap.objs.size, lstO ys) :: (H2.objs.size, oce₃) :: nw) := fun p hp => by
        simp only [List.mem_cons] at hp
        rcases hp with rfl | rfl | rfl | rfl | hp
        · exact ⟨heI, Ne.symm hIL, hI₀⟩
        · have z := N₂ (H1.objs.size, _) (List.mem_cons_self ..)
          exact ⟨(hs₃.2 _ (Ne.symm nceC)).trans z.1, z.2⟩
        · have z := N₂ (s₂.heap.objs.size, lstO ys) (by simp)
          exact ⟨(hs₃.2 _ (Ne.symm nceD)).trans z.1, z.2⟩
        · exact ⟨hoce₃, nceL, fce⟩
        · have z := N₂ p (by simp [hp])
          exact ⟨(hs₃.2 _ (off' p hp).2.2.2).trans z.1, z.2⟩
      refine wpAny_mono (step i v ys nw oI H1.objs.size _ s₂.heap.objs.size H2.objs.size oce₃ h₃ _ _ hPv hlt hyl hI' hdce₃ F₃ N₃ off') (fun y s₄ h₄ => ?_) fun _ _ e => e
      obtain ⟨h₄, tk₄, nw₄, rfl, F₄, N₄, off₄, hI₄⟩ := h₄
      have zI := (N₄ (I, oI) (by simp)).1
      have zD := (N₄ (s₂.heap.objs.size, lstO ys) (by simp)).1
      have N₄' : News h₀ L h₄ nw₄ := fun p hp => N₄ p (by simp [hp])
      have hst₄ : St (i + 1) h₄ := hSt _ _ _ _ _ hst₃ heI zI F₄.keep N₄' (hS _ _ _ hI₄)
      refine append_at (hsz := by show ys.toArray.size ≤ sizeLine; rw [List.size_toArray, hyl, sizeLine_eq]; omega) zD fun h₅ hs₅ hD₅ => ?_
      refine ⟨n + 1 - (i + 1), by omega, h₅, tk₄, i + 1, ys ++ [y], nw₄, oce₃, _, rfl, hlt, rfl, by rw [List.length_append, List.length_singleton, hyl], W.frame _ _ _ hst₄ fun b hb o e => hs₅.extBut b o (hfp' b hb).1 e, F₄.change hs₅ nDL fD, hdce₃, fun p hp => ?_, off₄, hI₄⟩
      simp only [List.mem_cons] at hp
      rcases hp with rfl | rfl | rfl | hp
      · have z := N₄ (H1.objs.size, { cls := .type "dict", dict := none, data := .dict #[] }) (by simp)
        exact ⟨(hs₅.2 _ nCD).trans z.1, z.2⟩
      · exact ⟨hD₅.trans (congrArg some (LCg.lst_snoc ys y)), nDL, fD⟩
      · have z := N₄ (H2.objs.size, oce₃) (by simp)
        exact ⟨(hs₅.2 _ nceD).trans z.1, z.2⟩
      · exact ⟨(hs₅.2 _ (off₄ p hp).2.2.1).trans (N₄' p hp).1, (N₄' p hp).2⟩
    · obtain rfl : i = n := Nat.le_antisymm hi (Nat.not_lt.mp hlt)
      refine W.done _ _ _ hst' fun h₂ tk₂ hk₂ => ?_
      have N₂ := LCg.news_but N' hk₂ (fun p hp => by
        simp only [List.mem_cons] at hp
        rcases hp with rfl | rfl | rfl | hp
        · exact nCI
        · exact nDI
        · exact nceI
        · exact (off' p hp).1)
      refine hRR _ _ h₂ tk₂ (fun _ => none) ys nw (LCg.fr_but F' hk₂ hIL hI₀) (fun p hp => N₂ p ?_) (fun p hp => (off' p hp).2.2.1) ?_ fC fD nCL nDL nCD (fun p hp => (off' p hp).2.1) hI'
      · simp only [List.mem_cons] at hp ⊢
        rcases hp with rfl | hp
        · exact .inr (.inl rfl)
        · exact .inr (.inr (.inr hp))
      · have z := (N₂ (H1.objs.size, _) (List.mem_cons_self ..)).1
        exact ⟨_, #[], 0, z, rfl, fun _ h => by simp at h, fun _ => by simp [nsFind, findBy]⟩
  exact codeAny_compStart_list (loop _ rfl) (W.self 0 _ _ _ hst₁ (loop _ rfl))
theorem Assign_cell {elt iter : Expr} {x y : Str} {px py : Pos} {scope : Scope} {pos spos : Pos} {Q : Flow → Shared → Prop} {lt : Addr} {its : List Value} {nt : Nat} {news : List (Addr × Obj)} {Inv : Nat → List Value → List (Addr × Obj) → Prop} (hLe : env.locals = L)
    (hsw : swapsWith (.ListComp elt [⟨.Name x px, iter, [], 0⟩] scope pos) (some (.Name y py)) spos.line env = pure true)
    (hclos : closureFor scope env = pure []) (hx0 : (x == (".0" : Str)) = false) (hnm : scope.names = [((".0" : Str), .local), (x, .cell)]) (hkind : scope.kind = .function)
    (hy : env.kindOf y = some .local) (hp : (env.scope.kind == .class || (env.scope.kind == .module && env.locals != env.globals)) = false) (hh : A.handled = none)
    (F : Fr h₀ L s.heap m) (N : News h₀ L s.heap news) (hz : its.length ≤ 100)
    (hiter : ∀ Q' : Value → Shared → Prop, Q' (.ref lt) s → wpAny (model prog w) A (eval iter env) Q' E s)
    (hS : ∀ i ys nw, Inv i ys nw → (lt, (listOf its.toArray nt : Obj)) ∈ nw) (h0 : Inv 0 [] news)
    (step : ∀ i v ys nw I oI C oC D ce oce h tk (E' : Value → Shared → Prop), its[i]? = some v → i < its.length → ys.length = i → Inv i ys nw → oce.data = .cell (some v) → Fr h₀ L h m → News h₀ L h ((I, oI) :: (C, oC) :: (D, lstO ys) :: (ce, oce) :: nw) → Off4 I C D ce nw →
      wpAny (model prog w) A (eval elt (compEnvC scope [(x, ce)] C env)) (fun y s₃ => ∃ h' tk' nw', s₃ = { s with heap := h', toks := tk' } ∧ Fr h₀ L h' m ∧ News h₀ L h' ((I, oI) :: (C, oC) :: (D, lstO ys) :: (ce, oce) :: nw') ∧ Off4 I C D ce nw' ∧ Inv (i + 1) (ys ++ [y]) nw') E' { s with heap := h, toks := tk })
    (done : ∀ D h tk ys nw, Inv its.length ys nw → Fr h₀ L h (fun z => if z = y then some (.ref D) else m z) → News h₀ L h ((D, lstO ys) :: nw) → (∀ p ∈ nw, p.1 ≠ D) → Q .next { s with heap := h, toks := tk })
    (hs : ∀ x, foldedSetIterable iter env x = pure x := by intro _; rfl) :
    wpAny (model prog w) A (exec (.Assign [.Name y py] (.ListComp elt [⟨.Name x px, iter, [], 0⟩] scope pos) spos) env) Q E s := by
  subst hLe
  rw [exec_Assign_Name_used _ _ _ _ hsw]
  refine wpAny_bind (wpAny_standAt (wpAny_bind ?_))
  show wpAny _ A (do let _ ← comprehension (.ListComp elt [⟨.Name x px, iter, [], 0⟩] scope pos) scope env _ (newList []) false (eval iter env) (some (assign (.Name y py) env))) _ _ s
  have hnames : ∀ z ∈ scope.names, z.2 = .local → scope.names.lookup z.1 = some .local := by
    intro z hz' hl
    rw [hnm] at hz' ⊢
    simp only [List.mem_cons, List.not_mem_nil, or_false] at hz'
    rcases hz' with rfl | rfl
    · simp [List.lookup]
    · cases hl
  refine wpAny_bind (wpAny_mono (wpAny_comprehension_free (use := some (assign (.Name y py) env)) (Q := fun _ s' => Q .next s') rfl hs hclos hkind hnames (hiter _ ?_)) (fun _ s' hq => wpAny_pure (wpAny_pure hq)) fun _ _ e => e)
  have hl : s.heap.IsList lt its.toArray := PySem.IsL.isList (n := nt) (N _ (hS _ _ _ h0)).1
  have hlt : lt < s.heap.objs.size := by obtain ⟨_, e, _⟩ := hl; exact Heap.lt_size e
  refine wpAny_pyIter_list hl ?_
  have up : ∀ b o, s.heap.get? b = some o → (s.heap.push { cls := .type "list_iterator", data := .fields #[.ref lt, .int 0 0] }).get? b = some o := fun b o e => Heap.get?_push_of_some _ e
  have W := Walks.list (prog := prog) (w := w) (A := A) hh s.heap.objs.size lt (Nat.ne_of_lt hlt) its.toArray
  have eW : its.toArray.size = its.length := List.size_toArray ..
  rw [eW] at W
  refine block_cell (Inv := Inv) (S := fun nw => (lt, (listOf its.toArray nt : Obj)) ∈ nw) W hz (fun i h st => by obtain ⟨o, e, _⟩ := st.1; exact ⟨o, e⟩)
    (fun i h h' o nw st e e' k N S => ⟨by obtain ⟨o', q, r⟩ := st.1; rw [e] at q; cases q; exact ⟨o, e', r⟩, PySem.IsL.isList (n := nt) (N _ S).1⟩) hx0 hnm hkind ⟨⟨_, Heap.get?_push_size _ rfl, rfl, rfl⟩, hl.push _⟩ (fun b hb => ?_)
    (F.keeps up) (N.grown up) (Nat.ne_of_lt F.ns.lt) (next_is_new F) (fun p hp => Nat.ne_of_lt (Heap.lt_size (N p hp).1)) hS h0
    (fun i v ys nw oI C oC D ce oce h tk E' hP hi => step i v ys nw _ oI C oC D ce oce h tk E' (by simpa using hP) hi) ?_
  · show b < (s.heap.push _).objs.size
    rw [Heap.size_push]
    rcases List.mem_cons.mp hb with rfl | hb
    · exact Nat.lt_succ_self _
    · rw [List.mem_singleton.mp hb]; exact Nat.lt_succ_of_lt hlt
  · intro D C h' tk m' ys nw F' N' offD hn hC₀ hD₀ hCL hDL hCD offC hI
    show wpAny _ A (assign (.Name y py) env (.ref D)) _ _ _
    refine wpAny_assign_Name (wpAny_storeName_local hy F'.ns (fun h₂ hn₂ hs₂ => ?_) hp)
    have hL₀ : h₀.get? env.locals = none := Heap.get?_none_of_le F'.above
    have F₂ : Fr h₀ env.locals h₂ (fun z => if z = y then some (.ref D) else m z) := ⟨hn₂, fun b o e => hs₂.extBut b o (fun q => by rw [q, hL₀] at e; cases e) (F'.keep b o e), F'.above⟩
    refine ⟨m', hn.sameBut hs₂ hCL, fun h'' hs'' => done D h'' _ ys nw hI (F₂.change hs'' hCL hC₀) (fun p hp => ?_) offD⟩
    have z : h₂.get? p.1 = some p.2 := hs₂.extBut _ _ (N' p hp).2.1 (N' p hp).1
    refine ⟨hs''.extBut _ _ ?_ z, (N' p hp).2⟩
    rcases List.mem_cons.mp hp with rfl | hp
    · exact Ne.symm hCD
    · exact offC p hp
def TSrc (prog : Program) (w : World) (A : Around) (h₀ : Heap) (L : Addr) (m : Str → Option Value) (env : Env) (elt : Expr) (x : Str) (scope : Scope) (cl : List (Str × Addr)) (Q : Value → Shared → Prop) (xv : Value) (s₁ : Shared) : Prop :=
  ∃ ax its nn news, xv = .ref ax ∧ Fr h₀ L s₁.heap m ∧ News h₀ L s₁.heap news ∧ (ax, ({ cls := .type "tuple", data := .seq its nn } : Obj)) ∈ news ∧ its.size ≤ 100 ∧
      ∀ g, LCg.CompRest prog w A h₀ L m env elt x scope cl { s₁ with heap := g } (fun nw => (ax, ({ cls := .type "tuple", data := .seq its nn } : Obj)) ∈ nw) (fun i v => its[i]? = some v) (LCg.FinE h₀ L m { s₁ with heap := g } Q) its.size 0 [] news
/-- a block over a tuple of the ledger, turn by turn (the library's CompRest) -/
theorem ListComp_T {elt iter : Expr} {x : Str} {px : Pos} {scope : Scope} {cl : List (Str × Addr)} {pos : Pos} {Q : Value → Shared → Prop} (F₀ : Fr h₀ L s.heap m)
    (hclos : closureFor scope env = pure cl) (hcell : ∀ y ∈ scope.names, y.2 ≠ .cell) (hkind : scope.kind = .function)
    (hnames : ∀ y ∈ scope.names, y.2 = .local → scope.names.lookup y.1 = some .local) (hx : scope.names.lookup x = some .local) (hh : A.handled = none)
    (h : wpAny (model prog w) A (eval iter env) (TSrc prog w A h₀ L m env elt x scope cl Q) E s)
    (hs : ∀ x, foldedSetIterable iter env x = pure x := by intro _; rfl) :
    wpAny (model prog w) A (eval (.ListComp elt [⟨.Name x px, iter, [], 0⟩] scope pos) env) Q E s := by
  rw [eval_ListComp]
  refine wpAny_comprehension_free (use := none) rfl hs hclos hkind hnames (wpAny_mono h (fun xv s₁ h₁ => ?_) fun _ _ e => e)
  obtain ⟨ax, its, nn, news, rfl, F, N, hm, hz, R⟩ := h₁
  have hl : s₁.heap.IsTuple ax its := ⟨_, (N _ hm).1, rfl, nn, rfl⟩
  have hlt : ax < s₁.heap.objs.size := Heap.lt_size (N _ hm).1
  refine wpAny_pyIter_tuple hl ?_
  have up : ∀ b o, s₁.heap.get? b = some o → (s₁.heap.push { cls := .type "tuple_iterator", data := .fields #[.ref ax, .int 0 0] }).get? b = some o := fun b o e => Heap.get?_push_of_some _ e
  refine LCg.block_U (S := fun nw => (ax, ({ cls := .type "tuple", data := .seq its nn } : Obj)) ∈ nw) (Walks.tuple hh s₁.heap.objs.size ax (Nat.ne_of_lt hlt) its) (by rw [sizeLine_eq]; omega) (fun i h st => by obtain ⟨o, e, _⟩ := st.1; exact ⟨o, e⟩)
    (fun i h h' o nw st e e' k N S => ⟨by obtain ⟨o', q, r⟩ := st.1; rw [e] at q; cases q; exact ⟨o, e', r⟩, ⟨_, (N _ S).1, rfl, nn, rfl⟩⟩) hcell hkind hx
    ⟨⟨_, Heap.get?_push_size _ rfl, rfl, rfl⟩, ⟨_, up _ _ (N _ hm).1, rfl, nn, rfl⟩⟩ (fun b hb => ?_)
    (F.keeps up) (N.grown up) (Nat.ne_of_lt F.ns.lt) (next_is_new F) (fun p hp => Nat.ne_of_lt (Heap.lt_size (N p hp).1)) hm (R _) ?_
  · show b < (s₁.heap.push _).objs.size
    rw [Heap.size_push]
    rcases List.mem_cons.mp hb with rfl | hb
    · exact Nat.lt_succ_self _
    · rw [List.mem_singleton.mp hb]; exact Nat.lt_succ_of_lt hlt
  · intro D C h tk m' ys news' F' N' o1 hn hC₀ hD₀ hCL hDL hCD offC fin
    refine ⟨m', hn, fun h'' hs'' => fin D h'' tk (F'.change hs'' hCL hC₀) (fun p hp => ?_) o1⟩
    refine ⟨hs''.extBut _ _ ?_ (N' p hp).1, (N' p hp).2⟩
    rcases List.mem_cons.mp hp with rfl | hp
    · exact Ne.symm hCD
    · exact offC p hp
end
theorem off_10 : True := by
  w_top off
  trivial
theorem GraphIn.ne {news : List (Addr × Obj)} {As : List Adr} {G : List Nd} {D : Addr} (g : GraphIn news As G) (hD : ∀ q ∈ news, q.1 ≠ D) : ∀ a ∈ As, ¬ a.has D := fun a ha hh => by
  obtain ⟨i, hi⟩ := List.getElem?_of_mem ha
  obtain ⟨hx, hd, hf⟩ := g.node i a hi
  have hlt : i < G.length := by rw [← g.len]; exact (List.getElem?_eq_some_iff.mp hi).1
  obtain ⟨_, _, _, _, hv, _⟩ := g.vals i a G[i] hi (by simp [hlt])
  rcases hh with e | e | e | e
  · exact hD _ hx e.symm
  · exact hD _ hd e.symm
  · exact hD _ hf e.symm
  · exact hD _ hv e.symm
/-- the way back: from b, the things whose turned link leads on -/
inductive Chain (G : List Nd) : Nat → List Nat → Prop
  | nil : Chain G 0 []
  | l {b : Nat} {g : Nd} {st : List Nat} : b ≠ 0 → G[b - 1]? = some g → g.m = 1 → Chain G g.l st → Chain G b (b :: st)
  | r {b : Nat} {g : Nd} {st : List Nat} : b ≠ 0 → G[b - 1]? = some g → g.m = 2 → Chain G g.r st → Chain G b (b :: st)
theorem Chain.inv {G : List Nd} {b : Nat} {st : List Nat} (h : Chain G b st) : (b = 0 ∧ st = []) ∨ (∃ g st', b ≠ 0 ∧ st = b :: st' ∧ G[b - 1]? = some g ∧ ((g.m = 1 ∧ Chain G g.l st') ∨ (g.m = 2 ∧ Chain G g.r st'))) := by
  cases h with
  | nil => exact .inl ⟨rfl, rfl⟩
  | l h0 hg hm hc => exact .inr ⟨_, _, h0, rfl, hg, .inl ⟨hm, hc⟩⟩
  | r h0 hg hm hc => exact .inr ⟨_, _, h0, rfl, hg, .inr ⟨hm, hc⟩⟩
def turned (G : List Nd) (b h : Nat) (p : Nat × Nat) : Nat × Nat := match G[b - 1]? with
  | some g => if g.m = 1 then (h, p.2) else (p.1, h)
  | none => p
def dec (G : List Nd) : List (Nat × Nat) → Nat → List Nat → List (Nat × Nat)
  | fs, _, [] => fs
  | fs, h, b :: st => dec G (fs.set (b - 1) (turned G b h (fs.getD (b - 1) (0, 0)))) b st
abbrev linksOf (G : List Nd) : List (Nat × Nat) := G.map fun g => (g.l, g.r)
theorem dec_l {G : List Nd} {fs : List (Nat × Nat)} {h b : Nat} {st : List Nat} {g : Nd} {p : Nat × Nat} (hg : G[b - 1]? = some g) (hm : g.m = 1) (hp : fs[b - 1]? = some p) : dec G fs h (b :: st) = dec G (fs.set (b - 1) (h, p.2)) b st := by
  rw [dec]
  unfold turned
  rw [hg]
  dsimp only
  rw [if_pos hm, List.getD_eq_getElem?_getD, hp]
  rfl
theorem dec_r {G : List Nd} {fs : List (Nat × Nat)} {h b : Nat} {st : List Nat} {g : Nd} {p : Nat × Nat} (hg : G[b - 1]? = some g) (hm : g.m = 2) (hp : fs[b - 1]? = some p) : dec G fs h (b :: st) = dec G (fs.set (b - 1) (p.1, h)) b st := by
  rw [dec]
  unfold turned
  rw [hg]
  dsimp only
  rw [if_neg (by omega), List.getD_eq_getElem?_getD, hp]
  rfl
structure FoundIn (nw : List (Addr × Obj)) (ls : List Addr) (fs : List (Nat × Nat)) : Prop where
  len : ls.length = fs.length
  at' : ∀ (j : Nat) a p, ls[j]? = some a → fs[j]? = some p → ∃ t1 t2 n, (a, listOf #[.int (p.1 : Int) t1, .int (p.2 : Int) t2] n) ∈ nw
theorem FoundIn.mono {nw nw' : List (Addr × Obj)} {ls : List Addr} {fs : List (Nat × Nat)} (h : FoundIn nw ls fs) (hs : ∀ q ∈ nw, q.1 ∈ ls → q ∈ nw') : FoundIn nw' ls fs where
  len := h.len
  at' := fun j a p ha hp => by
    obtain ⟨t1, t2, n, hm⟩ := h.at' j a p ha hp
    exact ⟨t1, t2, n, hs _ hm (mem_of_get ha)⟩
theorem FoundIn.snoc {nw nw' : List (Addr × Obj)} {ls : List Addr} {fs : List (Nat × Nat)} {a : Addr} {p : Nat × Nat} {t1 t2 : Tok} {n : Nat} (h : FoundIn nw ls fs) (hs : ∀ q ∈ nw, q ∈ nw') (hm : (a, listOf #[.int (p.1 : Int) t1, .int (p.2 : Int) t2] n) ∈ nw') : FoundIn nw' (ls ++ [a]) (fs ++ [p]) where
  len := by rw [List.length_append, List.length_append, h.len]; rfl
  at' := fun j b q hb hq => by
    by_cases hj : j < ls.length
    · rw [List.getElem?_append_left hj] at hb
      rw [List.getElem?_append_left (by rw [← h.len]; exact hj)] at hq
      obtain ⟨u1, u2, k, hk⟩ := h.at' j b q hb hq
      exact ⟨u1, u2, k, hs _ hk⟩
    · rw [List.getElem?_append_right (Nat.le_of_not_lt hj)] at hb
      rw [List.getElem?_append_right (by rw [← h.len]; exact Nat.le_of_not_lt hj)] at hq
      have e : j - ls.length = 0 := by
        cases e : j - ls.length with
        | zero => rfl
        | succ k => rw [e] at hb; simp at hb
      rw [e] at hb
      rw [← h.len, e] at hq
      cases hb
      cases hq
      exact ⟨t1, t2, n, hm⟩
theorem nodupInj {α : Type} {l : List α} {i j : Nat} {a : α} (hn : l.Nodup) (h1 : l[i]? = some a) (h2 : l[j]? = some a) : i = j := by
  obtain ⟨hi, e1⟩ := List.getElem?_eq_some_iff.mp h1
  obtain ⟨hj, e2⟩ := List.getElem?_eq_some_iff.mp h2
  rcases Nat.lt_trichotomy i j with h | h | h
  · exact absurd (e1.trans e2.symm) (List.pairwise_iff_getElem.mp hn i j hi hj h)
  · exact h
  · exact absurd (e2.trans e1.symm) (List.pairwise_iff_getElem.mp hn j i hj hi h)
theorem FoundIn.put {nw nw' : List (Addr × Obj)} {ls : List Addr} {fs : List (Nat × Nat)} {j : Nat} {a : Addr} {p : Nat × Nat} {t1 t2 : Tok} {n : Nat} (h : FoundIn nw ls fs) (hn : ls.Nodup) (ha : ls[j]? = some a)
    (hm : (a, listOf #[.int (p.1 : Int) t1, .int (p.2 : Int) t2] n) ∈ nw') (hs : ∀ q ∈ nw, q.1 ≠ a → q ∈ nw') : FoundIn nw' ls (fs.set j p) where
  len := by rw [List.length_set]; exact h.len
  at' := fun i b q hb hq => by
    by_cases e : i = j
    · subst e
      rw [ha] at hb
      cases hb
      have hj : i < fs.length := by rw [← h.len]; exact (List.getElem?_eq_some_iff.mp ha).1
      rw [List.getElem?_set_self hj] at hq
      cases hq
      exact ⟨t1, t2, n, hm⟩
    · rw [List.getElem?_set_ne (Ne.symm e)] at hq
      obtain ⟨u1, u2, k, hk⟩ := h.at' i b q hb hq
      refine ⟨u1, u2, k, hs _ hk fun q => e ?_⟩
      have q' : b = a := q
      exact nodupInj hn (q' ▸ hb) ha
theorem frThree {h₀ h : Heap} {L : Addr} {m : Str → Option Value} {x y z : Str} {u v w : Value} (F : Fr h₀ L h m) (hx : m x = some u) (hy : m y = some v) (hz : m z = some w) : Fr h₀ L h (fun k => if k = x then some u else if k = y then some v else if k = z then some w else m k) := by
  have e : (fun k => if k = x then some u else if k = y then some v else if k = z then some w else m k) = m := by
    funext k
    by_cases h1 : k = x
    · rw [if_pos h1, h1, hx]
    · rw [if_neg h1]
      by_cases h2 : k = y
      · rw [if_pos h2, h2, hy]
      · rw [if_neg h2]
        by_cases h3 : k = z
        · rw [if_pos h3, h3, hz]
        · rw [if_neg h3]
  rw [e]; exact F
section
variable {prog : Program} {w : World} {A : Around} {E : Value → Shared → Prop} {s : Shared} {h₀ : Heap} {L D : Addr} {m : Str → Option Value} {news : List (Addr × Obj)} {n : Nat}
theorem my_setA {a b v : Value} {k : Int} {t : Tok} {Q : Unit → Shared → Prop} (F : Fr h₀ L s.heap m) (N : News h₀ L s.heap news) (hm : (D, listOf #[a, b] n) ∈ news) (hk : k = 0)
    (h : ∀ h', Fr h₀ L h' m → News h₀ L h' (setL D (listOf #[v, b] n) news) → Q () { s with heap := h' }) : wpAny (model prog w) A (setItem (.ref D) (.int k t) v) Q E s := by
  subst hk
  exact my_setItem F N hm (by decide) (by decide) (by simp) h
theorem my_setB {a b v : Value} {k : Int} {t : Tok} {Q : Unit → Shared → Prop} (F : Fr h₀ L s.heap m) (N : News h₀ L s.heap news) (hm : (D, listOf #[a, b] n) ∈ news) (hk : k = 1)
    (h : ∀ h', Fr h₀ L h' m → News h₀ L h' (setL D (listOf #[a, v] n) news) → Q () { s with heap := h' }) : wpAny (model prog w) A (setItem (.ref D) (.int k t) v) Q E s := by
  subst hk
  exact my_setItem F N hm (by decide) (by decide) (by simp) h
end
theorem off1_mem {D : Addr} : ∀ {l : List (Addr × Obj)}, LCg.Off1 D l → ∀ p ∈ l, p.1 ≠ D
  | [], _, _, h => nomatch h
  | _ :: _, x, p, h => by
    rcases List.mem_cons.mp h with rfl | h
    · exact x.1
    · exact off1_mem x.2 p h
theorem take_next {α : Type} {l : List α} {i : Nat} {a : α} (h : l[i]? = some a) : l.take (i + 1) = l.take i ++ [a] := by rw [List.take_add_one, h]; rfl
theorem nodup_snoc {α : Type} {l : List α} {a : α} (h : l.Nodup) (ha : ∀ b ∈ l, b ≠ a) : (l ++ [a]).Nodup := by
  rw [List.nodup_append]
  exact ⟨h, List.nodup_cons.mpr ⟨List.not_mem_nil, List.nodup_nil⟩, fun b hb c hc e => ha b hb (by rw [e]; exact List.mem_singleton.mp hc)⟩
local macro_rules | `(tactic| tb_rel) => `(tactic| repeat' ((fail_if_success (with_reducible show wpAny _ _ (exec (Stmt.While _ _ _ _) _) _ _ _)); (fail_if_success (with_reducible show wpAny _ _ (exec (Stmt.For _ _ _ _ _) _) _ _ _)); (fail_if_success (with_reducible show wpAny _ _ (exec (Stmt.Assign _ (Expr.ListComp _ _ _ _) _) _) _ _ _)); first | (k_unfold; (try dsimp only)) | (k_end; wrow_close) | walk1 | (dsimp only; walk1) | (leave1; try dsimp only) | fail "no step"))
local macro_rules | `(tactic| walk_at "subscriptTail") => `(tactic| (k_here; (with_reducible show wpAny _ _ (subscriptTail _ _ (Value.ref _) (Value.int _ _)) _ _ _); k_dflt (refine' my_item ?k1 ?k2 ?k3 ?k4 ?k5 ?_ ?k6; (case k1 => k_asm); (case k2 => k_mem); (case k5 => with_reducible assumption); (case k3 => omega); (case k4 => omega); (case k6 => with_unfolding_all rfl); k_whole)))
local macro_rules | `(tactic| walk_at "setItem ref int") => `(tactic| (k_here; (with_reducible show wpAny _ _ (setItem (Value.ref _) (Value.int (1 - 1) _) _) _ _ _); k_dflt (refine' my_setA ?k1 ?k2 ?k3 ?k4 ?_; (case k1 => k_asm); (case k2 => k_asm); (case k3 => k_mem); (case k4 => decide); k_whole); intro h' F' N'))
local macro_rules | `(tactic| walk_at "setItem ref int") => `(tactic| (k_here; (with_reducible show wpAny _ _ (setItem (Value.ref _) (Value.int (2 - 1) _) _) _ _ _); k_dflt (refine' my_setB ?k1 ?k2 ?k3 ?k4 ?_; (case k1 => k_asm); (case k2 => k_asm); (case k3 => k_mem); (case k4 => decide); k_whole); intro h' F' N'))
theorem off_11 : True := by
  w_top off
  trivial
section
set_option maxHeartbeats 4000000 in
theorem num_call {w : World} {dp un : Nat} {gd : Option (List Code)} {cn : Str} {cs : Scope} {a : Addr} {ccd : Value} {cl : List (Str × Addr)} {outer : List Env} {A₀ : Around} {base h₀ : Heap} {L : Addr} {m : Str → Option Value}
    {news : List (Addr × Obj)} {s : Shared} {Q E : Value → Shared → Prop} {p : Program} {loose : List Str} {mean : ExcName → Option Value} {mg mb : Str → Option Value}
    {vh : Value} {k : Nat} {As : List Adr} {G : List Nd}
    (B : Below A₀ base outer h₀) (F : Fr h₀ L s.heap m) (X : (fr.heap_1 w.params).In h₀) (N : News h₀ L s.heap news) (T : Top p loose mean mg mb h₀) (hk : cs.kind = .function)
    (hdp : dp < 450) (hun : un < 5000) (hl : LinkV As vh k) (GI : GraphIn news As G)
    (ret : ∀ h' tk' t, Fr h₀ L h' m → News h₀ L h' news → Q (.int (k : Int) t) { s with heap := h', toks := tk' }) :
    wpAny (model PySem.Challenge.rw_xm0934_01.row.prog w) (ktrTop dp un gd cn cs L a ccd cl outer) (call (.ref 331) [vh]) Q E s := by
  revert X; k_fill; intro X
  rcases hl with ⟨rfl, t, rfl⟩ | ⟨a1, k0, hA, rfl⟩
  · refine wpAny_call ?_
    k_dflt ktr_enter
    tb_start
    exact ret _ _ _ (by k_asm) (by k_asm)
  · obtain ⟨hx, hdd, hf⟩ := GI.node _ _ hA
    have ek9 : (((k - 1 : Nat) : Int) + 1) = (k : Int) := by omega
    rw [ek9] at hdd
    refine wpAny_call ?_
    k_dflt ktr_enter
    tb_start
    exact ret _ _ _ (by k_asm) (by k_asm)
end
local macro_rules | `(tactic| walk_at "call ref") => `(tactic| (k_here; (with_reducible show wpAny _ _ (call (Value.ref 331) [_]) _ _ _); k_dflt (refine' num_call ?k1 ?k2 ?k3 ?k4 ?k5 ?k6 ?k7 ?k8 ?k9 ?k10 ?_; (case k1 => k_asm); (case k2 => k_asm); (case k3 => k_asm); (case k4 => k_asm); (case k5 => k_asm); (case k6 => exact rfl); (case k9 => assumption); (case k10 => (refine' GraphIn.mono (by assumption) ?gm; (case gm => (intro q9 hq9 _; repeat (first | exact hq9 | exact List.mem_cons_of_mem _ hq9 | refine List.mem_cons_of_mem _ ?_))))); (case k7 => ktr_rel); (case k8 => ktr_rel); k_whole); intro h' tk' t' F' N'))
theorem off_12 : True := by
  w_top off
  trivial
section
set_option maxHeartbeats 8000000 in
theorem links_call {w : World} {dp un : Nat} {gd : Option (List Code)} {cn : Str} {cs : Scope} {a : Addr} {ccd : Value} {cl : List (Str × Addr)} {outer : List Env} {A₀ : Around} {base h₀ : Heap} {L : Addr} {m : Str → Option Value}
    {news : List (Addr × Obj)} {s : Shared} {Q E : Value → Shared → Prop} {p : Program} {loose : List Str} {mean : ExcName → Option Value} {mg mb : Str → Option Value}
    {vh vb : Value} {kh kb lt nt : Nat} {As : List Adr} {G : List Nd} {st : List Nat}
    (B : Below A₀ base outer h₀) (F : Fr h₀ L s.heap m) (X : (fr.heap_1 w.params).In h₀) (N : News h₀ L s.heap news) (T : Top p loose mean mg mb h₀) (hk : cs.kind = .function)
    (hdp : dp < 440) (hun : un < 4000) (GI : GraphIn news As G) (AP : Apart As) (hAs : As.length ≤ 4) (hlt : (lt, listOf (As.map fun a => Value.ref a.x).toArray nt) ∈ news) (hh : LinkV As vh kh) (hb : LinkV As vb kb) (hst : Chain G kb st)
    (ret : ∀ h' tk' news' D c ls, Fr h₀ L h' m → News h₀ L h' news' → (D, listOf (ls.map Value.ref).toArray c) ∈ news' → FoundIn news' ls (dec G (linksOf G) kh st) → (∀ q ∈ news, q ∈ news') → Q (.ref D) { s with heap := h', toks := tk' }) :
    wpAny (model PySem.Challenge.rw_xm0934_01.row.prog w) (ktrTop dp un gd cn cs L a ccd cl outer) (call (.ref 336) [.ref lt, vh, vb]) Q E s := by
  revert X; k_fill; intro X
  refine wpAny_call ?_
  k_dflt ktr_enter
  tb_rel
  rename_i g1 L1 h1 FG1 F9 N9 B1 X1 T1
  refine Assign_cell (lt := lt) (its := As.map fun a => Value.ref a.x) (nt := nt) (Inv := fun i ys nw => ∃ ls : List Addr, ys = ls.map Value.ref ∧ FoundIn nw ls ((linksOf G).take i) ∧ (∀ q ∈ news, q ∈ nw) ∧ (∀ a ∈ ls, ∀ q ∈ news, q.1 ≠ a) ∧ ls.Nodup) rfl (by with_unfolding_all rfl) (by with_unfolding_all rfl) (by decide) rfl rfl rfl rfl rfl F9 N9 (by rw [List.length_map]; omega)
    (fun Q' hq => ld F9 rfl hq) (fun i ys nw ⟨_, _, _, e3, _⟩ => e3 _ hlt) ⟨[], rfl, ⟨rfl, fun j a p ha => by simp at ha⟩, fun q hq => hq, (fun a ha => nomatch ha), List.nodup_nil⟩ ?_ ?_
  · intro i v ys nw I oI C oC D ce oce h tk E' hv hi hy hinv hce F' N' off
    obtain ⟨ls, rfl, hfd, hkp, hfr, hnd⟩ := hinv
    rw [List.length_map] at hi
    rw [List.getElem?_map] at hv
    obtain ⟨a1, hA, rfl⟩ := Option.map_eq_some_iff.mp hv
    clear hv
    have hGi : i < G.length := by rw [← GI.len]; exact hi
    have hg : G[i]? = some G[i] := by simp [hGi]
    obtain ⟨v0, v1, t2, n2, hv, hl0, hl1⟩ := GI.vals _ _ _ hA hg
    obtain ⟨hx, hdd, hf⟩ := GI.node _ _ hA
    replace hv := hkp _ hv
    replace hx := hkp _ hx
    replace hdd := hkp _ hdd
    replace hf := hkp _ hf
    have GI' : GraphIn nw As G := GI.mono fun q hq _ => hkp q hq
    have F2 : Fr g1 L1 h _ := F'
    have N2 : News g1 L1 h _ := N'
    clear F' N' F9 N9
    refine ListComp_T (cl := [("thing", ce)]) F2 (by with_unfolding_all rfl) (by decide) rfl (by decide) rfl rfl ?_
    k_steps
    rename_i Dt hh7 F7 N7 l7
    refine ⟨_, _, _, _, rfl, by k_asm, by k_asm, List.Mem.head _, by simp, fun g => ?_⟩
    refine LCg.CompRest.succ ?_
    intro v I2 oI2 C2 oC2 D2 m2 h2 tk2 E2 hP hNs hm2 F3 N3 off3 ne3
    obtain rfl : Value.str "L" _ = v := Option.some.inj hP
    clear hP
    k_steps
    refine LCg.CompEnd.intro (by k_asm) (by k_asm) _ (fun p hp => hp) off3 (List.Mem.head _) ?_
    refine LCg.CompRest.succ ?_
    clear F3 N3 off3 ne3 hNs hm2
    intro v I3 oI3 C3 oC3 D3 m3 h3 tk3 E3 hP hNs hm3 F3 N3 off3 ne3
    obtain rfl : Value.str "R" _ = v := Option.some.inj hP
    clear hP
    k_steps
    refine LCg.CompEnd.intro (by k_asm) (by k_asm) _ (fun p hp => hp) off3 (List.Mem.head _) ?_
    refine LCg.CompRest.zero ?_
    clear F3 N3 off3 ne3 hNs hm3
    intro D4 h4 tk4 F4 N4 o4
    obtain ⟨_, oI4, oC4, oD4, oce4, onw4⟩ := o4
    obtain ⟨o9, ⟨ta, tb, rfl⟩, N9'⟩ : ∃ o9 : Obj, (∃ ta tb : Tok, o9 = listOf #[.int (G[i].l : Int) ta, .int (G[i].r : Int) tb] 2) ∧ News g1 L1 h4 ((D4, o9) :: (Dt, { cls := .type "tuple", data := .seq #[Value.str "L" tk, Value.str "R" (tk + 1)] }) :: (I, oI) :: (C, oC) :: (D, lstO (List.map Value.ref ls)) :: (ce, oce) :: nw) := ⟨_, ⟨_, _, rfl⟩, N4⟩
    have onw := off1_mem onw4
    have hlk : (linksOf G)[i]? = some (G[i].l, G[i].r) := by rw [List.getElem?_map, hg]; rfl
    refine ⟨h4, tk4, (D4, listOf #[.int (G[i].l : Int) ta, .int (G[i].r : Int) tb] 2) :: nw, rfl, F4, newsSub N9' (fun p hp => ?_), ?_, ls ++ [D4], by simp, ?_, fun q hq => List.mem_cons_of_mem _ (hkp q hq), ?_, ?_⟩
    · simp only [List.mem_cons] at hp ⊢
      rcases hp with h | h | h | h | h | h
      · exact .inr (.inr (.inl h))
      · exact .inr (.inr (.inr (.inl h)))
      · exact .inr (.inr (.inr (.inr (.inl h))))
      · exact .inr (.inr (.inr (.inr (.inr (.inl h)))))
      · exact .inl h
      · exact .inr (.inr (.inr (.inr (.inr (.inr h)))))
    · intro p hp
      rcases List.mem_cons.mp hp with rfl | hp
      · exact ⟨Ne.symm oI4, Ne.symm oC4, Ne.symm oD4, Ne.symm oce4⟩
      · exact off p hp
    · rw [take_next hlk]
      exact hfd.snoc (fun q hq => List.mem_cons_of_mem _ hq) (List.Mem.head _)
    · intro a ha q hq
      rcases List.mem_append.mp ha with ha | ha
      · exact hfr a ha q hq
      · rw [List.mem_singleton.mp ha]; exact onw q (hkp q hq)
    · refine nodup_snoc hnd fun b hb => ?_
      obtain ⟨j, hj⟩ := List.getElem?_of_mem hb
      have hjl : j < ((linksOf G).take i).length := by rw [← hfd.len]; exact (List.getElem?_eq_some_iff.mp hj).1
      obtain ⟨_, _, _, hm⟩ := hfd.at' j b _ hj (List.getElem?_eq_getElem hjl)
      exact onw _ hm
  · intro D h2 tk2 ys nw hinv F' N' offD
    obtain ⟨ls, rfl, hfd, hkp, hfr, hnd⟩ := hinv
    have F2 : Fr g1 L1 h2 _ := F'
    have N2 : News g1 L1 h2 _ := N'
    clear F' N' F9 N9
    rw [List.take_of_length_le (by rw [List.length_map, List.length_map, GI.len]; exact Nat.le_refl _)] at hfd
    tb_rel
    have hlsl : ls.length = As.length := by rw [hfd.len, List.length_map, GI.len]
    refine While_inv2 (fun k m₁ news₁ => ∃ fs st' h9 b9 vh' vb', m₁ "found" = some (.ref D) ∧ m₁ "here" = some vh' ∧ m₁ "back" = some vb' ∧ LinkV As vh' h9 ∧ LinkV As vb' b9 ∧ Chain G b9 st' ∧ dec G fs h9 st' = dec G (linksOf G) kh st ∧ FoundIn news₁ ls fs ∧ k = st'.length ∧
      (∀ q ∈ news, q ∈ news₁) ∧ (D, lstO (ls.map Value.ref)) ∈ news₁) F2 N2 ⟨_, st, kh, kb, vh, vb, rfl, rfl, rfl, hh, hb, hst, rfl, hfd.mono (fun q hq _ => .tail _ hq), rfl, fun q hq => .tail _ (hkp q hq), .head _⟩ ?_ ?_
    · clear F2 N2
      rintro k m₁ news₁ h₁ tk₁ F₁ N₁ ⟨fs, st', h9, b9, vh', vb', hf1, hf2, hf3, hlh, hlb, hch, hdec, hfd1, hk9, hkp1, hD1⟩
      have F₂ := frThree F₁ hf1 hf2 hf3
      clear F₁
      have GI1 : GraphIn news₁ As G := GI.mono fun q hq _ => hkp1 q hq
      rcases hch.inv with ⟨rfl, rfl⟩ | ⟨g, st'', hb0, rfl, hg, ⟨hm, hch'⟩ | ⟨hm, hch'⟩⟩
      · rcases hlb with ⟨_, t, rfl⟩ | ⟨_, hz, _⟩
        · tb_start
          have hfs : fs = dec G (linksOf G) kh st := hdec
          exact ret _ _ news₁ D _ ls (by k_asm) (by k_asm) hD1 (hfs ▸ hfd1) hkp1
        · exact absurd rfl hz
      · rcases hlb with ⟨hz, _⟩ | ⟨a1, _, hA, rfl⟩
        · exact absurd hz hb0
        have hAm := mem_of_get hA
        obtain ⟨v0, v1, t2, n2, hv, hl0, hl1⟩ := GI1.vals _ _ _ hA hg
        obtain ⟨hx, hdd, hf⟩ := GI1.node _ _ hA
        have ek9 : (((b9 - 1 : Nat) : Int) + 1) = (b9 : Int) := by omega
        rw [ek9] at hdd
        have hm9 : ((g.m : Nat) : Int) = 1 := by omega
        rw [hm9] at hv
        have hbl : b9 - 1 < ls.length := by rw [hlsl]; exact (List.getElem?_eq_some_iff.mp hA).1
        obtain ⟨lb, hlb'⟩ : ∃ lb, ls[b9 - 1]? = some lb := ⟨_, List.getElem?_eq_getElem hbl⟩
        have hix : (List.map Value.ref ls).toArray[((b9 : Int) - 1).toNat]? = some (.ref lb) := by
          rw [show ((b9 : Int) - 1).toNat = b9 - 1 by omega]
          simp [hlb']
        obtain ⟨p9, hp9⟩ : ∃ p9, fs[b9 - 1]? = some p9 := ⟨_, List.getElem?_eq_getElem (by rw [← hfd1.len]; exact hbl)⟩
        obtain ⟨u1, u2, n3, hit⟩ := hfd1.at' _ _ _ hlb' hp9
        have offb := GI.ne (hfr lb (mem_of_get hlb'))
        have nx : @Ne Nat a1.x lb := fun q => offb a1 hAm (.inl q.symm)
        have nd : @Ne Nat a1.d lb := fun q => offb a1 hAm (.inr (.inl q.symm))
        have nf : @Ne Nat a1.f lb := fun q => offb a1 hAm (.inr (.inr (.inl q.symm)))
        have nv : @Ne Nat a1.v lb := fun q => offb a1 hAm (.inr (.inr (.inr q.symm)))
        have nD : @Ne Nat D lb := fun q => by
          obtain ⟨_, _, _, hm'⟩ := hfd.at' (b9 - 1) lb _ hlb' (List.getElem?_eq_getElem (by rw [← hfd.len]; exact hbl))
          exact offD _ hm' q.symm
        have hb1 : 1 ≤ b9 := by omega
        have hb4 : b9 ≤ 4 := by omega
        tb_start
        rename Fr _ _ _ _ => F9
        rename News _ _ _ _ => N9
        refine ⟨_, _, _, _, st''.length, rfl, F9, newsSub N9 (fun p hp => List.mem_cons_of_mem _ hp), by rw [hk9]; exact Nat.lt_succ_self _, fs.set (b9 - 1) (h9, p9.2), st'', b9, g.l, _, _, rfl, rfl, rfl, .inr ⟨a1, hb0, hA, rfl⟩, hl0, hch', (dec_l hg hm hp9).symm.trans hdec, hfd1.put hnd hlb' setL_head (fun q hq hne => setL_mem hq hne), rfl, fun q hq => setL_mem (hkp1 q hq) (hfr lb (mem_of_get hlb') q hq), setL_mem hD1 nD⟩
      · rcases hlb with ⟨hz, _⟩ | ⟨a1, _, hA, rfl⟩
        · exact absurd hz hb0
        have hAm := mem_of_get hA
        obtain ⟨v0, v1, t2, n2, hv, hl0, hl1⟩ := GI1.vals _ _ _ hA hg
        obtain ⟨hx, hdd, hf⟩ := GI1.node _ _ hA
        have ek9 : (((b9 - 1 : Nat) : Int) + 1) = (b9 : Int) := by omega
        rw [ek9] at hdd
        have hm9 : ((g.m : Nat) : Int) = 2 := by omega
        rw [hm9] at hv
        have hbl : b9 - 1 < ls.length := by rw [hlsl]; exact (List.getElem?_eq_some_iff.mp hA).1
        obtain ⟨lb, hlb'⟩ : ∃ lb, ls[b9 - 1]? = some lb := ⟨_, List.getElem?_eq_getElem hbl⟩
        have hix : (List.map Value.ref ls).toArray[((b9 : Int) - 1).toNat]? = some (.ref lb) := by
          rw [show ((b9 : Int) - 1).toNat = b9 - 1 by omega]
          simp [hlb']
        obtain ⟨p9, hp9⟩ : ∃ p9, fs[b9 - 1]? = some p9 := ⟨_, List.getElem?_eq_getElem (by rw [← hfd1.len]; exact hbl)⟩
        obtain ⟨u1, u2, n3, hit⟩ := hfd1.at' _ _ _ hlb' hp9
        have offb := GI.ne (hfr lb (mem_of_get hlb'))
        have nx : @Ne Nat a1.x lb := fun q => offb a1 hAm (.inl q.symm)
        have nd : @Ne Nat a1.d lb := fun q => offb a1 hAm (.inr (.inl q.symm))
        have nf : @Ne Nat a1.f lb := fun q => offb a1 hAm (.inr (.inr (.inl q.symm)))
        have nv : @Ne Nat a1.v lb := fun q => offb a1 hAm (.inr (.inr (.inr q.symm)))
        have nD : @Ne Nat D lb := fun q => by
          obtain ⟨_, _, _, hm'⟩ := hfd.at' (b9 - 1) lb _ hlb' (List.getElem?_eq_getElem (by rw [← hfd.len]; exact hbl))
          exact offD _ hm' q.symm
        have hb1 : 1 ≤ b9 := by omega
        have hb4 : b9 ≤ 4 := by omega
        tb_start
        rename Fr _ _ _ _ => F9
        rename News _ _ _ _ => N9
        refine ⟨_, _, _, _, st''.length, rfl, F9, newsSub N9 (fun p hp => List.mem_cons_of_mem _ hp), by rw [hk9]; exact Nat.lt_succ_self _, fs.set (b9 - 1) (p9.1, h9), st'', b9, g.r, _, _, rfl, rfl, rfl, .inr ⟨a1, hb0, hA, rfl⟩, hl1, hch', (dec_r hg hm hp9).symm.trans hdec, hfd1.put hnd hlb' setL_head (fun q hq hne => setL_mem hq hne), rfl, fun q hq => setL_mem (hkp1 q hq) (hfr lb (mem_of_get hlb') q hq), setL_mem hD1 nD⟩
    · passes_own
end
-- the plain law: a walk that turns links, told by numbers alone
def mkOf (G : List Nd) (k : Nat) : Nat := ((G[k - 1]?).map (·.m)).getD 0
theorem mkOf_eq {G : List Nd} {k : Nat} {g : Nd} (h : G[k - 1]? = some g) : mkOf G k = g.m := by unfold mkOf; rw [h]; rfl
theorem idx_ne {a b : Nat} (ha : a ≠ 0) (hb : b ≠ 0) (h : a ≠ b) : a - 1 ≠ b - 1 := by omega
theorem set_get_ne {G : List Nd} {x k : Nat} {g : Nd} (hx : x ≠ 0) (hk : k ≠ 0) (h : k ≠ x) : (G.set (x - 1) g)[k - 1]? = G[k - 1]? := List.getElem?_set_ne (idx_ne hx hk (Ne.symm h))
theorem set_get_self {G : List Nd} {x : Nat} {g g' : Nd} (h : G[x - 1]? = some g') : (G.set (x - 1) g)[x - 1]? = some g := List.getElem?_set_self (List.getElem?_eq_some_iff.mp h).1
theorem mk_set_ne {G : List Nd} {x k : Nat} {g : Nd} (hx : x ≠ 0) (hk : k ≠ 0) (h : k ≠ x) : mkOf (G.set (x - 1) g) k = mkOf G k := by unfold mkOf; rw [set_get_ne hx hk h]
theorem mk_set_self {G : List Nd} {x : Nat} {g g' : Nd} (h : G[x - 1]? = some g') : mkOf (G.set (x - 1) g) x = g.m := mkOf_eq (set_get_self h)
/-- a mark never falls back to nothing -/
theorem mk_up {G : List Nd} {x k : Nat} {g g' : Nd} (hx : x ≠ 0) (hg : G[x - 1]? = some g') (hm : g.m ≠ 0) (h : k = 0 ∨ mkOf G k ≠ 0) : k = 0 ∨ mkOf (G.set (x - 1) g) k ≠ 0 := by
  rcases h with h | h
  · exact .inl h
  · by_cases hk : k = 0
    · exact .inl hk
    · right
      by_cases e : k = x
      · rw [e, mk_set_self hg]; exact hm
      · rw [mk_set_ne hx hk e]; exact h
theorem kid_set_ne {G : List Nd} {x k c : Nat} {g : Nd} (hx : x ≠ 0) (h : k ≠ x) (hk : Kid G k c) : Kid (G.set (x - 1) g) k c := by
  obtain ⟨c0, g', k0, hg, hc⟩ := hk
  exact ⟨c0, g', k0, by rw [set_get_ne hx k0 h]; exact hg, hc⟩
theorem kid_unset_ne {G : List Nd} {x k c : Nat} {g : Nd} (hx : x ≠ 0) (h : k ≠ x) (hk : Kid (G.set (x - 1) g) k c) : Kid G k c := by
  obtain ⟨c0, g', k0, hg, hc⟩ := hk
  exact ⟨c0, g', k0, by rw [set_get_ne hx k0 h] at hg; exact hg, hc⟩
theorem kid_at {G : List Nd} {x c : Nat} {g : Nd} (hx : x ≠ 0) (hg : G[x - 1]? = some g) (h0 : c ≠ 0) (hc : c = g.l ∨ c = g.r) : Kid G x c := ⟨h0, g, hx, hg, hc⟩
theorem kid_of {G : List Nd} {x c : Nat} {g : Nd} (hg : G[x - 1]? = some g) (h : Kid G x c) : c ≠ 0 ∧ (c = g.l ∨ c = g.r) := by
  obtain ⟨c0, g', _, hg', hc⟩ := h
  rw [hg] at hg'
  cases hg'
  exact ⟨c0, hc⟩
theorem rch_sub {G G' : List Nd} {R R' : List Nat} {x : Nat} (x0 : x ≠ 0) (hx : x ∈ R') (h1 : ∀ k ∈ R, k ≠ 0 → k = x ∨ k ∈ R' ∨ Kid G' x k) (h2 : ∀ k c, k ≠ x → Kid G k c → Kid G' k c) (h3 : ∀ c, Kid G x c → c ∈ R' ∨ Kid G' x c) {j : Nat} (h : Rch G R j) : Rch G' R' j := by
  have rx : Rch G' R' x := .root hx x0
  induction h with
  | root hk k0 =>
    rcases h1 _ hk k0 with rfl | h | h
    · exact rx
    · exact .root h k0
    · exact .kid rx h
  | @kid k1 c1 _ hc ih =>
    by_cases e : k1 = x
    · subst e
      rcases h3 _ hc with h | h
      · exact .root h hc.1
      · exact .kid rx h
    · exact .kid ih (h2 _ _ e hc)
/-- roots and a root's links may be turned round -/
theorem rch_turn {G : List Nd} {x a b c d e f : Nat} {g g' : Nd} (x0 : x ≠ 0) (hg : G[x - 1]? = some g) (hl : g.l = c ∧ g.r = d) (hl' : g'.l = e ∧ g'.r = f) (same : ∀ k : Nat, (k = a ∨ k = c ∨ k = d) ↔ (k = b ∨ k = e ∨ k = f)) {R R' : List Nat} (hR : ∀ k, k ∈ R ↔ k = x ∨ k = a) (hR' : ∀ k, k ∈ R' ↔ k = x ∨ k = b) (j : Nat) :
    Rch (G.set (x - 1) g') R' j ↔ Rch G R j := by
  have hg' := set_get_self (g := g') hg
  constructor
  · refine rch_sub x0 ((hR x).mpr (.inl rfl)) (fun k hk k0 => ?_) (fun k c h hk => kid_unset_ne x0 h hk) (fun k hk => ?_)
    · rcases (hR' k).mp hk with h | h
      · exact .inl h
      · rcases (same k).mpr (.inl h) with h | h | h
        · exact .inr (.inl ((hR k).mpr (.inr h)))
        · exact .inr (.inr (kid_at x0 hg k0 (.inl (h.trans hl.1.symm))))
        · exact .inr (.inr (kid_at x0 hg k0 (.inr (h.trans hl.2.symm))))
    · obtain ⟨k0, hk⟩ := kid_of hg' hk
      have : k = a ∨ k = c ∨ k = d := (same k).mpr (hk.elim (fun h => .inr (.inl (h.trans hl'.1))) fun h => .inr (.inr (h.trans hl'.2)))
      rcases this with h | h | h
      · exact .inl ((hR k).mpr (.inr h))
      · exact .inr (kid_at x0 hg k0 (.inl (h.trans hl.1.symm)))
      · exact .inr (kid_at x0 hg k0 (.inr (h.trans hl.2.symm)))
  · refine rch_sub x0 ((hR' x).mpr (.inl rfl)) (fun k hk k0 => ?_) (fun k c h hk => kid_set_ne x0 h hk) (fun k hk => ?_)
    · rcases (hR k).mp hk with h | h
      · exact .inl h
      · rcases (same k).mp (.inl h) with h | h | h
        · exact .inr (.inl ((hR' k).mpr (.inr h)))
        · exact .inr (.inr (kid_at x0 hg' k0 (.inl (h.trans hl'.1.symm))))
        · exact .inr (.inr (kid_at x0 hg' k0 (.inr (h.trans hl'.2.symm))))
    · obtain ⟨k0, hk⟩ := kid_of hg hk
      have : k = b ∨ k = e ∨ k = f := (same k).mp (hk.elim (fun h => .inr (.inl (h.trans hl.1))) fun h => .inr (.inr (h.trans hl.2)))
      rcases this with h | h | h
      · exact .inl ((hR' k).mpr (.inr h))
      · exact .inr (kid_at x0 hg' k0 (.inl (h.trans hl'.1.symm)))
      · exact .inr (kid_at x0 hg' k0 (.inr (h.trans hl'.2.symm)))
theorem chain_set {G : List Nd} {x : Nat} {g : Nd} (hx : x ≠ 0) : ∀ {st : List Nat} {b : Nat}, x ∉ st → Chain G b st → Chain (G.set (x - 1) g) b st := by
  intro st b hn h
  induction h with
  | nil => exact .nil
  | l h0 hg hm _ ih => exact .l h0 (by rw [set_get_ne hx h0 (fun e => hn (e ▸ List.mem_cons_self ..))]; exact hg) hm (ih fun q => hn (List.mem_cons_of_mem _ q))
  | r h0 hg hm _ ih => exact .r h0 (by rw [set_get_ne hx h0 (fun e => hn (e ▸ List.mem_cons_self ..))]; exact hg) hm (ih fun q => hn (List.mem_cons_of_mem _ q))
theorem chain_pos {G : List Nd} {b : Nat} {st : List Nat} (h : Chain G b st) : ∀ k ∈ st, k ≠ 0 ∧ ∃ g, G[k - 1]? = some g ∧ (g.m = 1 ∨ g.m = 2) := by
  induction h with
  | nil => exact fun _ h => nomatch h
  | l h0 hg hm _ ih =>
    intro k hk
    rcases List.mem_cons.mp hk with rfl | hk
    · exact ⟨h0, _, hg, .inl hm⟩
    · exact ih k hk
  | r h0 hg hm _ ih =>
    intro k hk
    rcases List.mem_cons.mp hk with rfl | hk
    · exact ⟨h0, _, hg, .inr hm⟩
    · exact ih k hk
theorem dec_set {G : List Nd} {x : Nat} {g : Nd} (hx : x ≠ 0) : ∀ {st : List Nat} {fs : List (Nat × Nat)} {h : Nat}, (∀ k ∈ st, k ≠ 0 ∧ k ≠ x) → dec (G.set (x - 1) g) fs h st = dec G fs h st
  | [], _, _, _ => rfl
  | k :: st, fs, h, hk => by
    have h1 := hk k (List.mem_cons_self ..)
    rw [dec, dec, dec_set hx fun j hj => hk j (List.mem_cons_of_mem _ hj)]
    unfold turned
    rw [set_get_ne hx h1.1 h1.2]
theorem links_set {G : List Nd} {i : Nat} {g : Nd} : linksOf (G.set i g) = (linksOf G).set i (g.l, g.r) := List.map_set ..
theorem links_get {G : List Nd} {i : Nat} {g : Nd} (h : G[i]? = some g) : (linksOf G)[i]? = some (g.l, g.r) := by rw [List.getElem?_map, h]; rfl
theorem set_same {α : Type} {l : List α} {i : Nat} {a : α} (h : l[i]? = some a) : l.set i a = l := by
  apply List.ext_getElem?
  intro j
  by_cases e : i = j
  · subst e
    rw [List.getElem?_set_self (List.getElem?_eq_some_iff.mp h).1, h]
  · rw [List.getElem?_set_ne e]
def msum (G : List Nd) : Nat := (G.map (·.m)).sum
theorem msum_set {g : Nd} : ∀ {G : List Nd} {i : Nat} {g' : Nd}, G[i]? = some g' → g.m = g'.m + 1 → msum (G.set i g) = msum G + 1
  | [], i, _, h, _ => by simp at h
  | a :: G, 0, g', h, e => by
    simp only [List.getElem?_cons_zero, Option.some.injEq] at h
    subst h
    simp only [msum, List.set_cons_zero, List.map_cons, List.sum_cons]
    omega
  | a :: G, i + 1, g', h, e => by
    have ih := msum_set (G := G) (i := i) (by simpa using h) e
    simp only [msum, List.set_cons_succ, List.map_cons, List.sum_cons] at ih ⊢
    omega
theorem msum_le : ∀ {G : List Nd}, (∀ g ∈ G, g.m ≤ 3) → msum G ≤ 3 * G.length
  | [], _ => Nat.le_refl _
  | a :: G, h => by
    have ih := msum_le fun g hg => h g (List.mem_cons_of_mem _ hg)
    have := h a (List.mem_cons_self ..)
    simp only [msum, List.map_cons, List.sum_cons, List.length_cons] at ih ⊢
    omega
theorem mem_set_or {G : List Nd} {i : Nat} {g g' : Nd} (h : g' ∈ G.set i g) : g' = g ∨ g' ∈ G := (List.mem_or_eq_of_mem_set h).symm

structure SW (G0 : List Nd) (L0 : List (Nat × Nat)) (G : List Nd) (h b : Nat) (st : List Nat) : Prop where
  ch : Chain G b st
  nd : st.Nodup
  on : ∀ k g, k ≠ 0 → G[k - 1]? = some g → (g.m = 1 ∨ g.m = 2) → k ∈ st
  le : ∀ g ∈ G, g.m ≤ 3
  dc : dec G (linksOf G) h st = L0
  rc : ∀ j, Rch G [h, b] j ↔ Rch G0 [1] j
  dn2 : ∀ g ∈ G, 2 ≤ g.m → g.l = 0 ∨ mkOf G g.l ≠ 0
  dn3 : ∀ g ∈ G, g.m = 3 → g.r = 0 ∨ mkOf G g.r ≠ 0
  bt : (h :: st).getLast? = some 1
  mr : ∀ k, k ≠ 0 → mkOf G k ≠ 0 → Rch G0 [1] k
theorem SW.down {G0 : List Nd} {L0 : List (Nat × Nat)} {G : List Nd} {h b : Nat} {st : List Nat} {g : Nd} (S : SW G0 L0 G h b st) (h0 : h ≠ 0) (hg : G[h - 1]? = some g) (hm : g.m = 0) : SW G0 L0 (G.set (h - 1) ⟨b, g.r, 1⟩) g.l h (h :: st) where
  ch := by
    have hn : h ∉ st := fun q => by
      obtain ⟨_, g', hg', hm'⟩ := chain_pos S.ch h q
      rw [hg] at hg'
      cases hg'
      omega
    exact .l h0 (set_get_self hg) rfl (chain_set h0 hn S.ch)
  nd := by
    refine List.nodup_cons.mpr ⟨fun q => ?_, S.nd⟩
    obtain ⟨_, g', hg', hm'⟩ := chain_pos S.ch h q
    rw [hg] at hg'
    cases hg'
    omega
  on := by
    intro k g' k0 hk hm'
    by_cases e : k = h
    · exact e ▸ List.mem_cons_self ..
    · rw [set_get_ne h0 k0 e] at hk
      exact List.mem_cons_of_mem _ (S.on k g' k0 hk hm')
  le := fun g' hg' => (mem_set_or hg').elim (fun e => by rw [e]; simp) (S.le g')
  dc := by
    rw [dec_l (set_get_self hg) rfl (links_get (set_get_self hg)), links_set, List.set_set]
    dsimp only
    rw [set_same (links_get hg), dec_set h0 (fun k hk => ⟨(chain_pos S.ch k hk).1, fun e => by
      obtain ⟨_, g', hg', hm'⟩ := chain_pos S.ch k hk
      rw [e, hg] at hg'
      cases hg'
      omega⟩)]
    exact S.dc
  rc := fun j => (rch_turn (a := b) (b := g.l) h0 hg ⟨rfl, rfl⟩ ⟨rfl, rfl⟩ (by intro k; constructor <;> (rintro (h | h | h) <;> simp [h])) (R := [h, b]) (R' := [g.l, h]) (by simp) (by intro k; simp [or_comm]) j).trans (S.rc j)
  dn2 := by
    intro g' hg' h2
    rcases mem_set_or hg' with rfl | hg'
    · simp at h2
    · exact mk_up h0 hg (by simp) (S.dn2 g' hg' h2)
  dn3 := by
    intro g' hg' h3
    rcases mem_set_or hg' with rfl | hg'
    · simp at h3
    · exact mk_up h0 hg (by simp) (S.dn3 g' hg' h3)
  bt := by rw [List.getLast?_cons_cons]; exact S.bt
  mr := by
    intro k k0 hk
    by_cases e : k = h
    · exact e ▸ (S.rc h).mp (.root (by simp) h0)
    · rw [mk_set_ne h0 k0 e] at hk
      exact S.mr k k0 hk
theorem SW.turn {G0 : List Nd} {L0 : List (Nat × Nat)} {G : List Nd} {h b : Nat} {st : List Nat} {g : Nd} (S : SW G0 L0 G h b (b :: st)) (b0 : b ≠ 0) (hg : G[b - 1]? = some g) (hm : g.m = 1) (hc : Chain G g.l st) (hh : h = 0 ∨ mkOf G h ≠ 0) : SW G0 L0 (G.set (b - 1) ⟨h, g.l, 2⟩) g.r b (b :: st) where
  ch := .r b0 (set_get_self hg) rfl (chain_set b0 (List.nodup_cons.mp S.nd).1 hc)
  nd := S.nd
  on := by
    intro k g' k0 hk hm'
    by_cases e : k = b
    · exact e ▸ List.mem_cons_self ..
    · rw [set_get_ne b0 k0 e] at hk
      exact S.on k g' k0 hk hm'
  le := fun g' hg' => (mem_set_or hg').elim (fun e => by rw [e]; simp) (S.le g')
  dc := by
    rw [dec_r (set_get_self hg) rfl (links_get (set_get_self hg)), links_set, List.set_set]
    dsimp only
    rw [dec_set b0 (fun k hk => ⟨(chain_pos hc k hk).1, fun e => (List.nodup_cons.mp S.nd).1 (e ▸ hk)⟩)]
    have := S.dc
    rw [dec_l hg hm (links_get hg)] at this
    exact this
  rc := fun j => (rch_turn (a := h) (b := g.r) b0 hg ⟨rfl, rfl⟩ ⟨rfl, rfl⟩ (by intro k; constructor <;> (rintro (h | h | h) <;> simp [h])) (R := [h, b]) (R' := [g.r, b]) (by intro k; simp [or_comm]) (by intro k; simp [or_comm]) j).trans (S.rc j)
  dn2 := by
    intro g' hg' h2
    rcases mem_set_or hg' with rfl | hg'
    · exact mk_up b0 hg (by simp) hh
    · exact mk_up b0 hg (by simp) (S.dn2 g' hg' h2)
  dn3 := by
    intro g' hg' h3
    rcases mem_set_or hg' with rfl | hg'
    · simp at h3
    · exact mk_up b0 hg (by simp) (S.dn3 g' hg' h3)
  bt := by
    have := S.bt
    rw [List.getLast?_cons_cons] at this ⊢
    exact this
  mr := by
    intro k k0 hk
    by_cases e : k = b
    · exact e ▸ (S.rc b).mp (.root (by simp) b0)
    · rw [mk_set_ne b0 k0 e] at hk
      exact S.mr k k0 hk
theorem SW.up {G0 : List Nd} {L0 : List (Nat × Nat)} {G : List Nd} {h b : Nat} {st : List Nat} {g : Nd} (S : SW G0 L0 G h b (b :: st)) (b0 : b ≠ 0) (hg : G[b - 1]? = some g) (hm : g.m = 2) (hc : Chain G g.r st) (hh : h = 0 ∨ mkOf G h ≠ 0) : SW G0 L0 (G.set (b - 1) ⟨g.l, h, 3⟩) b g.r st where
  ch := chain_set b0 (List.nodup_cons.mp S.nd).1 hc
  nd := (List.nodup_cons.mp S.nd).2
  on := by
    intro k g' k0 hk hm'
    by_cases e : k = b
    · subst e
      rw [set_get_self hg] at hk
      cases hk
      simp at hm'
    · rw [set_get_ne b0 k0 e] at hk
      rcases List.mem_cons.mp (S.on k g' k0 hk hm') with h | h
      · exact absurd h e
      · exact h
  le := fun g' hg' => (mem_set_or hg').elim (fun e => by rw [e]; simp) (S.le g')
  dc := by
    rw [links_set, dec_set b0 (fun k hk => ⟨(chain_pos hc k hk).1, fun e => (List.nodup_cons.mp S.nd).1 (e ▸ hk)⟩)]
    have := S.dc
    rw [dec_r hg hm (links_get hg)] at this
    exact this
  rc := fun j => (rch_turn (a := h) (b := g.r) b0 hg ⟨rfl, rfl⟩ ⟨rfl, rfl⟩ (by intro k; constructor <;> (rintro (h | h | h) <;> simp [h])) (R := [h, b]) (R' := [b, g.r]) (by intro k; simp [or_comm]) (by intro k; simp) j).trans (S.rc j)
  dn2 := by
    intro g' hg' h2
    rcases mem_set_or hg' with rfl | hg'
    · exact mk_up b0 hg (by simp) (S.dn2 g (List.mem_of_getElem? hg) (by omega))
    · exact mk_up b0 hg (by simp) (S.dn2 g' hg' h2)
  dn3 := by
    intro g' hg' h3
    rcases mem_set_or hg' with rfl | hg'
    · exact mk_up b0 hg (by simp) hh
    · exact mk_up b0 hg (by simp) (S.dn3 g' hg' h3)
  bt := by
    have := S.bt
    rw [List.getLast?_cons_cons] at this
    exact this
  mr := by
    intro k k0 hk
    by_cases e : k = b
    · exact e ▸ (S.rc b).mp (.root (by simp) b0)
    · rw [mk_set_ne b0 k0 e] at hk
      exact S.mr k k0 hk
theorem SW.start {G : List Nd} (hG : ∀ g ∈ G, g.m = 0) : SW G (linksOf G) G 1 0 [] where
  ch := .nil
  nd := List.nodup_nil
  on := fun k g _ hk hm => by have := hG g (List.mem_of_getElem? hk); omega
  le := fun g hg => by rw [hG g hg]; decide
  dc := rfl
  rc := fun j => by
    constructor <;> intro h
    · induction h with
      | root hk k0 =>
        simp only [List.mem_cons, List.not_mem_nil, or_false] at hk
        rcases hk with rfl | rfl
        · exact .root (by simp) k0
        · exact absurd rfl k0
      | kid _ hc ih => exact .kid ih hc
    · induction h with
      | root hk k0 => exact .root (by simp at hk; simp [hk]) k0
      | kid _ hc ih => exact .kid ih hc
  dn2 := fun g hg h => by have := hG g hg; omega
  dn3 := fun g hg h => by have := hG g hg; omega
  bt := rfl
  mr := fun k _ hk => by
    unfold mkOf at hk
    cases e : G[k - 1]? with
    | none => rw [e] at hk; exact absurd rfl hk
    | some g => rw [e] at hk; exact absurd (hG g (List.mem_of_getElem? e)) hk
/-- the end: here is the first one; marked with 3 are just the reached ones -/
theorem SW.fin {G0 : List Nd} {L0 : List (Nat × Nat)} {G : List Nd} {h : Nat} {st : List Nat} (S : SW G0 L0 G h 0 st) (hh : h = 0 ∨ mkOf G h ≠ 0) : h = 1 ∧ ∀ k g, k ≠ 0 → G[k - 1]? = some g → (g.m = 3 ∧ Rch G0 [1] k) ∨ (g.m = 0 ∧ ¬ Rch G0 [1] k) := by
  have hst : st = [] := by
    rcases S.ch.inv with ⟨_, h⟩ | ⟨_, _, h, _⟩
    · exact h
    · exact absurd rfl h
  subst hst
  have h1 : h = 1 := by have := S.bt; simpa using this
  subst h1
  have m03 : ∀ k g, k ≠ 0 → G[k - 1]? = some g → g.m = 0 ∨ g.m = 3 := fun k g k0 hg => by
    have := S.le g (List.mem_of_getElem? hg)
    have hn : ¬ (g.m = 1 ∨ g.m = 2) := fun q => nomatch S.on k g k0 hg q
    omega
  have all : ∀ j, Rch G0 [1] j → mkOf G j ≠ 0 := fun j hj => by
    have := (S.rc j).mpr hj
    induction this with
    | root hk k0 =>
      simp only [List.mem_cons, List.not_mem_nil, or_false] at hk
      rcases hk with rfl | rfl
      · exact hh.resolve_left (by decide)
      · exact absurd rfl k0
    | kid hr hc ih =>
      obtain ⟨c0, g, k0, hg, hc⟩ := hc
      have ihk := ih ((S.rc _).mp hr)
      rw [mkOf_eq hg] at ihk
      have hm : g.m = 3 := (m03 _ g k0 hg).resolve_left ihk
      have hgm := List.mem_of_getElem? hg
      rcases hc with rfl | rfl
      · exact (S.dn2 g hgm (by omega)).resolve_left c0
      · exact (S.dn3 g hgm hm).resolve_left c0
  refine ⟨rfl, fun k g k0 hg => ?_⟩
  rcases m03 k g k0 hg with h | h
  · exact .inr ⟨h, fun q => all k q (by rw [mkOf_eq hg]; exact h)⟩
  · exact .inl ⟨h, S.mr k k0 (by rw [mkOf_eq hg]; omega)⟩
theorem off_13 : True := by
  w_top off
  trivial
noncomputable def lawFn (p : Params) : Option FuncData := match (fr.heap_1 p).lookup 341 with | some ⟨_, _, .func f, _⟩ => some f | _ => none
noncomputable def lawStmts (p : Params) : List Stmt := match lawFn p with | some f => (match f.body with | .stmts b => b | _ => []) | none => []
noncomputable def lawScope (p : Params) : Scope := match lawFn p with | some f => f.scope | none => { kind := .module, names := [], isGenerator := false, isCoroutine := false }
theorem cut13 {b : List Stmt} {P : List Stmt → Prop} {s1 s2 s3 s4 s5 s6 s7 s8 s9 s10 s11 s12 s13 : Stmt} (e : b = [s1, s2, s3, s4, s5, s6, s7, s8, s9, s10, s11, s12, s13]) (h : P [s1, s2, s3, s4, s5, s6, s7, s8, s9, s10, s11, s12, s13]) : P b := e ▸ h
theorem cutS {b c : Scope} {P : Scope → Prop} (e : b = c) (h : P c) : P b := e ▸ h
theorem frFive {h₀ h : Heap} {L : Addr} {m : Str → Option Value} {x1 x2 x3 x4 x5 : Str} {v1 v2 v3 v4 v5 : Value} (F : Fr h₀ L h m) (h1 : m x1 = some v1) (h2 : m x2 = some v2) (h3 : m x3 = some v3) (h4 : m x4 = some v4) (h5 : m x5 = some v5) :
    Fr h₀ L h (fun z => if z = x1 then some v1 else if z = x2 then some v2 else if z = x3 then some v3 else if z = x4 then some v4 else if z = x5 then some v5 else m z) := by
  have e : (fun z => if z = x1 then some v1 else if z = x2 then some v2 else if z = x3 then some v3 else if z = x4 then some v4 else if z = x5 then some v5 else m z) = m := by
    funext z
    by_cases q1 : z = x1
    · rw [if_pos q1, q1, h1]
    · rw [if_neg q1]
      by_cases q2 : z = x2
      · rw [if_pos q2, q2, h2]
      · rw [if_neg q2]
        by_cases q3 : z = x3
        · rw [if_pos q3, q3, h3]
        · rw [if_neg q3]
          by_cases q4 : z = x4
          · rw [if_pos q4, q4, h4]
          · rw [if_neg q4]
            by_cases q5 : z = x5
            · rw [if_pos q5, q5, h5]
            · rw [if_neg q5]
  rw [e]; exact F
-- two sorted lists with the same members
theorem sorted_same : ∀ {ns ms : List Int}, ns.Pairwise (· ≤ ·) → ms.Pairwise (· ≤ ·) → ns.Nodup → ms.Nodup → (∀ k, k ∈ ns ↔ k ∈ ms) → ns = ms
  | [], [], _, _, _, _, _ => rfl
  | [], b :: ms, _, _, _, _, h => absurd ((h b).mpr (.head _)) (by simp)
  | a :: ns, [], _, _, _, _, h => absurd ((h a).mp (.head _)) (by simp)
  | a :: ns, b :: ms, h1, h2, n1, n2, h => by
    obtain ⟨a1, p1⟩ := List.pairwise_cons.mp h1
    obtain ⟨b1, p2⟩ := List.pairwise_cons.mp h2
    obtain ⟨a2, q1⟩ := List.nodup_cons.mp n1
    obtain ⟨b2, q2⟩ := List.nodup_cons.mp n2
    have e : b = a := by
      rcases List.mem_cons.mp ((h a).mp (.head _)) with e | e
      · exact e.symm
      · rcases List.mem_cons.mp ((h b).mpr (.head _)) with e' | e'
        · exact e'
        · exact Int.le_antisymm (b1 a e) (a1 b e')
    subst e
    have ih := sorted_same p1 p2 q1 q2 fun k => ⟨fun q => ((List.mem_cons.mp ((h k).mp (.tail _ q))).resolve_left fun e => a2 (e ▸ q)), fun q => ((List.mem_cons.mp ((h k).mpr (.tail _ q))).resolve_left fun e => b2 (e ▸ q))⟩
    rw [ih]
-- the marked ones, by number
def marked : List Nd → Int → List Int
  | [], _ => []
  | g :: G, k => if g.m = 3 then k :: marked G (k + 1) else marked G (k + 1)
theorem marked_mem : ∀ {G : List Nd} {k j : Int}, j ∈ marked G k ↔ ∃ (i : Nat) (g : Nd), G[i]? = some g ∧ g.m = 3 ∧ j = k + i
  | [], k, j => by simp [marked]
  | g :: G, k, j => by
    have ih := marked_mem (G := G) (k := k + 1) (j := j)
    unfold marked
    constructor
    · intro h
      by_cases hg : g.m = 3
      · rw [if_pos hg] at h
        rcases List.mem_cons.mp h with e | h
        · exact ⟨0, g, rfl, hg, by rw [e]; simp⟩
        · obtain ⟨i, g', h1, h2, h3⟩ := ih.mp h
          exact ⟨i + 1, g', by simpa using h1, h2, by rw [h3]; omega⟩
      · rw [if_neg hg] at h
        obtain ⟨i, g', h1, h2, h3⟩ := ih.mp h
        exact ⟨i + 1, g', by simpa using h1, h2, by rw [h3]; omega⟩
    · rintro ⟨i, g', h1, h2, h3⟩
      cases i with
      | zero =>
        simp only [List.getElem?_cons_zero, Option.some.injEq] at h1
        subst h1
        rw [if_pos h2]
        exact h3 ▸ by simp
      | succ i =>
        have := ih.mpr ⟨i, g', by simpa using h1, h2, by rw [h3]; omega⟩
        by_cases hg : g.m = 3
        · rw [if_pos hg]; exact .tail _ this
        · rw [if_neg hg]; exact this
theorem marked_lt : ∀ {G : List Nd} {k : Int}, (marked G k).Pairwise (· < ·)
  | [], _ => .nil
  | g :: G, k => by
    unfold marked
    have ih := marked_lt (G := G) (k := k + 1)
    by_cases hg : g.m = 3
    · rw [if_pos hg]
      refine List.pairwise_cons.mpr ⟨fun j hj => ?_, ih⟩
      obtain ⟨i, _, _, _, e⟩ := marked_mem.mp hj
      omega
    · rw [if_neg hg]; exact ih
theorem marked_sum : ∀ {G : List Nd} {k : Int}, (∀ g ∈ G, g.m = 3 ∨ g.m = 0) → msum G = 3 * (marked G k).length
  | [], _, _ => rfl
  | g :: G, k, h => by
    have ih := marked_sum (G := G) (k := k + 1) fun g' hg' => h g' (.tail _ hg')
    unfold marked
    simp only [msum, List.map_cons, List.sum_cons] at ih ⊢
    rcases h g (.head _) with e | e
    · rw [if_pos e, List.length_cons, ih, e]; omega
    · rw [if_neg (by omega), ih, e]; omega
theorem marked_due {G G0 : List Nd} {ns : List Int} (hl : G.length = G0.length) (hf : ∀ k g, k ≠ 0 → G[k - 1]? = some g → (g.m = 3 ∧ Rch G0 [1] k) ∨ (g.m = 0 ∧ ¬ Rch G0 [1] k)) (hb : ∀ j, Rch G0 [1] j → j ≠ 0 ∧ j ≤ G0.length)
    (hs : ns.Pairwise (· ≤ ·)) (hn : ns.Nodup) (hd : ∀ k : Int, k ∈ ns ↔ ∃ j : Nat, k = j ∧ Rch G0 [1] j) : ns = marked G 1 := by
  refine sorted_same hs (marked_lt.imp fun h => Int.le_of_lt h) hn (marked_lt.imp fun h => Int.ne_of_lt h) fun k => ?_
  rw [hd, marked_mem]
  constructor
  · rintro ⟨j, e, hj⟩
    obtain ⟨j0, jl⟩ := hb j hj
    have hjl : j - 1 < G.length := by omega
    have hg : G[j - 1]? = some G[j - 1] := by simp [hjl]
    refine ⟨j - 1, _, hg, ?_, by omega⟩
    rcases hf j _ j0 hg with h | h
    · exact h.1
    · exact absurd hj h.2
  · rintro ⟨i, g, hg, hm, e⟩
    refine ⟨i + 1, by omega, ?_⟩
    rcases hf (i + 1) g (by omega) hg with h | h
    · exact h.2
    · omega
-- lists of links compared
abbrev linkD (p : Nat × Nat) : PyData := .list [.int (p.1 : Int), .int (p.2 : Int)]
theorem linkD_eqv : ∀ fs : List (Nat × Nat), PyData.eqvAll (fs.map linkD) (fs.map linkD) = true
  | [] => rfl
  | p :: r => by simp [PyData.eqvAll, PyData.eqv, linkD_eqv r]
theorem linkD_lay : ∀ fs : List (Nat × Nat), PyData.canLayAll0 (fs.map linkD) = true
  | [] => rfl
  | p :: r => by simp [PyData.canLayAll0, PyData.canLay0, linkD_lay r]
theorem linkD_depth : ∀ fs : List (Nat × Nat), PyData.depthAll (fs.map linkD) ≤ 1
  | [] => Nat.zero_le _
  | p :: r => by
    have := linkD_depth r
    simp only [List.map_cons, PyData.depthAll, PyData.depth]
    omega
theorem linkD_shaped (fs : List (Nat × Nat)) : SeqAt.shaped (.list (fs.map linkD)) = true := by
  have h1 := linkD_lay fs
  have h2 := linkD_depth fs
  simp only [SeqAt.shaped, PyData.canLay0, PyData.depth, h1, Bool.true_and]
  exact decide_eq_true (by omega)
theorem links_reads {h₀ h : Heap} {L : Addr} {news : List (Addr × Obj)} (N : News h₀ L h news) : ∀ {ls : List Addr} {fs : List (Nat × Nat)}, FoundIn news ls fs → ∃ as, ReadsAll h (ls.map Value.ref) (fs.map linkD) as
  | [], [], _ => ⟨_, .nil⟩
  | [], _ :: _, H => by have := H.len; simp at this
  | _ :: _, [], H => by have := H.len; simp at this
  | a :: ls, p :: fs, H => by
    obtain ⟨as, ih⟩ := links_reads N (ls := ls) (fs := fs) ⟨by have := H.len; simpa using this, fun j b q hb hq => H.at' (j + 1) b q (by simpa using hb) (by simpa using hq)⟩
    obtain ⟨t1, t2, n, hm⟩ := H.at' 0 a p rfl rfl
    exact ⟨_, .cons (reads_list_at (N _ hm).1 rfl rfl (.cons (.int _ _) (.cons (.int _ _) .nil))) ih⟩
section
variable {prog : Program} {w : World} {A : Around} {E : Value → Shared → Prop} {s : Shared} {h₀ : Heap} {L : Addr} {m : Str → Option Value} {news : List (Addr × Obj)} {env : Env}
theorem my_neLinks {a b : Addr} {la lb : List Addr} {fa fb : List (Nat × Nat)} {ca cb : Nat} {Q : Value → Shared → Prop} (N : News h₀ L s.heap news) (ha : (a, listOf (la.map Value.ref).toArray ca) ∈ news) (hb : (b, listOf (lb.map Value.ref).toArray cb) ∈ news)
    (Ha : FoundIn news la fa) (Hb : FoundIn news lb fb) (e : fa = fb) (hu : A.units + 64 < cLine) (h : Q (.bool false) s) : wpAny (model prog w) A (compareOp .NotEq (.ref a) (.ref b)) Q E s := by
  subst e
  obtain ⟨_, ra⟩ := links_reads N Ha
  obtain ⟨_, rb⟩ := links_reads N Hb
  refine ne_dataH (reads_list_at (N _ ha).1 rfl rfl ra) (reads_list_at (N _ hb).1 rfl rfl rb) (linkD_shaped _) (linkD_shaped _) hu ?_
  simp only [PyData.eqv, linkD_eqv, Bool.not_true]
  exact h
theorem my_neInts {a b : Addr} {va vb : List Value} {na nb : List Int} {ca cb : Nat} {Q : Value → Shared → Prop} (N : News h₀ L s.heap news) (ha : (a, listOf va.toArray ca) ∈ news) (hb : (b, listOf vb.toArray cb) ∈ news)
    (Ha : IntsAre va na) (Hb : IntsAre vb nb) (e : na = nb) (hu : A.units + 64 < cLine) (h : Q (.bool false) s) : wpAny (model prog w) A (compareOp .NotEq (.ref a) (.ref b)) Q E s :=
  ke_ne_ints (IsL.isList (n := ca) (N _ ha).1) (IsL.isList (n := cb) (N _ hb).1) Ha Hb hu (by rw [decide_eq_true e]; exact h)
theorem my_eqInts {a b : Addr} {va vb : List Value} {na nb : List Int} {ca cb : Nat} {Q : Value → Shared → Prop} (N : News h₀ L s.heap news) (ha : (a, listOf va.toArray ca) ∈ news) (hb : (b, listOf vb.toArray cb) ∈ news)
    (Ha : IntsAre va na) (Hb : IntsAre vb nb) (e : na = nb) (hu : A.units + 64 < cLine) (h : Q (.bool true) s) : wpAny (model prog w) A (compareOp .Eq (.ref a) (.ref b)) Q E s :=
  ke_eq_ints (IsL.isList (n := ca) (N _ ha).1) (IsL.isList (n := cb) (N _ hb).1) Ha Hb hu (by rw [decide_eq_true e]; exact h)
def RestEnd (h₀ : Heap) (L : Addr) (m : Str → Option Value) (s : Shared) (I : Addr) (oI : Obj) (C : Addr) (oC : Obj) (D : Addr) (ys : List Value) (S : List (Addr × Obj) → Prop) (Inv' : Value → List (Addr × Obj) → Prop) (y : Value) (s₃ : Shared) : Prop :=
  ∃ h' tk' nw', s₃ = { s with heap := h', toks := tk' } ∧ Fr h₀ L h' m ∧ News h₀ L h' ((I, oI) :: (C, oC) :: (D, lstO ys) :: nw') ∧ LCg.Off3 I C D nw' ∧ S nw' ∧ Inv' y nw'
/-- a comprehension told by what holds at each turn -/
theorem rest_inv {elt : Expr} {x : Str} {scope : Scope} {cl : List (Str × Addr)} {S : List (Addr × Obj) → Prop} {P : Nat → Value → Prop} {Fin : List Value → List (Addr × Obj) → Prop} {n : Nat} (Inv : Nat → List Value → List (Addr × Obj) → Prop)
    (h0 : Inv 0 [] news)
    (step : ∀ i v ys nw I oI C oC D m₂ h tk (E' : Value → Shared → Prop), P i v → i < n → ys.length = i → Inv i ys nw → LCg.NsObj oC m₂ → m₂ x = some v → Fr h₀ L h m → News h₀ L h ((I, oI) :: (C, oC) :: (D, lstO ys) :: nw) → LCg.Off3 I C D nw → ((@Ne Nat I C) ∧ (@Ne Nat I D) ∧ (@Ne Nat C D)) →
      wpAny (model prog w) A (eval elt (compEnvC scope cl C env)) (RestEnd h₀ L m s I oI C oC D ys S (fun y nw' => Inv (i + 1) (ys ++ [y]) nw')) E' { s with heap := h, toks := tk })
    (fin : ∀ ys nw, ys.length = n → Inv n ys nw → Fin ys nw) : LCg.CompRest prog w A h₀ L m env elt x scope cl s S P Fin n 0 [] news := by
  have key : ∀ k i ys nw, i + k = n → ys.length = i → Inv i ys nw → LCg.CompRest prog w A h₀ L m env elt x scope cl s S P Fin k i ys nw := by
    intro k
    induction k with
    | zero => intro i ys nw e hy hi; exact LCg.CompRest.zero (fin ys nw (by omega) ((show i = n by omega) ▸ hi))
    | succ k ih =>
      intro i ys nw e hy hi
      refine LCg.CompRest.succ ?_
      intro v I oI C oC D m₂ h tk E' hP hNs hm2 F N off ne
      refine wpAny_mono (step i v ys nw I oI C oC D m₂ h tk E' hP (by omega) hy hi hNs hm2 F N off ne) (fun y s₃ q => ?_) fun _ _ e => e
      obtain ⟨h', tk', nw', rfl, F', N', off', hS, hI⟩ := q
      exact LCg.CompEnd.intro F' N' nw' (fun p hp => hp) off' hS (ih (i + 1) _ nw' (by omega) (by rw [List.length_append, hy]; rfl) hI)
  exact key n 0 [] news (by omega) rfl h0
def FlowEnd (h₀ : Heap) (L : Addr) (I : Addr) (oI : Obj) (J : (Str → Option Value) → List (Addr × Obj) → Prop) (s : Shared) (Q : Flow → Shared → Prop) (f : Flow) (s₃ : Shared) : Prop :=
  match f with
  | .next | .cont => ∃ h' tk' m' nw', s₃ = { s with heap := h', toks := tk' } ∧ Fr h₀ L h' m' ∧ News h₀ L h' ((I, oI) :: nw') ∧ (∀ p ∈ nw', p.1 ≠ I) ∧ J m' nw'
  | .brk => Q .next s₃
  | .ret v => Q (.ret v) s₃
end
theorem off_14 : True := by
  w_top off
  trivial
structure Kept (As : List Adr) (K news : List (Addr × Obj)) : Prop where
  sub : ∀ q ∈ K, q ∈ news
  d : ∀ q ∈ K, ∀ a ∈ As, q.1 ≠ a.d
  v : ∀ q ∈ K, ∀ a ∈ As, q.1 ≠ a.v
theorem Kept.cons {As : List Adr} {K news : List (Addr × Obj)} {q : Addr × Obj} (h : Kept As K news) : Kept As K (q :: news) := ⟨fun p hp => .tail _ (h.sub p hp), h.d, h.v⟩
theorem Kept.all {As : List Adr} {K news news' : List (Addr × Obj)} (hs : ∀ q ∈ news, q ∈ news') (h : Kept As K news) : Kept As K news' := ⟨fun p hp => hs p (h.sub p hp), h.d, h.v⟩
theorem Kept.byD {As : List Adr} {K news news' : List (Addr × Obj)} (hs : ∀ q ∈ news, (∀ a ∈ As, q.1 ≠ a.d) → q ∈ news') (h : Kept As K news) : Kept As K news' := ⟨fun p hp => hs p (h.sub p hp) (h.d p hp), h.d, h.v⟩
theorem Kept.byV {As : List Adr} {K news news' : List (Addr × Obj)} (hs : ∀ q ∈ news, (∀ a ∈ As, q.1 ≠ a.v) → q ∈ news') (h : Kept As K news) : Kept As K news' := ⟨fun p hp => hs p (h.sub p hp) (h.v p hp), h.d, h.v⟩
theorem msum_zero : ∀ {G : List Nd}, (∀ g ∈ G, g.m = 0) → msum G = 0
  | [], _ => rfl
  | g :: G, h => by
    have ih := msum_zero fun g' hg' => h g' (.tail _ hg')
    simp only [msum, List.map_cons, List.sum_cons] at ih ⊢
    rw [ih, h g (.head _)]
theorem off_15 : True := by
  w_top off
  trivial
section
local macro_rules | `(tactic| k_mem) => `(tactic| first | exact Kept.sub (by assumption) _ (by assumption) | fail "no k_mem")
local macro_rules | `(tactic| ktr_unf) => `(tactic| assumption)
theorem small4 {n : Nat} (h : n ≤ 4) : Builtin.Range.small 0 (n : Int) 1 = true := by
  match n, h with
  | 0, _ | 1, _ | 2, _ | 3, _ | 4, _ => decide
theorem size4 {n : Nat} (h : n ≤ 4) : Builtin.Range.rangeSize 0 (n : Int) 1 = ((n : Nat) : Int) := by
  match n, h with
  | 0, _ | 1, _ | 2, _ | 3, _ | 4, _ => decide
theorem intsSnoc {k : Int} {t : Tok} : ∀ {vs : List Value} {ns : List Int}, IntsAre vs ns → IntsAre (vs ++ [.int k t]) (ns ++ [k])
  | _, _, .nil => .cons _ _ .nil
  | _, _, .cons _ _ r => .cons _ _ (intsSnoc r)
theorem marked_len : ∀ {G : List Nd} {k : Int}, (marked G k).length ≤ G.length
  | [], _ => Nat.le_refl _
  | g :: G, k => by
    have ih := marked_len (G := G) (k := k + 1)
    unfold marked
    by_cases h : g.m = 3
    · rw [if_pos h, List.length_cons, List.length_cons]; omega
    · rw [if_neg h, List.length_cons]; omega
set_option maxHeartbeats 8000000 in
theorem law_fin {w : World} {dp un : Nat} {gd : Option (List Code)} {cn : Str} {a : Addr} {ccd : Value} {outer : List Env} {A₀ : Around} {base h₀ : Heap} {L : Addr} {m : Str → Option Value}
    {news : List (Addr × Obj)} {s : Shared} {E : Value → Shared → Prop} {Q : Flow → Shared → Prop} {p : Program} {loose : List Str} {mean : ExcName → Option Value} {mg mb : Str → Option Value}
    {c1 c2 c3 c4 c5 : Addr} {o2 o5 : Obj} {t2 tb tm : Tok} {lth ldue : Addr} {lli : Value} {nth ndue : Nat} {a0 : Adr} {As' : List Adr} {G : List Nd} {K : List (Addr × Obj)} {vs : List Value} {ns : List Int}
    (B : Below A₀ base outer h₀) (F : Fr h₀ L s.heap m) (X : (fr.heap_1 w.params).In h₀) (N : News h₀ L s.heap news) (T : Top p loose mean mg mb h₀)
    (hdp : dp < 439) (hun : un < 3900) (GI : GraphIn news (a0 :: As') G) (hAs : (a0 :: As').length ≤ 4) (hKp : Kept (a0 :: As') K news)
    (hhe : m "here" = some (.ref a0.x)) (hba : m "back" = some (.str "" tb)) (hst : m "steps" = some (.int (msum G : Int) tm)) (hth : m "things" = some (.ref lth)) (hli : m "links" = some lli)
    (kth : (lth, listOf ((a0 :: As').map fun a => Value.ref a.x).toArray nth) ∈ K) (k2 : (c2, o2) ∈ K) (d2 : o2.data = .cell (some (.int ((a0 :: As').length : Int) t2))) (k5 : (c5, o5) ∈ K) (d5 : o5.data = .cell (some (.ref ldue)))
    (kdue : (ldue, listOf vs.toArray ndue) ∈ K) (hI : IntsAre vs ns) (hmk : ns = marked G 1) (h03 : ∀ g ∈ G, g.m = 3 ∨ g.m = 0)
    (ret : ∀ h' tk' m' news', Fr h₀ L h' m' → News h₀ L h' news' → Q (.ret (.bool true)) { s with heap := h', toks := tk' }) :
    wpAny (model PySem.Challenge.rw_xm0934_01.row.prog w) (ktrTop dp un gd cn (lawScope w.params) L a ccd [("due", c5), ("at", c4), ("world", c3), ("many", c2), ("cells", c1)] outer) (execs ((lawStmts w.params).drop 11) (envX cn (lawScope w.params) L a ccd [("due", c5), ("at", c4), ("world", c3), ("many", c2), ("cells", c1)])) Q E s := by
  revert X; k_fill; intro X
  generalize hsc : lawScope w.params = sc at *
  obtain rfl := hsc.symm.trans (show lawScope w.params = Scope.mk _ _ _ _ _ from rfl)
  clear hsc
  refine cut13 (b := lawStmts w.params) (P := fun b => wpAny _ _ (execs (b.drop 11) _) _ _ _) rfl ?_
  dsimp only [List.drop]
  replace F := frFive F hhe hba hst hth hli
  have hsum : msum G = 3 * ns.length := by rw [hmk]; exact marked_sum h03
  have hlen : vs.length = ns.length := hI.length
  have hn4 : ns.length ≤ 4 := by
    have := marked_len (G := G) (k := 1)
    rw [hmk]
    have := GI.len
    omega
  have hdc : decide ((msum G : Int) = 3 * (ns.length : Int)) = true := decide_eq_true (by omega)
  obtain ⟨hx, hdd, hf⟩ := GI.node 0 a0 rfl
  repeat' ((fail_if_success (with_reducible show wpAny _ _ (eval (Expr.ListComp _ _ _ _) _) _ _ _)); first | (k_unfold; (try dsimp only)) | (k_end; wrow_close) | walk1 | (dsimp only; walk1) | (leave1; try dsimp only) | fail "no step")
  any_goals (exfalso; omega)
  rename Fr _ _ _ _ => F9
  refine LCg.ListComp_U (cl := []) F9 (by with_unfolding_all rfl) (by decide) rfl (by decide) rfl ?_
  repeat' ((fail_if_success (with_reducible show wpAny _ _ (exec (Stmt.While _ _ _ _) _) _ _ _)); first | (k_unfold; (try dsimp only)) | (k_end; wrow_close) | walk1 | (dsimp only; walk1) | (leave1; try dsimp only) | fail "no step")
  rename Fr _ _ _ _ => F9
  rename News _ _ _ _ => N9
  refine LCg.CompSrc.ledger rfl F9 N9 (hKp.sub _ kth) (by rw [sizeLine_eq]; simp at hAs ⊢; omega) fun g9 => rest_inv (fun i ys nw => IntsAre ys ((G.take i).map fun g => (g.m : Int)) ∧ ∀ q ∈ news, q ∈ nw) ⟨.nil, fun q hq => hq⟩ ?_ ?_
  · intro i v ys nw I oI C oC D m₂ h tk E' hv hi hy hinv hNs hm2 F2 N2 off ne
    clear F9 N9
    obtain ⟨hin, hkp⟩ := hinv
    rw [List.getElem?_toArray, List.getElem?_map] at hv
    obtain ⟨a1, hA, rfl⟩ := Option.map_eq_some_iff.mp hv
    clear hv
    have hGi : i < G.length := by rw [← GI.len]; exact (List.getElem?_eq_some_iff.mp hA).1
    have hg : G[i]? = some G[i] := by simp [hGi]
    obtain ⟨v0, v1, t3, n3, hv, hl0, hl1⟩ := GI.vals _ _ _ hA hg
    obtain ⟨hx', hdd', hf'⟩ := GI.node _ _ hA
    replace hv := hkp _ hv
    replace hx' := hkp _ hx'
    replace hdd' := hkp _ hdd'
    replace hf' := hkp _ hf'
    repeat' ((fail_if_success (with_reducible show wpAny _ _ (exec (Stmt.While _ _ _ _) _) _ _ _)); first | (k_unfold; (try dsimp only)) | (k_end; wrow_close) | walk1 | (dsimp only; walk1) | (leave1; try dsimp only) | fail "no step")
    rename Fr _ _ _ _ => F3
    rename News _ _ _ _ => N3
    exact ⟨_, _, nw, rfl, F3, N3, off, .inr ⟨_, hkp _ (hKp.sub _ kth), rfl, _, rfl⟩, by rw [take_next hg, List.map_append]; exact intsSnoc hin, hkp⟩
  · intro ys nw hyl hinv D h tk F2 N2 off
    clear F9 N9
    obtain ⟨hI1, hkp⟩ := hinv
    have KP := hKp.all hkp
    repeat' ((fail_if_success (with_reducible show wpAny _ _ (eval (Expr.ListComp _ _ _ _) _) _ _ _)); first | (k_unfold; (try dsimp only)) | (k_end; wrow_close) | walk1 | (dsimp only; walk1) | (leave1; try dsimp only) | fail "no step")
    rename Fr _ _ _ _ => F9
    refine LCg.ListComp_U (cl := [("due", c5)]) F9 (by with_unfolding_all rfl) (by decide) rfl (by decide) rfl ?_
    repeat' ((fail_if_success (with_reducible show LCg.CompSrc _ _ _ _ _ _ _ _ _ _ _ _ _ _)); (fail_if_success (with_reducible show wpAny _ _ (eval (Expr.ListComp _ _ _ _) _) _ _ _)); first | (k_unfold; (try dsimp only)) | (k_end; wrow_close) | walk1 | (dsimp only; walk1) | (leave1; try dsimp only) | fail "no step")
    rename Fr _ _ _ _ => F9
    rename News _ _ _ _ => N9
    rename IsRange _ _ _ _ _ _ _ _ => hR
    refine LCg.CompSrc.range (n := (a0 :: As').length) rfl F9 N9 hR (small4 hAs) (size4 hAs) (by rw [sizeLine_eq]; omega) fun g9 => rest_inv (fun i ys2 nw2 => IntsAre ys2 ((G.take i).map fun g => (g.m : Int)) ∧ ∀ q ∈ (D, lstO ys) :: nw, q ∈ nw2) ⟨.nil, fun q hq => by repeat (first | exact hq | refine List.mem_cons_of_mem _ ?_)⟩ ?_ ?_
    · intro i v ys2 nw2 I oI C oC D2 m₂ h2 tk2 E' hv hi hy2 hinv hNs hm2 F3 N3 off3 ne3
      clear F9 N9
      obtain ⟨hin, hkp2⟩ := hinv
      obtain ⟨tv, rfl⟩ := hv
      have KP2 := KP.cons.all hkp2
      have hGi : i < G.length := by rw [← GI.len]; exact hi
      have hg : G[i]? = some G[i] := by simp [hGi]
      have hany : ns.any (· == (0 + (i : Int) + 1)) = decide (G[i].m = 3) := by
        rw [Bool.eq_iff_iff, List.any_eq_true, decide_eq_true_iff]
        constructor
        · rintro ⟨x, hx, e⟩
          have e' : x = 0 + (i : Int) + 1 := eq_of_beq e
          subst e'
          rw [hmk] at hx
          obtain ⟨j, g, hj, hm, e⟩ := marked_mem.mp hx
          have : j = i := by omega
          subst this
          rw [hg] at hj
          cases hj
          exact hm
        · intro hm
          exact ⟨0 + (i : Int) + 1, by rw [hmk]; exact marked_mem.mpr ⟨i, _, hg, hm, by omega⟩, by simp⟩
      repeat' ((fail_if_success (with_reducible show wpAny _ _ (compareOp CmpOp.In _ _) _ _ _)); first | (k_unfold; (try dsimp only)) | (k_end; wrow_close) | walk1 | (dsimp only; walk1) | (leave1; try dsimp only) | fail "no step")
      rename News _ _ _ _ => N4
      refine in_list_ints (PySem.IsL.isList (n := ndue) (N4 (ldue, listOf vs.toArray ndue) (by k_mem)).1) hI ?_
      rw [hany]
      rcases h03 G[i] (List.getElem_mem hGi) with hm | hm
      · rw [hm]
        tb_rel
        rename Fr _ _ _ _ => F4
        rename News _ _ _ _ => N5
        exact ⟨_, _, nw2, rfl, F4, N5, off3, trivial, by rw [take_next hg, List.map_append, List.map_singleton, hm]; exact intsSnoc hin, hkp2⟩
      · rw [hm]
        tb_rel
        rename Fr _ _ _ _ => F4
        rename News _ _ _ _ => N5
        exact ⟨_, _, nw2, rfl, F4, N5, off3, trivial, by rw [take_next hg, List.map_append, List.map_singleton, hm]; exact intsSnoc hin, hkp2⟩
    · intro ys2 nw2 hyl2 hinv D2 h2 tk2 F3 N3 off3
      clear F9 N9
      obtain ⟨hI2, hkp2⟩ := hinv
      refine my_eqInts N3 (.tail _ (hkp2 _ (.head _))) (.head _) hI1 hI2 ?_ (by ke_room) ?_
      · rw [List.take_of_length_le (by rw [← GI.len]; simp), List.take_of_length_le (by rw [GI.len]; exact Nat.le_refl _)]
      · exact ret _ _ _ _ F3 N3
end
theorem off_16 : True := by
  w_top off
  trivial
section
local macro_rules | `(tactic| k_mem) => `(tactic| first | exact Kept.sub (by assumption) _ (by assumption) | fail "no k_mem")
local macro_rules | `(tactic| walk_at "call ref") => `(tactic| (k_here; (with_reducible show wpAny _ _ (call (Value.ref 303) [Value.ref _]) _ _ _); k_dflt (refine' reach_call ?k1 ?k2 ?k3 ?k4 ?k5 ?k6 ?k7 ?k8 ?k9 ?k10 ?k11 ?k12 ?k13 ?k14 ?_; (case k1 => k_asm); (case k2 => k_asm); (case k3 => k_asm); (case k4 => k_asm); (case k5 => k_asm); (case k6 => exact rfl); (case k7 => ktr_rel); (case k8 => ktr_rel); (case k9 => (refine' GraphIn.mono (by assumption) ?gm; (case gm => (intro q9 hq9 _; repeat (first | exact hq9 | exact List.mem_cons_of_mem _ hq9 | refine List.mem_cons_of_mem _ ?_))))); (case k10 => assumption); (case k11 => assumption); (case k12 => k_mem); (case k13 => assumption); (case k14 => assumption); k_whole); intro h' tk' news' D' c' vs' ns' F' N' l' kp' GI' I' P' S' M'; have KP' := Kept.byD kp' (by repeat (first | assumption | apply Kept.cons))))
local macro_rules | `(tactic| walk_at "call ref") => `(tactic| (k_here; (with_reducible show wpAny _ _ (call (Value.ref 336) [Value.ref _, _, _]) _ _ _); k_dflt (refine' links_call ?k1 ?k2 ?k3 ?k4 ?k5 ?k6 ?k7 ?k8 ?k9 ?k10 ?k11 ?k12 ?k13 ?k14 ?k15 ?_; (case k1 => k_asm); (case k2 => k_asm); (case k3 => k_asm); (case k4 => k_asm); (case k5 => k_asm); (case k6 => exact rfl); (case k7 => ktr_rel); (case k8 => ktr_rel); (case k9 => (refine' GraphIn.mono (by assumption) ?gm; (case gm => (intro q9 hq9 _; repeat (first | exact hq9 | exact List.mem_cons_of_mem _ hq9 | refine List.mem_cons_of_mem _ ?_))))); (case k10 => assumption); (case k11 => assumption); (case k12 => k_mem); (case k13 => assumption); (case k14 => assumption); (case k15 => assumption); k_whole); intro h' tk' news' D' c' ls' F' N' m' fd' kp'; have KP' := Kept.all kp' (by repeat (first | assumption | apply Kept.cons))))
theorem rch_bd {news : List (Addr × Obj)} {As : List Adr} {G : List Nd} (GI : GraphIn news As G) (h0 : As ≠ []) {j : Nat} (h : Rch G [1] j) : j ≠ 0 ∧ j ≤ G.length := by
  induction h with
  | root hk k0 =>
    rw [List.mem_singleton] at hk
    subst hk
    refine ⟨k0, ?_⟩
    rw [← GI.len]
    exact List.length_pos_iff.mpr h0
  | kid _ hc _ =>
    obtain ⟨c0, g, k0, hg, hc⟩ := hc
    have hi := (List.getElem?_eq_some_iff.mp hg).1
    rw [← GI.len] at hi
    obtain ⟨v0, v1, t, n, _, hl, hr⟩ := GI.vals _ _ _ (List.getElem?_eq_getElem hi) hg
    refine ⟨c0, ?_⟩
    rw [← GI.len]
    rcases hc with rfl | rfl
    · rcases hl with ⟨e, _⟩ | ⟨a, _, ha, _⟩
      · exact absurd e c0
      · have := (List.getElem?_eq_some_iff.mp ha).1; omega
    · rcases hr with ⟨e, _⟩ | ⟨a, _, ha, _⟩
      · exact absurd e c0
      · have := (List.getElem?_eq_some_iff.mp ha).1; omega
set_option maxHeartbeats 8000000 in
theorem law_e {w : World} {dp un : Nat} {gd : Option (List Code)} {cn : Str} {a : Addr} {ccd : Value} {outer : List Env} {A₀ : Around} {base h₀ : Heap} {L : Addr} {m : Str → Option Value}
    {news : List (Addr × Obj)} {s : Shared} {E : Value → Shared → Prop} {Q : Flow → Shared → Prop} {p : Program} {loose : List Str} {mean : ExcName → Option Value} {mg mb : Str → Option Value}
    {c1 c2 c3 c4 c5 : Addr} {o2 o5 : Obj} {t2 : Tok} {lth lli ldue : Addr} {nth nli ndue : Nat} {As : List Adr} {G0 : List Nd} {ls : List Addr} {K : List (Addr × Obj)} {vs : List Value} {ns : List Int}
    (B : Below A₀ base outer h₀) (F : Fr h₀ L s.heap m) (X : (fr.heap_1 w.params).In h₀) (N : News h₀ L s.heap news) (T : Top p loose mean mg mb h₀)
    (hE : PassesOwn (model PySem.Challenge.rw_xm0934_01.row.prog w) (ktrTop dp un gd cn (lawScope w.params) L a ccd [("due", c5), ("at", c4), ("world", c3), ("many", c2), ("cells", c1)] outer) (envX cn (lawScope w.params) L a ccd [("due", c5), ("at", c4), ("world", c3), ("many", c2), ("cells", c1)]) E)
    (hdp : dp < 439) (hun : un < 3900) (GI : GraphIn news As G0) (AP : Apart As) (hAs : As.length ≤ 4) (hA0 : As ≠ []) (hG : ∀ g ∈ G0, g.m = 0) (hKp : Kept As K news)
    (hth : m "things" = some (.ref lth)) (hli : m "links" = some (.ref lli)) (kth : (lth, listOf (As.map fun a => Value.ref a.x).toArray nth) ∈ K) (kli : (lli, listOf (ls.map Value.ref).toArray nli) ∈ K) (hfd : FoundIn K ls (linksOf G0))
    (k2 : (c2, o2) ∈ K) (d2 : o2.data = .cell (some (.int (As.length : Int) t2))) (k5 : (c5, o5) ∈ K) (d5 : o5.data = .cell (some (.ref ldue))) (kdue : (ldue, listOf vs.toArray ndue) ∈ K) (hI : IntsAre vs ns) (hs : ns.Pairwise (· ≤ ·)) (hnd : ns.Nodup)
    (hmem : ∀ k : Int, k ∈ ns ↔ ∃ j : Nat, k = j ∧ Rch G0 [1] j)
    (ret : ∀ h' tk' m' news', Fr h₀ L h' m' → News h₀ L h' news' → Q (.ret (.bool true)) { s with heap := h', toks := tk' }) :
    wpAny (model PySem.Challenge.rw_xm0934_01.row.prog w) (ktrTop dp un gd cn (lawScope w.params) L a ccd [("due", c5), ("at", c4), ("world", c3), ("many", c2), ("cells", c1)] outer) (execs ((lawStmts w.params).drop 9) (envX cn (lawScope w.params) L a ccd [("due", c5), ("at", c4), ("world", c3), ("many", c2), ("cells", c1)])) Q E s := by
  revert X; k_fill; intro X
  generalize hsc : lawScope w.params = sc at *
  obtain rfl := hsc.symm.trans (show lawScope w.params = Scope.mk _ _ _ _ _ from rfl)
  clear hsc
  refine cut13 (b := lawStmts w.params) (P := fun b => wpAny _ _ (execs (b.drop 9) _) _ _ _) rfl ?_
  dsimp only [List.drop]
  obtain ⟨a0, As', rfl⟩ : ∃ a0 As', As = a0 :: As' := by
    cases As with
    | nil => exact absurd rfl hA0
    | cons a0 As' => exact ⟨a0, As', rfl⟩
  have nth' := hKp.sub _ kth
  replace F := frTwo F hth hli
  tb_rel
  rename News _ _ _ _ => N9
  rename Fr _ _ _ _ => F9
  refine While_inv2 (fun k m₁ news₁ => ∃ G h b st vh vb t, m₁ "here" = some vh ∧ m₁ "back" = some vb ∧ m₁ "steps" = some (.int (msum G : Int) t) ∧ m₁ "things" = some (.ref lth) ∧ m₁ "links" = some (.ref lli) ∧ LinkV (a0 :: As') vh h ∧ LinkV (a0 :: As') vb b ∧
    GraphIn news₁ (a0 :: As') G ∧ SW G0 (linksOf G0) G h b st ∧ k + msum G = 3 * (a0 :: As').length + 1 ∧ Kept (a0 :: As') K news₁) (n₀ := 3 * (a0 :: As').length + 1) F9 N9 ⟨G0, 1, 0, [], _, _, _, rfl, rfl, by rw [msum_zero hG]; rfl, rfl, rfl, .inr ⟨a0, by decide, rfl, rfl⟩, .inl ⟨rfl, _, rfl⟩, GI.mono fun q hq _ => .tail _ hq, SW.start hG, by rw [msum_zero hG], hKp.cons⟩ ?_ hE
  clear F9 N9
  rintro k m₁ news₁ h₁ tk₁ F₁ N₁ ⟨G, h, b, st, vh, vb, tm, f1, f2, f3, f4, f5, hlh, hlb, GI1, S, hk, KP⟩
  have F₂ := frFive F₁ f1 f2 f3 f4 f5
  clear F₁
  have hle : msum G ≤ 3 * (a0 :: As').length := by rw [GI1.len]; exact msum_le S.le
  have hdec : decide ((msum G : Int) ≤ 3 * (((a0 :: As').length : Nat) : Int)) = true := decide_eq_true (by omega)
  have hsame : ∀ ns', ns'.Pairwise (· ≤ ·) → ns'.Nodup → (∀ k : Int, k ∈ ns' ↔ ∃ j : Nat, k = j ∧ Rch G [h, b] j) → ns' = ns := fun ns' q1 q2 q3 => sorted_same q1 hs q2 hnd fun k => by rw [q3, hmem]; exact exists_congr fun j => and_congr_right fun _ => S.rc j
  have hch := S.ch
  repeat' ((fail_if_success (with_reducible show wpAny _ _ (compareOp CmpOp.NotEq (Value.ref _) (Value.ref _)) _ _ _)); (fail_if_success (with_reducible show wpAny _ _ (call (Value.ref 324) _) _ _ _)); first | (k_unfold; (try dsimp only)) | (k_end; wrow_close) | walk1 | (dsimp only; walk1) | (leave1; try dsimp only) | fail "no step")
  refine my_neInts (by k_asm) (by k_mem) (by k_mem) (by assumption) (by assumption) (hsame _ (by assumption) (by assumption) (by assumption)) (by ke_room) ?_
  repeat' ((fail_if_success (with_reducible show wpAny _ _ (compareOp CmpOp.NotEq (Value.ref _) (Value.ref _)) _ _ _)); (fail_if_success (with_reducible show wpAny _ _ (call (Value.ref 324) _) _ _ _)); first | (k_unfold; (try dsimp only)) | (k_end; wrow_close) | walk1 | (dsimp only; walk1) | (leave1; try dsimp only) | fail "no step")
  refine my_neLinks (by k_asm) (by k_mem) (by k_mem) (by assumption) (hfd.mono fun q hq _ => Kept.sub ‹Kept _ K _› q hq) S.dc (by ke_room) ?_
  repeat' ((fail_if_success (with_reducible show wpAny _ _ (compareOp CmpOp.NotEq (Value.ref _) (Value.ref _)) _ _ _)); (fail_if_success (with_reducible show wpAny _ _ (call (Value.ref 324) _) _ _ _)); first | (k_unfold; (try dsimp only)) | (k_end; wrow_close) | walk1 | (dsimp only; walk1) | (leave1; try dsimp only) | fail "no step")
  rename GraphIn _ _ G => GIr
  rename News _ _ _ _ => Nr
  rename Fr _ _ _ _ => Fr9
  rename Kept _ _ _ => KPr
  rename (∀ q : Addr × Obj, _ → q ∈ _) => kpr
  have GI3 := GIr.mono fun q hq _ => kpr q (.tail _ hq)
  clear GIr kpr GI1 KP
  by_cases hA : h ≠ 0 ∧ mkOf G h = 0
  · obtain ⟨h0, hmk⟩ := hA
    rcases hlh with ⟨hz, _⟩ | ⟨a1, _, hA1, rfl⟩
    · exact absurd hz h0
    obtain ⟨g, hg⟩ : ∃ g, G[h - 1]? = some g := ⟨_, List.getElem?_eq_getElem (by rw [← GI3.len]; exact (List.getElem?_eq_some_iff.mp hA1).1)⟩
    rw [mkOf_eq hg] at hmk
    k_dflt (refine' step_down B Fr9 X Nr T rfl ?k7 ?k8 GI3 AP h0 hA1 hg hmk hlb ?_)
    (case k7 => ktr_rel); (case k8 => ktr_rel)
    intro h' tk' D w1 w2 news' F' N' lt' kp' GI' hw1 hw2
    have KP' := Kept.byV kp' KPr
    tb_rel
    rename Fr _ _ _ _ => F9
    refine wpAny_loadName_local rfl rfl F9.ns rfl ?_
    tb_rel
    rename Fr _ _ _ _ => F8
    rename News _ _ _ _ => N8
    have hms' : msum (G.set (h - 1) ⟨b, g.r, 1⟩) = msum G + 1 := msum_set hg (by simp [hmk])
    refine ⟨_, _, _, _, k - 1, rfl, F8, N8, by omega, G.set (h - 1) ⟨b, g.r, 1⟩, g.l, h, h :: st, _, _, _, rfl, rfl, by rw [hms']; rfl, rfl, rfl, hw1, hw2, GI'.mono fun q hq _ => .tail _ hq, S.down h0 hg hmk, by omega, KP'.cons⟩
  · have hh : (h = 0 ∧ ∃ t, vh = .str "" t) ∨ ∃ a2 g2, h ≠ 0 ∧ (a0 :: As')[h - 1]? = some a2 ∧ G[h - 1]? = some g2 ∧ g2.m ≠ 0 ∧ vh = .ref a2.x := by
      rcases hlh with hz | ⟨a1, h0, hA1, e⟩
      · exact .inl hz
      · obtain ⟨g, hg⟩ : ∃ g, G[h - 1]? = some g := ⟨_, List.getElem?_eq_getElem (by rw [← GI3.len]; exact (List.getElem?_eq_some_iff.mp hA1).1)⟩
        exact .inr ⟨a1, g, h0, hA1, hg, fun q => hA ⟨h0, by rw [mkOf_eq hg]; exact q⟩, e⟩
    have hm2 : h = 0 ∨ mkOf G h ≠ 0 := by
      by_cases h0 : h = 0
      · exact .inl h0
      · exact .inr fun q => hA ⟨h0, q⟩
    rcases hlb with ⟨hz, tz, rfl⟩ | ⟨a1, b0, hA1, rfl⟩
    · subst hz
      obtain ⟨h1, hfin⟩ := S.fin hm2
      k_dflt (refine' step_none B Fr9 X Nr T rfl ?k7 ?k8 GI3 hh ?_)
      (case k7 => ktr_rel); (case k8 => ktr_rel)
      intro h' tk' F' N'
      tb_rel
      dsimp only
      tb_rel
      show wpAny _ _ (execs _ _) Q E _
      rename Fr _ _ _ _ => F8
      rename News _ _ _ _ => N8
      subst h1
      have evh : vh = .ref a0.x := by
        rcases hlh with ⟨q, _⟩ | ⟨a1, _, hA1, e⟩
        · cases q
        · cases hA1; exact e
      subst evh
      have hmk := marked_due (GI3.len.symm.trans GI.len) hfin (fun j hj => rch_bd GI (by simp) hj) hs hnd hmem
      have h03 : ∀ g ∈ G, g.m = 3 ∨ g.m = 0 := fun g hg => by
        obtain ⟨i, hi⟩ := List.getElem?_of_mem hg
        rcases hfin (i + 1) g (by omega) hi with q | q
        · exact .inl q.1
        · exact .inr q.1
      k_dflt (exact law_fin B F8 X N8 T hdp hun GI3 hAs KPr rfl rfl rfl rfl rfl kth k2 d2 k5 d5 kdue hI hmk h03 ret)
    · rcases hch.inv with ⟨hz, _⟩ | ⟨g, st'', _, rfl, hg, ⟨hm, hch'⟩ | ⟨hm, hch'⟩⟩
      · exact absurd hz b0
      · k_dflt (refine' step_turn B Fr9 X Nr T rfl ?k7 ?k8 GI3 AP hh hlh b0 hA1 hg hm ?_)
        (case k7 => ktr_rel); (case k8 => ktr_rel)
        intro h' tk' D w1 w2 news' F' N' lt' kp' GI' hw1 hw2
        have KP' := Kept.byV kp' KPr
        tb_rel
        rename Fr _ _ _ _ => F9
        refine wpAny_loadName_local rfl rfl F9.ns rfl ?_
        tb_rel
        rename Fr _ _ _ _ => F8
        rename News _ _ _ _ => N8
        have hms' : msum (G.set (b - 1) ⟨h, g.l, 2⟩) = msum G + 1 := msum_set hg (by simp [hm])
        refine ⟨_, _, _, _, k - 1, rfl, F8, N8, by omega, G.set (b - 1) ⟨h, g.l, 2⟩, g.r, b, b :: st'', _, _, _, rfl, rfl, by rw [hms']; rfl, rfl, rfl, hw1, hw2, GI'.mono fun q hq _ => .tail _ hq, S.turn b0 hg hm hch' hm2, by omega, KP'.cons⟩
      · k_dflt (refine' step_up B Fr9 X Nr T rfl ?k7 ?k8 GI3 AP hh hlh b0 hA1 hg hm ?_)
        (case k7 => ktr_rel); (case k8 => ktr_rel)
        intro h' tk' D w1 w2 news' F' N' lt' kp' GI' hw1 hw2
        have KP' := Kept.byV kp' KPr
        tb_rel
        rename Fr _ _ _ _ => F9
        refine wpAny_loadName_local rfl rfl F9.ns rfl ?_
        tb_rel
        rename Fr _ _ _ _ => F8
        rename News _ _ _ _ => N8
        have hms' : msum (G.set (b - 1) ⟨g.l, h, 3⟩) = msum G + 1 := msum_set hg (by simp [hm])
        refine ⟨_, _, _, _, k - 1, rfl, F8, N8, by omega, G.set (b - 1) ⟨g.l, h, 3⟩, b, g.r, st'', _, _, _, rfl, rfl, by rw [hms']; rfl, rfl, rfl, hw1, hw2, GI'.mono fun q hq _ => .tail _ hq, S.up b0 hg hm hch' hm2, by omega, KP'.cons⟩
end
theorem my_storeC {M : Model} {A : Around} {E : Value → Shared → Prop} {s : Shared} {h₀ : Heap} {L a : Addr} {m : Str → Option Value} {cn : Str} {cs : Scope} {ccd : Value} {cl : List (Str × Addr)} {news : List (Addr × Obj)} {x : Str} {c : Addr} {o : Obj} {v₀ : Option Value} {v : Value} {Q : Unit → Shared → Prop}
    (F : Fr h₀ L s.heap m) (N : News h₀ L s.heap news) (hc : cl.lookup x = some c) (hm : (c, o) ∈ news) (hd : o.data = .cell v₀) (h : ∀ h' o', Fr h₀ L h' m → News h₀ L h' (setL c o' news) → o'.data = .cell (some v) → Q () { s with heap := h' })
    (hk : cs.kind = .function := by rfl) (hx : (envX cn cs L a ccd cl).kindOf x = some .cell := by rfl) : wpAny M A (storeName (envX cn cs L a ccd cl) x v) Q E s :=
  storeX_C F (newsHead N hm) hc (UpdF.head setL_off) hd h hk hx
section
variable {prog : Program} {w : World} {A : Around} {E : Value → Shared → Prop} {Q : Flow → Shared → Prop} {s : Shared} {h₀ : Heap} {m : Str → Option Value} {news : List (Addr × Obj)} {env : Env} {body : List Stmt}
theorem letGo_name {x : Str} {px : Pos} {it v : Value} {Q' : Unit → Shared → Prop} (h : Q' () s) : wpAny (model prog w) A (letOwnedTupleGo (.Name x px) it v) Q' E s := by
  unfold letOwnedTupleGo
  exact wpAny_pure h
theorem turns_gen {x : Str} {px : Pos} {I : Addr} {fp : List Addr} {n : Nat} {P : Nat → Value → Prop} {St : Nat → Heap → Prop} (W : Walks prog w A I fp [I] n P St) (hI₀ : h₀.get? I = none) (hLf : env.locals ∉ fp) (hst : St 0 s.heap)
    (F : Fr h₀ env.locals s.heap m) (N : News h₀ env.locals s.heap news) (off : ∀ p ∈ news, p.1 ≠ I) (hIo : ∀ i h, St i h → ∃ o, h.get? I = some o) (J : Nat → (Str → Option Value) → List (Addr × Obj) → Prop) (h0 : J 0 m news)
    (keep : List (Addr × Obj)) (hfp : ∀ b ∈ fp, b = I ∨ ∃ o, (b, o) ∈ keep) (hkeep : ∀ i m₁ n₁, J i m₁ n₁ → ∀ q ∈ keep, q ∈ n₁)
    (turn : ∀ i v m₁ news₁ oI h tk, i < n → P i v → J i m₁ news₁ → (∀ p ∈ news₁, p.1 ≠ I) → Fr h₀ env.locals h m₁ → News h₀ env.locals h ((I, oI) :: news₁) →
      wpAny (model prog w) A (assign (.Name x px) env v) (fun _ s₃ => wpAny (model prog w) A (execs body env) (FlowEnd h₀ env.locals I oI (J (i + 1)) { s with heap := h, toks := tk } Q) E s₃) E { s with heap := h, toks := tk })
    (done : ∀ h' tk m' news', Fr h₀ env.locals h' m' → News h₀ env.locals h' news' → J n m' news' → Q .next { s with heap := h', toks := tk }) :
    TurnsAt prog w A h₀ env (.Name x px) body Q E (.ref I) s := by
  refine ⟨I, fp, [I], n, _, _, St, m, news, J, rfl, KTurns.ofWalks W (fun _ _ _ _ _ _ h => letGo_name h), hLf, ?_, ?_, hst, F, N, h0, ?_, fun h' tk m' news' F' N' _ hJ => done h' tk m' news' F' N' hJ⟩
  · intro b hb; rw [List.mem_singleton.mp hb]; exact hI₀
  · intro p hp hI; exact off p hp (List.mem_singleton.mp hI)
  · intro i v m₁ news₁ h₁ tk₁ own hi hP hJ hoff hsub hget hall hst₁ F₁ N₁
    obtain ⟨oI, hoI⟩ := hIo _ _ hst₁
    have hIown : (I, oI) ∈ own := hall I (W.sub I (List.mem_singleton.mpr rfl)) hI₀ oI hoI
    have hoff' : ∀ p ∈ news₁, p.1 ≠ I := fun p hp e => hoff p hp (List.mem_singleton.mpr e)
    have N₂ : News h₀ env.locals h₁ ((I, oI) :: news₁) := newsSub N₁ fun p hp => by
      rcases List.mem_cons.mp hp with rfl | hp
      · exact List.mem_append_left _ hIown
      · exact List.mem_append_right _ hp
    refine wpAny_mono (turn i v m₁ news₁ oI h₁ tk₁ hi hP hJ hoff' F₁ N₂) (fun _ s₃ h₃ => wpAny_mono h₃ (fun f s₄ h₄ => ?_) fun _ _ e => e) fun _ _ e => e
    have key : (∃ h' tk' m' nw', s₄ = { { s with heap := h₁, toks := tk₁ } with heap := h', toks := tk' } ∧ Fr h₀ env.locals h' m' ∧ News h₀ env.locals h' ((I, oI) :: nw') ∧ (∀ p ∈ nw', p.1 ≠ I) ∧ J (i + 1) m' nw') → LoopStepU h₀ env.locals [I] own (J (i + 1)) { s with heap := h₁, toks := tk₁ } .next s₄ := by
      rintro ⟨h', tk', m', nw', rfl, F', N', off', hJ'⟩
      refine LoopStepU.intro F' (fun p hp => ?_) (fun p hp e => off' p hp (List.mem_singleton.mp e)) hJ'
      rcases List.mem_append.mp hp with hp | hp
      · have hg := hget p hp
        rcases hfp p.1 (hsub p hp) with e | ⟨o, ho⟩
        · have e2 : p = (I, oI) := by
            rw [e, hoI] at hg
            exact Prod.ext e (Option.some.inj hg).symm
          rw [e2]; exact N' _ (.head _)
        · have h1 := (N₂ _ (.tail _ (hkeep _ _ _ hJ _ ho))).1
          dsimp only at h1
          rw [hg] at h1
          have e2 : p = (p.1, o) := Prod.ext rfl (Option.some.inj h1)
          rw [e2]; exact N' _ (.tail _ (hkeep _ _ _ hJ' _ ho))
      · exact N' p (.tail _ hp)
    cases f with
    | ret v => exact h₄
    | brk => exact h₄
    | next => exact LoopStepV.next (key h₄)
    | cont => exact LoopStepV.cont (key h₄)
theorem iter_listI {x : Str} {px : Pos} {l : Addr} {its : Array Value} {kk : Nat} (hh : A.handled = none) (F : Fr h₀ env.locals s.heap m) (N : News h₀ env.locals s.heap news) (hl : (l, listOf its kk) ∈ news)
    (J : Nat → (Str → Option Value) → List (Addr × Obj) → Prop) (h0 : J 0 m news) (hkeep : ∀ i m₁ n₁, J i m₁ n₁ → (l, listOf its kk) ∈ n₁)
    (turn : ∀ i v m₁ news₁ I oI h tk, its[i]? = some v → J i m₁ news₁ → (∀ p ∈ news₁, p.1 ≠ I) → Fr h₀ env.locals h m₁ → News h₀ env.locals h ((I, oI) :: news₁) →
      wpAny (model prog w) A (assign (.Name x px) env v) (fun _ s₃ => wpAny (model prog w) A (execs body env) (FlowEnd h₀ env.locals I oI (J (i + 1)) { s with heap := h, toks := tk } Q) E s₃) E { s with heap := h, toks := tk })
    (done : ∀ h' tk m' news', Fr h₀ env.locals h' m' → News h₀ env.locals h' news' → J its.size m' news' → Q .next { s with heap := h', toks := tk }) :
    wpAny (model prog w) A (pyIter (.ref l)) (fun it s₂ => TurnsAt prog w A h₀ env (.Name x px) body Q E it s₂) E s := by
  have hax := N _ hl
  have hls : s.heap.IsList l its := PySem.IsL.isList (n := kk) hax.1
  have hlt : l < s.heap.objs.size := Heap.lt_size hax.1
  have hne : l ≠ s.heap.objs.size := Nat.ne_of_lt hlt
  refine wpAny_pyIter_list hls ?_
  refine turns_gen (Walks.list hh s.heap.objs.size l hne its) (next_is_new F) ?_ ⟨⟨_, Heap.get?_push_size _ rfl, rfl, rfl⟩, hls.at fun o e => Heap.get?_push_of_some _ e⟩ (F.push _) (fun p hp => ⟨Heap.get?_push_of_some _ (N p hp).1, (N p hp).2⟩)
    (fun p hp => Nat.ne_of_lt (Heap.lt_size (N p hp).1)) (fun i h st => by obtain ⟨o, e, _⟩ := st.1; exact ⟨o, e⟩) J h0 [(l, listOf its kk)] (fun b hb => ?_) (fun i m₁ n₁ hJ q hq => by rw [List.mem_singleton.mp hq]; exact hkeep _ _ _ hJ) (fun i v m₁ news₁ oI h tk _ hP hJ off F' N' => turn i v m₁ news₁ _ oI h tk hP hJ off F' N') done
  · intro hI
    rcases List.mem_cons.mp hI with e | hI
    · exact absurd F.ns.lt (e ▸ Nat.lt_irrefl _)
    · exact hax.2.1 (List.mem_singleton.mp hI).symm
  · rcases List.mem_cons.mp hb with e | hb
    · exact .inl e
    · exact .inr ⟨_, by rw [List.mem_singleton.mp hb]; exact List.mem_singleton.mpr rfl⟩
theorem iter_rangeI {x : Str} {px : Pos} {r : Addr} {a b : Int} {t u v : Tok} {n : Nat} (hh : A.handled = none) (F : Fr h₀ env.locals s.heap m) (N : News h₀ env.locals s.heap news) (hr : IsRange s.heap r a b 1 t u v) (hsm : Builtin.Range.small a b 1 = true) (hn : Builtin.Range.rangeSize a b 1 = ((n : Nat) : Int))
    (J : Nat → (Str → Option Value) → List (Addr × Obj) → Prop) (h0 : J 0 m news)
    (turn : ∀ i t m₁ news₁ I oI h tk, i < n → J i m₁ news₁ → (∀ p ∈ news₁, p.1 ≠ I) → Fr h₀ env.locals h m₁ → News h₀ env.locals h ((I, oI) :: news₁) →
      wpAny (model prog w) A (assign (.Name x px) env (.int (a + (i : Int)) t)) (fun _ s₃ => wpAny (model prog w) A (execs body env) (FlowEnd h₀ env.locals I oI (J (i + 1)) { s with heap := h, toks := tk } Q) E s₃) E { s with heap := h, toks := tk })
    (done : ∀ h' tk m' news', Fr h₀ env.locals h' m' → News h₀ env.locals h' news' → J n m' news' → Q .next { s with heap := h', toks := tk }) :
    wpAny (model prog w) A (pyIter (.ref r)) (fun it s₂ => TurnsAt prog w A h₀ env (.Name x px) body Q E it s₂) E s := by
  refine wpAny_pyIter_range hr hsm ?_
  refine turns_gen (LCg.range_walks hh a n) (next_is_new F) ?_ (by show IsRangeIter _ _ _ _ _; rw [hn]; simpa using Heap.get?_push_size _ rfl) (F.push _) (fun p hp => ⟨Heap.get?_push_of_some _ (N p hp).1, (N p hp).2⟩)
    (fun p hp => Nat.ne_of_lt (Heap.lt_size (N p hp).1)) (fun i h st => ⟨_, st⟩) J h0 [] (fun b hb => .inl (List.mem_singleton.mp hb)) (fun _ _ _ _ q hq => nomatch hq) (fun i v m₁ news₁ oI h tk hi hP hJ off F' N' => by
      obtain ⟨t, rfl⟩ := hP
      exact turn i t m₁ news₁ _ oI h tk hi hJ off F' N') done
  · intro hI
    exact absurd F.ns.lt (List.mem_singleton.mp hI ▸ Nat.lt_irrefl _)
end
theorem off_17 : True := by
  w_top off
  trivial
section
variable {prog : Program} {w : World} {A : Around} {E : Value → Shared → Prop} {s : Shared} {h₀ : Heap} {L D : Addr} {m : Str → Option Value} {news : List (Addr × Obj)} {n : Nat}
theorem my_append {us : List Value} {x : Value} {Q : Value → Shared → Prop} (F : Fr h₀ L s.heap m) (N : News h₀ L s.heap news) (hm : (D, listOf us.toArray n) ∈ news) (hz : us.length < 100)
    (h : ∀ h', Fr h₀ L h' m → News h₀ L h' (setL D (listOf (us ++ [x]).toArray (n + 1)) news) → Q .none { s with heap := h' }) : wpAny (model prog w) A (call (.builtin "list.append") [.ref D, x]) Q E s :=
  append_K F (newsHead N hm) (by have e : us.toArray.push x = (us ++ [x]).toArray := by simp
                                 rw [e]; exact Upd.head setL_off) h (by rw [sizeLine_eq]; simp; omega)
theorem my_notinI {vs : List Value} {ns : List Int} {k : Int} {t : Tok} {b : Bool} {Q : Value → Shared → Prop} (N : News h₀ L s.heap news) (hm : (D, listOf vs.toArray n) ∈ news) (hI : IntsAre vs ns) (hb : decide (k ∈ ns) = b) (h : Q (.bool (!b)) s) :
    wpAny (model prog w) A (compareOp .NotIn (.int k t) (.ref D)) Q E s := by
  refine notin_list_ints (IsL.isList (n := n) (N _ hm).1) hI ?_
  have e : (ns.any fun x => x == k) = b := by
    rw [← hb, Bool.eq_iff_iff]
    simp only [List.any_eq_true, decide_eq_true_eq, beq_iff_eq]
    exact ⟨fun ⟨x, hx, e⟩ => e ▸ hx, fun h => ⟨k, h, rfl⟩⟩
  rw [e]; exact h
end
theorem intsGet {k : Int} : ∀ {vs : List Value} {ns : List Int} {i : Nat}, IntsAre vs ns → ns[i]? = some k → ∃ t, vs[i]? = some (.int k t)
  | _, _, _, .nil, h => by simp at h
  | _, _, 0, .cons n t r, h => by
    simp only [List.getElem?_cons_zero, Option.some.injEq] at h
    subst h
    exact ⟨t, rfl⟩
  | _, _, i + 1, .cons n t r, h => by
    obtain ⟨u, hu⟩ := intsGet (i := i) r (by simpa using h)
    exact ⟨u, by simpa using hu⟩
theorem castMem {x : Nat} {js : List Nat} : ((x : Nat) : Int) ∈ js.map (fun (j : Nat) => (j : Int)) ↔ x ∈ js := by
  rw [List.mem_map]
  exact ⟨fun ⟨j, hj, e⟩ => by rw [← Int.ofNat.inj e]; exact hj, fun h => ⟨x, h, rfl⟩⟩
theorem two_get {a b v : Value} {t : Nat} (h : (#[a, b] : Array Value)[t]? = some v) : (t = 0 ∧ v = a) ∨ (t = 1 ∧ v = b) := by
  match t, h with
  | 0, h => exact .inl ⟨rfl, by simpa using h.symm⟩
  | 1, h => exact .inr ⟨rfl, by simpa using h.symm⟩
  | n + 2, h => simp at h
structure DueInv (G : List Nd) (js : List Nat) (i : Nat) : Prop where
  nd : js.Nodup
  rch : ∀ j ∈ js, Rch G [1] j
  one : 1 ∈ js
  le : i ≤ js.length
  kid : ∀ (k j : Nat), k < i → js[k]? = some j → ∀ c, Kid G j c → c ∈ js
structure DueIn (G : List Nd) (js : List Nat) (g : Nd) (t : Nat) (js' : List Nat) : Prop where
  pre : ∃ ext, js' = js ++ ext
  nd : js'.Nodup
  rch : ∀ j ∈ js', Rch G [1] j
  l : 1 ≤ t → g.l = 0 ∨ g.l ∈ js'
  r : 2 ≤ t → g.r = 0 ∨ g.r ∈ js'
theorem DueInv.start {G : List Nd} : DueInv G [1] 0 where
  nd := by simp
  rch := fun j hj => by rw [List.mem_singleton.mp hj]; exact .root (.head _) (by decide)
  one := .head _
  le := Nat.zero_le _
  kid := fun _ _ h => absurd h (Nat.not_lt_zero _)
theorem DueInv.done {G : List Nd} {js : List Nat} (I : DueInv G js js.length) (k : Int) : k ∈ js.map (fun (j : Nat) => (j : Int)) ↔ ∃ j : Nat, k = j ∧ Rch G [1] j := by
  rw [List.mem_map]
  constructor
  · rintro ⟨j, hj, rfl⟩; exact ⟨j, rfl, I.rch j hj⟩
  · rintro ⟨j, rfl, hj⟩
    refine ⟨j, ?_, rfl⟩
    induction hj with
    | root hk _ => rw [List.mem_singleton.mp hk]; exact I.one
    | kid _ hc ih =>
      obtain ⟨i, hi⟩ := List.getElem?_of_mem ih
      exact I.kid i _ (List.getElem?_eq_some_iff.mp hi).1 hi _ hc
theorem DueIn.start {G : List Nd} {js : List Nat} {i : Nat} {g : Nd} (I : DueInv G js i) : DueIn G js g 0 js := ⟨⟨[], by simp⟩, I.nd, I.rch, fun h => absurd h (by decide), fun h => absurd h (by decide)⟩
theorem DueIn.done {G : List Nd} {js js' : List Nat} {i j : Nat} {g : Nd} (I : DueInv G js i) (hj : js[i]? = some j) (hg : G[j - 1]? = some g) (D : DueIn G js g 2 js') : DueInv G js' (i + 1) := by
  have hlt := (List.getElem?_eq_some_iff.mp hj).1
  obtain ⟨ext, rfl⟩ := D.pre
  refine ⟨D.nd, D.rch, List.mem_append_left _ I.one, by rw [List.length_append]; omega, fun k j' hk hj' c hc => ?_⟩
  rw [List.getElem?_append_left (by omega)] at hj'
  by_cases e : k = i
  · subst e
    rw [hj] at hj'; cases hj'
    obtain ⟨c0, g', _, hg', h⟩ := hc
    rw [hg] at hg'; cases hg'
    rcases h with rfl | rfl
    · exact (D.l (by decide)).resolve_left c0
    · exact (D.r (by decide)).resolve_left c0
  · exact List.mem_append_left _ (I.kid k j' (by omega) hj' c hc)
theorem DueIn.skip {G : List Nd} {js js' : List Nat} {g : Nd} {t : Nat} {x : Nat} (D : DueIn G js g t js') (hx : (t = 0 ∧ x = g.l) ∨ (t = 1 ∧ x = g.r)) (h : x = 0 ∨ x ∈ js') : DueIn G js g (t + 1) js' where
  pre := D.pre
  nd := D.nd
  rch := D.rch
  l := fun _ => by
    rcases hx with ⟨e, rfl⟩ | ⟨e, _⟩
    · exact h
    · exact D.l (by omega)
  r := fun q => by
    rcases hx with ⟨e, _⟩ | ⟨_, rfl⟩
    · omega
    · exact h
theorem DueIn.add {G : List Nd} {js js' : List Nat} {g : Nd} {t : Nat} {x j : Nat} (D : DueIn G js g t js') (hx : (t = 0 ∧ x = g.l) ∨ (t = 1 ∧ x = g.r)) (h0 : x ≠ 0) (h : x ∉ js') (hj : Rch G [1] j) (j0 : j ≠ 0) (hg : G[j - 1]? = some g) : DueIn G js g (t + 1) (js' ++ [x]) where
  pre := by obtain ⟨ext, rfl⟩ := D.pre; exact ⟨ext ++ [x], by simp⟩
  nd := by
    rw [List.nodup_append]
    exact ⟨D.nd, by simp, fun a ha b hb e => h (by rw [← List.mem_singleton.mp hb, ← e]; exact ha)⟩
  rch := fun k hk => by
    rcases List.mem_append.mp hk with hk | hk
    · exact D.rch k hk
    · rw [List.mem_singleton.mp hk]
      refine .kid hj ⟨h0, g, j0, hg, ?_⟩
      rcases hx with ⟨_, e⟩ | ⟨_, e⟩
      · exact .inl e
      · exact .inr e
  l := fun _ => by
    rcases hx with ⟨e, rfl⟩ | ⟨e, _⟩
    · exact .inr (by simp)
    · exact (D.l (by omega)).imp id (List.mem_append_left _)
  r := fun q => by
    rcases hx with ⟨e, _⟩ | ⟨_, rfl⟩
    · omega
    · exact .inr (by simp)
local macro_rules | `(tactic| walk_at "no such word") => `(tactic| fail "no rule")
local macro_rules | `(tactic| walk_at "call builtin:list.append") => `(tactic| (k_here; k_dflt (refine' my_append ?k1 ?k2 ?k3 ?k4 ?_; (case k1 => k_asm); (case k2 => k_asm); (case k3 => k_mem); (case k4 => ktr_rel); k_whole); intro h' F' N'))
local macro_rules | `(tactic| k_mem) => `(tactic| first | exact Kept.sub (by assumption) _ (by assumption) | fail "no k_mem")
local macro_rules | `(tactic| walk_at "storeName") => `(tactic| (k_here; k_dflt (refine' my_storeC ?F ?N ?c ?m ?d ?_ ?a ?b; (case a => rfl); (case b => rfl); (case F => k_asm); (case N => k_asm); (case c => rfl); (case m => k_mem); (case d => assumption); k_whole); intro h' o' F' N' d'))
local macro_rules | `(tactic| ktr_unf) => `(tactic| assumption)
local macro_rules | `(tactic| tb_start) => `(tactic| repeat' ((fail_if_success (with_reducible show wpAny _ _ (exec (Stmt.While _ _ _ _) _) _ _ _)); (fail_if_success (with_reducible show wpAny _ _ (exec (Stmt.For _ _ _ _ _) _) _ _ _)); (fail_if_success (with_reducible show wpAny _ _ (pyIter (Value.ref _)) _ _ _)); (fail_if_success (with_reducible show wpAny _ _ (execs (Stmt.Assign _ (Expr.Tuple _ _ _) _ :: _) _) _ _ _)); (fail_if_success (with_reducible show wpAny _ _ (compareOp CmpOp.NotIn (Value.int _ _) (Value.ref _)) _ _ _)); first | (k_unfold; (try dsimp only)) | (k_end; wrow_close) | walk1 | (dsimp only; walk1) | (leave1; try dsimp only) | fail "no step"))
theorem off_18 : True := by
  w_top off
  trivial
section
set_option maxHeartbeats 8000000 in
theorem law_d {w : World} {dp un : Nat} {gd : Option (List Code)} {cn : Str} {a : Addr} {ccd : Value} {outer : List Env} {A₀ : Around} {base h₀ : Heap} {L : Addr} {m : Str → Option Value}
    {news : List (Addr × Obj)} {s : Shared} {E : Value → Shared → Prop} {Q : Flow → Shared → Prop} {p : Program} {loose : List Str} {mean : ExcName → Option Value} {mg mb : Str → Option Value}
    {c1 c2 c3 c4 c5 : Addr} {o2 o4 o5 : Obj} {v4 v5 : Option Value} {t2 : Tok} {lth lli : Addr} {nth nli : Nat} {As : List Adr} {G0 : List Nd} {ls : List Addr} {K : List (Addr × Obj)}
    (B : Below A₀ base outer h₀) (F : Fr h₀ L s.heap m) (X : (fr.heap_1 w.params).In h₀) (N : News h₀ L s.heap news) (T : Top p loose mean mg mb h₀)
    (hE : PassesOwn (model PySem.Challenge.rw_xm0934_01.row.prog w) (ktrTop dp un gd cn (lawScope w.params) L a ccd [("due", c5), ("at", c4), ("world", c3), ("many", c2), ("cells", c1)] outer) (envX cn (lawScope w.params) L a ccd [("due", c5), ("at", c4), ("world", c3), ("many", c2), ("cells", c1)]) E)
    (hdp : dp < 439) (hun : un < 3900) (GI : GraphIn news As G0) (AP : Apart As) (hAs : As.length ≤ 4) (hA0 : As ≠ []) (hG : ∀ g ∈ G0, g.m = 0) (hKp : Kept As K news)
    (hth : m "things" = some (.ref lth)) (hli : m "links" = some (.ref lli)) (kth : (lth, listOf (As.map fun a => Value.ref a.x).toArray nth) ∈ K) (kli : (lli, listOf (ls.map Value.ref).toArray nli) ∈ K) (hfd : FoundIn K ls (linksOf G0))
    (k2 : (c2, o2) ∈ K) (d2 : o2.data = .cell (some (.int (As.length : Int) t2))) (k4 : (c4, o4) ∈ news) (d4 : o4.data = .cell v4) (k5 : (c5, o5) ∈ news) (d5 : o5.data = .cell v5) (n45 : @Ne Nat c4 c5)
    (K4 : ∀ q ∈ K, @Ne Nat q.1 c4) (K5 : ∀ q ∈ K, @Ne Nat q.1 c5) (A4 : ∀ a ∈ As, ¬ a.has c4) (A5 : ∀ a ∈ As, ¬ a.has c5)
    (ret : ∀ h' tk' m' news', Fr h₀ L h' m' → News h₀ L h' news' → Q (.ret (.bool true)) { s with heap := h', toks := tk' }) :
    wpAny (model PySem.Challenge.rw_xm0934_01.row.prog w) (ktrTop dp un gd cn (lawScope w.params) L a ccd [("due", c5), ("at", c4), ("world", c3), ("many", c2), ("cells", c1)] outer) (execs ((lawStmts w.params).drop 6) (envX cn (lawScope w.params) L a ccd [("due", c5), ("at", c4), ("world", c3), ("many", c2), ("cells", c1)])) Q E s := by
  revert X; k_fill; intro X
  generalize hsc : lawScope w.params = sc at *
  obtain rfl := hsc.symm.trans (show lawScope w.params = Scope.mk _ _ _ _ _ from rfl)
  clear hsc
  refine cut13 (b := lawStmts w.params) (P := fun b => wpAny _ _ (execs (b.drop 6) _) _ _ _) rfl ?_
  dsimp only [List.drop]
  replace F := frTwo F hth hli
  tb_rel
  rename_i l0 hh0 l1 D1 hh1 l2 hh2 F0 N0 hh3 o5' F0a N0a d5' hh4 o4' F9 N9 d4'
  clear F0 N0 F0a N0a
  obtain ⟨l2a, l2b⟩ := l2
  have ltK : ∀ q ∈ K, @Ne Nat q.1 l0 := fun q hq e => absurd (l1 q (hKp.sub q hq)) (by rw [e]; exact Nat.lt_irrefl _)
  have l4 : @Ne Nat l0 c4 := fun e => absurd (l1 _ k4) (by rw [e]; exact Nat.lt_irrefl _)
  have l5 : @Ne Nat l0 c5 := fun e => absurd (l1 _ k5) (by rw [e]; exact Nat.lt_irrefl _)
  have Al : ∀ a ∈ As, ¬ a.has l0 := GI.lt l1
  refine While_inv2 (fun k m₁ news₁ => ∃ js i vs cc o4 t, m₁ "things" = some (.ref lth) ∧ m₁ "links" = some (.ref lli) ∧ DueInv G0 js i ∧ k + i = As.length + 1 ∧ (c5, o5') ∈ news₁ ∧ (c4, o4) ∈ news₁ ∧ o4.data = .cell (some (.int ((i : Nat) : Int) t)) ∧
    (l0, listOf vs.toArray cc) ∈ news₁ ∧ IntsAre vs (js.map fun (j : Nat) => (j : Int)) ∧ GraphIn news₁ As G0 ∧ Kept As K news₁) (n₀ := As.length + 1) F9 N9 ⟨[1], 0, [.int 1 s.toks], 0, o4', _, rfl, rfl, .start, rfl, ?_, ?_, d4', ?_, .cons _ _ .nil, ?_, ?_⟩ ?_ hE
  · exact setL_mem setL_head (Ne.symm n45)
  · exact setL_head
  · exact setL_mem (setL_mem (.tail _ (.head _)) l5) l4
  · exact ((GI.mono fun q hq _ => .tail _ (.tail _ hq)).off A5).off A4
  · exact ⟨fun q hq => setL_mem (setL_mem (.tail _ (.tail _ (hKp.sub q hq))) (K5 q hq)) (K4 q hq), hKp.d, hKp.v⟩
  clear F9 N9 GI hKp d4' o4'
  rintro k m₁ news₁ h₁ tk₁ F₁ N₁ ⟨js, i, vs, cc, o4', t, f1, f2, DI, hk, m5, m4, d4', m0, hI, GI, KP⟩
  have F₂ := frTwo F₁ f1 f2
  clear F₁
  have hvl : vs.length = js.length := by simpa using hI.length
  have hb5 : js.length ≤ As.length := pig _ _ DI.nd fun j hj => by
    have := rch_bd GI hA0 (DI.rch j hj)
    rw [GI.len]; omega
  tb_start
  · obtain ⟨j, hj⟩ : ∃ j, js[i]? = some j := ⟨_, List.getElem?_eq_getElem (by omega)⟩
    obtain ⟨t', hv⟩ := intsGet hI (show (js.map fun (j : Nat) => (j : Int))[i]? = some (j : Int) by rw [List.getElem?_map, hj]; rfl)
    have hRj := DI.rch j (mem_of_get hj)
    obtain ⟨j0, jl⟩ := rch_bd GI hA0 hRj
    obtain ⟨g, hg⟩ : ∃ g, G0[j - 1]? = some g := ⟨_, List.getElem?_eq_getElem (by omega)⟩
    have hlk : (linksOf G0)[j - 1]? = some (g.l, g.r) := by rw [List.getElem?_map, hg]; rfl
    obtain ⟨lb, hlb⟩ : ∃ lb, ls[j - 1]? = some lb := ⟨_, List.getElem?_eq_getElem (by rw [hfd.len, List.length_map]; omega)⟩
    obtain ⟨ta, tb, nb, hmb⟩ := hfd.at' _ _ _ hlb hlk
    have hv1 : vs.toArray[((i : Nat) : Int).toNat]? = some (.int (j : Int) t') := by simpa using hv
    have hjn : ((j : Int) - 1).toNat = j - 1 := by omega
    have hl1 : (ls.map Value.ref).toArray[((j : Int) - 1).toNat]? = some (.ref lb) := by rw [hjn]; simpa using hlb
    have hle4 : js.length ≤ 4 := by omega
    have hj4 : j ≤ 4 := by have := GI.len; omega
    refine For_turns F₂ ?_ (hE := hE)
    tb_start
    rename News _ _ _ _ => N₃
    rename Fr _ _ _ _ => F₃
    refine iter_listI rfl F₃ N₃ (KP.sub _ hmb) (fun t m₂ news₂ => ∃ js' vs' cc', m₂ "things" = some (.ref lth) ∧ m₂ "links" = some (.ref lli) ∧ DueIn G0 js g t js' ∧ (c5, o5') ∈ news₂ ∧ (c4, o4') ∈ news₂ ∧ (l0, listOf vs'.toArray cc') ∈ news₂ ∧
      IntsAre vs' (js'.map fun (j : Nat) => (j : Int)) ∧ GraphIn news₂ As G0 ∧ Kept As K news₂) ?_ (fun t m₂ news₂ hJ => ?_) ?_ ?_
    · exact ⟨js, vs, cc, rfl, rfl, .start DI, m5, m4, m0, hI, GI, KP⟩
    · obtain ⟨_, _, _, _, _, _, _, _, _, _, _, K2⟩ := hJ
      exact K2.sub _ hmb
    · clear F₃ N₃ m5 m4 m0 hv1 hv hvl hI GI KP
      intro t v m₂ news₂ I oI h₂ tk₂ hit hJ off F₂ N₂
      replace F₂ : Fr h₀ L h₂ m₂ := F₂
      replace N₂ : News h₀ L h₂ ((I, oI) :: news₂) := N₂
      obtain ⟨js', vs', cc', f1, f2, DN, m5, m4, m0, hI, GI, KP⟩ := hJ
      obtain ⟨x, tx, hx, rfl⟩ : ∃ (x : Nat) (tx : Tok), ((t = 0 ∧ x = g.l) ∨ (t = 1 ∧ x = g.r)) ∧ v = .int (x : Int) tx := by
        rcases two_get hit with ⟨e, q⟩ | ⟨e, q⟩
        · exact ⟨_, _, .inl ⟨e, rfl⟩, q⟩
        · exact ⟨_, _, .inr ⟨e, rfl⟩, q⟩
      have F₃ := frTwo F₂ f1 f2
      clear F₂
      have hvl : vs'.length = js'.length := by simpa using hI.length
      have hb6 : js'.length ≤ As.length := pig _ _ DN.nd fun j hj => by
        have := rch_bd GI hA0 (DN.rch j hj)
        rw [GI.len]; omega
      tb_start
      · by_cases hx' : x ∈ js'
        · refine my_notinI (b := true) (by k_asm) (.tail _ m0) hI (decide_eq_true (castMem.mpr hx')) ?_
          tb_start
          rename News _ _ _ _ => N8
          rename Fr _ _ _ _ => F8
          exact ⟨_, _, _, _, rfl, F8, N8, off, js', vs', cc', rfl, rfl, DN.skip hx (.inr hx'), m5, m4, m0, hI, GI, KP⟩
        · refine my_notinI (b := false) (by k_asm) (.tail _ m0) hI (decide_eq_false (fun q => hx' (castMem.mp q))) ?_
          have x0 : x ≠ 0 := by omega
          tb_start
          rename News _ _ _ _ => N8
          rename Fr _ _ _ _ => F8
          have lI : l0 ≠ I := off _ m0
          have N7 := newsSub (news' := (I, oI) :: setL l0 (listOf (vs' ++ [Value.int (x : Int) tx]).toArray (cc' + 1)) news₂) N8 (fun p hp => by
            rcases List.mem_cons.mp hp with rfl | hp
            · exact setL_mem (.head _) (Ne.symm lI)
            · exact setL_sub (fun q hq => .tail _ hq) p hp)
          refine ⟨_, _, _, _, rfl, F8, N7, ?_, js' ++ [x], vs' ++ [.int (x : Int) tx], cc' + 1, rfl, rfl, DN.add hx x0 hx' hRj j0 hg, setL_mem m5 (Ne.symm l5), setL_mem m4 (Ne.symm l4), setL_head, ?_, GI.off Al, ⟨fun q hq => setL_mem (KP.sub q hq) (ltK q hq), KP.d, KP.v⟩⟩
          · intro p hp
            rcases List.mem_cons.mp hp with rfl | hp
            · exact lI
            · exact off p (List.mem_filter.mp hp).1
          · rw [List.map_append]
            exact intsSnoc hI
      · rename News _ _ _ _ => N8
        rename Fr _ _ _ _ => F8
        exact ⟨_, _, _, _, rfl, F8, N8, off, js', vs', cc', rfl, rfl, DN.skip hx (.inl (by omega)), m5, m4, m0, hI, GI, KP⟩
    · clear F₃ N₃ m5 m4 m0 hv1 hv hvl hI GI KP
      rintro h₂ tk₂ m₂ news₂ F₂ N₂ ⟨js', vs', cc', f1, f2, DN, m5, m4, m0, hI, GI, KP⟩
      replace F₂ : Fr h₀ L h₂ m₂ := F₂
      replace N₂ : News h₀ L h₂ news₂ := N₂
      have F₃ := frTwo F₂ f1 f2
      clear F₂
      tb_start
      refine loadX_C N₂ rfl m4 d4' ?_
      tb_start
      rename_i h8 o6 F8 N8 d6
      refine ⟨_, _, _, _, k - 1, rfl, F8, N8, by omega, js', i + 1, vs', cc', o6, _, rfl, rfl, DN.done DI hj hg, by omega, setL_mem m5 (Ne.symm n45), setL_head, d6, setL_mem m0 l4, hI, GI.off A4, ⟨fun q hq => setL_mem (KP.sub q hq) (K4 q hq), KP.d, KP.v⟩⟩
  · rename_i hlt h1' D' vs' ns' e' Fa Na l1' I' P' S' h2' o6 F9 N9 d6
    clear Fa Na
    have hi : i = js.length := by have := DI.le; omega
    subst hi
    have Ad : ∀ a ∈ As, ¬ a.has D' := GI.lt l1'
    have hns : ∀ k : Int, k ∈ ns' ↔ ∃ j : Nat, k = j ∧ Rch G0 [1] j := fun k => P'.mem_iff.trans (DI.done k)
    have hnn : ns'.Nodup := P'.nodup_iff.mpr (List.pairwise_map.mpr (DI.nd.imp fun h e => h (Int.ofNat.inj e)))
    k_dflt (refine' law_e (K := (c5, o6) :: (D', listOf vs'.toArray e') :: K) B F9 X N9 T ?hE hdp hun ((GI.mono fun q hq _ => .tail _ hq).off A5) AP hAs hA0 hG ?hKp rfl rfl (.tail _ (.tail _ kth)) (.tail _ (.tail _ kli)) (hfd.mono fun q hq _ => .tail _ (.tail _ hq)) (.tail _ (.tail _ k2)) d2 (.head _) d6 (.tail _ (.head _)) I' S' hnn hns ret)
    case hE => exact hE
    case hKp =>
      refine ⟨fun q hq => ?_, fun q hq a ha => ?_, fun q hq a ha => ?_⟩
      · rcases List.mem_cons.mp hq with rfl | hq
        · exact setL_head
        · rcases List.mem_cons.mp hq with rfl | hq
          · exact setL_mem (.head _) (fun e => Nat.ne_of_lt (l1' _ m5) e.symm)
          · exact setL_mem (.tail _ (KP.sub q hq)) (K5 q hq)
      · rcases List.mem_cons.mp hq with rfl | hq
        · exact fun e => A5 a ha (.inr (.inl e))
        · rcases List.mem_cons.mp hq with rfl | hq
          · exact fun e => Ad a ha (.inr (.inl e))
          · exact KP.d q hq a ha
      · rcases List.mem_cons.mp hq with rfl | hq
        · exact fun e => A5 a ha (.inr (.inr (.inr e)))
        · rcases List.mem_cons.mp hq with rfl | hq
          · exact fun e => Ad a ha (.inr (.inr (.inr e)))
          · exact KP.v q hq a ha
end
structure OffC (As : List Adr) (K : List (Addr × Obj)) (c4 c5 l0 : Addr) : Prop where
  K4 : ∀ q ∈ K, @Ne Nat q.1 c4
  K5 : ∀ q ∈ K, @Ne Nat q.1 c5
  K0 : ∀ q ∈ K, @Ne Nat q.1 l0
  A4 : ∀ a ∈ As, ¬ a.has c4
  A5 : ∀ a ∈ As, ¬ a.has c5
  A0 : ∀ a ∈ As, ¬ a.has l0
  n45 : @Ne Nat c4 c5
  n04 : @Ne Nat l0 c4
  n05 : @Ne Nat l0 c5
structure LC (As : List Adr) (K : List (Addr × Obj)) (c4 : Addr) (v4 : Option Value) (c5 : Addr) (o5 : Obj) (l0 : Addr) (G : List Nd) (ls : List Addr) (fs : List (Nat × Nat)) (nw : List (Addr × Obj)) : Prop where
  gi : GraphIn nw As G
  kp : Kept As K nw
  m5 : (c5, o5) ∈ nw
  m4 : ∃ o4, (c4, o4) ∈ nw ∧ o4.data = .cell v4
  ml : ∃ cc, (l0, listOf (ls.map Value.ref).toArray cc) ∈ nw
  fd : FoundIn nw ls fs
  fr : ∀ a ∈ ls, @Ne Nat a c4 ∧ @Ne Nat a c5 ∧ @Ne Nat a l0 ∧ ∀ b ∈ As, ¬ b.has a
section
variable {As : List Adr} {K nw nw' : List (Addr × Obj)} {c4 c5 l0 : Addr} {v4 : Option Value} {o5 : Obj} {G : List Nd} {ls : List Addr} {fs : List (Nat × Nat)}
theorem LC.mono (h : LC As K c4 v4 c5 o5 l0 G ls fs nw) (hs : ∀ q ∈ nw, q ∈ nw') : LC As K c4 v4 c5 o5 l0 G ls fs nw' where
  gi := h.gi.mono fun q hq _ => hs q hq
  kp := h.kp.all hs
  m5 := hs _ h.m5
  m4 := h.m4.imp fun _ q => ⟨hs _ q.1, q.2⟩
  ml := h.ml.imp fun _ q => hs _ q
  fd := h.fd.mono fun q hq _ => hs q hq
  fr := h.fr
theorem LC.cell {o' : Obj} {v : Option Value} (O : OffC As K c4 c5 l0) (h : LC As K c4 v4 c5 o5 l0 G ls fs nw) (hd : o'.data = .cell v) : LC As K c4 v c5 o5 l0 G ls fs (setL c4 o' nw) where
  gi := h.gi.off O.A4
  kp := ⟨fun q hq => setL_mem (h.kp.sub q hq) (O.K4 q hq), h.kp.d, h.kp.v⟩
  m5 := setL_mem h.m5 (Ne.symm O.n45)
  m4 := ⟨_, setL_head, hd⟩
  ml := h.ml.imp fun _ q => setL_mem q O.n04
  fd := h.fd.mono fun q hq hm => setL_mem hq (h.fr _ hm).1
  fr := h.fr
theorem LC.snoc {D : Addr} {p : Nat × Nat} {t1 t2 : Tok} {n n' : Nat} (O : OffC As K c4 c5 l0) (h : LC As K c4 v4 c5 o5 l0 G ls fs nw) (hD : ∀ q ∈ nw, @Ne Nat q.1 D) :
    LC As K c4 v4 c5 o5 l0 G (ls ++ [D]) (fs ++ [p]) (setL l0 (listOf ((ls ++ [D]).map Value.ref).toArray n') ((D, listOf #[.int (p.1 : Int) t1, .int (p.2 : Int) t2] n) :: nw)) := by
  obtain ⟨o4, h4, d4⟩ := h.m4
  obtain ⟨cc, hl⟩ := h.ml
  have Dl : @Ne Nat D l0 := Ne.symm (hD _ hl)
  refine ⟨(h.gi.mono fun q hq _ => .tail _ hq).off O.A0, ⟨fun q hq => setL_mem (.tail _ (h.kp.sub q hq)) (O.K0 q hq), h.kp.d, h.kp.v⟩, setL_mem (.tail _ h.m5) (Ne.symm O.n05), ⟨o4, setL_mem (.tail _ h4) (Ne.symm O.n04), d4⟩, ⟨_, setL_head⟩, ?_, ?_⟩
  · have f1 : FoundIn (setL l0 (listOf ((ls ++ [D]).map Value.ref).toArray n') ((D, listOf #[.int (p.1 : Int) t1, .int (p.2 : Int) t2] n) :: nw)) ls fs := h.fd.mono fun q hq hm => setL_mem (.tail _ hq) (h.fr _ hm).2.2.1
    exact f1.snoc (fun q hq => hq) (setL_mem (.head _) Dl)
  · intro a ha
    rcases List.mem_append.mp ha with ha | ha
    · exact h.fr a ha
    · rw [List.mem_singleton.mp ha]
      exact ⟨Ne.symm (hD _ h4), Ne.symm (hD _ h.m5), Dl, h.gi.ne hD⟩
theorem LC.put {i : Nat} {a : Adr} {u0 u1 : Value} {t : Tok} {n : Nat} (g : Nd) (O : OffC As K c4 c5 l0) (AP : Apart As) (h : LC As K c4 v4 c5 o5 l0 G ls fs nw) (ha : As[i]? = some a) (h0 : LinkV As u0 g.l) (h1 : LinkV As u1 g.r) (hm : g.m = 0) :
    LC As K c4 v4 c5 o5 l0 (G.set i g) ls fs (setL a.v (listOf #[u0, u1, .int 0 t] n) nw) := by
  have hA := mem_of_get ha
  obtain ⟨o4, h4, d4⟩ := h.m4
  exact {
    gi := h.gi.put AP ha ⟨h0, h1⟩ (by rw [hm]; rfl)
    kp := ⟨fun q hq => setL_mem (h.kp.sub q hq) (h.kp.v q hq a hA), h.kp.d, h.kp.v⟩
    m5 := setL_mem h.m5 fun e => O.A5 a hA (.inr (.inr (.inr e)))
    m4 := ⟨o4, setL_mem h4 fun e => O.A4 a hA (.inr (.inr (.inr e))), d4⟩
    ml := h.ml.imp fun _ q => setL_mem q fun e => O.A0 a hA (.inr (.inr (.inr e)))
    fd := h.fd.mono fun q hq hm => setL_mem hq fun e => (h.fr _ hm).2.2.2 a hA (.inr (.inr (.inr e)))
    fr := h.fr }
theorem LC.same {G' : List Nd} (h : LC As K c4 v4 c5 o5 l0 G ls fs nw) (e : G = G') : LC As K c4 v4 c5 o5 l0 G' ls fs nw := e ▸ h
end
theorem powSmall {n e : Nat} (hn : n ≤ 4) (he : e ≤ 7) : ∃ Y : Nat, (((n : Int) + 1) ^ e) = (Y : Int) ∧ 0 < Y ∧ Y < 1073741824 := by
  refine ⟨(n + 1) ^ e, by simp, Nat.pow_pos (by omega), ?_⟩
  have h1 : (n + 1) ^ e ≤ 5 ^ e := Nat.pow_le_pow_left (by omega) e
  have h2 : 5 ^ e ≤ 5 ^ 7 := Nat.pow_le_pow_right (by omega) he
  have h3 : 5 ^ 7 < 1073741824 := by decide
  omega
section
variable {prog : Program} {w : World} {A : Around} {E : Value → Shared → Prop} {s : Shared} {t1 t2 : Tok} {Q : Value → Shared → Prop}
theorem cell_pow {n i t : Nat} (hi : i < n) (hn : n ≤ 4) (ht : t < 2) (h : ∀ Y : Nat, 0 < Y → Y < 1073741824 → Q (.int (Y : Int) s.toks) { s with toks := s.toks + 1 }) :
    wpAny (model prog w) A (binaryOp .Pow (.int ((n : Int) + 1) t1) (.int (2 * (i : Int) + (0 + (t : Int))) t2)) Q E s := by
  refine pow_int_small (by omega) (by omega) (by omega) ?_
  rw [show (2 * (i : Int) + (0 + (t : Int))).toNat = 2 * i + t by omega]
  obtain ⟨Y, hY, Y0, Y30⟩ := powSmall (n := n) (e := 2 * i + t) hn (by omega)
  rw [hY]
  exact h Y Y0 Y30
theorem cell_div {x Y : Nat} (h0 : 0 < Y) (h3 : Y < 1073741824) (h : Q (.int ((x / Y : Nat) : Int) s.toks) { s with toks := s.toks + 1 }) :
    wpAny (model prog w) A (binaryOp .FloorDiv (.int (x : Int) t1) (.int (Y : Int) t2)) Q E s := by
  refine floordiv_int (by omega) ?_ (Or.inl (PyProof.noPylong_small (by omega)))
  rw [← Int.ofNat_fdiv]; exact h
theorem cell_mod {z n : Nat} (h : Q (.int ((z % (n + 1) : Nat) : Int) s.toks) { s with toks := s.toks + 1 }) :
    wpAny (model prog w) A (binaryOp .Mod (.int (z : Int) t1) (.int ((n : Int) + 1) t2)) Q E s := by
  refine mod_int' (by omega) ?_
  rw [show ((n : Int) + 1) = ((n + 1 : Nat) : Int) from rfl, ← Int.ofNat_fmod]; exact h
end
theorem take_links {G : List Nd} {i : Nat} {g : Nd} (hi : i < G.length) : (linksOf (G.set i g)).take (i + 1) = (linksOf G).take i ++ [(g.l, g.r)] := by
  have e1 : (linksOf (G.set i g))[i]? = some (g.l, g.r) := by
    rw [List.getElem?_map, List.getElem?_set_self hi]; rfl
  rw [take_next e1]
  congr 1
  show ((G.set i g).map _).take i = _
  rw [List.map_set, List.take_set_of_le (Nat.le_refl _)]
theorem two_ints {ys : List Value} {zs : List Nat} (h : IntsAre ys (zs.map fun (z : Nat) => (z : Int))) (hl : zs.length = 2) : ∃ (a b : Nat) (ta tb : Tok), zs = [a, b] ∧ ys = [.int (a : Int) ta, .int (b : Int) tb] := by
  match zs, hl with
  | [a, b], _ =>
    cases h with
    | cons n t h => cases h with
      | cons n' t' h => cases h with
        | nil => exact ⟨a, b, t, t', rfl, rfl⟩
local macro_rules | `(tactic| tb_start) => `(tactic| repeat' ((fail_if_success (with_reducible show wpAny _ _ (eval (Expr.ListComp _ _ _ _) _) _ _ _)); (fail_if_success (with_reducible show LCg.CompSrc _ _ _ _ _ _ _ _ _ _ _ _ _ _)); (fail_if_success (with_reducible show wpAny _ _ (exec (Stmt.While _ _ _ _) _) _ _ _)); (fail_if_success (with_reducible show wpAny _ _ (exec (Stmt.For _ _ _ _ _) _) _ _ _)); (fail_if_success (with_reducible show wpAny _ _ (pyIter (Value.ref _)) _ _ _)); (fail_if_success (with_reducible show wpAny _ _ (execs (Stmt.Assign _ (Expr.Tuple _ _ _) _ :: _) _) _ _ _)); first | (k_unfold; (try dsimp only)) | (k_end; wrow_close) | walk1 | (dsimp only; walk1) | (leave1; try dsimp only) | fail "no step"))
theorem off_19 : True := by
  w_top off
  trivial
section
set_option maxHeartbeats 8000000 in
theorem law_c {w : World} {dp un : Nat} {gd : Option (List Code)} {cn : Str} {a : Addr} {ccd : Value} {outer : List Env} {A₀ : Around} {base h₀ : Heap} {L : Addr} {m : Str → Option Value}
    {news : List (Addr × Obj)} {s : Shared} {E : Value → Shared → Prop} {Q : Flow → Shared → Prop} {p : Program} {loose : List Str} {mean : ExcName → Option Value} {mg mb : Str → Option Value}
    {c1 c2 c3 c4 c5 : Addr} {o1 o2 o4 o5 : Obj} {v4 v5 : Option Value} {t2 tx0 tx1 : Tok} {lth lc : Addr} {nth nc : Nat} {x0 : Int} {x1 : Nat} {As : List Adr} {G0 : List Nd} {K : List (Addr × Obj)}
    (B : Below A₀ base outer h₀) (F : Fr h₀ L s.heap m) (X : (fr.heap_1 w.params).In h₀) (N : News h₀ L s.heap news) (T : Top p loose mean mg mb h₀)
    (hE : PassesOwn (model PySem.Challenge.rw_xm0934_01.row.prog w) (ktrTop dp un gd cn (lawScope w.params) L a ccd [("due", c5), ("at", c4), ("world", c3), ("many", c2), ("cells", c1)] outer) (envX cn (lawScope w.params) L a ccd [("due", c5), ("at", c4), ("world", c3), ("many", c2), ("cells", c1)]) E)
    (hdp : dp < 439) (hun : un < 3900) (GI : GraphIn news As G0) (AP : Apart As) (hAs : As.length ≤ 4) (hA0 : As ≠ []) (hG : ∀ g ∈ G0, g.l = 0 ∧ g.r = 0 ∧ g.m = 0) (hKp : Kept As K news)
    (hth : m "things" = some (.ref lth)) (kth : (lth, listOf (As.map fun a => Value.ref a.x).toArray nth) ∈ K)
    (k1 : (c1, o1) ∈ K) (d1 : o1.data = .cell (some (.ref lc))) (klc : (lc, listOf #[.int x0 tx0, .int (x1 : Int) tx1] nc) ∈ K)
    (k2 : (c2, o2) ∈ K) (d2 : o2.data = .cell (some (.int (As.length : Int) t2))) (k4 : (c4, o4) ∈ news) (d4 : o4.data = .cell v4) (k5 : (c5, o5) ∈ news) (d5 : o5.data = .cell v5) (n45 : @Ne Nat c4 c5)
    (K4 : ∀ q ∈ K, @Ne Nat q.1 c4) (K5 : ∀ q ∈ K, @Ne Nat q.1 c5) (A4 : ∀ a ∈ As, ¬ a.has c4) (A5 : ∀ a ∈ As, ¬ a.has c5)
    (ret : ∀ h' tk' m' news', Fr h₀ L h' m' → News h₀ L h' news' → Q (.ret (.bool true)) { s with heap := h', toks := tk' }) :
    wpAny (model PySem.Challenge.rw_xm0934_01.row.prog w) (ktrTop dp un gd cn (lawScope w.params) L a ccd [("due", c5), ("at", c4), ("world", c3), ("many", c2), ("cells", c1)] outer) (execs ((lawStmts w.params).drop 4) (envX cn (lawScope w.params) L a ccd [("due", c5), ("at", c4), ("world", c3), ("many", c2), ("cells", c1)])) Q E s := by
  revert X; k_fill; intro X
  generalize hsc : lawScope w.params = sc at *
  obtain rfl := hsc.symm.trans (show lawScope w.params = Scope.mk _ _ _ _ _ from rfl)
  clear hsc
  refine cut13 (b := lawStmts w.params) (P := fun b => wpAny _ _ (execs (b.drop 4) _) _ _ _) rfl ?_
  dsimp only [List.drop]
  replace F := frTwo F hth hth
  tb_start
  rename_i l0 hh0 l1 hh1 F9 N9
  have O : OffC As K c4 c5 l0 := ⟨K4, K5, fun q hq e => Nat.ne_of_lt (l1 q (hKp.sub q hq)) e, A4, A5, GI.lt l1, n45, fun e => Nat.ne_of_lt (l1 _ k4) e.symm, fun e => Nat.ne_of_lt (l1 _ k5) e.symm⟩
  have C0 : LC As K c4 v4 c5 o5 l0 G0 [] [] ((l0, listOf #[] 0) :: news) := ⟨GI.mono fun q hq _ => .tail _ hq, hKp.cons, .tail _ k5, ⟨o4, .tail _ k4, d4⟩, ⟨0, .head _⟩, ⟨rfl, fun j a p ha => by simp at ha⟩, fun a ha => nomatch ha⟩
  have KP := C0.kp
  refine For_turns F9 ?_ (hE := hE)
  tb_start
  rename News _ _ _ _ => N8
  rename Fr _ _ _ _ => F8
  rename IsRange _ _ _ _ _ _ _ _ => hR
  refine iter_rangeI (n := As.length) rfl F8 N8 hR (small4 hAs) (size4 hAs) (fun i m₁ news₁ => ∃ v4 G ls, m₁ "things" = some (.ref lth) ∧ m₁ "links" = some (.ref l0) ∧ (∀ g ∈ G, g.m = 0) ∧ (∀ (j : Nat) g, i ≤ j → G[j]? = some g → g.l = 0 ∧ g.r = 0) ∧
    LC As K c4 v4 c5 o5 l0 G ls ((linksOf G).take i) news₁) ?_ ?_ ?_
  · exact ⟨v4, G0, [], rfl, rfl, fun g hg => (hG g hg).2.2, fun j g _ hg => ⟨(hG g (mem_of_get hg)).1, (hG g (mem_of_get hg)).2.1⟩, C0⟩
  · clear F8 N8 C0 hR KP
    rintro i ti m₁ news₁ I oI h₁ tk₁ hi ⟨v4', G, ls, f1, f2, hGm, hGz, C⟩ off F₁ N₁
    replace F₁ : Fr h₀ L h₁ m₁ := F₁
    replace N₁ : News h₀ L h₁ ((I, oI) :: news₁) := N₁
    rw [show (0 : Int) + (i : Int) = (i : Int) from Int.zero_add _]
    obtain ⟨oc, mc, dc⟩ := C.m4
    refine wpAny_assign_Name (my_storeC F₁ N₁ rfl (.tail _ mc) dc ?_ rfl rfl)
    intro h₂ o' F₂ N₂ d'
    have C2 := C.cell O d'
    have off2 : ∀ p ∈ setL c4 o' news₁, p.1 ≠ I := fun p hp => by
      rcases List.mem_cons.mp hp with rfl | hp
      · exact (off (c4, oc) mc : @Ne Nat c4 I)
      · exact off p (List.mem_filter.mp hp).1
    have N₃ := newsSub (news' := (I, oI) :: setL c4 o' news₁) N₂ (fun p hp => by
      rcases List.mem_cons.mp hp with rfl | hp
      · exact setL_mem (.head _) (Ne.symm (off _ mc))
      · exact setL_sub (fun q hq => .tail _ hq) p hp)
    have mc2 : (c4, o') ∈ setL c4 o' news₁ := setL_head
    generalize setL c4 o' news₁ = news₂ at *
    clear N₂ C
    have F₃ := frTwo F₂ f1 f2
    clear F₂ F₁ N₁ mc dc
    have KP := C2.kp.cons (q := (I, oI))
    obtain ⟨cc, ml⟩ := C2.ml
    have hll : ls.length = i := by rw [C2.fd.len, List.length_take, List.length_map, ← C2.gi.len]; omega
    tb_start
    refine LCg.ListComp_U (cl := [("many", c2), ("cells", c1), ("at", c4)]) F₃ (by with_unfolding_all rfl) (by decide) rfl (by decide) rfl ?_
    tb_start
    rename Fr _ _ _ _ => F9
    rename News _ _ _ _ => N9
    rename IsRange _ _ _ _ _ _ _ _ => hR
    refine LCg.CompSrc.range (n := 2) rfl F9 N9 hR (by decide) (by decide) (by rw [sizeLine_eq]; decide) fun g9 => rest_inv (fun t ys nw => ∃ zs : List Nat, IntsAre ys (zs.map fun (z : Nat) => (z : Int)) ∧ (∀ z ∈ zs, z ≤ As.length) ∧ zs.length = t ∧ ∀ q ∈ (I, oI) :: news₂, q ∈ nw) ⟨[], .nil, (fun _ h => nomatch h), rfl, fun q hq => hq⟩ ?_ ?_
    · intro t v ys nw I2 oI2 C oC D m₂ h tk2 E' hv hi2 hy hinv hNs hm2 F2 N2 off3 ne
      clear F9 N9 hR
      obtain ⟨zs, hzi, hzb, hzl, hkp⟩ := hinv
      obtain ⟨tv, rfl⟩ := hv
      have KP2 := KP.all hkp
      replace mc2 := hkp _ (.tail _ mc2)
      dsimp only

      repeat' ((fail_if_success (with_reducible show wpAny _ _ (binaryOp Operator.Pow _ _) _ _ _)); first | (k_unfold; (try dsimp only)) | (k_end; wrow_close) | walk1 | (dsimp only; walk1) | (leave1; try dsimp only) | fail "no step")
      with_reducible refine cell_pow hi hAs hi2 ?_
      intro Y Y0 Y30
      repeat' ((fail_if_success (with_reducible show wpAny _ _ (binaryOp Operator.FloorDiv _ _) _ _ _)); first | (k_unfold; (try dsimp only)) | (k_end; wrow_close) | walk1 | (dsimp only; walk1) | (leave1; try dsimp only) | fail "no step")
      with_reducible refine cell_div Y0 Y30 ?_
      repeat' ((fail_if_success (with_reducible show wpAny _ _ (binaryOp Operator.Mod _ _) _ _ _)); first | (k_unfold; (try dsimp only)) | (k_end; wrow_close) | walk1 | (dsimp only; walk1) | (leave1; try dsimp only) | fail "no step")
      with_reducible refine cell_mod ?_

      have zle : x1 / Y % (As.length + 1) ≤ As.length := Nat.le_of_lt_succ (Nat.mod_lt _ (Nat.succ_pos _))
      tb_start
      rename Fr _ _ _ _ => F3
      rename News _ _ _ _ => N3
      refine ⟨_, _, nw, rfl, F3, N3, off3, trivial, zs ++ [x1 / Y % (As.length + 1)], ?_, ?_, ?_, hkp⟩
      · rw [List.map_append]; exact intsSnoc hzi
      · intro z hz
        rcases List.mem_append.mp hz with hz | hz
        · exact hzb z hz
        · rw [List.mem_singleton.mp hz]; exact zle
      · rw [List.length_append, hzl]; rfl
    · intro ys nw hyl hinv D h tk F2 N2 offD
      clear F9 N9 hR
      obtain ⟨zs, hzi, hzb, hzl, hkp⟩ := hinv
      obtain ⟨a0, b0, ta, tb, rfl, rfl⟩ := two_ints hzi hzl
      have offD' := off1_mem offD
      dsimp only

      have hDn : ∀ q ∈ news₂, @Ne Nat q.1 D := fun q hq => offD' q (hkp q (.tail _ hq))
      have hDI : @Ne Nat I D := offD' _ (hkp _ (.head _))
      have N4 : News h₀ L h ((I, oI) :: (D, listOf #[.int (a0 : Int) ta, .int (b0 : Int) tb] 2) :: news₂) := newsSub (show News h₀ L h ((D, listOf #[.int (a0 : Int) ta, .int (b0 : Int) tb] 2) :: nw) from N2) (fun q hq => by
        rcases List.mem_cons.mp hq with rfl | hq
        · exact .tail _ (hkp _ (.head _))
        · rcases List.mem_cons.mp hq with rfl | hq
          · exact .head _
          · exact .tail _ (hkp _ (.tail _ hq)))
      have ha : a0 ≤ As.length := hzb _ (.head _)
      have hb : b0 ≤ As.length := hzb _ (.tail _ (.head _))
      clear hkp hzi hzb hzl N2 offD offD' KP
      tb_start
      rename Fr _ _ _ _ => F8
      rename News _ _ _ _ => N8
      have C3 := C2.snoc (D := D) (p := (a0, b0)) (t1 := ta) (t2 := tb) (n := 2) (n' := cc + 1) O hDn
      have nI0 : @Ne Nat I l0 := fun e => off2 _ ml e.symm
      have e9 : (ls.map Value.ref ++ [Value.ref D]) = (ls ++ [D]).map Value.ref := by simp
      rw [e9] at N8
      have off4 : ∀ p ∈ setL l0 (listOf ((ls ++ [D]).map Value.ref).toArray (cc + 1)) ((D, listOf #[.int (a0 : Int) ta, .int (b0 : Int) tb] 2) :: news₂), p.1 ≠ I := fun p hp => by
        rcases List.mem_cons.mp hp with rfl | hp
        · exact Ne.symm nI0
        · rcases List.mem_cons.mp (List.mem_filter.mp hp).1 with rfl | hp
          · exact Ne.symm hDI
          · exact off2 p hp
      have N9 := newsSub (news' := (I, oI) :: setL l0 (listOf ((ls ++ [D]).map Value.ref).toArray (cc + 1)) ((D, listOf #[.int (a0 : Int) ta, .int (b0 : Int) tb] 2) :: news₂)) N8 (fun p hp => by
        rcases List.mem_cons.mp hp with rfl | hp
        · exact setL_mem (.head _) nI0
        · exact setL_sub (fun q hq => .tail _ hq) p hp)
      clear N8 N4
      generalize setL l0 (listOf ((ls ++ [D]).map Value.ref).toArray (cc + 1)) ((D, listOf #[.int (a0 : Int) ta, .int (b0 : Int) tb] 2) :: news₂) = news₃ at *
      clear C2 mc2 ml hDn off2 off
      obtain ⟨ai, hai⟩ : ∃ ai, As[i]? = some ai := ⟨_, List.getElem?_eq_getElem hi⟩
      have hGi : i < G.length := by rw [← C3.gi.len]; exact hi
      have hg0 : G[i]? = some ⟨0, 0, 0⟩ := by
        have hg : G[i]? = some G[i] := List.getElem?_eq_getElem hGi
        obtain ⟨e1, e2⟩ := hGz i _ (Nat.le_refl _) hg
        have e3 := hGm _ (mem_of_get hg)
        rw [hg]
        exact congrArg some (by cases hh : G[i]; rw [hh] at e1 e2 e3; cases e1; cases e2; cases e3; rfl)
      refine For_turns F8 ?_ (hE := hE)
      tb_start
      rename News _ _ _ _ => N8
      rename Fr _ _ _ _ => F8
      rename IsRange _ _ _ _ _ _ _ _ => hR
      refine iter_rangeI (n := 2) rfl F8 N8 hR (by decide) (by decide) (fun t m₂ news₂ => ∃ nw, m₂ "things" = some (.ref lth) ∧ m₂ "links" = some (.ref l0) ∧ (∀ q ∈ (I, oI) :: nw, q ∈ news₂) ∧ (∀ p ∈ nw, p.1 ≠ I) ∧
        LC As K c4 (some (.int (i : Int) ti)) c5 o5 l0 (G.set i ⟨if 1 ≤ t then a0 else 0, if 2 ≤ t then b0 else 0, 0⟩) (ls ++ [D]) ((linksOf G).take i ++ [(a0, b0)]) nw) ?_ ?_ ?_
      · exact ⟨news₃, rfl, rfl, fun q hq => hq, off4, C3.same (set_same hg0).symm⟩
      · clear F8 N8 hR
        intro t tt m₂ n₂ I2 oI2 h₃ tk₃ ht hJ offn F₃ N₃
        obtain ⟨nw, f1, f2, hsub, offI, C⟩ := hJ
        replace F₃ : Fr h₀ L h₃ m₂ := F₃
        have N₄ : News h₀ L h₃ ((I2, oI2) :: (I, oI) :: nw) := newsSub N₃ fun p hp => by
          rcases List.mem_cons.mp hp with rfl | hp
          · exact .head _
          · exact .tail _ (hsub p hp)
        have off5 : ∀ p ∈ (I, oI) :: nw, p.1 ≠ I2 := fun p hp => offn p (hsub p hp)
        clear N₃ hsub offn
        have F₄ := frTwo F₃ f1 f2
        clear F₃
        dsimp only
        obtain ⟨tA, tB, nD, mD⟩ := C.fd.at' i D (a0, b0) (by rw [← hll]; simp) (by rw [← hll, List.getElem?_append_right (by rw [List.length_take]; omega), List.length_take, List.length_map]; simp [hll, Nat.min_eq_left (Nat.le_of_lt hGi)])
        have hD1 : ((ls ++ [D]).map Value.ref).toArray[((i : Nat) : Int).toNat]? = some (.ref D) := by rw [← hll]; simp
        have hA1 : (As.map fun a => Value.ref a.x).toArray[((i : Nat) : Int).toNat]? = some (.ref ai.x) := by simp [hai]
        obtain ⟨cc', ml⟩ := C.ml
        obtain ⟨o4', m4', d4'⟩ := C.m4
        have KP9 : Kept As K ((I2, oI2) :: (I, oI) :: nw) := C.kp.cons.cons
        obtain ⟨hx, hdd, hf⟩ := C.gi.node i ai hai
        obtain ⟨v0, v1, tm, nm, hv, hl0, hl1⟩ := C.gi.vals i ai _ hai (List.getElem?_set_self hGi)
        dsimp only at hv hl0 hl1
        have nv : ai.v ≠ I := offI _ hv
        have nv2 : ai.v ≠ I2 := off5 _ (.tail _ hv)
        have nI2 : I ≠ I2 := off5 _ (.head _)
        have hi4 : i < 4 := Nat.lt_of_lt_of_le hi hAs
        have subS : ∀ (o : Obj), ∀ p ∈ (I2, oI2) :: (I, oI) :: setL ai.v o nw, p ∈ setL ai.v o ((I2, oI2) :: (I, oI) :: nw) := fun o p hp => by
          rcases List.mem_cons.mp hp with rfl | hp
          · exact setL_mem (.head _) (Ne.symm nv2)
          · rcases List.mem_cons.mp hp with rfl | hp
            · exact setL_mem (.tail _ (.head _)) (Ne.symm nv)
            · exact setL_sub (fun q hq => .tail _ (.tail _ hq)) p hp
        have offS : ∀ (o : Obj), ∀ p ∈ (I, oI) :: setL ai.v o nw, p.1 ≠ I2 := fun o p hp => by
          rcases List.mem_cons.mp hp with rfl | hp
          · exact nI2
          · rcases List.mem_cons.mp hp with rfl | hp
            · exact nv2
            · exact off5 p (.tail _ (List.mem_filter.mp hp).1)
        have offT : ∀ (o : Obj), ∀ p ∈ setL ai.v o nw, p.1 ≠ I := fun o p hp => by
          rcases List.mem_cons.mp hp with rfl | hp
          · exact nv
          · exact offI p (List.mem_filter.mp hp).1
        rcases (show t = 0 ∨ t = 1 by omega) with rfl | rfl
        · rw [show (0 : Int) + ((0 : Nat) : Int) = 0 from rfl]
          by_cases hz : a0 = 0
          · tb_start
            rename Fr _ _ _ _ => F8
            rename News _ _ _ _ => N8
            exact ⟨_, _, _, (I, oI) :: nw, rfl, F8, N8, off5, nw, rfl, rfl, fun q hq => hq, offI, C.same (by simp [hz])⟩
          · obtain ⟨bi, hbi⟩ : ∃ bi, As[a0 - 1]? = some bi := ⟨_, List.getElem?_eq_getElem (by omega)⟩
            have hB1 : (As.map fun a => Value.ref a.x).toArray[((a0 : Int) - 1).toNat]? = some (.ref bi.x) := by
              rw [show ((a0 : Int) - 1).toNat = a0 - 1 by omega]; simp [hbi]
            have a1 : 1 ≤ a0 := by omega
            have a4 : a0 ≤ 4 := by omega
            tb_start
            rename Fr _ _ _ _ => F8
            rename News _ _ _ _ => N8
            exact ⟨_, _, _, _, rfl, F8, newsSub N8 (subS _), offS _, _, rfl, rfl, fun q hq => hq, offT _, (C.put (t := tm) (n := nm) ⟨a0, 0, 0⟩ O AP hai (.inr ⟨bi, hz, hbi, rfl⟩) hl1 rfl).same (by rw [List.set_set]; simp)⟩
        · rw [show (0 : Int) + ((1 : Nat) : Int) = 1 from rfl]
          by_cases hz : b0 = 0
          · tb_start
            rename Fr _ _ _ _ => F8
            rename News _ _ _ _ => N8
            exact ⟨_, _, _, (I, oI) :: nw, rfl, F8, N8, off5, nw, rfl, rfl, fun q hq => hq, offI, C.same (by simp [hz])⟩
          · obtain ⟨bi, hbi⟩ : ∃ bi, As[b0 - 1]? = some bi := ⟨_, List.getElem?_eq_getElem (by omega)⟩
            have hB1 : (As.map fun a => Value.ref a.x).toArray[((b0 : Int) - 1).toNat]? = some (.ref bi.x) := by
              rw [show ((b0 : Int) - 1).toNat = b0 - 1 by omega]; simp [hbi]
            have a1 : 1 ≤ b0 := by omega
            have a4 : b0 ≤ 4 := by omega
            tb_start
            rename Fr _ _ _ _ => F8
            rename News _ _ _ _ => N8
            exact ⟨_, _, _, _, rfl, F8, newsSub N8 (subS _), offS _, _, rfl, rfl, fun q hq => hq, offT _, (C.put (t := tm) (n := nm) ⟨a0, b0, 0⟩ O AP hai hl0 (.inr ⟨bi, hz, hbi, rfl⟩) rfl).same (by rw [List.set_set]; simp)⟩
      · clear F8 N8 hR
        rintro h₃ tk₃ m₂ n₂ F₃ N₃ ⟨nw, f1, f2, hsub, offI, C⟩
        replace F₃ : Fr h₀ L h₃ m₂ := F₃
        have N₄ : News h₀ L h₃ ((I, oI) :: nw) := newsSub N₃ hsub
        have C' := C.same (G' := G.set i ⟨a0, b0, 0⟩) (by simp)
        dsimp only
        tb_start
        refine ⟨_, _, _, nw, rfl, F₃, N₄, offI, _, G.set i ⟨a0, b0, 0⟩, ls ++ [D], f1, f2, ?_, ?_, by rw [take_links hGi]; exact C'⟩
        · intro g hg
          obtain ⟨j, hj⟩ := List.getElem?_of_mem hg
          by_cases e : i = j
          · subst e
            rw [List.getElem?_set_self hGi] at hj
            cases hj; rfl
          · rw [List.getElem?_set_ne e] at hj
            exact hGm g (mem_of_get hj)
        · intro j g hj hg
          rw [List.getElem?_set_ne (by omega)] at hg
          exact hGz j g (by omega) hg
  · clear F8 N8 hR
    rintro h₂ tk₂ m₂ n₂ F₂ N₂ ⟨v4', G, ls, f1, f2, hGm, hGz, C⟩
    replace F₂ : Fr h₀ L h₂ m₂ := F₂
    replace N₂ : News h₀ L h₂ n₂ := N₂
    obtain ⟨oc, mc, dc⟩ := C.m4
    obtain ⟨cc, ml⟩ := C.ml
    have eT : (linksOf G).take As.length = linksOf G := by
      rw [List.take_of_length_le (by rw [List.length_map, C.gi.len]; exact Nat.le_refl _)]
    have hfd := C.fd
    rw [eT] at hfd
    have hfr := C.fr
    have fdK : FoundIn ((l0, listOf (ls.map Value.ref).toArray cc) :: (n₂.filter (fun q => decide (q.1 ∈ ls)) ++ K)) ls (linksOf G) := hfd.mono fun q hq hm => .tail _ (List.mem_append_left _ (List.mem_filter.mpr ⟨hq, decide_eq_true hm⟩))
    have inK : ∀ q ∈ (l0, listOf (ls.map Value.ref).toArray cc) :: (n₂.filter (fun q => decide (q.1 ∈ ls)) ++ K), q.1 = l0 ∨ q.1 ∈ ls ∨ q ∈ K := fun q hq => by
      rcases List.mem_cons.mp hq with rfl | hq
      · exact .inl rfl
      · rcases List.mem_append.mp hq with hq | hq
        · exact .inr (.inl (of_decide_eq_true (List.mem_filter.mp hq).2))
        · exact .inr (.inr hq)
    have KP' : Kept As ((l0, listOf (ls.map Value.ref).toArray cc) :: (n₂.filter (fun q => decide (q.1 ∈ ls)) ++ K)) n₂ := by
      refine ⟨fun q hq => ?_, fun q hq a ha => ?_, fun q hq a ha => ?_⟩
      · rcases List.mem_cons.mp hq with rfl | hq
        · exact ml
        · rcases List.mem_append.mp hq with hq | hq
          · exact (List.mem_filter.mp hq).1
          · exact C.kp.sub q hq
      · rcases inK q hq with h | h | h
        · exact fun e => O.A0 a ha (.inr (.inl (h ▸ e)))
        · exact fun e => (hfr _ h).2.2.2 a ha (.inr (.inl e))
        · exact C.kp.d q h a ha
      · rcases inK q hq with h | h | h
        · exact fun e => O.A0 a ha (.inr (.inr (.inr (h ▸ e))))
        · exact fun e => (hfr _ h).2.2.2 a ha (.inr (.inr (.inr e)))
        · exact C.kp.v q h a ha
    have inKK : ∀ q ∈ K, q ∈ (l0, listOf (ls.map Value.ref).toArray cc) :: (n₂.filter (fun q => decide (q.1 ∈ ls)) ++ K) := fun q hq => .tail _ (List.mem_append_right _ hq)
    dsimp only
    show wpAny _ _ (execs _ _) Q E _
    k_dflt (refine' law_d (K := (l0, listOf (ls.map Value.ref).toArray cc) :: (n₂.filter (fun q => decide (q.1 ∈ ls)) ++ K)) B F₂ X N₂ T ?hE hdp hun C.gi AP hAs hA0 hGm KP' f1 f2 (inKK _ kth) (.head _) fdK (inKK _ k2) d2 mc dc C.m5 d5 n45 ?K4 ?K5 A4 A5 ret)
    case hE => exact hE
    case K4 =>
      intro q hq
      rcases inK q hq with h | h | h
      · exact fun e => O.n04 (h ▸ e)
      · exact (hfr _ h).1
      · exact K4 q h
    case K5 =>
      intro q hq
      rcases inK q hq with h | h | h
      · exact fun e => O.n05 (h ▸ e)
      · exact (hfr _ h).2.1
      · exact K5 q h
end
theorem isStr_two {v : Value} {a b : Str} (h : v.isStr a = true) (hab : (a == b) = false) : v.isStr b = false := by
  cases v <;> simp_all [Value.isStr]
theorem find_put {name : Str} {hsh : Int} {key v : Value} : ∀ {es : List DictEntry} {e0 : DictEntry}, es.find? (·.key.isStr name) = some e0 → (putL name hsh key v es).find? (·.key.isStr name) = some ⟨e0.hash, e0.key, v⟩
  | [], _, h => by simp at h
  | e :: r, e0, h => by
    unfold putL
    by_cases hh : e.key.isStr name = true
    · rw [List.find?_cons, hh] at h
      cases h
      rw [if_pos hh, List.find?_cons]
      simp only [hh]
    · rw [List.find?_cons, eq_false_of_ne_true hh] at h
      rw [if_neg hh, List.find?_cons]
      simp only [eq_false_of_ne_true hh]
      exact find_put h
theorem find_put_ne {name name2 : Str} {hsh : Int} {key v : Value} (hab : (name == name2) = false) : ∀ {es : List DictEntry} {e0 : DictEntry} {e2 : DictEntry}, es.find? (·.key.isStr name) = some e0 → es.find? (·.key.isStr name2) = some e2 → (putL name hsh key v es).find? (·.key.isStr name2) = some e2
  | [], _, _, h, _ => by simp at h
  | e :: r, e0, e2, h, h2 => by
    unfold putL
    by_cases hh : e.key.isStr name = true
    · have h3 := isStr_two hh hab
      rw [if_pos hh, List.find?_cons]
      rw [List.find?_cons] at h2
      simp only [h3] at h2 ⊢
      exact h2
    · rw [List.find?_cons, eq_false_of_ne_true hh] at h
      rw [if_neg hh, List.find?_cons]
      rw [List.find?_cons] at h2
      by_cases h3 : e.key.isStr name2 = true
      · simp only [h3] at h2 ⊢
        exact h2
      · simp only [eq_false_of_ne_true h3] at h2 ⊢
        exact find_put_ne hab h h2
theorem put_len {name : Str} {hsh : Int} {key v : Value} : ∀ {es : List DictEntry} {e0 : DictEntry}, es.find? (·.key.isStr name) = some e0 → (putL name hsh key v es).length = es.length
  | [], _, h => by simp at h
  | e :: r, e0, h => by
    unfold putL
    by_cases hh : e.key.isStr name = true
    · rw [if_pos hh]; rfl
    · rw [List.find?_cons, eq_false_of_ne_true hh] at h
      rw [if_neg hh, List.length_cons, List.length_cons, put_len h]
theorem getL_find {name : Str} {es : List DictEntry} {v : Value} (h : getL name es = some (some v)) : ∃ e0, es.find? (·.key.isStr name) = some e0 ∧ e0.val = v := by
  unfold getL at h
  split at h
  · rename_i e he
    exact ⟨e, he, by simpa using h⟩
  · split at h <;> simp at h
theorem getL_of {name : Str} {es : List DictEntry} {e0 : DictEntry} (h : es.find? (·.key.isStr name) = some e0) : getL name es = some (some e0.val) := by
  unfold getL
  rw [h]
/-- the world: the object, its dict, its list of holders, the number of things made -/
inductive WorldIn (nw : List (Addr × Obj)) (ax dw lh : Addr) (k : Int) (hs : List Value) : Prop
  | mk {es : List DictEntry} {n nh : Nat} {t : Tok} (hx : (ax, instObj 259 dw) ∈ nw) (hd : (dw, dictOf es n) ∈ nw) (hm : getL "made" es = some (some (.int k t))) (hh : getL "holders" es = some (some (.ref lh))) (hz : es.length ≤ 100)
      (hl : (lh, listOf hs.toArray nh) ∈ nw) : WorldIn nw ax dw lh k hs
section
variable {w : World} {A : Around} {E : Value → Shared → Prop} {s : Shared} {h₀ : Heap} {L : Addr} {m : Str → Option Value} {news : List (Addr × Obj)} {ax dw lh : Addr} {es : List DictEntry} {n : Nat} {k : Int} {t : Tok} {expr : Bool}
theorem my_getMade {Q : Value → Shared → Prop} (F : Fr h₀ L s.heap m) (X : (fr.heap_1 w.params).In h₀) (N : News h₀ L s.heap news) (hx : (ax, instObj 259 dw) ∈ news) (hd : (dw, dictOf es n) ∈ news) (hm : getL "made" es = some (some (.int k t)))
    (h : Q (.int k t) { s with toks := s.toks + 1 }) : wpAny (model PySem.Challenge.rw_xm0934_01.row.prog w) A (getAttr (.ref ax) "made" expr) Q E s := by
  revert X; k_fill; intro X
  exact get_own (C := 259) (attr := none) F X (InstAt.of_news N hx hd) (by k_is) (by k_is) (by k_is) (by k_is) hm (by rfl) h
theorem my_getHolders {Q : Value → Shared → Prop} (F : Fr h₀ L s.heap m) (X : (fr.heap_1 w.params).In h₀) (N : News h₀ L s.heap news) (hx : (ax, instObj 259 dw) ∈ news) (hd : (dw, dictOf es n) ∈ news) (hm : getL "holders" es = some (some (.ref lh)))
    (h : Q (.ref lh) { s with toks := s.toks + 1 }) : wpAny (model PySem.Challenge.rw_xm0934_01.row.prog w) A (getAttr (.ref ax) "holders" expr) Q E s := by
  revert X; k_fill; intro X
  exact get_own (C := 259) (attr := none) F X (InstAt.of_news N hx hd) (by k_is) (by k_is) (by k_is) (by k_is) hm (by rfl) h
theorem my_setMade {Q : Unit → Shared → Prop} {y : Int} {u : Tok} (F : Fr h₀ L s.heap m) (X : (fr.heap_1 w.params).In h₀) (N : News h₀ L s.heap news) (hx : (ax, instObj 259 dw) ∈ news) (hd : (dw, dictOf es n) ∈ news) (hne : ax ≠ dw) (hm : getL "made" es = some (some (.int k t))) (hh : getL "holders" es = some (some (.ref lh))) (hz : es.length ≤ 100)
    (h : ∀ h' es' n', Fr h₀ L h' m → News h₀ L h' (setL dw (dictOf es' n') news) → getL "made" es' = some (some (.int y u)) → getL "holders" es' = some (some (.ref lh)) → es'.length ≤ 100 → Q () { s with heap := h', toks := s.toks + 2 }) :
    wpAny (model PySem.Challenge.rw_xm0934_01.row.prog w) A (setAttr (.ref ax) "made" (.int y u)) Q E s := by
  obtain ⟨e0, he0, _⟩ := getL_find hm
  obtain ⟨e1, he1, hv1⟩ := getL_find hh
  revert X; k_fill; intro X
  refine set_dict (C := 259) F X (newsHead N hd) (InstAt.of_news (newsHead N hd) (List.mem_cons_of_mem _ (List.mem_filter.mpr ⟨hx, by simpa using hne⟩)) (List.Mem.head _)) rfl (by k_is) (by k_is) (by k_is) (by k_is) (by rw [hm]; rfl) rfl (Upd.head setL_off) (by rw [put_len he0]; omega)
    (fun h' F' N' => h h' _ _ F' N' (getL_of (find_put he0)) ?_ ?_)
  · have := getL_of (find_put_ne (name := "made") (name2 := "holders") (hsh := PyData.keyHash w.params "made") (key := .str "made" (s.toks + 1)) (v := .int y u) (by decide) he0 he1)
    rw [hv1] at this; exact this
  · rw [put_len he0]; exact hz
end
theorem typeCall_units (A : Around) (args : Args) : (A.under (.builtin "type.__call__" args)).units = A.units + 1 := by
  first | rfl | simp [Around.under, Code.cUnits, Code.frames, Code.isFrame]
theorem typeCall_depth (A : Around) (c : Addr) (pos : List Value) (kw : List (Str × Value)) : (A.under (.builtin "type.__call__" ⟨.ref c :: pos, kw⟩)).depth = A.depth + 1 := by
  show A.depth + Code.weight _ = A.depth + 1
  rw [show Code.weight (.builtin "type.__call__" ⟨.ref c :: pos, kw⟩) = 1 from rfl]
theorem setL_over {d : Addr} {o o1 : Obj} {news : List (Addr × Obj)} : ∀ p ∈ setL d o news, p ∈ setL d o (setL d o1 news) := fun p hp => by
  rcases List.mem_cons.mp hp with rfl | hp
  · exact setL_head
  · obtain ⟨h1, h2⟩ := List.mem_filter.mp hp
    have h3 : p.1 ≠ d := by simpa using h2
    exact setL_mem (setL_mem h1 h3) h3
theorem my_set204 {w : World} {A : Around} {E : Value → Shared → Prop} {s : Shared} {h₀ : Heap} {L : Addr} {m : Str → Option Value} {news : List (Addr × Obj)} {K : Frag} {x d : Addr} {es es' : List DictEntry} {n n' : Nat} {name : Str} {v : Value} {prog : Program} {Q : Unit → Shared → Prop}
    (F : Fr h₀ L s.heap m) (X : K.In h₀) (N : News h₀ L s.heap news) (hx : (x, instObj 204 d) ∈ news) (hd : (d, dictOf es n) ∈ news) (hne : x ≠ d)
    (hs : findIn K (.ref 204) "__setattr__" = some (some (.builtin "object.__setattr__"))) (hp : plainOver K 204 = true) (ht : takerIn K 204 name = some none) (hh : hasDictIn K 204 = true) (hl : (getL name es).isSome = true)
    (e : (putL name (PyData.keyHash w.params name) (.str name (s.toks + 1)) v es, putN name es n) = (es', n')) (hz : es'.length ≤ 1000)
    (h : ∀ h', Fr h₀ L h' m → News h₀ L h' (setL d (dictOf es' n') news) → Q () { s with heap := h', toks := s.toks + 2 }) : wpAny (model prog w) A (setAttr (.ref x) name v) Q E s :=
  set_dict (C := 204) F X (newsHead N hd) (InstAt.of_news (newsHead N hd) (List.mem_cons_of_mem _ (List.mem_filter.mpr ⟨hx, by simpa using hne⟩)) (List.Mem.head _)) rfl hs hp ht hh hl e (Upd.head setL_off) hz h
section
variable {prog : Program} {w : World} {A : Around} {E : Value → Shared → Prop} {s : Shared} {h₀ : Heap} {L l b : Addr} {m : Str → Option Value} {news : List (Addr × Obj)} {n n2 : Nat} {u : Tok} {x1 x2 x3 y1 y2 y3 : Value}
theorem my_mul3 {Q : Value → Shared → Prop} (F : Fr h₀ L s.heap m) (N : News h₀ L s.heap news) (hm : (l, listOf #[x1] n) ∈ news)
    (h : ∀ D h', Fr h₀ L h' m → News h₀ L h' ((D, listOf #[x1, x1, x1] 0) :: news) → (∀ p ∈ news, p.1 < D) → Q (.ref D) { s with heap := h' }) : wpAny (model prog w) A (binaryOp .Mult (.ref l) (.int 3 u)) Q E s :=
  KMa.mul (vs := [x1]) (ws := [x1, x1, x1]) F N (IsL.isList (n := n) (N _ hm).1) (by decide) (by decide) (Nat.le_of_ble_eq_true rfl) rfl h
theorem my_add33 {Q : Value → Shared → Prop} (F : Fr h₀ L s.heap m) (N : News h₀ L s.heap news) (hm : (l, listOf #[x1, x2, x3] n) ∈ news) (hb : (b, listOf #[y1, y2, y3] n2) ∈ news)
    (h : ∀ D h', Fr h₀ L h' m → News h₀ L h' ((D, listOf #[x1, x2, x3, y1, y2, y3] 0) :: news) → (∀ p ∈ news, p.1 < D) → Q (.ref D) { s with heap := h' }) : wpAny (model prog w) A (binaryOp .Add (.ref l) (.ref b)) Q E s :=
  kmk_add_lit (zs := [x1, x2, x3, y1, y2, y3]) F N (IsL.isList (n := n) (N _ hm).1) (IsL.isList (n := n2) (N _ hb).1) rfl h (by rw [sizeLine_eq]; exact Nat.le_of_ble_eq_true rfl)
end
local macro_rules | `(tactic| walk_at "getMethod ref") => `(tactic| (k_here; (with_reducible show wpAny _ _ (getMethod (Value.ref 138) (PySem.Str.ofString "__init__") _) _ _ _); k_dflt (refine' method_of_cls ?k1 ?k2 ?k3 ?_; (case k1 => k_asm); (case k2 => k_asm); (case k3 => k_is); k_whole)))
local macro_rules | `(tactic| walk_at "getAttr ref") => `(tactic| (k_here; (with_reducible show wpAny _ _ (getAttr (Value.ref 138) (PySem.Str.ofString "__init__") _) _ _ _); k_dflt (refine' cls_val ?k1 ?k2 ?k3 ?k4 ?k5 ?k6 ?_; (case k1 => k_asm); (case k2 => k_asm); (case k3 => k_is); (case k4 => k_is); (case k5 => k_is); (case k6 => k_handed); k_whole)))
local macro_rules | `(tactic| walk_at "binaryOp Mult ref int") => `(tactic| (k_here; (with_reducible show wpAny _ _ (binaryOp Operator.Mult (Value.ref _) (Value.int _ _)) _ _ _); k_dflt (refine' my_mul3 ?F ?N ?l ?_; (case F => k_asm); (case N => k_asm); (case l => k_mem); k_whole); intro D' h' F' N' l1))
local macro_rules | `(tactic| walk_at "binaryOp Add ref ref") => `(tactic| (k_here; (with_reducible show wpAny _ _ (binaryOp _ (Value.ref _) (Value.ref _)) _ _ _); k_dflt (refine' my_add33 ?F ?N ?l ?b ?_; (case F => k_asm); (case N => k_asm); (case l => k_mem); (case b => k_mem); k_whole); intro D' h' F' N' l1))
theorem off_20 : True := by
  w_top off
  trivial
section
local macro_rules | `(tactic| ktr_rel) => `(tactic| (simp only [typeCall_depth, typeCall_units]; (try dsimp only [ktrTop]); omega))
local macro_rules | `(tactic| walk_at "setAttr ref") => `(tactic| (k_here; k_dflt (refine' my_set204 ?k1 ?k2 ?k3 ?k4 ?k5 ?k6 ?k7 ?k8 ?k9 ?k10 ?k11 ?k12 ?k13 ?_; (case k1 => k_asm); (case k2 => k_asm); (case k3 => k_asm); (case k4 => k_mem); (case k5 => k_mem); (case k6 => first | assumption | k_ne); (case k7 => k_is); (case k8 => k_is); (case k9 => k_is); (case k10 => k_is); (case k11 => rfl); (case k12 => k_put); (case k13 => exact Nat.le_of_ble_eq_true rfl); k_whole); intro h' F' N'))
local macro_rules | `(tactic| walk_at "getAttr ref") => `(tactic| (k_here; (with_reducible show wpAny _ _ (getAttr (Value.ref _) (PySem.Str.ofString "made") _) _ _ _); k_dflt (refine' my_getMade ?k1 ?k2 ?k3 ?k4 ?k5 ?k6 ?_; (case k1 => k_asm); (case k2 => k_asm); (case k3 => k_asm); (case k4 => k_mem); (case k5 => k_mem); (case k6 => assumption); k_whole)))
local macro_rules | `(tactic| walk_at "getAttr ref") => `(tactic| (k_here; (with_reducible show wpAny _ _ (getAttr (Value.ref _) (PySem.Str.ofString "holders") _) _ _ _); k_dflt (refine' my_getHolders ?k1 ?k2 ?k3 ?k4 ?k5 ?k6 ?_; (case k1 => k_asm); (case k2 => k_asm); (case k3 => k_asm); (case k4 => k_mem); (case k5 => k_mem); (case k6 => assumption); k_whole)))
local macro_rules | `(tactic| walk_at "setAttr ref") => `(tactic| (k_here; (with_reducible show wpAny _ _ (setAttr (Value.ref _) (PySem.Str.ofString "made") (Value.int _ _)) _ _ _); k_dflt (refine' my_setMade ?k1 ?k2 ?k3 ?k4 ?k5 ?k6 ?k7 ?k8 ?k9 ?_; (case k1 => k_asm); (case k2 => k_asm); (case k3 => k_asm); (case k4 => k_mem); (case k5 => k_mem); (case k6 => k_ne); (case k7 => assumption); (case k8 => assumption); (case k9 => assumption); k_whole); intro h' es' n' F' N' g1' g2' g3'))
local macro_rules | `(tactic| tb_start) => `(tactic| repeat' (first | (k_unfold; (try dsimp only)) | (k_end; wrow_close) | walk1 | (dsimp only; walk1) | (leave1; try dsimp only) | fail "no step"))
set_option maxHeartbeats 8000000 in
theorem holder_init {w : World} {dp un : Nat} {gd : Option (List Code)} {cn : Str} {cs : Scope} {a : Addr} {ccd : Value} {cl : List (Str × Addr)} {outer : List Env} {A₀ : Around} {base h₀ : Heap} {L : Addr} {m : Str → Option Value}
    {news : List (Addr × Obj)} {s : Shared} {Q E : Value → Shared → Prop} {p : Program} {loose : List Str} {mean : ExcName → Option Value} {mg mb : Str → Option Value}
    {x d : Addr} {k : Int} {t u : Tok}
    (B : Below A₀ base outer h₀) (F : Fr h₀ L s.heap m) (X : (fr.heap_1 w.params).In h₀) (N : News h₀ L s.heap news) (T : Top p loose mean mg mb h₀) (hk : cs.kind = .function)
    (hdp : dp < 450) (hun : un < 5000) (hx : (x, instObj 204 d) ∈ news) (hd : (d, dictOf [] 0) ∈ news) (hne : x ≠ d)
    (ret : ∀ h' tk' h1 h2 h3 t1 t2 t3 z1, Fr h₀ L h' m → News h₀ L h' (setL d (dictOf [⟨h1, .str "word" t1, .str "NODE" t⟩, ⟨h2, .str "number" t2, .int k u⟩, ⟨h3, .str "mark" t3, .int 0 z1⟩] 3) news) → Q .none { s with heap := h', toks := tk' }) :
    wpAny (model PySem.Challenge.rw_xm0934_01.row.prog w) (ktrTop dp un gd cn cs L a ccd cl outer) (call (.ref 135) [.ref x, .str "NODE" t, .int k u]) Q E s := by
  revert X; k_fill; intro X
  refine wpAny_call ?_
  k_dflt ktr_enter
  tb_start
  exact ret _ _ _ _ _ _ _ _ _ (by k_asm) (newsSub (by k_asm) fun p hp => setL_over p (setL_over p (by
    rcases List.mem_cons.mp hp with rfl | hp
    · exact setL_head
    · obtain ⟨h1, h2⟩ := List.mem_filter.mp hp
      have h3 : p.1 ≠ d := by simpa using h2
      exact setL_mem h1 h3)))
local macro_rules | `(tactic| walk_at "call ref") => `(tactic| (k_here; (with_reducible show wpAny _ _ (call (Value.ref _) [Value.ref _, Value.str _ _, Value.int _ _]) _ _ _); k_dflt (refine' holder_init ?k1 ?k2 ?k3 ?k4 ?k5 ?k6 ?k7 ?k8 ?k9 ?k10 ?k11 ?_; (case k1 => k_asm); (case k2 => k_asm); (case k3 => k_asm); (case k4 => k_asm); (case k5 => k_asm); (case k6 => exact rfl); (case k9 => k_mem); (case k10 => k_mem); (case k11 => first | assumption | k_ne); (case k7 => ktr_rel); (case k8 => ktr_rel); k_whole); intro h' tk' h1' h2' h3' t1' t2' t3' z1' F' N'))
set_option maxHeartbeats 8000000 in
theorem data_new {w : World} {dp un : Nat} {gd : Option (List Code)} {cn : Str} {cs : Scope} {a : Addr} {ccd : Value} {cl : List (Str × Addr)} {outer : List Env} {A₀ : Around} {base h₀ : Heap} {L : Addr} {m : Str → Option Value}
    {news : List (Addr × Obj)} {s : Shared} {Q E : Value → Shared → Prop} {p : Program} {loose : List Str} {mean : ExcName → Option Value} {mg mb : Str → Option Value}
    {k : Int} {t u : Tok} {lf lv : Addr}
    (B : Below A₀ base outer h₀) (F : Fr h₀ L s.heap m) (X : (fr.heap_1 w.params).In h₀) (N : News h₀ L s.heap news) (T : Top p loose mean mg mb h₀) (hk : cs.kind = .function)
    (hdp : dp < 445) (hun : un < 4500)
    (ret : ∀ h' tk' x d h1 h2 h3 h4 h5 t1 t2 t3 t4 t5 z1 n, Fr h₀ L h' m → News h₀ L h' ((x, instObj 204 d) :: (d, dictOf [⟨h1, .str "word" t1, .str "NODE" t⟩, ⟨h2, .str "number" t2, .int k u⟩, ⟨h3, .str "mark" t3, .int 0 z1⟩, ⟨h4, .str "fields" t4, .ref lf⟩, ⟨h5, .str "values" t5, .ref lv⟩] n) :: news) →
      (∀ q ∈ news, q.1 < d) → d < x → Q (.ref x) { s with heap := h', toks := tk' }) :
    wpAny (model PySem.Challenge.rw_xm0934_01.row.prog w) (ktrTop dp un gd cn cs L a ccd cl outer) (call (.ref 204) [.int k u, .str "NODE" t, .ref lf, .ref lv]) Q E s := by
  revert X; k_fill; intro X
  k_dflt (refine' call_cls F X N ?k4 ?k5 ?k6 ?_; (case k4 => k_is); (case k5 => k_is); (case k6 => k_is))
  intro x' d' h' F' N' l1 l2
  have ne1 : x' ≠ d' := fun e => Nat.lt_irrefl _ (e ▸ l2 : (d' : Nat) < d')
  k_dflt ktr_enter
  tb_start
  exact ret _ _ _ _ _ _ _ _ _ _ _ _ _ _ _ _ (by k_asm) (newsSub (by k_asm) fun p hp => by
    rcases List.mem_cons.mp hp with rfl | hp
    · exact setL_mem (setL_mem (setL_mem (.head _) ne1) ne1) ne1
    · rcases List.mem_cons.mp hp with rfl | hp
      · exact setL_head
      · have n1 : p.1 ≠ d' := Nat.ne_of_lt (l1 p hp)
        exact setL_mem (setL_mem (setL_mem (.tail _ (.tail _ hp)) n1) n1) n1) l1 l2
local macro_rules | `(tactic| walk_at "call ref") => `(tactic| (k_here; (with_reducible show wpAny _ _ (call (Value.ref 204) [Value.int _ _, Value.str _ _, Value.ref _, Value.ref _]) _ _ _); k_dflt (refine' data_new ?k1 ?k2 ?k3 ?k4 ?k5 ?k6 ?k7 ?k8 ?_; (case k1 => k_asm); (case k2 => k_asm); (case k3 => k_asm); (case k4 => k_asm); (case k5 => k_asm); (case k6 => exact rfl); (case k7 => ktr_rel); (case k8 => ktr_rel); k_whole); intro h' tk' x' d' h1' h2' h3' h4' h5' t1' t2' t3' t4' t5' z1' n' F' N' l1 l2))
set_option maxHeartbeats 8000000 in
theorem held_call {w : World} {dp un : Nat} {gd : Option (List Code)} {cn : Str} {cs : Scope} {a : Addr} {ccd : Value} {cl : List (Str × Addr)} {outer : List Env} {A₀ : Around} {base h₀ : Heap} {L : Addr} {m : Str → Option Value}
    {news : List (Addr × Obj)} {s : Shared} {Q E : Value → Shared → Prop} {p : Program} {loose : List Str} {mean : ExcName → Option Value} {mg mb : Str → Option Value}
    {ax dw lh x : Addr} {hs : List Value} {es : List DictEntry} {n nh : Nat}
    (B : Below A₀ base outer h₀) (F : Fr h₀ L s.heap m) (X : (fr.heap_1 w.params).In h₀) (N : News h₀ L s.heap news) (T : Top p loose mean mg mb h₀) (hk : cs.kind = .function)
    (hdp : dp < 445) (hun : un < 4500) (hx : (ax, instObj 259 dw) ∈ news) (hd : (dw, dictOf es n) ∈ news) (hh : getL "holders" es = some (some (.ref lh))) (hl : (lh, listOf hs.toArray nh) ∈ news) (hz : hs.length ≤ 10)
    (ret : ∀ h' tk' n', Fr h₀ L h' m → News h₀ L h' (setL lh (listOf (hs ++ [Value.ref x]).toArray n') news) → Q (.ref x) { s with heap := h', toks := tk' }) :
    wpAny (model PySem.Challenge.rw_xm0934_01.row.prog w) (ktrTop dp un gd cn cs L a ccd cl outer) (call (.ref 277) [.ref ax, .ref x]) Q E s := by
  revert X; k_fill; intro X
  refine wpAny_call ?_
  k_dflt ktr_enter
  tb_start
  exact ret _ _ _ (by k_asm) (by k_asm)
local macro_rules | `(tactic| walk_at "call ref") => `(tactic| (k_here; (with_reducible show wpAny _ _ (call (Value.ref 277) [Value.ref _, Value.ref _]) _ _ _); k_dflt (refine' held_call ?k1 ?k2 ?k3 ?k4 ?k5 ?k6 ?k7 ?k8 ?k9 ?k10 ?k11 ?k12 ?k13 ?_; (case k1 => k_asm); (case k2 => k_asm); (case k3 => k_asm); (case k4 => k_asm); (case k5 => k_asm); (case k6 => exact rfl); (case k9 => k_mem); (case k10 => k_mem); (case k11 => assumption); (case k12 => k_mem); (case k13 => assumption); (case k7 => ktr_rel); (case k8 => ktr_rel); k_whole); intro h' tk' n' F' N'))
set_option maxHeartbeats 8000000 in
theorem made_call {w : World} {dp un : Nat} {gd : Option (List Code)} {cn : Str} {cs : Scope} {a : Addr} {ccd : Value} {cl : List (Str × Addr)} {outer : List Env} {A₀ : Around} {base h₀ : Heap} {L : Addr} {m : Str → Option Value}
    {news : List (Addr × Obj)} {s : Shared} {Q E : Value → Shared → Prop} {p : Program} {loose : List Str} {mean : ExcName → Option Value} {mg mb : Str → Option Value}
    {ax dw lh lf lv : Addr} {k : Int} {hs : List Value} {t q1 q2 q3 u1 u2 u3 : Tok} {nf nv : Nat}
    (B : Below A₀ base outer h₀) (F : Fr h₀ L s.heap m) (X : (fr.heap_1 w.params).In h₀) (N : News h₀ L s.heap news) (T : Top p loose mean mg mb h₀) (hk : cs.kind = .function)
    (hdp : dp < 440) (hun : un < 4000) (W : WorldIn news ax dw lh k hs) (hne1 : ax ≠ dw) (hne2 : lh ≠ dw) (hne3 : lh ≠ ax) (hf : (lf, listOf #[.str "L" q1, .str "R" q2, .str "M" q3] nf) ∈ news) (hv : (lv, listOf #[.str "" u1, .str "" u2, .int 0 u3] nv) ∈ news) (hz : hs.length ≤ 10) (hfd : lf ≠ dw) (hfl : lf ≠ lh) (hvd : lv ≠ dw) (hvl : lv ≠ lh)
    (ret : ∀ h' tk' x d v z1 z2 z3 n news', Fr h₀ L h' m → News h₀ L h' news' → Node news' x d lf v (k + 1) → (v, listOf #[.str "" z1, .str "" z2, .int 0 z3] n) ∈ news' → WorldIn news' ax dw lh (k + 1) (hs ++ [.ref x]) → (∀ q ∈ news, q.1 ≠ dw → q.1 ≠ lh → q ∈ news') →
      (∀ q ∈ news, q.1 < x ∧ q.1 < d ∧ q.1 < v) → x ≠ d → x ≠ v → d ≠ v → Q (.ref x) { s with heap := h', toks := tk' }) :
    wpAny (model PySem.Challenge.rw_xm0934_01.row.prog w) (ktrTop dp un gd cn cs L a ccd cl outer) (call (.ref 284) [.ref ax, .str "NODE" t, .ref lf, .ref lv]) Q E s := by
  revert X; k_fill; intro X
  obtain ⟨hx, hd, hm, hh, hz1, hl⟩ := W
  refine wpAny_call ?_
  k_dflt ktr_enter
  tb_start
  rename News h₀ L _ (setL lh _ (_ :: _)) => N9
  rename (_ ∧ _ ∧ _ ∧ AllLt _ _) => l3
  rename (∀ q : Addr × Obj, q ∈ (_ :: _ :: _ :: _ :: setL _ _ _) → q.1 < _) => l4
  rename (@LT.lt Addr _ _ _) => l5
  have l6 := kst_ltOf l3.2.2.2
  have l7 := l4 _ (.head _)
  have fD : ∀ q ∈ news, q.1 < _ := fun q hq => by
    by_cases e : q.1 = dw
    · have := l6 _ setL_head
      rw [e]; exact this
    · exact l6 _ (setL_mem hq e)
  have nD := Nat.ne_of_gt (fD _ hl)
  have nd := Nat.ne_of_gt (Nat.lt_trans (fD _ hl) l7)
  have nx := Nat.ne_of_gt (Nat.lt_trans (Nat.lt_trans (fD _ hl) l7) l5)
  refine ret _ _ _ _ _ _ _ _ _ _ (by k_asm) N9 (.mk (setL_mem (.head _) nx) (setL_mem (.tail _ (.head _)) nd) (setL_mem (.tail _ (.tail _ (.tail _ (.tail _ (.tail _ (.tail _ (setL_mem hf hfd))))))) hfl)) (setL_mem (.tail _ (.tail _ (.head _))) nD)
    (.mk (setL_mem (.tail _ (.tail _ (.tail _ (.tail _ (.tail _ (.tail _ (setL_mem hx hne1))))))) (Ne.symm hne3)) (setL_mem (.tail _ (.tail _ (.tail _ (.tail _ (.tail _ (.tail _ setL_head)))))) (Ne.symm hne2)) (by assumption) (by assumption) (by assumption) setL_head)
    (fun q hq h1 h2 => setL_mem (.tail _ (.tail _ (.tail _ (.tail _ (.tail _ (.tail _ (setL_mem hq h1))))))) h2) (fun q hq => ⟨Nat.lt_trans (Nat.lt_trans (fD q hq) l7) l5, Nat.lt_trans (fD q hq) l7, fD q hq⟩) (Nat.ne_of_gt l5) (Nat.ne_of_gt (Nat.lt_trans l7 l5)) (Nat.ne_of_gt l7)
end
theorem WorldIn.mono {nw nw' : List (Addr × Obj)} {ax dw lh : Addr} {k : Int} {hs : List Value} (W : WorldIn nw ax dw lh k hs) (h : ∀ q ∈ nw, (q.1 = ax ∨ q.1 = dw ∨ q.1 = lh) → q ∈ nw') : WorldIn nw' ax dw lh k hs := by
  obtain ⟨hx, hd, hm, hh, hz, hl⟩ := W
  exact .mk (h _ hx (.inl rfl)) (h _ hd (.inr (.inl rfl))) hm hh hz (h _ hl (.inr (.inr rfl)))
theorem off3_of {I C D : Addr} : ∀ {l : List (Addr × Obj)}, (∀ p ∈ l, @Ne Nat p.1 I ∧ @Ne Nat p.1 C ∧ @Ne Nat p.1 D) → LCg.Off3 I C D l
  | [], _ => trivial
  | p :: r, h => ⟨h p (.head _), off3_of fun q hq => h q (.tail _ hq)⟩
theorem linkV_snoc {As : List Adr} {a : Adr} {v : Value} {k : Nat} (h : LinkV As v k) : LinkV (As ++ [a]) v k := by
  rcases h with h | ⟨b, k0, hb, e⟩
  · exact .inl h
  · exact .inr ⟨b, k0, by rw [List.getElem?_append_left (List.getElem?_eq_some_iff.mp hb).1]; exact hb, e⟩
theorem snoc_get {α : Type} {l : List α} {a b : α} {i : Nat} (h : (l ++ [a])[i]? = some b) : l[i]? = some b ∨ (i = l.length ∧ b = a) := by
  by_cases hi : i < l.length
  · rw [List.getElem?_append_left hi] at h; exact .inl h
  · rw [List.getElem?_append_right (Nat.le_of_not_lt hi)] at h
    have e : i - l.length = 0 := by
      cases e : i - l.length with
      | zero => rfl
      | succ k => rw [e] at h; simp at h
    rw [e] at h
    exact .inr ⟨by omega, by simpa using h.symm⟩
theorem graph_snoc {nw : List (Addr × Obj)} {As : List Adr} {G : List Nd} {a : Adr} {z1 z2 z3 : Tok} {n : Nat} (g : GraphIn nw As G) (h : Node nw a.x a.d a.f a.v ((As.length : Int) + 1)) (hv : (a.v, listOf #[.str "" z1, .str "" z2, .int 0 z3] n) ∈ nw) : GraphIn nw (As ++ [a]) (G ++ [⟨0, 0, 0⟩]) where
  len := by simp [g.len]
  node := fun i b hb => by
    rcases snoc_get hb with hb | ⟨rfl, rfl⟩
    · exact g.node i b hb
    · exact h
  vals := fun i b q hb hq => by
    rcases snoc_get hb with hb | ⟨rfl, rfl⟩
    · rcases snoc_get hq with hq | ⟨e, rfl⟩
      · obtain ⟨v0, v1, t, m, h1, h2, h3⟩ := g.vals i b q hb hq
        exact ⟨v0, v1, t, m, h1, linkV_snoc h2, linkV_snoc h3⟩
      · have := (List.getElem?_eq_some_iff.mp hb).1
        have := g.len
        omega
    · rcases snoc_get hq with hq | ⟨e, rfl⟩
      · have := (List.getElem?_eq_some_iff.mp hq).1
        have := g.len
        omega
      · exact ⟨_, _, z3, n, hv, .inl ⟨rfl, _, rfl⟩, .inl ⟨rfl, _, rfl⟩⟩
theorem apart_snoc {As : List Adr} {a : Adr} (h : Apart As) (ho : ∀ b ∈ As, ¬ b.has a.x ∧ ¬ b.has a.d ∧ ¬ b.has a.f ∧ ¬ b.has a.v) (xd : a.x ≠ a.d) (xv : a.x ≠ a.v) (dv : a.d ≠ a.v) (fd : a.f ≠ a.d) (fv : a.f ≠ a.v) : Apart (As ++ [a]) := by
  have mem : ∀ b ∈ As ++ [a], b ∈ As ∨ b = a := fun b hb => (List.mem_append.mp hb).imp id List.mem_singleton.mp
  refine ⟨fun p hp q hq => ?_, fun p hp q hq => ?_, fun p hp q hq => ?_, fun p hp q hq => ?_, fun p hp q hq => ?_, fun i j p q hp hq e => ?_, fun i j p q hp hq e => ?_⟩
  · rcases mem p hp with hp' | rfl <;> rcases mem q hq with hq' | rfl
    · exact h.vx p hp' q hq'
    · exact fun e => (ho p hp').1 (.inr (.inr (.inr e)))
    · exact fun e => (ho q hq').2.2.2 (.inl e.symm)
    · exact xv
  · rcases mem p hp with hp' | rfl <;> rcases mem q hq with hq' | rfl
    · exact h.vd p hp' q hq'
    · exact fun e => (ho p hp').2.1 (.inr (.inr (.inr e)))
    · exact fun e => (ho q hq').2.2.2 (.inr (.inl e.symm))
    · exact dv
  · rcases mem p hp with hp' | rfl <;> rcases mem q hq with hq' | rfl
    · exact h.vf p hp' q hq'
    · exact fun e => (ho p hp').2.2.1 (.inr (.inr (.inr e)))
    · exact fun e => (ho q hq').2.2.2 (.inr (.inr (.inl e.symm)))
    · exact fv
  · rcases mem p hp with hp' | rfl <;> rcases mem q hq with hq' | rfl
    · exact h.dx p hp' q hq'
    · exact fun e => (ho p hp').1 (.inr (.inl e))
    · exact fun e => (ho q hq').2.1 (.inl e.symm)
    · exact xd
  · rcases mem p hp with hp' | rfl <;> rcases mem q hq with hq' | rfl
    · exact h.df p hp' q hq'
    · exact fun e => (ho p hp').2.2.1 (.inr (.inl e))
    · exact fun e => (ho q hq').2.1 (.inr (.inr (.inl e.symm)))
    · exact fd
  · rcases snoc_get hp with hp' | ⟨rfl, rfl⟩ <;> rcases snoc_get hq with hq' | ⟨rfl, rfl⟩
    · exact h.vv i j p q hp' hq' e
    · exact absurd (.inr (.inr (.inr e.symm))) (ho p (mem_of_get hp')).2.2.2
    · exact absurd (.inr (.inr (.inr e))) (ho q (mem_of_get hq')).2.2.2
    · rfl
  · rcases snoc_get hp with hp' | ⟨rfl, rfl⟩ <;> rcases snoc_get hq with hq' | ⟨rfl, rfl⟩
    · exact h.dd i j p q hp' hq' e
    · exact absurd (.inr (.inl e.symm)) (ho p (mem_of_get hp')).2.1
    · exact absurd (.inr (.inl e)) (ho q (mem_of_get hq')).2.1
    · rfl
theorem apart_nil : Apart [] := ⟨nofun, nofun, nofun, nofun, nofun, fun _ _ _ _ h => by simp at h, fun _ _ _ _ h => by simp at h⟩
theorem graph_nil {nw : List (Addr × Obj)} : GraphIn nw [] [] := ⟨rfl, fun _ _ h => by simp at h, fun _ _ _ h => by simp at h⟩
/-- the state of the comprehension that makes the things -/
structure LB (news : List (Addr × Obj)) (ax dw lh : Addr) (i : Nat) (ys : List Value) (nw : List (Addr × Obj)) (As : List Adr) : Prop where
  ys' : ys = As.map fun a => Value.ref a.x
  len : As.length = i
  gi : GraphIn nw As (List.replicate i ⟨0, 0, 0⟩)
  ap : Apart As
  wi : WorldIn nw ax dw lh (i : Int) ys
  kp : ∀ q ∈ news, q.1 ≠ dw → q.1 ≠ lh → q ∈ nw
  off : ∀ a ∈ As, ∀ q ∈ news, ¬ a.has q.1
/-- a turn of it, in plain -/
theorem LB.turn {news nw nwA news' : List (Addr × Obj)} {ax dw lh I C D lf x d v : Addr} {oI oC oD oF oV : Obj} {lv : Addr} {i n : Nat} {z1 z2 z3 : Tok} {ys : List Value} {As : List Adr} (B : LB news ax dw lh i ys nw As) (hW : ∃ o o', (dw, o) ∈ news ∧ (lh, o') ∈ news)
    (off : LCg.Off3 I C D nw) (ne : ((@Ne Nat I C) ∧ (@Ne Nat I D) ∧ (@Ne Nat C D))) (eA : nwA = (lv, oV) :: (lf, oF) :: (I, oI) :: (C, oC) :: (D, oD) :: nw) (lflt : ∀ q ∈ (I, oI) :: (C, oC) :: (D, oD) :: nw, q.1 < lf)
    (hn : Node news' x d lf v ((i : Int) + 1)) (hv : (v, listOf #[.str "" z1, .str "" z2, .int 0 z3] n) ∈ news') (hw : WorldIn news' ax dw lh ((i : Int) + 1) (ys ++ [.ref x])) (keep : ∀ q ∈ nwA, q.1 ≠ dw → q.1 ≠ lh → q ∈ news') (fresh : ∀ q ∈ nwA, q.1 < x ∧ q.1 < d ∧ q.1 < v)
    (xd : x ≠ d) (xv : x ≠ v) (dv : d ≠ v) :
    ∃ nw', (∀ q ∈ (I, oI) :: (C, oC) :: (D, oD) :: nw', q ∈ news') ∧ LCg.Off3 I C D nw' ∧ LB news ax dw lh (i + 1) (ys ++ [.ref x]) nw' (As ++ [⟨x, d, lf, v⟩]) := by
  subst eA
  obtain ⟨od, oh, hdn, hhn⟩ := hW
  obtain ⟨hxw, hdw, _, _, _, hlw⟩ := B.wi
  have off' := off.mem
  have inA : ∀ q ∈ (I, oI) :: (C, oC) :: (D, oD) :: nw, q ∈ (lv, oV) :: (lf, oF) :: (I, oI) :: (C, oC) :: (D, oD) :: nw := fun q hq => .tail _ (.tail _ hq)
  have fr3 : ∀ q ∈ (I, oI) :: (C, oC) :: (D, oD) :: nw, q.1 ≠ x ∧ q.1 ≠ d ∧ q.1 ≠ v ∧ q.1 ≠ lf := fun q hq => ⟨Nat.ne_of_lt (fresh q (inA q hq)).1, Nat.ne_of_lt (fresh q (inA q hq)).2.1, Nat.ne_of_lt (fresh q (inA q hq)).2.2, Nat.ne_of_lt (lflt q hq)⟩
  have f1 := fr3 _ (.head _)
  have f2 := fr3 _ (.tail _ (.head _))
  have f3 := fr3 _ (.tail _ (.tail _ (.head _)))
  have toN : ∀ q ∈ news', q.1 ≠ I → q.1 ≠ C → q.1 ≠ D → q ∈ news'.filter (fun p => decide (p.1 ≠ I ∧ p.1 ≠ C ∧ p.1 ≠ D)) := fun q hq h1 h2 h3 => List.mem_filter.mpr ⟨hq, decide_eq_true ⟨h1, h2, h3⟩⟩
  have lfx := fresh _ (.tail _ (.head _))
  have nodeIn : ∀ q ∈ news', q.1 = x ∨ q.1 = d ∨ q.1 = v ∨ q.1 = lf → q ∈ news'.filter (fun p => decide (p.1 ≠ I ∧ p.1 ≠ C ∧ p.1 ≠ D)) := fun q hq h => by
    rcases h with e | e | e | e
    · exact toN q hq (e ▸ Ne.symm f1.1) (e ▸ Ne.symm f2.1) (e ▸ Ne.symm f3.1)
    · exact toN q hq (e ▸ Ne.symm f1.2.1) (e ▸ Ne.symm f2.2.1) (e ▸ Ne.symm f3.2.1)
    · exact toN q hq (e ▸ Ne.symm f1.2.2.1) (e ▸ Ne.symm f2.2.2.1) (e ▸ Ne.symm f3.2.2.1)
    · exact toN q hq (e ▸ Ne.symm f1.2.2.2) (e ▸ Ne.symm f2.2.2.2) (e ▸ Ne.symm f3.2.2.2)
  have oldIn : ∀ q ∈ nw, q.1 ≠ dw → q.1 ≠ lh → q ∈ news'.filter (fun p => decide (p.1 ≠ I ∧ p.1 ≠ C ∧ p.1 ≠ D)) := fun q hq h1 h2 =>
    toN q (keep q (.tail _ (.tail _ (.tail _ (.tail _ (.tail _ hq))))) h1 h2) (off' q hq).1 (off' q hq).2.1 (off' q hq).2.2
  have hasNot : ∀ b ∈ As, ∀ y, (∀ q ∈ nw, q.1 ≠ y) → ¬ b.has y := fun b hb y hy => B.gi.ne hy b hb
  have inN : ∀ q ∈ nw, q ∈ (I, oI) :: (C, oC) :: (D, oD) :: nw := fun q hq => .tail _ (.tail _ (.tail _ hq))
  refine ⟨news'.filter (fun p => decide (p.1 ≠ I ∧ p.1 ≠ C ∧ p.1 ≠ D)), ?_, ?_, ?_⟩
  · intro q hq
    rcases List.mem_cons.mp hq with rfl | hq
    · exact keep _ (.tail _ (.tail _ (.head _))) (Ne.symm (off' _ hdw).1) (Ne.symm (off' _ hlw).1)
    · rcases List.mem_cons.mp hq with rfl | hq
      · exact keep _ (.tail _ (.tail _ (.tail _ (.head _)))) (Ne.symm (off' _ hdw).2.1) (Ne.symm (off' _ hlw).2.1)
      · rcases List.mem_cons.mp hq with rfl | hq
        · exact keep _ (.tail _ (.tail _ (.tail _ (.tail _ (.head _))))) (Ne.symm (off' _ hdw).2.2) (Ne.symm (off' _ hlw).2.2)
        · exact (List.mem_filter.mp hq).1
  · exact off3_of fun p hp => of_decide_eq_true (List.mem_filter.mp hp).2
  · refine ⟨by rw [List.map_append, ← B.ys']; rfl, by rw [List.length_append, B.len]; rfl, ?_, ?_, ?_, ?_, ?_⟩
    · rw [List.replicate_succ']
      refine graph_snoc (a := ⟨x, d, lf, v⟩) (B.gi.mono fun q hq ⟨a, ha, hq'⟩ => oldIn q hq (fun e => B.off a ha _ hdn (e ▸ hq')) (fun e => B.off a ha _ hhn (e ▸ hq'))) ?_ (nodeIn _ hv (.inr (.inr (.inl rfl))))
      rw [B.len]
      exact hn.mono fun p hp h => nodeIn p hp (by rcases h with h | h | h <;> simp [h])
    · refine apart_snoc B.ap (fun b hb => ⟨?_, ?_, ?_, ?_⟩) xd xv dv (Nat.ne_of_lt lfx.2.1) (Nat.ne_of_lt lfx.2.2)
      · exact hasNot b hb _ fun q hq => (fr3 q (inN q hq)).1
      · exact hasNot b hb _ fun q hq => (fr3 q (inN q hq)).2.1
      · exact hasNot b hb _ fun q hq => (fr3 q (inN q hq)).2.2.2
      · exact hasNot b hb _ fun q hq => (fr3 q (inN q hq)).2.2.1
    · refine hw.mono fun q hq h => ?_
      rcases h with e | e | e
      · exact toN q hq (e ▸ (off' _ hxw).1) (e ▸ (off' _ hxw).2.1) (e ▸ (off' _ hxw).2.2)
      · exact toN q hq (e ▸ (off' _ hdw).1) (e ▸ (off' _ hdw).2.1) (e ▸ (off' _ hdw).2.2)
      · exact toN q hq (e ▸ (off' _ hlw).1) (e ▸ (off' _ hlw).2.1) (e ▸ (off' _ hlw).2.2)
    · exact fun q hq h1 h2 => oldIn q (B.kp q hq h1 h2) h1 h2
    · intro a ha q hq
      rcases List.mem_append.mp ha with ha | ha
      · exact B.off a ha q hq
      · rw [List.mem_singleton.mp ha]
        have key : q.1 ≠ x ∧ q.1 ≠ d ∧ q.1 ≠ v ∧ q.1 ≠ lf := by
          by_cases e1 : q.1 = dw
          · rw [e1]; exact fr3 _ (inN _ hdw)
          · by_cases e2 : q.1 = lh
            · rw [e2]; exact fr3 _ (inN _ hlw)
            · exact fr3 _ (inN _ (B.kp q hq e1 e2))
        rintro (e | e | e | e)
        · exact key.1 e
        · exact key.2.1 e
        · exact key.2.2.2 e
        · exact key.2.2.1 e
theorem off_21 : True := by
  w_top off
  trivial
section
set_option maxHeartbeats 8000000 in
theorem law_b {w : World} {dp un : Nat} {gd : Option (List Code)} {cn : Str} {a : Addr} {ccd : Value} {outer : List Env} {A₀ : Around} {base h₀ : Heap} {L : Addr} {m : Str → Option Value}
    {news : List (Addr × Obj)} {s : Shared} {E : Value → Shared → Prop} {Q : Flow → Shared → Prop} {p : Program} {loose : List Str} {mean : ExcName → Option Value} {mg mb : Str → Option Value}
    {c1 c2 c3 c4 c5 : Addr} {o1 o2 o3 o4 o5 : Obj} {v4 v5 : Option Value} {t2 tx0 tx1 : Tok} {lc ax dw lh : Addr} {nc num : Nat} {x0 : Int} {x1 : Nat}
    (B : Below A₀ base outer h₀) (F : Fr h₀ L s.heap m) (X : (fr.heap_1 w.params).In h₀) (N : News h₀ L s.heap news) (T : Top p loose mean mg mb h₀)
    (hE : PassesOwn (model PySem.Challenge.rw_xm0934_01.row.prog w) (ktrTop dp un gd cn (lawScope w.params) L a ccd [("due", c5), ("at", c4), ("world", c3), ("many", c2), ("cells", c1)] outer) (envX cn (lawScope w.params) L a ccd [("due", c5), ("at", c4), ("world", c3), ("many", c2), ("cells", c1)]) E)
    (hdp : dp < 439) (hun : un < 3900) (hn0 : 0 < num) (hn4 : num ≤ 4)
    (k1 : (c1, o1) ∈ news) (d1 : o1.data = .cell (some (.ref lc))) (klc : (lc, listOf #[.int x0 tx0, .int (x1 : Int) tx1] nc) ∈ news)
    (k2 : (c2, o2) ∈ news) (d2 : o2.data = .cell (some (.int (num : Int) t2))) (k3 : (c3, o3) ∈ news) (d3 : o3.data = .cell (some (.ref ax))) (k4 : (c4, o4) ∈ news) (d4 : o4.data = .cell v4) (k5 : (c5, o5) ∈ news) (d5 : o5.data = .cell v5) (n45 : @Ne Nat c4 c5)
    (W : WorldIn news ax dw lh 0 []) (hne1 : ax ≠ dw) (hne2 : lh ≠ dw) (hne3 : lh ≠ ax) (hcw : ∀ c ∈ [c1, c2, c3, c4, c5, lc], c ≠ dw ∧ c ≠ lh) (hc45 : ∀ c ∈ [c1, c2, lc], @Ne Nat c c4 ∧ @Ne Nat c c5)
    (ret : ∀ h' tk' m' news', Fr h₀ L h' m' → News h₀ L h' news' → Q (.ret (.bool true)) { s with heap := h', toks := tk' }) :
    wpAny (model PySem.Challenge.rw_xm0934_01.row.prog w) (ktrTop dp un gd cn (lawScope w.params) L a ccd [("due", c5), ("at", c4), ("world", c3), ("many", c2), ("cells", c1)] outer) (execs ((lawStmts w.params).drop 3) (envX cn (lawScope w.params) L a ccd [("due", c5), ("at", c4), ("world", c3), ("many", c2), ("cells", c1)])) Q E s := by
  revert X; k_fill; intro X
  generalize hsc : lawScope w.params = sc at *
  obtain rfl := hsc.symm.trans (show lawScope w.params = Scope.mk _ _ _ _ _ from rfl)
  clear hsc
  refine cut13 (b := lawStmts w.params) (P := fun b => wpAny _ _ (execs (b.drop 3) _) _ _ _) rfl ?_
  dsimp only [List.drop]
  have hW : ∃ o o', (dw, o) ∈ news ∧ (lh, o') ∈ news := by
    obtain ⟨_, hd, _, _, _, hl⟩ := W
    exact ⟨_, _, hd, hl⟩
  repeat' ((fail_if_success (with_reducible show wpAny _ _ (exec (Stmt.Assign _ (Expr.ListComp _ _ _ _) _) _) _ _ _)); first | (k_unfold; (try dsimp only)) | (k_end; wrow_close) | walk1 | (dsimp only; walk1) | (leave1; try dsimp only) | fail "no step")
  refine LCg.Assign_ListComp_U (cl := [("world", c3)]) F rfl (by with_unfolding_all rfl) (by with_unfolding_all rfl) (by decide) rfl (by decide) rfl rfl rfl ?_
  tb_start
  rename Fr _ _ _ _ => F9
  rename News _ _ _ _ => N9
  rename IsRange _ _ _ _ _ _ _ _ => hR
  refine LCg.CompSrc.range (n := num) rfl F9 N9 hR (small4 hn4) (size4 hn4) (by rw [sizeLine_eq]; omega) fun g9 => rest_inv (fun i ys nw => ∃ As, LB news ax dw lh i ys nw As) ⟨[], rfl, rfl, graph_nil, apart_nil, W, fun q hq _ _ => hq, nofun⟩ ?_ ?_
  · intro i v ys nw I oI C oC D m₂ h tk E' hv hi hy hinv hNs hm2 F2 N2 off ne
    clear F9 N9 hR
    obtain ⟨As, LBs⟩ := hinv
    obtain ⟨tv, rfl⟩ := hv
    have q3 := LBs.kp _ k3 (hcw c3 (by simp)).1 (hcw c3 (by simp)).2
    dsimp only
    repeat' ((fail_if_success (with_reducible show wpAny _ _ (call (Value.ref 284) _) _ _ _)); first | (k_unfold; (try dsimp only)) | (k_end; wrow_close) | walk1 | (dsimp only; walk1) | (leave1; try dsimp only) | fail "no step")
    rename_i cE lf hh0 lA lv hh1 F8 N8 lB
    obtain ⟨hxw, hdw, hm9, hh9, hz9, hlw⟩ := LBs.wi
    have ltA := kst_ltOf (show AllLt lf ((I, oI) :: (C, oC) :: (D, lstO ys) :: nw) from lA)
    have ltB := kst_ltOf (show AllLt lv ((I, oI) :: (C, oC) :: (D, lstO ys) :: nw) from lB.2)
    have hys : ys.length ≤ 10 := by rw [hy]; exact Nat.le_trans (Nat.le_of_lt (Nat.lt_of_lt_of_le hi hn4)) (by decide)
    k_dflt (refine' made_call B F8 X N8 T rfl ?k7 ?k8 (LBs.wi.mono fun q hq _ => .tail _ (.tail _ (.tail _ (.tail _ (.tail _ hq))))) hne1 hne2 hne3 (.tail _ (.head _)) (.head _) hys ?hfd ?hfl ?hvd ?hvl ?_)
    (case k7 => ktr_rel)
    (case k8 => ktr_rel)
    (case hfd => exact Nat.ne_of_gt (ltA _ (.tail _ (.tail _ (.tail _ hdw)))))
    (case hfl => exact Nat.ne_of_gt (ltA _ (.tail _ (.tail _ (.tail _ hlw)))))
    (case hvd => exact Nat.ne_of_gt (ltB _ (.tail _ (.tail _ (.tail _ hdw)))))
    (case hvl => exact Nat.ne_of_gt (ltB _ (.tail _ (.tail _ (.tail _ hlw)))))
    intro h' tk' x d v z1 z2 z3 n news' F7 N7 hnode hv' hw' keep fresh xd xv dv
    obtain ⟨nw', hsub, hoff, LB'⟩ := LBs.turn hW off ne rfl ltA hnode hv' hw' keep fresh xd xv dv
    tb_start
    exact ⟨_, _, nw', rfl, F7, newsSub N7 hsub, hoff, trivial, _, LB'⟩
  · clear F9 N9 hR
    rintro ys nw hyl ⟨As, LBs⟩
    intro D h tk F2 N2 offD
    obtain rfl := LBs.len
    obtain rfl := LBs.ys'
    have offD' := off1_mem offD
    have inW : ∀ c o, (c, o) ∈ news → c ∈ [c1, c2, c3, c4, c5, lc] → (c, o) ∈ nw := fun c o h1 h2 => LBs.kp _ h1 (hcw c h2).1 (hcw c h2).2
    have q1 := inW _ _ k1 (by simp)
    have q2 := inW _ _ k2 (by simp)
    have q4 := inW _ _ k4 (by simp)
    have q5 := inW _ _ k5 (by simp)
    have ql := inW _ _ klc (by simp)
    have AD : ∀ a ∈ As, ¬ a.has D := LBs.gi.ne offD'
    have hG : ∀ g ∈ List.replicate As.length (⟨0, 0, 0⟩ : Nd), g.l = 0 ∧ g.r = 0 ∧ g.m = 0 := fun g hg => by
      rw [(List.mem_replicate.mp hg).2]; exact ⟨rfl, rfl, rfl⟩
    have hA0 : As ≠ [] := fun e => by rw [e] at hn0; exact absurd hn0 (by decide)
    dsimp only
    show wpAny _ _ (execs _ _) Q E _
    k_dflt (refine' law_c (K := [(c1, o1), (c2, o2), (lc, listOf #[.int x0 tx0, .int (x1 : Int) tx1] nc), (D, lstO (As.map fun a => Value.ref a.x))]) B F2 X N2 T ?hE hdp hun (LBs.gi.mono fun q hq _ => .tail _ hq) LBs.ap hn4 hA0 hG ?hKp ?hth (.tail _ (.tail _ (.tail _ (.head _)))) (.head _) d1 (.tail _ (.tail _ (.head _))) (.tail _ (.head _)) d2 (.tail _ q4) d4 (.tail _ q5) d5 n45 ?K4 ?K5 (fun a ha => LBs.off a ha _ k4) (fun a ha => LBs.off a ha _ k5) ret)
    case hE => exact hE
    case hth => rfl
    case hKp =>
      have key : ∀ q ∈ [(c1, o1), (c2, o2), (lc, listOf #[.int x0 tx0, .int (x1 : Int) tx1] nc), (D, lstO (As.map fun a => Value.ref a.x))], ∀ a ∈ As, ¬ a.has q.1 := fun q hq a ha => by
        simp only [List.mem_cons, List.not_mem_nil, or_false] at hq
        rcases hq with rfl | rfl | rfl | rfl
        · exact LBs.off a ha _ k1
        · exact LBs.off a ha _ k2
        · exact LBs.off a ha _ klc
        · exact AD a ha
      refine ⟨fun q hq => ?_, fun q hq a ha e => key q hq a ha (.inr (.inl e)), fun q hq a ha e => key q hq a ha (.inr (.inr (.inr e)))⟩
      simp only [List.mem_cons, List.not_mem_nil, or_false] at hq
      rcases hq with rfl | rfl | rfl | rfl
      · exact .tail _ q1
      · exact .tail _ q2
      · exact .tail _ ql
      · exact .head _
    case K4 =>
      intro q hq
      simp only [List.mem_cons, List.not_mem_nil, or_false] at hq
      rcases hq with rfl | rfl | rfl | rfl
      · exact (hc45 _ (by simp)).1
      · exact (hc45 _ (by simp)).1
      · exact (hc45 _ (by simp)).1
      · exact Ne.symm (offD' _ q4)
    case K5 =>
      intro q hq
      simp only [List.mem_cons, List.not_mem_nil, or_false] at hq
      rcases hq with rfl | rfl | rfl | rfl
      · exact (hc45 _ (by simp)).2
      · exact (hc45 _ (by simp)).2
      · exact (hc45 _ (by simp)).2
      · exact Ne.symm (offD' _ q5)
end
theorem off_22 : True := by
  w_top off
  trivial
section
local macro_rules | `(tactic| tb_start) => `(tactic| repeat' (first | (k_unfold; (try dsimp only)) | (k_end; wrow_close) | walk1 | (dsimp only; walk1) | (leave1; try dsimp only) | fail "no step"))
set_option maxHeartbeats 8000000 in
theorem world_new {w : World} {dp un : Nat} {gd : Option (List Code)} {cn : Str} {cs : Scope} {a : Addr} {ccd : Value} {cl : List (Str × Addr)} {outer : List Env} {A₀ : Around} {base h₀ : Heap} {L : Addr} {m : Str → Option Value}
    {news : List (Addr × Obj)} {s : Shared} {Q E : Value → Shared → Prop} {p : Program} {loose : List Str} {mean : ExcName → Option Value} {mg mb : Str → Option Value}
    (B : Below A₀ base outer h₀) (F : Fr h₀ L s.heap m) (X : (fr.heap_1 w.params).In h₀) (N : News h₀ L s.heap news) (T : Top p loose mean mg mb h₀) (hk : cs.kind = .function)
    (hdp : dp < 445) (hun : un < 4500)
    (ret : ∀ h' tk' x d lh news', Fr h₀ L h' m → News h₀ L h' news' → WorldIn news' x d lh 0 [] → (∀ q ∈ news, q ∈ news') → x ≠ d → lh ≠ d → lh ≠ x → (∀ q ∈ news, q.1 ≠ d ∧ q.1 ≠ lh ∧ q.1 ≠ x) → Q (.ref x) { s with heap := h', toks := tk' }) :
    wpAny (model PySem.Challenge.rw_xm0934_01.row.prog w) (ktrTop dp un gd cn cs L a ccd cl outer) (call (.ref 259) []) Q E s := by
  revert X; k_fill; intro X
  k_dflt (refine' call_cls F X N ?k4 ?k5 ?k6 ?_; (case k4 => k_is); (case k5 => k_is); (case k6 => k_is))
  intro x' d' h' F' N' l1 l2
  have ne1 : x' ≠ d' := fun e => Nat.lt_irrefl _ (e ▸ l2 : (d' : Nat) < d')
  k_dflt (refine' code_def ?k1 ?k2 ?k3 ?k4 ?k5 ?kA ?kF ?kK ?k6 ?k7 ?k8 ?k9 ?kB ?_ ?c2 ?c3 ?c4 ?c5; (case kA => exact rfl); (case kF => exact rfl); (case kK => assumption); (case k1 => k_asm); (case k2 => k_asm); (case k3 => k_asm); (case k4 => k_asm); (case k5 => k_asm); (case k6 => k_is); (case k7 => k_is); (case k8 => ktr_room); (case k9 => first | exact BindsTo.of_eq rfl | exact binds_K (by k_in) rfl (by k_is) rfl rfl rfl); (case c5 => decide); (case kB => exact locs rfl); (case c2 => exact rfl); (case c3 => exact rfl); (case c4 => exact rfl); k_whole; intro g' L' h' FG' F' N' B' X' T'; (try dsimp only); (try k_fold))
  tb_start
  rename News h₀ L _ _ => N9
  k_dflt (refine' ret _ _ x' d' _ _ (by k_asm) N9 (WorldIn.mk ?hx ?hd ?hm ?hh ?hz ?hl) ?keep ne1 ?e1 ?e2 ?fr)
  case hx => k_mem
  case hd => k_mem
  case hm => rfl
  case hh => rfl
  case hz => exact Nat.le_of_ble_eq_true rfl
  case hl => k_mem
  case keep => exact fun q hq => by repeat (first | exact hq | refine List.mem_cons_of_mem _ ?_)
  case e1 => k_ne
  case e2 => k_ne
  case fr =>
    intro q hq
    refine ⟨Nat.ne_of_lt (l1 q hq), ?_, Nat.ne_of_lt (Nat.lt_trans (l1 q hq) l2)⟩
    rename (_ ∧ _ ∧ _ ∧ _ ∧ _ ∧ _ ∧ _ ∧ _ ∧ _ ∧ _ ∧ _ ∧ _ ∧ _ ∧ _ ∧ AllLt _ news) => lx
    exact Nat.ne_of_lt (kst_ltOf lx.2.2.2.2.2.2.2.2.2.2.2.2.2.2 q hq)
end
theorem mod4 {prog : Program} {w : World} {A : Around} {E : Value → Shared → Prop} {s : Shared} {t1 t2 : Tok} {Q : Value → Shared → Prop} {x : Nat} (h : Q (.int ((x % 4 : Nat) : Int) s.toks) { s with toks := s.toks + 1 }) :
    wpAny (model prog w) A (binaryOp .Mod (.int (x : Int) t1) (.int 4 t2)) Q E s := by
  refine mod_int' (by omega) ?_
  rw [show (4 : Int) = ((4 : Nat) : Int) from rfl, ← Int.ofNat_fmod]; exact h
theorem off_23 : True := by
  w_top off
  trivial
section
local macro_rules | `(tactic| walk_at "binaryOp Mod int int") => `(tactic| (k_here; (with_reducible refine mod4 ?_)))
local macro_rules | `(tactic| tb_start) => `(tactic| repeat' ((fail_if_success (with_reducible show wpAny _ _ (call (Value.ref 259) _) _ _ _)); (fail_if_success (with_reducible show wpAny _ _ (execs (Stmt.Assign _ (Expr.ListComp _ _ _ _) _ :: _) _) _ _ _)); first | (k_unfold; (try dsimp only)) | (k_end; wrow_close) | walk1 | (dsimp only; walk1) | (leave1; try dsimp only) | fail "no step"))
set_option maxHeartbeats 8000000 in
theorem law_a2 {w : World} {dp un : Nat} {gd : Option (List Code)} {cn : Str} {a : Addr} {ccd : Value} {outer : List Env} {A₀ : Around} {base h₀ : Heap} {L : Addr} {m : Str → Option Value}
    {news : List (Addr × Obj)} {s : Shared} {E : Value → Shared → Prop} {Q : Flow → Shared → Prop} {p : Program} {loose : List Str} {mean : ExcName → Option Value} {mg mb : Str → Option Value}
    {c1 c2 c3 c4 c5 : Addr} {o1 o2 o3 o4 o5 : Obj} {v2 v3 v4 v5 : Option Value} {tx0 tx1 : Tok} {lc : Addr} {nc x0 x1 : Nat}
    (B : Below A₀ base outer h₀) (F : Fr h₀ L s.heap m) (X : (fr.heap_1 w.params).In h₀) (N : News h₀ L s.heap news) (T : Top p loose mean mg mb h₀)
    (hE : PassesOwn (model PySem.Challenge.rw_xm0934_01.row.prog w) (ktrTop dp un gd cn (lawScope w.params) L a ccd [("due", c5), ("at", c4), ("world", c3), ("many", c2), ("cells", c1)] outer) (envX cn (lawScope w.params) L a ccd [("due", c5), ("at", c4), ("world", c3), ("many", c2), ("cells", c1)]) E)
    (hdp : dp < 439) (hun : un < 3900)
    (k1 : (c1, o1) ∈ news) (d1 : o1.data = .cell (some (.ref lc))) (klc : (lc, listOf #[.int (x0 : Int) tx0, .int (x1 : Int) tx1] nc) ∈ news)
    (k2 : (c2, o2) ∈ news) (d2 : o2.data = .cell v2) (k3 : (c3, o3) ∈ news) (d3 : o3.data = .cell v3) (k4 : (c4, o4) ∈ news) (d4 : o4.data = .cell v4) (k5 : (c5, o5) ∈ news) (d5 : o5.data = .cell v5)
    (hnd : [c1, c2, c3, c4, c5, lc].Pairwise (@Ne Nat))
    (ret : ∀ h' tk' m' news', Fr h₀ L h' m' → News h₀ L h' news' → Q (.ret (.bool true)) { s with heap := h', toks := tk' }) :
    wpAny (model PySem.Challenge.rw_xm0934_01.row.prog w) (ktrTop dp un gd cn (lawScope w.params) L a ccd [("due", c5), ("at", c4), ("world", c3), ("many", c2), ("cells", c1)] outer) (execs ((lawStmts w.params).drop 2) (envX cn (lawScope w.params) L a ccd [("due", c5), ("at", c4), ("world", c3), ("many", c2), ("cells", c1)])) Q E s := by
  revert X; k_fill; intro X
  generalize hsc : lawScope w.params = sc at *
  obtain rfl := hsc.symm.trans (show lawScope w.params = Scope.mk _ _ _ _ _ from rfl)
  clear hsc
  refine cut13 (b := lawStmts w.params) (P := fun b => wpAny _ _ (execs (b.drop 2) _) _ _ _) rfl ?_
  dsimp only [List.drop]
  simp only [List.pairwise_cons, List.mem_cons, List.not_mem_nil, or_false, forall_eq_or_imp, forall_eq] at hnd
  obtain ⟨⟨n12, n13, n14, n15, n1l⟩, ⟨n23, n24, n25, n2l⟩, ⟨n34, n35, n3l⟩, ⟨n45, n4l⟩, n5l, -⟩ := hnd
  tb_start
  k_dflt (refine' world_new ?k1 ?k2 ?k3 ?k4 ?k5 ?k6 ?k7 ?k8 ?_)
  (case k1 => k_asm)
  (case k2 => k_asm)
  (case k3 => k_asm)
  (case k4 => k_asm)
  (case k5 => k_asm)
  (case k6 => exact rfl)
  (case k7 => ktr_rel)
  (case k8 => ktr_rel)
  intro h' tk' x' d' lh' news' F' N' W' kp' e1' e2' e3' fr'
  have fc := fun c o (h : (c, o) ∈ news) => fr' _ h
  have f1 := fc _ _ k1
  have f2 := fc _ _ k2
  have f3 := fc _ _ k3
  have f4 := fc _ _ k4
  have f5 := fc _ _ k5
  have fl := fc _ _ klc
  replace k1 := kp' _ k1
  replace k2 := kp' _ k2
  replace k3 := kp' _ k3
  replace k4 := kp' _ k4
  replace k5 := kp' _ k5
  replace klc := kp' _ klc
  clear F N kp' fr' fc
  tb_start
  rename_i D9 hh1 l9 hh2 Fa Na hh3 oa Fb Nb da hh4 ob F8 N8 db
  clear Fa Na Fb Nb
  dsimp only at f1 f2 f3 f4 f5 fl
  have up : ∀ (o9 : Obj), ∀ q ∈ news', @Ne Nat q.1 c2 → @Ne Nat q.1 c3 → q ∈ setL c3 ob (setL c2 oa ((D9, o9) :: news')) := fun o9 q hq h2 h3 => setL_mem (setL_mem (.tail _ hq) h2) h3
  k_dflt (refine' law_b (num := 1 + x0 % 4) B F8 X N8 T ?hE hdp hun ?n0 ?n4 (up _ _ k1 n12 n13) d1 (up _ _ klc (Ne.symm n2l) (Ne.symm n3l)) (setL_mem setL_head n23) da setL_head db (up _ _ k4 (Ne.symm n24) (Ne.symm n34)) d4 (up _ _ k5 (Ne.symm n25) (Ne.symm n35)) d5 n45 (W'.mono fun q hq h => up _ q hq ?u2 ?u3) e1' e2' e3' ?hcw ?hc45 ret)
  case hE => exact hE
  case n0 => omega
  case n4 => omega
  case u2 =>
    rcases h with e | e | e
    · exact fun e2 => f2.2.2 (e2.symm.trans e)
    · exact fun e2 => f2.1 (e2.symm.trans e)
    · exact fun e2 => f2.2.1 (e2.symm.trans e)
  case u3 =>
    rcases h with e | e | e
    · exact fun e2 => f3.2.2 (e2.symm.trans e)
    · exact fun e2 => f3.1 (e2.symm.trans e)
    · exact fun e2 => f3.2.1 (e2.symm.trans e)
  case hcw =>
    intro c hc
    simp only [List.mem_cons, List.not_mem_nil, or_false] at hc
    rcases hc with rfl | rfl | rfl | rfl | rfl | rfl
    · exact ⟨f1.1, f1.2.1⟩
    · exact ⟨f2.1, f2.2.1⟩
    · exact ⟨f3.1, f3.2.1⟩
    · exact ⟨f4.1, f4.2.1⟩
    · exact ⟨f5.1, f5.2.1⟩
    · exact ⟨fl.1, fl.2.1⟩
  case hc45 =>
    intro c hc
    simp only [List.mem_cons, List.not_mem_nil, or_false] at hc
    rcases hc with rfl | rfl | rfl
    · exact ⟨n14, n15⟩
    · exact ⟨n24, n25⟩
    · exact ⟨Ne.symm n4l, Ne.symm n5l⟩
end
theorem intsTake : ∀ {vs : List Value} {ns : List Int} (n : Nat), IntsAre vs ns → IntsAre (vs.take n) (ns.take n)
  | _, _, 0, _ => .nil
  | _, _, _ + 1, .nil => .nil
  | _, _, n + 1, .cons k t r => .cons k t (intsTake n r)
theorem pick2 (vs : List Value) : kms_pick vs none (some 2) = vs.take 2 := by
  unfold kms_pick kms_lo kms_hi
  simp only [List.drop_zero, Nat.sub_zero]
  rw [if_neg (by decide)]
  show vs.take (min 2 vs.length) = vs.take 2
  by_cases h : 2 ≤ vs.length
  · rw [Nat.min_eq_left h]
  · rw [Nat.min_eq_right (by omega), List.take_of_length_le (Nat.le_refl _), List.take_of_length_le (by omega)]
theorem intsAt : ∀ {zs : List Value} {ms : List Int} {i : Nat} {v : Value}, IntsAre zs ms → zs[i]? = some v → ∃ k t, v = Value.int k t
  | _, _, _, _, .nil, h => by simp at h
  | _, _, 0, _, .cons k t r, h => by
    simp only [List.getElem?_cons_zero, Option.some.injEq] at h
    exact ⟨k, t, h.symm⟩
  | _, _, i + 1, _, .cons k t r, h => intsAt (i := i) r (by simpa using h)
theorem pickFrom (x y : Value) {n : Nat} (h : n ≤ 2) : kms_pick [x, y] (some ((n : Nat) : Int)) none = [x, y].drop n := by
  match n, h with
  | 0, _ => rfl
  | 1, _ => rfl
  | 2, _ => rfl
theorem absNat (k : Int) : (if k < 0 then -k else k) = ((k.natAbs : Nat) : Int) := by split <;> omega
theorem cellsTwo {ys : List Value} {rs : List Nat} {t1 t2 : Tok} (h : IntsAre ys (rs.map fun (z : Nat) => (z : Int))) (hl : rs.length ≤ 2) :
    ∃ (x0 x1 : Nat) (u0 u1 : Tok), ys ++ [Value.int 2 t1, Value.int 281 t2].drop rs.length = [.int (x0 : Int) u0, .int (x1 : Int) u1] := by
  match rs, hl with
  | [], _ => cases h; exact ⟨2, 281, t1, t2, rfl⟩
  | [a], _ =>
    cases h with
    | cons k t r => cases r; exact ⟨a, 281, t, t2, rfl⟩
  | [a, b], _ =>
    cases h with
    | cons k t r => cases r with
      | cons k' t' r => cases r; exact ⟨a, b, t, t', rfl⟩
theorem off_24 : True := by
  w_top off
  trivial
section
local macro_rules | `(tactic| ktr_unf) => `(tactic| assumption)
set_option maxHeartbeats 8000000 in
theorem law_a {w : World} {dp un : Nat} {gd : Option (List Code)} {cn : Str} {a : Addr} {ccd : Value} {outer : List Env} {A₀ : Around} {base h₀ : Heap} {L : Addr} {m : Str → Option Value}
    {news : List (Addr × Obj)} {s : Shared} {E : Value → Shared → Prop} {Q : Flow → Shared → Prop} {p : Program} {loose : List Str} {mean : ExcName → Option Value} {mg mb : Str → Option Value}
    {c1 c2 c3 c4 c5 : Addr} {o1 o2 o3 o4 o5 : Obj} {v1 v2 v3 v4 v5 : Option Value} {lst : Addr} {vs : List Value} {ns : List Int}
    (B : Below A₀ base outer h₀) (F : Fr h₀ L s.heap m) (X : (fr.heap_1 w.params).In h₀) (N : News h₀ L s.heap news) (T : Top p loose mean mg mb h₀)
    (hE : PassesOwn (model PySem.Challenge.rw_xm0934_01.row.prog w) (ktrTop dp un gd cn (lawScope w.params) L a ccd [("due", c5), ("at", c4), ("world", c3), ("many", c2), ("cells", c1)] outer) (envX cn (lawScope w.params) L a ccd [("due", c5), ("at", c4), ("world", c3), ("many", c2), ("cells", c1)]) E)
    (hdp : dp < 439) (hun : un < 3900) (hm : m "script" = some (.ref lst)) (hL : h₀.IsList lst vs.toArray) (hI : IntsAre vs ns) (hz : vs.length ≤ 63)
    (k1 : (c1, o1) ∈ news) (d1 : o1.data = .cell v1) (k2 : (c2, o2) ∈ news) (d2 : o2.data = .cell v2) (k3 : (c3, o3) ∈ news) (d3 : o3.data = .cell v3) (k4 : (c4, o4) ∈ news) (d4 : o4.data = .cell v4) (k5 : (c5, o5) ∈ news) (d5 : o5.data = .cell v5)
    (hnd : [c1, c2, c3, c4, c5].Pairwise (@Ne Nat))
    (ret : ∀ h' tk' m' news', Fr h₀ L h' m' → News h₀ L h' news' → Q (.ret (.bool true)) { s with heap := h', toks := tk' }) :
    wpAny (model PySem.Challenge.rw_xm0934_01.row.prog w) (ktrTop dp un gd cn (lawScope w.params) L a ccd [("due", c5), ("at", c4), ("world", c3), ("many", c2), ("cells", c1)] outer) (execs (lawStmts w.params) (envX cn (lawScope w.params) L a ccd [("due", c5), ("at", c4), ("world", c3), ("many", c2), ("cells", c1)])) Q E s := by
  revert X; k_fill; intro X
  generalize hsc : lawScope w.params = sc at *
  obtain rfl := hsc.symm.trans (show lawScope w.params = Scope.mk _ _ _ _ _ from rfl)
  clear hsc
  refine cut13 (b := lawStmts w.params) (P := fun b => wpAny _ _ (execs b _) _ _ _) rfl ?_
  replace F := frTwo F hm hm
  simp only [List.pairwise_cons, List.mem_cons, List.not_mem_nil, or_false, forall_eq_or_imp, forall_eq] at hnd
  obtain ⟨⟨n12, n13, n14, n15⟩, ⟨n23, n24, n25⟩, ⟨n34, n35⟩, n45, -⟩ := hnd
  repeat' ((fail_if_success (with_reducible show wpAny _ _ (eval (Expr.ListComp _ _ _ _) _) _ _ _)); (fail_if_success (with_reducible show wpAny _ _ (subscriptTail _ _ _ _) _ _ _)); first | (k_unfold; (try dsimp only)) | (k_end; wrow_close) | walk1 | (dsimp only; walk1) | (leave1; try dsimp only) | fail "no step")
  rename_i lu hh0 llu hh1 F9 N9
  refine LCg.ListComp_U (cl := []) F9 (by with_unfolding_all rfl) (by decide) rfl (by decide) rfl ?_
  repeat' ((fail_if_success (with_reducible show wpAny _ _ (subscriptTail _ _ _ _) _ _ _)); first | (k_unfold; (try dsimp only)) | (k_end; wrow_close) | walk1 | (dsimp only; walk1) | (leave1; try dsimp only) | fail "no step")
  obtain ⟨zs, ezs⟩ : ∃ zs, zs = vs.take 2 := ⟨_, rfl⟩
  have hzl : zs.length ≤ 2 := by rw [ezs, List.length_take]; omega
  have hzI := intsTake 2 hI
  rw [← ezs] at hzI
  have hpick := (pick2 vs).trans ezs.symm
  have hzs : vs.toArray.size ≤ sizeLine := by rw [sizeLine_eq, List.size_toArray]; omega
  k_dflt (refine kms_slice_lit (zs := zs) F9 N9 (F9.lst hL) .none (.int _ _) hpick ?_ (by with_unfolding_all rfl) (fun _ => rfl) hzs)
  intro D1 h1 F8 N8 l8
  generalize hnw : (lu, listOf #[Value.int 2 s.toks, Value.int 281 (s.toks + 1)] 0) :: news = news1 at *
  have klu : (lu, listOf #[Value.int 2 s.toks, Value.int 281 (s.toks + 1)] 0) ∈ news1 := by rw [← hnw]; exact .head _
  have k1' : ∀ q ∈ news, q ∈ news1 := fun q hq => by rw [← hnw]; exact .tail _ hq
  refine LCg.CompSrc.ledger rfl F8 N8 (.head _) (by rw [sizeLine_eq, List.size_toArray]; omega) fun g9 => rest_inv (fun i ys nw => ∃ rs : List Nat, IntsAre ys (rs.map fun (z : Nat) => (z : Int)) ∧ rs.length = i ∧ ∀ q ∈ (D1, listOf zs.toArray 0) :: news1, q ∈ nw) ⟨[], .nil, rfl, fun q hq => hq⟩ ?_ ?_
  · intro i v ys nw I oI C oC D m₂ h tk E' hv hi hy hinv hNs hm2 F2 N2 off ne
    obtain ⟨rs, hin, hrl, hkp⟩ := hinv
    obtain ⟨k, tk9, rfl⟩ : ∃ k t, v = Value.int k t := intsAt hzI (by simpa using hv)
    dsimp only
    tb_rel
    rename Fr _ _ _ _ => F3
    rename News _ _ _ _ => N3
    exact ⟨_, _, nw, rfl, F3, N3, off, .inr ⟨_, hkp _ (.head _), rfl, _, rfl⟩, rs ++ [k.natAbs], by rw [List.map_append, absNat]; exact intsSnoc hin, by rw [List.length_append, hrl]; rfl, hkp⟩
  · intro ys nw hyl hinv D h tk F2 N2 offD
    obtain ⟨rs, hin, hrl, hkp⟩ := hinv
    have hzn : zs.length = rs.length := by simpa using hrl.symm
    have hr2 : rs.length ≤ 2 := by omega
    have N3 : News h₀ L h ((D, listOf ys.toArray ys.length) :: news1) := newsSub N2 (fun p hp => by
      rcases List.mem_cons.mp hp with rfl | hp
      · exact .head _
      · exact .tail _ (hkp _ (.tail _ hp)))
    clear N2
    dsimp only
    repeat' ((fail_if_success (with_reducible show wpAny _ _ (subscriptTail _ _ _ _) _ _ _)); first | (k_unfold; (try dsimp only)) | (k_end; wrow_close) | walk1 | (dsimp only; walk1) | (leave1; try dsimp only) | fail "no step")
    k_dflt (refine kms_slice_lit (zs := zs) F2 N3 (F2.lst hL) .none (.int _ _) hpick ?_ (by with_unfolding_all rfl) (fun _ => rfl) hzs)
    intro D3 h3 F3 N4 l4
    repeat' ((fail_if_success (with_reducible show wpAny _ _ (subscriptTail _ _ _ _) _ _ _)); first | (k_unfold; (try dsimp only)) | (k_end; wrow_close) | walk1 | (dsimp only; walk1) | (leave1; try dsimp only) | fail "no step")
    k_dflt (refine kms_slice_lit (its := #[Value.int 2 s.toks, Value.int 281 (s.toks + 1)]) (zs := [Value.int 2 s.toks, Value.int 281 (s.toks + 1)].drop rs.length) F3 N4 (IsL.isList (n := 0) (N4 _ (.tail _ (.tail _ klu))).1) (.int _ _) .none (pickFrom _ _ hr2) ?_ (by with_unfolding_all rfl) (fun _ => rfl) (by rw [sizeLine_eq]; exact Nat.le_of_ble_eq_true rfl))
    intro D5 h5 F5 N5 l5
    repeat' ((fail_if_success (with_reducible show wpAny _ _ (binaryOp Operator.Add (Value.ref _) (Value.ref _)) _ _ _)); first | (k_unfold; (try dsimp only)) | (k_end; wrow_close) | walk1 | (dsimp only; walk1) | (leave1; try dsimp only) | fail "no step")
    have hyl2 : ys.length ≤ 2 := by rw [hyl]; simpa using hzl
    k_dflt (refine kmk_add_lit (zs := ys ++ [Value.int 2 s.toks, Value.int 281 (s.toks + 1)].drop rs.length) F5 N5 (IsL.isList (n := ys.length) (N5 _ (.tail _ (.tail _ (.head _)))).1) (IsL.isList (n := 0) (N5 _ (.head _)).1) rfl ?_ ?hsz)
    case hsz =>
      rw [sizeLine_eq]
      simp
      omega
    intro D6 h6 F6 N6 l6
    obtain ⟨x0, x1, u0, u1, e2⟩ := cellsTwo (t1 := s.toks) (t2 := s.toks + 1) hin hr2
    rw [e2] at N6
    have up : ∀ q ∈ news, q ∈ (D6, listOf [Value.int (x0 : Int) u0, .int (x1 : Int) u1].toArray 0) :: (D5, listOf ([Value.int 2 s.toks, Value.int 281 (s.toks + 1)].drop rs.length).toArray 0) :: (D3, listOf zs.toArray 0) :: (D, listOf ys.toArray ys.length) :: news1 := fun q hq => .tail _ (.tail _ (.tail _ (.tail _ (k1' q hq))))
    have lc6 : ∀ q ∈ news, @Ne Nat q.1 D6 := fun q hq => Nat.ne_of_lt (l6 q (.tail _ (.tail _ (.tail _ (k1' q hq)))))
    have kD6 : (D6, listOf #[Value.int (x0 : Int) u0, .int (x1 : Int) u1] 0) ∈ (D6, listOf [Value.int (x0 : Int) u0, .int (x1 : Int) u1].toArray 0) :: (D5, listOf ([Value.int 2 s.toks, Value.int 281 (s.toks + 1)].drop rs.length).toArray 0) :: (D3, listOf zs.toArray 0) :: (D, listOf ys.toArray ys.length) :: news1 := .head _
    generalize (D6, listOf [Value.int (x0 : Int) u0, .int (x1 : Int) u1].toArray 0) :: (D5, listOf ([Value.int 2 s.toks, Value.int 281 (s.toks + 1)].drop rs.length).toArray 0) :: (D3, listOf zs.toArray 0) :: (D, listOf ys.toArray ys.length) :: news1 = news2 at *
    have m1 := lc6 _ k1
    have m2 := lc6 _ k2
    have m3 := lc6 _ k3
    have m4 := lc6 _ k4
    have m5 := lc6 _ k5
    replace k1 := up _ k1
    replace k2 := up _ k2
    replace k3 := up _ k3
    replace k4 := up _ k4
    replace k5 := up _ k5
    clear N4 N5 N3 N8 N9 F9 F8 F2 F3 F5 up
    repeat' ((fail_if_success (with_reducible show wpAny _ _ (execs (Stmt.Assign _ (Expr.Tuple _ _ _) _ :: _) _) _ _ _)); first | (k_unfold; (try dsimp only)) | (k_end; wrow_close) | walk1 | (dsimp only; walk1) | (leave1; try dsimp only) | fail "no step")
    rename_i h7 o7 F7 N7 d7
    k_dflt (refine' law_a2 B F7 X N7 T ?hE hdp hun setL_head d7 (setL_mem kD6 (Ne.symm m1)) (setL_mem k2 (Ne.symm n12)) d2 (setL_mem k3 (Ne.symm n13)) d3 (setL_mem k4 (Ne.symm n14)) d4 (setL_mem k5 (Ne.symm n15)) d5 ?hnd ret)
    case hE => exact hE
    case hnd =>
      simp only [List.pairwise_cons, List.mem_cons, List.not_mem_nil, or_false, forall_eq_or_imp, forall_eq]
      exact ⟨⟨n12, n13, n14, n15, m1⟩, ⟨n23, n24, n25, m2⟩, ⟨n34, n35, m3⟩, ⟨n45, m4⟩, m5, fun _ h => h.elim, List.Pairwise.nil⟩
end
def joined.tw8792966887632952456 : Unit := ()
def joined.tw2502018317805250501 : Unit := ()
def joined.tw7441027930822915298 : Unit := ()
def joined.tw2791596305175550988 : Unit := ()
def joined.tw11059096323027773216 : Unit := ()
def joined.tw8384346052389961385 : Unit := ()
def joined.tw2661789196457824703 : Unit := ()
def joined.tw9682921379041467456 : Unit := ()
def joined.tw3857584865778263019 : Unit := ()
def joined.tw13283044549052945301 : Unit := ()
def joined.tw86069828178457690 : Unit := ()
def joined.tw5842616424837209174 : Unit := ()
def joined.tw17783192878707604460 : Unit := ()
def joined.tw5646837175724408884 : Unit := ()
def joined.tw16273289483504163117 : Unit := ()
def joined.tw10947918980473559059 : Unit := ()
def joined.tw8613441269544181578 : Unit := ()
def joined.tw2870893818462738019 : Unit := ()
def joined.tw11614832086255653318 : Unit := ()
def joined.tw5750774366207818322 : Unit := ()
def joined.tw2158020974795696408 : Unit := ()
def joined.tw11779478096089797304 : Unit := ()
def joined.tw8086261850621634794 : Unit := ()
def joined.tw16650272516087058680 : Unit := ()
def joined.tw10285783229602491089 : Unit := ()
def joined.tw6497293569328331074 : Unit := ()
def joined.tw3463676295339476908 : Unit := ()
def joined.tw1709066945609698558 : Unit := ()
def joined.tw9351093500705354510 : Unit := ()
def joined.tw14808135488732212432 : Unit := ()
def joined.tw715543148563063972 : Unit := ()
def joined.tw9500676962605855170 : Unit := ()
def joined.tw12050931197563049587 : Unit := ()
def joined.tw1373007556353070522 : Unit := ()
def joined.tw4023086643844819663 : Unit := ()
def joined.tw6843302663004683318 : Unit := ()
def joined.tw8240398703833829276 : Unit := ()
def joined.tw7127858643285370096 : Unit := ()
def joined.tw10976033620835163049 : Unit := ()
def joined.tw751438437898936053 : Unit := ()
def joined.tw6121113165665805084 : Unit := ()
def joined.tw7255269526312786388 : Unit := ()
def joined.tw15962715962563352973 : Unit := ()
def joined.tw12849580123667002489 : Unit := ()
def joined.tw1482434017810264714 : Unit := ()
def joined.tw15940238307627816558 : Unit := ()
def joined.tw15380553609194300408 : Unit := ()
def joined.tw4374295744847189607 : Unit := ()
def joined.tw16820838826713314290 : Unit := ()
def joined.tw12935316574246691570 : Unit := ()
def joined.tw16469770506033899051 : Unit := ()
def joined.tw6243907186569951216 : Unit := ()
def joined.tw14328154189331968557 : Unit := ()
def joined.tw5076562478131993739 : Unit := ()
def joined.tw12746944414381531358 : Unit := ()
def joined.tw18299554073795112592 : Unit := ()
def joined.tw2224887864867524385 : Unit := ()
def joined.tw4574072331405090531 : Unit := ()
def joined.tw13876830911239791029 : Unit := ()
def joined.tw15936480748004049846 : Unit := ()
def joined.tw4812552560597901628 : Unit := ()
def joined.tw7114556208852127538 : Unit := ()
def joined.tw3290803848320030093 : Unit := ()
def joined.tw6203721866428648748 : Unit := ()
def joined.tw13105501788971766413 : Unit := ()
def joined.tw12240710815909189973 : Unit := ()
def joined.tw14792969236133780645 : Unit := ()
def joined.tw618092884007527642 : Unit := ()
def joined.tw6654576711655533257 : Unit := ()
def joined.tw17697649985433978820 : Unit := ()
def joined.tw6885607212837177478 : Unit := ()
def joined.tw16936705119723668205 : Unit := ()
def joined.tw17182070805859786185 : Unit := ()
def joined.tw10527567628418801313 : Unit := ()
def joined.tw16843768222769838042 : Unit := ()
def joined.tw16328696636219402476 : Unit := ()
def joined.tw9974941247824670803 : Unit := ()
def joined.tw6948677266956260448 : Unit := ()
def joined.tw3844193690266985949 : Unit := ()
def joined.tw158506580546336343 : Unit := ()
def joined.tw15270529102946293798 : Unit := ()
def joined.tw1942208891740669999 : Unit := ()
def joined.tw15138143466279863545 : Unit := ()
def joined.tw10043780633087404568 : Unit := ()
def joined.tw1119578126498703889 : Unit := ()
def joined.tw4218127863400304040 : Unit := ()
def joined.tw8695084478803602257 : Unit := ()
def joined.tw16346576933557420149 : Unit := ()
def joined.tw13262491542889906624 : Unit := ()
def joined.tw14295126339887948828 : Unit := ()
def joined.tw14671035740828633695 : Unit := ()
def joined.tw2397787108773849690 : Unit := ()
def joined.tw16789942441312232364 : Unit := ()
def joined.tw13542590928270187375 : Unit := ()
def joined.tw12234736699906878678 : Unit := ()
def joined.tw1122322509465194181 : Unit := ()
def joined.tw11723151151384497609 : Unit := ()
def joined.tw14366987577495940941 : Unit := ()
def joined.tw8239022586110839985 : Unit := ()
def joined.tw13467597903635157657 : Unit := ()
def joined.tw6059636576279161482 : Unit := ()
def joined.tw11744578855311428676 : Unit := ()
def joined.tw1197884459743228048 : Unit := ()
def joined.tw2393509565878391855 : Unit := ()
def joined.tw16633332718944775855 : Unit := ()
def joined.tw11922101594939067438 : Unit := ()
def joined.tw5861190426048129788 : Unit := ()
def joined.tw7202382722322411881 : Unit := ()
def joined.tw4797844729617909256 : Unit := ()
def joined.tw10342503898201955702 : Unit := ()
def joined.tw10347221406564756343 : Unit := ()
def joined.tw7206964369590423574 : Unit := ()
def joined.tw16895920979631868647 : Unit := ()
def joined.tw7609582054869971400 : Unit := ()
def joined.tw16216000159505118076 : Unit := ()
def joined.tw17142454556407235265 : Unit := ()
def joined.tw8135438434385985032 : Unit := ()
def joined.tw15787432104482085410 : Unit := ()
def joined.tw6047412575382731651 : Unit := ()
def joined.tw13012775987164113456 : Unit := ()
def joined.tw13499040387660896877 : Unit := ()
def joined.tw342688943006275957 : Unit := ()
def joined.tw506711193579104584 : Unit := ()
def joined.tw5734322732779109362 : Unit := ()
def joined.tw4631136226183600475 : Unit := ()
def joined.tw4081167350768344080 : Unit := ()
def joined.tw6881151722629100656 : Unit := ()
def joined.tw14503487535435279655 : Unit := ()
def joined.tw5933116591080273626 : Unit := ()
def joined.tw18024750971303507005 : Unit := ()
def joined.tw3939816038804377030 : Unit := ()
def joined.tw3346923407652593782 : Unit := ()
def joined.tw3513758616985244700 : Unit := ()
def joined.tw6372584442211725069 : Unit := ()
def joined.tw5374014946334845779 : Unit := ()
def joined.tw18051310282198899489 : Unit := ()
def joined.tw10151233310533645146 : Unit := ()
def joined.tw5332516678748288206 : Unit := ()
def joined.tw12851258536491721756 : Unit := ()
def joined.tw16452509471352819635 : Unit := ()
def joined.tw14326764572723267326 : Unit := ()
def joined.tw6490533585117335859 : Unit := ()
def joined.tw16237066859623733021 : Unit := ()
def joined.tw10953261282597234525 : Unit := ()
def joined.tw4424407304463045230 : Unit := ()
def joined.tw12910484780263986383 : Unit := ()
def joined.tw1617410390953448707 : Unit := ()
def joined.tw371220522277232460 : Unit := ()
def joined.tw17359013648044423437 : Unit := ()
def joined.tw7695242533436624187 : Unit := ()
def joined.tw4252025068837197171 : Unit := ()
def joined.tw9130450666850179351 : Unit := ()
def joined.tw17498501962788261912 : Unit := ()
def joined.tw12381728413539120904 : Unit := ()
def joined.tw1798705781526824666 : Unit := ()
def joined.tw11413545851736168062 : Unit := ()
def joined.tw1027942130893854691 : Unit := ()
def joined.tw825472786010668174 : Unit := ()
def joined.tw8691446290586122678 : Unit := ()
def joined.tw6014044773223111300 : Unit := ()
def joined.tw4893802510825237694 : Unit := ()
def joined.tw2017685740956429606 : Unit := ()
def joined.tw9153007501047805650 : Unit := ()
def joined.tw14684560226150848902 : Unit := ()
def joined.tw16276573893895910959 : Unit := ()
def joined.tw7011827318173261251 : Unit := ()
def joined.tw11575999429368719281 : Unit := ()
def joined.tw6595198642837920275 : Unit := ()
def joined.tw13218874710986472609 : Unit := ()
def joined.tw6571613247613070928 : Unit := ()
def joined.tw13858363419877018049 : Unit := ()
def joined.tw17759385995890358114 : Unit := ()
def joined.tw15168730879574877 : Unit := ()
def joined.tw6958691851194625566 : Unit := ()
def joined.tw1532127942523138539 : Unit := ()
def joined.tw11099765427900614764 : Unit := ()
def joined.tw13696127280957440197 : Unit := ()
def joined.tw5185981675955114155 : Unit := ()
def joined.tw5264767873546144106 : Unit := ()
def joined.tw8655928049174703924 : Unit := ()
def joined.tw16164350171221891553 : Unit := ()
def joined.tw10452763101987186345 : Unit := ()
def joined.tw9106213173026867616 : Unit := ()
def joined.tw10899676582699070223 : Unit := ()
def joined.tw6794984851780174019 : Unit := ()
def joined.tw12900319703711193489 : Unit := ()
def joined.tw17893950960644248766 : Unit := ()
def joined.tw17165257631095743358 : Unit := ()
def joined.tw1646768812407117981 : Unit := ()
def joined.tw8887806392580539912 : Unit := ()
def joined.tw14972526954723053734 : Unit := ()
def joined.tw13738953575437214000 : Unit := ()
def joined.tw15046060493454164762 : Unit := ()
def joined.tw15083307036683580239 : Unit := ()
def joined.tw5724587671023358661 : Unit := ()
def joined.tw168651603973544931 : Unit := ()
def joined.tw9199968646932539294 : Unit := ()
def joined.tw12884206743703191494 : Unit := ()
def joined.tw9278062990012675829 : Unit := ()
def joined.tw1979982945075410944 : Unit := ()
def joined.tw17202463137928829348 : Unit := ()
def joined.tw2397427143483384004 : Unit := ()
def joined.tw1274967394984148028 : Unit := ()
def joined.tw2893361279103254059 : Unit := ()
def joined.tw13303873326811934841 : Unit := ()
def joined.tw900516813502517799 : Unit := ()
def joined.tw16174037856172910435 : Unit := ()
def joined.tw7696114513982583326 : Unit := ()
def joined.tw17877342664156804334 : Unit := ()
def joined.tw8888348507308057673 : Unit := ()
def joined.tw12866752347385894500 : Unit := ()
def joined.tw7991412902079592001 : Unit := ()
def joined.tw1246766964696589924 : Unit := ()
def joined.tw1423844593754189579 : Unit := ()
def joined.tw9473998023314498359 : Unit := ()
def joined.tw486874932563379821 : Unit := ()
def joined.tw6916910268950492485 : Unit := ()
def joined.tw1198429192662582217 : Unit := ()
def joined.tw9134446068944456515 : Unit := ()
def joined.tw10995398843808634230 : Unit := ()
def joined.tw3200192291121494936 : Unit := ()
def joined.tw18316739270798647943 : Unit := ()
def joined.tw4089293968724162514 : Unit := ()
def joined.tw12573659611459727996 : Unit := ()
def joined.tw6270814659203235082 : Unit := ()
def joined.tw10506170979312778622 : Unit := ()
def joined.tw2950270719379943473 : Unit := ()
def joined.tw8932171510552795524 : Unit := ()
def joined.tw6950984113090810197 : Unit := ()
def joined.tw15866478613964658935 : Unit := ()
def joined.tw9550116500351168569 : Unit := ()
def joined.tw4554379266847124498 : Unit := ()
def joined.tw848600775081160471 : Unit := ()
def joined.tw9766674407850521289 : Unit := ()
def joined.tw1919398298840785490 : Unit := ()
def joined.tw13809818931106300538 : Unit := ()
def joined.tw2163703708331813564 : Unit := ()
def joined.tw4958014211881666609 : Unit := ()
def joined.tw5316640747354644597 : Unit := ()
def joined.tw13175814896157795662 : Unit := ()
def joined.tw12968632240603287704 : Unit := ()
def joined.tw15669734846985968899 : Unit := ()
def joined.tw17255363389683276993 : Unit := ()
def joined.tw6660922392875659241 : Unit := ()
def joined.tw12355484524322512697 : Unit := ()
def joined.tw11313736775784311815 : Unit := ()
def joined.tw6851400109904463414 : Unit := ()
def joined.tw13792200264802072302 : Unit := ()
def joined.tw4720759074904147003 : Unit := ()
def joined.tw17640097302616934070 : Unit := ()
def joined.tw6813801989917657285 : Unit := ()
def joined.tw6289427842392351668 : Unit := ()
def joined.tw9631569120137429881 : Unit := ()
def joined.tw7441039163481467519 : Unit := ()
def joined.tw13742793217553821419 : Unit := ()
def joined.tw9461716085335952369 : Unit := ()
def joined.tw12051235032723641534 : Unit := ()
def joined.tw15303051068107833283 : Unit := ()
def joined.tw14240127461196482955 : Unit := ()
def joined.tw8067661763040832447 : Unit := ()
def joined.tw9260299135454317180 : Unit := ()
def joined.tw15187654455994878695 : Unit := ()
def joined.tw9771348635727910263 : Unit := ()
def joined.tw15587221045393541715 : Unit := ()
def joined.tw7647873693942661852 : Unit := ()
def joined.tw4002973886536774509 : Unit := ()
def joined.tw12715753457471352607 : Unit := ()
def joined.tw17357089961931387220 : Unit := ()
def joined.tw1796702826413384145 : Unit := ()
def joined.tw3233648098770525570 : Unit := ()
def joined.tw13236177836179203263 : Unit := ()
def joined.tw566970522800088022 : Unit := ()
def joined.tw13980442745955419413 : Unit := ()
def joined.tw18255373868976488042 : Unit := ()
def joined.tw6476328747867646564 : Unit := ()
def joined.tw1815830949600081067 : Unit := ()
def joined.tw2207998361706190389 : Unit := ()
def joined.tw8926274800956929349 : Unit := ()
def joined.tw422898057235072749 : Unit := ()
def joined.tw11850743177819825581 : Unit := ()
def joined.tw17710452633426353712 : Unit := ()
def joined.tw6605980357697953941 : Unit := ()
def joined.tw9815319924283290635 : Unit := ()
def joined.tw5671898875089045584 : Unit := ()
def joined.tw12830383582667482676 : Unit := ()
def joined.tw2336401995730633647 : Unit := ()
def joined.tw13800626967037318241 : Unit := ()
def joined.tw10138030884195887095 : Unit := ()
def joined.tw14682016365223015480 : Unit := ()
def joined.tw12188665727218261818 : Unit := ()
def joined.tw13380925995320132239 : Unit := ()
def joined.tw6393877673199089841 : Unit := ()
def joined.tw10593262870856555462 : Unit := ()
def joined.tw7149023045767998652 : Unit := ()
def joined.tw7091328049496908255 : Unit := ()
def joined.tw9373018862967921435 : Unit := ()
def joined.tw2318198991891879410 : Unit := ()
def joined.tw3015503264293040779 : Unit := ()
def joined.tw11124573095698391855 : Unit := ()
def joined.tw16269499334490035128 : Unit := ()
def joined.tw10471073327044583175 : Unit := ()
def joined.tw14659174919405660586 : Unit := ()
def joined.tw13989489628850159846 : Unit := ()
def joined.tw13648465573092469800 : Unit := ()
def joined.tw8896078001926120273 : Unit := ()
def joined.tw1392342342523155264 : Unit := ()
def joined.tw9915437245143846420 : Unit := ()
def joined.tw5997478012747770125 : Unit := ()
def joined.tw7063347064871852235 : Unit := ()
def joined.tw16295340587488028283 : Unit := ()
def joined.tw6497057828953842894 : Unit := ()
def joined.tw2411650052134736930 : Unit := ()
def joined.tw4629509380502741176 : Unit := ()
def joined.tw12081300585149799885 : Unit := ()
def joined.tw500873317089728138 : Unit := ()
def joined.tw5328313232275962622 : Unit := ()
def joined.tw1437084082954642697 : Unit := ()
def joined.tw7237075359318166527 : Unit := ()
def joined.tw4517696493387314445 : Unit := ()
def joined.tw8468455825882522019 : Unit := ()
def joined.tw903294737116592629 : Unit := ()
def joined.tw11960269536643645858 : Unit := ()
def joined.tw6701581885665587972 : Unit := ()
def joined.tw8860800598527484684 : Unit := ()
def joined.tw14231800460104718424 : Unit := ()
def joined.tw17421046176283152121 : Unit := ()
def joined.tw5250533812015166529 : Unit := ()
def joined.tw2548960520722086953 : Unit := ()
def joined.tw2144793239308718167 : Unit := ()
def joined.tw352588641260010399 : Unit := ()
def joined.tw499391273720735921 : Unit := ()
def joined.tw17581213090353212425 : Unit := ()
def joined.tw11519736734938671206 : Unit := ()
def joined.tw5567651106261499119 : Unit := ()
def joined.tw17060932044675388686 : Unit := ()
def joined.tw16826927756990863607 : Unit := ()
def joined.tw11646330412999376702 : Unit := ()
set_option Elab.async true
set_option maxHeartbeats 0 in
theorem joined : PySem.Challenge.rw_xm0934_01.Holds := by
  (w_on; o_law; k_head; (case hw => w_witness2))
  k_go0
  (all_goals try k_fold)
  rename News _ _ _ _ => N0
  rename Fr _ _ _ _ => F0
  rename PySem.W.Frag.In _ _ => X0
  replace X0 : (fr.heap_1 _).In _ := X0
  k_dflt (refine' law_a ?B F0 X0 N0 ?T ?hE ?hdp ?hun ?hm ?hL ?hI ?hz ?k1 ?d1 ?k2 ?d2 ?k3 ?d3 ?k4 ?d4 ?k5 ?d5 ?hnd ?ret)
  case hdp => decide
  case hun => decide
  case B => k_asm
  case T => k_asm
  case hI => assumption
  case hL => k_asm
  case hm => rfl
  case k1 => k_mem
  case k2 => k_mem
  case k3 => k_mem
  case k4 => k_mem
  case k5 => k_mem
  case d1 => assumption
  case d2 => assumption
  case d3 => assumption
  case d4 => assumption
  case d5 => assumption
  case hE => passes_own
  case hz =>
    rename IntsAre _ _ => hI9
    have h9 := hI9.length
    omega
  case hnd =>
    simp only [List.pairwise_cons, List.mem_cons, List.not_mem_nil, or_false, forall_eq_or_imp, forall_eq]
    simp
  case ret =>
    intro h' tk' m' news' F' N'
    repeat' (first | (k_unfold; (try dsimp only)) | (k_end; wrow_close) | walk1 | (dsimp only; walk1) | (leave1; try dsimp only) | fail "no step")
end Mine
theorem PySem.Challenge.cw_xm0934_01_holds : PySem.Challenge.rw_xm0934_01.Holds :=
  Mine.joined
