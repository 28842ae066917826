import PyProof.Rows.All
import Wide.All
import OpenK.AllK
import Wide.FinOn
import PySem.Challenge.RW_pf0204_01
set_option Elab.async false
set_option maxRecDepth 100000
set_option maxHeartbeats 8000000
section
open PySem PySem.W PyProof.Rows
open_top hd for PySem.Challenge.rw_pf0204_01
open PySem.Calls PySem.Spec
namespace Fl

abbrev Led := List (Addr × Obj)
/-- what a call of the def at f comes to: over the ledger `news`, to a ledger `news'` of which `Ret` tells -/
def ConM (w : World) (mean : ExcName → Option Value) (mg mb : Str → Option Value) (f : Addr) (news : Led) (vs : List Value) (dd uu : Nat) (Ret : Led → Value → Prop) : Prop :=
  ∀ (dp un : Nat) (gd : Option (List Code)) (cn : Str) (cs : Scope) (a : Addr) (ccd : Value) (cl : List (Str × Addr)) (outer : List Env) (A₀ : Around) (base h₀ : Heap) (L : Addr) (m : Str → Option Value) (s : Shared) (Q E : Value → Shared → Prop),
    Below A₀ base outer h₀ → Fr h₀ L s.heap m → (hd.heap_39 w.params).In h₀ → News h₀ L s.heap news → Top hd.view_39 (looseW hd.view_39 [Str.ofString "fraction"]) mean mg mb h₀ → cs.kind = .function → dp + dd < recursionLimit → un + uu < cLine →
    (∀ r news' h' tk', Fr h₀ L h' m → News h₀ L h' news' → Ret news' r → Q r { s with heap := h', toks := tk' }) →
    wpAny (model Challenge.rw_pf0204_01.row.prog w) (ktrTop dp un gd cn cs L a ccd cl outer) (call (.ref f) vs) Q E s
/-- the same where nothing that stood is changed: `tl` is what was made -/
abbrev Con (w : World) (mean : ExcName → Option Value) (mg mb : Str → Option Value) (f : Addr) (news : Led) (vs : List Value) (dd uu : Nat) (Ret : Led → Value → Prop) : Prop :=
  ConM w mean mg mb f news vs dd uu (fun news' r => ∃ tl, news' = tl ++ news ∧ (∀ p ∈ tl, AllLt p.1 news) ∧ Ret tl r)

theorem con_use {w : World} {mean : ExcName → Option Value} {mg mb : Str → Option Value} {f : Addr} {news : Led} {vs : List Value} {dd uu : Nat} {Ret : Led → Value → Prop}
    {dp un : Nat} {gd : Option (List Code)} {cn : Str} {cs : Scope} {a : Addr} {ccd : Value} {cl : List (Str × Addr)} {outer : List Env} {A₀ : Around} {base h₀ : Heap} {L : Addr} {m : Str → Option Value} {s : Shared} {Q E : Value → Shared → Prop}
    (C : ConM w mean mg mb f news vs dd uu Ret) (B : Below A₀ base outer h₀) (F : Fr h₀ L s.heap m) (X : (hd.heap_39 w.params).In h₀) (N : News h₀ L s.heap news) (T : Top hd.view_39 (looseW hd.view_39 [Str.ofString "fraction"]) mean mg mb h₀) (hk : cs.kind = .function) (h1 : dp + dd < recursionLimit) (h2 : un + uu < cLine)
    (hret : ∀ r news' h' tk', Fr h₀ L h' m → News h₀ L h' news' → Ret news' r → Q r { s with heap := h', toks := tk' }) :
    wpAny (model Challenge.rw_pf0204_01.row.prog w) (ktrTop dp un gd cn cs L a ccd cl outer) (call (.ref f) vs) Q E s :=
  C _ _ _ _ _ _ _ _ _ _ _ _ _ _ _ _ _ B F X N T hk h1 h2 hret

abbrev tp (x y : Int) (t u : Tok) (n : Nat) : Obj := { cls := .type "tuple", data := .seq #[.int x t, .int y u] n }
section
variable {h₀ h : Heap} {L a : Addr} {o : Obj} {news all : Led} {Ret : Led → Value → Prop} {r : Value}
theorem con_drop (N : News h₀ L h all) (hs : ∀ p ∈ news, p ∈ all) : News h₀ L h news := fun p hp => N p (hs p hp)
theorem con_abv0 : ∀ p ∈ ([] : Led), AllLt p.1 news := fun _ h => (nomatch h)
theorem con_abv1 (l : AllLt a news) : ∀ p ∈ [(a, o)], AllLt p.1 news := fun p hp => by rw [List.mem_singleton.mp hp]; exact l
theorem allLt_iff {d : Addr} : ∀ {l : Led}, AllLt d l ↔ ∀ p ∈ l, p.1 < d
  | [] => ⟨fun _ _ h => (nomatch h), fun _ => trivial⟩
  | q :: r => by
    show (q.1 < d ∧ AllLt d r) ↔ _
    rw [allLt_iff (l := r), List.forall_mem_cons]
theorem allLt_app {d : Addr} {l r : Led} : AllLt d (l ++ r) ↔ AllLt d l ∧ AllLt d r := by
  simp only [allLt_iff, List.mem_append]
  exact ⟨fun h => ⟨fun p hp => h p (.inl hp), fun p hp => h p (.inr hp)⟩, fun h p hp => hp.elim (h.1 p) (h.2 p)⟩
theorem allLt_mem {d b : Addr} {o : Obj} {l : Led} (h : AllLt d l) (hm : (b, o) ∈ l) : b < d := allLt_iff.mp h _ hm
theorem ne_up {d e : Addr} {l : Led} (h : ∀ p ∈ l, p.1 < d) (k : @LE.le Nat _ d e) : ∀ p ∈ l, p.1 ≠ e := fun p hp => Nat.ne_of_lt (Nat.lt_of_lt_of_le (h p hp) k)
theorem ne_upA {d e : Addr} {l : Led} (h : AllLt d l) (k : @LE.le Nat _ d e) : ∀ p ∈ l, p.1 ≠ e := ne_up (allLt_iff.mp h) k
section
variable {I C D : Addr} {m : Str → Option Value} {s₁ : Shared} {oI oC oD : Obj} {S : Led → Prop} {rest : Value → Led → Prop} {y : Value} {h' : Heap} {tk : Nat} {x x₂ x₃ : Addr × Obj}
/-- the end of a block's turn, over a ledger whose tail is a letter: 0, 1, 2 or 3 objects made -/
theorem ce0 (F : Fr h₀ L h' m) (N : News h₀ L h' ((I, oI) :: (C, oC) :: (D, oD) :: news)) (off : LCg.Off3 I C D news) (hS : S news) (r : rest y news) :
    LCg.CompEnd h₀ L m s₁ I oI C oC D oD S rest y { s₁ with heap := h', toks := tk } := LCg.CompEnd.intro F N news (fun _ h => h) off hS r
theorem ce1 (F : Fr h₀ L h' m) (N : News h₀ L h' (x :: (I, oI) :: (C, oC) :: (D, oD) :: news)) (off : LCg.Off3 I C D news) (nx : @Ne Nat x.1 I ∧ @Ne Nat x.1 C ∧ @Ne Nat x.1 D) (hS : S (x :: news)) (r : rest y (x :: news)) :
    LCg.CompEnd h₀ L m s₁ I oI C oC D oD S rest y { s₁ with heap := h', toks := tk } :=
  LCg.CompEnd.intro F N (x :: news) (by intro p hp; simp only [List.mem_cons] at hp ⊢; rcases hp with h | h | h | h | h <;> simp [h]) ⟨nx, off⟩ hS r
theorem ce2 (F : Fr h₀ L h' m) (N : News h₀ L h' (x :: x₂ :: (I, oI) :: (C, oC) :: (D, oD) :: news)) (off : LCg.Off3 I C D news) (nx : @Ne Nat x.1 I ∧ @Ne Nat x.1 C ∧ @Ne Nat x.1 D) (nx₂ : @Ne Nat x₂.1 I ∧ @Ne Nat x₂.1 C ∧ @Ne Nat x₂.1 D)
    (hS : S (x :: x₂ :: news)) (r : rest y (x :: x₂ :: news)) :
    LCg.CompEnd h₀ L m s₁ I oI C oC D oD S rest y { s₁ with heap := h', toks := tk } :=
  LCg.CompEnd.intro F N (x :: x₂ :: news) (by intro p hp; simp only [List.mem_cons] at hp ⊢; rcases hp with h | h | h | h | h | h <;> simp [h]) ⟨nx, nx₂, off⟩ hS r
end
end
end Fl
namespace Fl
section
variable {prog : Program} {w : World} {A : Around} {E : Value → Shared → Prop} {s : Shared} {h₀ : Heap} {L : Addr} {m : Str → Option Value} {news : List (Addr × Obj)}
theorem sliceApplied_mid {sl : Addr} {n : Int} {u v : Tok} {lo hi : Int} {Q : Int × Int × Nat → Shared → Prop} (hs : s.heap.IsSliceOf sl (.int 1 u) (.int (-1) v) .none)
    (ha : Builtin.Slice.sliceAdjust (some 1) (some (-1)) 1 n = (lo, hi)) (h : Q (lo, 1, Builtin.Slice.slicePlaces lo hi 1) s) :
    wpAny (model prog w) A (Builtin.Slice.sliceApplied (.ref sl) (pure n)) Q E s := by
  obtain ⟨os, hos, hcs, hds⟩ := id hs
  unfold Builtin.Slice.sliceApplied Builtin.Slice.sliceFields
  refine wpAny_bind (wpAny_bind (wpAny_field hos hds (x := .int 1 u) rfl (wpAny_bind (wpAny_field hos hds (x := .int (-1) v) rfl (wpAny_bind (wpAny_field hos hds (x := .none) rfl (wpAny_pure ?_)))))))
  refine wpAny_bind (slicePart_none ?_)
  show wpAny _ _ (if ((1 : Int) == 0) = true then _ else _) _ _ s
  rw [if_neg (by decide)]
  refine wpAny_bind (slicePart_int (wpAny_bind (slicePart_int (wpAny_bind (wpAny_pure ?_)))))
  show wpAny _ _ (match Builtin.Slice.sliceAdjust (some 1) (some (-1)) 1 n with | (lo, hi) => pure (lo, (1 : Int), Builtin.Slice.slicePlaces lo hi 1)) _ _ s
  rw [ha]
  exact wpAny_pure h

theorem getItem_tuple_mid {t sl : Addr} {items : Array Value} {u v : Tok} {lo hi : Int} {zs : List Value} {Q : Value → Shared → Prop} (ht : IsTup s.heap t items) (hs : s.heap.IsSliceOf sl (.int 1 u) (.int (-1) v) .none)
    (ha : Builtin.Slice.sliceAdjust (some 1) (some (-1)) 1 (items.size : Int) = (lo, hi)) (h1 : lo ≠ 0)
    (hz : ((List.range (Builtin.Slice.slicePlaces lo hi 1)).filterMap fun (k : Nat) => items[(lo + (k : Int) * 1).toNat]?) = zs) (hk : zs.length ≤ sizeLine)
    (h : Q (.ref s.heap.objs.size) { s with heap := s.heap.push { cls := .type "tuple", data := .seq zs.toArray } }) : wpAny (model prog w) A (getItem (.ref t) (.ref sl)) Q E s := by
  have hdrop : sizeOk (.seq zs.toArray) := by
    show zs.toArray.size ≤ sizeLine
    rw [List.size_toArray]
    exact hk
  obtain ⟨os, hos, hcs, hds⟩ := id hs
  have hTs : s.TypeIs (.ref sl) "slice" := ⟨os, hos, hcs⟩
  unfold getItem
  try with_reducible refine wpAny_holding ?_
  first | refine wpAny_bind (wpAny_pure ?_) | skip
  refine wpAny_bind (wpAny_sequenceKey ht.typeIs (by decide) ?_)
  refine wpAny_bind (wpAny_callSpecial?_slot (name := Str.ofString "__getitem__") ht.typeIs slot_tuple_getitem
    (wpAny_call_entry slot_tuple_getitem ht.typeIs entry_tuple_getitem ?_ (args_tuple_getitem _ _)))
  show wpAny _ _ (Builtin.Tuple.tupleItemsOf (.ref t) >>= _) _ _ s
  refine wpAny_bind (tupleItemsOf_ ht ?_)
  refine wpAny_bind (wpAny_typeOf hTs ?_)
  rw [if_pos (by decide)]
  refine wpAny_bind (sliceApplied_mid hs ha ?_)
  have hno : ¬ ((lo == 0 && (1 : Int) == 1 && (Builtin.Slice.slicePlaces lo hi 1) == items.size) = true) := by
    have : (lo == 0) = false := by rw [beq_eq_false_iff_ne]; exact h1
    rw [this]; simp
  show wpAny _ _ (if (lo == 0 && (1 : Int) == 1 && (Builtin.Slice.slicePlaces lo hi 1) == items.size) = true then _ else _) _ _ s
  rw [if_neg hno, hz]
  first
    | exact wpAny_bind (m := Builtin.Tuple.tupleExact _) (wpAny_newObj_type (wpAny_pure ⟨_, rfl, wpAny_pure h⟩) hdrop)
    | exact wpAny_bind (m := Builtin.Tuple.tupleExact _) (wpAny_newObj_type (wpAny_bind (wpAny_pure (wpAny_pure ⟨_, rfl, wpAny_pure h⟩))) hdrop)
    | exact wpAny_bind (wpAny_bind (m := Builtin.Tuple.tupleExact _) (wpAny_newObj_type (wpAny_pure (wpAny_pure ⟨_, rfl, wpAny_pure h⟩)) hdrop))
    | exact wpAny_bind (wpAny_bind (m := Builtin.Tuple.tupleExact _) (wpAny_newObj_type (wpAny_pure ⟨_, rfl, wpAny_pure h⟩) hdrop))

theorem slice_tuple_mid {value slice : Expr} {t : Addr} {items : Array Value} {u v : Tok} {lo hi : Int} {zs : List Value} {Q : Value → Shared → Prop}
    (F : Fr h₀ L s.heap m) (N : News h₀ L s.heap news) (ht : IsTup s.heap t items)
    (ha : Builtin.Slice.sliceAdjust (some 1) (some (-1)) 1 (items.size : Int) = (lo, hi)) (h1 : lo ≠ 0)
    (hz : ((List.range (Builtin.Slice.slicePlaces lo hi 1)).filterMap fun (k : Nat) => items[(lo + (k : Int) * 1).toNat]?) = zs) (hk : zs.length ≤ sizeLine)
    (h : ∀ D h', Fr h₀ L h' m → News h₀ L h' ((D, { cls := .type "tuple", data := .seq zs.toArray }) :: news) → (∀ p ∈ news, p.1 < D) → Q (.ref D) { s with heap := h' })
    (hs : subscripted slice false (.ref t) (.ref s.heap.objs.size) = operate [.ref s.heap.objs.size, .ref t] (getItem (.ref t) (.ref s.heap.objs.size)))
    (hg : ∀ r, letTemporaryGo value (.ref t) r = pure ()) :
    wpAny (model prog w) A (subscriptTail value slice (.ref t) (.ref s.heap.objs.size)) Q E { s with heap := s.heap.push { cls := .type "slice", data := .fields #[.int 1 u, .int (-1) v, .none] } } := by
  have ht' : IsTup (s.heap.push { cls := .type "slice", data := .fields #[.int 1 u, .int (-1) v, .none] }) t items := ht.keeps fun _ _ e => Heap.get?_push_of_some _ e
  refine subscriptTail_ops (s := { s with heap := s.heap.push { cls := .type "slice", data := .fields #[.int 1 u, .int (-1) v, .none] } }) ht'.typeIs slot_tuple_getitem.lookup
    (getItem_tuple_mid ht' (Heap.IsSliceOf.new ..) ha h1 hz hk ?_) hs hg
  have N1 := News.push (F.push { cls := .type "slice", data := .fields #[.int 1 u, .int (-1) v, .none] }) (N.grown fun _ _ e => Heap.get?_push_of_some _ e) { cls := .type "tuple", data := .seq zs.toArray }
  rw [Heap.size_push] at N1
  show Q (.ref (s.heap.push _).objs.size) _
  rw [Heap.size_push]
  exact h _ _ ((F.push _).push _) N1 fun p hp => Nat.lt_succ_of_lt (Heap.lt_size (N p hp).1)
theorem slice_mid3 {value slice : Expr} {t : Addr} {v0 v1 v2 : Value} {u v : Tok} {Q : Value → Shared → Prop}
    (F : Fr h₀ L s.heap m) (N : News h₀ L s.heap news) (ht : IsTup s.heap t #[v0, v1, v2])
    (h : ∀ D h', Fr h₀ L h' m → News h₀ L h' ((D, { cls := .type "tuple", data := .seq #[v1] }) :: news) → (∀ p ∈ news, p.1 < D) → Q (.ref D) { s with heap := h' })
    (hs : subscripted slice false (.ref t) (.ref s.heap.objs.size) = operate [.ref s.heap.objs.size, .ref t] (getItem (.ref t) (.ref s.heap.objs.size)))
    (hg : ∀ r, letTemporaryGo value (.ref t) r = pure ()) :
    wpAny (model prog w) A (subscriptTail value slice (.ref t) (.ref s.heap.objs.size)) Q E { s with heap := s.heap.push { cls := .type "slice", data := .fields #[.int 1 u, .int (-1) v, .none] } } :=
  slice_tuple_mid (lo := 1) (hi := 2) (zs := [v1]) F N ht rfl (by decide) rfl (by rw [sizeLine_eq]; simp only [List.length_cons, List.length_nil]; omega) h hs hg
theorem slice_mid4 {value slice : Expr} {t : Addr} {v0 v1 v2 v3 : Value} {u v : Tok} {Q : Value → Shared → Prop}
    (F : Fr h₀ L s.heap m) (N : News h₀ L s.heap news) (ht : IsTup s.heap t #[v0, v1, v2, v3])
    (h : ∀ D h', Fr h₀ L h' m → News h₀ L h' ((D, { cls := .type "tuple", data := .seq #[v1, v2] }) :: news) → (∀ p ∈ news, p.1 < D) → Q (.ref D) { s with heap := h' })
    (hs : subscripted slice false (.ref t) (.ref s.heap.objs.size) = operate [.ref s.heap.objs.size, .ref t] (getItem (.ref t) (.ref s.heap.objs.size)))
    (hg : ∀ r, letTemporaryGo value (.ref t) r = pure ()) :
    wpAny (model prog w) A (subscriptTail value slice (.ref t) (.ref s.heap.objs.size)) Q E { s with heap := s.heap.push { cls := .type "slice", data := .fields #[.int 1 u, .int (-1) v, .none] } } :=
  slice_tuple_mid (lo := 1) (hi := 3) (zs := [v1, v2]) F N ht rfl (by decide) rfl (by rw [sizeLine_eq]; simp only [List.length_cons, List.length_nil]; omega) h hs hg
open PySem.SeqAt in
theorem eq_full {l b : Addr} {its : Array Value} {Q : Value → Shared → Prop} (hl : s.heap.IsList l its) (hb : s.heap.IsList b #[]) (hz : its.size ≠ 0) (hu : A.units < cLine) (h : Q (.bool false) s) :
    wpAny (model prog w) A (compareOp .Eq (.ref l) (.ref b)) Q E s := cmp_ofEq (RcAt.lists_lengths hl hb (by simp [hz]) hu prog w E Q h)
open PySem.SeqAt in
theorem ne_full {l b : Addr} {its : Array Value} {Q : Value → Shared → Prop} (hl : s.heap.IsList l its) (hb : s.heap.IsList b #[]) (hz : its.size ≠ 0) (hu : A.units < cLine) (h : Q (.bool true) s) :
    wpAny (model prog w) A (compareOp .NotEq (.ref l) (.ref b)) Q E s := cmp_ofNotEq (RcNeAt.lists_lengths hl hb (by simp [hz]) hu prog w E Q h)
open PySem.SeqAt in
theorem eq_empty {l b : Addr} {Q : Value → Shared → Prop} (hl : s.heap.IsList l #[]) (hb : s.heap.IsList b #[]) (hu : A.units < cLine) (h : Q (.bool true) s) :
    wpAny (model prog w) A (compareOp .Eq (.ref l) (.ref b)) Q E s := cmp_ofEq (RcAt.lists (e := fun _ => true) hl hb rfl hu (fun _ h1 => absurd h1 (Nat.not_lt_zero _)) prog w E Q h)
open PySem.SeqAt in
theorem ne_empty {l b : Addr} {Q : Value → Shared → Prop} (hl : s.heap.IsList l #[]) (hb : s.heap.IsList b #[]) (hu : A.units < cLine) (h : Q (.bool false) s) :
    wpAny (model prog w) A (compareOp .NotEq (.ref l) (.ref b)) Q E s := cmp_ofNotEq (RcNeAt.lists (e := fun _ => false) hl hb rfl hu (fun _ h1 => absurd h1 (Nat.not_lt_zero _)) prog w E Q h)
end
end Fl
namespace Fl
abbrev Pt := Int × Int
def PtIn (news : Led) (v : Value) (p : Pt) : Prop := ∃ a t u n, v = .ref a ∧ (a, tp p.1 p.2 t u n) ∈ news
def All2 {α β : Type} (R : α → β → Prop) : List α → List β → Prop
  | [], [] => True
  | a :: r, b :: t => R a b ∧ All2 R r t
  | _, _ => False
def tupO (vs : List Value) (n : Nat) : Obj := { cls := .type "tuple", data := .seq vs.toArray n }
def TupIn (news : Led) (v : Value) (ps : List Pt) : Prop := ∃ a n vs, v = .ref a ∧ (a, tupO vs n) ∈ news ∧ All2 (PtIn news) vs ps
section
variable {news news' : Led} {v : Value} {p : Pt} {ps : List Pt}
theorem PtIn.mono (h : PtIn news v p) (s : ∀ x ∈ news, x ∈ news') : PtIn news' v p := let ⟨a, t, u, n, e, m⟩ := h; ⟨a, t, u, n, e, s _ m⟩
theorem All2.mono {α β : Type} {R R' : α → β → Prop} (h : ∀ a b, R a b → R' a b) : ∀ {l : List α} {m : List β}, All2 R l m → All2 R' l m
  | [], [], _ => trivial
  | _ :: _, _ :: _, x => ⟨h _ _ x.1, All2.mono h x.2⟩
  | [], _ :: _, x => x.elim
  | _ :: _, [], x => x.elim
theorem All2.append {α β : Type} {R : α → β → Prop} : ∀ {l l' : List α} {m m' : List β}, All2 R l m → All2 R l' m' → All2 R (l ++ l') (m ++ m')
  | [], _, [], _, _, y => y
  | _ :: _, _, _ :: _, _, x, y => ⟨x.1, All2.append x.2 y⟩
  | [], _, _ :: _, _, x, _ => x.elim
  | _ :: _, _, [], _, x, _ => x.elim
theorem All2.length {α β : Type} {R : α → β → Prop} : ∀ {l : List α} {m : List β}, All2 R l m → l.length = m.length
  | [], [], _ => rfl
  | _ :: _, _ :: _, x => by rw [List.length_cons, List.length_cons, All2.length x.2]
  | [], _ :: _, x => x.elim
  | _ :: _, [], x => x.elim
theorem All2.snoc {α β : Type} {R : α → β → Prop} : ∀ {l : List α} {a : α} {m : List β}, All2 R (l ++ [a]) m → ∃ m' b, m = m' ++ [b] ∧ All2 R l m' ∧ R a b
  | [], _, [b], x => ⟨[], b, rfl, trivial, x.1⟩
  | [], _, [], x => x.elim
  | [], _, _ :: _ :: _, x => x.2.elim
  | _ :: _, _, [], x => x.elim
  | c :: l, a, d :: m, x => by
    obtain ⟨m', b, e, y, z⟩ := All2.snoc (l := l) (a := a) (m := m) x.2
    exact ⟨d :: m', b, by rw [e]; rfl, ⟨x.1, y⟩, z⟩
theorem TupIn.mono (h : TupIn news v ps) (s : ∀ x ∈ news, x ∈ news') : TupIn news' v ps :=
  let ⟨a, n, vs, e, m, k⟩ := h; ⟨a, n, vs, e, s _ m, All2.mono (fun _ _ q => q.mono s) k⟩
end
abbrev mid (p q : Pt) : Pt := ((p.1 + q.1) / 2, (p.2 + q.2) / 2)
/-- the two halves of a curve of three or four spots -/
def cut : List Pt → List Pt × List Pt
  | [p1, p2, p3] => ([p1, mid p1 p2, mid (mid p1 p2) (mid p2 p3)], [mid (mid p1 p2) (mid p2 p3), mid p2 p3, p3])
  | [p1, p2, p3, p4] => ([p1, mid p1 p2, mid (mid p1 p2) (mid p2 p3), mid (mid (mid p1 p2) (mid p2 p3)) (mid (mid p2 p3) (mid p3 p4))],
      [mid (mid (mid p1 p2) (mid p2 p3)) (mid (mid p2 p3) (mid p3 p4)), mid (mid p2 p3) (mid p3 p4), mid p3 p4, p4])
  | l => (l, l)
def CutRet (news : Led) (ps : List Pt) (tl : Led) (r : Value) : Prop := ∃ T A B n, r = .ref T ∧ (T, tupO [.ref A, .ref B] n) ∈ tl ∧ TupIn (tl ++ news) (.ref A) (cut ps).1 ∧ TupIn (tl ++ news) (.ref B) (cut ps).2
section
variable {h₀ h : Heap} {L T A B : Addr} {all news : Led} {m : Str → Option Value} {s : Shared} {Q : Value → Shared → Prop} {tk : Nat}
theorem sub_of {tl : Led} (h1 : ∀ x ∈ tl, x ∈ all) (h2 : ∀ x ∈ news, x ∈ all) : ∀ x ∈ tl ++ news, x ∈ all := fun x hx => (List.mem_append.mp hx).elim (h1 x) (h2 x)
theorem ptm {l : Led} {a : Addr} {p : Pt} {t u : Tok} {n : Nat} (h : (a, tp p.1 p.2 t u n) ∈ l) : PtIn l (.ref a) p := ⟨a, t, u, n, rfl, h⟩
/-- the end of halves over a symbolic ledger -/
theorem cut3_done {a1 a3 b c d : Addr} {p1 p2 p3 : Pt} {t1 t3 t4 t5 t6 u1 u3 u4 u5 u6 : Tok} {nT nA nB n1 n3 n4 n5 n6 : Nat}
    (hret : ∀ (r : Value) (news' : Led) (h' : Heap) (tk' : Nat), Fr h₀ L h' m → News h₀ L h' news' → (∃ tl, news' = tl ++ news ∧ (∀ p ∈ tl, AllLt p.1 news) ∧ CutRet news [p1, p2, p3] tl r) → Q r { s with heap := h', toks := tk' })
    (F : Fr h₀ L h m) (N : News h₀ L h all) (sub : ∀ x ∈ news, x ∈ all)
    (mT : (T, ({ cls := .type "tuple", data := .seq #[.ref A, .ref B] nT } : Obj)) ∈ all) (mA : (A, ({ cls := .type "tuple", data := .seq #[.ref a1, .ref b, .ref c] nA } : Obj)) ∈ all) (mB : (B, ({ cls := .type "tuple", data := .seq #[.ref c, .ref d, .ref a3] nB } : Obj)) ∈ all)
    (m1 : (a1, tp p1.1 p1.2 t1 u1 n1) ∈ news) (m3 : (a3, tp p3.1 p3.2 t3 u3 n3) ∈ news)
    (mb : (b, tp (mid p1 p2).1 (mid p1 p2).2 t4 u4 n4) ∈ all) (mc : (c, tp (mid (mid p1 p2) (mid p2 p3)).1 (mid (mid p1 p2) (mid p2 p3)).2 t5 u5 n5) ∈ all) (md : (d, tp (mid p2 p3).1 (mid p2 p3).2 t6 u6 n6) ∈ all)
    (lT : AllLt T news) (lA : AllLt A news) (lB : AllLt B news) (lb : AllLt b news) (lc : AllLt c news) (ld : AllLt d news) : Q (.ref T) { s with heap := h, toks := tk } := by
  refine hret _ ([(T, tupO [.ref A, .ref B] nT), (A, tupO [.ref a1, .ref b, .ref c] nA), (B, tupO [.ref c, .ref d, .ref a3] nB), (b, tp (mid p1 p2).1 (mid p1 p2).2 t4 u4 n4), (c, tp (mid (mid p1 p2) (mid p2 p3)).1 (mid (mid p1 p2) (mid p2 p3)).2 t5 u5 n5), (d, tp (mid p2 p3).1 (mid p2 p3).2 t6 u6 n6)] ++ news) h tk F (con_drop N (sub_of ?_ sub)) ⟨_, rfl, ?_, T, A, B, nT, rfl, List.mem_cons_self, ⟨A, nA, [.ref a1, .ref b, .ref c], rfl, ?_, ?_⟩, ⟨B, nB, [.ref c, .ref d, .ref a3], rfl, ?_, ?_⟩⟩
  · simp only [List.forall_mem_cons]
    exact ⟨mT, mA, mB, mb, mc, md, List.forall_mem_nil _⟩
  · simp only [List.forall_mem_cons]
    exact ⟨lT, lA, lB, lb, lc, ld, List.forall_mem_nil _⟩
  · simp
  · exact ⟨ptm (List.mem_append_right _ m1), ptm (List.mem_append_left _ (.tail _ (.tail _ (.tail _ (.head _))))), ptm (List.mem_append_left _ (.tail _ (.tail _ (.tail _ (.tail _ (.head _)))))), trivial⟩
  · simp
  · exact ⟨ptm (List.mem_append_left _ (.tail _ (.tail _ (.tail _ (.tail _ (.head _)))))), ptm (List.mem_append_left _ (.tail _ (.tail _ (.tail _ (.tail _ (.tail _ (.head _))))))), ptm (List.mem_append_right _ m3), trivial⟩
theorem cut4_done {a1 a4 b c d e f : Addr} {p1 p2 p3 p4 : Pt} {t1 t4 tb tc td te tf u1 u4 ub uc ud ue uf : Tok} {nT nA nB n1 n4 nb nc nd ne nf : Nat}
    (hret : ∀ (r : Value) (news' : Led) (h' : Heap) (tk' : Nat), Fr h₀ L h' m → News h₀ L h' news' → (∃ tl, news' = tl ++ news ∧ (∀ p ∈ tl, AllLt p.1 news) ∧ CutRet news [p1, p2, p3, p4] tl r) → Q r { s with heap := h', toks := tk' })
    (F : Fr h₀ L h m) (N : News h₀ L h all) (sub : ∀ x ∈ news, x ∈ all)
    (mT : (T, ({ cls := .type "tuple", data := .seq #[.ref A, .ref B] nT } : Obj)) ∈ all) (mA : (A, ({ cls := .type "tuple", data := .seq #[.ref a1, .ref b, .ref c, .ref d] nA } : Obj)) ∈ all) (mB : (B, ({ cls := .type "tuple", data := .seq #[.ref d, .ref e, .ref f, .ref a4] nB } : Obj)) ∈ all)
    (m1 : (a1, tp p1.1 p1.2 t1 u1 n1) ∈ news) (m4 : (a4, tp p4.1 p4.2 t4 u4 n4) ∈ news)
    (mb : (b, tp (mid p1 p2).1 (mid p1 p2).2 tb ub nb) ∈ all) (mc : (c, tp (mid (mid p1 p2) (mid p2 p3)).1 (mid (mid p1 p2) (mid p2 p3)).2 tc uc nc) ∈ all)
    (md : (d, tp (mid (mid (mid p1 p2) (mid p2 p3)) (mid (mid p2 p3) (mid p3 p4))).1 (mid (mid (mid p1 p2) (mid p2 p3)) (mid (mid p2 p3) (mid p3 p4))).2 td ud nd) ∈ all)
    (me : (e, tp (mid (mid p2 p3) (mid p3 p4)).1 (mid (mid p2 p3) (mid p3 p4)).2 te ue ne) ∈ all) (mf : (f, tp (mid p3 p4).1 (mid p3 p4).2 tf uf nf) ∈ all)
    (lT : AllLt T news) (lA : AllLt A news) (lB : AllLt B news) (lb : AllLt b news) (lc : AllLt c news) (ld : AllLt d news) (le : AllLt e news) (lf : AllLt f news) : Q (.ref T) { s with heap := h, toks := tk } := by
  refine hret _ ([(T, tupO [.ref A, .ref B] nT), (A, tupO [.ref a1, .ref b, .ref c, .ref d] nA), (B, tupO [.ref d, .ref e, .ref f, .ref a4] nB), (b, tp (mid p1 p2).1 (mid p1 p2).2 tb ub nb), (c, tp (mid (mid p1 p2) (mid p2 p3)).1 (mid (mid p1 p2) (mid p2 p3)).2 tc uc nc), (d, tp (mid (mid (mid p1 p2) (mid p2 p3)) (mid (mid p2 p3) (mid p3 p4))).1 (mid (mid (mid p1 p2) (mid p2 p3)) (mid (mid p2 p3) (mid p3 p4))).2 td ud nd), (e, tp (mid (mid p2 p3) (mid p3 p4)).1 (mid (mid p2 p3) (mid p3 p4)).2 te ue ne), (f, tp (mid p3 p4).1 (mid p3 p4).2 tf uf nf)] ++ news) h tk F (con_drop N (sub_of ?_ sub)) ⟨_, rfl, ?_, T, A, B, nT, rfl, List.mem_cons_self, ⟨A, nA, [.ref a1, .ref b, .ref c, .ref d], rfl, ?_, ?_⟩, ⟨B, nB, [.ref d, .ref e, .ref f, .ref a4], rfl, ?_, ?_⟩⟩
  · simp only [List.forall_mem_cons]
    exact ⟨mT, mA, mB, mb, mc, md, me, mf, List.forall_mem_nil _⟩
  · simp only [List.forall_mem_cons]
    exact ⟨lT, lA, lB, lb, lc, ld, le, lf, List.forall_mem_nil _⟩
  · simp
  · exact ⟨ptm (List.mem_append_right _ m1), ptm (List.mem_append_left _ (.tail _ (.tail _ (.tail _ (.head _))))), ptm (List.mem_append_left _ (.tail _ (.tail _ (.tail _ (.tail _ (.head _)))))), ptm (List.mem_append_left _ (.tail _ (.tail _ (.tail _ (.tail _ (.tail _ (.head _))))))), trivial⟩
  · simp
  · exact ⟨ptm (List.mem_append_left _ (.tail _ (.tail _ (.tail _ (.tail _ (.tail _ (.head _))))))), ptm (List.mem_append_left _ (.tail _ (.tail _ (.tail _ (.tail _ (.tail _ (.tail _ (.head _)))))))), ptm (List.mem_append_left _ (.tail _ (.tail _ (.tail _ (.tail _ (.tail _ (.tail _ (.tail _ (.head _))))))))), ptm (List.mem_append_right _ m4), trivial⟩
end
end Fl
namespace Fl
theorem calm_K_near : True := by
  w_top off
  trivial
local macro_rules | `(tactic| k_mem) => `(tactic| (show (_ : Addr × Obj) ∈ (_ : List (Addr × Obj)); ktr_member))
def isNear (px py ax ay bx by' bound : Int) : Bool :=
  if (bx - ax) * (px - ax) + (by' - ay) * (py - ay) ≤ 0 then decide ((px - ax) * (px - ax) + (py - ay) * (py - ay) ≤ bound * bound)
  else if (bx - ax) * (bx - ax) + (by' - ay) * (by' - ay) ≤ (bx - ax) * (px - ax) + (by' - ay) * (py - ay) then decide ((px - bx) * (px - bx) + (py - by') * (py - by') ≤ bound * bound)
  else decide (((bx - ax) * (py - ay) - (by' - ay) * (px - ax)) * ((bx - ax) * (py - ay) - (by' - ay) * (px - ax)) ≤ bound * bound * ((bx - ax) * (bx - ax) + (by' - ay) * (by' - ay)))

theorem near_con {w : World} {mean mg mb} {news : Led} {a1 a2 a3 : Addr} {x1 y1 x2 y2 x3 y3 b : Int} {t1 t2 t3 u1 u2 u3 tb : Tok} {n1 n2 n3 : Nat}
    (h1 : (a1, tp x1 y1 t1 u1 n1) ∈ news) (h2 : (a2, tp x2 y2 t2 u2 n2) ∈ news) (h3 : (a3, tp x3 y3 t3 u3 n3) ∈ news)
    (b1 : -1000 ≤ x1 ∧ x1 ≤ 1000) (c1 : -1000 ≤ y1 ∧ y1 ≤ 1000) (b2 : -1000 ≤ x2 ∧ x2 ≤ 1000) (c2 : -1000 ≤ y2 ∧ y2 ≤ 1000) (b3 : -1000 ≤ x3 ∧ x3 ≤ 1000) (c3 : -1000 ≤ y3 ∧ y3 ≤ 1000) (bb : 0 ≤ b ∧ b ≤ 100) :
    Con w mean mg mb 124 news [.ref a1, .ref a2, .ref a3, .int b tb] 3 30 (fun tl r => tl = [] ∧ r = .bool (isNear x1 y1 x2 y2 x3 y3 b)) := by
  (try unfold Con)
  unfold ConM
  k_fill
  intro dp un gd cn cs a ccd cl outer A₀ base h₀ L m s Q E B F X N T hk hd hu hret
  refine wpAny_call ?_
  k_dflt ktr_enter
  k_steps
  all_goals (
    refine' hret _ news _ _ ?e1 ?e2 ⟨[], rfl, con_abv0, rfl, ?e4⟩
    (case e1 => k_asm)
    (case e2 => exact con_drop (by k_asm) (by intro p hp; simp only [List.mem_cons, hp, or_true]))
    (case e4 => (unfold isNear; simp only [*, if_true, if_false, not_false_eq_true]; done)))
end Fl
namespace Fl
def flatB (b : Int) : List Pt → Bool
  | [p1, p2, p3] => isNear p2.1 p2.2 p1.1 p1.2 p3.1 p3.2 b
  | [p1, p2, p3, p4] => isNear p2.1 p2.2 p1.1 p1.2 p4.1 p4.2 b && isNear p3.1 p3.2 p1.1 p1.2 p4.1 p4.2 b
  | _ => true
def lastP (ps : List Pt) : Pt := ps.getLastD (0, 0)
/-- what flat_spots goes on to, with k halvings left -/
def fsp (b : Int) : Nat → List Pt → List Pt
  | 0, ps => [lastP ps]
  | k + 1, ps => if flatB b ps = true then [lastP ps] else fsp b k (cut ps).1 ++ fsp b k (cut ps).2
def PtOk (p : Pt) : Prop := (-1000 ≤ p.1 ∧ p.1 ≤ 1000) ∧ (-1000 ≤ p.2 ∧ p.2 ≤ 1000)
def PsOk (ps : List Pt) : Prop := (ps.length = 3 ∨ ps.length = 4) ∧ ∀ p ∈ ps, PtOk p
theorem PtOk.mid {p q : Pt} (h : PtOk p) (k : PtOk q) : PtOk (mid p q) := by
  unfold PtOk at *
  dsimp only [Fl.mid]
  omega
theorem PsOk.cut {ps : List Pt} (h : PsOk ps) : PsOk (cut ps).1 ∧ PsOk (cut ps).2 := by
  obtain ⟨hl, hp⟩ := h
  rcases ps with _ | ⟨p1, _ | ⟨p2, _ | ⟨p3, _ | ⟨p4, _ | ⟨p5, r⟩⟩⟩⟩⟩ <;> simp only [List.length_cons, List.length_nil] at hl
  all_goals try omega
  · have h1 := hp p1 (by simp)
    have h2 := hp p2 (by simp)
    have h3 := hp p3 (by simp)
    have a := h1.mid h2
    have b := h2.mid h3
    have c := a.mid b
    refine ⟨⟨.inl rfl, ?_⟩, .inl rfl, ?_⟩ <;> simp only [Fl.cut, List.forall_mem_cons]
    · exact ⟨h1, a, c, List.forall_mem_nil _⟩
    · exact ⟨c, b, h3, List.forall_mem_nil _⟩
  · have h1 := hp p1 (by simp)
    have h2 := hp p2 (by simp)
    have h3 := hp p3 (by simp)
    have h4 := hp p4 (by simp)
    have a := h1.mid h2
    have b := h2.mid h3
    have c := h3.mid h4
    have d := a.mid b
    have e := b.mid c
    have f := d.mid e
    refine ⟨⟨.inr rfl, ?_⟩, .inr rfl, ?_⟩ <;> simp only [Fl.cut, List.forall_mem_cons]
    · exact ⟨h1, a, d, f, List.forall_mem_nil _⟩
    · exact ⟨f, e, c, h4, List.forall_mem_nil _⟩
/-- one entry of the stack: a pair of a curve and its depth -/
def ItemIn (base : Led) (v : Value) (x : List Pt × Nat) : Prop := ∃ a n tv t, v = .ref a ∧ (a, ({ cls := .type "tuple", data := .seq #[tv, .int (x.2 : Int) t] n } : Obj)) ∈ base ∧ TupIn base tv x.1
theorem ItemIn.mono {b b' : Led} {v : Value} {x : List Pt × Nat} (h : ItemIn b v x) (s : ∀ p ∈ b, p ∈ b') : ItemIn b' v x :=
  let ⟨a, n, tv, t, e, m, k⟩ := h; ⟨a, n, tv, t, e, s _ m, k.mono s⟩
structure FS where
  base : Led
  lv : List Value
  fv : List Value
  nl : Nat
  nf : Nat
  st : List (List Pt × Nat)
  fd : List Pt
def wt (K : Nat) : List (List Pt × Nat) → Nat
  | [] => 0
  | x :: r => 2 ^ (K - x.2 + 1) - 1 + wt K r
def restP (b : Int) (K : Nat) : List (List Pt × Nat) → List Pt
  | [] => []
  | x :: r => restP b K r ++ fsp b (K - x.2) x.1
structure FS.Ok (news : Led) (left found : Addr) (b : Int) (K : Nat) (ps : List Pt) (c : FS) : Prop where
  st : All2 (ItemIn c.base) c.lv c.st
  fd : All2 (PtIn c.base) c.fv c.fd
  ok : ∀ x ∈ c.st, PsOk x.1 ∧ x.2 ≤ K
  all : c.fd ++ restP b K c.st = fsp b K ps
  sub : ∃ tl, c.base = tl ++ news ∧ ∀ p ∈ tl, AllLt p.1 news
  offL : ∀ p ∈ c.base, p.1 ≠ left
  offF : ∀ p ∈ c.base, p.1 ≠ found
abbrev FS.led (left found : Addr) (c : FS) : Led := (left, ({ cls := .type "list", data := .seq c.lv.toArray c.nl } : Obj)) :: (found, ({ cls := .type "list", data := .seq c.fv.toArray c.nf } : Obj)) :: c.base
theorem fsp_len (b : Int) : ∀ (k : Nat) (ps : List Pt), (fsp b k ps).length ≤ 2 ^ k
  | 0, _ => Nat.le_refl _
  | k + 1, ps => by
    unfold fsp
    have h := fsp_len b k
    split
    · exact Nat.one_le_two_pow
    · rw [List.length_append, Nat.pow_succ]
      have := h (cut ps).1
      have := h (cut ps).2
      omega
theorem wt_snoc (K : Nat) (x : List Pt × Nat) : ∀ l, wt K (l ++ [x]) = wt K l + (2 ^ (K - x.2 + 1) - 1)
  | [] => by simp only [List.nil_append, wt]; omega
  | y :: l => by simp only [List.cons_append, wt, wt_snoc K x l]; omega
theorem restP_snoc (b : Int) (K : Nat) (x : List Pt × Nat) : ∀ l, restP b K (l ++ [x]) = fsp b (K - x.2) x.1 ++ restP b K l
  | [] => by simp only [List.nil_append, restP, List.append_nil]
  | y :: l => by simp only [List.cons_append, restP, restP_snoc b K x l, List.append_assoc]
theorem wt_len (K : Nat) : ∀ l, l.length ≤ wt K l
  | [] => Nat.le_refl _
  | x :: l => by
    have h := wt_len K l
    have : 2 ≤ 2 ^ (K - x.2 + 1) := by rw [Nat.pow_succ]; have := Nat.one_le_two_pow (n := K - x.2); omega
    rw [List.length_cons]; unfold wt; omega
section
variable {prog : Program} {w : World} {A : Around} {E : Value → Shared → Prop} {Q : Flow → Shared → Prop} {s : Shared} {env : Env} {h₀ : Heap} {L : Addr} {m : Str → Option Value} {news news' : Led}
theorem pop_snoc {D : Addr} {n : Nat} {xs : List Value} {v : Value} {Q : Value → Shared → Prop} (F : Fr h₀ L s.heap m) (N : News h₀ L s.heap news) (U : Upd D (W.listOf (xs ++ [v]).toArray n) (W.listOf xs.toArray (n + 1)) news news') (hz : xs.length ≤ 100)
    (h : ∀ h', Fr h₀ L h' m → News h₀ L h' news' → Q v { s with heap := h' }) : wpAny (model prog w) A (call (.builtin "list.pop") [.ref D]) Q E s :=
  kl_pop F N (by show kl_last (xs ++ [v]) = some (xs, v); exact kpa_last v xs) U (by show (xs ++ [v]).length ≤ _; rw [sizeLine_eq, List.length_append]; simp only [List.length_cons, List.length_nil]; omega) h
def spotsStored : List Str := [Str.ofString "here", Str.ofString "depth", Str.ofString "first", Str.ofString "second"]
theorem spots_while {test : Expr} {body : List Stmt} {pos : Pos} {m₀ : Str → Option Value} {left found D1 D2 D : Addr} {oD : Obj} {vs : List Value} {ps : List Pt} {b : Int} {K n0 n1 n2 n3 : Nat} {tk0 : Tok}
    (F : Fr h₀ L s.heap m₀)
    (N : News h₀ L s.heap ((D, oD) :: (left, ({ cls := .type "list", data := .seq #[.ref D1] n0 } : Obj)) :: (D1, ({ cls := .type "tuple", data := .seq #[.ref D2, .int 0 tk0] n1 } : Obj)) :: (D2, ({ cls := .type "tuple", data := .seq vs.toArray n2 } : Obj)) :: (found, ({ cls := .type "list", data := .seq #[] n3 } : Obj)) :: news))
    (hv : All2 (PtIn news) vs ps) (ok : PsOk ps) (hK : K ≤ 3) (l1 : AllLt D1 news) (l2 : AllLt D2 news) (ll : AllLt left news) (lf : ∀ p ∈ news, p.1 < found) (o1 : @LT.lt Nat _ found D2) (o2 : @LT.lt Nat _ D2 D1) (o3 : @LT.lt Nat _ D1 left)
    (turn : ∀ (c : FS) (u : Str → Option Value) h tk, c.Ok news left found b K ps → wt K c.st ≤ 15 → Fr h₀ L h (fun z => if spotsStored.contains z then u z else m₀ z) → News h₀ L h (c.led left found) →
      wpAny (model prog w) A (isTrue test env (eval test env)) (fun b₁ s₂ => if b₁ = true then wpAny (model prog w) A (execs body env) (KswPost h₀ L s (FS.led left found) (fun _ => []) (fun _ => True) spotsStored m₀ (fun c => c.Ok news left found b K ps ∧ wt K c.st ≤ 15) (fun c => wt K c.st) Q c) E s₂ else Q .next s₂) E { s with heap := h, toks := tk })
    (hE : PassesOwn (model prog w) A env E := by passes_own) :
    wpAny (model prog w) A (exec (.While test body [] pos) env) Q E s := by
  have hw : wt K [(ps, 0)] ≤ 15 := by
    show 2 ^ (K - 0 + 1) - 1 + 0 ≤ 15
    have : 2 ^ (K - 0 + 1) ≤ 2 ^ 4 := Nat.pow_le_pow_right (by decide) (by omega)
    omega
  refine ksw_while (FS.led left found) (fun _ => []) (fun _ => True) spotsStored (fun c => c.Ok news left found b K ps ∧ wt K c.st ≤ 15) (fun c => wt K c.st)
    ⟨(D1, { cls := .type "tuple", data := .seq #[.ref D2, .int 0 tk0] n1 }) :: (D2, { cls := .type "tuple", data := .seq vs.toArray n2 }) :: news, [.ref D1], [], n0, n3, [(ps, 0)], []⟩ F
    (con_drop N ?_) trivial (fun _ h => (nomatch h)) ⟨⟨?_, trivial, ?_, ?_, ?_, ?_, ?_⟩, hw⟩ (fun c u h tk _ hp F N => turn c u h tk hp.1 hp.2 F N) hE
  · intro p hp
    simp only [FS.led, List.mem_cons] at hp ⊢
    rcases hp with h | h | h | h | h
    · exact .inr (.inl h)
    · exact .inr (.inr (.inr (.inr (.inl h))))
    · exact .inr (.inr (.inl h))
    · exact .inr (.inr (.inr (.inl h)))
    · exact .inr (.inr (.inr (.inr (.inr h))))
  · exact ⟨⟨D1, n1, .ref D2, tk0, rfl, .head _, D2, n2, vs, rfl, .tail _ (.head _), All2.mono (fun _ _ q => q.mono fun x hx => .tail _ (.tail _ hx)) hv⟩, trivial⟩
  · intro x hx
    rw [List.mem_singleton.mp hx]
    exact ⟨ok, Nat.zero_le _⟩
  · show [] ++ ([] ++ fsp b (K - 0) ps) = fsp b K ps
    rw [List.nil_append, List.nil_append, Nat.sub_zero]
  · refine ⟨[_, _], rfl, ?_⟩
    simp only [List.forall_mem_cons]
    exact ⟨l1, l2, List.forall_mem_nil _⟩
  · simp only [List.forall_mem_cons]
    exact ⟨Nat.ne_of_lt o3, Nat.ne_of_lt (Nat.lt_trans o2 o3), ne_upA ll (Nat.le_refl _)⟩
  · simp only [List.forall_mem_cons]
    exact ⟨Nat.ne_of_gt (Nat.lt_trans o1 o2), Nat.ne_of_gt o1, ne_up lf (Nat.le_refl _)⟩
end
theorem upd_app {d : Addr} {o o' : Obj} {tl r r' : Led} (h : ∀ p ∈ tl, p.1 ≠ d) (U : Upd d o o' r r') : Upd d o o' (tl ++ r) (tl ++ r') := by
  induction tl with
  | nil => exact U
  | cons q tl ih => exact .tail (h _ (.head _)) (ih fun p hp => h p (.tail _ hp))
theorem off_above {d : Addr} {o : Obj} {tl led : Led} (h : ∀ p ∈ tl, AllLt p.1 led) (m : (d, o) ∈ led) : ∀ p ∈ tl, p.1 ≠ d := fun p hp => Nat.ne_of_gt (allLt_mem (h p hp) m)
def SpotsRet (news : Led) (qs : List Pt) (tl : Led) (r : Value) : Prop := ∃ F n fv, r = .ref F ∧ (F, ({ cls := .type "list", data := .seq fv.toArray n } : Obj)) ∈ tl ∧ All2 (PtIn (tl ++ news)) fv qs
theorem leaf_deep {b : Int} {K d : Nat} {ps : List Pt} (h : (K : Int) ≤ (d : Int)) : fsp b (K - d) ps = [lastP ps] := by
  rw [show K - d = 0 by omega]
  rfl
theorem leaf_flat {b : Int} {k : Nat} {ps : List Pt} (h : flatB b ps = true) : fsp b k ps = [lastP ps] := by
  cases k with
  | zero => rfl
  | succ k => unfold fsp; rw [if_pos h]
theorem cls_ne {o : Obj} (q : o.cls = .type "list") (r : o.cls = .type "tuple") : False := by
  rw [r] at q
  exact absurd (Value.type.inj q) (by decide)
theorem TupIn.off {l l' : Led} {v : Value} {ps : List Pt} (h : TupIn l v ps) (s : ∀ x ∈ l, x ∈ l' ∨ x.2.cls = .type "list") : TupIn l' v ps := by
  obtain ⟨a, n, vs, e, m, k⟩ := h
  refine ⟨a, n, vs, e, (s _ m).resolve_right (fun q => cls_ne q rfl), All2.mono (fun v p q => ?_) k⟩
  obtain ⟨a', t, u, n', e', m'⟩ := q
  exact ⟨a', t, u, n', e', (s _ m').resolve_right (fun q => cls_ne q rfl)⟩
section
variable {h₀ h' : Heap} {L left found E' D1 D2 A B : Addr} {oE ol : Obj} {m m' m₀ : Str → Option Value} {s : Shared} {tk : Nat} {news base tl' : Led} {b : Int} {K nl nf d n1 n2 : Nat} {ps ps' fd : List Pt} {xs fv : List Value} {v va : Value} {st st' : List (List Pt × Nat)} {t1 t2 : Tok}
theorem spots_leaf (hc : FS.Ok news left found b K ps ⟨base, xs ++ [v], fv, nl, nf, st' ++ [(ps', d)], fd⟩) (hw : wt K (st' ++ [(ps', d)]) ≤ 15) (c1a : All2 (ItemIn base) xs st') (hl : fsp b (K - d) ps' = [lastP ps']) (pa : PtIn base va (lastP ps'))
    (F : Fr h₀ L h' m') (N : News h₀ L h' ((E', oE) :: (left, W.listOf xs.toArray (nl + 1)) :: (found, W.listOf (fv.toArray.push va) (nf + 1)) :: base)) (hm : ∀ z, spotsStored.contains z = false → m' z = m₀ z) :
    KswEnd h₀ L s (FS.led left found) (fun _ => []) (fun _ => True) spotsStored m₀ (fun c => c.Ok news left found b K ps ∧ wt K c.st ≤ 15) (fun c => wt K c.st) ⟨base, xs ++ [v], fv, nl, nf, st' ++ [(ps', d)], fd⟩ { s with heap := h', toks := tk } := by
  rw [List.push_toArray] at N
  have lt : wt K st' < wt K (st' ++ [(ps', d)]) := by
    rw [wt_snoc]
    have : 2 ≤ 2 ^ (K - d + 1) := by rw [Nat.pow_succ]; have := Nat.one_le_two_pow (n := K - d); omega
    dsimp only
    omega
  refine ksw_end ⟨base, xs, fv ++ [va], nl + 1, nf + 1, st', fd ++ [lastP ps']⟩ F N (fun p hp => .tail _ hp) trivial (fun _ h => (nomatch h)) (fun z _ h => hm z h) ⟨⟨c1a, All2.append hc.fd ⟨pa, trivial⟩, fun x hx => hc.ok x (List.mem_append_left _ hx), ?_, hc.sub, hc.offL, hc.offF⟩, ?_⟩ lt
  · have e := hc.all
    dsimp only at e ⊢
    rw [restP_snoc] at e
    dsimp only at e
    rw [hl] at e
    rw [List.append_assoc]
    exact e
  · show wt K st' ≤ 15
    omega
theorem spots_cut (hc : FS.Ok news left found b K ps ⟨base, xs ++ [v], fv, nl, nf, st' ++ [(ps', d)], fd⟩) (hw : wt K (st' ++ [(ps', d)]) ≤ 15) (c1a : All2 (ItemIn base) xs st') (hK : ¬ (K : Int) ≤ (d : Int)) (hf : flatB b ps' = false)
    (F : Fr h₀ L h' m') (N : News h₀ L h' ((D1, ({ cls := .type "tuple", data := .seq #[.ref A, .int ((d : Int) + 1) t1] n1 } : Obj)) :: (D2, ({ cls := .type "tuple", data := .seq #[.ref B, .int ((d : Int) + 1) t2] n2 } : Obj)) :: (tl' ++ (E', oE) ::
      (left, W.listOf ((xs.toArray.push (.ref D2)).push (.ref D1)) (nl + 1 + 1 + 1)) :: (found, ({ cls := .type "list", data := .seq fv.toArray nf } : Obj)) :: base)))
    (o : ∀ p ∈ tl', AllLt p.1 ((E', oE) :: (left, W.listOf xs.toArray (nl + 1)) :: (found, ({ cls := .type "list", data := .seq fv.toArray nf } : Obj)) :: base))
    (cE : oE.cls = .type "list")
    (tA : TupIn (tl' ++ (E', oE) :: (left, W.listOf xs.toArray (nl + 1)) :: (found, ({ cls := .type "list", data := .seq fv.toArray nf } : Obj)) :: base) (.ref A) (cut ps').1)
    (tB : TupIn (tl' ++ (E', oE) :: (left, W.listOf xs.toArray (nl + 1)) :: (found, ({ cls := .type "list", data := .seq fv.toArray nf } : Obj)) :: base) (.ref B) (cut ps').2)
    (l1 : AllLt D1 base) (l2 : AllLt D2 base) (k1 : @LT.lt Nat _ left D1) (k2 : @LT.lt Nat _ found D1) (k3 : @LT.lt Nat _ left D2) (k4 : @LT.lt Nat _ found D2) (hm : ∀ z, spotsStored.contains z = false → m' z = m₀ z) :
    KswEnd h₀ L s (FS.led left found) (fun _ => []) (fun _ => True) spotsStored m₀ (fun c => c.Ok news left found b K ps ∧ wt K c.st ≤ 15) (fun c => wt K c.st) ⟨base, xs ++ [v], fv, nl, nf, st' ++ [(ps', d)], fd⟩ { s with heap := h', toks := tk } := by
  simp only [List.push_toArray] at N
  have hd : d + 1 ≤ K := by omega
  have e2 : 2 ^ (K - d + 1) = 2 * 2 ^ (K - (d + 1) + 1) := by rw [show K - (d + 1) + 1 = K - d by omega, Nat.pow_succ]; omega
  have lt : wt K (st' ++ [((cut ps').2, d + 1)] ++ [((cut ps').1, d + 1)]) < wt K (st' ++ [(ps', d)]) := by
    rw [wt_snoc, wt_snoc, wt_snoc]
    have := Nat.one_le_two_pow (n := K - (d + 1) + 1)
    dsimp only
    omega
  obtain ⟨tl, ebase, htl⟩ := hc.sub
  have up : ∀ x ∈ tl' ++ (E', oE) :: (left, W.listOf xs.toArray (nl + 1)) :: (found, ({ cls := .type "list", data := .seq fv.toArray nf } : Obj)) :: base, (x ∈ (D1, ({ cls := .type "tuple", data := .seq #[.ref A, .int ((d : Int) + 1) t1] n1 } : Obj)) :: (D2, ({ cls := .type "tuple", data := .seq #[.ref B, .int ((d : Int) + 1) t2] n2 } : Obj)) :: (tl' ++ base)) ∨ x.2.cls = .type "list" := by
    intro x hx
    rcases List.mem_append.mp hx with h | h
    · exact .inl (.tail _ (.tail _ (List.mem_append_left _ h)))
    · simp only [List.mem_cons] at h
      rcases h with h | h | h | h
      · exact .inr (by rw [h]; exact cE)
      · exact .inr (by rw [h])
      · exact .inr (by rw [h])
      · exact .inl (.tail _ (.tail _ (List.mem_append_right _ h)))
  have ok' := (hc.ok (ps', d) (List.mem_append_right _ (List.mem_singleton.mpr rfl))).1.cut
  have above : ∀ p ∈ tl', @LT.lt Nat _ left p.1 ∧ @LT.lt Nat _ found p.1 ∧ AllLt p.1 base := fun p hp => by
    have := o p hp
    exact ⟨this.2.1, this.2.2.1, this.2.2.2⟩
  have sb : ∀ {x}, AllLt x base → AllLt x news := fun {x} h => allLt_iff.mpr fun p hp => allLt_iff.mp h p (by dsimp only at ebase; rw [ebase]; exact List.mem_append_right _ hp)
  refine ksw_end ⟨(D1, { cls := .type "tuple", data := .seq #[.ref A, .int ((d : Int) + 1) t1] n1 }) :: (D2, { cls := .type "tuple", data := .seq #[.ref B, .int ((d : Int) + 1) t2] n2 }) :: (tl' ++ base), xs ++ [.ref D2] ++ [.ref D1], fv, nl + 1 + 1 + 1, nf, st' ++ [((cut ps').2, d + 1)] ++ [((cut ps').1, d + 1)], fd⟩ F N
    ?_ trivial (fun _ h => (nomatch h)) (fun z _ h => hm z h) ⟨⟨?_, All2.mono (fun _ _ q => q.mono fun x hx => .tail _ (.tail _ (List.mem_append_right _ hx))) hc.fd, ?_, ?_, ?_, ?_, ?_⟩, ?_⟩ lt
  · intro p hp
    simp only [FS.led, List.mem_cons, List.mem_append] at hp ⊢
    rcases hp with h | h | h | h | h | h
    · exact .inr (.inr (.inr (.inr (.inl h))))
    · exact .inr (.inr (.inr (.inr (.inr (.inl h)))))
    · exact .inl h
    · exact .inr (.inl h)
    · exact .inr (.inr (.inl h))
    · exact .inr (.inr (.inr (.inr (.inr (.inr h)))))
  · refine All2.append (All2.append (All2.mono (fun _ _ q => q.mono fun x hx => .tail _ (.tail _ (List.mem_append_right _ hx))) c1a) ⟨⟨D2, n2, .ref B, t2, rfl, .tail _ (.head _), tB.off up⟩, trivial⟩) ⟨⟨D1, n1, .ref A, t1, rfl, .head _, tA.off up⟩, trivial⟩
  · intro x hx
    rcases List.mem_append.mp hx with hx | hx
    · rcases List.mem_append.mp hx with hx | hx
      · exact hc.ok x (List.mem_append_left _ hx)
      · rw [List.mem_singleton.mp hx]
        exact ⟨ok'.2, hd⟩
    · rw [List.mem_singleton.mp hx]
      exact ⟨ok'.1, hd⟩
  · have e := hc.all
    dsimp only at e ⊢
    rw [restP_snoc] at e
    dsimp only at e
    obtain ⟨k, hk⟩ : ∃ k, K - d = k + 1 := ⟨K - d - 1, by omega⟩
    rw [hk, fsp, if_neg (by rw [hf]; decide)] at e
    rw [restP_snoc, restP_snoc]
    dsimp only
    rw [show K - (d + 1) = k by omega, ← e, List.append_assoc]
  · refine ⟨(D1, { cls := .type "tuple", data := .seq #[.ref A, .int ((d : Int) + 1) t1] n1 }) :: (D2, { cls := .type "tuple", data := .seq #[.ref B, .int ((d : Int) + 1) t2] n2 }) :: (tl' ++ tl), ?_, ?_⟩
    · dsimp only at ebase ⊢
      rw [ebase]
      simp only [List.cons_append, List.append_assoc]
    · intro p hp
      simp only [List.mem_cons, List.mem_append] at hp
      rcases hp with h | h | h | h
      · rw [h]; exact sb l1
      · rw [h]; exact sb l2
      · exact sb (above p h).2.2
      · exact htl p h
  · intro p hp
    simp only [List.mem_cons, List.mem_append] at hp
    rcases hp with h | h | h | h
    · rw [h]; exact Nat.ne_of_gt k1
    · rw [h]; exact Nat.ne_of_gt k3
    · exact Nat.ne_of_gt (above p h).1
    · exact hc.offL p h
  · intro p hp
    simp only [List.mem_cons, List.mem_append] at hp
    rcases hp with h | h | h | h
    · rw [h]; exact Nat.ne_of_gt k2
    · rw [h]; exact Nat.ne_of_gt k4
    · exact Nat.ne_of_gt (above p h).2.1
    · exact hc.offF p h
  · exact Nat.le_of_lt (Nat.lt_of_lt_of_le lt hw)
theorem spots_fin {Q : Value → Shared → Prop} (hret : ∀ (r : Value) (news' : Led) (h' : Heap) (tk' : Nat), Fr h₀ L h' m → News h₀ L h' news' → (∃ tl, news' = tl ++ news ∧ (∀ p ∈ tl, AllLt p.1 news) ∧ SpotsRet news (fsp b K ps) tl r) → Q r { s with heap := h', toks := tk' })
    (F : Fr h₀ L h' m) (N : News h₀ L h' ((E', oE) :: (left, ol) :: (found, ({ cls := .type "list", data := .seq fv.toArray nf } : Obj)) :: base)) (hc : FS.Ok news left found b K ps ⟨base, [], fv, nl, nf, st, fd⟩) (lf : ∀ p ∈ news, p.1 < found) : Q (.ref found) { s with heap := h', toks := tk } := by
  obtain ⟨tl, ebase, htl⟩ := hc.sub
  dsimp only at ebase
  have est : st = [] := by
    have := All2.length hc.st
    exact List.eq_nil_of_length_eq_zero this.symm
  subst est
  refine hret _ (((found, { cls := .type "list", data := .seq fv.toArray nf }) :: tl) ++ news) h' tk F (con_drop N ?_) ⟨_, rfl, ?_, found, nf, fv, rfl, .head _, ?_⟩
  · intro p hp
    simp only [List.cons_append, List.mem_cons] at hp ⊢
    rcases hp with h | h
    · exact .inr (.inr (.inl h))
    · rw [← ebase] at h; exact .inr (.inr (.inr h))
  · simp only [List.forall_mem_cons]
    exact ⟨allLt_iff.mpr lf, htl⟩
  · have e := hc.all
    dsimp only [restP] at e
    rw [List.append_nil] at e
    rw [← e]
    exact All2.mono (fun _ _ q => q.mono fun x hx => by dsimp only at hx; rw [ebase] at hx; exact .tail _ hx) hc.fd
end
end Fl
namespace Fl
section
variable {prog : Program} {w : World} {A : Around} {E : Value → Shared → Prop} {s : Shared} {h₀ : Heap} {L : Addr} {m : Str → Option Value}

theorem comp_loop {elt target iter : PySem.Expr} {ifs : List PySem.Expr} {scope : Scope} {pos : Pos} {it acc : Value} {env : Env} {R : Result → Shared → Prop} (I : Nat → Shared → Prop)
    (turn : ∀ n s, I n s → ∀ E', wpAny (model prog w) A (pyNext it) (fun r s₁ => match r with
      | none => R (.ok .next) s₁
      | some v => wpAny (model prog w) A (letOwnedTupleGo target it v) (fun _ s₁' => wpAny (model prog w) A (assign target env v) (fun _ s₂ =>
          wpAny (model prog w) A (forIn ifs true fun c r => if r = true then do let ok ← isTrue c env (eval c env); pure (ForInStep.yield ok) else pure (ForInStep.yield r)) (fun ok s₃ =>
            if ok = true then wpAny (model prog w) A (eval elt env) (fun x s₄ =>
              wpAny (model prog w) A (call (.builtin "list.append") [acc, x]) (fun _ s₅ => ∃ m, m < n ∧ I m s₅) E' s₄) E' s₃
            else ∃ m, m < n ∧ I m s₃) E' s₂) E' s₁') E' s₁) E' s)
    (n : Nat) (h : I n s) :
    codeAny (model prog w) A (.compLoop (.ListComp elt [⟨target, iter, ifs, 0⟩] scope pos) 0 it acc env) R s := by
  refine codeAny_loop rfl I (fun n s hI => ?_) n h
  show wpAny _ A ((compTurn (.ListComp elt [⟨target, iter, ifs, 0⟩] scope pos) 0 it acc env).onRaise (fun x => do noteFrame x env; theTreesLotGoes x)) _ _ s
  refine wpAny_noted ?_
  rw [compTurn_list]
  refine wpAny_bind (wpAny_standAt (wpAny_bind (wpAny_mono (turn n s hI _) (fun r s₁ h₁ => ?_) fun _ _ h' => h')))
  cases r with
  | none => exact wpAny_pure h₁
  | some v =>
    refine wpAny_bind (wpAny_mono h₁ (fun _ s₁' h₁' => ?_) fun _ _ h' => h')
    refine wpAny_bind (wpAny_mono h₁' (fun _ s₂ h₂ => wpAny_bind (wpAny_mono h₂ (fun ok s₃ h₃ => ?_) fun _ _ h' => h')) fun _ _ h' => h')
    cases ok with
    | false => exact wpAny_pure ⟨rfl, h₃⟩
    | true =>
      exact wpAny_bind (wpAny_bind (wpAny_mono h₃ (fun x s₄ h₄ => wpAny_bind (wpAny_mono h₄ (fun _ s₅ h₅ => wpAny_pure (wpAny_pure ⟨rfl, h₅⟩)) fun _ _ h' => h')) fun _ _ h' => h'))

/-- the end of a turn's element (or of a test that failed): objects `new` made, nothing else changed -/
def BEnd (h₀ : Heap) (L : Addr) (m : Str → Option Value) (s₀ : Shared) (led : Led) (K : Led → Value → Prop) (x : Value) (s₄ : Shared) : Prop :=
  ∃ h' tk new, s₄ = { s₀ with heap := h', toks := tk } ∧ Fr h₀ L h' m ∧ News h₀ L h' (new ++ led) ∧ (∀ p ∈ new, ∀ q ∈ led, q.1 ≠ p.1) ∧ K new x
def BStep (prog : Program) (w : World) (A : Around) (h₀ : Heap) (L : Addr) (m : Str → Option Value) (elt : PySem.Expr) (ifs : List PySem.Expr) (cenv : Env) (s : Shared) (D : Addr) (Hs : Nat → Value → Led → Prop) (J : Nat → List Value → Led → Prop) (n : Nat) : Prop :=
  ∀ i v ys news frm own h tk (E' : Value → Shared → Prop), i < n → J i ys news → Hs i v frm → Fr h₀ L h m → News h₀ L h (own ++ (D, LCg.lst ys) :: (frm ++ news)) →
    wpAny (model prog w) A (forIn ifs true fun c r => if r = true then do let ok ← isTrue c cenv (eval c cenv); pure (ForInStep.yield ok) else pure (ForInStep.yield r)) (fun ok s₃ =>
      if ok = true then wpAny (model prog w) A (eval elt cenv) (BEnd h₀ L m { s with heap := h, toks := tk } (own ++ (D, LCg.lst ys) :: (frm ++ news)) (fun new x => J (i + 1) (ys ++ [x]) (new ++ news))) E' s₃
      else BEnd h₀ L m { s with heap := h, toks := tk } (own ++ (D, LCg.lst ys) :: (frm ++ news)) (fun new _ => J (i + 1) ys (new ++ news)) .none s₃) E' { s with heap := h, toks := tk }

theorem blk {elt target iter : PySem.Expr} {ifs : List PySem.Expr} {scope : Scope} {pos : Pos} {cenv : Env} {R : Result → Shared → Prop} {I D : Addr} {fp wr adr : List Addr} {n : Nat} {P Md : Nat → Value → Heap → Prop} {St : Nat → Heap → Prop} {Fq : Led → Prop} {Hs : Nat → Value → Led → Prop} {J : Nat → List Value → Led → Prop} {frm₀ news₀ : Led}
    (W : KTurns prog w A target I fp wr n P Md St) (hsz : n ≤ sizeLine) (hIo : ∀ i h, St i h → ∀ b ∈ wr, ∃ o, h.get? b = some o) (hwr : ∀ b ∈ wr, h₀.get? b = none)
    (hLf : L ∉ fp) (hDL : D ≠ L) (hD₀ : h₀.get? D = none) (hDf : D ∉ fp) (ha₀ : ∀ b ∈ adr, h₀.get? b = none) (haL : L ∉ adr) (haD : D ∉ adr) (haf : ∀ b ∈ adr, b ∉ fp) (hF : ∀ frm, Fq frm → frm.map (·.1) = adr)
    (hassign : ∀ i v ys news frm (s' : Shared) (Q : Unit → Shared → Prop) (E' : Value → Shared → Prop), i < n → P i v s'.heap → Fq frm → J i ys news → News h₀ L s'.heap ((D, LCg.lst ys) :: (frm ++ news)) →
      (∀ h' tk frm', Fq frm' → Hs i v frm' → (∀ p ∈ frm', h'.get? p.1 = some p.2) → (∀ b o, b ∉ adr → s'.heap.get? b = some o → h'.get? b = some o) → Q () { s' with heap := h', toks := tk }) →
      wpAny (model prog w) A (assign target cenv v) Q E' s')
    (step : BStep prog w A h₀ L m elt ifs cenv s D Hs J n)
    (hst : St 0 s.heap) (F : Fr h₀ L s.heap m) (N : News h₀ L s.heap ((D, LCg.lst []) :: (frm₀ ++ news₀))) (hq : Fq frm₀) (hJ : J 0 [] news₀) (off : ∀ p ∈ news₀, p.1 ∉ wr ∧ p.1 ≠ D ∧ p.1 ∉ adr)
    (hR : ∀ h tk ys news frm, Fr h₀ L h m → News h₀ L h ((D, LCg.lst ys) :: (frm ++ news)) → Fq frm → J n ys news → (∀ p ∈ news, p.1 ∉ wr ∧ p.1 ≠ D ∧ p.1 ∉ adr) → R (.ok .next) { s with heap := h, toks := tk }) :
    codeAny (model prog w) A (.compLoop (.ListComp elt [⟨target, iter, ifs, 0⟩] scope pos) 0 (.ref I) (.ref D) cenv) R s := by
  have hDw : D ∉ wr := fun h => hDf (W.sub _ h)
  have hLw : L ∉ wr := fun h => hLf (W.sub _ h)
  have haw : ∀ b ∈ adr, b ∉ wr := fun b hb h => haf b hb (W.sub _ h)
  have old : ∀ b o, h₀.get? b = some o → b ∉ wr := fun b o e hb => by rw [hwr b hb] at e; cases e
  have olda : ∀ b o, h₀.get? b = some o → b ∉ adr := fun b o e hb => by rw [ha₀ b hb] at e; cases e
  have inF : ∀ frm, Fq frm → ∀ p ∈ frm, p.1 ∈ adr := fun frm hf p hp => by rw [← hF frm hf]; exact List.mem_map_of_mem hp
  refine comp_loop (fun k s' => ∃ h' tk i ys frm news, s' = { s with heap := h', toks := tk } ∧ i ≤ n ∧ k = n + 1 - i ∧ ys.length ≤ i ∧ St i h' ∧ Fr h₀ L h' m ∧ News h₀ L h' ((D, LCg.lst ys) :: (frm ++ news)) ∧ Fq frm ∧ (∀ p ∈ news, p.1 ∉ wr ∧ p.1 ≠ D ∧ p.1 ∉ adr) ∧ J i ys news) ?_ (n + 1)
    ⟨s.heap, s.toks, 0, [], frm₀, news₀, rfl, Nat.zero_le _, rfl, Nat.le_refl _, hst, F, N, hq, off, hJ⟩
  rintro k s' ⟨h', tk, i, ys, frm, news, rfl, hi, rfl, hyl, hst', F', N', hq', off', hJ'⟩ E'
  -- what keeps all but wr
  have nextW : ∀ h₁ : Heap, (∀ b o, b ∉ wr → h'.get? b = some o → h₁.get? b = some o) → Fr h₀ L h₁ m ∧ News h₀ L h₁ ((D, LCg.lst ys) :: (frm ++ news)) := fun h₁ hk₁ =>
    ⟨⟨F'.ns.at' fun o e => hk₁ _ o hLw e, fun b o e => hk₁ b o (old b o e) (F'.keep b o e), F'.above⟩, fun p hp => ⟨hk₁ _ _ (by
      rcases List.mem_cons.mp hp with rfl | hp
      · exact hDw
      · rcases List.mem_append.mp hp with hp | hp
        · exact haw _ (inF frm hq' p hp)
        · exact (off' p hp).1) (N' p hp).1, (N' p hp).2⟩⟩
  by_cases hlt : i < n
  · refine W.item i _ _ _ hlt hst' fun v h₁ tk₁ hMd hk₁ => ?_
    refine W.go i v _ _ _ hMd fun h₂ hP hst₂ hk₂ => ?_
    have hk₁₂ : ∀ b o, b ∉ wr → h'.get? b = some o → h₂.get? b = some o := fun b o hb x => hk₂ b o hb (hk₁ b o hb x)
    obtain ⟨F₂, N₂⟩ := nextW h₂ hk₁₂
    refine hassign i v ys news frm _ _ _ hlt hP hq' hJ' N₂ fun h₃ tk₃ frm₃ hq₃ hHs hf₃ hk₃ => ?_
    have F₃ : Fr h₀ L h₃ m := ⟨F₂.ns.at' fun o e => hk₃ _ o haL e, fun b o e => hk₃ b o (olda b o e) (F₂.keep b o e), F₂.above⟩
    have hst₃ : St (i + 1) h₃ := W.frame _ _ _ hst₂ fun b hb o e => hk₃ b o (fun q => haf b q hb) e
    have Nown : News h₀ L h₃ (PyProof.Rows.ownOf h₀ fp h₃) := news_ownOf hLf
    have N₃ : News h₀ L h₃ (PyProof.Rows.ownOf h₀ fp h₃ ++ (D, LCg.lst ys) :: (frm₃ ++ news)) := by
      intro p hp
      rcases List.mem_append.mp hp with hp | hp
      · exact Nown p hp
      · rcases List.mem_cons.mp hp with rfl | hp
        · exact ⟨hk₃ _ _ haD (N₂ _ (List.mem_cons_self)).1, hDL, hD₀⟩
        · rcases List.mem_append.mp hp with hp | hp
          · have hpa := inF frm₃ hq₃ p hp
            exact ⟨hf₃ p hp, fun e => haL (e ▸ hpa), ha₀ _ hpa⟩
          · have z := N₂ p (List.mem_cons_of_mem _ (List.mem_append_right _ hp))
            exact ⟨hk₃ _ _ (off' p hp).2.2 z.1, z.2⟩
    -- what a turn's end gives
    have fin : ∀ (K : Led → Value → Prop) x s₄, BEnd h₀ L m { s with heap := h₃, toks := tk₃ } (PyProof.Rows.ownOf h₀ fp h₃ ++ (D, LCg.lst ys) :: (frm₃ ++ news)) K x s₄ →
        ∃ h₄ tk₄ new, s₄ = { s with heap := h₄, toks := tk₄ } ∧ Fr h₀ L h₄ m ∧ News h₀ L h₄ ((D, LCg.lst ys) :: (frm₃ ++ (new ++ news))) ∧ St (i + 1) h₄ ∧ (∀ p ∈ new ++ news, p.1 ∉ wr ∧ p.1 ≠ D ∧ p.1 ∉ adr) ∧ K new x := by
      rintro K x s₄ ⟨h₄, tk₄, new, rfl, F₄, N₄, ab, hK⟩
      refine ⟨h₄, tk₄, new, rfl, F₄, fun p hp => N₄ p ?_, W.frame _ _ _ hst₃ fun b hb o e => ?_, ?_, hK⟩
      · simp only [List.mem_cons, List.mem_append] at hp ⊢
        rcases hp with h | h | h | h
        · exact .inr (.inr (.inl h))
        · exact .inr (.inr (.inr (.inl h)))
        · exact .inl h
        · exact .inr (.inr (.inr (.inr h)))
      · cases hn : h₀.get? b with
        | some o₀ =>
          have : o₀ = o := by have q := F₃.keep b o₀ hn; rw [e] at q; exact (Option.some.inj q).symm
          exact this ▸ F₄.keep b o₀ hn
        | none => exact (N₄ _ (List.mem_append_right _ (List.mem_append_left _ (mem_ownOf hb hn e)))).1
      · intro p hp
        rcases List.mem_append.mp hp with hp | hp
        · have a := ab p hp
          refine ⟨fun hw => ?_, fun hw => ?_, fun hw => ?_⟩
          · obtain ⟨o, ho⟩ := hIo _ _ hst₃ _ hw
            exact a (p.1, o) (List.mem_append_left _ (mem_ownOf (W.sub _ hw) (hwr _ hw) ho)) rfl
          · exact a (D, LCg.lst ys) (List.mem_append_right _ List.mem_cons_self) hw.symm
          · rw [← hF frm₃ hq₃] at hw
            obtain ⟨q, hq, e⟩ := List.mem_map.mp hw
            exact a q (List.mem_append_right _ (List.mem_cons_of_mem _ (List.mem_append_left _ hq))) e
        · exact off' p hp
    refine wpAny_mono (step i v ys news frm₃ _ h₃ tk₃ E' hlt hJ' hHs F₃ N₃) (fun ok s₃ h₃' => ?_) fun _ _ e => e
    cases ok with
    | false =>
      simp only [Bool.false_eq_true, if_false] at h₃' ⊢
      obtain ⟨h₄, tk₄, new, rfl, F₄, N₄, hst₄, off₄, hJ₄⟩ := fin _ _ _ h₃'
      exact ⟨n + 1 - (i + 1), by omega, h₄, tk₄, i + 1, ys, frm₃, new ++ news, rfl, hlt, rfl, by omega, hst₄, F₄, N₄, hq₃, off₄, hJ₄⟩
    | true =>
      simp only [if_true] at h₃' ⊢
      refine wpAny_mono h₃' (fun x s₄ h₄' => ?_) fun _ _ e => e
      obtain ⟨h₄, tk₄, new, rfl, F₄, N₄, hst₄, off₄, hJ₄⟩ := fin _ _ _ h₄'
      refine append_at (hsz := by show ys.toArray.size ≤ sizeLine; rw [List.size_toArray]; omega) (N₄ _ List.mem_cons_self).1 fun h₅ hs₅ hD₅ => ?_
      refine ⟨n + 1 - (i + 1), by omega, h₅, tk₄, i + 1, ys ++ [x], frm₃, new ++ news, rfl, hlt, rfl, by rw [List.length_append, List.length_singleton]; omega, W.frame _ _ _ hst₄ fun b hb o e => hs₅.extBut b o (fun q => hDf (q ▸ hb)) e, F₄.change hs₅ hDL hD₀, fun p hp => ?_, hq₃, off₄, hJ₄⟩
      rcases List.mem_cons.mp hp with rfl | hp'
      · exact ⟨hD₅.trans (congrArg some (LCg.lst_snoc ys x)), hDL, hD₀⟩
      · have z := N₄ p (List.mem_cons_of_mem _ hp')
        refine ⟨hs₅.extBut _ _ ?_ z.1, z.2⟩
        rcases List.mem_append.mp hp' with hp' | hp'
        · intro e
          have := inF frm₃ hq₃ p hp'
          rw [e] at this
          exact haD this
        · exact (off₄ p hp').2.1
  · obtain rfl : i = n := Nat.le_antisymm hi (Nat.not_lt.mp hlt)
    refine W.done _ _ _ hst' fun h₁ tk₁ hk₁ => ?_
    obtain ⟨F₁, N₁⟩ := nextW h₁ hk₁
    exact hR h₁ tk₁ ys news frm F₁ N₁ hq' hJ' off'

theorem fresh_of {h h₀ : Heap} {m : Str → Option Value} (F : Fr h₀ L h m) : ∀ a, h.objs.size ≤ a → h₀.get? a = none := fun a ha => by
  cases e : h₀.get? a with
  | none => rfl
  | some o' => exact absurd (Heap.lt_size (F.keep a o' e)) (Nat.not_lt.mpr ha)
/-- the block's ground, no cells of its own -/
theorem blk_start {elt target iter : PySem.Expr} {ifs : List PySem.Expr} {scope : Scope} {pos : Pos} {env : Env} {cl : List (Str × Addr)} {I : Addr} {base : Led} {s₂ : Shared} {RR : Value → Addr → Result → Shared → Prop} {Stt : Heap → Prop}
    (hcell : ∀ y ∈ scope.names, y.2 ≠ .cell) (hkind : scope.kind = .function) (hst : Stt s₂.heap) (hsk : ∀ h h' : Heap, Stt h → (∀ b o, h.get? b = some o → h'.get? b = some o) → Stt h')
    (hself : ∀ (s' : Shared) (Q : Value → Shared → Prop) (E' : Value → Shared → Prop), Stt s'.heap → Q (.ref I) s' → wpAny (model prog w) A (pyIter (.ref I)) Q E' s')
    (F : Fr h₀ L s₂.heap m) (N : News h₀ L s₂.heap base)
    (cont : ∀ C h₁ tk oC m', @LT.lt Nat _ s₂.heap.objs.size C → Stt h₁ → Fr h₀ L h₁ m → News h₀ L h₁ ((s₂.heap.objs.size, LCg.lst []) :: ([(C, oC)] ++ base)) → LCg.NsObj oC m' → h₀.get? C = none → C ≠ L →
      codeAny (model prog w) A (.compLoop (.ListComp elt [⟨target, iter, ifs, 0⟩] scope pos) 0 (.ref I) (.ref s₂.heap.objs.size) (compEnvC scope cl C env)) (RR (.ref s₂.heap.objs.size) C) { s₂ with heap := h₁, toks := tk }) :
    wpAny (model prog w) A (newList []) (fun acc s₃ => wpAny (model prog w) A (newFunctionEnv scope env.globals cl [] env.qual none .none (some env)) (fun cenv s₄ =>
      codeAny (model prog w) A (.compStart (.ListComp elt [⟨target, iter, ifs, 0⟩] scope pos) 0 (.ref I) acc { cenv with scope := relabel scope env }) (RR acc cenv.locals) s₄) E s₃) E s₂ := by
  refine wpAny_newObj_type (wpAny_newFunctionEnv hcell (by intro y hy; simp at hy) (fun h₁ hns₁ hsb₁ => ?_) hkind)
  dsimp only at hns₁ hsb₁ ⊢
  generalize hH2 : s₂.heap.push { cls := .type "list", dict := none, data := .seq ([] : List Value).toArray } = H2 at hns₁ hsb₁ ⊢
  have hC : H2.objs.size = s₂.heap.objs.size + 1 := by rw [← hH2, Heap.size_push]
  have old : ∀ b o, s₂.heap.get? b = some o → h₁.get? b = some o := fun b o e => hsb₁.extBut b o (by rw [hC]; exact Nat.ne_of_lt (Nat.lt_succ_of_lt (Heap.lt_size e))) (Heap.get?_push_of_some _ (hH2 ▸ Heap.get?_push_of_some _ e))
  have hDC : s₂.heap.objs.size ≠ H2.objs.size := by rw [hC]; exact Nat.ne_of_lt (Nat.lt_succ_self _)
  have hacc : h₁.get? s₂.heap.objs.size = some (LCg.lst []) := hsb₁.extBut _ _ hDC (Heap.get?_push_of_some _ (hH2 ▸ Heap.get?_push_size _ rfl))
  have hst₁ := hsk _ _ hst old
  obtain ⟨oC, heC, hoC⟩ := LCg.ns_obj hns₁
  have hLlt : @LT.lt Nat _ L s₂.heap.objs.size := F.ns.lt
  have hD₀ := fresh_of F s₂.heap.objs.size (Nat.le_refl _)
  have hC₀ := fresh_of F H2.objs.size (by rw [hC]; exact Nat.le_succ _)
  have c := cont H2.objs.size h₁ (s₂.toks + ([] : List (Str × Value)).length) oC _ (by rw [hC]; exact Nat.lt_succ_self _) hst₁ (F.keeps old) (fun p hp => by
    rcases List.mem_cons.mp hp with rfl | hp
    · exact ⟨hacc, Nat.ne_of_gt hLlt, hD₀⟩
    · rcases List.mem_cons.mp hp with rfl | hp
      · exact ⟨heC, Nat.ne_of_gt (by rw [hC]; exact Nat.lt_succ_of_lt hLlt), hC₀⟩
      · exact ⟨old _ _ (N p hp).1, (N p hp).2⟩) hoC hC₀ (Nat.ne_of_gt (by rw [hC]; exact Nat.lt_succ_of_lt hLlt))
  exact codeAny_compStart_list c (hself _ _ _ hst₁ c)

def PairIn (led : Led) (v : Value) (pr : Value × Value) : Prop := ∃ T n, v = .ref T ∧ (T, ({ cls := .type "tuple", data := .seq #[pr.1, pr.2] n } : Obj)) ∈ led
theorem All2.get {α β : Type} {R : α → β → Prop} : ∀ {l : List α} {k : List β} {i : Nat} {a : α}, All2 R l k → l[i]? = some a → ∃ b, k[i]? = some b ∧ R a b
  | [], [], _, _, _, h => by simp at h
  | x :: l, y :: k, 0, a, r, h => by
    have e : x = a := by simpa using h
    exact ⟨y, rfl, e ▸ r.1⟩
  | x :: l, y :: k, i + 1, a, r, h => by
    obtain ⟨b, e, q⟩ := All2.get (l := l) (k := k) (i := i) r.2 (by simpa using h)
    exact ⟨b, by simpa using e, q⟩
  | [], _ :: _, _, _, r, _ => r.elim
  | _ :: _, [], _, _, r, _ => r.elim
/-- what a block «[elt for x, x₂ in xs if ..]» over a list of pairs wants to know; nothing is made in its turns -/
def PairSrc (prog : Program) (w : World) (A : Around) (h₀ : Heap) (L : Addr) (m : Str → Option Value) (env : Env) (elt : PySem.Expr) (ifs : List PySem.Expr) (x x₂ : Str) (scope : Scope) (cl : List (Str × Addr)) (Fin : Value → Heap → Nat → Prop) (xv : Value) (s₁ : Shared) : Prop :=
  ∃ ax its prs base k, ∃ J : Nat → List Value → Prop, xv = .ref ax ∧ A.handled = none ∧ Fr h₀ L s₁.heap m ∧ News h₀ L s₁.heap base ∧ (ax, ({ cls := .type "list", data := .seq (List.toArray its) k } : Obj)) ∈ base ∧ All2 (PairIn base) its prs ∧ its.length ≤ sizeLine ∧ J 0 [] ∧
    (∀ i v₁ v₂ ys oC m₂ own C D h tk (E' : Value → Shared → Prop), prs[i]? = some (v₁, v₂) → J i ys → LCg.NsObj oC m₂ → m₂ x = some v₁ → m₂ x₂ = some v₂ → Fr h₀ L h m → News h₀ L h (own ++ (D, LCg.lst ys) :: (C, oC) :: base) →
      wpAny (model prog w) A (forIn ifs true fun c r => if r = true then do let ok ← isTrue c (compEnvC scope cl C env) (eval c (compEnvC scope cl C env)); pure (ForInStep.yield ok) else pure (ForInStep.yield r)) (fun ok s₃ =>
        if ok = true then wpAny (model prog w) A (eval elt (compEnvC scope cl C env)) (BEnd h₀ L m { s₁ with heap := h, toks := tk } (own ++ (D, LCg.lst ys) :: (C, oC) :: base) (fun new x => new = [] ∧ J (i + 1) (ys ++ [x]))) E' s₃
        else BEnd h₀ L m { s₁ with heap := h, toks := tk } (own ++ (D, LCg.lst ys) :: (C, oC) :: base) (fun new _ => new = [] ∧ J (i + 1) ys) .none s₃) E' { s₁ with heap := h, toks := tk }) ∧
    (∀ ys D h tk, J its.length ys → AllLt D base → Fr h₀ L h m → News h₀ L h ((D, LCg.lst ys) :: base) → Fin (.ref D) h tk)
section
variable {env : Env} {elt iter : PySem.Expr} {ifs : List PySem.Expr} {x x₂ : Str} {px px₂ tp pos : Pos} {kk : Nat} {scope : Scope} {cl : List (Str × Addr)}
abbrev pairBody (prog : Program) (w : World) (A : Around) (E : Value → Shared → Prop) (elt target iter : PySem.Expr) (ifs : List PySem.Expr) (scope : Scope) (pos : Pos) (env : Env) (cl : List (Str × Addr)) (RR : Value → Addr → Result → Shared → Prop) (it : Value) (s₂ : Shared) : Prop :=
  wpAny (model prog w) A (newList []) (fun acc s₃ => wpAny (model prog w) A (newFunctionEnv scope env.globals cl [] env.qual none .none (some env)) (fun cenv s₄ =>
      codeAny (model prog w) A (.compStart (.ListComp elt [⟨target, iter, ifs, 0⟩] scope pos) 0 it acc { cenv with scope := relabel scope env }) (RR acc cenv.locals) s₄) E s₃) E s₂
theorem pair_core {RR : Value → Addr → Result → Shared → Prop} {ax k : _} {its : List Value} {prs : List (Value × Value)} {base : Led} {J : Nat → List Value → Prop}
    (hcell : ∀ y ∈ scope.names, y.2 ≠ .cell) (hkind : scope.kind = .function) (hx : scope.names.lookup x = some .local) (hx₂ : scope.names.lookup x₂ = some .local) (hxx : x ≠ x₂)
    (hh : A.handled = none) (F : Fr h₀ L s.heap m) (N : News h₀ L s.heap base) (hm : (ax, ({ cls := .type "list", data := .seq (List.toArray its) k } : Obj)) ∈ base) (hp : All2 (PairIn base) its prs) (hsz : its.length ≤ sizeLine) (hJ : J 0 [])
    (step : ∀ i v₁ v₂ ys oC m₂ own C D h tk (E' : Value → Shared → Prop), prs[i]? = some (v₁, v₂) → J i ys → LCg.NsObj oC m₂ → m₂ x = some v₁ → m₂ x₂ = some v₂ → Fr h₀ L h m → News h₀ L h (own ++ (D, LCg.lst ys) :: (C, oC) :: base) →
      wpAny (model prog w) A (forIn ifs true fun c r => if r = true then do let ok ← isTrue c (compEnvC scope cl C env) (eval c (compEnvC scope cl C env)); pure (ForInStep.yield ok) else pure (ForInStep.yield r)) (fun ok s₃ =>
        if ok = true then wpAny (model prog w) A (eval elt (compEnvC scope cl C env)) (BEnd h₀ L m { s with heap := h, toks := tk } (own ++ (D, LCg.lst ys) :: (C, oC) :: base) (fun new x => new = [] ∧ J (i + 1) (ys ++ [x]))) E' s₃
        else BEnd h₀ L m { s with heap := h, toks := tk } (own ++ (D, LCg.lst ys) :: (C, oC) :: base) (fun new _ => new = [] ∧ J (i + 1) ys) .none s₃) E' { s with heap := h, toks := tk })
    (hRR : ∀ ys D C h tk m', J its.length ys → AllLt D base → Fr h₀ L h m → News h₀ L h ((D, LCg.lst ys) :: base) → (∀ p ∈ (D, LCg.lst ys) :: base, p.1 ≠ C) → h.Ns C m' → h₀.get? C = none → C ≠ L → D ≠ L → h₀.get? D = none → RR (.ref D) C (.ok .next) { s with heap := h, toks := tk }) :
    wpAny (model prog w) A (pyIter (.ref ax)) (pairBody prog w A E elt (.Tuple [.Name x px, .Name x₂ px₂] kk tp) iter ifs scope pos env cl RR) E s := by
  have hl : s.heap.IsList ax its.toArray := N.isList hm
  have hlt : ax < s.heap.objs.size := Heap.lt_size (N _ hm).1
  refine wpAny_pyIter_list hl ?_
  have up : ∀ b o, s.heap.get? b = some o → (s.heap.push { cls := .type "list_iterator", data := .fields #[.ref ax, .int 0 0] }).get? b = some o := fun b o e => Heap.get?_push_of_some _ e
  have hne : ax ≠ s.heap.objs.size := Nat.ne_of_lt hlt
  have W0 := Walks.list (prog := prog) (w := w) (A := A) hh s.heap.objs.size ax hne its.toArray
  have W := KTurns.ofWalks (target := .Tuple [.Name x px, .Name x₂ px₂] kk tp) W0 (fun i v s' Q E' st hQ => by
    cases v with
    | ref T => exact wpAny_letOwnedTupleGo_listiter st.1 hQ
    | _ => exact wpAny_pure hQ)
  have hLlt : @LT.lt Nat _ L s.heap.objs.size := F.ns.lt
  have hI₀ := fresh_of F s.heap.objs.size (Nat.le_refl _)
  have hLI : L ≠ s.heap.objs.size := Nat.ne_of_lt hLlt
  have hLax : L ≠ ax := fun e => (N _ hm).2.1 e.symm
  refine blk_start (I := s.heap.objs.size) (Stt := fun h => h.IsListIter s.heap.objs.size ax 0 ∧ h.IsList ax its.toArray) (base := base) hcell hkind ⟨⟨_, Heap.get?_push_size _ rfl, rfl, rfl⟩, hl.push _⟩
    (fun h h' st k => ⟨st.1.at fun o e => k _ o e, st.2.at fun o e => k _ o e⟩) (fun s' Q E' st hQ => W0.self 0 _ _ _ st hQ) (F.keeps up) (N.grown up) ?_
  intro C h₁ tk oC m' hDC hst₁ F₁ N₁ hoC hC₀ hCL
  dsimp only at hDC N₁ ⊢
  have hsI : (s.heap.push { cls := .type "list_iterator", data := .fields #[.ref ax, .int 0 0] }).objs.size = s.heap.objs.size + 1 := Heap.size_push ..
  rw [hsI] at hDC N₁ ⊢
  generalize hD : s.heap.objs.size + 1 = D at hDC N₁ ⊢
  have hlb : ∀ p ∈ base, @LT.lt Nat _ p.1 s.heap.objs.size := fun p hp => Heap.lt_size (N p hp).1
  have hDI : @LT.lt Nat _ s.heap.objs.size D := by rw [← hD]; exact Nat.lt_succ_self _
  have hD₀ := fresh_of F D (Nat.le_of_lt hDI)
  have hDL : D ≠ L := Nat.ne_of_gt (Nat.lt_trans hLlt hDI)
  refine blk (s := { s with heap := h₁, toks := tk }) (D := D) (adr := [C]) (Fq := fun frm => ∃ oC m', frm = [(C, oC)] ∧ LCg.NsObj oC m') (Hs := fun i v frm => ∃ v₁ v₂ oC m₂, prs[i]? = some (v₁, v₂) ∧ frm = [(C, oC)] ∧ LCg.NsObj oC m₂ ∧ m₂ x = some v₁ ∧ m₂ x₂ = some v₂)
    (J := fun i ys news => news = base ∧ J i ys) (frm₀ := [(C, oC)]) (news₀ := base) W (by simpa using hsz) ?_ ?_ ?_ hDL hD₀ ?_ ?_ ?_ ?_ ?_ ?_ ?_ ?_ hst₁ F₁ N₁ ⟨oC, m', rfl, hoC⟩ ⟨rfl, hJ⟩ ?_ ?_
  · intro i h st b hb
    rw [List.mem_singleton.mp hb]
    obtain ⟨o, e, _⟩ := st.1
    exact ⟨o, e⟩
  · intro b hb
    rw [List.mem_singleton.mp hb]
    exact hI₀
  · intro hb
    simp only [List.mem_cons, List.not_mem_nil, or_false] at hb
    exact hb.elim hLI hLax
  · intro hb
    simp only [List.mem_cons, List.not_mem_nil, or_false] at hb
    exact hb.elim (Nat.ne_of_gt hDI) (Nat.ne_of_gt (Nat.lt_trans hlt hDI))
  · intro b hb
    rw [List.mem_singleton.mp hb]
    exact hC₀
  · intro hb
    exact hCL (List.mem_singleton.mp hb).symm
  · intro hb
    exact Nat.ne_of_lt hDC (List.mem_singleton.mp hb)
  · intro b hb
    rw [List.mem_singleton.mp hb]
    intro hb
    simp only [List.mem_cons, List.not_mem_nil, or_false] at hb
    exact hb.elim (Nat.ne_of_gt (Nat.lt_trans hDI hDC)) (Nat.ne_of_gt (Nat.lt_trans hlt (Nat.lt_trans hDI hDC)))
  · rintro frm ⟨oC', m'', rfl, _⟩
    rfl
  · rintro i v ys news frm s' Q E' hi hP ⟨oC', m'', rfl, hoC'⟩ ⟨rfl, hJi⟩ N' hQ
    obtain ⟨⟨v₁, v₂⟩, hpr, T, nT, rfl, hT⟩ := All2.get hp (show its[i]? = some v by simpa using hP)
    have hTg : s'.heap.IsTuple T #[v₁, v₂] := ⟨_, (N' _ (List.mem_cons_of_mem _ (List.mem_append_right _ hT))).1, rfl, _, rfl⟩
    have hCn : s'.heap.Ns C m'' := hoC'.ns (N' (C, oC') (List.mem_cons_of_mem _ (List.mem_append_left _ List.mem_cons_self))).1
    refine kcp_assign (env := compEnvC scope cl C env) hh hTg (lookup_relabel_local hx) (lookup_relabel_local hx₂) (by simp [compEnvC, relabel, hkind]) hCn fun h' tk hn hk => ?_
    obtain ⟨oC2, heC2, hoC2⟩ := LCg.ns_obj hn
    refine hQ h' tk [(C, oC2)] ⟨_, _, rfl, hoC2⟩ ⟨v₁, v₂, oC2, _, hpr, rfl, hoC2, ?_, ?_⟩ (fun p hp => ?_) (fun b o hb e => hk b o (fun q => hb (List.mem_singleton.mpr q)) e)
    · simp [hxx]
    · simp
    · rw [List.mem_singleton.mp hp]; exact heC2
  · rintro i v ys news frm own h tk' E' hi ⟨rfl, hJi⟩ ⟨v₁, v₂, oC', m₂, hpr, rfl, hoC', e1, e2⟩ F' N'
    refine wpAny_mono (step i v₁ v₂ ys oC' m₂ own C D h tk' E' hpr hJi hoC' e1 e2 F' N') (fun ok s₃ q => ?_) fun _ _ e => e
    have conv : ∀ (ys' : List Value) x s₄, BEnd h₀ L m { s with heap := h, toks := tk' } (own ++ (D, LCg.lst ys) :: (C, oC') :: news) (fun new _ => new = [] ∧ J (i + 1) ys') x s₄ →
        BEnd h₀ L m { s with heap := h, toks := tk' } (own ++ (D, LCg.lst ys) :: ([(C, oC')] ++ news)) (fun new _ => new ++ news = news ∧ J (i + 1) ys') x s₄ := by
      rintro ys' x s₄ ⟨h', tk, new, e, F', N', ab, rfl, hj⟩
      exact ⟨h', tk, [], e, F', N', ab, rfl, hj⟩
    cases ok with
    | false => exact conv ys .none s₃ q
    | true => exact wpAny_mono q (fun x s₄ q => conv (ys ++ [x]) x s₄ q) fun _ _ e => e
  · intro p hp
    have := hlb p hp
    refine ⟨fun hb => ?_, Nat.ne_of_lt (Nat.lt_trans this hDI), fun hb => ?_⟩
    · exact Nat.ne_of_lt this (List.mem_singleton.mp hb)
    · exact Nat.ne_of_lt (Nat.lt_trans this (Nat.lt_trans hDI hDC)) (List.mem_singleton.mp hb)
  · rintro h tk' ys news frm F' N' ⟨oC', m'', rfl, hoC'⟩ ⟨rfl, hJn⟩ off
    refine hRR ys D C h tk' m'' (by simpa using hJn) (allLt_iff.mpr fun p hp => Nat.lt_trans (hlb p hp) hDI) F' (con_drop N' fun p hp => ?_) ?_ (hoC'.ns (N' (C, oC') (List.mem_cons_of_mem _ List.mem_cons_self)).1) hC₀ hCL hDL hD₀
    · rcases List.mem_cons.mp hp with h | h
      · rw [h]; exact List.mem_cons_self
      · exact List.mem_cons_of_mem _ (List.mem_append_right _ h)
    · intro p hp
      rcases List.mem_cons.mp hp with h | h
      · rw [h]; exact Nat.ne_of_lt hDC
      · exact fun e => (off p h).2.2 (List.mem_singleton.mpr e)

theorem post_use {y : Str} {py : Pos} {Q : Value → Shared → Prop} {base : Led} {ys : List Value} {D C : Addr} {m' : Str → Option Value} (hLe : env.locals = L)
    (hy : env.kindOf y = some .local) (hpl : (env.scope.kind == .class || (env.scope.kind == .module && env.locals != env.globals)) = false)
    (F : Fr h₀ L s.heap m) (N : News h₀ L s.heap ((D, LCg.lst ys) :: base)) (off : ∀ p ∈ (D, LCg.lst ys) :: base, p.1 ≠ C) (hn : s.heap.Ns C m') (hC₀ : h₀.get? C = none) (hCL : C ≠ L)
    (fin : ∀ h tk, Fr h₀ L h (fun z => if z = y then some (.ref D) else m z) → News h₀ L h ((D, LCg.lst ys) :: base) → Q .none { s with heap := h, toks := tk }) :
    compPost (model prog w) A E (some (assign (.Name y py) env)) Q (.ref D) C (.ok .next) s := by
  subst hLe
  show wpAny _ A (assign (.Name y py) env (.ref D)) _ _ _
  refine wpAny_assign_Name (wpAny_storeName_local hy F.ns (fun h₂ hn₂ hs₂ => ?_) hpl)
  have hL₀ : h₀.get? env.locals = none := Heap.get?_none_of_le F.above
  have F₂ : Fr h₀ env.locals h₂ (fun z => if z = y then some (.ref D) else m z) := ⟨hn₂, fun b o e => hs₂.extBut b o (fun q => by rw [q, hL₀] at e; cases e) (F.keep b o e), F.above⟩
  exact ⟨m', hn.sameBut hs₂ hCL, fun h'' hs'' => fin h'' _ (F₂.change hs'' hCL hC₀) fun p hp => ⟨hs''.extBut _ _ (off p hp) (hs₂.extBut _ _ (N p hp).2.1 (N p hp).1), (N p hp).2⟩⟩
theorem post_eval {Q : Value → Shared → Prop} {base : Led} {ys : List Value} {D C : Addr} {m' : Str → Option Value}
    (F : Fr h₀ L s.heap m) (N : News h₀ L s.heap ((D, LCg.lst ys) :: base)) (off : ∀ p ∈ (D, LCg.lst ys) :: base, p.1 ≠ C) (hn : s.heap.Ns C m') (hC₀ : h₀.get? C = none) (hCL : C ≠ L)
    (fin : ∀ h tk, Fr h₀ L h m → News h₀ L h ((D, LCg.lst ys) :: base) → Q (.ref D) { s with heap := h, toks := tk }) :
    compPost (model prog w) A E none Q (.ref D) C (.ok .next) s :=
  ⟨m', hn, fun h'' hs'' => fin h'' s.toks (F.change hs'' hCL hC₀) fun p hp => ⟨hs''.extBut _ _ (off p hp) (N p hp).1, (N p hp).2⟩⟩
theorem eval_comp {target : PySem.Expr} {Q : Value → Shared → Prop}
    (hclos : closureFor scope env = pure cl) (hkind : scope.kind = .function) (hnames : ∀ y ∈ scope.names, y.2 = .local → scope.names.lookup y.1 = some .local)
    (h : wpAny (model prog w) A (eval iter env) (fun xv s₁ => wpAny (model prog w) A (pyIter xv) (pairBody prog w A E elt target iter ifs scope pos env cl (compPost (model prog w) A E none Q)) E s₁) E s)
    (hs : ∀ x, foldedSetIterable iter env x = pure x := by intro _; rfl) :
    wpAny (model prog w) A (eval (.ListComp elt [⟨target, iter, ifs, 0⟩] scope pos) env) Q E s := by
  rw [eval_ListComp]
  exact wpAny_comprehension_free (use := none) rfl hs hclos hkind hnames h
theorem assign_comp {target : PySem.Expr} {y : Str} {py spos : Pos} {Q : Flow → Shared → Prop}
    (hsw : swapsWith (.ListComp elt [⟨target, iter, ifs, 0⟩] scope pos) (some (.Name y py)) spos.line env = pure true)
    (hclos : closureFor scope env = pure cl) (hkind : scope.kind = .function) (hnames : ∀ y ∈ scope.names, y.2 = .local → scope.names.lookup y.1 = some .local)
    (h : wpAny (model prog w) A (eval iter env) (fun xv s₁ => wpAny (model prog w) A (pyIter xv) (pairBody prog w A E elt target iter ifs scope pos env cl (compPost (model prog w) A E (some (assign (.Name y py) env)) (fun _ s' => Q .next s'))) E s₁) E s)
    (hs : ∀ x, foldedSetIterable iter env x = pure x := by intro _; rfl) :
    wpAny (model prog w) A (exec (.Assign [.Name y py] (.ListComp elt [⟨target, iter, ifs, 0⟩] scope pos) spos) env) Q E s := by
  rw [exec_Assign_Name_used _ _ _ _ hsw]
  refine wpAny_bind (wpAny_standAt (wpAny_bind ?_))
  show wpAny _ A (do let _ ← comprehension (.ListComp elt [⟨target, iter, ifs, 0⟩] scope pos) scope env _ (newList []) false (eval iter env) (some (assign (.Name y py) env))) _ _ s
  exact wpAny_bind (wpAny_mono (wpAny_comprehension_free (use := some (assign (.Name y py) env)) (Q := fun _ s' => Q .next s') rfl hs hclos hkind hnames h) (fun _ s' hq => wpAny_pure (wpAny_pure hq)) fun _ _ e => e)
end
theorem nfe2 {M : Model} {A : Around} {E : Value → Shared → Prop} {s : Shared} {scope : Scope} {a b r f1 f2 : Str} {globals : Addr} {cl : List (Str × Addr)} {qual : Str} {env : Env} {Q : Env → Shared → Prop} {z : Str}
    (hn : scope.names = [(z, .local), (a, .cell), (b, .cell), (r, .globalImplicit), (f1, .free), (f2, .free)])
    (h : Q { scope := scope, locals := s.heap.objs.size, globals := globals, cells := (b, s.heap.objs.size + 2) :: (a, s.heap.objs.size + 1) :: cl, qual := qual, func := none, code := env.code, frame := env.frame, builtins := env.builtins }
      { s with heap := ((s.heap.push { cls := .type "dict", data := .dict #[] }).push { cls := .type "cell", data := .cell none }).push { cls := .type "cell", data := .cell none } }) :
    wpAny M A (newFunctionEnv scope globals cl [] qual none .none (some env)) Q E s := by
  simp only [newFunctionEnv, Option.isSome_some, if_true]
  refine wpAny_bind (wpAny_alloc ?_)
  rw [hn]
  simp only [List.forIn_cons, List.forIn_nil]
  refine wpAny_bind ?_
  refine wpAny_bind (wpAny_pure ?_)
  dsimp only
  refine wpAny_bind ?_
  refine wpAny_bind (wpAny_alloc ?_)
  refine wpAny_pure ?_
  dsimp only
  refine wpAny_bind ?_
  refine wpAny_bind (wpAny_alloc ?_)
  refine wpAny_pure ?_
  dsimp only
  refine wpAny_bind ?_
  refine wpAny_pure ?_
  dsimp only
  refine wpAny_bind ?_
  refine wpAny_pure ?_
  dsimp only
  refine wpAny_bind ?_
  refine wpAny_pure ?_
  dsimp only
  refine wpAny_pure ?_
  refine wpAny_bind (wpAny_pure (wpAny_pure ?_))
  simpa only [Heap.size_push] using h

theorem assign_cells {prog : Program} {w : World} {A : Around} {E : Value → Shared → Prop} {s : Shared} {env : Env} {a b : Str} {pa pb tp : Pos} {kk : Nat} {T c1 c2 : Addr} {x y : Value} {u1 u2 : Option Value} {Q : Unit → Shared → Prop} (hh : A.handled = none) (ht : s.heap.IsTuple T #[x, y])
    (hk : env.scope.kind = .function) (ha : env.kindOf a = some .cell) (hb : env.kindOf b = some .cell) (hc1 : env.cells.lookup a = some c1) (hc2 : env.cells.lookup b = some c2) (h1 : s.heap.IsCell c1 u1) (h2 : s.heap.IsCell c2 u2) (hne : c1 ≠ c2)
    (h : ∀ (h' : Heap), h'.IsCell c1 (some x) → h'.IsCell c2 (some y) → (∀ c o, c ≠ c1 → c ≠ c2 → s.heap.get? c = some o → h'.get? c = some o) → Q () { s with heap := h' }) :
    wpAny (model prog w) A (assign (.Tuple [.Name a pa, .Name b pb] kk tp) env (.ref T)) Q E s := by
  refine wpAny_assign_Tuple hh ht rfl rfl fun h₁ he₁ => ?_
  have up₁ : ∀ c o, s.heap.get? c = some o → h₁.get? c = some o := fun c o e => he₁ c o (Nat.ne_of_lt (Heap.lt_size e)) e
  show wpAny _ _ (assignInOrder [assign (.Name a pa) env, assign (.Name b pb) env] [x, y]) _ _ _
  refine assignInOrder_cons ?_
  refine wpAny_assign_Name (wpAny_storeName_cell hk ha hc1 (h1.keeps up₁) fun h₂ i2 s2 => ?_)
  refine assignInOrder_cons ?_
  refine wpAny_assign_Name (wpAny_storeName_cell hk hb hc2 ((h2.keeps up₁).sameBut s2 (Ne.symm hne)) fun h₃ i3 s3 => ?_)
  refine assignInOrder_nil ?_
  exact h h₃ (i2.sameBut s3 hne) i3 fun c o e1 e2 e => s3.extBut c o e2 (s2.extBut c o e1 (up₁ c o e))
end
section
variable {h₀ h' : Heap} {L : Addr} {m : Str → Option Value} {s : Shared} {tk : Nat} {led : Led} {K : Led → Value → Prop} {x : Value} {D : Addr} {o : Obj}
theorem bend0 (F : Fr h₀ L h' m) (N : News h₀ L h' led) (k : K [] x) : BEnd h₀ L m s led K x { s with heap := h', toks := tk } := ⟨h', tk, [], rfl, F, N, (fun _ h => nomatch h), k⟩
theorem bend1 (F : Fr h₀ L h' m) (N : News h₀ L h' ((D, o) :: led)) (l : ∀ q ∈ led, q.1 ≠ D) (k : K [(D, o)] x) : BEnd h₀ L m s led K x { s with heap := h', toks := tk } :=
  ⟨h', tk, [(D, o)], rfl, F, N, (fun p hp => by rw [List.mem_singleton.mp hp]; exact l), k⟩
end
theorem off1_iff {D : Addr} : ∀ {l : Led}, LCg.Off1 D l ↔ ∀ p ∈ l, p.1 ≠ D
  | [] => ⟨fun _ _ h => (nomatch h), fun _ => trivial⟩
  | q :: r => by
    show (q.1 ≠ D ∧ LCg.Off1 D r) ↔ _
    rw [off1_iff (l := r), List.forall_mem_cons]
end Fl
namespace Fl
abbrev celO (v : Option Value) : Obj := { cls := .type "cell", data := .cell v }
theorem ns_new : LCg.NsObj ({ cls := .type "dict", data := .dict #[] } : Obj) (fun _ => none) := ⟨#[], _, rfl, fun _ h => by simp at h, fun _ => rfl⟩
section
variable {prog : Program} {w : World} {A : Around} {E : Value → Shared → Prop} {s : Shared} {h₀ : Heap} {L : Addr} {m : Str → Option Value} {env : Env} {elt iter : PySem.Expr} {ifs : List PySem.Expr} {a b r f1 f2 z0 : Str} {pa pb tp pos : Pos} {kk : Nat} {scope : Scope} {cl : List (Str × Addr)}
theorem blk_start2 {target : PySem.Expr} {I : Addr} {base : Led} {s₂ : Shared} {RR : Value → Addr → Result → Shared → Prop} {Stt : Heap → Prop}
    (hn : scope.names = [(z0, .local), (a, .cell), (b, .cell), (r, .globalImplicit), (f1, .free), (f2, .free)]) (hst : Stt s₂.heap) (hsk : ∀ h h' : Heap, Stt h → (∀ b o, h.get? b = some o → h'.get? b = some o) → Stt h')
    (hself : ∀ (s' : Shared) (Q : Value → Shared → Prop) (E' : Value → Shared → Prop), Stt s'.heap → Q (.ref I) s' → wpAny (model prog w) A (pyIter (.ref I)) Q E' s')
    (F : Fr h₀ L s₂.heap m) (N : News h₀ L s₂.heap base)
    (cont : ∀ h₁ tk oC, Stt h₁ → Fr h₀ L h₁ m → News h₀ L h₁ ((s₂.heap.objs.size, LCg.lst []) :: ([(s₂.heap.objs.size + 1, oC), (s₂.heap.objs.size + 1 + 1, celO none), (s₂.heap.objs.size + 1 + 2, celO none)] ++ base)) → LCg.NsObj oC (fun _ => none) →
      codeAny (model prog w) A (.compLoop (.ListComp elt [⟨target, iter, ifs, 0⟩] scope pos) 0 (.ref I) (.ref s₂.heap.objs.size) (compEnvC scope ((b, s₂.heap.objs.size + 1 + 2) :: (a, s₂.heap.objs.size + 1 + 1) :: cl) (s₂.heap.objs.size + 1) env)) (RR (.ref s₂.heap.objs.size) (s₂.heap.objs.size + 1)) { s₂ with heap := h₁, toks := tk }) :
    pairBody prog w A E elt target iter ifs scope pos env cl RR (.ref I) s₂ := by
  refine wpAny_newObj_type (nfe2 hn ?_)
  dsimp only
  generalize hH2 : s₂.heap.push { cls := .type "list", dict := none, data := .seq ([] : List Value).toArray } = H2
  have hC : H2.objs.size = s₂.heap.objs.size + 1 := by rw [← hH2, Heap.size_push]
  rw [hC]
  have e2 : ∀ b o, s₂.heap.get? b = some o → H2.get? b = some o := fun b o e => hH2 ▸ Heap.get?_push_of_some _ e
  have hacc : H2.get? s₂.heap.objs.size = some (LCg.lst []) := hH2 ▸ Heap.get?_push_size _ rfl
  generalize hH5 : ((H2.push { cls := .type "dict", data := .dict #[] }).push { cls := .type "cell", data := .cell none }).push { cls := .type "cell", data := .cell none } = H5
  have e5 : ∀ b o, H2.get? b = some o → H5.get? b = some o := fun b o e => hH5 ▸ Heap.get?_push_of_some _ (Heap.get?_push_of_some _ (Heap.get?_push_of_some _ e))
  have gC : H5.get? (s₂.heap.objs.size + 1) = some { cls := .type "dict", data := .dict #[] } := by
    rw [← hC, ← hH5]
    exact Heap.get?_push_of_some _ (Heap.get?_push_of_some _ (Heap.get?_push_size _ rfl))
  have g1 : H5.get? (s₂.heap.objs.size + 1 + 1) = some (celO none) := by
    rw [← hC, ← hH5]
    have := Heap.get?_push_size (H2.push { cls := .type "dict", data := .dict #[] }) (o := celO none) rfl
    rw [Heap.size_push] at this
    exact Heap.get?_push_of_some _ this
  have g2 : H5.get? (s₂.heap.objs.size + 1 + 2) = some (celO none) := by
    rw [← hC, ← hH5]
    have := Heap.get?_push_size ((H2.push { cls := .type "dict", data := .dict #[] }).push (celO none)) (o := celO none) rfl
    rw [Heap.size_push, Heap.size_push] at this
    exact this
  have old : ∀ b o, s₂.heap.get? b = some o → H5.get? b = some o := fun b o e => e5 b o (e2 b o e)
  have hLlt : @LT.lt Nat _ L s₂.heap.objs.size := F.ns.lt
  have fr := fresh_of F
  have c := cont H5 s₂.toks _ (hsk _ _ hst old) (F.keeps old) (fun p hp => by
    rcases List.mem_cons.mp hp with rfl | hp
    · exact ⟨e5 _ _ hacc, Nat.ne_of_gt hLlt, fr _ (Nat.le_refl _)⟩
    · rcases List.mem_cons.mp hp with rfl | hp
      · exact ⟨gC, Nat.ne_of_gt (Nat.lt_succ_of_lt hLlt), fr _ (Nat.le_succ _)⟩
      · rcases List.mem_cons.mp hp with rfl | hp
        · exact ⟨g1, Nat.ne_of_gt (Nat.lt_succ_of_lt (Nat.lt_succ_of_lt hLlt)), fr _ (Nat.le_trans (Nat.le_succ _) (Nat.le_succ _))⟩
        · rcases List.mem_cons.mp hp with rfl | hp
          · exact ⟨g2, Nat.ne_of_gt (Nat.lt_succ_of_lt (Nat.lt_succ_of_lt (Nat.lt_succ_of_lt hLlt))), fr _ (Nat.le_trans (Nat.le_succ _) (Nat.le_trans (Nat.le_succ _) (Nat.le_succ _)))⟩
          · exact ⟨old _ _ (N p hp).1, (N p hp).2⟩) ns_new
  exact codeAny_compStart_list c (hself _ _ _ (hsk _ _ hst old) c)

theorem zip_core {RR : Value → Addr → Result → Shared → Prop} {l1 l2 : Addr} {xs ys : List Value} {n1 n2 : Nat} {base : Led} {J : Nat → List Value → Led → Prop}
    (hn : scope.names = [(z0, .local), (a, .cell), (b, .cell), (r, .globalImplicit), (f1, .free), (f2, .free)]) (hkind : scope.kind = .function) (hab : (a == b) = false)
    (hka : ∀ cl C, (compEnvC scope cl C env).kindOf a = some .cell) (hkb : ∀ cl C, (compEnvC scope cl C env).kindOf b = some .cell)
    (hh : A.handled = none) (F : Fr h₀ L s.heap m) (N : News h₀ L s.heap base) (hm1 : (l1, ({ cls := .type "list", data := .seq xs.toArray n1 } : Obj)) ∈ base) (hm2 : (l2, ({ cls := .type "list", data := .seq ys.toArray n2 } : Obj)) ∈ base)
    (hT : ∀ v ∈ xs, v ∈ xs) (hsz : min xs.length ys.length ≤ sizeLine) (hJ : J 0 [] [])
    (step : ∀ i x y ys' new own C c1 c2 D oC o1 o2 h tk (E' : Value → Shared → Prop), xs[i]? = some x → ys[i]? = some y → J i ys' new → o1.data = .cell (some x) → o2.data = .cell (some y) → Fr h₀ L h m →
      News h₀ L h (own ++ (D, LCg.lst ys') :: (C, oC) :: (c1, o1) :: (c2, o2) :: (new ++ base)) →
      wpAny (model prog w) A (eval elt (compEnvC scope ((b, c2) :: (a, c1) :: cl) C env)) (BEnd h₀ L m { s with heap := h, toks := tk } (own ++ (D, LCg.lst ys') :: (C, oC) :: (c1, o1) :: (c2, o2) :: (new ++ base)) (fun nw x' => J (i + 1) (ys' ++ [x']) (nw ++ new))) E' { s with heap := h, toks := tk })
    (hRR : ∀ ys' new D C h tk m', J (min xs.length ys.length) ys' new → AllLt D base → (∀ p ∈ new, ∀ q ∈ base, q.1 ≠ p.1) → (∀ p ∈ new, p.1 ≠ D) → Fr h₀ L h m → News h₀ L h ((D, LCg.lst ys') :: (new ++ base)) → (∀ p ∈ (D, LCg.lst ys') :: (new ++ base), p.1 ≠ C) → h.Ns C m' → h₀.get? C = none → C ≠ L →
      RR (.ref D) C (.ok .next) { s with heap := h, toks := tk }) :
    wpAny (model prog w) A (call (.type "zip") [.ref l1, .ref l2]) (fun xv s₁ => wpAny (model prog w) A (pyIter xv) (pairBody prog w A E elt (.Tuple [.Name a pa, .Name b pb] kk tp) iter [] scope pos env cl RR) E s₁) E s := by
  have hax1 := N _ hm1
  have hax2 := N _ hm2
  have hl1 : s.heap.IsList l1 xs.toArray := N.isList hm1
  have hl2 : s.heap.IsList l2 ys.toArray := N.isList hm2
  have hlt1 : l1 < s.heap.objs.size := Heap.lt_size hax1.1
  have hlt2 : l2 < s.heap.objs.size := Heap.lt_size hax2.1
  have hLs : L < s.heap.objs.size := F.ns.lt
  have Dz : ZipApart (s.heap.objs.size + 4) (s.heap.objs.size + 2) (s.heap.objs.size + 3) s.heap.objs.size (s.heap.objs.size + 1) l1 l2 := ktu_apart _ _ _ hlt1 hlt2
  have Wt := WalksT.zip2 (prog := prog) (w := w) (A := A) hh _ _ _ _ _ _ _ Dz xs.toArray ys.toArray
  have W := KTurns.ofWalksU (elts := [.Name a pa, .Name b pb]) (k := kk) (pos := tp) Wt.toU
  refine call_zip_2 hl1 hl2 fun h' hz hTI hTO hi1 hi2 hsize hk => ?_
  refine wpAny_pyIter_zip hz ?_
  have F' := F.keeps hk
  have N' := N.grown hk
  refine blk_start2 (s₂ := { s with heap := h' }) (I := s.heap.objs.size + 4) (base := base) (Stt := fun h => IsZip h (s.heap.objs.size + 4) (s.heap.objs.size + 2) (s.heap.objs.size + 3) .none ∧ IsPair h (s.heap.objs.size + 2) (.ref s.heap.objs.size) (.ref (s.heap.objs.size + 1)) ∧ (∃ a b, IsPair h (s.heap.objs.size + 3) a b) ∧ h.IsListIter s.heap.objs.size l1 0 ∧ h.IsListIter (s.heap.objs.size + 1) l2 0 ∧ h.IsList l1 xs.toArray ∧ h.IsList l2 ys.toArray)
    hn ⟨hz, hTI, ⟨_, _, hTO⟩, hi1, hi2, hl1.at fun o e => hk _ _ e, hl2.at fun o e => hk _ _ e⟩ (fun h h'' st k => Wt.frame 0 h h'' st fun b _ o e => k b o e) (fun s' Q E' st hQ => wpAny_pyIter_zip st.1 hQ) F' N' ?_
  intro h₁ tk oC hst₁ F₁ N₁ hoC
  dsimp only at N₁ ⊢
  rw [hsize] at N₁ ⊢
  generalize hS : s.heap.objs.size = S at *
  have hlb : ∀ p ∈ base, @LT.lt Nat _ p.1 S := fun p hp => hS ▸ Heap.lt_size (N p hp).1
  have fr : ∀ a, @LE.le Nat _ S a → h₀.get? a = none := fun a ha => fresh_of F a (hS ▸ ha)
  have w4 : ∀ b ∈ [S + 4, S + 3, S, S + 1], @LE.le Nat _ S b ∧ @LT.lt Nat _ b (S + 5) := by
    intro b hb
    simp only [List.mem_cons, List.not_mem_nil, or_false] at hb
    rcases hb with rfl | rfl | rfl | rfl <;> exact ⟨by first | exact Nat.le_refl _ | exact Nat.le_add_right _ _, by first | exact Nat.add_lt_add_left (by decide) _ | exact Nat.lt_add_of_pos_right (by decide)⟩
  have f7 : ∀ b ∈ [S + 4, S + 2, S + 3, S, S + 1, l1, l2], @LT.lt Nat _ b (S + 5) ∧ b ≠ L := by
    intro b hb
    simp only [List.mem_cons, List.not_mem_nil, or_false] at hb
    rcases hb with rfl | rfl | rfl | rfl | rfl | rfl | rfl
    · exact ⟨Nat.add_lt_add_left (by decide) _, Nat.ne_of_gt (Nat.lt_of_lt_of_le hLs (Nat.le_add_right _ _))⟩
    · exact ⟨Nat.add_lt_add_left (by decide) _, Nat.ne_of_gt (Nat.lt_of_lt_of_le hLs (Nat.le_add_right _ _))⟩
    · exact ⟨Nat.add_lt_add_left (by decide) _, Nat.ne_of_gt (Nat.lt_of_lt_of_le hLs (Nat.le_add_right _ _))⟩
    · exact ⟨Nat.lt_add_of_pos_right (by decide), Nat.ne_of_gt hLs⟩
    · exact ⟨Nat.add_lt_add_left (by decide) _, Nat.ne_of_gt (Nat.lt_of_lt_of_le hLs (Nat.le_add_right _ _))⟩
    · exact ⟨Nat.lt_of_lt_of_le hlt1 (Nat.le_add_right _ _), hax1.2.1⟩
    · exact ⟨Nat.lt_of_lt_of_le hlt2 (Nat.le_add_right _ _), hax2.2.1⟩
  have hadr : ∀ b ∈ [S + 5 + 1, S + 5 + 1 + 1, S + 5 + 1 + 2], @LT.lt Nat _ (S + 5) b := by
    intro b hb
    simp only [List.mem_cons, List.not_mem_nil, or_false] at hb
    rcases hb with rfl | rfl | rfl
    · exact Nat.lt_succ_self _
    · exact Nat.lt_succ_of_lt (Nat.lt_succ_self _)
    · exact Nat.lt_succ_of_lt (Nat.lt_succ_of_lt (Nat.lt_succ_self _))
  have hS5 : ∀ b, @LT.lt Nat _ (S + 5) b → @LE.le Nat _ S b := fun b hb => Nat.le_trans (Nat.le_add_right _ _) (Nat.le_of_lt hb)
  have hL5 : @LT.lt Nat _ L (S + 5) := Nat.lt_of_lt_of_le hLs (Nat.le_add_right _ _)
  refine blk (s := { s with heap := h₁, toks := tk }) (D := S + 5) (adr := [S + 5 + 1, S + 5 + 1 + 1, S + 5 + 1 + 2])
    (Fq := fun frm => ∃ oC o1 o2 u1 u2 m', frm = [(S + 5 + 1, oC), (S + 5 + 1 + 1, o1), (S + 5 + 1 + 2, o2)] ∧ LCg.NsObj oC m' ∧ o1.data = .cell u1 ∧ o2.data = .cell u2)
    (Hs := fun i v frm => ∃ x y oC o1 o2, xs[i]? = some x ∧ ys[i]? = some y ∧ frm = [(S + 5 + 1, oC), (S + 5 + 1 + 1, o1), (S + 5 + 1 + 2, o2)] ∧ o1.data = .cell (some x) ∧ o2.data = .cell (some y))
    (J := fun i ys' news => ∃ new, news = new ++ base ∧ (∀ p ∈ new, (∀ q ∈ base, q.1 ≠ p.1) ∧ p.1 ≠ S + 5) ∧ J i ys' new) (frm₀ := [(S + 5 + 1, oC), (S + 5 + 1 + 1, celO none), (S + 5 + 1 + 2, celO none)]) (news₀ := base) W (by simpa using hsz) ?_ ?_ ?_ (Nat.ne_of_gt hL5) (fr _ (Nat.le_add_right _ _)) ?_ ?_ ?_ ?_ ?_ ?_ ?_ ?_ hst₁ F₁ N₁ ⟨oC, _, _, none, none, _, rfl, hoC, rfl, rfl⟩ ⟨[], rfl, (fun _ h => nomatch h), hJ⟩ ?_ ?_
  · rintro i h ⟨hz, hTI, ⟨a, b, hTO⟩, ⟨o1, ho1, _⟩, ⟨o2, ho2, _⟩, _⟩ b' hb
    simp only [List.mem_cons, List.not_mem_nil, or_false] at hb
    rcases hb with rfl | rfl | rfl | rfl
    · exact ⟨_, hz⟩
    · exact ⟨_, hTO⟩
    · exact ⟨_, ho1⟩
    · exact ⟨_, ho2⟩
  · exact fun b hb => fr b (w4 b hb).1
  · exact fun hb => (f7 L hb).2 rfl
  · exact fun hb => Nat.lt_irrefl _ (f7 _ hb).1
  · exact fun b hb => fr b (hS5 b (hadr b hb))
  · exact fun hb => Nat.lt_irrefl _ (Nat.lt_trans hL5 (hadr L hb))
  · exact fun hb => Nat.lt_irrefl _ (hadr _ hb)
  · exact fun b hb hf => Nat.lt_irrefl _ (Nat.lt_trans (f7 b hf).1 (hadr b hb))
  · rintro frm ⟨oC', o1, o2, u1, u2, m', rfl, _⟩
    rfl
  · rintro i v ys' news frm s' Q E' hi ⟨T, vals, rfl, ⟨x, y, hx, hy, rfl⟩, hTt⟩ ⟨oC', o1, o2, u1, u2, m', rfl, hoC', d1, d2⟩ _ N'' hQ
    have hx' : xs[i]? = some x := by simpa using hx
    have hy' : ys[i]? = some y := by simpa using hy
    have g1 := (N'' (S + 5 + 1 + 1, o1) (by simp)).1
    have g2 := (N'' (S + 5 + 1 + 2, o2) (by simp)).1
    have gC := (N'' (S + 5 + 1, oC') (by simp)).1
    refine assign_cells (env := compEnvC scope ((b, S + 5 + 1 + 2) :: (a, S + 5 + 1 + 1) :: cl) (S + 5 + 1) env) (c1 := S + 5 + 1 + 1) (c2 := S + 5 + 1 + 2) hh hTt hkind (hka _ _) (hkb _ _) ?_ ?_ ⟨o1, g1, d1⟩ ⟨o2, g2, d2⟩ (Nat.ne_of_lt (Nat.lt_succ_self _)) fun h' ⟨p1, q1, r1⟩ ⟨p2, q2, r2⟩ hk' => ?_
    · show List.lookup a ((b, S + 5 + 1 + 2) :: (a, S + 5 + 1 + 1) :: cl) = _
      simp only [List.lookup_cons, hab, beq_self_eq_true]
    · show List.lookup b ((b, S + 5 + 1 + 2) :: (a, S + 5 + 1 + 1) :: cl) = _
      simp only [List.lookup_cons, beq_self_eq_true]
    · refine hQ h' s'.toks [(S + 5 + 1, oC'), (S + 5 + 1 + 1, p1), (S + 5 + 1 + 2, p2)] ⟨oC', p1, p2, _, _, m', rfl, hoC', r1, r2⟩ ⟨x, y, oC', p1, p2, hx', hy', rfl, r1, r2⟩ ?_ fun b o hb e => hk' b o (fun q => hb (by simp [q])) (fun q => hb (by simp [q])) e
      intro p hp
      simp only [List.mem_cons, List.not_mem_nil, or_false] at hp
      rcases hp with rfl | rfl | rfl
      · exact hk' _ _ (Nat.ne_of_lt (Nat.lt_succ_self _)) (Nat.ne_of_lt (Nat.lt_succ_of_lt (Nat.lt_succ_self _))) gC
      · exact q1
      · exact q2
  · rintro i v ys' news frm own h tk' E' hi ⟨new, rfl, hab', hJi⟩ ⟨x, y, oC', o1, o2, hx, hy, rfl, d1, d2⟩ F'' N''
    refine wpAny_tests_nil ?_
    simp only [if_true]
    refine wpAny_mono (step i x y ys' new own _ _ _ _ oC' o1 o2 h tk' E' hx hy hJi d1 d2 F'' N'') (fun x' s₄ q => ?_) fun _ _ e => e
    obtain ⟨h', tk, nw, e, F', N', ab, hj⟩ := q
    refine ⟨h', tk, nw, e, F', N', ab, nw ++ new, by rw [List.append_assoc], fun p hp => ?_, hj⟩
    rcases List.mem_append.mp hp with hp | hp
    · have := ab p hp
      refine ⟨fun q hq => this q ?_, Ne.symm (this (S + 5, LCg.lst ys') (by simp))⟩
      simp only [List.mem_append, List.mem_cons]
      exact .inr (.inr (.inr (.inr (.inr (.inr hq)))))
    · exact hab' p hp
  · intro p hp
    have := hlb p hp
    refine ⟨fun hb => Nat.lt_irrefl _ (Nat.lt_of_lt_of_le this (w4 _ hb).1), Nat.ne_of_lt (Nat.lt_of_lt_of_le this (Nat.le_add_right _ _)), fun hb => Nat.lt_irrefl _ (Nat.lt_of_lt_of_le this (hS5 _ (hadr _ hb)))⟩
  · rintro h tk' ys' news frm F'' N'' ⟨oC', o1, o2, u1, u2, m', rfl, hoC', _, _⟩ ⟨new, rfl, hab', hJn⟩ off
    refine hRR ys' new (S + 5) (S + 5 + 1) h tk' m' (by simpa using hJn) (allLt_iff.mpr fun p hp => Nat.lt_of_lt_of_le (hlb p hp) (Nat.le_add_right _ _)) (fun p hp => (hab' p hp).1) (fun p hp => (hab' p hp).2) F'' (con_drop N'' fun p hp => ?_) ?_ (hoC'.ns (N'' (S + 5 + 1, oC') (by simp)).1) (fr _ (hS5 _ (Nat.lt_succ_self _))) (Nat.ne_of_gt (Nat.lt_succ_of_lt hL5))
    · rcases List.mem_cons.mp hp with h | h
      · rw [h]; exact List.mem_cons_self
      · exact List.mem_cons_of_mem _ (List.mem_append_right _ h)
    · intro p hp
      rcases List.mem_cons.mp hp with h | h
      · rw [h]; exact Nat.ne_of_lt (Nat.lt_succ_self _)
      · exact fun e => (off p h).2.2 (by simp [e])
end
end Fl
namespace Fl
/-- one step of the true curve's reckoning, in whole numbers -/
abbrev bl (mn bf : Int) (p q : Pt) : Pt := (p.1 * (mn - bf) + q.1 * bf, p.2 * (mn - bf) + q.2 * bf)
def blends (mn bf : Int) : List Pt → List Pt
  | p :: q :: r => bl mn bf p q :: blends mn bf (q :: r)
  | _ => []
def LsIn (led : Led) (v : Value) (q : Pt) : Prop := ∃ a t u, v = .ref a ∧ (a, LCg.lst [.int q.1 t, .int q.2 u]) ∈ led
theorem LsIn.mono {l l' : Led} {v : Value} {q : Pt} (h : LsIn l v q) (s : ∀ x ∈ l, x ∈ l') : LsIn l' v q := let ⟨a, t, u, e, m⟩ := h; ⟨a, t, u, e, s _ m⟩
def plJ (mn bf : Int) (qs : List Pt) (i : Nat) (ys : List Value) (new : Led) : Prop := All2 (LsIn new) ys ((blends mn bf qs).take i)
theorem blends_get {mn bf : Int} : ∀ {qs : List Pt} {i : Nat} {p q : Pt}, qs[i]? = some p → qs[i + 1]? = some q → (blends mn bf qs)[i]? = some (bl mn bf p q)
  | [], _, _, _, h, _ => by simp at h
  | [_], i, _, _, _, h => by simp at h
  | a :: b :: r, 0, p, q, h, k => by
    have e1 : a = p := by simpa using h
    have e2 : b = q := by simpa using k
    subst e1 e2
    rfl
  | a :: b :: r, i + 1, p, q, h, k => by
    have := blends_get (mn := mn) (bf := bf) (qs := b :: r) (i := i) (p := p) (q := q) (by simpa using h) (by simpa using k)
    simpa [blends] using this
theorem plJ_step {mn bf : Int} {qs : List Pt} {i : Nat} {ys : List Value} {new : Led} {p q : Pt} {D : Addr} {t u : Tok} (h : plJ mn bf qs i ys new) (hp : qs[i]? = some p) (hq : qs[i + 1]? = some q) :
    plJ mn bf qs (i + 1) (ys ++ [.ref D]) ([(D, LCg.lst [.int (bl mn bf p q).1 t, .int (bl mn bf p q).2 u])] ++ new) := by
  unfold plJ at *
  rw [List.take_add_one, blends_get hp hq]
  exact All2.append (All2.mono (fun _ _ k => k.mono fun x hx => List.mem_append_right _ hx) h) ⟨⟨D, t, u, rfl, List.mem_cons_self⟩, trivial⟩
theorem blends_len (mn bf : Int) : ∀ qs : List Pt, (blends mn bf qs).length = qs.length - 1
  | [] => rfl
  | [_] => rfl
  | a :: b :: r => by
    show (blends mn bf (b :: r)).length + 1 = _
    rw [blends_len mn bf (b :: r)]
    rfl
theorem plJ_fin {mn bf : Int} {qs : List Pt} {k : Nat} {ys : List Value} {new : Led} (h : plJ mn bf qs k ys new) (hk : qs.length - 1 ≤ k) : All2 (LsIn new) ys (blends mn bf qs) := by
  unfold plJ at h
  rw [List.take_of_length_le (by rw [blends_len]; exact hk)] at h
  exact h
theorem tail_get {α : Type} {xs : List α} {i : Nat} : xs.tail[i]? = xs[i + 1]? := by cases xs <;> simp
/-- the place at bf of mn: the rows of blends down to one -/
def place (mn bf : Int) : Nat → List Pt → Pt
  | 0, qs => qs.headD (0, 0)
  | k + 1, qs => place mn bf k (blends mn bf qs)
def PlaceRet (news : Led) (q : Pt) (news' : Led) (r : Value) : Prop := ∃ a t u, r = .ref a ∧ news' = (a, LCg.lst [.int q.1 t, .int q.2 u]) :: news ∧ ∀ p ∈ news, p.1 ≠ a
end Fl
namespace Fl
section
variable {prog : Program} {w : World} {A : Around} {E : Value → Shared → Prop} {s : Shared}
theorem loadIfAlive_at {a : Addr} {Q : Option Obj → Shared → Prop} (h : Q (s.heap.get? a) s) : wpAny (model prog w) A (loadIfAlive a) Q E s := fun Γ p _ => by
  show Sem.wp _ Γ (.loadIfAlive a .pure) _ _ p s
  rw [Sem.wp_loadIfAlive]
  exact h
abbrev zipO (f0 : Value) (b : Bool) (TI TO : Addr) : Obj := { cls := .type "zip", dict := none, data := .fields #[f0, .bool b, .bool false, .ref TI, .ref TO], slots := #[] }
theorem zip_kept {z TI TO T : Addr} {b : Bool} {o : Obj} {Q : Bool → Shared → Prop} (hz : s.heap.get? z = some (zipO (rawInt T) b TI TO)) (hT : s.heap.get? T = some o)
    (hQ : ∀ h', h'.get? z = some (zipO (rawInt T) true TI TO) → Heap.SameBut z s.heap h' → Q false { s with heap := h' }) :
    wpAny (model prog w) A (Builtin.SmallTypes.ownedTupleIsFree (.ref z)) Q E s := by
  unfold Builtin.SmallTypes.ownedTupleIsFree
  refine wpAny_bind (wpAny_field hz rfl (x := rawInt T) rfl ?_)
  show wpAny _ _ (loadIfAlive (T : Int).toNat >>= _) _ _ _
  refine wpAny_bind (loadIfAlive_at ?_)
  rw [show ((T : Nat) : Int).toNat = T from Int.toNat_natCast T]
  rw [hT]
  show wpAny _ _ (field (.ref z) 1 >>= _) _ _ _
  refine wpAny_bind (wpAny_field hz rfl (x := .bool b) rfl ?_)
  cases b with
  | true =>
    refine wpAny_ite_split (fun h => absurd h (by decide)) fun _ => ?_
    exact wpAny_pure (hQ s.heap hz (Heap.SameBut.refl ..))
  | false =>
    refine wpAny_ite_split (fun _ => ?_) fun h => absurd (by decide) h
    refine wpAny_bind (wpAny_setField_rec hz (by simp) fun h₁ hz₁ hs₁ => ?_)
    exact wpAny_pure (hQ h₁ hz₁ hs₁)
theorem zip_item2 {z TI TO i1 i2 l1 l2 T : Addr} {b : Bool} {k1 k2 : Nat} {xs ys : Array Value} {x y : Value} {o : Obj} {Q : Value → Shared → Prop} (D : ZipApart z TI TO i1 i2 l1 l2)
    (hz : s.heap.get? z = some (zipO (rawInt T) b TI TO)) (hT : s.heap.get? T = some o) (hTI : IsPair s.heap TI (.ref i1) (.ref i2))
    (h1 : s.heap.IsListIter i1 l1 k1) (h2 : s.heap.IsListIter i2 l2 k2) (hl1 : s.heap.IsList l1 xs) (hl2 : s.heap.IsList l2 ys) (hx : xs[k1]? = some x) (hy : ys[k2]? = some y)
    (hQ : ∀ h', h'.get? z = some (zipO (rawInt T) true TI TO) → h'.IsListIter i1 l1 (k1 + 1) → h'.IsListIter i2 l2 (k2 + 1) → IsPair h' s.heap.objs.size x y →
      (∀ c o, c ≠ z → c ≠ i1 → c ≠ i2 → s.heap.get? c = some o → h'.get? c = some o) → Q (.ref s.heap.objs.size) { s with heap := h' }) :
    wpAny (model prog w) A (Builtin.«zip.__next__» ⟨[.ref z], []⟩) (fun fin s' => ∃ v, fin = .done (.ret v) ∧ Q v s') E s := by
  show wpAny _ _ (field (.ref z) 2 >>= _) _ _ _
  refine wpAny_bind (wpAny_field hz rfl (x := .bool false) rfl ?_)
  show wpAny _ _ (field (.ref z) 3 >>= _) _ _ _
  refine wpAny_bind (wpAny_field hz rfl (x := .ref TI) rfl ?_)
  refine wpAny_bind (wpAny_seqItems hTI rfl ?_)
  show wpAny _ _ (Builtin.SmallTypes.ownedTupleIsFree (.ref z) >>= _) _ _ _
  refine wpAny_bind (zip_kept hz hT fun h₁ hz₁ hs₁ => ?_)
  refine wpAny_ite_split (fun h => absurd h (by decide)) fun _ => ?_
  simp only [List.forIn_toArray, List.forIn_cons, List.forIn_nil]
  refine wpAny_bind (wpAny_bind (wpAny_bind (wpAny_holding ?_)))
  show wpAny _ _ (Builtin.SmallTypes.nextOf (.ref i1) >>= _) _ _ _
  refine wpAny_bind (wpAny_nextOf_list_item (h1.extBut hs₁.extBut D.i1z) (hl1.extBut hs₁.extBut D.l1z) hx fun h₂ h1₂ hs₂ => wpAny_pure ?_)
  refine wpAny_pure ?_
  refine wpAny_bind (wpAny_bind (wpAny_holding ?_))
  show wpAny _ _ (Builtin.SmallTypes.nextOf (.ref i2) >>= _) _ _ _
  refine wpAny_bind (wpAny_nextOf_list_item ((h2.extBut hs₁.extBut D.i2z).extBut hs₂.extBut D.i12.symm) ((hl2.extBut hs₁.extBut D.l2z).extBut hs₂.extBut D.l2i1) hy fun h₃ h2₃ hs₃ => wpAny_pure ?_)
  refine wpAny_pure (wpAny_pure ?_)
  refine wpAny_bind (wpAny_newTuple (hsz := by rw [sizeLine_eq]; exact Nat.le_of_ble_eq_true rfl) ?_)
  have hsz : h₃.objs.size = s.heap.objs.size := by rw [hs₃.1, hs₂.1, hs₁.1]
  have k3 : ∀ c o, c ≠ z → c ≠ i1 → c ≠ i2 → s.heap.get? c = some o → h₃.get? c = some o := fun c o c1 c2 c3 e => hs₃.extBut _ _ c3 (hs₂.extBut _ _ c2 (hs₁.extBut _ _ c1 e))
  refine wpAny_pure ⟨_, rfl, ?_⟩
  show Q (.ref h₃.objs.size) _
  have hp := Heap.get?_push_size h₃ (o := { cls := .type "tuple", data := .seq #[x, y] }) rfl
  rw [hsz] at hp ⊢
  exact hQ _ (Heap.get?_push_of_some _ (hs₃.extBut _ _ D.i2z.symm (hs₂.extBut _ _ D.i1z.symm hz₁))) ((h1₂.extBut hs₃.extBut D.i12).at fun o e => Heap.get?_push_of_some _ e) (h2₃.at fun o e => Heap.get?_push_of_some _ e) hp
    fun c o c1 c2 c3 e => Heap.get?_push_of_some _ (k3 c o c1 c2 c3 e)
theorem zip_end2 {z TI TO i1 i2 l1 l2 T : Addr} {b : Bool} {k1 k2 : Nat} {xs ys : Array Value} {o : Obj} {Q : Fin → Shared → Prop} (hh : A.handled = none) (D : ZipApart z TI TO i1 i2 l1 l2)
    (hz : s.heap.get? z = some (zipO (rawInt T) b TI TO)) (hT : s.heap.get? T = some o) (hTI : IsPair s.heap TI (.ref i1) (.ref i2))
    (h1 : s.heap.IsListIter i1 l1 k1) (hl1 : s.heap.IsList l1 xs) (h2 : s.heap.IsListIter i2 l2 k2) (hl2 : s.heap.IsList l2 ys) (hend : xs[k1]? = none ∨ ys[k2]? = none)
    (hE : ∀ h' e, (∀ c o, c ≠ z → c ≠ i1 → c ≠ i2 → s.heap.get? c = some o → h'.get? c = some o) → (∃ o, h'.get? e = some o ∧ o.cls = .type "StopIteration") → E (.ref e) { s with heap := h' }) :
    wpAny (model prog w) A (Builtin.«zip.__next__» ⟨[.ref z], []⟩) Q E s := by
  show wpAny _ _ (field (.ref z) 2 >>= _) _ _ _
  refine wpAny_bind (wpAny_field hz rfl (x := .bool false) rfl ?_)
  show wpAny _ _ (field (.ref z) 3 >>= _) _ _ _
  refine wpAny_bind (wpAny_field hz rfl (x := .ref TI) rfl ?_)
  refine wpAny_bind (wpAny_seqItems hTI rfl ?_)
  show wpAny _ _ (Builtin.SmallTypes.ownedTupleIsFree (.ref z) >>= _) _ _ _
  refine wpAny_bind (zip_kept hz hT fun h₁ hz₁ hs₁ => ?_)
  refine wpAny_ite_split (fun h => absurd h (by decide)) fun _ => ?_
  simp only [List.forIn_toArray, List.forIn_cons, List.forIn_nil]
  refine wpAny_bind (wpAny_bind (wpAny_bind (wpAny_holding ?_)))
  show wpAny _ _ (Builtin.SmallTypes.nextOf (.ref i1) >>= _) _ _ _
  cases hx : xs[k1]? with
  | none =>
    exact wpAny_bind (wpAny_nextOf_list_end hh (h1.extBut hs₁.extBut D.i1z) (hl1.extBut hs₁.extBut D.l1z) hx fun h₂ e hs₂ he => hE h₂ e (fun c o c1 c2 _ x => hs₂ _ _ c2 (hs₁.extBut _ _ c1 x)) he)
  | some x =>
    have hy : ys[k2]? = none := by rcases hend with h | h; rw [hx] at h; cases h; exact h
    refine wpAny_bind (wpAny_nextOf_list_item (h1.extBut hs₁.extBut D.i1z) (hl1.extBut hs₁.extBut D.l1z) hx fun h₂ h1₂ hs₂ => wpAny_pure ?_)
    refine wpAny_pure ?_
    refine wpAny_bind (wpAny_bind (wpAny_holding ?_))
    show wpAny _ _ (Builtin.SmallTypes.nextOf (.ref i2) >>= _) _ _ _
    exact wpAny_bind (wpAny_nextOf_list_end hh ((h2.extBut hs₁.extBut D.i2z).extBut hs₂.extBut D.i12.symm) ((hl2.extBut hs₁.extBut D.l2z).extBut hs₂.extBut D.l2i1) hy fun h₃ e hs₃ he => hE h₃ e (fun c o c1 c2 c3 x => hs₃ _ _ c3 (hs₂.extBut _ _ c2 (hs₁.extBut _ _ c1 x))) he)
theorem next_item2 {z TI TO i1 i2 l1 l2 T : Addr} {b : Bool} {k1 k2 : Nat} {xs ys : Array Value} {x y : Value} {o : Obj} {Q : Option Value → Shared → Prop} (D : ZipApart z TI TO i1 i2 l1 l2)
    (hz : s.heap.get? z = some (zipO (rawInt T) b TI TO)) (hT : s.heap.get? T = some o) (hTI : IsPair s.heap TI (.ref i1) (.ref i2))
    (h1 : s.heap.IsListIter i1 l1 k1) (h2 : s.heap.IsListIter i2 l2 k2) (hl1 : s.heap.IsList l1 xs) (hl2 : s.heap.IsList l2 ys) (hx : xs[k1]? = some x) (hy : ys[k2]? = some y)
    (hQ : ∀ h', h'.get? z = some (zipO (rawInt T) true TI TO) → h'.IsListIter i1 l1 (k1 + 1) → h'.IsListIter i2 l2 (k2 + 1) → IsPair h' s.heap.objs.size x y →
      (∀ c o, c ≠ z → c ≠ i1 → c ≠ i2 → s.heap.get? c = some o → h'.get? c = some o) → Q (some (.ref s.heap.objs.size)) { s with heap := h' }) :
    wpAny (model prog w) A (pyNext (.ref z)) Q E s := by
  have hTy : s.TypeIs (.ref z) "zip" := ⟨_, hz, rfl⟩
  unfold pyNext
  exact wpAny_bind (wpAny_attempt (wpAny_callSpecial?_slot (name := Str.ofString "__next__") hTy F.slot_zip_next
    (wpAny_call_entry F.slot_zip_next hTy F.entry_zip_next
      (zip_item2 D hz hT hTI h1 h2 hl1 hl2 hx hy fun h' a1 a2 a3 a4 a5 => wpAny_pure (hQ h' a1 a2 a3 a4 a5)) (F.args_zip_next_1 _))))
theorem next_end2 {z TI TO i1 i2 l1 l2 T : Addr} {b : Bool} {k1 k2 : Nat} {xs ys : Array Value} {o : Obj} {Q : Option Value → Shared → Prop} (hh : A.handled = none) (D : ZipApart z TI TO i1 i2 l1 l2)
    (hz : s.heap.get? z = some (zipO (rawInt T) b TI TO)) (hT : s.heap.get? T = some o) (hTI : IsPair s.heap TI (.ref i1) (.ref i2))
    (h1 : s.heap.IsListIter i1 l1 k1) (h2 : s.heap.IsListIter i2 l2 k2) (hl1 : s.heap.IsList l1 xs) (hl2 : s.heap.IsList l2 ys) (hend : xs[k1]? = none ∨ ys[k2]? = none)
    (hQ : ∀ h', (∀ c o, c ≠ z → c ≠ i1 → c ≠ i2 → s.heap.get? c = some o → h'.get? c = some o) → Q none { s with heap := h' }) : wpAny (model prog w) A (pyNext (.ref z)) Q E s := by
  have hTy : s.TypeIs (.ref z) "zip" := ⟨_, hz, rfl⟩
  unfold pyNext
  refine wpAny_bind (wpAny_attempt (wpAny_callSpecial?_slot (name := Str.ofString "__next__") hTy F.slot_zip_next
    (wpAny_call_entry F.slot_zip_next hTy F.entry_zip_next (zip_end2 hh D hz hT hTI h1 hl1 h2 hl2 hend fun h' e hk he => ?_) (F.args_zip_next_1 _))))
  obtain ⟨o, ho, hc⟩ := he
  refine wpAny_bind (wpAny_isInstance (T := "StopIteration") (b := true) ⟨o, ho, hc⟩ isSubtype_stop ?_)
  exact wpAny_pure (hQ _ hk)
/-- one tuple that list(zip(..)) has gathered -/
def Gat (z i1 i2 S : Addr) (h : Heap) (v : Value) (p : Value × Value) : Prop := ∃ T : Addr, v = .ref T ∧ IsPair h T p.1 p.2 ∧ T ≠ z ∧ T ≠ i1 ∧ T ≠ i2 ∧ @LT.lt Nat _ S T
theorem Gat.keep {z i1 i2 S : Addr} {h h' : Heap} {v : Value} {p : Value × Value} (g : Gat z i1 i2 S h v p) (k : ∀ c o, c ≠ z → c ≠ i1 → c ≠ i2 → c ≠ S → h.get? c = some o → h'.get? c = some o) : Gat z i1 i2 S h' v p :=
  let ⟨T, e, t, a, b, c, d⟩ := g; ⟨T, e, k _ _ a b c (Nat.ne_of_gt d) t, a, b, c, d⟩
theorem gather {R : Result → Shared → Prop} {z TI TO i1 i2 l1 l2 S : Addr} {xs ys : List Value} {prs : List (Value × Value)} {res : Value} (hh : A.in1.handled = none) (D : ZipApart z TI TO i1 i2 l1 l2) (hp : prs = List.zip xs ys) (hn : prs.length ≤ sizeLine)
    (Sz : S ≠ z) (S1 : S ≠ i1) (S2 : S ≠ i2) (ST : S ≠ TI) (Sl1 : S ≠ l1) (Sl2 : S ≠ l2) :
    ∀ (k i : Nat) (h : Heap) (tk : Nat) (acc : List Value) (c : Nat) (T : Addr) (b : Bool), prs.length - i = k → i ≤ prs.length → h.get? z = some (zipO (rawInt T) b TI TO) → (∃ o, h.get? T = some o ∧ T ≠ z ∧ T ≠ i1 ∧ T ≠ i2 ∧ T ≠ S) → IsPair h TI (.ref i1) (.ref i2) →
      h.IsListIter i1 l1 i → h.IsListIter i2 l2 i → h.IsList l1 xs.toArray → h.IsList l2 ys.toArray → h.get? S = some { cls := .type "list", dict := none, data := .seq acc.toArray c, slots := #[] } → All2 (Gat z i1 i2 S h) acc (prs.take i) →
      (∀ h' tk' acc' c', (∀ c o, c ≠ z → c ≠ i1 → c ≠ i2 → c ≠ S → h.get? c = some o → h'.get? c = some o) → h'.get? S = some { cls := .type "list", dict := none, data := .seq (List.toArray acc') c', slots := #[] } → All2 (Gat z i1 i2 S h') acc' prs → R (.ok (.ret res)) { s with heap := h', toks := tk' }) →
      codeAny (model prog w) A (.builtin "list.extend.loop" ⟨[.ref S, .ref z, res], []⟩) R { s with heap := h, toks := tk } := by
  have len : prs.length = min xs.length ys.length := by rw [hp, List.length_zip]
  intro k
  induction k with
  | zero =>
    intro i h tk acc c T b hk hi hz ⟨oT, hT, t1, t2, t3, t4⟩ hTI h1 h2 hl1 hl2 hS hacc hR
    have hin : i = prs.length := by omega
    refine codeAny_builtin F.entry_extend_loop ?_
    rw [Around.under_plainId F.plain_extend_loop _]
    show wpAny _ A.in1 (pyNext (.ref z) >>= _) _ _ _
    refine wpAny_bind (next_end2 hh D hz hT hTI h1 h2 hl1 hl2 ?_ fun h' hk' => ?_)
    · rcases Nat.le_total xs.length ys.length with q | q
      · exact .inl (by simp; omega)
      · exact .inr (by simp; omega)
    · refine wpAny_pure (hR h' tk acc c (fun c o c1 c2 c3 _ e => hk' c o c1 c2 c3 e) (hk' _ _ Sz S1 S2 hS) ?_)
      rw [hin, List.take_length] at hacc
      exact All2.mono (fun _ _ g => g.keep fun c o c1 c2 c3 _ e => hk' c o c1 c2 c3 e) hacc
  | succ k ih =>
    intro i h tk acc c T b hk hi hz ⟨oT, hT, t1, t2, t3, t4⟩ hTI h1 h2 hl1 hl2 hS hacc hR
    have hlt : i < prs.length := by omega
    have hix : i < xs.length := by omega
    have hiy : i < ys.length := by omega
    refine codeAny_builtin F.entry_extend_loop ?_
    rw [Around.under_plainId F.plain_extend_loop _]
    show wpAny _ A.in1 (pyNext (.ref z) >>= _) _ _ _
    refine wpAny_bind (next_item2 (x := xs[i]) (y := ys[i]) D hz hT hTI h1 h2 hl1 hl2 (by simp [hix]) (by simp [hiy]) fun h' hz' h1' h2' hN hk' => ?_)
    dsimp only at hN hk'
    have hS' := hk' _ _ Sz S1 S2 hS
    have lt : ∀ {c o}, h.get? c = some o → h.objs.size ≠ c := fun e => Nat.ne_of_gt (Heap.lt_size e)
    have la : acc.length = i := by rw [hacc.length, List.length_take]; omega
    show wpAny _ A.in1 (updateSeq S (·.push (.ref h.objs.size)) >>= _) _ _ _
    refine wpAny_bind ?_
    refine wpAny_updateSeq hS' rfl (wpAny_pure ⟨plainId_quiet F.plain_extend_loop _, ?_⟩) (by show acc.toArray.size ≤ _; rw [List.size_toArray]; omega) (by show (acc.toArray.push _).size ≤ sizeLine + 1; rw [Array.size_push, List.size_toArray]; omega)
    have up : ∀ c o, c ≠ S → h'.get? c = some o → (h'.update S (Obj.mapSeq (·.push (.ref h.objs.size)))).get? c = some o := fun c o hc e => (Heap.get?_update_other _ _ (fun q : S = c => hc q.symm)).trans e
    have up2 : ∀ c o, c ≠ z → c ≠ i1 → c ≠ i2 → c ≠ S → h.get? c = some o → (h'.update S (Obj.mapSeq (·.push (.ref h.objs.size)))).get? c = some o := fun c o c1 c2 c3 c4 e => up c o c4 (hk' c o c1 c2 c3 e)
    refine ih (i + 1) _ tk (acc ++ [.ref h.objs.size]) (c + 1) T true (by omega) hlt (up _ _ (Ne.symm Sz) hz') ⟨oT, up2 _ _ t1 t2 t3 t4 hT, t1, t2, t3, t4⟩ (up2 _ _ D.TIz D.TIi1 D.TIi2 (Ne.symm ST) hTI) (h1'.at fun o e => up _ o (Ne.symm S1) e) (h2'.at fun o e => up _ o (Ne.symm S2) e)
      (hl1.at fun o e => up2 _ o D.l1z D.l1i1 D.l1i2 (Ne.symm Sl1) e) (hl2.at fun o e => up2 _ o D.l2z D.l2i1 D.l2i2 (Ne.symm Sl2) e) ?_ ?_ fun h'' tk' acc' c' hk'' hS'' hacc' => hR h'' tk' acc' c' (fun c o c1 c2 c3 c4 e => hk'' c o c1 c2 c3 c4 (up2 c o c1 c2 c3 c4 e)) hS'' hacc'
    · rw [Heap.get?_update_self _ hS' rfl]
      simp [Obj.mapSeq]
    · rw [List.take_add_one]
      have e : prs[i]? = some (xs[i], ys[i]) := by rw [hp, List.getElem?_zip_eq_some]; simp [hix, hiy]
      rw [e]
      refine All2.append (All2.mono (fun _ _ g => g.keep up2) hacc) ⟨⟨h.objs.size, rfl, up _ _ (lt hS) hN, lt hz, ?_, ?_, Heap.lt_size hS⟩, trivial⟩
      · obtain ⟨o, e, _⟩ := h1; exact lt e
      · obtain ⟨o, e, _⟩ := h2; exact lt e
theorem gat_led {z i1 i2 S : Addr} {h : Heap} : ∀ {acc : List Value} {prs : List (Value × Value)}, All2 (Gat z i1 i2 S h) acc prs → ∃ tl, All2 (PairIn tl) acc prs ∧ ∀ p ∈ tl, h.get? p.1 = some p.2 ∧ @LT.lt Nat _ S p.1
  | [], [], _ => ⟨[], trivial, fun _ h => nomatch h⟩
  | v :: r, p :: q, ⟨⟨T, e, t, _, _, _, d⟩, k⟩ => by
    obtain ⟨tl, a, b⟩ := gat_led k
    refine ⟨(T, { cls := .type "tuple", data := .seq #[p.1, p.2] }) :: tl, ⟨⟨T, _, e, List.mem_cons_self⟩, All2.mono (fun _ _ ⟨T, n, e, m⟩ => ⟨T, n, e, List.mem_cons_of_mem _ m⟩) a⟩, fun x hx => ?_⟩
    rcases List.mem_cons.mp hx with h | h
    · rw [h]; exact ⟨t, d⟩
    · exact b x h
  | [], _ :: _, h => h.elim
  | _ :: _, [], h => h.elim
structure ZipAt (h₀ : Heap) (L : Addr) (news : Led) (h : Heap) (z l1 l2 : Addr) (xs ys : List Value) (TI TO i1 i2 : Addr) : Prop where
  D : ZipApart z TI TO i1 i2 l1 l2
  hz : IsZip h z TI TO .none
  hTI : IsPair h TI (.ref i1) (.ref i2)
  hTO : IsPair h TO .none .none
  h1 : h.IsListIter i1 l1 0
  h2 : h.IsListIter i2 l2 0
  hl1 : h.IsList l1 xs.toArray
  hl2 : h.IsList l2 ys.toArray
  fresh : ∀ a, (a = z ∨ a = TI ∨ a = TO ∨ a = i1 ∨ a = i2) → h₀.get? a = none ∧ a ≠ L ∧ a ≠ l1 ∧ a ≠ l2 ∧ ∀ p ∈ news, p.1 ≠ a
theorem zip_call {h₀ : Heap} {L : Addr} {m : Str → Option Value} {news : Led} {l1 l2 : Addr} {xs ys : List Value} {n1 n2 : Nat} {Q : Value → Shared → Prop} (F : Fr h₀ L s.heap m) (N : News h₀ L s.heap news)
    (hm1 : (l1, ({ cls := .type "list", data := .seq xs.toArray n1 } : Obj)) ∈ news) (hm2 : (l2, ({ cls := .type "list", data := .seq ys.toArray n2 } : Obj)) ∈ news)
    (h : ∀ z TI TO i1 i2 h', Fr h₀ L h' m → News h₀ L h' news → ZipAt h₀ L news h' z l1 l2 xs ys TI TO i1 i2 → Q (.ref z) { s with heap := h' }) :
    wpAny (model prog w) A (call (.type "zip") [.ref l1, .ref l2]) Q E s := by
  have hl1 : s.heap.IsList l1 xs.toArray := N.isList hm1
  have hl2 : s.heap.IsList l2 ys.toArray := N.isList hm2
  have g1 : l1 < s.heap.objs.size := Heap.lt_size (N _ hm1).1
  have g2 : l2 < s.heap.objs.size := Heap.lt_size (N _ hm2).1
  refine call_zip_2 hl1 hl2 fun h' hz hTI hTO hi1 hi2 hsize hk => ?_
  have F' := F.keeps hk
  refine h _ _ _ _ _ h' F' (N.grown hk) ⟨ktu_apart _ _ _ g1 g2, hz, hTI, hTO, hi1, hi2, hl1.at fun o e => hk _ o e, hl2.at fun o e => hk _ o e, fun a ha => ?_⟩
  have hge : @LE.le Nat _ s.heap.objs.size a := by
    rcases ha with rfl | rfl | rfl | rfl | rfl <;> first | exact Nat.le_refl _ | exact Nat.le_add_right _ _
  exact ⟨fresh_of F a hge, Nat.ne_of_gt (Nat.lt_of_lt_of_le F.ns.lt hge), Nat.ne_of_gt (Nat.lt_of_lt_of_le g1 hge), Nat.ne_of_gt (Nat.lt_of_lt_of_le g2 hge), fun p hp => Nat.ne_of_lt (Nat.lt_of_lt_of_le (Heap.lt_size (N p hp).1) hge)⟩
theorem zip_no_len : typeLookup (.type "zip") "__len__" = pure none := by rw [typeLookup_type, builtinLookup_eq_fast]; kernel_rfl
theorem zip_no_hint : typeLookup (.type "zip") "__length_hint__" = pure none := by rw [typeLookup_type, builtinLookup_eq_fast]; kernel_rfl
theorem hint_zip {z : Addr} {Q : Bool → Shared → Prop} (hT : s.TypeIs (.ref z) "zip") (h : Q true s) : wpAny (model prog w) A (Builtin.List.listLengthHint (.ref z)) Q E s := by
  unfold Builtin.List.listLengthHint
  refine wpAny_bind (wpAny_specialOf hT zip_no_len ?_)
  show wpAny _ A (specialOf (Value.ref z) (Str.ofString "__length_hint__") >>= _) _ _ _
  refine wpAny_bind (wpAny_specialOf hT zip_no_hint ?_)
  exact wpAny_pure h
theorem list_zip {h₀ : Heap} {L : Addr} {m : Str → Option Value} {news : Led} {z l1 l2 TI TO i1 i2 : Addr} {xs ys : List Value} {Q : Value → Shared → Prop} (hh : A.handled = none) (F : Fr h₀ L s.heap m) (N : News h₀ L s.heap news)
    (Z : ZipAt h₀ L news s.heap z l1 l2 xs ys TI TO i1 i2) (hn : xs.length ≤ 1000) (hx : 0 < xs.length) (hy : 0 < ys.length)
    (h : ∀ S c acc tl h' tk, Fr h₀ L h' m → News h₀ L h' ((S, ({ cls := .type "list", data := .seq (List.toArray acc) c } : Obj)) :: (tl ++ news)) → All2 (PairIn tl) acc (List.zip xs ys) → (∀ p ∈ news, p.1 < S) → (∀ p ∈ tl, @LT.lt Nat _ S p.1) → Q (.ref S) { s with heap := h', toks := tk }) :
    wpAny (model prog w) A (call (.type "list") [.ref z]) Q E s := by
  obtain ⟨D, hz, hTI, hTO, h1, h2, hl1, hl2, fr⟩ := Z
  generalize hSz : s.heap.objs.size = S
  have lt : ∀ {c o}, s.heap.get? c = some o → @LT.lt Nat _ c S := fun e => hSz ▸ Heap.lt_size e
  have z1 := lt hz
  have z2 := lt hTI
  have z3 := lt hTO
  have z4 : @LT.lt Nat _ i1 S := by obtain ⟨_, e, _⟩ := h1; exact lt e
  have z5 : @LT.lt Nat _ i2 S := by obtain ⟨_, e, _⟩ := h2; exact lt e
  have z6 : @LT.lt Nat _ l1 S := by obtain ⟨_, e, _⟩ := hl1; exact lt e
  have z7 : @LT.lt Nat _ l2 S := by obtain ⟨_, e, _⟩ := hl2; exact lt e
  refine callType_codes (Q₁ := fun obj s₁ => obj = .ref s.heap.objs.size ∧ s₁ = { s with heap := s.heap.push { cls := .type "list", data := .seq #[] } }) PySem.F.called_list (PySem.F.typeCall_list_1 _) PySem.F.entry_list_init
    (code_list_new _ ⟨rfl, rfl⟩) fun obj s₁ h₁ => ?_
  obtain ⟨rfl, rfl⟩ := h₁
  have hS : (s.heap.push { cls := .type "list", data := .seq #[] }).get? s.heap.objs.size = some { cls := .type "list", data := .seq #[] } := Heap.get?_push_size _ rfl
  have up : ∀ c o, s.heap.get? c = some o → (s.heap.push { cls := .type "list", data := .seq #[] }).get? c = some o := fun c o e => Heap.get?_push_of_some _ e
  refine ⟨⟨_, hS, rfl⟩, PySem.F.args_list_init_2 _ _, ?_⟩
  rw [hSz] at hS ⊢
  generalize s.heap.push { cls := .type "list", data := .seq #[] } = H at hS up ⊢
  show wpAny _ _ (do let old ← Builtin.List.listItems (.ref S); Builtin.List.listUpdate (.ref S) (fun _ => #[]); letGo old.toList.reverse; Builtin.List.listExtendWith (.ref S) (.ref z) .none) _ _ _
  refine wpAny_bind ?_
  unfold Builtin.List.listItems
  refine wpAny_bind (wpAny_seqItems hS rfl (wpAny_pure ?_))
  show wpAny _ _ (updateSeq S (fun _ => #[]) >>= fun _ => letGo (#[] : Array Value).toList.reverse >>= fun _ => Builtin.List.listExtendWith (.ref S) (.ref z) .none) _ _ _
  refine wpAny_bind (wpAny_updateSeq hS rfl ?_)
  have hS₂ := Heap.get?_update_self (Obj.mapSeq (fun _ => (#[] : Array Value))) hS rfl
  have oth : ∀ b o, s.heap.get? b = some o → (H.update S (Obj.mapSeq (fun _ => (#[] : Array Value)))).get? b = some o :=
    fun b o e => (Heap.get?_update_other _ _ (Nat.ne_of_gt (lt e))).trans (up b o e)
  generalize H.update S (Obj.mapSeq (fun _ => (#[] : Array Value))) = H2 at hS₂ oth ⊢
  refine wpAny_bind (wpAny_letGo ?_)
  unfold Builtin.List.listExtendWith
  refine wpAny_bind (wpAny_typeOf (T := "zip") ⟨_, oth _ _ hz, rfl⟩ ?_)
  have e1 : Builtin.List.listSameRef (.ref S) (.ref z) = false := by
    have : S ≠ z := Nat.ne_of_gt z1
    simp [Builtin.List.listSameRef, this]
  have e2 : (Value.type "zip" == Value.type "list") = false := by decide
  have e3 : (Value.type "zip" == Value.type "tuple") = false := by decide
  simp only [e1, e2, e3, Bool.or_false, Bool.false_eq_true, if_false]
  refine wpAny_bind (wpAny_pyIter_zip (oth _ _ hz) ?_)
  refine wpAny_bind (wpAny_holding (hint_zip ⟨_, oth _ _ hz, rfl⟩ ?_))
  refine wpAny_ite_split (fun _ => ?_) fun h => absurd (by simp) h
  refine wpAny_bind (wpAny_rule ?_)
  refine wpAny_bind ?_
  show wpAny _ _ (updateSeq S (·.push .none) >>= fun _ => updateSeq S (·.pop)) _ _ _
  refine wpAny_bind (wpAny_updateSeq hS₂ rfl ?_)
  have hS₃ := Heap.get?_update_self (Obj.mapSeq (·.push Value.none)) hS₂ rfl
  refine wpAny_updateSeq (hz := by seq_fits) hS₃ rfl ?_
  have hS₄ := Heap.get?_update_self (Obj.mapSeq (·.pop)) hS₃ rfl
  replace oth : ∀ b o, s.heap.get? b = some o → ((H2.update S (Obj.mapSeq (·.push Value.none))).update S (Obj.mapSeq (·.pop))).get? b = some o :=
    fun b o e => (Heap.get?_update_other _ _ (Nat.ne_of_gt (lt e))).trans ((Heap.get?_update_other _ _ (Nat.ne_of_gt (lt e))).trans (oth b o e))
  generalize (H2.update S (Obj.mapSeq (·.push Value.none))).update S (Obj.mapSeq (·.pop)) = H4 at hS₄ oth ⊢
  clear hS₂ hS₃
  refine wpAny_pure ⟨plainId_quiet PySem.F.plain_extend_loop _, ?_⟩
  -- the first turn
  refine codeAny_builtin PySem.F.entry_extend_loop ?_
  rw [Around.under_plainId PySem.F.plain_extend_loop _]
  show wpAny _ _ (pyNext (.ref z) >>= _) _ _ _
  have hx' : xs.toArray[0]? = some xs[0] := by simp [hx]
  have hy' : ys.toArray[0]? = some ys[0] := by simp [hy]
  refine wpAny_bind (wpAny_pyNext_zip_item D (oth _ _ hz) (oth _ _ hTI) (oth _ _ hTO) (h1.at fun o e => oth _ o e) (h2.at fun o e => oth _ o e) (hl1.at fun o e => oth _ o e) (hl2.at fun o e => oth _ o e) hx' hy' fun h' hz' hTO' h1' h2' hN hsize' hk' => ?_)
  dsimp only at hz' hN hk' hsize'
  have T0 : @LT.lt Nat _ S H4.objs.size := Heap.lt_size hS₄
  generalize H4.objs.size = T at *
  have hS' := hk' _ _ (Nat.ne_of_gt z1) (Nat.ne_of_gt z3) (Nat.ne_of_gt z4) (Nat.ne_of_gt z5) hS₄
  show wpAny _ _ (updateSeq S (·.push (.ref T)) >>= _) _ _ _
  refine wpAny_bind ?_
  refine wpAny_updateSeq hS' rfl (wpAny_pure ⟨plainId_quiet PySem.F.plain_extend_loop _, ?_⟩) (by rw [sizeLine_eq]; exact Nat.le_of_ble_eq_true rfl) (by rw [sizeLine_eq]; exact Nat.le_of_ble_eq_true rfl)
  have up3 : ∀ c o, c ≠ S → h'.get? c = some o → (h'.update S (Obj.mapSeq (·.push (.ref T)))).get? c = some o := fun c o hc e => (Heap.get?_update_other _ _ (fun q : S = c => hc q.symm)).trans e
  have up4 : ∀ c o, c ≠ z → c ≠ TO → c ≠ i1 → c ≠ i2 → s.heap.get? c = some o → (h'.update S (Obj.mapSeq (·.push (.ref T)))).get? c = some o := fun c o c1 c2 c3 c4 e => up3 c o (Nat.ne_of_lt (lt e)) (hk' c o c1 c2 c3 c4 (oth c o e))
  have Tz : @Ne Nat T z := Nat.ne_of_gt (Nat.lt_trans z1 T0)
  have T1 : @Ne Nat T i1 := Nat.ne_of_gt (Nat.lt_trans z4 T0)
  have T2 : @Ne Nat T i2 := Nat.ne_of_gt (Nat.lt_trans z5 T0)
  refine gather (prs := List.zip xs ys) (by exact hh) D rfl (by rw [List.length_zip, sizeLine_eq]; omega) (Nat.ne_of_gt z1) (Nat.ne_of_gt z4) (Nat.ne_of_gt z5) (Nat.ne_of_gt z2) (Nat.ne_of_gt z6) (Nat.ne_of_gt z7) _ 1 _ _ [.ref T] 3 T false rfl (by rw [List.length_zip]; omega)
    (up3 _ _ (Nat.ne_of_lt z1) hz') ⟨_, up3 _ _ (Nat.ne_of_gt T0) hN, Tz, T1, T2, Nat.ne_of_gt T0⟩ (up4 _ _ D.TIz D.TITO D.TIi1 D.TIi2 hTI) (h1'.at fun o e => up3 _ o (Nat.ne_of_lt z4) e) (h2'.at fun o e => up3 _ o (Nat.ne_of_lt z5) e)
    (hl1.at fun o e => up4 _ o D.l1z D.l1TO D.l1i1 D.l1i2 e) (hl2.at fun o e => up4 _ o D.l2z D.l2TO D.l2i1 D.l2i2 e) ?_ ?_ ?_
  · have e := Heap.get?_update_self (Obj.mapSeq (·.push (Value.ref T))) hS' rfl
    exact e
  · obtain ⟨x0, xr, rfl⟩ : ∃ a r, xs = a :: r := by cases xs with | nil => simp at hx | cons a r => exact ⟨a, r, rfl⟩
    obtain ⟨y0, yr, rfl⟩ : ∃ a r, ys = a :: r := by cases ys with | nil => simp at hy | cons a r => exact ⟨a, r, rfl⟩
    exact ⟨⟨T, rfl, up3 _ _ (Nat.ne_of_gt T0) hN, Tz, T1, T2, T0⟩, trivial⟩
  · intro h'' tk' acc' c' hk'' hS'' hacc'
    obtain ⟨tl, ha, ht⟩ := gat_led hacc'
    have k5 : ∀ c o, c ≠ z → c ≠ TO → c ≠ i1 → c ≠ i2 → s.heap.get? c = some o → h''.get? c = some o := fun c o c1 c2 c3 c4 e => hk'' c o c1 c3 c4 (Nat.ne_of_lt (lt e)) (up4 c o c1 c2 c3 c4 e)
    have fz := fr z (.inl rfl)
    have fTO := fr TO (.inr (.inr (.inl rfl)))
    have f1 := fr i1 (.inr (.inr (.inr (.inl rfl))))
    have f2 := fr i2 (.inr (.inr (.inr (.inr rfl))))
    have F' : Fr h₀ L h'' m := ⟨F.ns.at' fun o e => k5 L o (Ne.symm fz.2.1) (Ne.symm fTO.2.1) (Ne.symm f1.2.1) (Ne.symm f2.2.1) e, fun b o e => k5 b o (fun q => by rw [q, fz.1] at e; cases e) (fun q => by rw [q, fTO.1] at e; cases e) (fun q => by rw [q, f1.1] at e; cases e) (fun q => by rw [q, f2.1] at e; cases e) (F.keep b o e), F.above⟩
    have hLS : @LT.lt Nat _ L S := hSz ▸ F.ns.lt
    have fS : ∀ a, @LE.le Nat _ S a → h₀.get? a = none := fun a ha => fresh_of F a (hSz ▸ ha)
    refine ⟨rfl, h S c' acc' tl h'' tk' F' (fun p hp => ?_) ha (fun p hp => lt (N p hp).1) fun p hp => (ht p hp).2⟩
    rcases List.mem_cons.mp hp with rfl | hp
    · exact ⟨hS'', Nat.ne_of_gt hLS, fS _ (Nat.le_refl _)⟩
    · rcases List.mem_append.mp hp with hp | hp
      · exact ⟨(ht p hp).1, Nat.ne_of_gt (Nat.lt_trans hLS (ht p hp).2), fS _ (Nat.le_of_lt (ht p hp).2)⟩
      · exact ⟨k5 _ _ (fz.2.2.2.2 p hp) (fTO.2.2.2.2 p hp) (f1.2.2.2.2 p hp) (f2.2.2.2.2 p hp) (N p hp).1, (N p hp).2⟩
end
end Fl
namespace Fl
section
variable {prog : Program} {w : World} {A : Around} {E : Value → Shared → Prop} {s : Shared} {h₀ : Heap} {L : Addr} {m : Str → Option Value} {env : Env} {elt : PySem.Expr} {x : Str} {scope : Scope} {cl : List (Str × Addr)} {S : Led → Prop} {Fin : List Value → Led → Prop} {news : Led}
/-- a block over a range, one invariant from turn to turn -/
theorem rest_ind {n : Nat} {a : Int} (J : Nat → List Value → Led → Prop)
    (turn : ∀ i t I oI C oC D m₂ ys news h tk (E' : Value → Shared → Prop), i < n → J i ys news → LCg.NsObj oC m₂ → m₂ x = some (.int (a + (i : Int)) t) → Fr h₀ L h m → News h₀ L h ((I, oI) :: (C, oC) :: (D, LCg.lst ys) :: news) → LCg.Off3 I C D news → ((@Ne Nat I C) ∧ (@Ne Nat I D) ∧ (@Ne Nat C D)) →
      wpAny (model prog w) A (eval elt (compEnvC scope cl C env)) (LCg.CompEnd h₀ L m { s with heap := h, toks := tk } I oI C oC D (LCg.lst ys) S (fun y news' => J (i + 1) (ys ++ [y]) news')) E' { s with heap := h, toks := tk })
    (hJ : J 0 [] news) (fin : ∀ ys news', J n ys news' → Fin ys news') :
    LCg.CompRest prog w A h₀ L m env elt x scope cl s S (fun i v => ∃ t, v = .int (a + (i : Int)) t) Fin n 0 [] news := by
  have key : ∀ (j i : Nat) (ys : List Value) (news : Led), i + j = n → J i ys news → LCg.CompRest prog w A h₀ L m env elt x scope cl s S (fun i v => ∃ t, v = .int (a + (i : Int)) t) Fin j i ys news := by
    intro j
    induction j with
    | zero =>
      intro i ys news hi hJ
      have e : i = n := by omega
      subst e
      exact LCg.CompRest.zero (fin ys news hJ)
    | succ j ih =>
      intro i ys news hi hJ
      refine LCg.CompRest.succ ?_
      intro v I oI C oC D m₂ h tk E' hv hC hx F N off ne
      obtain ⟨t, rfl⟩ := hv
      refine wpAny_mono (turn i t I oI C oC D m₂ ys news h tk E' (by omega) hJ hC hx F N off ne) (fun y s₂ hq => ?_) fun _ _ e => e
      obtain ⟨h', tk', nw, e, F', N', off', hS, hJ'⟩ := hq
      exact ⟨h', tk', nw, e, F', N', off', hS, ih (i + 1) _ nw (by omega) hJ'⟩
  exact key n 0 [] news (by omega) hJ
end
section
variable {prog : Program} {w : World} {A : Around} {E : Value → Shared → Prop} {s : Shared} {env : Env} {h₀ : Heap} {target : PySem.Expr} {body : List Stmt} {Q : Flow → Shared → Prop}
/-- a loop over the values of a list, one invariant from turn to turn -/
theorem items_ind {I : Addr} {keep : Led} (J : List Value → (Str → Option Value) → Led → Prop)
    (turn : ∀ v r m news h tk (oI : Obj), oI.cls = .type "list_iterator" → J (v :: r) m news → Fr h₀ env.locals h m → News h₀ env.locals h ((I, oI) :: news) →
      wpAny (model prog w) A (assign target env v) (fun _ s₂ => wpAny (model prog w) A (execs body env) (UnrPostW h₀ env.locals { s with heap := h, toks := tk } [(I, oI)] (fun m' n' => SubL keep n' ∧ J r m' n') Q) E s₂) E { s with heap := h, toks := tk })
    (fin : ∀ m news h tk, J [] m news → Fr h₀ env.locals h m → News h₀ env.locals h news → Q .next { s with heap := h, toks := tk }) :
    ∀ (vs : List Value) (m : Str → Option Value) (news : Led), J vs m news → ItemsRest prog w A E h₀ env target body Q s [(I, "list_iterator")] keep (vs.map .val) m news
  | [], m, news, hJ => ItemsRest.zero fun h tk F N => fin m news h tk hJ F N
  | v :: r, m, news, hJ => ItemsRest.val (v := v) (r := r.map .val) fun h tk F => AllObj.cons fun oI hc => AllObj.nil fun N => by
    refine wpAny_mono (turn v r m news h tk oI hc hJ F N) (fun _ s₂ h₂ => wpAny_mono h₂ (fun f s₃ p => ?_) fun _ _ e => e) fun _ _ e => e
    have conv : ∀ s₃, UnrEndW h₀ env.locals { s with heap := h, toks := tk } [(I, oI)] (fun m' n' => SubL keep n' ∧ J r m' n') s₃ →
        UnrEndW h₀ env.locals { s with heap := h, toks := tk } [(I, oI)] (fun m' n' => SubL keep n' ∧ ItemsRest prog w A E h₀ env target body Q s [(I, "list_iterator")] keep (r.map .val) m' n') s₃ := by
      rintro s₃ ⟨h', tk', m', n', e, F', N', off, k, hJ'⟩
      exact ⟨h', tk', m', n', e, F', N', off, k, items_ind J turn fin r m' n' hJ'⟩
    cases f with
    | ret v => exact p
    | brk => exact p
    | next => exact conv _ p
    | cont => exact conv _ p
end
section
variable {prog : Program} {w : World} {A : Around} {E : Value → Shared → Prop} {s : Shared}
theorem item_last {value slice : PySem.Expr} {a : Addr} {l : List Value} {u : Tok} {x : Value} {Q : Value → Shared → Prop} (hl : s.heap.IsList a l.toArray) (hx : l.getLast? = some x) (h : Q x s)
    (hs : subscripted slice false (.ref a) (.int (-1) u) = operate [.ref a, .int (-1) u] (getItem (.ref a) (.int (-1) u)) := by with_unfolding_all rfl) (hg : ∀ r, letTemporaryGo value (.ref a) r = pure () := by intro _; with_unfolding_all rfl) :
    wpAny (model prog w) A (subscriptTail value slice (.ref a) (.int (-1) u)) Q E s := by
  have h1 : l ≠ [] := by rintro rfl; simp at hx
  have h2 : 0 < l.length := List.length_pos_iff.mpr h1
  refine subscriptTail_builtin hl.typeIs slot_list_getitem.lookup (wpAny_getItem_list_neg hl (by decide) (by rw [List.size_toArray]; omega) (by decide) (x := x) ?_ h) hs hg
  rw [List.getLast?_eq_getElem?] at hx
  rw [List.size_toArray, show ((-1 : Int) + (l.length : Int)).toNat = l.length - 1 by omega]
  simpa using hx
theorem pow_two {t u : Tok} {n : Int} {Q : Value → Shared → Prop} (hn : 1 ≤ n ∧ n ≤ 3) (h : ∀ t, Q (.int (2 ^ n.toNat) t) { s with toks := s.toks + 1 }) : wpAny (model prog w) A (binaryOp .Pow (.int 2 t) (.int n u)) Q E s :=
  pow_int_small (by omega) (by omega) (by decide) (h _)
theorem pow_sm {t u : Tok} {a n : Int} {Q : Value → Shared → Prop} (ha : 0 ≤ a ∧ a ≤ 100) (hn : 0 ≤ n ∧ n ≤ 5) (h : ∀ t, Q (.int (a ^ n.toNat) t) { s with toks := s.toks + 1 }) : wpAny (model prog w) A (binaryOp .Pow (.int a t) (.int n u)) Q E s :=
  pow_int_small (by omega) (by omega) (by omega) (h _)
theorem len_sym {l : Addr} {vs : List Value} {k : Nat} {Q : Value → Shared → Prop} (hl : s.heap.IsList l vs.toArray) (e : vs.length = k) (hz : k ≤ 1000) (h : ∀ t tk, Q (.int (k : Int) t) { s with toks := tk }) :
    wpAny (model prog w) A (call (.builtin "len") [.ref l]) Q E s := by
  refine call_len_list hl (by rw [List.size_toArray]; omega) ?_
  rw [List.size_toArray, e]
  exact h _ _
theorem pow_many {t u : Tok} {a n : Int} {k : Nat} {Q : Value → Shared → Prop} (e : n = (k : Int)) (hk : k ≤ 5) (ha : 0 ≤ a ∧ a ≤ 100) (h : ∀ t tk, Q (.int (a ^ k) t) { s with toks := tk }) : wpAny (model prog w) A (binaryOp .Pow (.int a t) (.int n u)) Q E s := by
  subst e
  exact pow_int_small (by omega) (by omega) (by omega) (by rw [Int.toNat_natCast]; exact h _ _)
theorem add_gen {t u : Tok} {a b : Int} {Q : Value → Shared → Prop} (h : ∀ c t tk, c = a + b → Q (.int c t) { s with toks := tk }) : wpAny (model prog w) A (binaryOp .Add (.int a t) (.int b u)) Q E s :=
  add_int (h _ _ _ rfl)
open PySem.SeqAt in
theorem ne_same {a b : Addr} {x y : Int} {t u t' u' : Tok} {n n' : Nat} {Q : Value → Shared → Prop} (ha : s.heap.get? a = some (tp x y t u n)) (hb : s.heap.get? b = some (tp x y t' u' n')) (hu : A.units < cLine) (h : Q (.bool false) s) :
    wpAny (model prog w) A (compareOp .NotEq (.ref a) (.ref b)) Q E s := by
  refine cmp_ofNotEq (RcNeAt.tuples (l := a) (b := b) (items := #[.int x t, .int y u]) (items2 := #[.int x t', .int y u']) (e := fun _ => true) ⟨_, ha, rfl, _, rfl⟩ ⟨_, hb, rfl, _, rfl⟩ hu (fun j h1 h2 => ?_) prog w E Q h)
  have h3 : j < 2 := h1
  match j, h3 with
  | 0, _ => have := EqAt.int_int (A := A.in1) (s := s) x t x t'; simpa using this
  | 1, _ => have := EqAt.int_int (A := A.in1) (s := s) y u y u'; simpa using this
end
end Fl
namespace Fl
theorem calm_K_take : True := by
  w_top off
  trivial
local macro_rules | `(tactic| k_mem) => `(tactic| (show (_ : Addr × Obj) ∈ (_ : List (Addr × Obj)); ktr_member))
local macro_rules | `(tactic| k_all) => `(tactic| first | (with_reducible assumption) | exact ne_upA (by assumption) (Nat.le_refl _) | exact ne_up (by assumption) (by omega))
local macro_rules | `(tactic| k_lt $h:ident) => `(tactic| (replace $h := allLt_of $h; (simp only [AllLt, and_true] at $h:ident); (repeat (have _ := And.left $h; replace $h := And.right $h))))
local macro_rules | `(tactic| k_ne) => `(tactic| (refine neN ?_; (try dsimp only); first | with_reducible assumption | exact Ne.symm (by with_reducible assumption) | omega))
local macro_rules | `(tactic| walk_at "compareOp NotEq ref ref") => `(tactic| (k_here; (with_reducible show wpAny _ _ (compareOp CmpOp.NotEq (Value.ref _) (Value.ref _)) _ _ _); k_dflt (first
  | refine ne_empty (News.isList (by k_asm) (by k_mem)) (News.isList (by k_asm) (by k_mem)) (by ktr_units) ?_
  | refine ne_full (News.isList (by k_asm) (by k_mem)) (News.isList (by k_asm) (by k_mem)) (by first | decide | simp; done) (by ktr_units) ?_)))
local macro_rules | `(tactic| walk_at "compareOp Eq ref ref") => `(tactic| (k_here; (with_reducible show wpAny _ _ (compareOp CmpOp.Eq (Value.ref _) (Value.ref _)) _ _ _); k_dflt (first
  | refine eq_empty (News.isList (by k_asm) (by k_mem)) (News.isList (by k_asm) (by k_mem)) (by ktr_units) ?_
  | refine eq_full (News.isList (by k_asm) (by k_mem)) (News.isList (by k_asm) (by k_mem)) (by first | decide | simp; done) (by ktr_units) ?_)))

abbrev srcO (v0 v1 : Int) (t0 t1 : Tok) (R : Addr) (n : Nat) : Obj := { cls := .type "list", data := .seq #[.int v0 t0, .int v1 t1, .ref R] n }
abbrev rowO (row : List Value) (n : Nat) : Obj := { cls := .type "list", data := .seq row.toArray n }
def IntRow (row : List Value) : Prop := (∀ v ∈ row, ∃ i t, v = Value.int i t) ∧ row.length ≤ 20
theorem idx0 (n : Nat) : seqIndex? 0 (n + 1) = some 0 := by unfold seqIndex?; simp
def TakeRet (S R : Addr) (rest : Led) (top : Int) (news' : Led) (r : Value) : Prop :=
  ∃ k t v0 t0 v1 t1 n row nR, r = .int k t ∧ 0 ≤ k ∧ k < top ∧ 0 ≤ v1 ∧ v1 < 2147483647 ∧ IntRow row ∧ news' = (S, srcO v0 v1 t0 t1 R n) :: (R, rowO row nR) :: rest
theorem TakeRet.mk {S R : Addr} {rest : Led} {top k v0 v1 : Int} {t t0 t1 : Tok} {n nR : Nat} {row : List Value} (a : 0 ≤ k) (b : k < top) (c : 0 ≤ v1) (d : v1 < 2147483647) (e : IntRow row) :
    TakeRet S R rest top ((S, srcO v0 v1 t0 t1 R n) :: (R, rowO row nR) :: rest) (.int k t) := ⟨_, _, _, _, _, _, _, _, _, rfl, a, b, c, d, e, rfl⟩
local macro_rules | `(tactic| walk_at "call builtin:list.pop") => `(tactic| (k_here; (with_reducible show wpAny _ _ (call (Value.builtin _) [Value.ref _, Value.int 0 _]) _ _ _); k_dflt (refine' kl_popAt (k := 0) ?F ?N ?f ?k ?e ?U ?z ?_; (case F => k_asm); (case N => k_asm); (case U => k_upd); (case f => rfl); (case k => exact idx0 _); (case e => rfl); (case z => (rw [sizeLine_eq]; simp only [List.length_cons] at *; omega))); kl_rest))
theorem take_con {w : World} {mean mg mb} {rest : Led} {S R : Addr} {v0 v1 top : Int} {t0 t1 tt : Tok} {n nR : Nat} {row : List Value}
    (h1 : 0 ≤ v1) (h2 : v1 < 2147483647) (hr : IntRow row) (hne : @Ne Nat S R) (oS : ∀ p ∈ rest, p.1 ≠ S) (oR : ∀ p ∈ rest, p.1 ≠ R) (ht : 1 ≤ top) (ht2 : top ≤ 200) :
    ConM w mean mg mb 314 ((S, srcO v0 v1 t0 t1 R n) :: (R, rowO row nR) :: rest) [.ref S, .int top tt] 3 30 (TakeRet S R rest top) := by
  (try unfold Con)
  unfold ConM
  k_fill
  intro dp un gd cn cs a ccd cl outer A₀ base h₀ L m s Q E B F X N T hk hd hu hret
  refine wpAny_call ?_
  k_dflt ktr_enter
  obtain ⟨hr1, hr2⟩ := hr
  cases row with
  | nil =>
    k_steps
    all_goals (
      refine hret _ _ _ _ (by k_asm) (con_drop (by k_asm) (fun p hp => List.mem_cons_of_mem _ hp)) (TakeRet.mk (S := S) (R := R) (rest := rest) ?_ ?_ ?_ ?_ ⟨hr1, hr2⟩)
      all_goals (try simp only [Int.fmod_eq_emod_of_nonneg _ (show (0:Int) ≤ top by omega), Int.fmod_eq_emod_of_nonneg _ (show (0:Int) ≤ 2147483647 by decide)])
      all_goals (first | omega | exact Int.emod_nonneg _ (by omega) | exact Int.emod_lt_of_pos _ (by omega)))
  | cons v vs =>
    obtain ⟨i, ti, rfl⟩ := hr1 v (List.Mem.head _)
    k_steps
    all_goals (
      refine hret _ _ _ _ (by k_asm) (con_drop (by k_asm) (fun p hp => List.mem_cons_of_mem _ hp)) (TakeRet.mk (S := S) (R := R) (rest := rest) ?_ ?_ h1 h2 ⟨fun v hv => hr1 v (List.mem_cons_of_mem _ hv), by simp only [List.length_cons] at hr2; omega⟩)
      all_goals (simp only [Int.fmod_eq_emod_of_nonneg _ (show (0:Int) ≤ top by omega)])
      all_goals (first | exact Int.emod_nonneg _ (by omega) | exact Int.emod_lt_of_pos _ (by omega)))
end Fl
namespace Fl
def UpdF2 (S R : Addr) (o oR : Obj) (news : Led) (g : Obj → Obj → Led) : Prop := ∃ g1, UpdF S o news g1 ∧ ∀ o', UpdF R oR (g1 o') (g o')
def TakeU (g : Obj → Obj → Led) (R : Addr) (top : Int) (news' : Led) (r : Value) : Prop :=
  ∃ k t v0 t0 v1 t1 n row nR, r = .int k t ∧ 0 ≤ k ∧ k < top ∧ 0 ≤ v1 ∧ v1 < 2147483647 ∧ IntRow row ∧ news' = g (srcO v0 v1 t0 t1 R n) (rowO row nR)
theorem take_u {w : World} {mean mg mb} {news : Led} {g : Obj → Obj → Led} {S R : Addr} {v0 v1 top : Int} {t0 t1 tt : Tok} {n nR : Nat} {row : List Value}
    (U : UpdF2 S R (srcO v0 v1 t0 t1 R n) (rowO row nR) news g) (h1 : 0 ≤ v1) (h2 : v1 < 2147483647) (hr : IntRow row) (hne : @Ne Nat S R) (ht : 1 ≤ top) (ht2 : top ≤ 200) :
    ConM w mean mg mb 314 news [.ref S, .int top tt] 3 30 (TakeU g R top) := by
  unfold ConM
  intro dp un gd cn cs a ccd cl outer A₀ base h₀ L m s Q E B F X N T hk hd hu hret
  obtain ⟨g1, U1, U2⟩ := U
  obtain ⟨pre, post, e1, e2, p1, p2⟩ := U1.split
  have k1 : ∀ o', g1 o' = pre ++ (S, o') :: post := e2
  have mem : ∀ o1 o2 p, p ∈ g o1 o2 → p = (S, o1) ∨ p = (R, o2) ∨ (p ∈ news ∧ p.1 ≠ S ∧ p.1 ≠ R) := by
    intro o1 o2 p hp
    obtain ⟨pre2, post2, f1, f2, q1, q2⟩ := (U2 o1).split
    rw [f2] at hp
    rw [k1] at f1
    have old : ∀ q, q ∈ pre2 ++ (R, rowO row nR) :: post2 → q.1 ≠ R → q = (S, o1) ∨ (q ∈ news ∧ q.1 ≠ S ∧ q.1 ≠ R) := by
      intro q hq hR
      rw [← f1] at hq
      rcases List.mem_append.mp hq with h | h
      · exact .inr ⟨by rw [e1]; exact List.mem_append_left _ h, p1 _ h, hR⟩
      · rcases List.mem_cons.mp h with h | h
        · exact .inl h
        · exact .inr ⟨by rw [e1]; exact List.mem_append_right _ (List.mem_cons_of_mem _ h), p2 _ h, hR⟩
    rcases List.mem_append.mp hp with h | h
    · rcases old p (List.mem_append_left _ h) (q1 _ h) with r | r
      · exact .inl r
      · exact .inr (.inr r)
    · rcases List.mem_cons.mp h with h | h
      · exact .inr (.inl h)
      · rcases old p (List.mem_append_right _ (List.mem_cons_of_mem _ h)) (q2 _ h) with r | r
        · exact .inl r
        · exact .inr (.inr r)
  have hS : (S, srcO v0 v1 t0 t1 R n) ∈ news := by rw [e1]; simp
  have hR : (R, rowO row nR) ∈ news := by
    obtain ⟨pre2, post2, f1, f2, q1, q2⟩ := (U2 (srcO v0 v1 t0 t1 R n)).split
    rw [k1, ← e1] at f1
    rw [f1]; simp
  refine take_con (v0 := v0) (t0 := t0) (t1 := t1) (n := n) (nR := nR) (rest := news.filter fun p => decide (p.1 ≠ S ∧ p.1 ≠ R)) h1 h2 hr hne (fun p hp => (of_decide_eq_true (List.mem_filter.mp hp).2).1) (fun p hp => (of_decide_eq_true (List.mem_filter.mp hp).2).2) ht ht2
    dp un gd cn cs a ccd cl outer A₀ base h₀ L m s Q E B F X (con_drop N fun p hp => ?_) T hk hd hu fun r news' h' tk' F' N' hr' => ?_
  · rcases List.mem_cons.mp hp with h | h
    · rw [h]; exact hS
    · rcases List.mem_cons.mp h with h | h
      · rw [h]; exact hR
      · exact (List.mem_filter.mp h).1
  · obtain ⟨k, t, v0, t0, v1, t1, n, row, nR, rfl, b1, b2, b3, b4, b5, rfl⟩ := hr'
    refine hret _ _ h' tk' F' (con_drop N' fun p hp => ?_) ⟨k, t, v0, t0, v1, t1, n, row, nR, rfl, b1, b2, b3, b4, b5, rfl⟩
    rcases mem _ _ p hp with h | h | ⟨h, h3, h4⟩
    · rw [h]; exact List.mem_cons_self
    · rw [h]; exact List.mem_cons_of_mem _ List.mem_cons_self
    · exact List.mem_cons_of_mem _ (List.mem_cons_of_mem _ (List.mem_filter.mpr ⟨h, decide_eq_true ⟨h3, h4⟩⟩))
/-- off the nine cells behind L -/
def OffC (L : Nat) (l : Led) : Prop := ∀ p ∈ l, @LE.le Nat _ p.1 L ∨ @LT.lt Nat _ (L + 9) p.1
section
variable {L : Nat} {l l' : Led} {c : Nat}
theorem OffC.ne (h : OffC L l) (h1 : L < c) (h2 : c ≤ L + 9) : ∀ p ∈ l, p.1 ≠ c := fun p hp e => by
  have := h p hp
  have e' : @Eq Nat p.1 c := e
  omega
theorem OffC.app (h : OffC L l) (h' : OffC L l') : OffC L (l ++ l') := fun p hp => (List.mem_append.mp hp).elim (h p) (h' p)
theorem OffC.cons {x : Addr × Obj} (h : @LE.le Nat _ x.1 L ∨ @LT.lt Nat _ (L + 9) x.1) (h' : OffC L l) : OffC L (x :: l) := fun p hp => (List.mem_cons.mp hp).elim (fun e => e ▸ h) (h' p)
theorem OffC.ofLt (h : AllLt L l) : OffC L l := fun p hp => .inl (Nat.le_of_lt (allLt_iff.mp h p hp))
theorem OffC.above {cells : Led} {o : Obj} (h : ∀ p ∈ l, AllLt p.1 cells) (hm : (L + 9, o) ∈ cells) : OffC L l := fun p hp => .inr (allLt_mem (h p hp) hm)
theorem all_app {d : Addr} (h : ∀ p ∈ l, p.1 ≠ d) (h' : ∀ p ∈ l', p.1 ≠ d) : ∀ p ∈ l ++ l', p.1 ≠ d := fun p hp => (List.mem_append.mp hp).elim (h p) (h' p)
theorem above_ne (h : ∀ p ∈ l, @LT.lt Nat _ (L + 9) p.1) (hc : c ≤ L + 9) : ∀ p ∈ l, p.1 ≠ c := fun p hp => Nat.ne_of_gt (Nat.lt_of_le_of_lt hc (h p hp))
theorem off3_app {I C D : Addr} : ∀ {l l' : Led}, LCg.Off3 I C D (l ++ l') ↔ LCg.Off3 I C D l ∧ LCg.Off3 I C D l'
  | [], l' => ⟨fun h => ⟨trivial, h⟩, fun h => h.2⟩
  | p :: r, l' => by
    show (_ ∧ LCg.Off3 I C D (r ++ l')) ↔ _
    rw [off3_app (l := r)]
    exact ⟨fun h => ⟨⟨h.1, h.2.1⟩, h.2.2⟩, fun h => ⟨h.1.1, h.1.2, h.2⟩⟩
theorem off1_app {D : Addr} : ∀ {l l' : Led}, LCg.Off1 D (l ++ l') ↔ LCg.Off1 D l ∧ LCg.Off1 D l'
  | [], l' => ⟨fun h => ⟨trivial, h⟩, fun h => h.2⟩
  | p :: r, l' => by
    show (_ ∧ LCg.Off1 D (r ++ l')) ↔ _
    rw [off1_app (l := r)]
    exact ⟨fun h => ⟨⟨h.1, h.2.1⟩, h.2.2⟩, fun h => ⟨h.1.1, h.1.2, h.2⟩⟩
theorem ne_off1 {D : Addr} (h : LCg.Off1 D l) : ∀ p ∈ l, p.1 ≠ D := by
  induction l with
  | nil => exact fun _ h => nomatch h
  | cons q r ih =>
    intro p hp
    rcases List.mem_cons.mp hp with e | hp
    · rw [e]; exact h.1
    · exact ih h.2 p hp
theorem ne_off3 {I C D : Addr} (h : LCg.Off3 I C D l) : (∀ p ∈ l, p.1 ≠ I) ∧ (∀ p ∈ l, p.1 ≠ C) ∧ (∀ p ∈ l, p.1 ≠ D) := ⟨fun p hp => (h.mem p hp).1, fun p hp => (h.mem p hp).2.1, fun p hp => (h.mem p hp).2.2⟩
end
end Fl
namespace Fl
theorem calm_K_flat : True := by
  w_top off
  trivial
local macro_rules | `(tactic| walk_at "no such key 0") => `(tactic| fail)
local macro_rules | `(tactic| k_mem) => `(tactic| (show (_ : Addr × Obj) ∈ (_ : List (Addr × Obj)); ktr_member))
local macro_rules | `(tactic| ktr_enter) => `(tactic| (refine' code_defG ?k1 ?k2 ?k3 ?k4 ?k5 ?kA ?kF ?kK ?k6 ?k7 ?k8 ?k9 ?kB ?_ ?c2 ?c3 ?c4 ?c5; (case kA => exact rfl); (case kF => exact rfl); (case kK => assumption); (case k1 => k_asm); (case k2 => k_asm); (case k3 => k_asm); (case k4 => k_asm); (case k5 => k_asm); (case k6 => k_is); (case k7 => k_is); (case k8 => ktr_room); (case k9 => exact BindsTo.of_eq rfl); (case c5 => decide); (case kB => exact locs rfl); (case c2 => exact rfl); (case c3 => exact rfl); (case c4 => exact rfl); k_whole; intro g' L' h' FG' F' N' B' X' T' kG'; (try dsimp only); (try k_fold)))
local macro_rules | `(tactic| walk_at "call ref") => `(tactic| (k_here; k_dflt (refine' con_use ?c0 ?c1 ?c2 ?c3 ?c4 ?c5 ?c6 ?c7 ?c8 ?_; (case c1 => k_asm); (case c2 => k_asm); (case c3 => k_asm); (case c4 => k_asm); (case c5 => k_asm); (case c6 => first | exact rfl | assumption); (case c0 => exact near_con (by k_mem) (by k_mem) (by k_mem) (by omega) (by omega) (by omega) (by omega) (by omega) (by omega) (by omega)); (case c7 => ktr_room); (case c8 => ktr_units)); (rintro r' nw' h' tk' F' N' ⟨tl', e0', o', e1', e2'⟩; subst e0'; subst e1'; subst e2'; clear o'; (try simp only [List.nil_append, List.cons_append] at N'); (try dsimp only); (try k_fold))))
local macro_rules | `(tactic| walk_at "subscriptTail Name Slice ref ref") => `(tactic| (k_here; (with_reducible show wpAny _ _ (subscriptTail _ (PySem.Expr.Slice _ _ none _) (Value.ref _) (Value.ref _)) _ _ _); k_dflt (first
  | (refine' slice_mid3 ?F ?N ?l ?_ ?s ?t; (case F => k_asm); (case N => k_asm); (case l => exact News.isTup (by k_asm) (by k_mem)); (case s => with_unfolding_all rfl); (case t => kmk_pure))
  | (refine' slice_mid4 ?F ?N ?l ?_ ?s ?t; (case F => k_asm); (case N => k_asm); (case l => exact News.isTup (by k_asm) (by k_mem)); (case s => with_unfolding_all rfl); (case t => kmk_pure))); intro D' h' F' N' l1; (try k_lt l1); (try k_sweep)))
local macro_rules | `(tactic| walk_at "exec For Name Subscript cons nil") => `(tactic| (k_here; (rename Fr _ _ _ _ => lF'); (with_unfolding_all refine' For_turns lF' ?_); k_whole))
theorem flat3_con {w : World} {mean mg mb} {news : Led} {aS a1 a2 a3 : Addr} {x1 y1 x2 y2 x3 y3 : Int} {t1 u1 t2 u2 t3 u3 : Tok} {nS n1 n2 n3 : Nat} {b : Int} {tb : Tok}
    (hS : (aS, ({ cls := .type "tuple", data := .seq #[.ref a1, .ref a2, .ref a3] nS } : Obj)) ∈ news) (h1 : (a1, tp x1 y1 t1 u1 n1) ∈ news) (h2 : (a2, tp x2 y2 t2 u2 n2) ∈ news) (h3 : (a3, tp x3 y3 t3 u3 n3) ∈ news)
    (b1 : -1000 ≤ x1 ∧ x1 ≤ 1000) (c1 : -1000 ≤ y1 ∧ y1 ≤ 1000) (b2 : -1000 ≤ x2 ∧ x2 ≤ 1000) (c2 : -1000 ≤ y2 ∧ y2 ≤ 1000) (b3 : -1000 ≤ x3 ∧ x3 ≤ 1000) (c3 : -1000 ≤ y3 ∧ y3 ≤ 1000) (bb : 0 ≤ b ∧ b ≤ 100) :
    Con w mean mg mb 131 news [.ref aS, .int b tb] 5 60 (fun tl r => tl = [] ∧ r = .bool (isNear x2 y2 x1 y1 x3 y3 b)) := by
  (try unfold Con)
  unfold ConM
  k_fill
  intro dp un gd cn cs a ccd cl outer A₀ base h₀ L m s Q E B F X N T hk hd hu hret
  have N1 : News h₀ L s.heap [(aS, ({ cls := .type "tuple", data := .seq #[.ref a1, .ref a2, .ref a3] nS } : Obj)), (a1, tp x1 y1 t1 u1 n1), (a2, tp x2 y2 t2 u2 n2), (a3, tp x3 y3 t3 u3 n3)] :=
    cb_drop N (by intro p hp; simp only [List.mem_cons, List.not_mem_nil, or_false] at hp; rcases hp with rfl | rfl | rfl | rfl <;> assumption)
  have cE := InElt.start s.heap
  clear hS h1 h2 h3
  refine wpAny_call ?_
  k_dflt ktr_enter
  k_steps
  all_goals (
    (rename InElt _ _ => cEz)
    refine' hret _ news _ _ ?e1 ?e2 ⟨[], rfl, con_abv0, rfl, ?e4⟩
    (case e1 => k_asm)
    (case e2 => exact News.grown N cEz)
    (case e4 => (simp_all; done)))
theorem flat4_con {w : World} {mean mg mb} {news : Led} {aS a1 a2 a3 a4 : Addr} {x1 y1 x2 y2 x3 y3 x4 y4 : Int} {t1 u1 t2 u2 t3 u3 t4 u4 : Tok} {nS n1 n2 n3 n4 : Nat} {b : Int} {tb : Tok}
    (hS : (aS, ({ cls := .type "tuple", data := .seq #[.ref a1, .ref a2, .ref a3, .ref a4] nS } : Obj)) ∈ news) (h1 : (a1, tp x1 y1 t1 u1 n1) ∈ news) (h2 : (a2, tp x2 y2 t2 u2 n2) ∈ news) (h3 : (a3, tp x3 y3 t3 u3 n3) ∈ news) (h4 : (a4, tp x4 y4 t4 u4 n4) ∈ news)
    (b1 : -1000 ≤ x1 ∧ x1 ≤ 1000) (c1 : -1000 ≤ y1 ∧ y1 ≤ 1000) (b2 : -1000 ≤ x2 ∧ x2 ≤ 1000) (c2 : -1000 ≤ y2 ∧ y2 ≤ 1000) (b3 : -1000 ≤ x3 ∧ x3 ≤ 1000) (c3 : -1000 ≤ y3 ∧ y3 ≤ 1000) (b4 : -1000 ≤ x4 ∧ x4 ≤ 1000) (c4 : -1000 ≤ y4 ∧ y4 ≤ 1000) (bb : 0 ≤ b ∧ b ≤ 100) :
    Con w mean mg mb 131 news [.ref aS, .int b tb] 5 60 (fun tl r => tl = [] ∧ r = .bool (isNear x2 y2 x1 y1 x4 y4 b && isNear x3 y3 x1 y1 x4 y4 b)) := by
  (try unfold Con)
  unfold ConM
  k_fill
  intro dp un gd cn cs a ccd cl outer A₀ base h₀ L m s Q E B F X N T hk hd hu hret
  have N1 : News h₀ L s.heap [(aS, ({ cls := .type "tuple", data := .seq #[.ref a1, .ref a2, .ref a3, .ref a4] nS } : Obj)), (a1, tp x1 y1 t1 u1 n1), (a2, tp x2 y2 t2 u2 n2), (a3, tp x3 y3 t3 u3 n3), (a4, tp x4 y4 t4 u4 n4)] :=
    cb_drop N (by intro p hp; simp only [List.mem_cons, List.not_mem_nil, or_false] at hp; rcases hp with rfl | rfl | rfl | rfl | rfl <;> assumption)
  have cE := InElt.start s.heap
  clear hS h1 h2 h3 h4
  refine wpAny_call ?_
  k_dflt ktr_enter
  k_steps
  all_goals (
    (rename InElt _ _ => cEz)
    refine' hret _ news _ _ ?e1 ?e2 ⟨[], rfl, con_abv0, rfl, ?e4⟩
    (case e1 => k_asm)
    (case e2 => exact News.grown N cEz)
    (case e4 => (simp_all; done)))
end Fl
namespace Fl
theorem calm_K_middle : True := by
  w_top off
  trivial
local macro_rules | `(tactic| k_mem) => `(tactic| (show (_ : Addr × Obj) ∈ (_ : List (Addr × Obj)); ktr_member))
theorem middle_con {w : World} {mean mg mb} {news : Led} {a1 a2 : Addr} {x1 y1 x2 y2 : Int} {t1 t2 u1 u2 : Tok} {n1 n2 : Nat}
    (h1 : (a1, tp x1 y1 t1 u1 n1) ∈ news) (h2 : (a2, tp x2 y2 t2 u2 n2) ∈ news) :
    Con w mean mg mb 138 news [.ref a1, .ref a2] 3 30 (fun tl r => ∃ a t u n, r = .ref a ∧ tl = [(a, tp ((x1 + x2) / 2) ((y1 + y2) / 2) t u n)]) := by
  (try unfold Con)
  unfold ConM
  k_fill
  intro dp un gd cn cs a ccd cl outer A₀ base h₀ L m s Q E B F X N T hk hd hu hret
  refine wpAny_call ?_
  k_dflt ktr_enter
  k_steps
  all_goals (
    refine' hret _ _ _ _ ?e1 ?e2 ⟨[_], rfl, con_abv1 (by ktn_lt), _, _, _, _, rfl, ?e4⟩
    (case e1 => k_asm)
    (case e2 => k_asm)
    (case e4 => (simp only [Int.fdiv_eq_ediv_of_nonneg _ (show (0:Int) ≤ 2 by decide)]; rfl)))
end Fl
namespace Fl
theorem calm_K_halves : True := by
  w_top off
  trivial
local macro_rules | `(tactic| k_mem) => `(tactic| (show (_ : Addr × Obj) ∈ (_ : List (Addr × Obj)); ktr_member))
local macro_rules | `(tactic| k_all) => `(tactic| first | (with_reducible assumption) | exact ne_upA (by assumption) (Nat.le_refl _) | exact ne_up (by assumption) (by omega))
local macro_rules | `(tactic| k_lt $h:ident) => `(tactic| (replace $h := allLt_of $h; (simp only [AllLt, and_true] at $h:ident); (repeat (have _ := And.left $h; replace $h := And.right $h))))
local macro_rules | `(tactic| k_ne) => `(tactic| (refine neN ?_; (try dsimp only); first | with_reducible assumption | exact Ne.symm (by with_reducible assumption) | omega))
local macro_rules | `(tactic| walk_at "call builtin:list.append") => `(tactic| (k_here; (with_reducible show wpAny _ _ (call (Value.builtin _) [Value.ref _, _]) _ _ _); k_dflt (refine' append_K ?k1 ?k2 ?k3 ?_ ?z; (case k1 => k_asm); (case k2 => k_asm); (case k3 => k_upd); (case z => first | exact Nat.le_of_ble_eq_true rfl | size_fits); k_whole); intro h' F' N'; (try k_sweep)))
local macro_rules | `(tactic| ktr_enter) => `(tactic| (refine' code_defC ?k1 ?k2 ?k3 ?k4 ?k5 ?kA ?kF ?kK ?k6 ?k7 ?k8 ?k9 ?kB ?kD ?_ ?c2 ?c3 ?c4; (case kA => exact rfl); (case kF => exact rfl); (case kK => assumption); (case k1 => k_asm); (case k2 => k_asm); (case k3 => k_asm); (case k4 => k_asm); (case k5 => k_asm); (case k6 => k_is); (case k7 => k_is); (case k8 => ktr_room); (case k9 => exact BindsTo.of_eq rfl); (case kB => exact rfl); (case kD => decide +kernel); (case c2 => exact rfl); (case c3 => exact rfl); (case c4 => exact rfl); k_whole; intro g' L' h' tk' cells' FG' F' N' Y' B' X' T' l1; (try k_lt l1); k_cells Y'; (try simp only [List.cons_append, List.nil_append] at N'); (try dsimp only); (try k_fold)))
local macro_rules | `(tactic| walk_at "CompSrc") => `(tactic| (k_here; k_dflt (first
  | (refine LCg.CompSrc.ledger (by rfl) (by k_asm) (by k_asm) (by k_mem) (by first | size_fits | exact Nat.le_of_ble_eq_true rfl) ?_; intro g'; lcg_lit)
  | (refine LCg.CompSrc.range (by rfl) (by k_asm) (by k_asm) (by assumption) (by first | decide | rfl) (by first | rfl | decide) (by first | size_fits | exact Nat.le_of_ble_eq_true rfl) ?_; intro g'; lcg_lit))))
local macro_rules | `(tactic| walk_at "CompRest") => `(tactic| (with_unfolding_all first
  | (refine LCg.CompRest.succ ?_; intro v' I' oI' C' oC' D' m' h' tk' E' hv' hC' hx' F' N' off' ne'; (first | lcg_open hv' | (obtain ⟨t9', hv9'⟩ := hv'; subst hv9')); obtain ⟨_, _, _⟩ := ne')
  | refine LCg.CompRest.zero ?_))
local macro_rules | `(tactic| lcg_off) => `(tactic| with_reducible assumption)
local macro_rules | `(tactic| walk_at "FinA") => `(tactic| ((unfold LCg.FinA); intro D' h' tk' F' N' o1'; (try simp only [LCg.Off1, and_true] at o1'); (repeat (obtain ⟨_, o1'⟩ := o1')); (try simp only [List.nil_append, List.cons_append] at N'); (try dsimp only)))
local macro_rules | `(tactic| walk_at "FinE") => `(tactic| ((unfold LCg.FinE); intro D' h' tk' F' N' o1'; (try simp only [LCg.Off1, and_true] at o1'); (repeat (obtain ⟨_, o1'⟩ := o1')); (try simp only [List.nil_append, List.cons_append] at N'); (try dsimp only)))
local macro_rules | `(tactic| walk_at "eval Name") => `(tactic| (k_here; (with_reducible show wpAny _ _ (eval (Expr.Name _ _) (compEnvC _ _ _ _)) _ _ _); k_dflt (first
  | (refine' lcf_free ?N ?c ?m ?d ?_ ?a ?b; (case a => rfl); (case b => rfl); (case N => k_asm); (case c => rfl); (case m => k_mem); (case d => with_reducible assumption); k_whole)
  | refine LCgL.ld_own (by k_asm) (by k_mem) (by with_reducible assumption) (by with_reducible assumption) ?_
  | refine LCgL.ld_global (by k_asm) (by k_asm) (by k_asm) (by k_is) ?_
  | refine LCgL.ld_built (by k_asm) (by k_asm) (by k_asm) (by k_is) (by boot_by_name) (by decide) ?_)))
local macro_rules | `(tactic| walk_at "CompEnd") => `(tactic| (k_here; k_dflt (first
  | (refine ce0 (by k_asm) (by k_asm) (by assumption) (by first | exact True.intro | exact Or.inr ⟨_, by k_mem, rfl, _, rfl⟩) ?_)
  | (refine ce1 (by k_asm) (by k_asm) (by assumption) (by dsimp only; omega) (by first | exact True.intro | exact Or.inr ⟨_, by k_mem, rfl, _, rfl⟩) ?_)
  | (refine ce2 (by k_asm) (by k_asm) (by assumption) (by dsimp only; omega) (by dsimp only; omega) (by first | exact True.intro | exact Or.inr ⟨_, by k_mem, rfl, _, rfl⟩) ?_))))
local macro_rules | `(tactic| walk_at "subscriptTail") => `(tactic| (k_here; (with_reducible show wpAny _ _ (subscriptTail _ _ (Value.ref _) (Value.int _ _)) _ _ _); k_dflt (first
  | (refine' item_tupleT ?t ?a ?b ?c ?d ?_; (case t => exact News.isTup (by k_asm) (by k_mem)); (case a => decide); (case b => decide); (case c => rfl); (case d => rfl); k_whole)
  | (refine' item_listL ?t ?a ?b ?c ?_; (case t => exact News.isList (by k_asm) (by k_mem)); (case a => decide); (case b => decide); (case c => rfl); k_whole))))
local macro_rules | `(tactic| walk_at "subscriptTail Name Name ref int") => `(tactic| (k_here; (with_reducible show wpAny _ _ (subscriptTail _ _ (Value.ref _) (Value.int _ _)) _ _ _); k_dflt (first
  | (refine' item_tupleT ?t ?a ?b ?c ?d ?_; (case t => exact News.isTup (by k_asm) (by k_mem)); (case a => decide); (case b => decide); (case c => rfl); (case d => rfl); k_whole)
  | (refine' item_listL ?t ?a ?b ?c ?_; (case t => exact News.isList (by k_asm) (by k_mem)); (case a => decide); (case b => decide); (case c => rfl); k_whole))))
local macro_rules | `(tactic| walk_at "subscriptTail Name Constant ref int") => `(tactic| (k_here; (with_reducible show wpAny _ _ (subscriptTail _ _ (Value.ref _) (Value.int _ _)) _ _ _); k_dflt (first
  | (refine' item_tupleT ?t ?a ?b ?c ?d ?_; (case t => exact News.isTup (by k_asm) (by k_mem)); (case a => decide); (case b => decide); (case c => rfl); (case d => rfl); k_whole)
  | (refine' item_listL ?t ?a ?b ?c ?_; (case t => exact News.isList (by k_asm) (by k_mem)); (case a => decide); (case b => decide); (case c => rfl); k_whole))))
local macro_rules | `(tactic| walk_at "subscriptTail Name BinOp ref int") => `(tactic| (k_here; (with_reducible show wpAny _ _ (subscriptTail _ _ (Value.ref _) (Value.int _ _)) _ _ _); k_dflt (first
  | (refine' item_tupleT ?t ?a ?b ?c ?d ?_; (case t => exact News.isTup (by k_asm) (by k_mem)); (case a => decide); (case b => decide); (case c => rfl); (case d => rfl); k_whole)
  | (refine' item_listL ?t ?a ?b ?c ?_; (case t => exact News.isList (by k_asm) (by k_mem)); (case a => decide); (case b => decide); (case c => rfl); k_whole))))
local macro_rules | `(tactic| walk_at "call ref") => `(tactic| (k_here; k_dflt (refine' con_use ?c0 ?c1 ?c2 ?c3 ?c4 ?c5 ?c6 ?c7 ?c8 ?_; (case c1 => k_asm); (case c2 => k_asm); (case c3 => k_asm); (case c4 => k_asm); (case c5 => k_asm); (case c6 => first | exact rfl | assumption); (case c0 => exact middle_con (by k_mem) (by k_mem)); (case c7 => ktr_room); (case c8 => ktr_units)); (rintro r' nw' h' tk' F' N' ⟨tl', e0', o', a', t', u', n', e1', e2'⟩; subst e0'; subst e1'; subst e2'; replace o' := o' _ (List.Mem.head _); simp only [AllLt, and_true] at o'; (repeat (have _ := And.left o'; replace o' := And.right o')); (try simp only [List.nil_append, List.cons_append] at N'); (try dsimp only); (try k_fold))))
theorem halves3_con {w : World} {mean mg mb} {news : Led} {aS a1 a2 a3 : Addr} {x1 y1 x2 y2 x3 y3 : Int} {t1 u1 t2 u2 t3 u3 : Tok} {nS n1 n2 n3 : Nat}
    (hS : (aS, ({ cls := .type "tuple", data := .seq #[.ref a1, .ref a2, .ref a3] nS } : Obj)) ∈ news) (h1 : (a1, tp x1 y1 t1 u1 n1) ∈ news) (h2 : (a2, tp x2 y2 t2 u2 n2) ∈ news) (h3 : (a3, tp x3 y3 t3 u3 n3) ∈ news) :
    Con w mean mg mb 143 news [.ref aS] 6 80 (CutRet news [(x1, y1), (x2, y2), (x3, y3)]) := by
  (try unfold Con)
  unfold ConM
  k_fill
  intro dp un gd cn cs a ccd cl outer A₀ base h₀ L m s Q E B F X N T hk hd hu hret
  refine wpAny_call ?_
  k_dflt ktr_enter
  k_steps
  all_goals (exact cut3_done hret (by k_asm) (by k_asm) (by intro p hp; simp only [List.mem_cons, hp, or_true]) (by k_mem) (by k_mem) (by k_mem) h1 h3 (by k_mem) (by k_mem) (by k_mem) (by assumption) (by assumption) (by assumption) (by assumption) (by assumption) (by assumption))
end Fl
namespace Fl
theorem calm_K_halves4 : True := by
  w_top off
  trivial
local macro_rules | `(tactic| walk_at "no such key 0") => `(tactic| fail)
local macro_rules | `(tactic| k_mem) => `(tactic| (show (_ : Addr × Obj) ∈ (_ : List (Addr × Obj)); ktr_member))
local macro_rules | `(tactic| k_all) => `(tactic| first | (with_reducible assumption) | exact ne_upA (by assumption) (Nat.le_refl _) | exact ne_up (by assumption) (by omega))
local macro_rules | `(tactic| k_lt $h:ident) => `(tactic| (replace $h := allLt_of $h; (simp only [AllLt, and_true] at $h:ident); (repeat (have _ := And.left $h; replace $h := And.right $h))))
local macro_rules | `(tactic| k_ne) => `(tactic| (refine neN ?_; (try dsimp only); first | with_reducible assumption | exact Ne.symm (by with_reducible assumption) | omega))
local macro_rules | `(tactic| walk_at "call builtin:list.append") => `(tactic| (k_here; (with_reducible show wpAny _ _ (call (Value.builtin _) [Value.ref _, _]) _ _ _); k_dflt (refine' append_K ?k1 ?k2 ?k3 ?_ ?z; (case k1 => k_asm); (case k2 => k_asm); (case k3 => k_upd); (case z => first | exact Nat.le_of_ble_eq_true rfl | size_fits); k_whole); intro h' F' N'; (try k_sweep)))
local macro_rules | `(tactic| ktr_enter) => `(tactic| (refine' code_defC ?k1 ?k2 ?k3 ?k4 ?k5 ?kA ?kF ?kK ?k6 ?k7 ?k8 ?k9 ?kB ?kD ?_ ?c2 ?c3 ?c4; (case kA => exact rfl); (case kF => exact rfl); (case kK => assumption); (case k1 => k_asm); (case k2 => k_asm); (case k3 => k_asm); (case k4 => k_asm); (case k5 => k_asm); (case k6 => k_is); (case k7 => k_is); (case k8 => ktr_room); (case k9 => exact BindsTo.of_eq rfl); (case kB => exact rfl); (case kD => decide +kernel); (case c2 => exact rfl); (case c3 => exact rfl); (case c4 => exact rfl); k_whole; intro g' L' h' tk' cells' FG' F' N' Y' B' X' T' l1; (try k_lt l1); k_cells Y'; (try simp only [List.cons_append, List.nil_append] at N'); (try dsimp only); (try k_fold)))
local macro_rules | `(tactic| walk_at "CompSrc") => `(tactic| (k_here; k_dflt (first
  | (refine LCg.CompSrc.ledger (by rfl) (by k_asm) (by k_asm) (by k_mem) (by first | size_fits | exact Nat.le_of_ble_eq_true rfl) ?_; intro g'; lcg_lit)
  | (refine LCg.CompSrc.range (by rfl) (by k_asm) (by k_asm) (by assumption) (by first | decide | rfl) (by first | rfl | decide) (by first | size_fits | exact Nat.le_of_ble_eq_true rfl) ?_; intro g'; lcg_lit))))
local macro_rules | `(tactic| walk_at "CompRest") => `(tactic| (with_unfolding_all first
  | (refine LCg.CompRest.succ ?_; intro v' I' oI' C' oC' D' m' h' tk' E' hv' hC' hx' F' N' off' ne'; (first | lcg_open hv' | (obtain ⟨t9', hv9'⟩ := hv'; subst hv9')); obtain ⟨_, _, _⟩ := ne')
  | refine LCg.CompRest.zero ?_))
local macro_rules | `(tactic| lcg_off) => `(tactic| with_reducible assumption)
local macro_rules | `(tactic| walk_at "FinA") => `(tactic| ((unfold LCg.FinA); intro D' h' tk' F' N' o1'; (try simp only [LCg.Off1, and_true] at o1'); (repeat (obtain ⟨_, o1'⟩ := o1')); (try simp only [List.nil_append, List.cons_append] at N'); (try dsimp only)))
local macro_rules | `(tactic| walk_at "FinE") => `(tactic| ((unfold LCg.FinE); intro D' h' tk' F' N' o1'; (try simp only [LCg.Off1, and_true] at o1'); (repeat (obtain ⟨_, o1'⟩ := o1')); (try simp only [List.nil_append, List.cons_append] at N'); (try dsimp only)))
local macro_rules | `(tactic| walk_at "eval Name") => `(tactic| (k_here; (with_reducible show wpAny _ _ (eval (Expr.Name _ _) (compEnvC _ _ _ _)) _ _ _); k_dflt (first
  | (refine' lcf_free ?N ?c ?m ?d ?_ ?a ?b; (case a => rfl); (case b => rfl); (case N => k_asm); (case c => rfl); (case m => k_mem); (case d => with_reducible assumption); k_whole)
  | refine LCgL.ld_own (by k_asm) (by k_mem) (by with_reducible assumption) (by with_reducible assumption) ?_
  | refine LCgL.ld_global (by k_asm) (by k_asm) (by k_asm) (by k_is) ?_
  | refine LCgL.ld_built (by k_asm) (by k_asm) (by k_asm) (by k_is) (by boot_by_name) (by decide) ?_)))
local macro_rules | `(tactic| walk_at "CompEnd") => `(tactic| (k_here; k_dflt (first
  | (refine ce0 (by k_asm) (by k_asm) (by assumption) (by first | exact True.intro | exact Or.inr ⟨_, by k_mem, rfl, _, rfl⟩) ?_)
  | (refine ce1 (by k_asm) (by k_asm) (by assumption) (by dsimp only; omega) (by first | exact True.intro | exact Or.inr ⟨_, by k_mem, rfl, _, rfl⟩) ?_)
  | (refine ce2 (by k_asm) (by k_asm) (by assumption) (by dsimp only; omega) (by dsimp only; omega) (by first | exact True.intro | exact Or.inr ⟨_, by k_mem, rfl, _, rfl⟩) ?_))))
local macro_rules | `(tactic| walk_at "subscriptTail") => `(tactic| (k_here; (with_reducible show wpAny _ _ (subscriptTail _ _ (Value.ref _) (Value.int _ _)) _ _ _); k_dflt (first
  | (refine' item_tupleT ?t ?a ?b ?c ?d ?_; (case t => exact News.isTup (by k_asm) (by k_mem)); (case a => decide); (case b => decide); (case c => rfl); (case d => rfl); k_whole)
  | (refine' item_listL ?t ?a ?b ?c ?_; (case t => exact News.isList (by k_asm) (by k_mem)); (case a => decide); (case b => decide); (case c => rfl); k_whole))))
local macro_rules | `(tactic| walk_at "subscriptTail Name Name ref int") => `(tactic| (k_here; (with_reducible show wpAny _ _ (subscriptTail _ _ (Value.ref _) (Value.int _ _)) _ _ _); k_dflt (first
  | (refine' item_tupleT ?t ?a ?b ?c ?d ?_; (case t => exact News.isTup (by k_asm) (by k_mem)); (case a => decide); (case b => decide); (case c => rfl); (case d => rfl); k_whole)
  | (refine' item_listL ?t ?a ?b ?c ?_; (case t => exact News.isList (by k_asm) (by k_mem)); (case a => decide); (case b => decide); (case c => rfl); k_whole))))
local macro_rules | `(tactic| walk_at "subscriptTail Name Constant ref int") => `(tactic| (k_here; (with_reducible show wpAny _ _ (subscriptTail _ _ (Value.ref _) (Value.int _ _)) _ _ _); k_dflt (first
  | (refine' item_tupleT ?t ?a ?b ?c ?d ?_; (case t => exact News.isTup (by k_asm) (by k_mem)); (case a => decide); (case b => decide); (case c => rfl); (case d => rfl); k_whole)
  | (refine' item_listL ?t ?a ?b ?c ?_; (case t => exact News.isList (by k_asm) (by k_mem)); (case a => decide); (case b => decide); (case c => rfl); k_whole))))
local macro_rules | `(tactic| walk_at "subscriptTail Name BinOp ref int") => `(tactic| (k_here; (with_reducible show wpAny _ _ (subscriptTail _ _ (Value.ref _) (Value.int _ _)) _ _ _); k_dflt (first
  | (refine' item_tupleT ?t ?a ?b ?c ?d ?_; (case t => exact News.isTup (by k_asm) (by k_mem)); (case a => decide); (case b => decide); (case c => rfl); (case d => rfl); k_whole)
  | (refine' item_listL ?t ?a ?b ?c ?_; (case t => exact News.isList (by k_asm) (by k_mem)); (case a => decide); (case b => decide); (case c => rfl); k_whole))))
local macro_rules | `(tactic| walk_at "call ref") => `(tactic| (k_here; k_dflt (refine' con_use ?c0 ?c1 ?c2 ?c3 ?c4 ?c5 ?c6 ?c7 ?c8 ?_; (case c1 => k_asm); (case c2 => k_asm); (case c3 => k_asm); (case c4 => k_asm); (case c5 => k_asm); (case c6 => first | exact rfl | assumption); (case c0 => exact middle_con (by k_mem) (by k_mem)); (case c7 => ktr_room); (case c8 => ktr_units)); (rintro r' nw' h' tk' F' N' ⟨tl', e0', o', a', t', u', n', e1', e2'⟩; subst e0'; subst e1'; subst e2'; replace o' := o' _ (List.Mem.head _); simp only [AllLt, and_true] at o'; (repeat (have _ := And.left o'; replace o' := And.right o')); (try simp only [List.nil_append, List.cons_append] at N'); (try dsimp only); (try k_fold))))
theorem halves4_con {w : World} {mean mg mb} {news : Led} {aS a1 a2 a3 a4 : Addr} {x1 y1 x2 y2 x3 y3 x4 y4 : Int} {t1 u1 t2 u2 t3 u3 t4 u4 : Tok} {nS n1 n2 n3 n4 : Nat}
    (hS : (aS, ({ cls := .type "tuple", data := .seq #[.ref a1, .ref a2, .ref a3, .ref a4] nS } : Obj)) ∈ news) (h1 : (a1, tp x1 y1 t1 u1 n1) ∈ news) (h2 : (a2, tp x2 y2 t2 u2 n2) ∈ news) (h3 : (a3, tp x3 y3 t3 u3 n3) ∈ news) (h4 : (a4, tp x4 y4 t4 u4 n4) ∈ news) :
    Con w mean mg mb 143 news [.ref aS] 6 80 (CutRet news [(x1, y1), (x2, y2), (x3, y3), (x4, y4)]) := by
  (try unfold Con)
  unfold ConM
  k_fill
  intro dp un gd cn cs a ccd cl outer A₀ base h₀ L m s Q E B F X N T hk hd hu hret
  refine wpAny_call ?_
  k_dflt ktr_enter
  k_steps
  all_goals (exact cut4_done hret (by k_asm) (by k_asm) (by intro p hp; simp only [List.mem_cons, hp, or_true]) (by k_mem) (by k_mem) (by k_mem) h1 h4 (by k_mem) (by k_mem) (by k_mem) (by k_mem) (by k_mem) (by assumption) (by assumption) (by assumption) (by assumption) (by assumption) (by assumption) (by assumption) (by assumption))
end Fl
namespace Fl
theorem calm_K_spots : True := by
  w_top off
  trivial
local macro_rules | `(tactic| k_mem) => `(tactic| (show (_ : Addr × Obj) ∈ (_ : List (Addr × Obj)); ktr_member))
local macro_rules | `(tactic| k_mem) => `(tactic| (show (_ : Addr × Obj) ∈ (_ ++ _ : List (Addr × Obj)); first | (refine List.mem_append.mpr (Or.inl ?_); k_mem) | (refine List.mem_append.mpr (Or.inr ?_); k_mem)))
local macro_rules | `(tactic| k_all) => `(tactic| first | (with_reducible assumption) | exact ne_upA (by assumption) (Nat.le_refl _) | exact ne_up (by assumption) (by omega))
local macro_rules | `(tactic| k_lt $h:ident) => `(tactic| (replace $h := allLt_of $h; (simp only [AllLt, allLt_app, and_assoc, and_true] at $h:ident); (repeat (have _ := And.left $h; replace $h := And.right $h))))
local macro_rules | `(tactic| k_ne) => `(tactic| (refine neN ?_; (try dsimp only); first | with_reducible assumption | exact Ne.symm (by with_reducible assumption) | omega))
local macro_rules | `(tactic| walk_at "call builtin:list.append") => `(tactic| (k_here; (with_reducible show wpAny _ _ (call (Value.builtin _) [Value.ref _, _]) _ _ _); k_dflt (refine' append_K ?k1 ?k2 ?k3 ?_ ?z; (case k1 => k_asm); (case k2 => k_asm); (case k3 => k_upd); (case z => first | exact Nat.le_of_ble_eq_true rfl | (rw [sizeLine_eq]; simp only [List.size_toArray, Array.size_push]; omega) | size_fits); k_whole); intro h' F' N'; (try k_sweep)))
local macro_rules | `(tactic| walk_at "subscriptTail") => `(tactic| (k_here; (with_reducible show wpAny _ _ (subscriptTail _ _ (Value.ref _) (Value.int _ _)) _ _ _); k_dflt (first
  | (refine' item_tupleT ?t ?a ?b ?c ?d ?_; (case t => exact News.isTup (by k_asm) (by k_mem)); (case a => decide); (case b => decide); (case c => rfl); (case d => rfl); k_whole)
  | (refine' item_listL ?t ?a ?b ?c ?_; (case t => exact News.isList (by k_asm) (by k_mem)); (case a => decide); (case b => decide); (case c => rfl); k_whole))))
local macro_rules | `(tactic| walk_at "subscriptTail Name Name ref int") => `(tactic| (k_here; (with_reducible show wpAny _ _ (subscriptTail _ _ (Value.ref _) (Value.int _ _)) _ _ _); k_dflt (first
  | (refine' item_tupleT ?t ?a ?b ?c ?d ?_; (case t => exact News.isTup (by k_asm) (by k_mem)); (case a => decide); (case b => decide); (case c => rfl); (case d => rfl); k_whole)
  | (refine' item_listL ?t ?a ?b ?c ?_; (case t => exact News.isList (by k_asm) (by k_mem)); (case a => decide); (case b => decide); (case c => rfl); k_whole))))
local macro_rules | `(tactic| walk_at "subscriptTail Name Constant ref int") => `(tactic| (k_here; (with_reducible show wpAny _ _ (subscriptTail _ _ (Value.ref _) (Value.int _ _)) _ _ _); k_dflt (first
  | (refine' item_tupleT ?t ?a ?b ?c ?d ?_; (case t => exact News.isTup (by k_asm) (by k_mem)); (case a => decide); (case b => decide); (case c => rfl); (case d => rfl); k_whole)
  | (refine' item_listL ?t ?a ?b ?c ?_; (case t => exact News.isList (by k_asm) (by k_mem)); (case a => decide); (case b => decide); (case c => rfl); k_whole))))
local macro_rules | `(tactic| walk_at "subscriptTail Name BinOp ref int") => `(tactic| (k_here; (with_reducible show wpAny _ _ (subscriptTail _ _ (Value.ref _) (Value.int _ _)) _ _ _); k_dflt (first
  | (refine' item_tupleT ?t ?a ?b ?c ?d ?_; (case t => exact News.isTup (by k_asm) (by k_mem)); (case a => decide); (case b => decide); (case c => rfl); (case d => rfl); k_whole)
  | (refine' item_listL ?t ?a ?b ?c ?_; (case t => exact News.isList (by k_asm) (by k_mem)); (case a => decide); (case b => decide); (case c => rfl); k_whole))))
local macro_rules | `(tactic| walk_at "compareOp NotEq ref ref") => `(tactic| (k_here; (with_reducible show wpAny _ _ (compareOp CmpOp.NotEq (Value.ref _) (Value.ref _)) _ _ _); k_dflt (first
  | refine ne_empty (News.isList (by k_asm) (by k_mem)) (News.isList (by k_asm) (by k_mem)) (by ktr_units) ?_
  | refine ne_full (News.isList (by k_asm) (by k_mem)) (News.isList (by k_asm) (by k_mem)) (by first | decide | simp; done) (by ktr_units) ?_)))
local macro_rules | `(tactic| walk_at "compareOp Eq ref ref") => `(tactic| (k_here; (with_reducible show wpAny _ _ (compareOp CmpOp.Eq (Value.ref _) (Value.ref _)) _ _ _); k_dflt (first
  | refine eq_empty (News.isList (by k_asm) (by k_mem)) (News.isList (by k_asm) (by k_mem)) (by ktr_units) ?_
  | refine eq_full (News.isList (by k_asm) (by k_mem)) (News.isList (by k_asm) (by k_mem)) (by first | decide | simp; done) (by ktr_units) ?_)))
local macro_rules | `(tactic| k_upd) => `(tactic| (refine' upd_app ?a ?b; (case a => exact off_above (by assumption) (by k_mem)); (case b => k_upd)))
local macro_rules | `(tactic| walk_at "call type:tuple") => `(tactic| (k_here; (with_reducible show wpAny _ _ (call (Value.type _) [Value.ref _]) _ _ _); k_dflt (refine' kde_tupleOf ?k1 ?k2 ?k3 ?k4 ?k5 ?_; (case k1 => k_asm); (case k2 => k_asm); (case k3 => exact News.isList (by k_asm) (by k_mem)); (case k4 => first | exact Nat.le_of_ble_eq_true rfl | (simp only [List.size_toArray]; omega)); (case k5 => exact rfl); k_whole); intro D' h' F' N' l1; (try k_lt l1); (try k_sweep)))
local macro_rules | `(tactic| walk_at "call builtin:list.pop") => `(tactic| (k_here; (with_reducible show wpAny _ _ (call (Value.builtin _) [Value.ref _]) _ _ _); k_dflt (refine' pop_snoc ?F ?N ?U ?z ?_; (case F => k_asm); (case N => k_asm); (case U => k_upd); (case z => omega)); kl_rest))
local macro_rules | `(tactic| walk_at "call ref") => `(tactic| (k_here; k_dflt (refine' con_use ?c0 ?c1 ?c2 ?c3 ?c4 ?c5 ?c6 ?c7 ?c8 ?_; (case c1 => k_asm); (case c2 => k_asm); (case c3 => k_asm); (case c4 => k_asm); (case c5 => k_asm); (case c6 => first | exact rfl | assumption); (case c0 => (first | exact flat3_con (by k_mem) (by k_mem) (by k_mem) (by k_mem) (by assumption) (by assumption) (by assumption) (by assumption) (by assumption) (by assumption) (by assumption) | exact flat4_con (by k_mem) (by k_mem) (by k_mem) (by k_mem) (by k_mem) (by assumption) (by assumption) (by assumption) (by assumption) (by assumption) (by assumption) (by assumption) (by assumption) (by assumption))); (case c7 => ktr_room); (case c8 => ktr_units)); (rintro r' nw' h' tk' F' N' ⟨tl', e0', o', e1', e2'⟩; subst e0'; subst e1'; subst e2'; clear o'; (try simp only [List.nil_append, List.cons_append] at N'); (try dsimp only); (try k_fold))))
local macro_rules | `(tactic| walk_at "call ref") => `(tactic| (k_here; k_dflt (refine' con_use ?c0 ?c1 ?c2 ?c3 ?c4 ?c5 ?c6 ?c7 ?c8 ?_; (case c1 => k_asm); (case c2 => k_asm); (case c3 => k_asm); (case c4 => k_asm); (case c5 => k_asm); (case c6 => first | exact rfl | assumption); (case c0 => (first | exact halves3_con (by k_mem) (by k_mem) (by k_mem) (by k_mem) | exact halves4_con (by k_mem) (by k_mem) (by k_mem) (by k_mem) (by k_mem))); (case c7 => ktr_room); (case c8 => ktr_units)); (rintro r' nw' h' tk' F' N' ⟨tl', e0', o', T', A', B', n', e1', m1', tA', tB'⟩; subst e0'; subst e1'; (try simp only [List.nil_append, List.cons_append] at N'); (try dsimp only); (try k_fold))))

theorem spots_con {w : World} {mean mg mb} {news : Led} {aS : Addr} {nS : Nat} {vs : List Value} {ps : List Pt} {b : Int} {K : Nat} {tb tk : Tok}
    (hS : (aS, ({ cls := .type "list", data := .seq vs.toArray nS } : Obj)) ∈ news) (hv : All2 (PtIn news) vs ps) (ok : PsOk ps) (bb : 0 ≤ b ∧ b ≤ 100) (hK : K ≤ 3) :
    Con w mean mg mb 150 news [.ref aS, .int b tb, .int (K : Int) tk] 14 200 (SpotsRet news (fsp b K ps)) := by
  (try unfold Con)
  unfold ConM
  k_fill
  intro dp un gd cn cs a ccd cl outer A₀ base h₀ L m s Q E B F X N T hk hd hu hret
  have hlen : vs.length ≤ 4 := by rw [hv.length]; obtain ⟨h | h, _⟩ := ok <;> omega
  refine wpAny_call ?_
  k_dflt ktr_enter
  (repeat' (first | (k_unfold; (try dsimp only)) | (k_end; wrow_close) | ((fail_if_success (with_reducible show wpAny _ _ (exec (PySem.Stmt.While _ _ _ _) _) _ _ _)); first | walk1 | (dsimp only; walk1)) | (leave1; walk_say "STEP leave1"; try dsimp only) | fail "no step"))
  (rename Fr _ _ _ _ => lF'); (rename News _ _ _ _ => lN')
  refine spots_while (b := b) (vs := vs) lF' lN' hv ok hK (by assumption) (by assumption) (by assumption) (by assumption) (by assumption) (by assumption) (by assumption) ?_
  clear lF' lN'
  intro c u h tk hc hw F1 N1
  obtain ⟨base, lv, fv, nl, nf, st, fd⟩ := c
  obtain ⟨c1, c2, c3, c4, ⟨tl, e, c5⟩, c6, c7⟩ := hc
  dsimp only [FS.led] at c1 c2 c3 c4 e c6 c7 hw N1
  have hfv : fv.length ≤ 8 := by
    rw [c2.length]
    have h1 := fsp_len b K ps
    have h2 : 2 ^ K ≤ 2 ^ 3 := Nat.pow_le_pow_right (by decide) hK
    rw [← c4, List.length_append] at h1
    omega
  have hc : FS.Ok news _ _ b K ps ⟨base, lv, fv, nl, nf, st, fd⟩ := ⟨c1, c2, c3, c4, ⟨tl, e, c5⟩, c6, c7⟩
  rcases List.eq_nil_or_concat lv with rfl | ⟨xs, v, rfl⟩
  · k_steps
    all_goals (exact spots_fin hret (by k_asm) (by k_asm) hc (by assumption))
  · rw [List.concat_eq_append] at *
    obtain ⟨st', ⟨ps', d⟩, rfl, c1a, ⟨aT, nT, tv, td, rfl, mT, ⟨aV, nV, vs', rfl, mV, hv'⟩⟩⟩ := All2.snoc c1
    obtain ⟨⟨hl, hb⟩, hd'⟩ := c3 _ (List.mem_append_right _ (List.mem_singleton.mpr rfl))
    have hxs : xs.length ≤ 15 := by
      have := wt_len K st'
      rw [wt_snoc] at hw
      rw [c1a.length]; omega
    dsimp only at hl hb hd' mT mV hv'
    rcases ps' with _ | ⟨⟨x1, y1⟩, _ | ⟨⟨x2, y2⟩, _ | ⟨⟨x3, y3⟩, _ | ⟨⟨x4, y4⟩, _ | ⟨p5, r⟩⟩⟩⟩⟩ <;> simp only [List.length_cons, List.length_nil] at hl
    all_goals try omega
    · rcases vs' with _ | ⟨v1, _ | ⟨v2, _ | ⟨v3, _ | ⟨v4, r⟩⟩⟩⟩ <;> try exact hv'.elim
      · exact hv'.2.elim
      · exact hv'.2.2.elim
      · obtain ⟨⟨a1, t1, u1, n1, rfl, m1⟩, ⟨a2, t2, u2, n2, rfl, m2⟩, ⟨a3, t3, u3, n3, rfl, m3⟩, _⟩ := hv'
        obtain ⟨b1, b1'⟩ := hb (x1, y1) (by simp)
        obtain ⟨b2, b2'⟩ := hb (x2, y2) (by simp)
        obtain ⟨b3, b3'⟩ := hb (x3, y3) (by simp)
        dsimp only at b1 b1' b2 b2' b3 b3' m1 m2 m3
        k_steps
        all_goals (first
          | exact spots_leaf hc hw c1a (by first | exact leaf_deep (by assumption) | exact leaf_flat (by assumption)) (ptm m3) (by k_asm) (by k_asm) (by intro z h3; simp only [spotsStored, List.contains_cons, List.contains_nil, Bool.or_false, Bool.or_eq_false_iff, beq_eq_false_iff_ne, ne_eq] at h3; simp [h3, spotsStored])
          | exact spots_cut hc hw c1a (by assumption) (by assumption) (by k_asm) (by k_asm) (by assumption) rfl (by assumption) (by assumption) (by assumption) (by assumption) (by assumption) (by assumption) (by assumption) (by assumption) (by intro z h3; simp only [spotsStored, List.contains_cons, List.contains_nil, Bool.or_false, Bool.or_eq_false_iff, beq_eq_false_iff_ne, ne_eq] at h3; simp [h3, spotsStored]))
      · exact hv'.2.2.2.elim
    · rcases vs' with _ | ⟨v1, _ | ⟨v2, _ | ⟨v3, _ | ⟨v4, _ | ⟨v5, r⟩⟩⟩⟩⟩ <;> try exact hv'.elim
      · exact hv'.2.elim
      · exact hv'.2.2.elim
      · exact hv'.2.2.2.elim
      · obtain ⟨⟨a1, t1, u1, n1, rfl, m1⟩, ⟨a2, t2, u2, n2, rfl, m2⟩, ⟨a3, t3, u3, n3, rfl, m3⟩, ⟨a4, t4, u4, n4, rfl, m4⟩, _⟩ := hv'
        obtain ⟨b1, b1'⟩ := hb (x1, y1) (by simp)
        obtain ⟨b2, b2'⟩ := hb (x2, y2) (by simp)
        obtain ⟨b3, b3'⟩ := hb (x3, y3) (by simp)
        obtain ⟨b4, b4'⟩ := hb (x4, y4) (by simp)
        dsimp only at b1 b1' b2 b2' b3 b3' b4 b4' m1 m2 m3 m4
        k_steps
        all_goals (first
          | exact spots_leaf hc hw c1a (by first | exact leaf_deep (by assumption) | exact leaf_flat (by assumption)) (ptm m4) (by k_asm) (by k_asm) (by intro z h3; simp only [spotsStored, List.contains_cons, List.contains_nil, Bool.or_false, Bool.or_eq_false_iff, beq_eq_false_iff_ne, ne_eq] at h3; simp [h3, spotsStored])
          | exact spots_cut hc hw c1a (by assumption) (by assumption) (by k_asm) (by k_asm) (by assumption) rfl (by assumption) (by assumption) (by assumption) (by assumption) (by assumption) (by assumption) (by assumption) (by assumption) (by intro z h3; simp only [spotsStored, List.contains_cons, List.contains_nil, Bool.or_false, Bool.or_eq_false_iff, beq_eq_false_iff_ne, ne_eq] at h3; simp [h3, spotsStored]))
      · exact hv'.2.2.2.2.elim
end Fl
namespace Fl
theorem calm_K_place : True := by
  w_top off
  trivial
local macro_rules | `(tactic| k_mem) => `(tactic| (show (_ : Addr × Obj) ∈ (_ : List (Addr × Obj)); ktr_member))
local macro_rules | `(tactic| k_mem) => `(tactic| (show (_ : Addr × Obj) ∈ (_ ++ _ : List (Addr × Obj)); first | (refine List.mem_append.mpr (Or.inl ?_); k_mem) | (refine List.mem_append.mpr (Or.inr ?_); k_mem)))
local macro_rules | `(tactic| k_all) => `(tactic| first | (with_reducible assumption) | exact ne_upA (by assumption) (Nat.le_refl _) | exact ne_up (by assumption) (by omega))
local macro_rules | `(tactic| k_lt $h:ident) => `(tactic| (replace $h := allLt_of $h; (simp only [AllLt, allLt_app, and_assoc, and_true] at $h:ident); (repeat (have _ := And.left $h; replace $h := And.right $h))))
local macro_rules | `(tactic| k_ne) => `(tactic| (refine neN ?_; (try dsimp only); first | with_reducible assumption | exact Ne.symm (by with_reducible assumption) | omega))
local macro_rules | `(tactic| walk_at "call builtin:list.append") => `(tactic| (k_here; (with_reducible show wpAny _ _ (call (Value.builtin _) [Value.ref _, _]) _ _ _); k_dflt (refine' append_K ?k1 ?k2 ?k3 ?_ ?z; (case k1 => k_asm); (case k2 => k_asm); (case k3 => k_upd); (case z => first | exact Nat.le_of_ble_eq_true rfl | size_fits); k_whole); intro h' F' N'; (try k_sweep)))
local macro_rules | `(tactic| ktr_enter) => `(tactic| (refine' code_defC ?k1 ?k2 ?k3 ?k4 ?k5 ?kA ?kF ?kK ?k6 ?k7 ?k8 ?k9 ?kB ?kD ?_ ?c2 ?c3 ?c4; (case kA => exact rfl); (case kF => exact rfl); (case kK => assumption); (case k1 => k_asm); (case k2 => k_asm); (case k3 => k_asm); (case k4 => k_asm); (case k5 => k_asm); (case k6 => k_is); (case k7 => k_is); (case k8 => ktr_room); (case k9 => exact BindsTo.of_eq rfl); (case kB => exact rfl); (case kD => decide +kernel); (case c2 => exact rfl); (case c3 => exact rfl); (case c4 => exact rfl); k_whole; intro g' L' h' tk' cells' FG' F' N' Y' B' X' T' l1; (try k_lt l1); k_cells Y'; (try simp only [List.cons_append, List.nil_append] at N'); (try dsimp only); (try k_fold)))
local macro_rules | `(tactic| walk_at "CompSrc") => `(tactic| (k_here; k_dflt (first
  | (refine LCg.CompSrc.ledger (by rfl) (by k_asm) (by k_asm) (by k_mem) (by first | size_fits | exact Nat.le_of_ble_eq_true rfl) ?_; intro g'; lcg_lit)
  | (refine LCg.CompSrc.range (by rfl) (by k_asm) (by k_asm) (by assumption) (by first | decide | rfl) (by first | rfl | decide) (by first | size_fits | exact Nat.le_of_ble_eq_true rfl) ?_; intro g'; lcg_lit))))
local macro_rules | `(tactic| walk_at "CompRest") => `(tactic| (with_unfolding_all first
  | (refine LCg.CompRest.succ ?_; intro v' I' oI' C' oC' D' m' h' tk' E' hv' hC' hx' F' N' off' ne'; (first | lcg_open hv' | (obtain ⟨t9', hv9'⟩ := hv'; subst hv9')); obtain ⟨_, _, _⟩ := ne')
  | refine LCg.CompRest.zero ?_))
local macro_rules | `(tactic| lcg_off) => `(tactic| with_reducible assumption)
local macro_rules | `(tactic| walk_at "FinA") => `(tactic| ((unfold LCg.FinA); intro D' h' tk' F' N' o1'; (try simp only [LCg.Off1, and_true] at o1'); (repeat (obtain ⟨_, o1'⟩ := o1')); (try simp only [List.nil_append, List.cons_append] at N'); (try dsimp only)))
local macro_rules | `(tactic| walk_at "FinE") => `(tactic| ((unfold LCg.FinE); intro D' h' tk' F' N' o1'; (try simp only [LCg.Off1, and_true] at o1'); (repeat (obtain ⟨_, o1'⟩ := o1')); (try simp only [List.nil_append, List.cons_append] at N'); (try dsimp only)))
local macro_rules | `(tactic| walk_at "eval Name") => `(tactic| (k_here; (with_reducible show wpAny _ _ (eval (Expr.Name _ _) (compEnvC _ _ _ _)) _ _ _); k_dflt (first
  | (refine' lcf_free ?N ?c ?m ?d ?_ ?a ?b; (case a => rfl); (case b => rfl); (case N => k_asm); (case c => rfl); (case m => k_mem); (case d => with_reducible assumption); k_whole)
  | refine LCgL.ld_own (by k_asm) (by k_mem) (by with_reducible assumption) (by with_reducible assumption) ?_
  | refine LCgL.ld_global (by k_asm) (by k_asm) (by k_asm) (by k_is) ?_
  | refine LCgL.ld_built (by k_asm) (by k_asm) (by k_asm) (by k_is) (by boot_by_name) (by decide) ?_)))
local macro_rules | `(tactic| walk_at "CompEnd") => `(tactic| (k_here; k_dflt (first
  | (refine ce0 (by k_asm) (by k_asm) (by assumption) (by first | exact True.intro | exact Or.inr ⟨_, by k_mem, rfl, _, rfl⟩) ?_)
  | (refine ce1 (by k_asm) (by k_asm) (by assumption) (by dsimp only; omega) (by first | exact True.intro | exact Or.inr ⟨_, by k_mem, rfl, _, rfl⟩) ?_)
  | (refine ce2 (by k_asm) (by k_asm) (by assumption) (by dsimp only; omega) (by dsimp only; omega) (by first | exact True.intro | exact Or.inr ⟨_, by k_mem, rfl, _, rfl⟩) ?_))))
local macro_rules | `(tactic| walk_at "subscriptTail") => `(tactic| (k_here; (with_reducible show wpAny _ _ (subscriptTail _ _ (Value.ref _) (Value.int _ _)) _ _ _); k_dflt (first
  | (refine' item_tupleT ?t ?a ?b ?c ?d ?_; (case t => exact News.isTup (by k_asm) (by k_mem)); (case a => decide); (case b => decide); (case c => rfl); (case d => rfl); k_whole)
  | (refine' item_listL ?t ?a ?b ?c ?_; (case t => exact News.isList (by k_asm) (by k_mem)); (case a => decide); (case b => decide); (case c => rfl); k_whole))))
local macro_rules | `(tactic| walk_at "subscriptTail Name Name ref int") => `(tactic| (k_here; (with_reducible show wpAny _ _ (subscriptTail _ _ (Value.ref _) (Value.int _ _)) _ _ _); k_dflt (first
  | (refine' item_tupleT ?t ?a ?b ?c ?d ?_; (case t => exact News.isTup (by k_asm) (by k_mem)); (case a => decide); (case b => decide); (case c => rfl); (case d => rfl); k_whole)
  | (refine' item_listL ?t ?a ?b ?c ?_; (case t => exact News.isList (by k_asm) (by k_mem)); (case a => decide); (case b => decide); (case c => rfl); k_whole))))
local macro_rules | `(tactic| walk_at "subscriptTail Name Constant ref int") => `(tactic| (k_here; (with_reducible show wpAny _ _ (subscriptTail _ _ (Value.ref _) (Value.int _ _)) _ _ _); k_dflt (first
  | (refine' item_tupleT ?t ?a ?b ?c ?d ?_; (case t => exact News.isTup (by k_asm) (by k_mem)); (case a => decide); (case b => decide); (case c => rfl); (case d => rfl); k_whole)
  | (refine' item_listL ?t ?a ?b ?c ?_; (case t => exact News.isList (by k_asm) (by k_mem)); (case a => decide); (case b => decide); (case c => rfl); k_whole))))
local macro_rules | `(tactic| walk_at "subscriptTail Name BinOp ref int") => `(tactic| (k_here; (with_reducible show wpAny _ _ (subscriptTail _ _ (Value.ref _) (Value.int _ _)) _ _ _); k_dflt (first
  | (refine' item_tupleT ?t ?a ?b ?c ?d ?_; (case t => exact News.isTup (by k_asm) (by k_mem)); (case a => decide); (case b => decide); (case c => rfl); (case d => rfl); k_whole)
  | (refine' item_listL ?t ?a ?b ?c ?_; (case t => exact News.isList (by k_asm) (by k_mem)); (case a => decide); (case b => decide); (case c => rfl); k_whole))))
local macro_rules | `(tactic| walk_at "exec Assign cons ListComp") => `(tactic| (k_here; k_dflt (refine assign_comp (by with_unfolding_all rfl) (by with_unfolding_all rfl) (by rfl) (by decide) ?_)))
local macro_rules | `(tactic| walk_at "eval ListComp") => `(tactic| (k_here; k_dflt (refine LCg.ListComp_U (F₀ := by k_asm) (by with_unfolding_all rfl) (by decide) (by rfl) (by decide) (by rfl) ?_)))
local macro_rules | `(tactic| walk_at "exec While Compare cons nil") => `(tactic| (k_here; k_dflt (refine whl_start 100 ?_)))
theorem place3_con {w : World} {mean mg mb} {news : Led} {aS a1 a2 a3 : Addr} {x1 y1 x2 y2 x3 y3 : Int} {t1 u1 t2 u2 t3 u3 : Tok} {nS n1 n2 n3 : Nat} {bf mn : Int} {tb tm : Tok} (hbf : 0 ≤ bf ∧ bf ≤ 8) (hmn : 0 ≤ mn ∧ mn ≤ 8)
    (hS : (aS, ({ cls := .type "list", data := .seq #[.ref a1, .ref a2, .ref a3] nS } : Obj)) ∈ news) (h1 : (a1, tp x1 y1 t1 u1 n1) ∈ news) (h2 : (a2, tp x2 y2 t2 u2 n2) ∈ news) (h3 : (a3, tp x3 y3 t3 u3 n3) ∈ news) :
    ConM w mean mg mb 326 news [.ref aS, .int bf tb, .int mn tm] 8 100 (PlaceRet news (place mn bf 2 [(x1, y1), (x2, y2), (x3, y3)])) := by
  (try unfold Con)
  unfold ConM
  k_fill
  intro dp un gd cn cs a ccd cl outer A₀ base h₀ L m s Q E B F X N T hk hd hu hret
  have hv0 : All2 (PtIn news) [.ref a1, .ref a2, .ref a3] [(x1, y1), (x2, y2), (x3, y3)] := ⟨ptm (p := (x1, y1)) h1, ptm (p := (x2, y2)) h2, ptm (p := (x3, y3)) h3, trivial⟩
  refine wpAny_call ?_
  k_dflt ktr_enter
  (repeat' (first | (k_unfold; (try dsimp only)) | (k_end; wrow_close) | ((fail_if_success (with_reducible show wpAny _ _ (call (Value.type "zip") _) _ _ _)); first | walk1 | (dsimp only; walk1)) | (leave1; walk_say "STEP leave1"; try dsimp only) | fail "no step"))
  refine zip_core (J := plJ mn bf [(x1, y1), (x2, y2), (x3, y3)]) rfl rfl (by decide) (fun _ _ => rfl) (fun _ _ => rfl) rfl (by k_asm) (by k_asm) (by k_mem) (by k_mem) (fun _ h => h) (Nat.le_of_ble_eq_true rfl) trivial ?step1 ?fin1
  case step1 =>
    intro i x y ys' new own C c1 c2 D oC o1 o2 h tk E' hx hy hJ d1 d2 F2 N2
    obtain ⟨p, hp, ax, tx, ux, nx, rfl, mx⟩ := All2.get hv0 hx
    obtain ⟨q, hq, ay, ty, uy, ny, rfl, my⟩ := All2.get (i := i + 1) hv0 (by simpa using hy)
    have hi := (List.getElem?_eq_some_iff.mp hx).1
    k_steps
    all_goals (exact bend1 (by k_asm) (by k_asm) (off1_iff.mp (by with_reducible assumption)) (plJ_step hJ hp hq))
  intro ys1 new1 D1 C h tk m' hJ lD1 ln1 nD1 F3 N3 offC hn hC0 hCL
  have hv1 := plJ_fin hJ (Nat.le_refl _)
  clear hJ
  refine post_use (by rfl) (by rfl) (by rfl) F3 N3 offC hn hC0 hCL ?_
  clear F3 N3 offC hn hC0 hCL
  intro h tk F3 N3
  rcases ys1 with _ | ⟨v1_1, _ | ⟨v1_2, _ | ⟨vX, rX⟩⟩⟩
  · exact (hv1).elim
  · exact (hv1.2).elim
  rotate_left
  · exact (hv1.2.2).elim
  have hw1 := hv1
  obtain ⟨⟨r1_1, w1_1, z1_1, rfl, m1_1⟩, ⟨r1_2, w1_2, z1_2, rfl, m1_2⟩, _⟩ := hw1
  dsimp only [blends] at hv1 m1_1 m1_2
  (repeat' (first | (k_unfold; (try dsimp only)) | (k_end; wrow_close) | ((fail_if_success (with_reducible show wpAny _ _ (call (Value.type "zip") _) _ _ _)); first | walk1 | (dsimp only; walk1)) | (leave1; walk_say "STEP leave1"; try dsimp only) | fail "no step"))
  refine zip_core (J := plJ mn bf (blends mn bf [(x1, y1), (x2, y2), (x3, y3)])) rfl rfl (by decide) (fun _ _ => rfl) (fun _ _ => rfl) rfl (by k_asm) (by k_asm) (by k_mem) (by k_mem) (fun _ h => h) (Nat.le_of_ble_eq_true rfl) trivial ?step2 ?fin2
  case step2 =>
    intro i x y ys' new own C c1 c2 D oC o1 o2 h tk E' hx hy hJ d1 d2 F2 N2
    obtain ⟨p, hp, ax, tx, ux, rfl, mx⟩ := All2.get hv1 hx
    obtain ⟨q, hq, ay, ty, uy, rfl, my⟩ := All2.get (i := i + 1) hv1 (by simpa using hy)
    have hi := (List.getElem?_eq_some_iff.mp hx).1
    k_steps
    all_goals (exact bend1 (by k_asm) (by k_asm) (off1_iff.mp (by with_reducible assumption)) (plJ_step hJ hp hq))
  intro ys2 new2 D2 C h tk m' hJ lD2 ln2 nD2 F3 N3 offC hn hC0 hCL
  have hv2 := plJ_fin hJ (Nat.le_refl _)
  clear hJ
  refine post_use (by rfl) (by rfl) (by rfl) F3 N3 offC hn hC0 hCL ?_
  clear F3 N3 offC hn hC0 hCL
  intro h tk F3 N3
  rcases ys2 with _ | ⟨v2_1, _ | ⟨vX, rX⟩⟩
  · exact (hv2).elim
  rotate_left
  · exact (hv2.2).elim
  have hw2 := hv2
  obtain ⟨⟨r2_1, w2_1, z2_1, rfl, m2_1⟩, _⟩ := hw2
  dsimp only [blends] at hv2 m2_1
  k_steps
  all_goals (
    refine hret _ ((r2_1, LCg.lst [.int (place mn bf 2 [(x1, y1), (x2, y2), (x3, y3)]).1 w2_1, .int (place mn bf 2 [(x1, y1), (x2, y2), (x3, y3)]).2 z2_1]) :: news) _ _ (by k_asm) (con_drop (by k_asm) ?_) ⟨r2_1, w2_1, z2_1, rfl, rfl, fun p hp => ln2 _ m2_1 p (by simp [hp])⟩
    intro p hp
    rcases List.mem_cons.mp hp with h | h
    · rw [h]; exact List.mem_cons_of_mem _ (List.mem_append_left _ m2_1)
    · simp [h])
end Fl
namespace Fl
theorem calm_K_place4 : True := by
  w_top off
  trivial
local macro_rules | `(tactic| walk_at "no such key 0") => `(tactic| fail)
local macro_rules | `(tactic| k_mem) => `(tactic| (show (_ : Addr × Obj) ∈ (_ : List (Addr × Obj)); ktr_member))
local macro_rules | `(tactic| k_mem) => `(tactic| (show (_ : Addr × Obj) ∈ (_ ++ _ : List (Addr × Obj)); first | (refine List.mem_append.mpr (Or.inl ?_); k_mem) | (refine List.mem_append.mpr (Or.inr ?_); k_mem)))
local macro_rules | `(tactic| k_all) => `(tactic| first | (with_reducible assumption) | exact ne_upA (by assumption) (Nat.le_refl _) | exact ne_up (by assumption) (by omega))
local macro_rules | `(tactic| k_lt $h:ident) => `(tactic| (replace $h := allLt_of $h; (simp only [AllLt, allLt_app, and_assoc, and_true] at $h:ident); (repeat (have _ := And.left $h; replace $h := And.right $h))))
local macro_rules | `(tactic| k_ne) => `(tactic| (refine neN ?_; (try dsimp only); first | with_reducible assumption | exact Ne.symm (by with_reducible assumption) | omega))
local macro_rules | `(tactic| walk_at "call builtin:list.append") => `(tactic| (k_here; (with_reducible show wpAny _ _ (call (Value.builtin _) [Value.ref _, _]) _ _ _); k_dflt (refine' append_K ?k1 ?k2 ?k3 ?_ ?z; (case k1 => k_asm); (case k2 => k_asm); (case k3 => k_upd); (case z => first | exact Nat.le_of_ble_eq_true rfl | size_fits); k_whole); intro h' F' N'; (try k_sweep)))
local macro_rules | `(tactic| ktr_enter) => `(tactic| (refine' code_defC ?k1 ?k2 ?k3 ?k4 ?k5 ?kA ?kF ?kK ?k6 ?k7 ?k8 ?k9 ?kB ?kD ?_ ?c2 ?c3 ?c4; (case kA => exact rfl); (case kF => exact rfl); (case kK => assumption); (case k1 => k_asm); (case k2 => k_asm); (case k3 => k_asm); (case k4 => k_asm); (case k5 => k_asm); (case k6 => k_is); (case k7 => k_is); (case k8 => ktr_room); (case k9 => exact BindsTo.of_eq rfl); (case kB => exact rfl); (case kD => decide +kernel); (case c2 => exact rfl); (case c3 => exact rfl); (case c4 => exact rfl); k_whole; intro g' L' h' tk' cells' FG' F' N' Y' B' X' T' l1; (try k_lt l1); k_cells Y'; (try simp only [List.cons_append, List.nil_append] at N'); (try dsimp only); (try k_fold)))
local macro_rules | `(tactic| walk_at "CompSrc") => `(tactic| (k_here; k_dflt (first
  | (refine LCg.CompSrc.ledger (by rfl) (by k_asm) (by k_asm) (by k_mem) (by first | size_fits | exact Nat.le_of_ble_eq_true rfl) ?_; intro g'; lcg_lit)
  | (refine LCg.CompSrc.range (by rfl) (by k_asm) (by k_asm) (by assumption) (by first | decide | rfl) (by first | rfl | decide) (by first | size_fits | exact Nat.le_of_ble_eq_true rfl) ?_; intro g'; lcg_lit))))
local macro_rules | `(tactic| walk_at "CompRest") => `(tactic| (with_unfolding_all first
  | (refine LCg.CompRest.succ ?_; intro v' I' oI' C' oC' D' m' h' tk' E' hv' hC' hx' F' N' off' ne'; (first | lcg_open hv' | (obtain ⟨t9', hv9'⟩ := hv'; subst hv9')); obtain ⟨_, _, _⟩ := ne')
  | refine LCg.CompRest.zero ?_))
local macro_rules | `(tactic| lcg_off) => `(tactic| with_reducible assumption)
local macro_rules | `(tactic| walk_at "FinA") => `(tactic| ((unfold LCg.FinA); intro D' h' tk' F' N' o1'; (try simp only [LCg.Off1, and_true] at o1'); (repeat (obtain ⟨_, o1'⟩ := o1')); (try simp only [List.nil_append, List.cons_append] at N'); (try dsimp only)))
local macro_rules | `(tactic| walk_at "FinE") => `(tactic| ((unfold LCg.FinE); intro D' h' tk' F' N' o1'; (try simp only [LCg.Off1, and_true] at o1'); (repeat (obtain ⟨_, o1'⟩ := o1')); (try simp only [List.nil_append, List.cons_append] at N'); (try dsimp only)))
local macro_rules | `(tactic| walk_at "eval Name") => `(tactic| (k_here; (with_reducible show wpAny _ _ (eval (Expr.Name _ _) (compEnvC _ _ _ _)) _ _ _); k_dflt (first
  | (refine' lcf_free ?N ?c ?m ?d ?_ ?a ?b; (case a => rfl); (case b => rfl); (case N => k_asm); (case c => rfl); (case m => k_mem); (case d => with_reducible assumption); k_whole)
  | refine LCgL.ld_own (by k_asm) (by k_mem) (by with_reducible assumption) (by with_reducible assumption) ?_
  | refine LCgL.ld_global (by k_asm) (by k_asm) (by k_asm) (by k_is) ?_
  | refine LCgL.ld_built (by k_asm) (by k_asm) (by k_asm) (by k_is) (by boot_by_name) (by decide) ?_)))
local macro_rules | `(tactic| walk_at "CompEnd") => `(tactic| (k_here; k_dflt (first
  | (refine ce0 (by k_asm) (by k_asm) (by assumption) (by first | exact True.intro | exact Or.inr ⟨_, by k_mem, rfl, _, rfl⟩) ?_)
  | (refine ce1 (by k_asm) (by k_asm) (by assumption) (by dsimp only; omega) (by first | exact True.intro | exact Or.inr ⟨_, by k_mem, rfl, _, rfl⟩) ?_)
  | (refine ce2 (by k_asm) (by k_asm) (by assumption) (by dsimp only; omega) (by dsimp only; omega) (by first | exact True.intro | exact Or.inr ⟨_, by k_mem, rfl, _, rfl⟩) ?_))))
local macro_rules | `(tactic| walk_at "subscriptTail") => `(tactic| (k_here; (with_reducible show wpAny _ _ (subscriptTail _ _ (Value.ref _) (Value.int _ _)) _ _ _); k_dflt (first
  | (refine' item_tupleT ?t ?a ?b ?c ?d ?_; (case t => exact News.isTup (by k_asm) (by k_mem)); (case a => decide); (case b => decide); (case c => rfl); (case d => rfl); k_whole)
  | (refine' item_listL ?t ?a ?b ?c ?_; (case t => exact News.isList (by k_asm) (by k_mem)); (case a => decide); (case b => decide); (case c => rfl); k_whole))))
local macro_rules | `(tactic| walk_at "subscriptTail Name Name ref int") => `(tactic| (k_here; (with_reducible show wpAny _ _ (subscriptTail _ _ (Value.ref _) (Value.int _ _)) _ _ _); k_dflt (first
  | (refine' item_tupleT ?t ?a ?b ?c ?d ?_; (case t => exact News.isTup (by k_asm) (by k_mem)); (case a => decide); (case b => decide); (case c => rfl); (case d => rfl); k_whole)
  | (refine' item_listL ?t ?a ?b ?c ?_; (case t => exact News.isList (by k_asm) (by k_mem)); (case a => decide); (case b => decide); (case c => rfl); k_whole))))
local macro_rules | `(tactic| walk_at "subscriptTail Name Constant ref int") => `(tactic| (k_here; (with_reducible show wpAny _ _ (subscriptTail _ _ (Value.ref _) (Value.int _ _)) _ _ _); k_dflt (first
  | (refine' item_tupleT ?t ?a ?b ?c ?d ?_; (case t => exact News.isTup (by k_asm) (by k_mem)); (case a => decide); (case b => decide); (case c => rfl); (case d => rfl); k_whole)
  | (refine' item_listL ?t ?a ?b ?c ?_; (case t => exact News.isList (by k_asm) (by k_mem)); (case a => decide); (case b => decide); (case c => rfl); k_whole))))
local macro_rules | `(tactic| walk_at "subscriptTail Name BinOp ref int") => `(tactic| (k_here; (with_reducible show wpAny _ _ (subscriptTail _ _ (Value.ref _) (Value.int _ _)) _ _ _); k_dflt (first
  | (refine' item_tupleT ?t ?a ?b ?c ?d ?_; (case t => exact News.isTup (by k_asm) (by k_mem)); (case a => decide); (case b => decide); (case c => rfl); (case d => rfl); k_whole)
  | (refine' item_listL ?t ?a ?b ?c ?_; (case t => exact News.isList (by k_asm) (by k_mem)); (case a => decide); (case b => decide); (case c => rfl); k_whole))))
local macro_rules | `(tactic| walk_at "exec Assign cons ListComp") => `(tactic| (k_here; k_dflt (refine assign_comp (by with_unfolding_all rfl) (by with_unfolding_all rfl) (by rfl) (by decide) ?_)))
local macro_rules | `(tactic| walk_at "eval ListComp") => `(tactic| (k_here; k_dflt (refine LCg.ListComp_U (F₀ := by k_asm) (by with_unfolding_all rfl) (by decide) (by rfl) (by decide) (by rfl) ?_)))
local macro_rules | `(tactic| walk_at "exec While Compare cons nil") => `(tactic| (k_here; k_dflt (refine whl_start 100 ?_)))
theorem place4_con {w : World} {mean mg mb} {news : Led} {aS a1 a2 a3 a4 : Addr} {x1 y1 x2 y2 x3 y3 x4 y4 : Int} {t1 u1 t2 u2 t3 u3 t4 u4 : Tok} {nS n1 n2 n3 n4 : Nat} {bf mn : Int} {tb tm : Tok} (hbf : 0 ≤ bf ∧ bf ≤ 8) (hmn : 0 ≤ mn ∧ mn ≤ 8)
    (hS : (aS, ({ cls := .type "list", data := .seq #[.ref a1, .ref a2, .ref a3, .ref a4] nS } : Obj)) ∈ news) (h1 : (a1, tp x1 y1 t1 u1 n1) ∈ news) (h2 : (a2, tp x2 y2 t2 u2 n2) ∈ news) (h3 : (a3, tp x3 y3 t3 u3 n3) ∈ news) (h4 : (a4, tp x4 y4 t4 u4 n4) ∈ news) :
    ConM w mean mg mb 326 news [.ref aS, .int bf tb, .int mn tm] 8 100 (PlaceRet news (place mn bf 3 [(x1, y1), (x2, y2), (x3, y3), (x4, y4)])) := by
  (try unfold Con)
  unfold ConM
  k_fill
  intro dp un gd cn cs a ccd cl outer A₀ base h₀ L m s Q E B F X N T hk hd hu hret
  have hv0 : All2 (PtIn news) [.ref a1, .ref a2, .ref a3, .ref a4] [(x1, y1), (x2, y2), (x3, y3), (x4, y4)] := ⟨ptm (p := (x1, y1)) h1, ptm (p := (x2, y2)) h2, ptm (p := (x3, y3)) h3, ptm (p := (x4, y4)) h4, trivial⟩
  refine wpAny_call ?_
  k_dflt ktr_enter
  (repeat' (first | (k_unfold; (try dsimp only)) | (k_end; wrow_close) | ((fail_if_success (with_reducible show wpAny _ _ (call (Value.type "zip") _) _ _ _)); first | walk1 | (dsimp only; walk1)) | (leave1; walk_say "STEP leave1"; try dsimp only) | fail "no step"))
  refine zip_core (J := plJ mn bf [(x1, y1), (x2, y2), (x3, y3), (x4, y4)]) rfl rfl (by decide) (fun _ _ => rfl) (fun _ _ => rfl) rfl (by k_asm) (by k_asm) (by k_mem) (by k_mem) (fun _ h => h) (Nat.le_of_ble_eq_true rfl) trivial ?step1 ?fin1
  case step1 =>
    intro i x y ys' new own C c1 c2 D oC o1 o2 h tk E' hx hy hJ d1 d2 F2 N2
    obtain ⟨p, hp, ax, tx, ux, nx, rfl, mx⟩ := All2.get hv0 hx
    obtain ⟨q, hq, ay, ty, uy, ny, rfl, my⟩ := All2.get (i := i + 1) hv0 (by simpa using hy)
    have hi := (List.getElem?_eq_some_iff.mp hx).1
    k_steps
    all_goals (exact bend1 (by k_asm) (by k_asm) (off1_iff.mp (by with_reducible assumption)) (plJ_step hJ hp hq))
  intro ys1 new1 D1 C h tk m' hJ lD1 ln1 nD1 F3 N3 offC hn hC0 hCL
  have hv1 := plJ_fin hJ (Nat.le_refl _)
  clear hJ
  refine post_use (by rfl) (by rfl) (by rfl) F3 N3 offC hn hC0 hCL ?_
  clear F3 N3 offC hn hC0 hCL
  intro h tk F3 N3
  rcases ys1 with _ | ⟨v1_1, _ | ⟨v1_2, _ | ⟨v1_3, _ | ⟨vX, rX⟩⟩⟩⟩
  · exact (hv1).elim
  · exact (hv1.2).elim
  · exact (hv1.2.2).elim
  rotate_left
  · exact (hv1.2.2.2).elim
  have hw1 := hv1
  obtain ⟨⟨r1_1, w1_1, z1_1, rfl, m1_1⟩, ⟨r1_2, w1_2, z1_2, rfl, m1_2⟩, ⟨r1_3, w1_3, z1_3, rfl, m1_3⟩, _⟩ := hw1
  dsimp only [blends] at hv1 m1_1 m1_2 m1_3
  (repeat' (first | (k_unfold; (try dsimp only)) | (k_end; wrow_close) | ((fail_if_success (with_reducible show wpAny _ _ (call (Value.type "zip") _) _ _ _)); first | walk1 | (dsimp only; walk1)) | (leave1; walk_say "STEP leave1"; try dsimp only) | fail "no step"))
  refine zip_core (J := plJ mn bf (blends mn bf [(x1, y1), (x2, y2), (x3, y3), (x4, y4)])) rfl rfl (by decide) (fun _ _ => rfl) (fun _ _ => rfl) rfl (by k_asm) (by k_asm) (by k_mem) (by k_mem) (fun _ h => h) (Nat.le_of_ble_eq_true rfl) trivial ?step2 ?fin2
  case step2 =>
    intro i x y ys' new own C c1 c2 D oC o1 o2 h tk E' hx hy hJ d1 d2 F2 N2
    obtain ⟨p, hp, ax, tx, ux, rfl, mx⟩ := All2.get hv1 hx
    obtain ⟨q, hq, ay, ty, uy, rfl, my⟩ := All2.get (i := i + 1) hv1 (by simpa using hy)
    have hi := (List.getElem?_eq_some_iff.mp hx).1
    k_steps
    all_goals (exact bend1 (by k_asm) (by k_asm) (off1_iff.mp (by with_reducible assumption)) (plJ_step hJ hp hq))
  intro ys2 new2 D2 C h tk m' hJ lD2 ln2 nD2 F3 N3 offC hn hC0 hCL
  have hv2 := plJ_fin hJ (Nat.le_refl _)
  clear hJ
  refine post_use (by rfl) (by rfl) (by rfl) F3 N3 offC hn hC0 hCL ?_
  clear F3 N3 offC hn hC0 hCL
  intro h tk F3 N3
  rcases ys2 with _ | ⟨v2_1, _ | ⟨v2_2, _ | ⟨vX, rX⟩⟩⟩
  · exact (hv2).elim
  · exact (hv2.2).elim
  rotate_left
  · exact (hv2.2.2).elim
  have hw2 := hv2
  obtain ⟨⟨r2_1, w2_1, z2_1, rfl, m2_1⟩, ⟨r2_2, w2_2, z2_2, rfl, m2_2⟩, _⟩ := hw2
  dsimp only [blends] at hv2 m2_1 m2_2
  (repeat' (first | (k_unfold; (try dsimp only)) | (k_end; wrow_close) | ((fail_if_success (with_reducible show wpAny _ _ (call (Value.type "zip") _) _ _ _)); first | walk1 | (dsimp only; walk1)) | (leave1; walk_say "STEP leave1"; try dsimp only) | fail "no step"))
  refine zip_core (J := plJ mn bf (blends mn bf (blends mn bf [(x1, y1), (x2, y2), (x3, y3), (x4, y4)]))) rfl rfl (by decide) (fun _ _ => rfl) (fun _ _ => rfl) rfl (by k_asm) (by k_asm) (by k_mem) (by k_mem) (fun _ h => h) (Nat.le_of_ble_eq_true rfl) trivial ?step3 ?fin3
  case step3 =>
    intro i x y ys' new own C c1 c2 D oC o1 o2 h tk E' hx hy hJ d1 d2 F2 N2
    obtain ⟨p, hp, ax, tx, ux, rfl, mx⟩ := All2.get hv2 hx
    obtain ⟨q, hq, ay, ty, uy, rfl, my⟩ := All2.get (i := i + 1) hv2 (by simpa using hy)
    have hi := (List.getElem?_eq_some_iff.mp hx).1
    k_steps
    all_goals (exact bend1 (by k_asm) (by k_asm) (off1_iff.mp (by with_reducible assumption)) (plJ_step hJ hp hq))
  intro ys3 new3 D3 C h tk m' hJ lD3 ln3 nD3 F3 N3 offC hn hC0 hCL
  have hv3 := plJ_fin hJ (Nat.le_refl _)
  clear hJ
  refine post_use (by rfl) (by rfl) (by rfl) F3 N3 offC hn hC0 hCL ?_
  clear F3 N3 offC hn hC0 hCL
  intro h tk F3 N3
  rcases ys3 with _ | ⟨v3_1, _ | ⟨vX, rX⟩⟩
  · exact (hv3).elim
  rotate_left
  · exact (hv3.2).elim
  have hw3 := hv3
  obtain ⟨⟨r3_1, w3_1, z3_1, rfl, m3_1⟩, _⟩ := hw3
  dsimp only [blends] at hv3 m3_1
  k_steps
  all_goals (
    refine hret _ ((r3_1, LCg.lst [.int (place mn bf 3 [(x1, y1), (x2, y2), (x3, y3), (x4, y4)]).1 w3_1, .int (place mn bf 3 [(x1, y1), (x2, y2), (x3, y3), (x4, y4)]).2 z3_1]) :: news) _ _ (by k_asm) (con_drop (by k_asm) ?_) ⟨r3_1, w3_1, z3_1, rfl, rfl, fun p hp => ln3 _ m3_1 p (by simp [hp])⟩
    intro p hp
    rcases List.mem_cons.mp hp with h | h
    · rw [h]; exact List.mem_cons_of_mem _ (List.mem_append_left _ m3_1)
    · simp [h])
end Fl
namespace Fl
theorem calm_K_gap : True := by
  w_top off
  trivial
local macro_rules | `(tactic| k_mem) => `(tactic| (show (_ : Addr × Obj) ∈ (_ : List (Addr × Obj)); ktr_member))
local macro_rules | `(tactic| k_mem) => `(tactic| (show (_ : Addr × Obj) ∈ (_ ++ _ : List (Addr × Obj)); first | (refine List.mem_append.mpr (Or.inl ?_); k_mem) | (refine List.mem_append.mpr (Or.inr ?_); k_mem)))
local macro_rules | `(tactic| k_all) => `(tactic| first | (with_reducible assumption) | exact ne_upA (by assumption) (Nat.le_refl _) | exact ne_up (by assumption) (by omega))
local macro_rules | `(tactic| k_lt $h:ident) => `(tactic| (replace $h := allLt_of $h; (simp only [AllLt, allLt_app, and_assoc, and_true] at $h:ident); (repeat (have _ := And.left $h; replace $h := And.right $h))))
local macro_rules | `(tactic| k_ne) => `(tactic| (refine neN ?_; (try dsimp only); first | with_reducible assumption | exact Ne.symm (by with_reducible assumption) | omega))
local macro_rules | `(tactic| walk_at "subscriptTail") => `(tactic| (k_here; (with_reducible show wpAny _ _ (subscriptTail _ _ (Value.ref _) (Value.int _ _)) _ _ _); k_dflt (first
  | (refine' item_tupleT ?t ?a ?b ?c ?d ?_; (case t => exact News.isTup (by k_asm) (by k_mem)); (case a => decide); (case b => decide); (case c => rfl); (case d => rfl); k_whole)
  | (refine' item_listL ?t ?a ?b ?c ?_; (case t => exact News.isList (by k_asm) (by k_mem)); (case a => decide); (case b => decide); (case c => rfl); k_whole))))
local macro_rules | `(tactic| walk_at "subscriptTail Name Name ref int") => `(tactic| (k_here; (with_reducible show wpAny _ _ (subscriptTail _ _ (Value.ref _) (Value.int _ _)) _ _ _); k_dflt (first
  | (refine' item_tupleT ?t ?a ?b ?c ?d ?_; (case t => exact News.isTup (by k_asm) (by k_mem)); (case a => decide); (case b => decide); (case c => rfl); (case d => rfl); k_whole)
  | (refine' item_listL ?t ?a ?b ?c ?_; (case t => exact News.isList (by k_asm) (by k_mem)); (case a => decide); (case b => decide); (case c => rfl); k_whole))))
local macro_rules | `(tactic| walk_at "subscriptTail Name Constant ref int") => `(tactic| (k_here; (with_reducible show wpAny _ _ (subscriptTail _ _ (Value.ref _) (Value.int _ _)) _ _ _); k_dflt (first
  | (refine' item_tupleT ?t ?a ?b ?c ?d ?_; (case t => exact News.isTup (by k_asm) (by k_mem)); (case a => decide); (case b => decide); (case c => rfl); (case d => rfl); k_whole)
  | (refine' item_listL ?t ?a ?b ?c ?_; (case t => exact News.isList (by k_asm) (by k_mem)); (case a => decide); (case b => decide); (case c => rfl); k_whole))))
local macro_rules | `(tactic| walk_at "subscriptTail Name BinOp ref int") => `(tactic| (k_here; (with_reducible show wpAny _ _ (subscriptTail _ _ (Value.ref _) (Value.int _ _)) _ _ _); k_dflt (first
  | (refine' item_tupleT ?t ?a ?b ?c ?d ?_; (case t => exact News.isTup (by k_asm) (by k_mem)); (case a => decide); (case b => decide); (case c => rfl); (case d => rfl); k_whole)
  | (refine' item_listL ?t ?a ?b ?c ?_; (case t => exact News.isList (by k_asm) (by k_mem)); (case a => decide); (case b => decide); (case c => rfl); k_whole))))

def gapV (hx hy W X Y : Int) : Int :=
  let a := hx * W - X
  let b := hy * W - Y
  let a' := if a < 0 then -a else a
  let b' := if b < 0 then -b else b
  if b' > a' then b' else a'
theorem gap_con {w : World} {mean mg mb} {news : Led} {a1 a2 : Addr} {hx hy X Y W : Int} {t1 u1 t2 u2 tw : Tok} {n1 n2 : Nat} (hW : 0 ≤ W ∧ W ≤ 1000)
    (h1 : (a1, tp hx hy t1 u1 n1) ∈ news) (h2 : (a2, ({ cls := .type "list", data := .seq #[.int X t2, .int Y u2] n2 } : Obj)) ∈ news) :
    Con w mean mg mb 333 news [.ref a1, .ref a2, .int W tw] 3 40 (fun tl r => tl = [] ∧ ∃ t, r = .int (gapV hx hy W X Y) t) := by
  (try unfold Con)
  unfold ConM
  k_fill
  intro dp un gd cn cs a ccd cl outer A₀ base h₀ L m s Q E B F X N T hk hd hu hret
  refine wpAny_call ?_
  k_dflt ktr_enter
  k_steps
  all_goals (exact hret _ news _ _ (by k_asm) (by k_asm) ⟨[], rfl, con_abv0, rfl, _, rfl⟩)
end Fl
namespace Fl
theorem calm_K_beside : True := by
  w_top off
  trivial
local macro_rules | `(tactic| walk_at "no such key 0") => `(tactic| fail)
local macro_rules | `(tactic| k_mem) => `(tactic| (show (_ : Addr × Obj) ∈ (_ : List (Addr × Obj)); ktr_member))
local macro_rules | `(tactic| k_mem) => `(tactic| (show (_ : Addr × Obj) ∈ (_ ++ _ : List (Addr × Obj)); first | (refine List.mem_append.mpr (Or.inl ?_); k_mem) | (refine List.mem_append.mpr (Or.inr ?_); k_mem)))
local macro_rules | `(tactic| k_all) => `(tactic| first | (with_reducible assumption) | exact ne_upA (by assumption) (Nat.le_refl _) | exact ne_up (by assumption) (by omega))
local macro_rules | `(tactic| k_lt $h:ident) => `(tactic| (replace $h := allLt_of $h; (simp only [AllLt, allLt_app, and_assoc, and_true] at $h:ident); (repeat (have _ := And.left $h; replace $h := And.right $h))))
local macro_rules | `(tactic| k_ne) => `(tactic| (refine neN ?_; (try dsimp only); first | with_reducible assumption | exact Ne.symm (by with_reducible assumption) | omega))
local macro_rules | `(tactic| walk_at "subscriptTail") => `(tactic| (k_here; (with_reducible show wpAny _ _ (subscriptTail _ _ (Value.ref _) (Value.int _ _)) _ _ _); k_dflt (first
  | (refine' item_tupleT ?t ?a ?b ?c ?d ?_; (case t => exact News.isTup (by k_asm) (by k_mem)); (case a => decide); (case b => decide); (case c => rfl); (case d => rfl); k_whole)
  | (refine' item_listL ?t ?a ?b ?c ?_; (case t => exact News.isList (by k_asm) (by k_mem)); (case a => decide); (case b => decide); (case c => rfl); k_whole))))
local macro_rules | `(tactic| walk_at "subscriptTail Name Name ref int") => `(tactic| (k_here; (with_reducible show wpAny _ _ (subscriptTail _ _ (Value.ref _) (Value.int _ _)) _ _ _); k_dflt (first
  | (refine' item_tupleT ?t ?a ?b ?c ?d ?_; (case t => exact News.isTup (by k_asm) (by k_mem)); (case a => decide); (case b => decide); (case c => rfl); (case d => rfl); k_whole)
  | (refine' item_listL ?t ?a ?b ?c ?_; (case t => exact News.isList (by k_asm) (by k_mem)); (case a => decide); (case b => decide); (case c => rfl); k_whole))))
local macro_rules | `(tactic| walk_at "subscriptTail Name Constant ref int") => `(tactic| (k_here; (with_reducible show wpAny _ _ (subscriptTail _ _ (Value.ref _) (Value.int _ _)) _ _ _); k_dflt (first
  | (refine' item_tupleT ?t ?a ?b ?c ?d ?_; (case t => exact News.isTup (by k_asm) (by k_mem)); (case a => decide); (case b => decide); (case c => rfl); (case d => rfl); k_whole)
  | (refine' item_listL ?t ?a ?b ?c ?_; (case t => exact News.isList (by k_asm) (by k_mem)); (case a => decide); (case b => decide); (case c => rfl); k_whole))))
local macro_rules | `(tactic| walk_at "subscriptTail Name BinOp ref int") => `(tactic| (k_here; (with_reducible show wpAny _ _ (subscriptTail _ _ (Value.ref _) (Value.int _ _)) _ _ _); k_dflt (first
  | (refine' item_tupleT ?t ?a ?b ?c ?d ?_; (case t => exact News.isTup (by k_asm) (by k_mem)); (case a => decide); (case b => decide); (case c => rfl); (case d => rfl); k_whole)
  | (refine' item_listL ?t ?a ?b ?c ?_; (case t => exact News.isList (by k_asm) (by k_mem)); (case a => decide); (case b => decide); (case c => rfl); k_whole))))

def beside (X Y W ox oy px py bd : Int) : Bool :=
  if (px - ox) * (X - ox * W) + (py - oy) * (Y - oy * W) ≤ 0 then decide ((X - ox * W) ^ 2 + (Y - oy * W) ^ 2 ≤ (bd * W) ^ 2)
  else if ((px - ox) * (px - ox) + (py - oy) * (py - oy)) * W ≤ (px - ox) * (X - ox * W) + (py - oy) * (Y - oy * W) then decide ((X - px * W) ^ 2 + (Y - py * W) ^ 2 ≤ (bd * W) ^ 2)
  else decide (((px - ox) * (Y - oy * W) - (py - oy) * (X - ox * W)) ^ 2 ≤ (bd * W) ^ 2 * ((px - ox) * (px - ox) + (py - oy) * (py - oy)))
theorem prodB {a b : Int} (A B : Nat) (ha : a.natAbs ≤ A) (hb : b.natAbs ≤ B) : (a * b).natAbs ≤ A * B := by
  rw [Int.natAbs_mul]
  exact Nat.mul_le_mul ha hb
theorem mulAny {a b : Int} (h : ∀ z, IntMulOk z b) : IntMulOk a b := h a
local macro_rules | `(tactic| mul_fits) => `(tactic| exact mulAny (by assumption))
local macro_rules | `(tactic| walk_at "binaryOp Pow int int") => `(tactic| (k_here; k_dflt (refine pow_int_small (by decide) (by decide) (by with_reducible assumption) ?_)))
section
variable {X Y W ox oy px py bd : Int}
theorem beside_1 (h : (px - ox) * (X - ox * W) + (py - oy) * (Y - oy * W) ≤ 0) : Value.bool (decide ((X - ox * W) ^ Int.toNat 2 + (Y - oy * W) ^ Int.toNat 2 ≤ (bd * W) ^ Int.toNat 2)) = .bool (beside X Y W ox oy px py bd) := by
  unfold beside; rw [if_pos h]; rfl
theorem beside_2 (h : ¬ (px - ox) * (X - ox * W) + (py - oy) * (Y - oy * W) ≤ 0) (k : ((px - ox) * (px - ox) + (py - oy) * (py - oy)) * W ≤ (px - ox) * (X - ox * W) + (py - oy) * (Y - oy * W)) :
    Value.bool (decide ((X - px * W) ^ Int.toNat 2 + (Y - py * W) ^ Int.toNat 2 ≤ (bd * W) ^ Int.toNat 2)) = .bool (beside X Y W ox oy px py bd) := by
  unfold beside; rw [if_neg h, if_pos k]; rfl
theorem beside_3 (h : ¬ (px - ox) * (X - ox * W) + (py - oy) * (Y - oy * W) ≤ 0) (k : ¬ ((px - ox) * (px - ox) + (py - oy) * (py - oy)) * W ≤ (px - ox) * (X - ox * W) + (py - oy) * (Y - oy * W)) :
    Value.bool (decide (((px - ox) * (Y - oy * W) - (py - oy) * (X - ox * W)) ^ Int.toNat 2 ≤ (bd * W) ^ Int.toNat 2 * ((px - ox) * (px - ox) + (py - oy) * (py - oy)))) = .bool (beside X Y W ox oy px py bd) := by
  unfold beside; rw [if_neg h, if_neg k]; rfl
end
theorem beside_con {w : World} {mean mg mb} {news : Led} {a1 a2 a3 : Addr} {pX pY W ox oy px py bd : Int} {t1 u1 t2 u2 t3 u3 tw td : Tok} {n1 n2 n3 : Nat} (hW : 0 ≤ W ∧ W ≤ 1000) (hX : -1000000 ≤ pX ∧ pX ≤ 1000000) (hY : -1000000 ≤ pY ∧ pY ≤ 1000000)
    (b1 : -1000 ≤ ox ∧ ox ≤ 1000) (b2 : -1000 ≤ oy ∧ oy ≤ 1000) (b3 : -1000 ≤ px ∧ px ≤ 1000) (b4 : -1000 ≤ py ∧ py ≤ 1000) (b5 : 0 ≤ bd ∧ bd ≤ 100)
    (h1 : (a1, ({ cls := .type "list", data := .seq #[.int pX t1, .int pY u1] n1 } : Obj)) ∈ news) (h2 : (a2, tp ox oy t2 u2 n2) ∈ news) (h3 : (a3, tp px py t3 u3 n3) ∈ news) :
    Con w mean mg mb 340 news [.ref a1, .int W tw, .ref a2, .ref a3, .int bd td] 3 40 (fun tl r => tl = [] ∧ r = .bool (beside pX pY W ox oy px py bd)) := by
  (try unfold Con)
  unfold ConM
  k_fill
  intro dp un gd cn cs a ccd cl outer A₀ base h₀ L m s Q E B F X N T hk hd hu hret
  have q1 := prodB 1000 1000 (a := ox) (b := W) (by omega) (by omega)
  have q2 := prodB 1000 1000 (a := oy) (b := W) (by omega) (by omega)
  have q3 := prodB 1000 1000 (a := px) (b := W) (by omega) (by omega)
  have q4 := prodB 1000 1000 (a := py) (b := W) (by omega) (by omega)
  have q5 := prodB 100 1000 (a := bd) (b := W) (by omega) (by omega)
  have q6 := prodB 2000 2000000 (a := px - ox) (b := pY - oy * W) (by omega) (by omega)
  have q7 := prodB 2000 2000000 (a := py - oy) (b := pX - ox * W) (by omega) (by omega)
  have q8 := prodB 2000 2000 (a := px - ox) (b := px - ox) (by omega) (by omega)
  have q9 := prodB 2000 2000 (a := py - oy) (b := py - oy) (by omega) (by omega)
  have p1 : (pX - ox * W).natAbs < 2 ^ 64 := by omega
  have p2 : (pY - oy * W).natAbs < 2 ^ 64 := by omega
  have p3 : (pX - px * W).natAbs < 2 ^ 64 := by omega
  have p4 : (pY - py * W).natAbs < 2 ^ 64 := by omega
  have p5 : (bd * W).natAbs < 2 ^ 64 := by omega
  have p6 : ((px - ox) * (pY - oy * W) - (py - oy) * (pX - ox * W)).natAbs < 2 ^ 64 := by omega
  have p7 : ∀ z, IntMulOk z ((px - ox) * (px - ox) + (py - oy) * (py - oy)) := fun z => IntMulOk.of_right (intBits_le_64 (by omega) (by omega))
  clear q1 q2 q3 q4 q5 q6 q7 q8 q9
  refine wpAny_call ?_
  k_dflt ktr_enter
  k_steps
  all_goals (exact hret _ news _ _ (by k_asm) (con_drop (by k_asm) (by intro p hp; simp only [List.mem_cons, hp, or_true])) ⟨[], rfl, con_abv0, rfl, (by first | exact beside_1 (by assumption) | exact beside_2 (by assumption) (by assumption) | exact beside_3 (by assumption) (by assumption))⟩)
end Fl
namespace Fl
theorem sq_nonneg' (a : Int) : 0 ≤ a * a := by
  rcases Int.le_total 0 a with h | h
  · exact Int.mul_nonneg h h
  · have := Int.mul_nonneg (Int.neg_nonneg_of_nonpos h) (Int.neg_nonneg_of_nonpos h)
    rwa [Int.neg_mul_neg] at this
theorem le_of_sq {a b : Int} (hb : 0 ≤ b) (h : a * a ≤ b * b) : a ≤ b := by
  refine Int.not_lt.mp fun hl => ?_
  have h1 : b * b ≤ a * b := Int.mul_le_mul_of_nonneg_right (by omega) hb
  have h2 : a * b < a * a := Int.mul_lt_mul_of_pos_left hl (by omega)
  omega
/-- the sum of two vectors is no longer than their lengths together -/
theorem tri {a b c d A B : Int} (hA : 0 ≤ A) (hB : 0 ≤ B) (h : a * a + b * b ≤ A * A) (k : c * c + d * d ≤ B * B) : (a + c) * (a + c) + (b + d) * (b + d) ≤ (A + B) * (A + B) := by
  have q : a * c + b * d ≤ A * B := by
    refine le_of_sq (Int.mul_nonneg hA hB) ?_
    have h1 : (a * a + b * b) * (c * c + d * d) ≤ (A * A) * (c * c + d * d) := Int.mul_le_mul_of_nonneg_right h (by have := sq_nonneg' c; have := sq_nonneg' d; omega)
    have h2 : (A * A) * (c * c + d * d) ≤ (A * A) * (B * B) := Int.mul_le_mul_of_nonneg_left k (sq_nonneg' A)
    have h3 := sq_nonneg' (a * d - b * c)
    grind
  grind
theorem scale {a b A w : Int} (h : a * a + b * b ≤ A * A) : (w * a) * (w * a) + (w * b) * (w * b) ≤ (w * A) * (w * A) := by
  have := Int.mul_le_mul_of_nonneg_left h (sq_nonneg' w)
  grind
/-- a vector within bound*W of the segment, told by a point of it at T of s*W, is found beside it -/
theorem beside_of {X Y W ox oy px py bd s T : Int} (hs : 0 < s) (hT : 0 ≤ T) (hT2 : T ≤ s * W)
    (h : (s * (X - ox * W) - T * (px - ox)) * (s * (X - ox * W) - T * (px - ox)) + (s * (Y - oy * W) - T * (py - oy)) * (s * (Y - oy * W) - T * (py - oy)) ≤ (s * (bd * W)) * (s * (bd * W))) :
    beside X Y W ox oy px py bd = true := by
  have ss : 0 < s * s := Int.mul_pos hs hs
  have sq2 : ∀ a : Int, a ^ 2 = a * a := fun a => by grind
  unfold beside
  simp only [sq2]
  split
  · next h1 =>
    simp only [decide_eq_true_eq]
    refine Int.le_of_mul_le_mul_left (a := s * s) ?_ ss
    have a1 := Int.mul_nonneg (Int.mul_nonneg (Int.le_of_lt hs) hT) (Int.sub_nonneg.mpr h1)
    have a2 := Int.mul_nonneg (sq_nonneg' T) (Int.add_nonneg (sq_nonneg' (px - ox)) (sq_nonneg' (py - oy)))
    generalize X - ox * W = x at *
    generalize Y - oy * W = y at *
    generalize px - ox = v at *
    generalize py - oy = u at *
    generalize bd * W = q at *
    grind
  · split
    · next h1 h2 =>
      simp only [decide_eq_true_eq]
      refine Int.le_of_mul_le_mul_left (a := s * s) ?_ ss
      have e1 : X - px * W = (X - ox * W) - (px - ox) * W := by grind
      have e2 : Y - py * W = (Y - oy * W) - (py - oy) * W := by grind
      rw [e1, e2]
      have a1 := Int.mul_nonneg (Int.mul_nonneg (Int.le_of_lt hs) (Int.sub_nonneg.mpr hT2)) (Int.sub_nonneg.mpr h2)
      have a2 := Int.mul_nonneg (sq_nonneg' (s * W - T)) (Int.add_nonneg (sq_nonneg' (px - ox)) (sq_nonneg' (py - oy)))
      generalize X - ox * W = x at *
      generalize Y - oy * W = y at *
      generalize px - ox = v at *
      generalize py - oy = u at *
      generalize bd * W = q at *
      grind
    · next h1 h2 =>
      simp only [decide_eq_true_eq]
      refine Int.le_of_mul_le_mul_left (a := s * s) ?_ ss
      generalize X - ox * W = x at *
      generalize Y - oy * W = y at *
      generalize px - ox = v at *
      generalize py - oy = u at *
      generalize bd * W = q at *
      have a1 := Int.mul_le_mul_of_nonneg_right h (Int.add_nonneg (sq_nonneg' v) (sq_nonneg' u))
      have a2 := sq_nonneg' (v * (s * x - T * v) + u * (s * y - T * u))
      grind
/-- what is near has a point of the segment close by -/
theorem near_pt {px py ax ay bx by' b : Int} (h : isNear px py ax ay bx by' b = true) {s : Int} (hs : s = (if (bx - ax) * (bx - ax) + (by' - ay) * (by' - ay) = 0 then 1 else (bx - ax) * (bx - ax) + (by' - ay) * (by' - ay))) :
    ∃ t, 0 ≤ t ∧ t ≤ s ∧ (s * (px - ax) - t * (bx - ax)) * (s * (px - ax) - t * (bx - ax)) + (s * (py - ay) - t * (by' - ay)) * (s * (py - ay) - t * (by' - ay)) ≤ (s * b) * (s * b) := by
  have s1 : 0 ≤ (bx - ax) * (bx - ax) + (by' - ay) * (by' - ay) := Int.add_nonneg (sq_nonneg' _) (sq_nonneg' _)
  have hs0 : 0 < s := by rw [hs]; split <;> omega
  unfold isNear at h
  split at h
  · next h1 =>
    simp only [decide_eq_true_eq] at h
    refine ⟨0, Int.le_refl _, by omega, ?_⟩
    have := Int.mul_le_mul_of_nonneg_left h (sq_nonneg' s)
    generalize px - ax = x at *
    generalize py - ay = y at *
    grind
  · split at h
    · next h1 h2 =>
      simp only [decide_eq_true_eq] at h
      by_cases z : (bx - ax) * (bx - ax) + (by' - ay) * (by' - ay) = 0
      · exfalso
        have z1 := sq_nonneg' (bx - ax)
        have z2 := sq_nonneg' (by' - ay)
        have y1 : (bx - ax) * (bx - ax) = 0 := by omega
        have y2 : (by' - ay) * (by' - ay) = 0 := by omega
        have x1 : bx - ax = 0 := (Int.mul_eq_zero.mp y1).elim id id
        have x2 : by' - ay = 0 := (Int.mul_eq_zero.mp y2).elim id id
        rw [x1, x2] at h1
        simp at h1
      · refine ⟨s, by omega, Int.le_refl _, ?_⟩
        have := Int.mul_le_mul_of_nonneg_left h (sq_nonneg' s)
        have e1 : s * (px - ax) - s * (bx - ax) = s * (px - bx) := by grind
        have e2 : s * (py - ay) - s * (by' - ay) = s * (py - by') := by grind
        rw [e1, e2]
        generalize px - bx = x at *
        generalize py - by' = y at *
        grind
    · next h1 h2 =>
      simp only [decide_eq_true_eq] at h
      by_cases z : (bx - ax) * (bx - ax) + (by' - ay) * (by' - ay) = 0
      · omega
      · rw [if_neg z] at hs
        refine ⟨(bx - ax) * (px - ax) + (by' - ay) * (py - ay), by omega, by omega, ?_⟩
        subst hs
        have := Int.mul_le_mul_of_nonneg_left h s1
        generalize px - ax = x at *
        generalize py - ay = y at *
        generalize bx - ax = v at *
        generalize by' - ay = u at *
        grind
end Fl
namespace Fl
/-- x*F lies at most E/2 below a -/
def Ap (F E x a : Int) : Prop := 0 ≤ 2 * (a - F * x) ∧ 2 * (a - F * x) ≤ E
theorem Ap.mid {F E E' x y a b : Int} (hF : 0 ≤ F) (h : Ap F E x a) (k : Ap F E' y b) : Ap (2 * F) (E + E' + 2 * F) ((x + y) / 2) (a + b) := by
  unfold Ap at *
  have h1 : 0 ≤ F * (x + y - 2 * ((x + y) / 2)) := Int.mul_nonneg hF (by omega)
  have h2 : 0 ≤ F * (1 - (x + y - 2 * ((x + y) / 2))) := Int.mul_nonneg hF (by omega)
  generalize (x + y) / 2 = m at *
  constructor <;> grind
theorem Ap.dbl {F E x a : Int} (h : Ap F E x a) : Ap (2 * F) (2 * E) x (2 * a) := by
  unfold Ap at *
  constructor <;> grind
theorem Ap.up {F E E' F' a' x a : Int} (h : Ap F E x a) (hE : E ≤ E') (hF : F' = F) (ha : a' = a) : Ap F' E' x a' := by
  subst hF ha
  exact ⟨h.1, by have := h.2; omega⟩
def Apx (F E : Int) (c e : Pt) : Prop := Ap F E c.1 e.1 ∧ Ap F E c.2 e.2
abbrev addP (p q : Pt) : Pt := (p.1 + q.1, p.2 + q.2)
abbrev dblP (p : Pt) : Pt := (2 * p.1, 2 * p.2)
theorem Apx.mid {F E E' : Int} {c c' e e' : Pt} (hF : 0 ≤ F) (h : Apx F E c e) (k : Apx F E' c' e') : Apx (2 * F) (E + E' + 2 * F) (mid c c') (addP e e') := ⟨h.1.mid hF k.1, h.2.mid hF k.2⟩
theorem Apx.dbl {F E : Int} {c e : Pt} (h : Apx F E c e) : Apx (2 * F) (2 * E) c (dblP e) := ⟨h.1.dbl, h.2.dbl⟩
theorem Apx.up {F E E' F' : Int} {c e : Pt} (h : Apx F E c e) (hE : E ≤ E') (hF : F' = F) : Apx F' E' c e := ⟨h.1.up hE hF rfl, h.2.up hE hF rfl⟩
/-- the halves of the true curve, in whole numbers -/
def exc : List Pt → List Pt × List Pt
  | [p1, p2, p3] => ([dblP (dblP p1), dblP (addP p1 p2), addP (addP p1 p2) (addP p2 p3)], [addP (addP p1 p2) (addP p2 p3), dblP (addP p2 p3), dblP (dblP p3)])
  | [p1, p2, p3, p4] => ([dblP (dblP (dblP p1)), dblP (dblP (addP p1 p2)), dblP (addP (addP p1 p2) (addP p2 p3)), addP (addP (addP p1 p2) (addP p2 p3)) (addP (addP p2 p3) (addP p3 p4))],
      [addP (addP (addP p1 p2) (addP p2 p3)) (addP (addP p2 p3) (addP p3 p4)), dblP (addP (addP p2 p3) (addP p3 p4)), dblP (dblP (addP p3 p4)), dblP (dblP (dblP p4))])
  | l => (l, l)
structure Rl (K n : Nat) (ps : List Pt) (W : Int) (k : Nat) (d lo : Int) (cs es : List Pt) (F : Int) : Prop where
  len : (n = 2 ∧ cs.length = 3) ∨ (n = 3 ∧ cs.length = 4)
  dk : d + (k : Int) = (K : Int)
  d0 : 0 ≤ d
  Fp : 0 < F
  w : F * ((2 : Int) ^ k) ^ n = W
  ap : All2 (Apx F (3 * d * F)) cs es
  pl : ∀ s, place ((2 : Int) ^ K) (lo + s) n ps = place ((2 : Int) ^ k) s n es
theorem two_pos (k : Nat) : 0 < (2 : Int) ^ k := Int.pow_pos (by decide)
theorem place2_half {m s : Int} {p1 p2 p3 : Pt} : place m s 2 (exc [p1, p2, p3]).1 = place (m * 2) s 2 [p1, p2, p3] := by
  simp only [exc, place, blends, List.headD_cons, bl, addP, dblP, Prod.mk.injEq]
  constructor <;> grind
theorem place2_half2 {m s : Int} {p1 p2 p3 : Pt} : place m s 2 (exc [p1, p2, p3]).2 = place (m * 2) (m + s) 2 [p1, p2, p3] := by
  simp only [exc, place, blends, List.headD_cons, bl, addP, dblP, Prod.mk.injEq]
  constructor <;> grind
theorem place3_half {m s : Int} {p1 p2 p3 p4 : Pt} : place m s 3 (exc [p1, p2, p3, p4]).1 = place (m * 2) s 3 [p1, p2, p3, p4] := by
  simp only [exc, place, blends, List.headD_cons, bl, addP, dblP, Prod.mk.injEq]
  constructor <;> grind
theorem place3_half2 {m s : Int} {p1 p2 p3 p4 : Pt} : place m s 3 (exc [p1, p2, p3, p4]).2 = place (m * 2) (m + s) 3 [p1, p2, p3, p4] := by
  simp only [exc, place, blends, List.headD_cons, bl, addP, dblP, Prod.mk.injEq]
  constructor <;> grind
variable {K n : Nat} {ps : List Pt} {W : Int} {k : Nat} {d lo F b : Int} {cs es : List Pt}
theorem Rl.step (h : Rl K n ps W (k + 1) d lo cs es F) : Rl K n ps W k (d + 1) lo (cut cs).1 (exc es).1 (F * 2 ^ n) ∧ Rl K n ps W k (d + 1) (lo + 2 ^ k) (cut cs).2 (exc es).2 (F * 2 ^ n) := by
  obtain ⟨len, dk, d0, Fp, w, ap, pl⟩ := h
  have F0 : 0 ≤ F := Int.le_of_lt Fp
  have dF : 0 ≤ d * F := Int.mul_nonneg d0 F0
  rcases len with ⟨rfl, hl⟩ | ⟨rfl, hl⟩
  · rcases cs with _ | ⟨c1, _ | ⟨c2, _ | ⟨c3, _ | ⟨c4, r⟩⟩⟩⟩ <;> simp only [List.length_cons, List.length_nil] at hl
    all_goals try omega
    rcases es with _ | ⟨e1, _ | ⟨e2, _ | ⟨e3, _ | ⟨e4, r⟩⟩⟩⟩
    · exact ap.elim
    · exact ap.2.elim
    · exact ap.2.2.elim
    · obtain ⟨a1, a2, a3, _⟩ := ap
      have m1 := a1.mid F0 a2
      have m2 := a2.mid F0 a3
      have m3 := m1.mid (by omega) m2
      have w' : F * 2 ^ 2 * ((2 : Int) ^ k) ^ 2 = W := by rw [← w]; grind
      refine ⟨⟨.inl ⟨rfl, rfl⟩, by omega, by omega, by omega, w', ⟨a1.dbl.dbl.up (by grind) (by grind), m1.dbl.up (by grind) (by grind), m3.up (by grind) (by grind), trivial⟩, fun s => ?_⟩,
        .inl ⟨rfl, rfl⟩, by omega, by omega, by omega, w', ⟨m3.up (by grind) (by grind), m2.dbl.up (by grind) (by grind), a3.dbl.dbl.up (by grind) (by grind), trivial⟩, fun s => ?_⟩
      · rw [place2_half, pl, Int.pow_succ]
      · rw [place2_half2, Int.add_assoc, pl, Int.pow_succ]
    · exact ap.2.2.2.elim
  · rcases cs with _ | ⟨c1, _ | ⟨c2, _ | ⟨c3, _ | ⟨c4, _ | ⟨c5, r⟩⟩⟩⟩⟩ <;> simp only [List.length_cons, List.length_nil] at hl
    all_goals try omega
    rcases es with _ | ⟨e1, _ | ⟨e2, _ | ⟨e3, _ | ⟨e4, _ | ⟨e5, r⟩⟩⟩⟩⟩
    · exact ap.elim
    · exact ap.2.elim
    · exact ap.2.2.elim
    · exact ap.2.2.2.elim
    · obtain ⟨a1, a2, a3, a4, _⟩ := ap
      have m1 := a1.mid F0 a2
      have m2 := a2.mid F0 a3
      have m3 := a3.mid F0 a4
      have m4 := m1.mid (by omega) m2
      have m5 := m2.mid (by omega) m3
      have m6 := m4.mid (by omega) m5
      have w' : F * 2 ^ 3 * ((2 : Int) ^ k) ^ 3 = W := by rw [← w]; grind
      refine ⟨⟨.inr ⟨rfl, rfl⟩, by omega, by omega, by omega, w', ⟨a1.dbl.dbl.dbl.up (by grind) (by grind), m1.dbl.dbl.up (by grind) (by grind), m4.dbl.up (by grind) (by grind), m6.up (by grind) (by grind), trivial⟩, fun s => ?_⟩,
        .inr ⟨rfl, rfl⟩, by omega, by omega, by omega, w', ⟨m6.up (by grind) (by grind), m5.dbl.up (by grind) (by grind), m3.dbl.dbl.up (by grind) (by grind), a4.dbl.dbl.dbl.up (by grind) (by grind), trivial⟩, fun s => ?_⟩
      · rw [place3_half, pl, Int.pow_succ]
      · rw [place3_half2, Int.add_assoc, pl, Int.pow_succ]
    · exact ap.2.2.2.2.elim
end Fl
namespace Fl
theorem err {gx gy D : Int} (h1 : 0 ≤ 2 * gx ∧ 2 * gx ≤ 3 * D) (h2 : 0 ≤ 2 * gy ∧ 2 * gy ≤ 3 * D) : gx * gx + gy * gy ≤ (3 * D) * (3 * D) := by
  have a1 : (2 * gx) * (2 * gx) ≤ (3 * D) * (3 * D) := Int.le_trans (Int.mul_le_mul_of_nonneg_right h1.2 h1.1) (Int.mul_le_mul_of_nonneg_left h1.2 (by omega))
  have a2 : (2 * gy) * (2 * gy) ≤ (3 * D) * (3 * D) := Int.le_trans (Int.mul_le_mul_of_nonneg_right h2.2 h2.1) (Int.mul_le_mul_of_nonneg_left h2.2 (by omega))
  have a3 := sq_nonneg' (3 * D)
  grind
theorem nsq {a b A B : Int} (h : a * a + b * b ≤ A * A) (h0 : 0 ≤ A) (hAB : A ≤ B) : a * a + b * b ≤ B * B := by
  have : A * A ≤ B * B := Int.le_trans (Int.mul_le_mul_of_nonneg_right hAB h0) (Int.mul_le_mul_of_nonneg_left hAB (by omega))
  omega
variable {K n : Nat} {ps : List Pt} {W : Int} {k : Nat} {d lo F b : Int} {cs es : List Pt}
/-- side o p of the told row lies beside P -/
def Sd (W bd : Int) (P : Pt) : Pt → List Pt → Prop
  | _, [] => False
  | o, p :: r => beside P.1 P.2 W o.1 o.2 p.1 p.2 bd = true ∨ Sd W bd P p r
theorem Sd.left {W bd : Int} {P : Pt} : ∀ {o : Pt} {l l' : List Pt}, Sd W bd P o l → Sd W bd P o (l ++ l')
  | _, [], _, h => h.elim
  | _, _ :: _, _, h => h.elim .inl fun h => .inr (Sd.left h)
theorem Sd.right {W bd : Int} {P : Pt} : ∀ {o : Pt} {l l' : List Pt}, Sd W bd P (l.getLastD o) l' → Sd W bd P o (l ++ l')
  | _, [], _, h => h
  | o, a :: l, l', h => .inr (Sd.right (o := a) (l := l) (by rwa [List.getLastD_cons] at h))
theorem one_side {P o p : Pt} {W bd : Int} (h : beside P.1 P.2 W o.1 o.2 p.1 p.2 bd = true) : Sd W bd P o [p] := .inl h
/-- a place within the error of the first spot -/
theorem at_first {P o p : Pt} {W d bd : Int} (hW : 0 ≤ W) (hd : 0 ≤ d) (hb : 3 * d ≤ bd) (h : Ap W (3 * (d * W)) o.1 P.1 ∧ Ap W (3 * (d * W)) o.2 P.2) : beside P.1 P.2 W o.1 o.2 p.1 p.2 bd = true := by
  refine beside_of (s := 1) (T := 0) (by decide) (Int.le_refl _) (by omega) ?_
  have e := err (D := d * W) h.1 h.2
  have : 0 ≤ d * W := Int.mul_nonneg hd hW
  have k := nsq e (by omega) (B := bd * W) (by have := Int.mul_le_mul_of_nonneg_right hb hW; grind)
  grind
theorem at_last {P o p : Pt} {W d bd : Int} (hW : 0 ≤ W) (hd : 0 ≤ d) (hb : 3 * d ≤ bd) (h : Ap W (3 * (d * W)) p.1 P.1 ∧ Ap W (3 * (d * W)) p.2 P.2) : beside P.1 P.2 W o.1 o.2 p.1 p.2 bd = true := by
  refine beside_of (s := 1) (T := W) (by decide) hW (by omega) ?_
  have e := err (D := d * W) h.1 h.2
  have : 0 ≤ d * W := Int.mul_nonneg hd hW
  have k := nsq e (by omega) (B := bd * W) (by have := Int.mul_le_mul_of_nonneg_right hb hW; grind)
  grind
theorem pl_end2 {m : Int} {p1 p2 p3 : Pt} : place m m 2 [p1, p2, p3] = (m ^ 2 * p3.1, m ^ 2 * p3.2) := by
  simp only [place, blends, List.headD_cons, bl, Prod.mk.injEq]
  constructor <;> grind
theorem pl_end3 {m : Int} {p1 p2 p3 p4 : Pt} : place m m 3 [p1, p2, p3, p4] = (m ^ 3 * p4.1, m ^ 3 * p4.2) := by
  simp only [place, blends, List.headD_cons, bl, Prod.mk.injEq]
  constructor <;> grind
theorem pl_zero2 {m : Int} {p1 p2 p3 : Pt} : place m 0 2 [p1, p2, p3] = (m ^ 2 * p1.1, m ^ 2 * p1.2) := by
  simp only [place, blends, List.headD_cons, bl, Prod.mk.injEq]
  constructor <;> grind
theorem pl_zero3 {m : Int} {p1 p2 p3 p4 : Pt} : place m 0 3 [p1, p2, p3, p4] = (m ^ 3 * p1.1, m ^ 3 * p1.2) := by
  simp only [place, blends, List.headD_cons, bl, Prod.mk.injEq]
  constructor <;> grind
theorem Ap.times {F E x a : Int} (g : Int) (hg : 0 ≤ g) (h : Ap F E x a) : Ap (F * g) (E * g) x (g * a) := by
  unfold Ap at *
  have h1 := Int.mul_nonneg h.1 hg
  have h2 := Int.mul_le_mul_of_nonneg_right h.2 hg
  constructor <;> grind
theorem pow_nn (k n : Nat) : 0 ≤ ((2 : Int) ^ k) ^ n := Int.le_of_lt (Int.pow_pos (two_pos k))
theorem Rl.W0 (h : Rl K n ps W k d lo cs es F) : 0 ≤ W := by rw [← h.w]; exact Int.mul_nonneg (Int.le_of_lt h.Fp) (pow_nn _ _)
theorem Rl.last (h : Rl K n ps W k d lo cs es F) : Ap W (3 * (d * W)) (lastP cs).1 (place ((2 : Int) ^ K) (lo + 2 ^ k) n ps).1 ∧ Ap W (3 * (d * W)) (lastP cs).2 (place ((2 : Int) ^ K) (lo + 2 ^ k) n ps).2 := by
  obtain ⟨len, dk, d0, Fp, w, ap, pl⟩ := h
  rw [pl]
  rcases len with ⟨rfl, hl⟩ | ⟨rfl, hl⟩
  · rcases cs with _ | ⟨c1, _ | ⟨c2, _ | ⟨c3, _ | ⟨c4, r⟩⟩⟩⟩ <;> simp only [List.length_cons, List.length_nil] at hl
    all_goals try omega
    rcases es with _ | ⟨e1, _ | ⟨e2, _ | ⟨e3, _ | ⟨e4, r⟩⟩⟩⟩
    · exact ap.elim
    · exact ap.2.elim
    · exact ap.2.2.elim
    · rw [pl_end2]
      have a := ap.2.2.1
      exact ⟨(a.1.times _ (pow_nn k 2)).up (by rw [← w]; grind) w.symm rfl, (a.2.times _ (pow_nn k 2)).up (by rw [← w]; grind) w.symm rfl⟩
    · exact ap.2.2.2.elim
  · rcases cs with _ | ⟨c1, _ | ⟨c2, _ | ⟨c3, _ | ⟨c4, _ | ⟨c5, r⟩⟩⟩⟩⟩ <;> simp only [List.length_cons, List.length_nil] at hl
    all_goals try omega
    rcases es with _ | ⟨e1, _ | ⟨e2, _ | ⟨e3, _ | ⟨e4, _ | ⟨e5, r⟩⟩⟩⟩⟩
    · exact ap.elim
    · exact ap.2.elim
    · exact ap.2.2.elim
    · exact ap.2.2.2.elim
    · rw [pl_end3]
      have a := ap.2.2.2.1
      exact ⟨(a.1.times _ (pow_nn k 3)).up (by rw [← w]; grind) w.symm rfl, (a.2.times _ (pow_nn k 3)).up (by rw [← w]; grind) w.symm rfl⟩
    · exact ap.2.2.2.2.elim
theorem Rl.first (h : Rl K n ps W k d lo cs es F) : Ap W (3 * (d * W)) (cs.headD (0, 0)).1 (place ((2 : Int) ^ K) lo n ps).1 ∧ Ap W (3 * (d * W)) (cs.headD (0, 0)).2 (place ((2 : Int) ^ K) lo n ps).2 := by
  obtain ⟨len, dk, d0, Fp, w, ap, pl⟩ := h
  rw [show lo = lo + 0 by omega, pl]
  rcases len with ⟨rfl, hl⟩ | ⟨rfl, hl⟩
  · rcases cs with _ | ⟨c1, _ | ⟨c2, _ | ⟨c3, _ | ⟨c4, r⟩⟩⟩⟩ <;> simp only [List.length_cons, List.length_nil] at hl
    all_goals try omega
    rcases es with _ | ⟨e1, _ | ⟨e2, _ | ⟨e3, _ | ⟨e4, r⟩⟩⟩⟩
    · exact ap.elim
    · exact ap.2.elim
    · exact ap.2.2.elim
    · rw [pl_zero2]
      have a := ap.1
      exact ⟨(a.1.times _ (pow_nn k 2)).up (by rw [← w]; grind) w.symm rfl, (a.2.times _ (pow_nn k 2)).up (by rw [← w]; grind) w.symm rfl⟩
    · exact ap.2.2.2.elim
  · rcases cs with _ | ⟨c1, _ | ⟨c2, _ | ⟨c3, _ | ⟨c4, _ | ⟨c5, r⟩⟩⟩⟩⟩ <;> simp only [List.length_cons, List.length_nil] at hl
    all_goals try omega
    rcases es with _ | ⟨e1, _ | ⟨e2, _ | ⟨e3, _ | ⟨e4, _ | ⟨e5, r⟩⟩⟩⟩⟩
    · exact ap.elim
    · exact ap.2.elim
    · exact ap.2.2.elim
    · exact ap.2.2.2.elim
    · rw [pl_zero3]
      have a := ap.1
      exact ⟨(a.1.times _ (pow_nn k 3)).up (by rw [← w]; grind) w.symm rfl, (a.2.times _ (pow_nn k 3)).up (by rw [← w]; grind) w.symm rfl⟩
    · exact ap.2.2.2.2.elim
/-- the flat leaf, one vector u of the spots between and an error g in all -/
theorem flat_core {P o p : Pt} {W d bd b s T ux uy gx gy A : Int} (hW : 0 ≤ W) (hd : 0 ≤ d) (hb : 3 * d + b ≤ bd) (hs : 0 < s) (hT : 0 ≤ T) (hT2 : T ≤ s * W) (hA : 0 ≤ A) (hA2 : A ≤ s * (b * W))
    (hu : ux * ux + uy * uy ≤ A * A) (h1 : 0 ≤ 2 * gx ∧ 2 * gx ≤ 3 * (d * W)) (h2 : 0 ≤ 2 * gy ∧ 2 * gy ≤ 3 * (d * W))
    (ex : s * (P.1 - o.1 * W) - T * (p.1 - o.1) = ux + s * gx) (ey : s * (P.2 - o.2 * W) - T * (p.2 - o.2) = uy + s * gy) : beside P.1 P.2 W o.1 o.2 p.1 p.2 bd = true := by
  refine beside_of hs hT hT2 ?_
  rw [ex, ey]
  have dW : 0 ≤ d * W := Int.mul_nonneg hd hW
  have e := scale (w := s) (err h1 h2)
  have q := tri hA (Int.mul_nonneg (Int.le_of_lt hs) (by omega)) hu e
  refine nsq q (Int.add_nonneg hA (Int.mul_nonneg (Int.le_of_lt hs) (by omega))) ?_
  have z : 0 ≤ s * ((bd - 3 * d - b) * W) := Int.mul_nonneg (Int.le_of_lt hs) (Int.mul_nonneg (by omega) hW)
  grind
theorem wsum {w δ D : Int} (hw : 0 ≤ w) (h : 0 ≤ 2 * δ ∧ 2 * δ ≤ D) : 0 ≤ 2 * (w * δ) ∧ 2 * (w * δ) ≤ w * D := by
  have a := Int.mul_nonneg hw h.1
  have b := Int.mul_le_mul_of_nonneg_left h.2 hw
  constructor <;> grind
theorem sig_pos {x y : Int} : 0 < (if x * x + y * y = 0 then (1 : Int) else x * x + y * y) := by
  have := sq_nonneg' x
  have := sq_nonneg' y
  split <;> omega
theorem flat_leaf3 {P c1 c2 c3 e1 e2 e3 : Pt} {W d bd b w1 w2 w3 F : Int} (hF : 0 ≤ F) (hd : 0 ≤ d) (hb0 : 0 ≤ b) (hb : 3 * d + b ≤ bd) (g1 : 0 ≤ w1) (g2 : 0 ≤ w2) (g3 : 0 ≤ w3) (hw : F * (w1 + w2 + w3) = W)
    (a1 : Apx F (3 * d * F) c1 e1) (a2 : Apx F (3 * d * F) c2 e2) (a3 : Apx F (3 * d * F) c3 e3) (hx : P.1 = w1 * e1.1 + w2 * e2.1 + w3 * e3.1) (hy : P.2 = w1 * e1.2 + w2 * e2.2 + w3 * e3.2)
    (hn : isNear c2.1 c2.2 c1.1 c1.2 c3.1 c3.2 b = true) : beside P.1 P.2 W c1.1 c1.2 c3.1 c3.2 bd = true := by
  obtain ⟨t, t0, ts, hu⟩ := near_pt hn rfl
  generalize hs : (if (c3.1 - c1.1) * (c3.1 - c1.1) + (c3.2 - c1.2) * (c3.2 - c1.2) = 0 then (1 : Int) else (c3.1 - c1.1) * (c3.1 - c1.1) + (c3.2 - c1.2) * (c3.2 - c1.2)) = s at *
  have sp : 0 < s := by rw [← hs]; exact sig_pos
  clear hs
  have s0 : 0 ≤ s := Int.le_of_lt sp
  have x1 := wsum g1 a1.1
  have x2 := wsum g2 a2.1
  have x3 := wsum g3 a3.1
  have y1 := wsum g1 a1.2
  have y2 := wsum g2 a2.2
  have y3 := wsum g3 a3.2
  have Fw2 := Int.mul_nonneg hF g2
  have Fw1 := Int.mul_nonneg hF g1
  have Fw3 := Int.mul_nonneg hF g3
  have sb := Int.mul_nonneg s0 hb0
  have z1 := Int.mul_nonneg (Int.mul_nonneg Fw2 s0) hb0
  have z2 := Int.mul_nonneg (Int.mul_nonneg Fw1 s0) hb0
  have z3 := Int.mul_nonneg (Int.mul_nonneg Fw3 s0) hb0
  have T2 := Int.mul_nonneg Fw2 (Int.sub_nonneg.mpr ts)
  have T1 := Int.mul_nonneg Fw1 s0
  refine flat_core (d := d) (b := b) (s := s) (T := F * w2 * t + F * w3 * s) (ux := F * w2 * (s * (c2.1 - c1.1) - t * (c3.1 - c1.1))) (uy := F * w2 * (s * (c2.2 - c1.2) - t * (c3.2 - c1.2)))
    (gx := w1 * (e1.1 - F * c1.1) + w2 * (e2.1 - F * c2.1) + w3 * (e3.1 - F * c3.1)) (gy := w1 * (e1.2 - F * c1.2) + w2 * (e2.2 - F * c2.2) + w3 * (e3.2 - F * c3.2)) (A := F * w2 * (s * b)) ?_ hd hb sp ?_ ?_ ?_ ?_ (scale hu) ⟨?_, ?_⟩ ⟨?_, ?_⟩ ?_ ?_
  · rw [← hw]; exact Int.mul_nonneg hF (by omega)
  · exact Int.add_nonneg (Int.mul_nonneg Fw2 t0) (Int.mul_nonneg Fw3 s0)
  · rw [← hw]; grind
  · exact Int.mul_nonneg Fw2 sb
  · rw [← hw]; grind
  · omega
  · rw [← hw]; grind
  · omega
  · rw [← hw]; grind
  · rw [hx, ← hw]; grind
  · rw [hy, ← hw]; grind
theorem flat_leaf4 {P c1 c2 c3 c4 e1 e2 e3 e4 : Pt} {W d bd b w1 w2 w3 w4 F : Int} (hF : 0 ≤ F) (hd : 0 ≤ d) (hb0 : 0 ≤ b) (hb : 3 * d + b ≤ bd) (g1 : 0 ≤ w1) (g2 : 0 ≤ w2) (g3 : 0 ≤ w3) (g4 : 0 ≤ w4) (hw : F * (w1 + w2 + w3 + w4) = W)
    (a1 : Apx F (3 * d * F) c1 e1) (a2 : Apx F (3 * d * F) c2 e2) (a3 : Apx F (3 * d * F) c3 e3) (a4 : Apx F (3 * d * F) c4 e4) (hx : P.1 = w1 * e1.1 + w2 * e2.1 + w3 * e3.1 + w4 * e4.1) (hy : P.2 = w1 * e1.2 + w2 * e2.2 + w3 * e3.2 + w4 * e4.2)
    (hn : isNear c2.1 c2.2 c1.1 c1.2 c4.1 c4.2 b = true) (hn' : isNear c3.1 c3.2 c1.1 c1.2 c4.1 c4.2 b = true) : beside P.1 P.2 W c1.1 c1.2 c4.1 c4.2 bd = true := by
  obtain ⟨t, t0, ts, hu⟩ := near_pt hn rfl
  obtain ⟨t', t0', ts', hu'⟩ := near_pt hn' rfl
  generalize hs : (if (c4.1 - c1.1) * (c4.1 - c1.1) + (c4.2 - c1.2) * (c4.2 - c1.2) = 0 then (1 : Int) else (c4.1 - c1.1) * (c4.1 - c1.1) + (c4.2 - c1.2) * (c4.2 - c1.2)) = s at *
  have sp : 0 < s := by rw [← hs]; exact sig_pos
  clear hs
  have s0 : 0 ≤ s := Int.le_of_lt sp
  have x1 := wsum g1 a1.1
  have x2 := wsum g2 a2.1
  have x3 := wsum g3 a3.1
  have x4 := wsum g4 a4.1
  have y1 := wsum g1 a1.2
  have y2 := wsum g2 a2.2
  have y3 := wsum g3 a3.2
  have y4 := wsum g4 a4.2
  have Fw1 := Int.mul_nonneg hF g1
  have Fw2 := Int.mul_nonneg hF g2
  have Fw3 := Int.mul_nonneg hF g3
  have Fw4 := Int.mul_nonneg hF g4
  have sb := Int.mul_nonneg s0 hb0
  have z1 := Int.mul_nonneg (Int.mul_nonneg Fw1 s0) hb0
  have z4 := Int.mul_nonneg (Int.mul_nonneg Fw4 s0) hb0
  have T2 := Int.mul_nonneg Fw2 (Int.sub_nonneg.mpr ts)
  have T3 := Int.mul_nonneg Fw3 (Int.sub_nonneg.mpr ts')
  have T1 := Int.mul_nonneg Fw1 s0
  have A2 := Int.mul_nonneg Fw2 sb
  have A3 := Int.mul_nonneg Fw3 sb
  refine flat_core (d := d) (b := b) (s := s) (T := F * w2 * t + F * w3 * t' + F * w4 * s) (ux := F * w2 * (s * (c2.1 - c1.1) - t * (c4.1 - c1.1)) + F * w3 * (s * (c3.1 - c1.1) - t' * (c4.1 - c1.1))) (uy := F * w2 * (s * (c2.2 - c1.2) - t * (c4.2 - c1.2)) + F * w3 * (s * (c3.2 - c1.2) - t' * (c4.2 - c1.2)))
    (gx := w1 * (e1.1 - F * c1.1) + w2 * (e2.1 - F * c2.1) + w3 * (e3.1 - F * c3.1) + w4 * (e4.1 - F * c4.1)) (gy := w1 * (e1.2 - F * c1.2) + w2 * (e2.2 - F * c2.2) + w3 * (e3.2 - F * c3.2) + w4 * (e4.2 - F * c4.2)) (A := F * w2 * (s * b) + F * w3 * (s * b)) ?_ hd hb sp ?_ ?_ ?_ ?_ (tri A2 A3 (scale hu) (scale hu')) ⟨?_, ?_⟩ ⟨?_, ?_⟩ ?_ ?_
  · rw [← hw]; exact Int.mul_nonneg hF (by omega)
  · exact Int.add_nonneg (Int.add_nonneg (Int.mul_nonneg Fw2 t0) (Int.mul_nonneg Fw3 t0')) (Int.mul_nonneg Fw4 s0)
  · rw [← hw]; grind
  · exact Int.add_nonneg A2 A3
  · rw [← hw]; grind
  · omega
  · rw [← hw]; grind
  · omega
  · rw [← hw]; grind
  · rw [hx, ← hw]; grind
  · rw [hy, ← hw]; grind
theorem Rl.flat {bd s : Int} (h : Rl K n ps W k d lo cs es F) (hs : 0 ≤ s) (hs2 : s ≤ 2 ^ k) (hb0 : 0 ≤ b) (hb : 3 * d + b ≤ bd) (hf : flatB b cs = true) :
    beside (place ((2 : Int) ^ K) (lo + s) n ps).1 (place ((2 : Int) ^ K) (lo + s) n ps).2 W (cs.headD (0, 0)).1 (cs.headD (0, 0)).2 (lastP cs).1 (lastP cs).2 bd = true := by
  obtain ⟨len, dk, d0, Fp, w, ap, pl⟩ := h
  rw [pl]
  have s1 : 0 ≤ (2 : Int) ^ k - s := by omega
  generalize (2 : Int) ^ k = m at *
  rcases len with ⟨rfl, hl⟩ | ⟨rfl, hl⟩
  · rcases cs with _ | ⟨c1, _ | ⟨c2, _ | ⟨c3, _ | ⟨c4, r⟩⟩⟩⟩ <;> simp only [List.length_cons, List.length_nil] at hl
    all_goals try omega
    rcases es with _ | ⟨e1, _ | ⟨e2, _ | ⟨e3, _ | ⟨e4, r⟩⟩⟩⟩
    · exact ap.elim
    · exact ap.2.elim
    · exact ap.2.2.elim
    · obtain ⟨a1, a2, a3, _⟩ := ap
      refine flat_leaf3 (w1 := (m - s) * (m - s)) (w2 := 2 * ((m - s) * s)) (w3 := s * s) (Int.le_of_lt Fp) d0 hb0 hb (Int.mul_nonneg s1 s1) (by have := Int.mul_nonneg s1 hs; omega) (Int.mul_nonneg hs hs) (by rw [← w]; grind) a1 a2 a3 ?_ ?_ hf
      · simp only [place, blends, List.headD_cons, bl]; grind
      · simp only [place, blends, List.headD_cons, bl]; grind
    · exact ap.2.2.2.elim
  · rcases cs with _ | ⟨c1, _ | ⟨c2, _ | ⟨c3, _ | ⟨c4, _ | ⟨c5, r⟩⟩⟩⟩⟩ <;> simp only [List.length_cons, List.length_nil] at hl
    all_goals try omega
    rcases es with _ | ⟨e1, _ | ⟨e2, _ | ⟨e3, _ | ⟨e4, _ | ⟨e5, r⟩⟩⟩⟩⟩
    · exact ap.elim
    · exact ap.2.elim
    · exact ap.2.2.elim
    · exact ap.2.2.2.elim
    · obtain ⟨a1, a2, a3, a4, _⟩ := ap
      obtain ⟨f1, f2⟩ := Bool.and_eq_true_iff.mp hf
      refine flat_leaf4 (w1 := (m - s) * ((m - s) * (m - s))) (w2 := 3 * ((m - s) * (m - s) * s)) (w3 := 3 * ((m - s) * (s * s))) (w4 := s * (s * s)) (Int.le_of_lt Fp) d0 hb0 hb (Int.mul_nonneg s1 (Int.mul_nonneg s1 s1))
        (by have := Int.mul_nonneg (Int.mul_nonneg s1 s1) hs; omega) (by have := Int.mul_nonneg s1 (Int.mul_nonneg hs hs); omega) (Int.mul_nonneg hs (Int.mul_nonneg hs hs)) (by rw [← w]; grind) a1 a2 a3 a4 ?_ ?_ f1 f2
      · simp only [place, blends, List.headD_cons, bl]; grind
      · simp only [place, blends, List.headD_cons, bl]; grind
    · exact ap.2.2.2.2.elim
theorem cut_ends (h : (n = 2 ∧ cs.length = 3) ∨ (n = 3 ∧ cs.length = 4)) : (cut cs).1.headD (0, 0) = cs.headD (0, 0) ∧ lastP (cut cs).1 = (cut cs).2.headD (0, 0) ∧ lastP (cut cs).2 = lastP cs := by
  rcases cs with _ | ⟨c1, _ | ⟨c2, _ | ⟨c3, _ | ⟨c4, _ | ⟨c5, r⟩⟩⟩⟩⟩ <;> simp only [List.length_cons, List.length_nil] at h
  all_goals try omega
  · exact ⟨rfl, rfl, rfl⟩
  · exact ⟨rfl, rfl, rfl⟩
theorem fsp_last (h : (n = 2 ∧ cs.length = 3) ∨ (n = 3 ∧ cs.length = 4)) : ∀ o, (fsp b k cs).getLastD o = lastP cs := by
  induction k generalizing cs with
  | zero => exact fun o => rfl
  | succ k ih =>
    intro o
    unfold fsp
    split
    · rfl
    · have e2 : (n = 2 ∧ (cut cs).2.length = 3) ∨ (n = 3 ∧ (cut cs).2.length = 4) := by
        rcases cs with _ | ⟨c1, _ | ⟨c2, _ | ⟨c3, _ | ⟨c4, _ | ⟨c5, r⟩⟩⟩⟩⟩ <;> simp only [List.length_cons, List.length_nil] at h
        all_goals try omega
        · exact .inl ⟨by omega, rfl⟩
        · exact .inr ⟨by omega, rfl⟩
      rw [← (cut_ends h).2.2, ← ih e2 o]
      have : fsp b k (cut cs).2 ≠ [] := fun e => by
        have h0 := ih e2 (0, 0)
        have h1 := ih e2 (1, 1)
        rw [e] at h0 h1
        rw [← h0] at h1
        exact absurd (congrArg Prod.fst h1) (by decide)
      simp [List.getLastD_eq_getLast?, List.getLast?_append, List.getLast?_eq_some_getLast this]
theorem fsp_ne (h : (n = 2 ∧ cs.length = 3) ∨ (n = 3 ∧ cs.length = 4)) : fsp b k cs ≠ [] := fun e => by
  have h0 := fsp_last (b := b) (k := k) h (0, 0)
  have h1 := fsp_last (b := b) (k := k) h (1, 1)
  rw [e] at h0 h1
  rw [← h0] at h1
  exact absurd (congrArg Prod.fst h1) (by decide)
def Gr (M : Int) (ok : Pt → Int → Prop) : Int → List Pt → Prop
  | _, [] => True
  | a, t :: r => ∃ j, a < j ∧ j ≤ M ∧ ok t j ∧ Gr M ok j r
theorem Gr.mono {M : Int} {ok : Pt → Int → Prop} : ∀ {l : List Pt} {a a' : Int}, Gr M ok a l → a' ≤ a → Gr M ok a' l
  | [], _, _, _, _ => trivial
  | _ :: _, _, _, ⟨j, h1, h2, h3, h4⟩, h => ⟨j, by omega, h2, h3, h4⟩
theorem Gr.append {M : Int} {ok : Pt → Int → Prop} {c : Int} (hc : c ≤ M) : ∀ {l l' : List Pt} {a : Int}, Gr c ok a l → a ≤ c → Gr M ok c l' → Gr M ok a (l ++ l')
  | [], _, _, _, h, k => k.mono h
  | _ :: _, _, _, ⟨j, h1, h2, h3, h4⟩, h, k => ⟨j, h1, by omega, h3, Gr.append hc h4 h2 k⟩
def okAt (K n : Nat) (ps : List Pt) (W : Int) (t : Pt) (j : Int) : Prop := 2 * gapV t.1 t.2 W (place ((2 : Int) ^ K) j n ps).1 (place ((2 : Int) ^ K) j n ps).2 ≤ 3 * (K : Int) * W
theorem gap_ok {t q : Pt} {W D : Int} (h : Ap W D t.1 q.1 ∧ Ap W D t.2 q.2) : 2 * gapV t.1 t.2 W q.1 q.2 ≤ D := by
  unfold Ap at h
  unfold gapV
  rw [Int.mul_comm t.1 W, Int.mul_comm t.2 W]
  generalize W * t.1 = a at *
  generalize W * t.2 = c at *
  dsimp only
  split <;> split <;> split <;> omega
theorem told_ok (h : Rl K n ps W k d lo cs es F) : Gr (lo + 2 ^ k) (okAt K n ps W) lo (fsp b k cs) := by
  have W0 := h.W0
  have leaf : ∀ {k d lo cs es F}, Rl K n ps W k d lo cs es F → Gr (lo + 2 ^ k) (okAt K n ps W) lo [lastP cs] := by
    intro k d lo cs es F h
    refine ⟨lo + 2 ^ k, by have := two_pos k; omega, Int.le_refl _, ?_, trivial⟩
    refine Int.le_trans (gap_ok h.last) ?_
    have := Int.mul_nonneg (show 0 ≤ (K : Int) - d by have := h.dk; omega) W0
    grind
  induction k generalizing d lo cs es F with
  | zero => exact leaf h
  | succ k ih =>
    unfold fsp
    split
    · exact leaf h
    · obtain ⟨h1, h2⟩ := h.step
      have e : lo + (2 : Int) ^ (k + 1) = lo + 2 ^ k + 2 ^ k := by rw [Int.pow_succ]; omega
      rw [e]
      have := two_pos k
      exact Gr.append (by omega) (ih h1) (by omega) (ih h2)
theorem sides_ok {bd s : Int} (h : Rl K n ps W k d lo cs es F) (hs : 0 ≤ s) (hs2 : s ≤ 2 ^ k) (hb0 : 0 ≤ b) (hb : 3 * (K : Int) + b ≤ bd) : Sd W bd (place ((2 : Int) ^ K) (lo + s) n ps) (cs.headD (0, 0)) (fsp b k cs) := by
  induction k generalizing d lo cs es F s with
  | zero =>
    refine one_side ?_
    have dk := h.dk
    rcases (show s = 0 ∨ s = 1 by simp only [Int.pow_zero] at hs2; omega) with rfl | rfl
    · have := h.first
      rw [Int.add_zero]
      exact at_first h.W0 h.d0 (by omega) this
    · have := h.last
      rw [Int.pow_zero] at this
      exact at_last h.W0 h.d0 (by omega) this
  | succ k ih =>
    unfold fsp
    split
    · next hf =>
      exact one_side (h.flat hs hs2 hb0 (by have := h.dk; omega) hf)
    · obtain ⟨h1, h2⟩ := h.step
      have e := cut_ends h.len
      rw [← e.1]
      by_cases hk : s ≤ 2 ^ k
      · exact Sd.left (ih h1 hs hk)
      · refine Sd.right ?_
        rw [fsp_last h1.len, e.2.1]
        have := ih h2 (s := s - 2 ^ k) (by omega) (by rw [Int.pow_succ] at hs2; omega)
        rwa [show lo + 2 ^ k + (s - 2 ^ k) = lo + s by omega] at this
theorem rl_start (h : (n = 2 ∧ ps.length = 3) ∨ (n = 3 ∧ ps.length = 4)) : Rl K n ps (((2 : Int) ^ K) ^ n) K 0 0 ps ps 1 := by
  refine ⟨h, by omega, Int.le_refl _, by decide, by omega, ?_, fun s => by rw [Int.zero_add]⟩
  have : ∀ l : List Pt, All2 (Apx 1 (3 * 0 * 1)) l l := fun l => by
    induction l with
    | nil => trivial
    | cons a l ih => exact ⟨⟨⟨by omega, by omega⟩, by omega, by omega⟩, ih⟩
  exact this ps
theorem law_told (h : (n = 2 ∧ ps.length = 3) ∨ (n = 3 ∧ ps.length = 4)) : Gr ((2 : Int) ^ K) (okAt K n ps (((2 : Int) ^ K) ^ n)) 0 (fsp b K ps) := by
  have := told_ok (b := b) (rl_start (K := K) h)
  rwa [Int.zero_add] at this
theorem law_sides {j : Int} (h : (n = 2 ∧ ps.length = 3) ∨ (n = 3 ∧ ps.length = 4)) (hj : 0 ≤ j) (hj2 : j ≤ 2 ^ K) (hb0 : 0 ≤ b) : Sd (((2 : Int) ^ K) ^ n) (b + 3 * (K : Int)) (place ((2 : Int) ^ K) j n ps) (ps.headD (0, 0)) (fsp b K ps) := by
  have := sides_ok (b := b) (bd := b + 3 * (K : Int)) (rl_start (K := K) h) hj hj2 hb0 (by omega)
  rwa [Int.zero_add] at this
end Fl
namespace Fl
abbrev Sp (x1 x2 x3 x4 x5 x6 x7 x8 x9 : Addr × Obj) (S R : Addr) (o oR : Obj) (tl : Led) : Led := x1 :: x2 :: x3 :: x4 :: x5 :: x6 :: x7 :: x8 :: x9 :: (S, o) :: (R, oR) :: tl
def PtB (p : Pt) : Prop := (-60 ≤ p.1 ∧ p.1 ≤ 60) ∧ (-60 ≤ p.2 ∧ p.2 ≤ 60)
section
variable {prog : Program} {w : World} {A : Around} {E : Value → Shared → Prop} {s : Shared} {h₀ : Heap} {L : Addr} {m : Str → Option Value} {env : Env} {elt : PySem.Expr} {x : Str} {scope : Scope} {cl : List (Str × Addr)} {Fin : List Value → Led → Prop} {x1 x2 x3 x4 x5 x6 x7 x8 x9 : Addr × Obj} {S R : Addr} {rest : Led} {v0 v1 a : Int} {t0 t1 : Tok} {n nR k : Nat} {row : List Value}
/-- the end of a turn of the block that makes the spots -/
def SpEnd (L1 : Nat) (x1 x2 x3 x4 x5 x6 x7 x8 x9 : Addr × Obj) (S R : Addr) (made rest : Led) (y : Value) (news' : Led) : Prop :=
  ∃ T p t u n1 v0 v1 t0 t1 n row nR, y = .ref T ∧ @LT.lt Nat _ (L1 + 9) T ∧ PtB p ∧ 0 ≤ v1 ∧ v1 < 2147483647 ∧ IntRow row ∧ news' = Sp x1 x2 x3 x4 x5 x6 x7 x8 x9 S R (srcO v0 v1 t0 t1 R n) (rowO row nR) (((T, tp p.1 p.2 t u n1) :: made) ++ rest)
theorem spots_rest (h1 : 0 ≤ v1) (h2 : v1 < 2147483647) (hr : IntRow row)
    (turn : ∀ i t I oI C oC D m₂ ys v0 t0 v1 t1 n row nR made h tk (E' : Value → Shared → Prop), 0 ≤ v1 → v1 < 2147483647 → IntRow row → (∀ p ∈ made, @LT.lt Nat _ (L + 9) p.1) → LCg.NsObj oC m₂ → m₂ x = some (.int (a + (i : Int)) t) → Fr h₀ L h m →
      News h₀ L h ((I, oI) :: (C, oC) :: (D, LCg.lst ys) :: Sp x1 x2 x3 x4 x5 x6 x7 x8 x9 S R (srcO v0 v1 t0 t1 R n) (rowO row nR) (made ++ rest)) → LCg.Off3 I C D (Sp x1 x2 x3 x4 x5 x6 x7 x8 x9 S R (srcO v0 v1 t0 t1 R n) (rowO row nR) (made ++ rest)) → ((@Ne Nat I C) ∧ (@Ne Nat I D) ∧ (@Ne Nat C D)) →
      wpAny (model prog w) A (eval elt (compEnvC scope cl C env)) (LCg.CompEnd h₀ L m { s with heap := h, toks := tk } I oI C oC D (LCg.lst ys) (fun _ => True) (SpEnd L x1 x2 x3 x4 x5 x6 x7 x8 x9 S R made rest)) E' { s with heap := h, toks := tk })
    (fin : ∀ ys ps made v0 v1 t0 t1 n row nR, All2 (PtIn made) ys ps → ps.length = k → (∀ p ∈ ps, PtB p) → (∀ p ∈ made, @LT.lt Nat _ (L + 9) p.1) → 0 ≤ v1 → v1 < 2147483647 → IntRow row → Fin ys (Sp x1 x2 x3 x4 x5 x6 x7 x8 x9 S R (srcO v0 v1 t0 t1 R n) (rowO row nR) (made ++ rest))) :
    LCg.CompRest prog w A h₀ L m env elt x scope cl s (fun _ => True) (fun i v => ∃ t, v = .int (a + (i : Int)) t) Fin k 0 [] (Sp x1 x2 x3 x4 x5 x6 x7 x8 x9 S R (srcO v0 v1 t0 t1 R n) (rowO row nR) rest) := by
  refine rest_ind (J := fun i ys news => ∃ v0 v1 t0 t1 n row nR made ps, 0 ≤ v1 ∧ v1 < 2147483647 ∧ IntRow row ∧ (∀ p ∈ made, @LT.lt Nat _ (L + 9) p.1) ∧ All2 (PtIn made) ys ps ∧ ps.length = i ∧ (∀ p ∈ ps, PtB p) ∧ news = Sp x1 x2 x3 x4 x5 x6 x7 x8 x9 S R (srcO v0 v1 t0 t1 R n) (rowO row nR) (made ++ rest)) ?_ ?_ ?_
  · rintro i t I oI C oC D m₂ ys news h tk E' hi ⟨v0, v1, t0, t1, n, row, nR, made, ps, b1, b2, b3, b4, b5, b6, b7, rfl⟩ hC hx F N off ne
    refine wpAny_mono (turn i t I oI C oC D m₂ ys v0 t0 v1 t1 n row nR made h tk E' b1 b2 b3 b4 hC hx F N off ne) (fun y s₂ hq => ?_) fun _ _ e => e
    obtain ⟨h', tk', nw, e, F', N', off', hS, T, p, t', u', n1, v0', v1', t0', t1', n', row', nR', rfl, hT, hp, c1, c2, c3, rfl⟩ := hq
    refine ⟨h', tk', _, e, F', N', off', hS, v0', v1', t0', t1', n', row', nR', (T, tp p.1 p.2 t' u' n1) :: made, ps ++ [p], c1, c2, c3, ?_, ?_, ?_, ?_, rfl⟩
    · exact List.forall_mem_cons.mpr ⟨hT, b4⟩
    · exact All2.append (All2.mono (fun _ _ q => q.mono fun x hx => List.mem_cons_of_mem _ hx) b5) ⟨⟨T, t', u', n1, rfl, List.mem_cons_self⟩, trivial⟩
    · rw [List.length_append, b6]; rfl
    · intro q hq
      rcases List.mem_append.mp hq with hq | hq
      · exact b7 q hq
      · rw [List.mem_singleton.mp hq]; exact hp
  · exact ⟨v0, v1, t0, t1, n, row, nR, [], [], h1, h2, hr, (fun _ h => nomatch h), trivial, rfl, (fun _ h => nomatch h), rfl⟩
  · rintro ys news' ⟨v0, v1, t0, t1, n, row, nR, made, ps, b1, b2, b3, b4, b5, b6, b7, rfl⟩
    exact fin ys ps made v0 v1 t0 t1 n row nR b5 b6 b7 b4 b1 b2 b3
theorem spots_end {oS' oR' : Obj} {s₁ : Shared} {h' : Heap} {tk : Nat} {I C D T : Addr} {oI oC : Obj} {ys : List Value} {made all : Led} {k1 k2 : Int} {t u : Tok} {n1 : Nat} (F : Fr h₀ L h' m) (N : News h₀ L h' all)
    (hT : (T, ({ cls := .type "tuple", data := .seq #[.int (k1 - 60) t, .int (k2 - 60) u] n1 } : Obj)) ∈ all) (hN : ∀ p ∈ (I, oI) :: (C, oC) :: (D, LCg.lst ys) :: Sp x1 x2 x3 x4 x5 x6 x7 x8 x9 S R (srcO v0 v1 t0 t1 R n) (rowO row nR) (made ++ rest), p ∈ all)
    (off : LCg.Off3 I C D (Sp x1 x2 x3 x4 x5 x6 x7 x8 x9 S R oS' oR' (made ++ rest))) (hT3 : @Ne Nat T I ∧ @Ne Nat T C ∧ @Ne Nat T D) (hTL : @LT.lt Nat _ (L + 9) T)
    (b1 : 0 ≤ k1) (b2 : k1 < 121) (b3 : 0 ≤ k2) (b4 : k2 < 121) (h1 : 0 ≤ v1) (h2 : v1 < 2147483647) (hr : IntRow row) :
    LCg.CompEnd h₀ L m s₁ I oI C oC D (LCg.lst ys) (fun _ => True) (SpEnd L x1 x2 x3 x4 x5 x6 x7 x8 x9 S R made rest) (.ref T) { s₁ with heap := h', toks := tk } := by
  refine LCg.CompEnd.intro F N (Sp x1 x2 x3 x4 x5 x6 x7 x8 x9 S R (srcO v0 v1 t0 t1 R n) (rowO row nR) (((T, tp (k1 - 60) (k2 - 60) t u n1) :: made) ++ rest)) ?_ ?_ trivial ⟨T, (k1 - 60, k2 - 60), t, u, n1, v0, v1, t0, t1, n, row, nR, rfl, hTL, by unfold PtB; dsimp only; omega, h1, h2, hr, rfl⟩
  · intro p hp
    simp only [Sp, List.mem_cons, List.cons_append] at hp
    by_cases e : p = (T, tp (k1 - 60) (k2 - 60) t u n1)
    · rw [e]; exact hT
    · apply hN
      simp only [Sp, List.mem_cons, List.cons_append]
      simp only [e, false_or] at hp
      exact hp
  · obtain ⟨q1, q2, q3, q4, q5, q6, q7, q8, q9, q10, q11, q12⟩ := off
    exact ⟨q1, q2, q3, q4, q5, q6, q7, q8, q9, q10, q11, hT3, q12⟩
end
theorem natK {c k : Int} (e : c = 1 + k) (h0 : 0 ≤ k) (h : k < 3) : ∃ K : Nat, (K : Int) = c ∧ 1 ≤ K ∧ K ≤ 3 := ⟨c.toNat, by omega, by omega, by omega⟩
theorem bndK {c k : Int} (e : c = 1 + k) (h0 : 0 ≤ k) (h : k < 6) : ∃ b : Int, b = c ∧ 1 ≤ b ∧ b ≤ 6 := ⟨c, rfl, by omega, by omega⟩
theorem two_pow8 {K : Nat} (h1 : 1 ≤ K) (h3 : K ≤ 3) : 2 ≤ (2 : Int) ^ K ∧ (2 : Int) ^ K ≤ 8 := by
  rcases (show K = 1 ∨ K = 2 ∨ K = 3 by omega) with rfl | rfl | rfl <;> decide
theorem spots_con2 {w : World} {mean mg mb} {news : Led} {aS : Addr} {nS : Nat} {vs : List Value} {ps : List Pt} {b kv : Int} {K : Nat} {tb tk : Tok}
    (hS : (aS, ({ cls := .type "list", data := .seq vs.toArray nS } : Obj)) ∈ news) (hv : All2 (PtIn news) vs ps) (ok : PsOk ps) (bb : 0 ≤ b ∧ b ≤ 100) (hK : K ≤ 3) (e : kv = (K : Int)) :
    Con w mean mg mb 150 news [.ref aS, .int b tb, .int kv tk] 14 200 (SpotsRet news (fsp b K ps)) := by
  subst e
  exact spots_con hS hv ok bb hK
theorem PtB.ok {p : Pt} (h : PtB p) : PtOk p := by
  unfold PtB at h
  unfold PtOk
  omega
section
variable {h₀ h : Heap} {L : Addr} {x0 x1 x2 x3 x4 x5 x6 x7 x8 x9 : Addr × Obj} {S R Ds : Addr} {o oR oD : Obj} {made rest tl : Led}
theorem not_cell {x : Addr × Obj} {a : Addr} {p : Pt} {t u : Tok} {n : Nat} (h : ∃ v, x.2.data = .cell v) (e : (a, tp p.1 p.2 t u n) = x) : False := by
  obtain ⟨v, h⟩ := h
  rw [← e] at h
  exact absurd h (by simp)
theorem renorm1 (N : News h₀ L h (tl ++ x0 :: (Ds, oD) :: Sp x1 x2 x3 x4 x5 x6 x7 x8 x9 S R o oR (made ++ rest))) (ot : ∀ p ∈ tl, AllLt p.1 (x0 :: (Ds, oD) :: Sp x1 x2 x3 x4 x5 x6 x7 x8 x9 S R o oR (made ++ rest))) (e1 : @Eq Nat x1.1 (L + 9))
    (h0 : @LT.lt Nat _ (L + 9) x0.1) (hD : @LE.le Nat _ Ds L ∨ @LT.lt Nat _ (L + 9) Ds) (hS : @LT.lt Nat _ S L) (hR : @LT.lt Nat _ R L) (om : OffC L made) (orr : OffC L rest)
    (c1 : ∃ v, x1.2.data = .cell v) (c2 : ∃ v, x2.2.data = .cell v) (c3 : ∃ v, x3.2.data = .cell v) (c4 : ∃ v, x4.2.data = .cell v) (c5 : ∃ v, x5.2.data = .cell v) (c6 : ∃ v, x6.2.data = .cell v) (c7 : ∃ v, x7.2.data = .cell v) (c8 : ∃ v, x8.2.data = .cell v) (c9 : ∃ v, x9.2.data = .cell v) :
    ∃ bs, News h₀ L h (x1 :: x2 :: x3 :: x4 :: x5 :: x6 :: x7 :: x8 :: x9 :: bs) ∧ OffC L bs ∧ (Ds, oD) ∈ bs ∧ (∀ x ∈ tl, x ∈ bs) ∧ (∀ v p, PtIn (tl ++ x0 :: (Ds, oD) :: Sp x1 x2 x3 x4 x5 x6 x7 x8 x9 S R o oR (made ++ rest)) v p → PtIn bs v p) ∧ (∀ x ∈ made, x ∈ bs) ∧ ∀ p ∈ (S, o) :: (R, oR) :: rest, p ∈ bs := by
  refine ⟨tl ++ x0 :: (Ds, oD) :: (S, o) :: (R, oR) :: (made ++ rest), con_drop N fun p hp => ?_, OffC.app (fun p hp => .inr ?_) (OffC.cons (.inr h0) (OffC.cons hD (OffC.cons (.inl (Nat.le_of_lt hS)) (OffC.cons (.inl (Nat.le_of_lt hR)) (OffC.app om orr))))), by simp, fun x hx => List.mem_append_left _ hx, ?_, fun x hx => ?_, fun p hp => ?_⟩
  · simp only [Sp, List.mem_cons, List.mem_append] at hp ⊢
    rcases hp with h | h | h | h | h | h | h | h | h | h | h | h | h | h | h | h <;> simp only [h, true_or, or_true]
  · have := (ot p hp).2.2.1
    rw [e1] at this
    exact this
  · rintro v p ⟨a, t, u, n, rfl, hm⟩
    refine ⟨a, t, u, n, rfl, ?_⟩
    simp only [Sp, List.mem_cons, List.mem_append] at hm ⊢
    rcases hm with h | h | h | h | h | h | h | h | h | h | h | h | h | h | h | h
    all_goals first
      | exact (not_cell c1 h).elim
      | exact (not_cell c2 h).elim
      | exact (not_cell c3 h).elim
      | exact (not_cell c4 h).elim
      | exact (not_cell c5 h).elim
      | exact (not_cell c6 h).elim
      | exact (not_cell c7 h).elim
      | exact (not_cell c8 h).elim
      | exact (not_cell c9 h).elim
      | simp only [h, true_or, or_true]
  · simp only [List.mem_cons, List.mem_append, hx, true_or, or_true]
  · simp only [List.mem_cons, List.mem_append] at hp ⊢
    rcases hp with h | h | h <;> simp only [h, true_or, or_true]
end
theorem place_con {w : World} {mean mg mb} {news : Led} {aS : Addr} {nS n : Nat} {vs : List Value} {ps : List Pt} {bf mn : Int} {tb tm : Tok} (hbf : 0 ≤ bf ∧ bf ≤ 8) (hmn : 0 ≤ mn ∧ mn ≤ 8)
    (hS : (aS, ({ cls := .type "list", data := .seq vs.toArray nS } : Obj)) ∈ news) (hv : All2 (PtIn news) vs ps) (hl : (n = 2 ∧ ps.length = 3) ∨ (n = 3 ∧ ps.length = 4)) :
    ConM w mean mg mb 326 news [.ref aS, .int bf tb, .int mn tm] 8 100 (PlaceRet news (place mn bf n ps)) := by
  rcases ps with _ | ⟨p1, _ | ⟨p2, _ | ⟨p3, _ | ⟨p4, _ | ⟨p5, r⟩⟩⟩⟩⟩ <;> simp only [List.length_cons, List.length_nil] at hl
  all_goals try omega
  · rcases vs with _ | ⟨v1, _ | ⟨v2, _ | ⟨v3, _ | ⟨v4, r⟩⟩⟩⟩
    · exact hv.elim
    · exact hv.2.elim
    · exact hv.2.2.elim
    · obtain ⟨⟨a1, t1, u1, n1, rfl, m1⟩, ⟨a2, t2, u2, n2, rfl, m2⟩, ⟨a3, t3, u3, n3, rfl, m3⟩, _⟩ := hv
      rw [show n = 2 by omega]
      exact place3_con hbf hmn hS m1 m2 m3
    · exact hv.2.2.2.elim
  · rcases vs with _ | ⟨v1, _ | ⟨v2, _ | ⟨v3, _ | ⟨v4, _ | ⟨v5, r⟩⟩⟩⟩⟩
    · exact hv.elim
    · exact hv.2.elim
    · exact hv.2.2.elim
    · exact hv.2.2.2.elim
    · obtain ⟨⟨a1, t1, u1, n1, rfl, m1⟩, ⟨a2, t2, u2, n2, rfl, m2⟩, ⟨a3, t3, u3, n3, rfl, m3⟩, ⟨a4, t4, u4, n4, rfl, m4⟩, _⟩ := hv
      rw [show n = 3 by omega]
      exact place4_con hbf hmn hS m1 m2 m3 m4
    · exact hv.2.2.2.2.elim
section
variable {prog : Program} {w : World} {A : Around} {E : Value → Shared → Prop} {s : Shared} {h₀ h : Heap} {L : Addr} {m : Str → Option Value} {env : Env} {elt : PySem.Expr} {x : Str} {scope : Scope} {cl : List (Str × Addr)} {Fin : List Value → Led → Prop} {led : Led} {k : Nat}
def PlEnd (P : Int → Pt) (i : Nat) (tl led : Led) (y : Value) (news' : Led) : Prop := ∃ a t u, y = .ref a ∧ news' = (a, LCg.lst [.int (P (0 + (i : Int))).1 t, .int (P (0 + (i : Int))).2 u]) :: (tl ++ led) ∧ ∀ q ∈ led, q.1 ≠ a
theorem places_rest (P : Int → Pt)
    (turn : ∀ (i : Nat) t I oI C oC D m₂ ys tl h tk (E' : Value → Shared → Prop), i < k → LCg.NsObj oC m₂ → m₂ x = some (.int (0 + (i : Int)) t) → Fr h₀ L h m → News h₀ L h ((I, oI) :: (C, oC) :: (D, LCg.lst ys) :: (tl ++ led)) → LCg.Off3 I C D (tl ++ led) → ((@Ne Nat I C) ∧ (@Ne Nat I D) ∧ (@Ne Nat C D)) →
      wpAny (model prog w) A (eval elt (compEnvC scope cl C env)) (LCg.CompEnd h₀ L m { s with heap := h, toks := tk } I oI C oC D (LCg.lst ys) (fun _ => True) (PlEnd P i tl led)) E' { s with heap := h, toks := tk })
    (fin : ∀ ys tl, All2 (LsIn tl) ys ((List.range k).map fun j : Nat => P (j : Int)) → (∀ p ∈ tl, ∀ q ∈ led, q.1 ≠ p.1) → Fin ys (tl ++ led)) :
    LCg.CompRest prog w A h₀ L m env elt x scope cl s (fun _ => True) (fun i v => ∃ t, v = .int (0 + (i : Int)) t) Fin k 0 [] led := by
  refine rest_ind (J := fun i ys news => ∃ tl, news = tl ++ led ∧ All2 (LsIn tl) ys ((List.range i).map fun j : Nat => P (j : Int)) ∧ ∀ p ∈ tl, ∀ q ∈ led, q.1 ≠ p.1) ?_ ⟨[], rfl, trivial, fun _ h => nomatch h⟩ ?_
  · rintro i t I oI C oC D m₂ ys news h tk E' hi ⟨tl, rfl, hys, hoff⟩ hC hx F N off ne
    refine wpAny_mono (turn i t I oI C oC D m₂ ys tl h tk E' hi hC hx F N off ne) (fun y s₂ hq => ?_) fun _ _ e => e
    obtain ⟨h', tk', nw, e, F', N', off', hS, a, t', u', rfl, rfl, hna⟩ := hq
    refine ⟨h', tk', _, e, F', N', off', hS, _ :: tl, rfl, ?_, List.forall_mem_cons.mpr ⟨hna, hoff⟩⟩
    rw [List.range_succ, List.map_append]
    refine All2.append (All2.mono (fun _ _ q => q.mono fun x hx => List.mem_cons_of_mem _ hx) hys) ⟨⟨a, t', u', rfl, ?_⟩, trivial⟩
    rw [Int.zero_add]
    exact List.mem_cons_self
  · rintro ys news' ⟨tl, rfl, hys, hoff⟩
    exact fin ys tl hys hoff
theorem pl_end {P : Int → Pt} {i : Nat} {s₁ : Shared} {h' : Heap} {tk : Nat} {I C D a : Addr} {oI oC : Obj} {ys : List Value} {tl : Led} {t u : Tok} (F : Fr h₀ L h' m)
    (N : News h₀ L h' ((a, LCg.lst [.int (P (0 + (i : Int))).1 t, .int (P (0 + (i : Int))).2 u]) :: ((I, oI) :: (C, oC) :: (D, LCg.lst ys) :: (tl ++ led)))) (hna : ∀ p ∈ (I, oI) :: (C, oC) :: (D, LCg.lst ys) :: (tl ++ led), p.1 ≠ a) (off : LCg.Off3 I C D (tl ++ led)) :
    LCg.CompEnd h₀ L m s₁ I oI C oC D (LCg.lst ys) (fun _ => True) (PlEnd P i tl led) (.ref a) { s₁ with heap := h', toks := tk } := by
  refine LCg.CompEnd.intro F N ((a, LCg.lst [.int (P (0 + (i : Int))).1 t, .int (P (0 + (i : Int))).2 u]) :: (tl ++ led)) ?_ ⟨⟨Ne.symm (hna (I, oI) (by simp)), Ne.symm (hna (C, oC) (by simp)), Ne.symm (hna (D, LCg.lst ys) (by simp))⟩, off⟩ trivial ⟨a, t, u, rfl, rfl, fun q hq => hna q (by simp [hq])⟩
  intro p hp
  simp only [List.mem_cons] at hp ⊢
  rcases hp with h | h | h | h | h <;> simp only [h, true_or, or_true]
theorem renorm2 {D : Addr} {oD : Obj} {tl bs : Led} {y1 y2 x1 x2 x3 x4 x5 x6 x7 x8 x9 : Addr × Obj} (N : News h₀ L h ((D, oD) :: (tl ++ y2 :: y1 :: x1 :: x2 :: x3 :: x4 :: x5 :: x6 :: x7 :: x8 :: x9 :: bs)))
    (off : ∀ p ∈ tl, ∀ q ∈ y2 :: y1 :: x1 :: x2 :: x3 :: x4 :: x5 :: x6 :: x7 :: x8 :: x9 :: bs, q.1 ≠ p.1) (o1 : LCg.Off1 D (tl ++ y2 :: y1 :: x1 :: x2 :: x3 :: x4 :: x5 :: x6 :: x7 :: x8 :: x9 :: bs)) (offb : OffC L bs)
    (e : @Eq Nat x1.1 (L + 9) ∧ @Eq Nat x2.1 (L + 8) ∧ @Eq Nat x3.1 (L + 7) ∧ @Eq Nat x4.1 (L + 6) ∧ @Eq Nat x5.1 (L + 5) ∧ @Eq Nat x6.1 (L + 4) ∧ @Eq Nat x7.1 (L + 3) ∧ @Eq Nat x8.1 (L + 2) ∧ @Eq Nat x9.1 (L + 1)) (g1 : @LT.lt Nat _ (L + 9) y1.1) (g2 : @LT.lt Nat _ (L + 9) y2.1) :
    ∃ bs2, News h₀ L h (x1 :: x2 :: x3 :: x4 :: x5 :: x6 :: x7 :: x8 :: x9 :: bs2) ∧ OffC L bs2 ∧ (D, oD) ∈ bs2 ∧ (∀ p ∈ tl, p ∈ bs2) ∧ ∀ p ∈ bs, p ∈ bs2 := by
  obtain ⟨e1, e2, e3, e4, e5, e6, e7, e8, e9⟩ := e
  have key : ∀ d : Nat, @Ne Nat x1.1 d → @Ne Nat x2.1 d → @Ne Nat x3.1 d → @Ne Nat x4.1 d → @Ne Nat x5.1 d → @Ne Nat x6.1 d → @Ne Nat x7.1 d → @Ne Nat x8.1 d → @Ne Nat x9.1 d → @LE.le Nat _ d L ∨ @LT.lt Nat _ (L + 9) d := by
    intro d a1 a2 a3 a4 a5 a6 a7 a8 a9
    rw [e1] at a1; rw [e2] at a2; rw [e3] at a3; rw [e4] at a4; rw [e5] at a5; rw [e6] at a6; rw [e7] at a7; rw [e8] at a8; rw [e9] at a9
    omega
  refine ⟨(D, oD) :: (tl ++ y2 :: y1 :: bs), con_drop N fun p hp => ?_, OffC.cons ?_ (OffC.app (fun p hp => ?_) (OffC.cons (.inr g2) (OffC.cons (.inr g1) offb))), List.mem_cons_self, fun p hp => by simp [hp], fun p hp => by simp [hp]⟩
  · simp only [List.mem_cons, List.mem_append] at hp ⊢
    rcases hp with h | h | h | h | h | h | h | h | h | h | h | h | h | h <;> simp only [h, true_or, or_true]
  · have o2 := (off1_app.mp o1).2
    obtain ⟨_, _, a1, a2, a3, a4, a5, a6, a7, a8, a9, _⟩ := o2
    exact key D a1 a2 a3 a4 a5 a6 a7 a8 a9
  · have o := off p hp
    exact key p.1 (o x1 (by simp)) (o x2 (by simp)) (o x3 (by simp)) (o x4 (by simp)) (o x5 (by simp)) (o x6 (by simp)) (o x7 (by simp)) (o x8 (by simp)) (o x9 (by simp))
theorem all2_last {l : Led} : ∀ {vs : List Value} {qs : List Pt}, All2 (PtIn l) vs qs → qs ≠ [] → ∃ a t u n, vs.getLast? = some (.ref a) ∧ (a, tp (qs.getLastD (0, 0)).1 (qs.getLastD (0, 0)).2 t u n) ∈ l
  | [], [], _, h => absurd rfl h
  | [v], [q], ⟨⟨a, t, u, n, e, m⟩, _⟩, _ => ⟨a, t, u, n, by rw [e]; rfl, m⟩
  | v :: v' :: r, q :: q' :: s, ⟨_, h⟩, _ => by
    obtain ⟨a, t, u, n, e, m⟩ := all2_last (vs := v' :: r) (qs := q' :: s) h (by simp)
    exact ⟨a, t, u, n, by rw [List.getLast?_cons_cons]; exact e, by rw [List.getLastD_cons, List.getLastD_cons]; rw [List.getLastD_cons] at m; exact m⟩
  | [], _ :: _, h, _ => h.elim
  | _ :: _, [], h, _ => h.elim
  | [v], q :: q' :: s, h, _ => h.2.elim
  | v :: v' :: r, [q], h, _ => h.2.elim
end
section
variable {prog : Program} {w : World} {A : Around} {E : Value → Shared → Prop} {s : Shared} {h₀ h : Heap} {L : Addr} {m : Str → Option Value} {env : Env} {elt : PySem.Expr} {x : Str} {scope : Scope} {cl : List (Str × Addr)} {Fin : List Value → Led → Prop} {led : Led} {k : Nat}
/-- the end of a loop's turn over a list -/
theorem turn_end {I : Addr} {oI : Obj} {keep all news' : Led} {J : (Str → Option Value) → Led → Prop} {Q : Flow → Shared → Prop} {s₁ : Shared} {h' : Heap} {tk : Nat} {m' : Str → Option Value}
    (F : Fr h₀ L h' m') (N : News h₀ L h' all) (hI : (I, oI) ∈ all) (sub : ∀ p ∈ news', p ∈ all) (lt : ∀ p ∈ news', @LT.lt Nat _ p.1 I) (hk : SubL keep news') (j : J m' news') :
    UnrPostW h₀ L s₁ [(I, oI)] (fun m' n' => SubL keep n' ∧ J m' n') Q .next { s₁ with heap := h', toks := tk } :=
  ⟨h', tk, m', news', rfl, F, fun p hp => by
    rcases List.mem_append.mp hp with hp | hp
    · rw [List.mem_singleton.mp hp]; exact N _ hI
    · exact N p (sub p hp), fun p hp q hq => by rw [List.mem_singleton.mp hq]; exact Nat.ne_of_lt (lt p hp), hk, j⟩
def GpEnd (P : Nat → Pt) (i : Nat) (tl led : Led) (y : Value) (news' : Led) : Prop := ∃ a t u n, y = .ref a ∧ news' = (a, tp (P i).1 (P i).2 t u n) :: (tl ++ led) ∧ ∀ q ∈ led, q.1 ≠ a
theorem gaps_rest {a : Int} (P : Nat → Pt)
    (turn : ∀ (i : Nat) t I oI C oC D m₂ ys tl h tk (E' : Value → Shared → Prop), i < k → LCg.NsObj oC m₂ → m₂ x = some (.int (a + (i : Int)) t) → Fr h₀ L h m → News h₀ L h ((I, oI) :: (C, oC) :: (D, LCg.lst ys) :: (tl ++ led)) → LCg.Off3 I C D (tl ++ led) → ((@Ne Nat I C) ∧ (@Ne Nat I D) ∧ (@Ne Nat C D)) →
      wpAny (model prog w) A (eval elt (compEnvC scope cl C env)) (LCg.CompEnd h₀ L m { s with heap := h, toks := tk } I oI C oC D (LCg.lst ys) (fun _ => True) (GpEnd P i tl led)) E' { s with heap := h, toks := tk })
    (fin : ∀ ys tl, All2 (PtIn tl) ys ((List.range k).map P) → (∀ p ∈ tl, ∀ q ∈ led, q.1 ≠ p.1) → Fin ys (tl ++ led)) :
    LCg.CompRest prog w A h₀ L m env elt x scope cl s (fun _ => True) (fun i v => ∃ t, v = .int (a + (i : Int)) t) Fin k 0 [] led := by
  refine rest_ind (J := fun i ys news => ∃ tl, news = tl ++ led ∧ All2 (PtIn tl) ys ((List.range i).map P) ∧ ∀ p ∈ tl, ∀ q ∈ led, q.1 ≠ p.1) ?_ ⟨[], rfl, trivial, fun _ h => nomatch h⟩ ?_
  · rintro i t I oI C oC D m₂ ys news h tk E' hi ⟨tl, rfl, hys, hoff⟩ hC hx F N off ne
    refine wpAny_mono (turn i t I oI C oC D m₂ ys tl h tk E' hi hC hx F N off ne) (fun y s₂ hq => ?_) fun _ _ e => e
    obtain ⟨h', tk', nw, e, F', N', off', hS, a, t', u', n', rfl, rfl, hna⟩ := hq
    refine ⟨h', tk', _, e, F', N', off', hS, _ :: tl, rfl, ?_, List.forall_mem_cons.mpr ⟨hna, hoff⟩⟩
    rw [List.range_succ, List.map_append]
    exact All2.append (All2.mono (fun _ _ q => q.mono fun x hx => List.mem_cons_of_mem _ hx) hys) ⟨⟨a, t', u', n', rfl, List.mem_cons_self⟩, trivial⟩
  · rintro ys news' ⟨tl, rfl, hys, hoff⟩
    exact fin ys tl hys hoff
theorem gp_end {P : Nat → Pt} {i : Nat} {s₁ : Shared} {h' : Heap} {tk : Nat} {I C D a : Addr} {oI oC : Obj} {ys : List Value} {tl : Led} {t u : Tok} {n : Nat} {X Y : Int} (F : Fr h₀ L h' m)
    (N : News h₀ L h' ((a, tp X Y t u n) :: ((I, oI) :: (C, oC) :: (D, LCg.lst ys) :: (tl ++ led)))) (hna : ∀ p ∈ (I, oI) :: (C, oC) :: (D, LCg.lst ys) :: (tl ++ led), p.1 ≠ a) (off : LCg.Off3 I C D (tl ++ led)) (eX : X = (P i).1) (eY : Y = (P i).2) :
    LCg.CompEnd h₀ L m s₁ I oI C oC D (LCg.lst ys) (fun _ => True) (GpEnd P i tl led) (.ref a) { s₁ with heap := h', toks := tk } := by
  subst eX eY
  refine LCg.CompEnd.intro F N ((a, tp (P i).1 (P i).2 t u n) :: (tl ++ led)) ?_ ⟨⟨Ne.symm (hna (I, oI) (by simp)), Ne.symm (hna (C, oC) (by simp)), Ne.symm (hna (D, LCg.lst ys) (by simp))⟩, off⟩ trivial ⟨a, t, u, n, rfl, rfl, fun q hq => hna q (by simp [hq])⟩
  intro p hp
  simp only [List.mem_cons] at hp ⊢
  rcases hp with h | h | h | h | h <;> simp only [h, true_or, or_true]
end
/-- the rows kept of the gaps -/
def kept (B : Int) (gs : List Pt) : List Int := (gs.filter fun g => decide (g.2 ≤ B)).map (·.1)
def IntIs (v : Value) (j : Int) : Prop := ∃ t, v = .int j t
theorem kept_snoc {B : Int} {gs : List Pt} {i : Nat} {g : Pt} (h : gs[i]? = some g) : kept B (gs.take (i + 1)) = kept B (gs.take i) ++ (if g.2 ≤ B then [g.1] else []) := by
  unfold kept
  rw [List.take_add_one, h]
  simp only [Option.toList_some, List.filter_append, List.map_append]
  congr 1
  by_cases e : g.2 ≤ B <;> simp [e]
theorem pairs_of {l : Led} : ∀ {vs : List Value} {gs : List Pt}, All2 (PtIn l) vs gs → ∃ prs, All2 (PairIn l) vs prs ∧ All2 (fun pr g => ∃ t u, pr = (Value.int g.1 t, Value.int g.2 u)) prs gs
  | [], [], _ => ⟨[], trivial, trivial⟩
  | v :: r, g :: q, ⟨⟨a, t, u, n, e, m⟩, k⟩ => by
    obtain ⟨prs, x, y⟩ := pairs_of k
    exact ⟨(.int g.1 t, .int g.2 u) :: prs, ⟨⟨a, n, e, m⟩, x⟩, ⟨t, u, rfl⟩, y⟩
  | [], _ :: _, h => h.elim
  | _ :: _, [], h => h.elim
theorem kept_first {B b M j : Int} {g : Int → Int} (hb : b < j) (hj : j ≤ M) (hg : g j ≤ B) :
    ∃ j0 r, kept B ((List.range (M + 1 - (b + 1)).toNat).map fun i : Nat => (b + 1 + (i : Int), g (b + 1 + (i : Int)))) = j0 :: r ∧ b < j0 ∧ j0 ≤ j := by
  have key : ∀ (k : Nat) (c : Int), c ≤ j → j < c + k → ∃ j0 r, kept B ((List.range k).map fun i : Nat => (c + (i : Int), g (c + (i : Int)))) = j0 :: r ∧ c ≤ j0 ∧ j0 ≤ j := by
    intro k
    induction k with
    | zero => intro c h1 h2; omega
    | succ k ih =>
      intro c h1 h2
      rw [List.range_succ_eq_map, List.map_cons, List.map_map]
      unfold kept
      by_cases e : g c ≤ B
      · rw [List.filter_cons, if_pos (by simpa using e), List.map_cons]
        exact ⟨c, _, by simp only [Int.natCast_zero, Int.add_zero]; rfl, Int.le_refl _, h1⟩
      · have hc : c ≠ j := fun q => e (by rw [q]; exact hg)
        obtain ⟨j0, r, h3, h4, h5⟩ := ih (c + 1) (by omega) (by omega)
        refine ⟨j0, r, ?_, by omega, h5⟩
        rw [List.filter_cons, if_neg (by simpa using e)]
        unfold kept at h3
        rw [← h3]
        congr 2
        apply List.map_congr_left
        intro i _
        have : c + 1 + (i : Int) = c + ((i + 1 : Nat) : Int) := by omega
        simp only [Function.comp, Nat.succ_eq_add_one, this]
  obtain ⟨j0, r, h1, h2, h3⟩ := key (M + 1 - (b + 1)).toNat (b + 1) (by omega) (by omega)
  exact ⟨j0, r, h1, by omega, h3⟩
theorem int_rows : ∀ {vs : List Value} {j : Int} {r : List Int}, All2 IntIs vs (j :: r) → ∃ t vs', vs = .int j t :: vs'
  | v :: vs, j, r, ⟨⟨t, e⟩, _⟩ => ⟨t, vs, by rw [e]⟩
  | [], _, _, h => h.elim
theorem all2_map_get {α : Type} {R : Value → α → Prop} {vs : List Value} {k : Nat} {f : Nat → α} (h : All2 R vs ((List.range k).map f)) {i : Nat} (hi : i < k) : ∃ v, vs[i]? = some v ∧ R v (f i) := by
  have hl : vs.length = k := by rw [h.length]; simp
  have e : vs[i]? = some vs[i] := List.getElem?_eq_getElem (by omega)
  obtain ⟨b, hb, hr⟩ := All2.get h e
  rw [List.getElem?_map, List.getElem?_range hi] at hb
  have : f i = b := by simpa using hb
  exact ⟨_, e, this ▸ hr⟩
theorem rows_keep {B : Int} {gs : List Pt} {ys : List Value} {i : Nat} {g : Pt} {t : Tok} (h : All2 IntIs ys (kept B (gs.take i))) (hg : gs[i]? = some g) (e : g.2 ≤ B) : All2 IntIs (ys ++ [.int g.1 t]) (kept B (gs.take (i + 1))) := by
  rw [kept_snoc hg, if_pos e]
  exact All2.append h ⟨⟨t, rfl⟩, trivial⟩
theorem rows_skip {B : Int} {gs : List Pt} {ys : List Value} {i : Nat} {g : Pt} (h : All2 IntIs ys (kept B (gs.take i))) (hg : gs[i]? = some g) (e : ¬ g.2 ≤ B) : All2 IntIs ys (kept B (gs.take (i + 1))) := by
  rw [kept_snoc hg, if_neg e, List.append_nil]
  exact h
theorem map_norm {m' m₀ : Str → Option Value} {n : Str} {l : List Str} {v : Option Value} (h1 : m' n = v) (h2 : ∀ z, z ≠ n → l.contains z = false → m' z = m₀ z) : ∃ u : Str → Option Value, m' = fun z => if z = n then v else if l.contains z = true then u z else m₀ z := by
  refine ⟨m', funext fun z => ?_⟩
  by_cases e : z = n
  · rw [if_pos e, e, h1]
  · rw [if_neg e]
    by_cases c : l.contains z = true
    · rw [if_pos c]
    · rw [if_neg c]
      exact h2 z e (by simpa using c)
abbrev before1 : Str := Str.ofString "before"
def stored1 : List Str := [Str.ofString "gaps", Str.ofString "rows"]
structure Lp1 (M : Int) (ok : Pt → Int → Prop) (m₀ : Str → Option Value) (x1 x3 x4 x5 x6 x7 x8 x9 : Addr × Obj) (a2 : Addr) (bs : Led) (vs : List Value) (m' : Str → Option Value) (news : Led) (b : Int) (t : Tok) (o : Obj) (u : Option Value) (qs : List Pt) : Prop where
  news : news = x1 :: (a2, o) :: x3 :: x4 :: x5 :: x6 :: x7 :: x8 :: x9 :: bs
  cell : o.data = .cell u
  map : ∃ u : Str → Option Value, m' = fun z => if z = before1 then some (.int b t) else if stored1.contains z = true then u z else m₀ z
  b0 : 0 ≤ b
  bM : b ≤ M
  vs : All2 (PtIn bs) vs qs
  gr : Gr M ok b qs
theorem wbnd {K nn : Nat} {ps : List Pt} (h1 : 1 ≤ K) (h3 : K ≤ 3) (h : (nn = 2 ∧ ps.length = 3) ∨ (nn = 3 ∧ ps.length = 4)) : 0 ≤ ((2 : Int) ^ K) ^ nn ∧ ((2 : Int) ^ K) ^ nn ≤ 1000 := by
  rcases (show K = 1 ∨ K = 2 ∨ K = 3 by omega) with rfl | rfl | rfl <;> rcases h with ⟨rfl, _⟩ | ⟨rfl, _⟩ <;> decide
def Lp1J (M : Int) (ok : Pt → Int → Prop) (m₀ : Str → Option Value) (x1 x3 x4 x5 x6 x7 x8 x9 : Addr × Obj) (a2 : Addr) (bs : Led) (vs : List Value) (m' : Str → Option Value) (news : Led) : Prop :=
  ∃ b t o u qs, Lp1 M ok m₀ x1 x3 x4 x5 x6 x7 x8 x9 a2 bs vs m' news b t o u qs
theorem Lp1.start {M : Int} {ok : Pt → Int → Prop} {m₀ : Str → Option Value} {x1 x3 x4 x5 x6 x7 x8 x9 : Addr × Obj} {a2 : Addr} {bs : Led} {vs : List Value} {t : Tok} {o : Obj} {u : Option Value} {qs : List Pt} {h₀ hh : Heap} {L : Addr} (_F : Fr h₀ L hh m₀) (_N : News h₀ L hh (x1 :: (a2, o) :: x3 :: x4 :: x5 :: x6 :: x7 :: x8 :: x9 :: bs))
    (h : m₀ before1 = some (.int 0 t)) (hc : o.data = .cell u) (hM : 0 ≤ M) (hv : All2 (PtIn bs) vs qs) (g : Gr M ok 0 qs) :
    Lp1J M ok m₀ x1 x3 x4 x5 x6 x7 x8 x9 a2 bs vs m₀ (x1 :: (a2, o) :: x3 :: x4 :: x5 :: x6 :: x7 :: x8 :: x9 :: bs) :=
  ⟨0, t, o, u, qs, rfl, hc, map_norm h fun _ _ _ => rfl, Int.le_refl _, hM, hv, g⟩
section
variable {prog : Program} {w : World} {A : Around} {E : Value → Shared → Prop} {s : Shared} {env : Env} {h₀ : Heap} {L : Addr} {target : PySem.Expr} {body : List Stmt} {Q : Flow → Shared → Prop}
theorem for_items {ax : Addr} {vs : List Value} {n : Nat} {m₀ : Str → Option Value} {news : Led} (hh : A.handled = none) (hLe : env.locals = L) (F : Fr h₀ L s.heap m₀) (N : News h₀ L s.heap news)
    (hm : (ax, ({ cls := .type "list", data := .seq vs.toArray n } : Obj)) ∈ news) (J : List Value → (Str → Option Value) → Led → Prop) (st : J vs m₀ news)
    (turn : ∀ I : Addr, (∀ p ∈ news, @LT.lt Nat _ p.1 I) → ∀ v r m' news' h tk (oI : Obj), oI.cls = .type "list_iterator" → J (v :: r) m' news' → Fr h₀ L h m' → News h₀ L h ((I, oI) :: news') →
      wpAny (model prog w) A (assign target env v) (fun _ s₂ => wpAny (model prog w) A (execs body env) (UnrPostW h₀ L { s with heap := h, toks := tk } [(I, oI)] (fun m'' n'' => SubL [(ax, ({ cls := .type "list", data := .seq vs.toArray n } : Obj))] n'' ∧ J r m'' n'') Q) E s₂) E { s with heap := h, toks := tk })
    (fin : ∀ m' news' h tk, J [] m' news' → Fr h₀ L h m' → News h₀ L h news' → Q .next { s with heap := h, toks := tk }) :
    wpAny (model prog w) A (pyIter (.ref ax)) (fun it s₂ => TurnsAt prog w A h₀ env target body Q E it s₂) E s := by
  subst hLe
  exact iter_listTurns hh F N hm rfl rfl fun I hI => items_ind J (fun v r m' news' h tk oI hc hJ F' N' => turn I hI v r m' news' h tk oI hc hJ F' N') fin vs m₀ news st
end
theorem Lp1.turn {M : Int} {ok : Pt → Int → Prop} {m₀ u0 : Str → Option Value} {x1 x3 x4 x5 x6 x7 x8 x9 y1 y2 y3 : Addr × Obj} {a2 I ax : Addr} {oI oa o : Obj} {gt bs : Led} {r : List Value} {t : Tok} {b : Int} {u w1 v1 v2 : Option Value} {qs : List Pt} {h₀ h' : Heap} {L : Addr} {s₁ : Shared} {tk : Nat} {Q : Flow → Shared → Prop}
    (F : Fr h₀ L h' (fun y => if y = Str.ofString "before" then some (.int b t) else if y = Str.ofString "rows" then v1 else if y = Str.ofString "gaps" then v2 else (fun z => if z = before1 then w1 else if stored1.contains z = true then u0 z else m₀ z) y))
    (N : News h₀ L h' (y1 :: y2 :: y3 :: (gt ++ (I, oI) :: x1 :: (a2, o) :: x3 :: x4 :: x5 :: x6 :: x7 :: x8 :: x9 :: bs)))
    (lt : ∀ p ∈ x1 :: (a2, o) :: x3 :: x4 :: x5 :: x6 :: x7 :: x8 :: x9 :: bs, @LT.lt Nat _ p.1 I) (hm : (ax, oa) ∈ bs) (hc : o.data = .cell u) (b0 : 0 ≤ b) (bM : b ≤ M) (hv : All2 (PtIn bs) r qs) (hg : Gr M ok b qs) :
    UnrPostW h₀ L s₁ [(I, oI)] (fun m'' n'' => SubL [(ax, oa)] n'' ∧ Lp1J M ok m₀ x1 x3 x4 x5 x6 x7 x8 x9 a2 bs r m'' n'') Q .next { s₁ with heap := h', toks := tk } := by
  refine turn_end F N (by simp) (fun p hp => ?_) lt ⟨by simp [hm], trivial⟩ ⟨b, t, o, u, qs, rfl, hc, map_norm (by simp [before1]) (fun z h1 h3 => ?_), b0, bM, hv, hg⟩
  · exact List.mem_cons_of_mem _ (List.mem_cons_of_mem _ (List.mem_cons_of_mem _ (List.mem_append_right _ (List.mem_cons_of_mem _ hp))))
  · simp only [stored1, List.contains_cons, List.contains_nil, Bool.or_false, Bool.or_eq_false_iff, beq_eq_false_iff_ne, ne_eq] at h3
    have h4 : stored1.contains z = false := by simp [stored1, h3]
    simp only [if_neg h1, if_neg h3.1, if_neg h3.2, h4, Bool.false_eq_true, if_false]
section
variable {prog : Program} {w : World} {A : Around} {E : Value → Shared → Prop} {s : Shared} {h₀ : Heap} {L : Addr} {m : Str → Option Value} {news : Led}
theorem add_front {a b : Addr} {x : Value} {fv : List Value} {n1 n2 : Nat} {Q : Value → Shared → Prop} (F : Fr h₀ L s.heap m) (N : News h₀ L s.heap news) (ha : (a, ({ cls := .type "list", data := .seq #[x] n1 } : Obj)) ∈ news)
    (hb : (b, ({ cls := .type "list", data := .seq fv.toArray n2 } : Obj)) ∈ news) (hl : fv.length ≤ 1000)
    (h : ∀ D h', Fr h₀ L h' m → News h₀ L h' ((D, ({ cls := .type "list", data := .seq (x :: fv).toArray 0 } : Obj)) :: news) → (∀ p ∈ news, p.1 < D) → Q (.ref D) { s with heap := h' }) : wpAny (model prog w) A (binaryOp .Add (.ref a) (.ref b)) Q E s :=
  kmk_add_lit F N (N.isList ha) (N.isList hb) (zs := x :: fv) (by simp) h (by rw [sizeLine_eq]; simp; omega)
end
end Fl
namespace Fl
theorem all2_zip {α β γ δ : Type} {R : α → γ → Prop} {T : β → δ → Prop} : ∀ {xs : List α} {ps : List γ} {ys : List β} {qs : List δ}, All2 R xs ps → All2 T ys qs → All2 (fun (a : α × β) (b : γ × δ) => R a.1 b.1 ∧ T a.2 b.2) (List.zip xs ys) (List.zip ps qs)
  | [], [], _, _, _, _ => by simp [All2]
  | _ :: _, _ :: _, [], [], _, _ => by simp [All2]
  | _ :: _, _ :: _, _ :: _, _ :: _, h, k => ⟨⟨h.1, k.1⟩, all2_zip h.2 k.2⟩
  | _ :: _, _ :: _, _ :: _, [], _, k => k.elim
  | _ :: _, _ :: _, [], _ :: _, _, k => k.elim
  | [], _ :: _, _, _, h, _ => h.elim
  | _ :: _, [], _, _, h, _ => h.elim
theorem sd_zip {W bd : Int} {P : Pt} : ∀ {o : Pt} {l : List Pt}, Sd W bd P o l → ∃ (j : Nat) (o' p' : Pt), (List.zip (o :: l) l)[j]? = some (o', p') ∧ beside P.1 P.2 W o'.1 o'.2 p'.1 p'.2 bd = true
  | _, [], h => h.elim
  | o, p :: r, .inl h => ⟨0, o, p, rfl, h⟩
  | o, p :: r, .inr h => by
    obtain ⟨j, o', p', e, q⟩ := sd_zip h
    exact ⟨j + 1, o', p', e, q⟩
theorem lastP_ok {ps : List Pt} (h : PsOk ps) : PtOk (lastP ps) := by
  obtain ⟨hl, hp⟩ := h
  have hne : ps ≠ [] := by rintro rfl; simp at hl
  unfold lastP
  rw [List.getLastD_eq_getLast?, List.getLast?_eq_some_getLast hne]
  exact hp _ (List.getLast_mem hne)
theorem fsp_ok {b : Int} : ∀ {k : Nat} {ps : List Pt}, PsOk ps → ∀ q ∈ fsp b k ps, PtOk q
  | 0, ps, h, q, hq => by rw [List.mem_singleton.mp hq]; exact lastP_ok h
  | k + 1, ps, h, q, hq => by
    unfold fsp at hq
    split at hq
    · rw [List.mem_singleton.mp hq]; exact lastP_ok h
    · rcases List.mem_append.mp hq with hq | hq
      · exact fsp_ok h.cut.1 q hq
      · exact fsp_ok h.cut.2 q hq
def Bd (B : Int) (q : Pt) : Prop := (-B ≤ q.1 ∧ q.1 ≤ B) ∧ (-B ≤ q.2 ∧ q.2 ≤ B)
theorem bl_one {mn bf x y B : Int} (h0 : 0 ≤ bf) (h1 : bf ≤ mn) (hx : -B ≤ x ∧ x ≤ B) (hy : -B ≤ y ∧ y ≤ B) : -(mn * B) ≤ x * (mn - bf) + y * bf ∧ x * (mn - bf) + y * bf ≤ mn * B := by
  have a1 := Int.mul_le_mul_of_nonneg_right hx.1 (show 0 ≤ mn - bf by omega)
  have a2 := Int.mul_le_mul_of_nonneg_right hx.2 (show 0 ≤ mn - bf by omega)
  have a3 := Int.mul_le_mul_of_nonneg_right hy.1 h0
  have a4 := Int.mul_le_mul_of_nonneg_right hy.2 h0
  constructor <;> grind
theorem blends_bd {mn bf B : Int} (h0 : 0 ≤ bf) (h1 : bf ≤ mn) : ∀ {qs : List Pt}, (∀ q ∈ qs, Bd B q) → ∀ q ∈ blends mn bf qs, Bd (mn * B) q
  | [], _, q, hq => by simp [blends] at hq
  | [_], _, q, hq => by simp [blends] at hq
  | a :: b :: r, h, q, hq => by
    rcases List.mem_cons.mp hq with rfl | hq
    · have ha := h a (by simp)
      have hb := h b (by simp)
      exact ⟨bl_one h0 h1 ha.1 hb.1, bl_one h0 h1 ha.2 hb.2⟩
    · exact blends_bd h0 h1 (fun x hx => h x (List.mem_cons_of_mem _ hx)) q hq
theorem place_bd {mn bf : Int} (h0 : 0 ≤ bf) (h1 : bf ≤ mn) (h8 : mn ≤ 8) : ∀ (n : Nat) {B : Int} {qs : List Pt}, 0 ≤ B → (∀ q ∈ qs, Bd B q) → Bd (8 ^ n * B) (place mn bf n qs)
  | 0, B, [], hB, h => by simp only [place, List.headD_nil, Bd]; omega
  | 0, B, a :: r, hB, h => by
    have := h a (by simp)
    simpa [place] using this
  | n + 1, B, qs, hB, h => by
    have hm : mn * B ≤ 8 * B := Int.mul_le_mul_of_nonneg_right h8 hB
    have h2 : ∀ q ∈ blends mn bf qs, Bd (8 * B) q := fun q hq => by
      have := blends_bd h0 h1 h q hq
      unfold Bd at *
      omega
    have := place_bd h0 h1 h8 n (B := 8 * B) (by omega) h2
    rw [show (8 : Int) ^ (n + 1) * B = 8 ^ n * (8 * B) by rw [Int.pow_succ, Int.mul_assoc]]
    exact this
/-- what the second loop wants of a place -/
def SideP (W bd : Int) (o : Pt) (l : List Pt) (q : Pt) : Prop := Sd W bd q o l ∧ (-1000000 ≤ q.1 ∧ q.1 ≤ 1000000) ∧ (-1000000 ≤ q.2 ∧ q.2 ≤ 1000000)
theorem sideP_all {K n : Nat} {b : Int} {pf : Pt} {psr : List Pt} (h : (n = 2 ∧ (pf :: psr).length = 3) ∨ (n = 3 ∧ (pf :: psr).length = 4)) (hB : ∀ p ∈ pf :: psr, PtB p) (hb0 : 0 ≤ b) (hM : (2 : Int) ^ K ≤ 8) :
    ∀ q ∈ (List.range ((2 : Int) ^ K + 1 - 0).toNat).map (fun j : Nat => place ((2 : Int) ^ K) (j : Int) n (pf :: psr)), SideP (((2 : Int) ^ K) ^ n) (b + 3 * (K : Int)) pf (fsp b K (pf :: psr)) q := by
  intro q hq
  obtain ⟨j, hj, rfl⟩ := List.mem_map.mp hq
  have hj' := List.mem_range.mp hj
  have hb : Bd (8 ^ n * 60) (place ((2 : Int) ^ K) (j : Int) n (pf :: psr)) := place_bd (by omega) (by omega) hM n (by omega) (fun p hp => by have := hB p hp; exact this)
  have hbb : (8 : Int) ^ n * 60 ≤ 1000000 := by rcases h with ⟨rfl, _⟩ | ⟨rfl, _⟩ <;> decide
  refine ⟨law_sides h (by omega) (by omega) hb0, ?_, ?_⟩
  · have := hb.1; omega
  · have := hb.2; omega
def Lp2J (P : Pt → Prop) (m₀ : Str → Option Value) (x2 x3 x4 x5 x6 x7 x8 x9 : Addr × Obj) (a1 : Addr) (bs : Led) (vs : List Value) (m' : Str → Option Value) (news : Led) : Prop :=
  m' = m₀ ∧ ∃ o u qs, news = (a1, o) :: x2 :: x3 :: x4 :: x5 :: x6 :: x7 :: x8 :: x9 :: bs ∧ o.data = .cell u ∧ All2 (LsIn bs) vs qs ∧ ∀ q ∈ qs, P q
section
variable {P : Pt → Prop} {m₀ : Str → Option Value} {x2 x3 x4 x5 x6 x7 x8 x9 y1 y2 y3 : Addr × Obj} {a1 I ax : Addr} {oI oa o : Obj} {tl bs : Led} {r : List Value} {u : Option Value} {qs : List Pt} {h₀ h' : Heap} {L : Addr} {s₁ : Shared} {tk : Nat} {Q : Flow → Shared → Prop}
theorem Lp2.start (F : Fr h₀ L h' m₀) (N : News h₀ L h' (y1 :: (tl ++ y2 :: y3 :: (a1, o) :: x2 :: x3 :: x4 :: x5 :: x6 :: x7 :: x8 :: x9 :: bs))) (hc : o.data = .cell u) (hv : All2 (LsIn bs) r qs) (hP : ∀ q ∈ qs, P q)
    (lS : ∀ p ∈ y2 :: y3 :: (a1, o) :: x2 :: x3 :: x4 :: x5 :: x6 :: x7 :: x8 :: x9 :: bs, p.1 < y1.1) (ltl : ∀ p ∈ tl, @LT.lt Nat _ y1.1 p.1) (ea : @Eq Nat a1 (L + 9)) (offb : OffC L bs) :
    ∃ bs3, News h₀ L h' ((a1, o) :: x2 :: x3 :: x4 :: x5 :: x6 :: x7 :: x8 :: x9 :: bs3) ∧ Lp2J P m₀ x2 x3 x4 x5 x6 x7 x8 x9 a1 bs3 r m₀ ((a1, o) :: x2 :: x3 :: x4 :: x5 :: x6 :: x7 :: x8 :: x9 :: bs3) ∧ OffC L bs3 ∧ y1 ∈ bs3 ∧ (∀ p ∈ tl, p ∈ bs3) ∧ ∀ p ∈ bs, p ∈ bs3 := by
  have h1 : @LT.lt Nat _ (L + 9) y1.1 := ea ▸ lS (a1, o) (by simp)
  refine ⟨y1 :: (tl ++ bs), con_drop N fun p hp => ?_, ⟨rfl, o, u, qs, rfl, hc, All2.mono (fun _ _ q => q.mono fun x hx => by simp [hx]) hv, hP⟩, OffC.cons (.inr h1) (OffC.app (fun p hp => .inr (Nat.lt_trans h1 (ltl p hp))) offb), by simp, fun p hp => by simp [hp], fun p hp => by simp [hp]⟩
  simp only [List.mem_cons, List.mem_append] at hp ⊢
  rcases hp with h | h | h | h | h | h | h | h | h | h | h | h <;> simp only [h, true_or, or_true]
theorem Lp2.turn (F : Fr h₀ L h' m₀) (N : News h₀ L h' (y1 :: y2 :: (I, oI) :: (a1, o) :: x2 :: x3 :: x4 :: x5 :: x6 :: x7 :: x8 :: x9 :: bs))
    (lt : ∀ p ∈ (a1, o) :: x2 :: x3 :: x4 :: x5 :: x6 :: x7 :: x8 :: x9 :: bs, @LT.lt Nat _ p.1 I) (hm : (ax, oa) ∈ bs) (hc : o.data = .cell u) (hv : All2 (LsIn bs) r qs) (hP : ∀ q ∈ qs, P q) :
    UnrPostW h₀ L s₁ [(I, oI)] (fun m'' n'' => SubL [(ax, oa)] n'' ∧ Lp2J P m₀ x2 x3 x4 x5 x6 x7 x8 x9 a1 bs r m'' n'') Q .next { s₁ with heap := h', toks := tk } :=
  turn_end F N (by simp) (fun p hp => List.mem_cons_of_mem _ (List.mem_cons_of_mem _ (List.mem_cons_of_mem _ hp))) lt ⟨by simp [hm], trivial⟩ ⟨rfl, o, u, qs, rfl, hc, hv, hP⟩
end
theorem right_end {h₀ h' : Heap} {L : Addr} {x1 x2 x3 x4 x5 x6 x7 x8 x9 : Addr × Obj} {bs led : Led} (hs : ∀ p ∈ led, p ∈ bs) (N : News h₀ L h' (x1 :: x2 :: x3 :: x4 :: x5 :: x6 :: x7 :: x8 :: x9 :: bs)) : News h₀ L h' led :=
  con_drop N fun p hp => by have := hs p hp; simp [this]
theorem beside_con' {w : World} {mean mg mb} {news : Led} {a1 a2 a3 : Addr} {pX pY W ox oy px py bd : Int} {t1 u1 t2 u2 t3 u3 tw td : Tok} {n1 n2 n3 : Nat}
    (h1 : (a1, ({ cls := .type "list", data := .seq #[.int pX t1, .int pY u1] n1 } : Obj)) ∈ news) (h2 : (a2, tp ox oy t2 u2 n2) ∈ news) (h3 : (a3, tp px py t3 u3 n3) ∈ news) (hW : 0 ≤ W ∧ W ≤ 1000) (hX : -1000000 ≤ pX ∧ pX ≤ 1000000) (hY : -1000000 ≤ pY ∧ pY ≤ 1000000)
    (b1 : -1000 ≤ ox ∧ ox ≤ 1000) (b2 : -1000 ≤ oy ∧ oy ≤ 1000) (b3 : -1000 ≤ px ∧ px ≤ 1000) (b4 : -1000 ≤ py ∧ py ≤ 1000) (b5 : 0 ≤ bd ∧ bd ≤ 100) :
    Con w mean mg mb 340 news [.ref a1, .int W tw, .ref a2, .ref a3, .int bd td] 3 40 (fun tl r => tl = [] ∧ r = .bool (beside pX pY W ox oy px py bd)) := beside_con hW hX hY b1 b2 b3 b4 b5 h1 h2 h3
/-- the sides kept so far: some, once one is beside -/
def SdJ (W bd : Int) (P : Pt) (zs : List (Pt × Pt)) (i : Nat) (ys : List Value) : Prop := (∃ (j : Nat) (o p : Pt), j < i ∧ zs[j]? = some (o, p) ∧ beside P.1 P.2 W o.1 o.2 p.1 p.2 bd = true) → ys ≠ []
theorem SdJ.keep {W bd : Int} {P : Pt} {zs : List (Pt × Pt)} {i : Nat} {ys : List Value} {v : Value} : SdJ W bd P zs (i + 1) (ys ++ [v]) := fun _ => by simp
theorem SdJ.skip {W bd : Int} {P o p : Pt} {zs : List (Pt × Pt)} {i : Nat} {ys : List Value} (h : SdJ W bd P zs i ys) (hg : zs[i]? = some (o, p)) (hb : ¬ beside P.1 P.2 W o.1 o.2 p.1 p.2 bd = true) : SdJ W bd P zs (i + 1) ys := by
  rintro ⟨j, o', p', hj, e, q⟩
  by_cases h' : j < i
  · exact h ⟨j, o', p', h', e, q⟩
  · have : j = i := by omega
    subst this
    rw [hg] at e
    cases e
    exact absurd q hb
theorem SdJ.fin {W bd : Int} {P : Pt} {o : Pt} {l : List Pt} {k : Nat} {ys : List Value} (h : SdJ W bd P (List.zip (o :: l) l) k ys) (hk : (List.zip (o :: l) l).length ≤ k) (hs : Sd W bd P o l) : ∃ v r, ys = v :: r := by
  obtain ⟨j, o', p', e, q⟩ := sd_zip hs
  have hj := (List.getElem?_eq_some_iff.mp e).1
  exact List.exists_cons_of_ne_nil (h ⟨j, o', p', by omega, e, q⟩)
theorem All2.cons2 {α β : Type} {R : α → β → Prop} {a : α} {b : β} {l : List α} {k : List β} (h : R a b) (t : All2 R l k) : All2 R (a :: l) (b :: k) := ⟨h, t⟩
theorem PsOk.head {pf : Pt} {r : List Pt} (h : PsOk (pf :: r)) : PtOk pf := h.2 _ List.mem_cons_self
theorem zip_ok {pf : Pt} {l : List Pt} {i : Nat} {o p : Pt} (hf : PtOk pf) (hl : ∀ q ∈ l, PtOk q) (h : (List.zip (pf :: l) l)[i]? = some (o, p)) : PtOk o ∧ PtOk p := by
  have hm := List.mem_of_getElem? h
  obtain ⟨h1, h2⟩ := List.of_mem_zip hm
  refine ⟨?_, hl _ h2⟩
  rcases List.mem_cons.mp h1 with e | e
  · rw [e]; exact hf
  · exact hl _ e
end Fl
namespace Fl
theorem calm_K_right : True := by
  w_top off
  trivial
local macro_rules | `(tactic| k_mem) => `(tactic| (show (_ : Addr × Obj) ∈ (_ : List (Addr × Obj)); ktr_member))
local macro_rules | `(tactic| k_mem) => `(tactic| (show (_ : Addr × Obj) ∈ (_ ++ _ : List (Addr × Obj)); first | (refine List.mem_append.mpr (Or.inl ?_); k_mem) | (refine List.mem_append.mpr (Or.inr ?_); k_mem)))
local macro_rules | `(tactic| k_all) => `(tactic| first | (with_reducible assumption) | exact ne_upA (by assumption) (Nat.le_refl _) | exact ne_up (by assumption) (by omega))
local macro_rules | `(tactic| k_lt $h:ident) => `(tactic| (replace $h := allLt_of $h; (simp only [AllLt, allLt_app, and_assoc, and_true] at $h:ident); (repeat (have _ := And.left $h; replace $h := And.right $h))))
local macro_rules | `(tactic| k_ne) => `(tactic| (refine neN ?_; (try dsimp only); first | with_reducible assumption | exact Ne.symm (by with_reducible assumption) | omega))
local macro_rules | `(tactic| walk_at "CompSrc") => `(tactic| (k_here; k_dflt (refine LCg.CompSrc.range (by rfl) (by k_asm) (by k_asm) (by assumption) (small_one (by omega) (by omega) (by omega) (by omega)) (rangeSize_nat _ _) (by rw [sizeLine_eq]; omega) ?_; intro g')))
theorem kc_nine {cm : Str → Option Value} {n₁ n₂ n₃ n₄ n₅ n₆ n₇ n₈ n₉ : Str} {c₁ c₂ c₃ c₄ c₅ c₆ c₇ c₈ c₉ : Addr} {cells : List (Addr × Obj)} (x : CellsAre cm [(n₁, c₁), (n₂, c₂), (n₃, c₃), (n₄, c₄), (n₅, c₅), (n₆, c₆), (n₇, c₇), (n₈, c₈), (n₉, c₉)] cells) :
    ∃ o₁ o₂ o₃ o₄ o₅ o₆ o₇ o₈ o₉, cells = [(c₁, o₁), (c₂, o₂), (c₃, o₃), (c₄, o₄), (c₅, o₅), (c₆, o₆), (c₇, o₇), (c₈, o₈), (c₉, o₉)] ∧ o₁.data = .cell (cm n₁) ∧ o₂.data = .cell (cm n₂) ∧ o₃.data = .cell (cm n₃) ∧ o₄.data = .cell (cm n₄) ∧ o₅.data = .cell (cm n₅) ∧ o₆.data = .cell (cm n₆) ∧ o₇.data = .cell (cm n₇) ∧ o₈.data = .cell (cm n₈) ∧ o₉.data = .cell (cm n₉) := by
  cases x with | cons h r => obtain ⟨o₂, o₃, o₄, o₅, o₆, o₇, o₈, o₉, rfl, h₂, h₃, h₄, h₅, h₆, h₇, h₈, h₉⟩ := kc_eight r; exact ⟨_, o₂, o₃, o₄, o₅, o₆, o₇, o₈, o₉, rfl, h, h₂, h₃, h₄, h₅, h₆, h₇, h₈, h₉⟩
local macro_rules | `(tactic| k_cells $Y:ident) => `(tactic| (have hY := kc_nine $Y; obtain ⟨o', o2', o3', o4', o5', o6', o7', o8', o9', hE', d1', d2', d3', d4', d5', d6', d7', d8', d9'⟩ := hY; subst hE'; clear $Y))
local macro_rules | `(tactic| ktr_enter) => `(tactic| (refine' code_defC ?k1 ?k2 ?k3 ?k4 ?k5 ?kA ?kF ?kK ?k6 ?k7 ?k8 ?k9 ?kB ?kD ?_ ?c2 ?c3 ?c4; (case kA => exact rfl); (case kF => exact rfl); (case kK => assumption); (case k1 => k_asm); (case k2 => k_asm); (case k3 => k_asm); (case k4 => k_asm); (case k5 => k_asm); (case k6 => k_is); (case k7 => k_is); (case k8 => ktr_room); (case k9 => exact BindsTo.of_eq rfl); (case kB => exact rfl); (case kD => decide +kernel); (case c2 => exact rfl); (case c3 => exact rfl); (case c4 => exact rfl); k_whole; intro g' L' h' tk' cells' FG' F' N' Y' B' X' T' l1; (try k_lt l1); k_cells Y'; (try simp only [List.cons_append, List.nil_append] at N'); (try dsimp only); (try k_fold)))
local macro_rules | `(tactic| walk_at "eval ListComp") => `(tactic| (k_here; k_dflt (refine LCg.ListComp_U (F₀ := by k_asm) (by with_unfolding_all rfl) (by decide) (by rfl) (by decide) (by rfl) ?_)))
local macro_rules | `(tactic| walk_at "call ref") => `(tactic| (k_here; (with_reducible show wpAny _ _ (call (Value.ref 314) _) _ _ _); k_dflt (refine' con_use ?c0 ?c1 ?c2 ?c3 ?c4 ?c5 ?c6 ?c7 ?c8 ?_; (case c1 => k_asm); (case c2 => k_asm); (case c3 => k_asm); (case c4 => k_asm); (case c5 => k_asm); (case c6 => first | exact rfl | assumption); (case c0 => exact take_u ⟨_, by k_updF, fun o' => by k_updF⟩ (by assumption) (by assumption) (by assumption) (by assumption) (by decide) (by decide)); (case c7 => ktr_room); (case c8 => ktr_units)); (rintro r' nw' h' tk' F' N' ⟨k', t', v0', t0', v1', t1', n', row', nR', e1', b1', b2', b3', b4', b5', e2'⟩; subst e1'; subst e2'; (try dsimp only at N'); (try k_fold))))
local macro_rules | `(tactic| k_all) => `(tactic| first | (with_reducible assumption) | exact OffC.ne (by with_reducible assumption) (by omega) (by omega) | exact above_ne (by with_reducible assumption) (by omega) | (refine all_app ?_ ?_ <;> k_all))
local macro_rules | `(tactic| lcg_off) => `(tactic| with_reducible assumption)
local macro_rules | `(tactic| walk_at "FinE") => `(tactic| ((unfold LCg.FinE); intro D' h' tk' F' N' o1'; (try simp only [LCg.Off1, off1_app, and_true] at o1'); (repeat (obtain ⟨_, o1'⟩ := o1')); (try simp only [List.nil_append, List.cons_append] at N'); (try dsimp only)))
local macro_rules | `(tactic| walk_at "eval Name") => `(tactic| (k_here; (with_reducible show wpAny _ _ (eval (Expr.Name _ _) (compEnvC _ _ _ _)) _ _ _); k_dflt (first
  | (refine' lcf_free ?N ?c ?m ?d ?_ ?a ?b; (case a => rfl); (case b => rfl); (case N => k_asm); (case c => rfl); (case m => k_mem); (case d => with_reducible assumption); k_whole)
  | refine LCgL.ld_own (by k_asm) (by k_mem) (by with_reducible assumption) (by with_reducible assumption) ?_
  | refine LCgL.ld_global (by k_asm) (by k_asm) (by k_asm) (by k_is) ?_
  | refine LCgL.ld_built (by k_asm) (by k_asm) (by k_asm) (by k_is) (by boot_by_name) (by decide) ?_)))
local macro_rules | `(tactic| walk_at "call builtin:len") => `(tactic| (k_here; (with_reducible show wpAny _ _ (call (Value.builtin _) [Value.ref _]) _ _ _); k_dflt (refine' len_sym ?a ?b ?c ?_; (case a => exact News.isList (by k_asm) (by k_mem)); (case b => with_reducible assumption); (case c => omega); k_whole); intro t' tk'))
local macro_rules | `(tactic| walk_at "binaryOp Pow int int") => `(tactic| (k_here; k_dflt (refine' pow_many ?a ?b ?c ?_; (case a => with_reducible assumption); (case b => omega); (case c => omega); k_whole); intro t' tk'))
local macro_rules | `(tactic| walk_at "subscriptTail") => `(tactic| (k_here; (with_reducible show wpAny _ _ (subscriptTail _ _ (Value.ref _) (Value.int (-1) _)) _ _ _); k_dflt (refine' item_last ?a ?b ?_; (case a => exact News.isList (by k_asm) (by k_mem)); (case b => with_reducible assumption); k_whole)))
local macro_rules | `(tactic| walk_at "subscriptTail Name UnaryOp ref int") => `(tactic| (k_here; (with_reducible show wpAny _ _ (subscriptTail _ _ (Value.ref _) (Value.int (-1) _)) _ _ _); k_dflt (refine' item_last ?a ?b ?_; (case a => exact News.isList (by k_asm) (by k_mem)); (case b => with_reducible assumption); k_whole)))
local macro_rules | `(tactic| walk_at "subscriptTail Name Constant ref int") => `(tactic| (k_here; (with_reducible show wpAny _ _ (subscriptTail _ _ (Value.ref _) (Value.int (-1) _)) _ _ _); k_dflt (refine' item_last ?a ?b ?_; (case a => exact News.isList (by k_asm) (by k_mem)); (case b => with_reducible assumption); k_whole)))
local macro_rules | `(tactic| walk_at "compareOp NotEq ref ref") => `(tactic| (k_here; k_dflt (refine' ne_same ?a ?b ?c ?_; (case a => exact News.get (by k_asm) (by k_mem)); (case b => exact News.get (by k_asm) (by k_mem)); (case c => ktr_units); k_whole)))
local macro_rules | `(tactic| walk_at "exec For Name Name cons nil") => `(tactic| (k_here; (rename Fr _ _ _ _ => lF'); (with_unfolding_all refine' For_turns lF' ?_); k_whole))
local macro_rules | `(tactic| walk_at "binaryOp Add int int") => `(tactic| (k_here; (with_reducible show wpAny _ _ (binaryOp _ (Value.int 1 _) (Value.int _ _)) _ _ _); k_dflt (refine add_gen ?_); intro c' t' tk' e'))
local macro_rules | `(tactic| walk_at "exec Assign cons ListComp") => `(tactic| (k_here; (with_reducible show wpAny _ _ (exec (PySem.Stmt.Assign _ (PySem.Expr.ListComp _ [⟨PySem.Expr.Tuple _ _ _, _, _, _⟩] _ _) _) _) _ _ _); k_dflt (refine assign_comp (by with_unfolding_all rfl) (by with_unfolding_all rfl) (by rfl) (by decide) ?_)))
local macro_rules | `(tactic| walk_at "eval ListComp") => `(tactic| (k_here; (with_reducible show wpAny _ _ (eval (PySem.Expr.ListComp _ [⟨PySem.Expr.Tuple _ _ _, _, _, _⟩] _ _) _) _ _ _); k_dflt (refine eval_comp (by with_unfolding_all rfl) (by rfl) (by decide) ?_)))
local macro_rules | `(tactic| walk_at "compareOp Eq ref ref") => `(tactic| (k_here; (with_reducible show wpAny _ _ (compareOp CmpOp.Eq (Value.ref _) (Value.ref _)) _ _ _); k_dflt (first
  | refine eq_empty (News.isList (by k_asm) (by k_mem)) (News.isList (by k_asm) (by k_mem)) (by ktr_units) ?_
  | refine eq_full (News.isList (by k_asm) (by k_mem)) (News.isList (by k_asm) (by k_mem)) (by first | decide | simp; done) (by ktr_units) ?_)))
local macro_rules | `(tactic| walk_at "call ref") => `(tactic| (k_here; (with_reducible show wpAny _ _ (call (Value.ref 333) _) _ _ _); k_dflt (refine' con_use ?c0 ?c1 ?c2 ?c3 ?c4 ?c5 ?c6 ?c7 ?c8 ?_; (case c1 => k_asm); (case c2 => k_asm); (case c3 => k_asm); (case c4 => k_asm); (case c5 => k_asm); (case c6 => first | exact rfl | assumption); (case c0 => exact gap_con (by assumption) (by k_mem) (by k_mem)); (case c7 => ktr_room); (case c8 => ktr_units)); (rintro r' nw' h' tk' F' N' ⟨tl', e0', o', e1', t9', e2'⟩; subst e1'; subst e0'; subst e2'; clear o'; (try simp only [List.nil_append] at N'); (try dsimp only); (try k_fold))))
local macro_rules | `(tactic| walk_at "subscriptTail Name Name ref int") => `(tactic| (k_here; (with_reducible show wpAny _ _ (subscriptTail _ _ (Value.ref _) (Value.int _ _)) _ _ _); k_dflt (refine' item_listL ?t ?a ?b ?c ?_; (case t => exact News.isList (by k_asm) (by k_mem)); (case a => omega); (case b => omega); (case c => with_reducible assumption); k_whole)))
local macro_rules | `(tactic| walk_at "subscriptTail") => `(tactic| (k_here; (with_reducible show wpAny _ _ (subscriptTail _ _ (Value.ref _) (Value.int 0 _)) _ _ _); k_dflt (refine' item_listL ?t ?a ?b ?c ?_; (case t => exact News.isList (by k_asm) (by k_mem)); (case a => decide); (case b => decide); (case c => exact rfl); k_whole)))
local macro_rules | `(tactic| walk_at "subscriptTail Name Constant ref int") => `(tactic| (k_here; (with_reducible show wpAny _ _ (subscriptTail _ _ (Value.ref _) (Value.int 0 _)) _ _ _); k_dflt (refine' item_listL ?t ?a ?b ?c ?_; (case t => exact News.isList (by k_asm) (by k_mem)); (case a => decide); (case b => decide); (case c => exact rfl); k_whole)))
local macro_rules | `(tactic| walk_at "call ref") => `(tactic| (k_here; (with_reducible show wpAny _ _ (call (Value.ref 340) _) _ _ _); k_dflt (refine' con_use ?c0 ?c1 ?c2 ?c3 ?c4 ?c5 ?c6 ?c7 ?c8 ?_; (case c1 => k_asm); (case c2 => k_asm); (case c3 => k_asm); (case c4 => k_asm); (case c5 => k_asm); (case c6 => first | exact rfl | assumption); (case c0 => exact beside_con' (by k_mem) (by k_mem) (by k_mem) (by assumption) (by assumption) (by assumption) (by assumption) (by assumption) (by assumption) (by assumption) (by omega)); (case c7 => ktr_room); (case c8 => ktr_units)); (rintro r' nw' h' tk' F' N' ⟨tl', e0', o', e1', e2'⟩; subst e1'; subst e0'; subst e2'; clear o'; (try simp only [List.nil_append] at N'); (try dsimp only); (try k_fold))))
local macro_rules | `(tactic| walk_at "binaryOp Add ref ref") => `(tactic| (k_here; k_dflt (refine' add_front ?F ?N ?a ?b ?c ?_; (case F => k_asm); (case N => k_asm); (case a => k_mem); (case b => k_mem); (case c => omega)); intro D' h' F' N' l1; (try k_lt l1); (try k_sweep)))
local macro_rules | `(tactic| walk_at "FinA") => `(tactic| ((unfold LCg.FinA); intro D' h' tk' F' N' o1'; (try simp only [LCg.Off1, off1_app, and_true] at o1'); (repeat (obtain ⟨_, o1'⟩ := o1')); (try simp only [List.nil_append, List.cons_append] at N'); (try dsimp only)))
theorem right_con {w : World} {mean mg mb} {rest : Led} {S R : Addr} {v0 v1 : Int} {t0 t1 : Tok} {n nR : Nat} {row : List Value}
    (h1 : 0 ≤ v1) (h2 : v1 < 2147483647) (hr : IntRow row) (hne : @Ne Nat S R) (oS : ∀ p ∈ rest, p.1 ≠ S) (oR : ∀ p ∈ rest, p.1 ≠ R) :
    ConM w mean mg mb 345 ((S, srcO v0 v1 t0 t1 R n) :: (R, rowO row nR) :: rest) [.ref S] 25 300 (fun news' r => r = .bool true ∧ ∃ v0 t0 v1 t1 n row nR, 0 ≤ v1 ∧ v1 < 2147483647 ∧ IntRow row ∧ news' = (S, srcO v0 v1 t0 t1 R n) :: (R, rowO row nR) :: rest) := by
  (try unfold Con)
  unfold ConM
  k_fill
  intro dp un gd cn cs a ccd cl outer A₀ base h₀ L m s Q E B F X N T hk hd hu hret
  refine wpAny_call ?_
  k_dflt ktr_enter
  (repeat' (first | (k_unfold; (try dsimp only)) | (k_end; wrow_close) | ((fail_if_success (with_reducible show LCg.CompRest _ _ _ _ _ _ _ _ _ _ _ _ _ _ _ _ _ _ _)); first | walk1 | (dsimp only; walk1)) | (leave1; walk_say "STEP leave1"; try dsimp only) | fail "no step"))
  refine spots_rest (by assumption) (by assumption) (by assumption) ?turn ?fin
  case turn =>
    intro i t I oI C oC D m₂ ys w0 u0 w1 u1 n' row' nR' made h tk E' b1 b2 b3 b4 hC hx F2 N2 off ne
    have off' := off
    simp only [Sp, LCg.Off3, off3_app, and_assoc, and_true] at off'
    (repeat (obtain ⟨_, off'⟩ := off'))
    obtain ⟨_, _, _⟩ := ne
    dsimp only [Sp] at N2
    k_steps
    all_goals (exact spots_end (by k_asm) (by k_asm) (by k_mem) (by intro p hp; exact List.mem_cons_of_mem _ hp) off (by refine ⟨?_, ?_, ?_⟩ <;> (refine neN ?_; (try dsimp only); omega)) (by (try dsimp only); omega) (by assumption) (by assumption) (by assumption) (by assumption) (by assumption) (by assumption) (by assumption))
  case fin =>
    intro ys ps made w0 w1 u0 u1 n' row' nR' a1 a2 a3 a4 a5 a6 a7
    dsimp only [Sp]
    have hps : (ps.length = 3 ∨ ps.length = 4) := by omega
    have ok : PsOk ps := ⟨hps, fun p hp => (a3 p hp).ok⟩
    have made_off : OffC _ made := fun p hp => .inr (a4 p hp)
    have rest_off : OffC _ rest := OffC.ofLt (by assumption)
    (repeat' (first | (k_unfold; (try dsimp only)) | (k_end; wrow_close) | ((fail_if_success (with_reducible show wpAny _ _ (call (Value.ref 150) _) _ _ _)); first | walk1 | (dsimp only; walk1)) | (leave1; walk_say "STEP leave1"; try dsimp only) | fail "no step"))
    rename _ = (1 : Int) + _ => e3
    obtain ⟨K, eK, hK1, hK3⟩ := natK e3 (by assumption) (by assumption)
    subst eK
    clear e3
    rename _ = (1 : Int) + _ => e6
    obtain ⟨b, eb, hb1, hb6⟩ := bndK e6 (by assumption) (by assumption)
    subst eb
    clear e6
    simp only [Int.toNat_natCast]
    obtain ⟨nn, hnn⟩ : ∃ nn, (nn = 2 ∧ ps.length = 3) ∨ (nn = 3 ∧ ps.length = 4) := ⟨ps.length - 1, by omega⟩
    have hM := two_pow8 hK1 hK3
    (rename Fr _ _ _ _ => lF); (rename News _ _ _ _ => lN)
    refine con_use (spots_con2 (K := K) (by k_mem) (All2.mono (fun _ _ q => q.mono fun x hx => by simp only [List.mem_cons, List.mem_append, hx, true_or, or_true]) a1) ok (by omega) hK3 rfl) (by k_asm) lF (by k_asm) lN (by k_asm) (by first | exact rfl | assumption) (by ktr_room) (by ktr_units) ?_
    rintro r nw h5 tk5 F5 N5 ⟨tl, rfl, ot, Fa, nf, fv, rfl, mF, hF⟩
    have R6 := renorm1 (made := made) (rest := rest) N5 ot (by rfl)
    obtain ⟨bs, N6, offb, mDs, tlb, ptb, mab, hfin⟩ := R6 (by (try dsimp only); omega) (by omega) (by assumption) (by assumption) made_off rest_off ⟨_, by assumption⟩ ⟨_, by assumption⟩ ⟨_, by assumption⟩ ⟨_, by assumption⟩ ⟨_, by assumption⟩ ⟨_, by assumption⟩ ⟨_, by assumption⟩ ⟨_, by assumption⟩ ⟨_, by assumption⟩
    have hys : ys.length = nn + 1 := by rw [a1.length]; omega
    have hfl : fv.length = (fsp b K ps).length := hF.length
    have hn1 : (((nn + 1 : Nat) : Int) - 1) = (nn : Int) := by omega
    have hysb : All2 (PtIn bs) ys ps := All2.mono (fun _ _ q => q.mono mab) a1
    have hfv := All2.mono ptb hF
    have mFb := tlb _ mF
    clear lN N5 ot R6 hF mF tlb ptb mab
    (repeat' (first | (k_unfold; (try dsimp only)) | (k_end; wrow_close) | ((fail_if_success (with_reducible show LCg.CompRest _ _ _ _ _ _ _ _ _ _ _ _ _ _ _ _ _ _ _)); first | walk1 | (dsimp only; walk1)) | (leave1; walk_say "STEP leave1"; try dsimp only) | fail "no step"))
    refine places_rest (fun j => place ((2 : Int) ^ K) j nn ps) ?pturn ?pfin
    case pturn =>
      intro i t I oI C oC D m₂ zs tl h tk E' hi hC hx F2 N2 off ne
      (repeat' (first | (k_unfold; (try dsimp only)) | (k_end; wrow_close) | ((fail_if_success (with_reducible show wpAny _ _ (call (Value.ref 326) _) _ _ _)); first | walk1 | (dsimp only; walk1)) | (leave1; walk_say "STEP leave1"; try dsimp only) | fail "no step"))
      (rename Fr _ _ _ _ => lF); (rename News _ _ _ _ => lN)
      refine con_use (place_con (by omega) (by omega) (by k_mem) (All2.mono (fun _ _ q => q.mono fun x hx => by simp only [List.mem_cons, List.mem_append, hx, true_or, or_true]) hysb) hnn) (by k_asm) lF (by k_asm) lN (by k_asm) (by first | exact rfl | assumption) (by ktr_room) (by ktr_units) ?_
      rintro r nw h5 tk5 F5 N5 ⟨a5, t5, u5, rfl, rfl, hna⟩
      k_steps
      all_goals (exact pl_end (by k_asm) (by k_asm) hna off)
    case pfin =>
      intro zs tl hzs hoff
      unfold LCg.FinE
      intro Dp h6 tk6 F6 N6 o6
      obtain ⟨bs2, N7, offb2, mDp, tlb, bsb⟩ := renorm2 N6 hoff o6 offb ⟨rfl, rfl, rfl, rfl, rfl, rfl, rfl, rfl, rfl⟩ (by (try dsimp only); omega) (by (try dsimp only); omega)
      have mDs2 := bsb _ mDs
      have mF2 := bsb _ mFb
      have hys2 := All2.mono (fun _ _ q => q.mono bsb) hysb
      have hfv2 := All2.mono (fun _ _ q => q.mono bsb) hfv
      have hzs2 := All2.mono (fun _ _ q => q.mono tlb) hzs
      have hfin2 := fun p hp => bsb _ (hfin p hp)
      have hne : fsp b K ps ≠ [] := fsp_ne (b := b) (k := K) hnn
      obtain ⟨la, lt, lu, ln, hla, mla⟩ := all2_last hfv2 hne
      obtain ⟨lb, lt', lu', ln', hlb, mlb⟩ := all2_last hys2 (by rintro rfl; simp at hnn)
      rw [fsp_last hnn] at mla
      have hle := fsp_len b K ps
      have hle8 : ((fsp b K ps).length : Int) ≤ (2 : Int) ^ K := by exact_mod_cast hle
      clear N6 o6 hoff hzs mDs mFb hysb hfv hfin
      (repeat' (first | (k_unfold; (try dsimp only)) | (k_end; wrow_close) | ((fail_if_success (with_reducible show wpAny _ _ (pyIter (Value.ref _)) _ _ _)); first | walk1 | (dsimp only; walk1)) | (leave1; walk_say "STEP leave1"; try dsimp only) | fail "no step"))
      (rename Fr _ _ _ _ => lF); (rename News _ _ _ _ => lN)
      have hW : 0 ≤ ((2 : Int) ^ K) ^ nn ∧ ((2 : Int) ^ K) ^ nn ≤ 1000 := wbnd hK1 hK3 hnn
      have st := Lp1.start (bs := bs2) lF lN (by rfl) (by assumption) (show 0 ≤ (2 : Int) ^ K by omega) hfv2 (law_told (b := b) hnn)
      refine for_items (by rfl) (by rfl) lF lN (by k_mem) _ st ?tu ?fi
      case tu =>
        intro I hI
        have hI' := hI
        simp only [List.forall_mem_cons] at hI'
        obtain ⟨i1, i2, i3, i4, i5, i6, i7, i8, i9, i10⟩ := hI'
        clear hI st
        rintro v r m' news h tk oI hcI ⟨b', t', o8, u8, qs, ⟨rfl, d8, ⟨u, rfl⟩, hb0, hbM, hv, hgr⟩⟩ F2 N2
        clear lF lN
        rcases qs with _ | ⟨q, qs⟩
        · exact hv.elim
        obtain ⟨⟨aq, tq, uq, nq, rfl, mq⟩, hv⟩ := hv
        obtain ⟨j, hj1, hj2, hok, hgr⟩ := hgr
        (repeat' (first | (k_unfold; (try dsimp only)) | (k_end; wrow_close) | ((fail_if_success (with_reducible show LCg.CompRest _ _ _ _ _ _ _ _ _ _ _ _ _ _ _ _ _ _ _)); first | walk1 | (dsimp only; walk1)) | (leave1; walk_say "STEP leave1"; try dsimp only) | fail "no step"))
        refine gaps_rest (fun i => (b' + 1 + (i : Int), 2 * gapV q.1 q.2 (((2 : Int) ^ K) ^ nn) (place ((2 : Int) ^ K) (b' + 1 + (i : Int)) nn ps).1 (place ((2 : Int) ^ K) (b' + 1 + (i : Int)) nn ps).2)) ?gturn ?gfin
        case gturn =>
          intro i t I2 oI2 C oC D m₂ ys2 tl2 h tk E' hi hC hx F3 N3 off ne
          obtain ⟨vp, hvp, ap, tp', up, rfl, mp⟩ := all2_map_get hzs2 (i := (b' + 1 + (i : Int)).toNat) (by omega)
          rw [show (((b' + 1 + (i : Int)).toNat : Nat) : Int) = b' + 1 + (i : Int) by omega] at mp
          k_steps
          all_goals (exact gp_end (by k_asm) (by k_asm) (by simp only [List.forall_mem_cons, List.forall_mem_append]; and_intros <;> first | (refine neN ?_; (try dsimp only); omega) | exact ne_upA (by assumption) (Nat.le_refl _)) off (by rfl) (by rfl))
        case gfin =>
          intro gy gt hgy hgoff
          unfold LCg.FinA
          intro Dg hg tkg Fg Ng og
          obtain ⟨gs, hgs⟩ : ∃ gs, gs = (List.range ((2 : Int) ^ K + 1 - (b' + 1)).toNat).map (fun i : Nat => (b' + 1 + (i : Int), 2 * gapV q.1 q.2 (((2 : Int) ^ K) ^ nn) (place ((2 : Int) ^ K) (b' + 1 + (i : Int)) nn ps).1 (place ((2 : Int) ^ K) (b' + 1 + (i : Int)) nn ps).2)) := ⟨_, rfl⟩
          rw [← hgs] at hgy
          have hkf := kept_first (g := fun j => 2 * gapV q.1 q.2 (((2 : Int) ^ K) ^ nn) (place ((2 : Int) ^ K) j nn ps).1 (place ((2 : Int) ^ K) j nn ps).2) hj1 hj2 hok
          rw [← hgs] at hkf
          obtain ⟨j0, jr, hkf, hj3, hj4⟩ := hkf
          have hgl : gs.length ≤ 9 := by rw [hgs, List.length_map, List.length_range]; omega
          clear hgs
          obtain ⟨prs, hp1, hp2⟩ := pairs_of hgy
          (repeat' (first | (k_unfold; (try dsimp only)) | (k_end; wrow_close) | ((fail_if_success (with_reducible show wpAny _ _ (pyIter (Value.ref _)) _ _ _)); first | walk1 | (dsimp only; walk1)) | (leave1; walk_say "STEP leave1"; try dsimp only) | fail "no step"))
          (rename Fr _ _ _ _ => lF); (rename News _ _ _ _ => lN)
          refine pair_core (its := gy) (prs := prs) (J := fun i ys' => All2 IntIs ys' (kept (3 * (K : Int) * ((2 : Int) ^ K) ^ nn) (gs.take i))) (by decide) rfl rfl rfl (by decide) (by rfl) lF lN (by k_mem) (All2.mono (fun _ _ ⟨T, n, e, m⟩ => ⟨T, n, e, by simp only [List.mem_cons, List.mem_append, m, true_or, or_true]⟩) hp1) (by rw [hgy.length, sizeLine_eq]; omega) trivial ?step ?hRR
          case step =>
            intro i v₁ v₂ ys' oC m₂ own C D h tk E' hpr hJ hC e1 e2 F5 N5
            obtain ⟨g, hg, tg, ug, e⟩ := All2.get hp2 hpr
            obtain ⟨rfl, rfl⟩ := Prod.mk.inj e
            clear e lF lN
            k_steps
            all_goals (first
              | exact bend0 (by k_asm) (by k_asm) ⟨rfl, rows_keep hJ hg (by assumption)⟩
              | exact bend0 (by k_asm) (by k_asm) ⟨rfl, rows_skip hJ hg (by assumption)⟩)
          case hRR =>
            intro rs Dr C h tk m' hJ lDr F5 N5 offC hn hC0 hCL _ _
            refine post_use (by rfl) (by rfl) (by rfl) F5 N5 offC hn hC0 hCL ?_
            clear F5 N5 offC hn hC0 hCL lF lN
            intro h tk F5 N5
            rw [List.take_of_length_le (by rw [hgy.length]; exact Nat.le_refl _), hkf] at hJ
            obtain ⟨t0r, rs', rfl⟩ := int_rows hJ
            simp only [AllLt, allLt_app, and_assoc, and_true] at lDr
            (repeat (have _ := And.left lDr; replace lDr := And.right lDr))
            (repeat' (first | (k_unfold; (try dsimp only)) | (k_end; wrow_close) | ((fail_if_success (with_reducible show UnrPostW _ _ _ _ _ _ _ _)); first | walk1 | (dsimp only; walk1)) | (leave1; walk_say "STEP leave1"; try dsimp only) | fail "no step"))
            all_goals (exact Lp1.turn (by k_asm) (by k_asm) (by simp only [List.forall_mem_cons]; exact ⟨i1, i2, i3, i4, i5, i6, i7, i8, i9, i10⟩) mF2 (by assumption) (by omega) (by omega) hv (hgr.mono hj4))
      case fi =>
        clear st lF lN
        rintro m' news h tk ⟨b', t', o8, u8, qs, ⟨rfl, d8, ⟨u, rfl⟩, hb0, hbM, hv, hgr⟩⟩ F2 N2
        clear hv hgr hb0 hbM
        rcases ys with _ | ⟨vf, ysr⟩
        · simp at hys
        rcases ps with _ | ⟨pf, psr⟩
        · exact hys2.elim
        obtain ⟨⟨af, tf, uf, nf9, rfl, mf⟩, hysr⟩ := hys2
        (repeat' (first | (k_unfold; (try dsimp only)) | (k_end; wrow_close) | ((fail_if_success (with_reducible show wpAny _ _ (call (Value.type _) [_, _]) _ _ _)); first | walk1 | (dsimp only; walk1)) | (leave1; walk_say "STEP leave1"; try dsimp only) | fail "no step"))
        (rename Fr _ _ _ _ => lF); (rename News _ _ _ _ => lN)
        refine zip_call lF lN (by k_mem) (by k_mem) ?_
        clear lF lN
        intro z TI TO i1 i2 h' F3 N3 Z
        (repeat' (first | (k_unfold; (try dsimp only)) | (k_end; wrow_close) | ((fail_if_success (with_reducible show wpAny _ _ (call (Value.type _) [_]) _ _ _)); first | walk1 | (dsimp only; walk1)) | (leave1; walk_say "STEP leave1"; try dsimp only) | fail "no step"))
        (rename Fr _ _ _ _ => lF); (rename News _ _ _ _ => lN)
        have hfp : 0 < fv.length := by rw [hfl]; exact List.length_pos_iff.mpr hne
        refine list_zip (by rfl) lF lN Z (by simp only [List.length_cons]; omega) (by simp) hfp ?_
        clear lF lN Z
        intro Sd9 c acc tlz h' tk' F4 N4 hacc lS ltl
        (repeat' (first | (k_unfold; (try dsimp only)) | (k_end; wrow_close) | ((fail_if_success (with_reducible show wpAny _ _ (pyIter (Value.ref _)) _ _ _)); first | walk1 | (dsimp only; walk1)) | (leave1; walk_say "STEP leave1"; try dsimp only) | fail "no step"))
        (rename Fr _ _ _ _ => lF); (rename News _ _ _ _ => lN)
        obtain ⟨bs3, lN2, st2, offb3, mSd, tl3, bsc⟩ := Lp2.start lF lN (by assumption) hzs2 (sideP_all (b := b) hnn a3 (by omega) hM.2) lS ltl rfl offb2
        have hacc3 : All2 (PairIn bs3) acc ((Value.ref af :: fv).zip fv) := All2.mono (fun _ _ ⟨T, n, e, m⟩ => ⟨T, n, e, tl3 _ m⟩) hacc
        have mDp3 := bsc _ mDp
        have hfv3 : All2 (PtIn bs3) fv (fsp b K (pf :: psr)) := All2.mono (fun _ _ q => q.mono bsc) hfv2
        have mf3 := bsc _ mf
        have hfin3 := fun p hp => bsc _ (hfin2 p hp)
        clear lN lS ltl hacc mDp hfv2 mf hfin2 tl3 bsc offb2 mDs2 mF2
        refine for_items (by rfl) (by rfl) lF lN2 (by k_mem) _ st2 ?tu2 ?fi2
        case tu2 =>
          intro I hI
          have hI' := hI
          simp only [List.forall_mem_cons] at hI'
          obtain ⟨i1, i2, i3, i4, i5, i6, i7, i8, i9, i10⟩ := hI'
          clear hI st2 lF lN2 hzs2
          rintro v r m' news h tk oI hcI ⟨rfl, o1, u1, qs, rfl, d1, hv, hP⟩ F2 N2
          rcases qs with _ | ⟨q, qs⟩
          · exact hv.elim
          obtain ⟨⟨aq, tq, uq, rfl, mq⟩, hv⟩ := hv
          obtain ⟨hsd, hq1, hq2⟩ := hP q (List.mem_cons_self)
          have hP := fun q' hq' => hP q' (List.mem_cons_of_mem _ hq')
          (repeat' (first | (k_unfold; (try dsimp only)) | (k_end; wrow_close) | ((fail_if_success (with_reducible show wpAny _ _ (pyIter (Value.ref _)) _ _ _)); first | walk1 | (dsimp only; walk1)) | (leave1; walk_say "STEP leave1"; try dsimp only) | fail "no step"))
          (rename Fr _ _ _ _ => lF); (rename News _ _ _ _ => lN)
          refine pair_core (its := acc) (prs := (Value.ref af :: fv).zip fv) (J := SdJ (((2 : Int) ^ K) ^ nn) (b + 3 * (K : Int)) q (List.zip (pf :: fsp b K (pf :: psr)) (fsp b K (pf :: psr)))) (by decide) rfl rfl rfl (by decide) (by rfl) lF lN (by k_mem) (All2.mono (fun _ _ ⟨T, n, e, m⟩ => ⟨T, n, e, by simp only [List.mem_cons, List.mem_append, m, true_or, or_true]⟩) hacc3) (by rw [hacc3.length, sizeLine_eq]; simp only [List.length_zip, List.length_cons]; omega) (fun ⟨_, _, _, hj, _⟩ => absurd hj (Nat.not_lt_zero _)) ?step2 ?hRR2
          case step2 =>
            intro i v₁ v₂ ys' oC m₂ own C D h tk E' hpr hJ hC e1 e2 F5 N5
            obtain ⟨⟨go, gp⟩, hg, ⟨ag, tg, ug, ng, e3, mg3⟩, ⟨ap, tp3, up3, np3, e4, mp3⟩⟩ := All2.get (all2_zip (T := PtIn bs3) (All2.cons2 (show PtIn bs3 (Value.ref af) pf from ⟨af, tf, uf, nf9, rfl, mf3⟩) hfv3) hfv3) hpr
            dsimp only at e3 e4 mg3 mp3
            subst e3 e4
            have hok := zip_ok (PsOk.head ok) (fsp_ok (b := b) (k := K) ok) hg
            obtain ⟨⟨hg1, hg2⟩, ⟨hg3, hg4⟩⟩ := hok
            clear lF lN
            k_steps
            all_goals (first
              | exact bend0 (by k_asm) (by k_asm) ⟨rfl, SdJ.keep⟩
              | exact bend0 (by k_asm) (by k_asm) ⟨rfl, SdJ.skip hJ hg (by first | assumption | exact Bool.eq_false_iff.mp (by assumption))⟩)
          case hRR2 =>
            intro rs Dr C h tk m' hJ lDr F5 N5 offC hn hC0 hCL _ _
            refine post_eval F5 N5 offC hn hC0 hCL ?_
            clear F5 N5 offC hn hC0 hCL lF lN
            intro h tk F5 N5
            obtain ⟨vy, rs', rfl⟩ := SdJ.fin hJ (by have := hacc3.length; simp only [List.length_zip, List.length_cons] at this ⊢; omega) hsd
            simp only [AllLt, allLt_app, and_assoc, and_true] at lDr
            (repeat (have _ := And.left lDr; replace lDr := And.right lDr))
            (repeat' (first | (k_unfold; (try dsimp only)) | (k_end; wrow_close) | ((fail_if_success (with_reducible show UnrPostW _ _ _ _ _ _ _ _)); first | walk1 | (dsimp only; walk1)) | (leave1; walk_say "STEP leave1"; try dsimp only) | fail "no step"))
            all_goals (exact Lp2.turn (by k_asm) (by k_asm) (by simp only [List.forall_mem_cons]; exact ⟨i1, i2, i3, i4, i5, i6, i7, i8, i9, i10⟩) mDp3 (by assumption) hv hP)
        case fi2 =>
          clear st2 lF lN2 hzs2
          rintro m' news h tk ⟨rfl, o1, u1, qs, rfl, d1, hv, hP⟩ F2 N2
          k_steps
          all_goals (exact hret _ _ _ _ (by k_asm) (right_end hfin3 (by k_asm)) ⟨rfl, _, _, _, _, _, _, _, by assumption, by assumption, by assumption, rfl⟩)
end Fl
namespace Fl
def ptNe (p q : Pt) : Bool := !(p.1 == q.1 && p.2 == q.2)
theorem ptNe_iff {p q : Pt} : ptNe p q = true ↔ p ≠ q := by
  unfold ptNe
  constructor
  · intro h e
    subst e
    simp at h
  · intro h
    by_cases h1 : p.1 = q.1
    · have h2 : p.2 ≠ q.2 := fun e => h (Prod.ext h1 e)
      simp [h2]
    · simp [h1]
section
variable {prog : Program} {w : World} {A : Around} {E : Value → Shared → Prop} {s : Shared}
open PySem.SeqAt in
theorem ne_pts {a b : Addr} {x y x' y' : Int} {t u t' u' : Tok} {n n' : Nat} {Q : Value → Shared → Prop} (ha : s.heap.get? a = some (tp x y t u n)) (hb : s.heap.get? b = some (tp x' y' t' u' n')) (hu : A.units < cLine) (h : Q (.bool (ptNe (x, y) (x', y'))) s) :
    wpAny (model prog w) A (compareOp .NotEq (.ref a) (.ref b)) Q E s := by
  refine cmp_ofNotEq (RcNeAt.tuples (l := a) (b := b) (items := #[.int x t, .int y u]) (items2 := #[.int x' t', .int y' u']) (e := fun j => if j = 0 then x == x' else y == y') ⟨_, ha, rfl, _, rfl⟩ ⟨_, hb, rfl, _, rfl⟩ hu (fun j h1 h2 => ?_) prog w E Q ?_)
  · have h3 : j < 2 := h1
    match j, h3 with
    | 0, _ => exact EqAt.int_int (A := A.in1) (s := s) x t x' t'
    | 1, _ => exact EqAt.int_int (A := A.in1) (s := s) y u y' u'
  · have e : (!((List.range (min (#[Value.int x t, .int y u] : Array Value).size (#[Value.int x' t', .int y' u'] : Array Value).size)).all (fun j => if j = 0 then x == x' else y == y') && (#[Value.int x t, .int y u] : Array Value).size == (#[Value.int x' t', .int y' u'] : Array Value).size)) = ptNe (x, y) (x', y') := by
      show (!((List.range 2).all (fun j => if j = 0 then x == x' else y == y') && true)) = _
      unfold ptNe
      simp [List.range_succ]
    rw [e]
    exact h
end
/-- unlike neighbours, with what is found so far -/
def unq (acc : List Pt) : List Pt → List Pt
  | [] => acc
  | p :: r => unq (if acc.getLast? = some p then acc else acc ++ [p]) r
theorem unq_len : ∀ (l acc : List Pt), (unq acc l).length ≤ acc.length + l.length
  | [], acc => Nat.le_refl _
  | p :: r, acc => by
    unfold unq
    refine Nat.le_trans (unq_len r _) ?_
    split <;> simp <;> omega
theorem unq_head : ∀ (l : List Pt) (acc : List Pt) (a : Pt) (t : List Pt), acc = a :: t → (unq acc l).head? = some a
  | [], acc, a, t, h => by subst h; rfl
  | p :: r, acc, a, t, h => by
    unfold unq
    split
    · exact unq_head r acc a t h
    · exact unq_head r _ a (t ++ [p]) (by rw [h]; rfl)
theorem unq_last : ∀ (l : List Pt) (acc : List Pt) (p : Pt), (unq acc (l ++ [p])).getLast? = some p
  | [], acc, p => by
    show (if acc.getLast? = some p then acc else acc ++ [p]).getLast? = some p
    split
    · assumption
    · simp
  | q :: r, acc, p => unq_last r _ p
structure UqJ (news : Led) (fa : Addr) (m₀ : Str → Option Value) (ps : List Pt) (vs : List Value) (m' : Str → Option Value) (news' : Led) (fv : List Value) (fq qs : List Pt) (n : Nat) : Prop where
  map : ∃ u : Str → Option Value, m' = fun z => if z = Str.ofString "spot" then u z else m₀ z
  led : news' = (fa, ({ cls := .type "list", data := .seq fv.toArray n } : Obj)) :: news
  fd : All2 (PtIn news) fv fq
  vs : All2 (PtIn news) vs qs
  all : unq fq qs = unq [] ps
  len : fq.length + qs.length ≤ ps.length
def UqI (news : Led) (fa : Addr) (m₀ : Str → Option Value) (ps : List Pt) (vs : List Value) (m' : Str → Option Value) (news' : Led) : Prop := ∃ fv fq qs n, UqJ news fa m₀ ps vs m' news' fv fq qs n
section
variable {news l : Led} {fa I ax : Addr} {oI oa : Obj} {m₀ m' u : Str → Option Value} {ps fq qs : List Pt} {p : Pt} {vs fv : List Value} {v x : Value} {n k : Nat} {h₀ h' : Heap} {L : Addr} {s₁ : Shared} {tk : Nat} {Q : Flow → Shared → Prop}
theorem Uq.start (_F : Fr h₀ L h' m₀) (_N : News h₀ L h' ((fa, ({ cls := .type "list", data := .seq #[] n } : Obj)) :: news)) (hv : All2 (PtIn news) vs ps) : UqI news fa m₀ ps vs m₀ ((fa, ({ cls := .type "list", data := .seq #[] n } : Obj)) :: news) :=
  ⟨[], [], ps, n, ⟨m₀, funext fun z => by split <;> rfl⟩, rfl, trivial, hv, rfl, by simp⟩
theorem Uq.turn (F : Fr h₀ L h' (fun y => if y = Str.ofString "spot" then some x else (fun z => if z = Str.ofString "spot" then u z else m₀ z) y)) (N : News h₀ L h' l)
    (sub : ∀ q ∈ (I, oI) :: (fa, ({ cls := .type "list", data := .seq fv.toArray k } : Obj)) :: news, q ∈ l) (lt : ∀ q ∈ news, @LT.lt Nat _ q.1 I) (lf : @LT.lt Nat _ fa I) (hm : (ax, oa) ∈ news)
    (hf : All2 (PtIn news) fv fq) (hv : All2 (PtIn news) vs qs) (e : unq fq qs = unq [] ps) (hl : fq.length + qs.length ≤ ps.length) :
    UnrPostW h₀ L s₁ [(I, oI)] (fun m'' n'' => SubL [(ax, oa)] n'' ∧ UqI news fa m₀ ps vs m'' n'') Q .next { s₁ with heap := h', toks := tk } :=
  turn_end F N (sub _ (by simp)) (fun q hq => sub q (List.mem_cons_of_mem _ hq)) (List.forall_mem_cons.mpr ⟨lf, lt⟩) ⟨by simp [hm], trivial⟩
    ⟨fv, fq, qs, k, ⟨fun z => if z = Str.ofString "spot" then some x else u z, funext fun z => by by_cases h : z = Str.ofString "spot" <;> simp [h]⟩, rfl, hf, hv, e, hl⟩
end
theorem unq_skip {fq qs : List Pt} {p : Pt} {r : List Pt} (h : fq.getLast? = some p) (e : unq fq (p :: qs) = r) : unq fq qs = r := by
  unfold unq at e
  rwa [if_pos h] at e
theorem unq_add {fq qs : List Pt} {p : Pt} {r : List Pt} (h : fq.getLast? ≠ some p) (e : unq fq (p :: qs) = r) : unq (fq ++ [p]) qs = r := by
  rw [unq, if_neg h] at e
  exact e
theorem last_ne {fq : List Pt} {f q : Pt} (h : ptNe f q = true) : (fq ++ [f]).getLast? ≠ some q := by
  have := ptNe_iff.mp h
  simp [this]
theorem last_eq {fq : List Pt} {f q : Pt} (h : ptNe f q = false) : (fq ++ [f]).getLast? = some q := by
  have : f = q := by
    by_cases e : f = q
    · exact e
    · rw [ptNe_iff.mpr e] at h; cases h
  simp [this]
section
variable {news l : Led} {fa I ax : Addr} {oI oa : Obj} {y1 : Addr × Obj} {m₀ m' u : Str → Option Value} {ps fq qs : List Pt} {p : Pt} {vs fv : List Value} {v x : Value} {n k : Nat} {h₀ h' : Heap} {L : Addr} {s₁ : Shared} {tk : Nat} {Q : Flow → Shared → Prop}
theorem Uq.add (F : Fr h₀ L h' (fun y => if y = Str.ofString "spot" then some x else (fun z => if z = Str.ofString "spot" then u z else m₀ z) y)) (N : News h₀ L h' (y1 :: (I, oI) :: (fa, W.listOf (fv.toArray.push x) k) :: news)) (hx : PtIn news x p)
    (lt : ∀ q ∈ news, @LT.lt Nat _ q.1 I) (lf : @LT.lt Nat _ fa I) (hm : (ax, oa) ∈ news) (hf : All2 (PtIn news) fv fq) (hv : All2 (PtIn news) vs qs) (e : unq fq (p :: qs) = unq [] ps) (hl : fq.length + (qs.length + 1) ≤ ps.length) (hn : fq.getLast? ≠ some p) :
    UnrPostW h₀ L s₁ [(I, oI)] (fun m'' n'' => SubL [(ax, oa)] n'' ∧ UqI news fa m₀ ps vs m'' n'') Q .next { s₁ with heap := h', toks := tk } := by
  rw [List.push_toArray] at N
  exact Uq.turn F N (fun q hq => List.mem_cons_of_mem _ hq) lt lf hm (All2.append hf (m' := [p]) ⟨hx, trivial⟩) hv (unq_add hn e) (by rw [List.length_append, List.length_singleton]; omega)
theorem Uq.keep (F : Fr h₀ L h' (fun y => if y = Str.ofString "spot" then some x else (fun z => if z = Str.ofString "spot" then u z else m₀ z) y)) (N : News h₀ L h' (y1 :: (I, oI) :: (fa, ({ cls := .type "list", data := .seq fv.toArray k } : Obj)) :: news))
    (lt : ∀ q ∈ news, @LT.lt Nat _ q.1 I) (lf : @LT.lt Nat _ fa I) (hm : (ax, oa) ∈ news) (hf : All2 (PtIn news) fv fq) (hv : All2 (PtIn news) vs qs) (e : unq fq (p :: qs) = unq [] ps) (hl : fq.length + (qs.length + 1) ≤ ps.length) (hn : fq.getLast? = some p) :
    UnrPostW h₀ L s₁ [(I, oI)] (fun m'' n'' => SubL [(ax, oa)] n'' ∧ UqI news fa m₀ ps vs m'' n'') Q .next { s₁ with heap := h', toks := tk } :=
  Uq.turn F N (fun q hq => List.mem_cons_of_mem _ hq) lt lf hm hf hv (unq_skip hn e) (by omega)
end
/-- a spot put on grains -/
def rnd (m : Int) (p : Pt) : Pt := ((2 * p.1 + m) / (2 * m), (2 * p.2 + m) / (2 * m))
end Fl
namespace Fl
def PcJ (led : Led) (m₀ : Str → Option Value) (vs : List Value) (m' : Str → Option Value) (news' : Led) : Prop := (∃ u : Str → Option Value, m' = fun z => if z = Str.ofString "piece" then u z else m₀ z) ∧ news' = led ∧ ∀ v ∈ vs, ∃ p t, v = .int p t ∧ (2 ≤ p ∧ p ≤ 24) ∧ p ∣ 24
theorem Pc.start {led : Led} {m₀ : Str → Option Value} {t1 t2 t3 t4 t5 t6 t7 : Tok} {h₀ h' : Heap} {L : Addr} (_F : Fr h₀ L h' m₀) (_N : News h₀ L h' led) : PcJ led m₀ [.int 24 t1, .int 12 t2, .int 8 t3, .int 6 t4, .int 4 t5, .int 3 t6, .int 2 t7] m₀ led := by
  refine ⟨⟨m₀, funext fun z => by split <;> rfl⟩, rfl, ?_⟩
  simp only [List.forall_mem_cons]
  exact ⟨⟨_, _, rfl, by omega, by decide⟩, ⟨_, _, rfl, by omega, by decide⟩, ⟨_, _, rfl, by omega, by decide⟩, ⟨_, _, rfl, by omega, by decide⟩, ⟨_, _, rfl, by omega, by decide⟩, ⟨_, _, rfl, by omega, by decide⟩, ⟨_, _, rfl, by omega, by decide⟩, List.forall_mem_nil _⟩
theorem Pc.turn {I ax : Addr} {oI oa : Obj} {led : Led} {m₀ u : Str → Option Value} {x : Value} {r : List Value} {h₀ h' : Heap} {L : Addr} {s₁ : Shared} {tk : Nat} {Q : Flow → Shared → Prop}
    (F : Fr h₀ L h' (fun y => if y = Str.ofString "piece" then some x else (fun z => if z = Str.ofString "piece" then u z else m₀ z) y)) (N : News h₀ L h' ((I, oI) :: led)) (lt : ∀ q ∈ led, @LT.lt Nat _ q.1 I) (hm : (ax, oa) ∈ led)
    (hv : ∀ v ∈ r, ∃ p t, v = Value.int p t ∧ (2 ≤ p ∧ p ≤ 24) ∧ p ∣ 24) : UnrPostW h₀ L s₁ [(I, oI)] (fun m'' n'' => SubL [(ax, oa)] n'' ∧ PcJ led m₀ r m'' n'') Q .next { s₁ with heap := h', toks := tk } :=
  turn_end F N (by simp) (fun q hq => by simp [hq]) lt ⟨hm, trivial⟩ ⟨⟨fun z => if z = Str.ofString "piece" then some x else u z, funext fun z => by by_cases h : z = Str.ofString "piece" <;> simp [h]⟩, rfl, hv⟩
end Fl
namespace Fl
theorem calm_K_div : True := by
  w_top off
  trivial
local macro_rules | `(tactic| k_mem) => `(tactic| (show (_ : Addr × Obj) ∈ (_ : List (Addr × Obj)); ktr_member))
local macro_rules | `(tactic| ktr_enter) => `(tactic| (refine' code_defG ?k1 ?k2 ?k3 ?k4 ?k5 ?kA ?kF ?kK ?k6 ?k7 ?k8 ?k9 ?kB ?_ ?c2 ?c3 ?c4 ?c5; (case kA => exact rfl); (case kF => exact rfl); (case kK => assumption); (case k1 => k_asm); (case k2 => k_asm); (case k3 => k_asm); (case k4 => k_asm); (case k5 => k_asm); (case k6 => k_is); (case k7 => k_is); (case k8 => ktr_room); (case k9 => exact BindsTo.of_eq rfl); (case c5 => decide); (case kB => exact locs rfl); (case c2 => exact rfl); (case c3 => exact rfl); (case c4 => exact rfl); k_whole; intro g' L' h' FG' F' N' B' X' T' kG'; (try dsimp only); (try k_fold)))

theorem gcd_start {x y : Int} (hy : 0 < y ∧ y ≤ 1000000) : 0 ≤ (if x < 0 then -x else x) ∧ 0 ≤ y ∧ Int.gcd (if x < 0 then -x else x) y = Int.gcd x y := by
  refine ⟨by split <;> omega, by omega, ?_⟩
  split
  · exact Int.neg_gcd
  · rfl
theorem gcd_step {a b : Int} {g : Nat} (h1 : 0 ≤ a) (h2 : 0 ≤ b) (h : Int.gcd a b = g) (hb : 0 < b) : 0 ≤ b ∧ 0 ≤ a.fmod b ∧ Int.gcd b (a.fmod b) = g := by
  rw [Int.fmod_eq_emod_of_nonneg _ h2]
  refine ⟨h2, Int.emod_nonneg _ (by omega), ?_⟩
  have e : a = b * (a / b) + a % b := (Int.mul_ediv_add_emod a b).symm
  rw [Int.gcd_comm, ← h]
  conv => rhs; rw [e]
  rw [Int.add_comm, Int.gcd_comm (a % b), Int.gcd_comm (a % b + b * (a / b))]
  first | exact (Int.gcd_add_mul_self_right ..).symm | simp
theorem gcd_meas {a b : Int} (hb : 0 < b) : (a.fmod b).toNat < b.toNat := by
  rw [Int.fmod_eq_emod_of_nonneg _ (by omega)]
  have := Int.emod_lt_of_pos a hb
  have := Int.emod_nonneg a (show b ≠ 0 by omega)
  omega
theorem gcd_end {a b x y : Int} {t : Tok} (hb : ¬ 0 < b) (h : Int.gcd a b = Int.gcd x y) (h1 : 0 ≤ a) (h2 : 0 ≤ b) (hy : 0 < y ∧ y ≤ 1000000) : ∃ g t', Value.int a t = .int g t' ∧ g = (Int.gcd x y : Int) ∧ 0 < g ∧ g ≤ 1000000 := by
  have : b = 0 := by omega
  subst this
  rw [← h, Int.gcd_zero_right]
  have e : ((a.natAbs : Nat) : Int) = a := Int.natAbs_of_nonneg h1
  refine ⟨a, t, rfl, by rw [e], ?_⟩
  have h3 : 0 < Int.gcd x y := Int.gcd_pos_of_ne_zero_right _ (by omega)
  have h4 : Int.gcd x y ≤ y.natAbs := Int.gcd_le_natAbs_right _ (by omega)
  rw [← h, Int.gcd_zero_right] at h3 h4
  omega
theorem div_con {w : World} {mean mg mb} {news : Led} {x y : Int} {t u : Tok} (hx : -1000000 ≤ x ∧ x ≤ 1000000) (hy : 0 < y ∧ y ≤ 1000000) :
    Con w mean mg mb 81 news [.int x t, .int y u] 3 30 (fun tl r => tl = [] ∧ ∃ g t', r = .int g t' ∧ g = (Int.gcd x y : Int) ∧ 0 < g ∧ g ≤ 1000000) := by
  (try unfold Con)
  unfold ConM
  k_fill
  intro dp un gd cn cs a ccd cl outer A₀ base h₀ L m s Q E B F X N T hk hd hu hret
  have N1 : News h₀ L s.heap [] := News.nil
  have cE := InElt.start s.heap
  refine wpAny_call ?_
  k_dflt ktr_enter
  (repeat' (first | (k_unfold; (try dsimp only)) | (k_end; wrow_close) | ((fail_if_success (with_reducible show wpAny _ _ (exec (PySem.Stmt.While _ _ _ _) _) _ _ _)); first | walk1 | (dsimp only; walk1)) | (leave1; walk_say "STEP leave1"; try dsimp only) | fail "no step"))
  k_with "measure" => exact gcd_meas (by assumption)
  k_with "state" => first | exact gcd_start (by assumption) | exact gcd_step (by assumption) (by assumption) (by assumption) (by assumption)
  k_while (fun _ a b => 0 ≤ a ∧ 0 ≤ b ∧ Int.gcd a b = Int.gcd x y) (fun _ a b => b.toNat) "first" "second"
  k_steps
  all_goals (
    (rename InElt _ _ => cEz)
    refine hret _ news _ _ (by k_asm) (News.grown N cEz) ⟨[], rfl, con_abv0, rfl, gcd_end (by assumption) (by assumption) (by assumption) (by assumption) hy⟩)
end Fl
namespace Fl
theorem calm_K_fra : True := by
  w_top off
  trivial
local macro_rules | `(tactic| k_mem) => `(tactic| (show (_ : Addr × Obj) ∈ (_ : List (Addr × Obj)); ktr_member))
local macro_rules | `(tactic| k_all) => `(tactic| first | (with_reducible assumption) | exact ne_upA (by assumption) (Nat.le_refl _) | exact ne_up (by assumption) (by omega))
local macro_rules | `(tactic| k_lt $h:ident) => `(tactic| (replace $h := allLt_of $h; (simp only [AllLt, and_true] at $h:ident); (repeat (have _ := And.left $h; replace $h := And.right $h))))
local macro_rules | `(tactic| ktr_enter) => `(tactic| (refine' code_def ?k1 ?k2 ?k3 ?k4 ?k5 ?kA ?kF ?kK ?k6 ?k7 ?k8 ?k9 ?kB ?_ ?c2 ?c3 ?c4 ?c5; (case kA => exact rfl); (case kF => exact rfl); (case kK => assumption); (case k1 => k_asm); (case k2 => k_asm); (case k3 => k_asm); (case k4 => k_asm); (case k5 => k_asm); (case k6 => k_is); (case k7 => k_is); (case k8 => ktr_room); (case k9 => exact binds_K (by k_in) rfl (by k_is) rfl rfl rfl); (case c5 => decide); (case kB => exact locs rfl); (case c2 => exact rfl); (case c3 => exact rfl); (case c4 => exact rfl); k_whole; intro g' L' h' FG' F' N' B' X' T'; (try dsimp only); (try k_fold)))
local macro_rules | `(tactic| walk_at "call ref") => `(tactic| (k_here; k_dflt (refine' con_use ?c0 ?c1 ?c2 ?c3 ?c4 ?c5 ?c6 ?c7 ?c8 ?_; (case c1 => k_asm); (case c2 => k_asm); (case c3 => k_asm); (case c4 => k_asm); (case c5 => k_asm); (case c6 => first | exact rfl | assumption); (case c0 => exact div_con (by omega) (by omega)); (case c7 => ktr_room); (case c8 => ktr_units)); (rintro r' nw' h' tk' F' N' ⟨tl', e0', o', e1', g', t', e2', e3', e4'⟩; subst e0'; subst e1'; subst e2'; clear o'; (try simp only [List.nil_append, List.cons_append] at N'); (try dsimp only); (try k_fold))))

abbrev fr1 (x y : Int) : Int := x / (Int.gcd x y : Int)
abbrev fr2 (x y : Int) : Int := y / (Int.gcd x y : Int)
abbrev FrRet (x y : Int) (tl : Led) (r : Value) : Prop := ∃ a t u n, r = .ref a ∧ tl = [(a, tp (fr1 x y) (fr2 x y) t u n)]
theorem fra_end {x y : Int} {a : Addr} {t u : Tok} {n : Nat} : FrRet x y [(a, tp (x.fdiv (Int.gcd x y : Int)) (y.fdiv (Int.gcd x y : Int)) t u n)] (.ref a) :=
  ⟨a, t, u, n, rfl, by simp only [Int.fdiv_eq_ediv_of_nonneg _ (Int.natCast_nonneg (Int.gcd x y))]⟩
theorem fra_con {w : World} {mean mg mb} {news : Led} {x y : Int} {t u : Tok} (hx : -1000000 ≤ x ∧ x ≤ 1000000) (hy : 0 < y ∧ y ≤ 1000000) :
    Con w mean mg mb 89 news [.int x t, .int y u] 5 50 (FrRet x y) := by
  (try unfold Con)
  unfold ConM
  k_fill
  intro dp un gd cn cs a ccd cl outer A₀ base h₀ L m s Q E B F X N T hk hd hu hret
  obtain ⟨hx1, hx2⟩ := hx
  obtain ⟨hy1, hy2⟩ := hy
  refine wpAny_call ?_
  k_dflt ktr_enter
  k_steps
  all_goals (first
    | (exfalso; omega)
    | ((rename _ = ((Int.gcd x y : Nat) : Int) => eg); subst eg; refine hret _ _ _ _ (by k_asm) (by k_asm) ⟨[_], rfl, con_abv1 (by ktn_lt), fra_end⟩))

theorem mulB {a b : Int} (ha : -300 ≤ a ∧ a ≤ 300) (hb : 0 < b ∧ b ≤ 300) : -1000000 ≤ a * b ∧ a * b ≤ 1000000 := by
  have h1 : a * b ≤ 300 * b := Int.mul_le_mul_of_nonneg_right ha.2 (by omega)
  have h2 : -300 * b ≤ a * b := Int.mul_le_mul_of_nonneg_right ha.1 (by omega)
  omega
theorem mulBB {a b : Int} (ha : -300 ≤ a ∧ a ≤ 300) (hb : -300 ≤ b ∧ b ≤ 300) : -1000000 ≤ a * b ∧ a * b ≤ 1000000 := by
  rcases Int.le_total 0 b with h | h
  · have h1 : a * b ≤ 300 * b := Int.mul_le_mul_of_nonneg_right ha.2 h
    have h2 : -300 * b ≤ a * b := Int.mul_le_mul_of_nonneg_right ha.1 h
    omega
  · have h1 : a * (-b) ≤ 300 * (-b) := Int.mul_le_mul_of_nonneg_right ha.2 (by omega)
    have h2 : -300 * (-b) ≤ a * (-b) := Int.mul_le_mul_of_nonneg_right ha.1 (by omega)
    simp only [Int.mul_neg] at h1 h2
    omega
theorem mulB' {a b : Int} (ha : -300 ≤ a ∧ a ≤ 300) (hb : 0 < b ∧ b ≤ 300) : -90000 ≤ a * b ∧ a * b ≤ 90000 := by
  have h1 : a * b ≤ 300 * b := Int.mul_le_mul_of_nonneg_right ha.2 (by omega)
  have h2 : -300 * b ≤ a * b := Int.mul_le_mul_of_nonneg_right ha.1 (by omega)
  omega
theorem mulP {a b : Int} (ha : 0 < a ∧ a ≤ 300) (hb : 0 < b ∧ b ≤ 300) : 0 < a * b ∧ a * b ≤ 1000000 :=
  ⟨Int.mul_pos ha.1 hb.1, by have := mulB' (a := a) ⟨by omega, ha.2⟩ hb; omega⟩
theorem plusB {a b c d : Int} (ha : -300 ≤ a ∧ a ≤ 300) (hb : 0 < b ∧ b ≤ 300) (hc : -300 ≤ c ∧ c ≤ 300) (hd : 0 < d ∧ d ≤ 300) : -1000000 ≤ a * b + c * d ∧ a * b + c * d ≤ 1000000 := by
  have := mulB' ha hb
  have := mulB' hc hd
  omega
local macro_rules | `(tactic| walk_at "call ref") => `(tactic| (k_here; k_dflt (refine' con_use ?c0 ?c1 ?c2 ?c3 ?c4 ?c5 ?c6 ?c7 ?c8 ?_; (case c1 => k_asm); (case c2 => k_asm); (case c3 => k_asm); (case c4 => k_asm); (case c5 => k_asm); (case c6 => first | exact rfl | assumption); (case c0 => exact fra_con (plusB (by assumption) (by assumption) (by assumption) (by assumption)) (mulP (by assumption) (by assumption))); (case c7 => ktr_room); (case c8 => ktr_units)); (rintro r' nw' h' tk' F' N' ⟨tl', e0', o', a', t', u', n', e1', e2'⟩; subst e0'; subst e1'; subst e2'; replace o' := o' _ (List.Mem.head _); simp only [AllLt, and_true] at o'; (repeat (have _ := And.left o'; replace o' := And.right o')); (try simp only [List.nil_append, List.cons_append] at N'); (try dsimp only); (try k_fold))))
theorem plus_con {w : World} {mean mg mb} {news : Led} {a1 a2 : Addr} {x1 y1 x2 y2 : Int} {t1 t2 u1 u2 : Tok} {n1 n2 : Nat}
    (h1 : (a1, tp x1 y1 t1 u1 n1) ∈ news) (h2 : (a2, tp x2 y2 t2 u2 n2) ∈ news) (bx1 : -300 ≤ x1 ∧ x1 ≤ 300) (by1 : 0 < y1 ∧ y1 ≤ 300) (bx2 : -300 ≤ x2 ∧ x2 ≤ 300) (by2 : 0 < y2 ∧ y2 ≤ 300) :
    Con w mean mg mb 96 news [.ref a1, .ref a2] 8 80 (FrRet (x1 * y2 + x2 * y1) (y1 * y2)) := by
  (try unfold Con)
  unfold ConM
  k_fill
  intro dp un gd cn cs a ccd cl outer A₀ base h₀ L m s Q E B F X N T hk hd hu hret
  refine wpAny_call ?_
  k_dflt ktr_enter
  k_steps
  all_goals (refine hret _ _ _ _ (by k_asm) (by k_asm) ⟨[_], rfl, con_abv1 (by ktn_lt), _, _, _, _, rfl, rfl⟩)
local macro_rules | `(tactic| walk_at "call ref") => `(tactic| (k_here; k_dflt (refine' con_use ?c0 ?c1 ?c2 ?c3 ?c4 ?c5 ?c6 ?c7 ?c8 ?_; (case c1 => k_asm); (case c2 => k_asm); (case c3 => k_asm); (case c4 => k_asm); (case c5 => k_asm); (case c6 => first | exact rfl | assumption); (case c0 => exact fra_con (mulBB (by assumption) (by assumption)) (mulP (by assumption) (by assumption))); (case c7 => ktr_room); (case c8 => ktr_units)); (rintro r' nw' h' tk' F' N' ⟨tl', e0', o', a', t', u', n', e1', e2'⟩; subst e0'; subst e1'; subst e2'; replace o' := o' _ (List.Mem.head _); simp only [AllLt, and_true] at o'; (repeat (have _ := And.left o'; replace o' := And.right o')); (try simp only [List.nil_append, List.cons_append] at N'); (try dsimp only); (try k_fold))))
theorem times_con {w : World} {mean mg mb} {news : Led} {a1 a2 : Addr} {x1 y1 x2 y2 : Int} {t1 t2 u1 u2 : Tok} {n1 n2 : Nat}
    (h1 : (a1, tp x1 y1 t1 u1 n1) ∈ news) (h2 : (a2, tp x2 y2 t2 u2 n2) ∈ news) (bx1 : -300 ≤ x1 ∧ x1 ≤ 300) (by1 : 0 < y1 ∧ y1 ≤ 300) (bx2 : -300 ≤ x2 ∧ x2 ≤ 300) (by2 : 0 < y2 ∧ y2 ≤ 300) :
    Con w mean mg mb 103 news [.ref a1, .ref a2] 8 80 (FrRet (x1 * x2) (y1 * y2)) := by
  (try unfold Con)
  unfold ConM
  k_fill
  intro dp un gd cn cs a ccd cl outer A₀ base h₀ L m s Q E B F X N T hk hd hu hret
  refine wpAny_call ?_
  k_dflt ktr_enter
  k_steps
  all_goals (refine hret _ _ _ _ (by k_asm) (by k_asm) ⟨[_], rfl, con_abv1 (by ktn_lt), _, _, _, _, rfl, rfl⟩)
theorem rounded_con {w : World} {mean mg mb} {news : Led} {a1 : Addr} {x1 y1 : Int} {t1 u1 : Tok} {n1 : Nat}
    (h1 : (a1, tp x1 y1 t1 u1 n1) ∈ news) (bx1 : -3000 ≤ x1 ∧ x1 ≤ 3000) (by1 : 0 < y1 ∧ y1 ≤ 300) :
    Con w mean mg mb 110 news [.ref a1] 3 30 (fun tl r => tl = [] ∧ ∃ t, r = .int ((2 * x1 + y1) / (2 * y1)) t) := by
  (try unfold Con)
  unfold ConM
  k_fill
  intro dp un gd cn cs a ccd cl outer A₀ base h₀ L m s Q E B F X N T hk hd hu hret
  refine wpAny_call ?_
  k_dflt ktr_enter
  k_steps
  all_goals (refine hret _ _ _ _ (by k_asm) (by k_asm) ⟨[], rfl, con_abv0, rfl, ktn_int (Int.fdiv_eq_ediv_of_nonneg _ (by omega))⟩)
end Fl
namespace Fl
theorem calm_K_fine : True := by
  w_top off
  trivial
local macro_rules | `(tactic| walk_at "no such key 0") => `(tactic| fail)
local macro_rules | `(tactic| walk_at "no such key 1") => `(tactic| fail)
local macro_rules | `(tactic| walk_at "no such key 2") => `(tactic| fail)
local macro_rules | `(tactic| k_mem) => `(tactic| (show (_ : Addr × Obj) ∈ (_ : List (Addr × Obj)); ktr_member))
local macro_rules | `(tactic| k_mem) => `(tactic| (show (_ : Addr × Obj) ∈ (_ ++ _ : List (Addr × Obj)); first | (refine List.mem_append.mpr (Or.inl ?_); k_mem) | (refine List.mem_append.mpr (Or.inr ?_); k_mem)))
local macro_rules | `(tactic| k_all) => `(tactic| first | (with_reducible assumption) | exact ne_upA (by assumption) (Nat.le_refl _) | exact ne_up (by assumption) (by omega))
local macro_rules | `(tactic| k_lt $h:ident) => `(tactic| (replace $h := allLt_of $h; (simp only [AllLt, allLt_app, and_assoc, and_true] at $h:ident); (repeat (have _ := And.left $h; replace $h := And.right $h))))
local macro_rules | `(tactic| k_ne) => `(tactic| (refine neN ?_; (try dsimp only); first | with_reducible assumption | exact Ne.symm (by with_reducible assumption) | omega))
local macro_rules | `(tactic| walk_at "call ref") => `(tactic| (k_here; k_dflt (first
  | (refine' call_cls ?k1 ?k2 ?k3 ?k4 ?k5 ?k6 ?_; (case k1 => k_asm); (case k2 => k_asm); (case k3 => k_asm); (case k4 => k_is); (case k5 => k_is); (case k6 => k_is); k_whole; intro x' d' h' F' N' l1 l2; (try k_lt l1); (try k_lt2 l2); (try k_sweep); (first | (refine' code_def ?k1 ?k2 ?k3 ?k4 ?k5 ?kA ?kF ?kK ?k6 ?k7 ?k8 ?k9 ?kB ?_ ?c2 ?c3 ?c4 ?c5; (case kA => exact rfl); (case kF => exact rfl); (case kK => first | exact rfl | assumption); (case k1 => k_asm); (case k2 => k_asm); (case k3 => k_asm); (case k4 => k_asm); (case k5 => k_asm); (case k6 => k_is); (case k7 => k_is); (case k8 => ktr_room); (case k9 => first | exact BindsTo.of_eq rfl | exact binds_K (by k_in) rfl (by k_is) rfl rfl rfl); (case c5 => decide); (case kB => exact locs rfl); (case c2 => exact rfl); (case c3 => exact rfl); (case c4 => exact rfl); k_whole; intro g' L' h' FG' F' N' B' X' T'; (try dsimp only); (try k_fold)) | (refine' code_defC ?k1 ?k2 ?k3 ?k4 ?k5 ?kA ?kF ?kK ?k6 ?k7 ?k8 ?k9 ?kB ?kD ?_ ?c2 ?c3 ?c4; (case kA => exact rfl); (case kF => exact rfl); (case kK => first | exact rfl | assumption); (case k1 => k_asm); (case k2 => k_asm); (case k3 => k_asm); (case k4 => k_asm); (case k5 => k_asm); (case k6 => k_is); (case k7 => k_is); (case k8 => ktr_room); (case k9 => first | exact BindsTo.of_eq rfl | exact binds_K (by k_in) rfl (by k_is) rfl rfl rfl); (case kB => exact rfl); (case kD => decide +kernel); (case c2 => exact rfl); (case c3 => exact rfl); (case c4 => exact rfl); k_whole; intro g' L' h' tk' cells' FG' F' N' Y' B' X' T' l1; (try k_lt l1); k_cells Y'; (try simp only [List.cons_append, List.nil_append] at N'); (try dsimp only); (try k_fold))))
  | (refine' call_meth ?k1 ?k2 ?_; (case k1 => k_asm); (case k2 => k_mem); k_whole; (first | (refine' code_def ?k1 ?k2 ?k3 ?k4 ?k5 ?kA ?kF ?kK ?k6 ?k7 ?k8 ?k9 ?kB ?_ ?c2 ?c3 ?c4 ?c5; (case kA => exact rfl); (case kF => exact rfl); (case kK => first | exact rfl | assumption); (case k1 => k_asm); (case k2 => k_asm); (case k3 => k_asm); (case k4 => k_asm); (case k5 => k_asm); (case k6 => k_is); (case k7 => k_is); (case k8 => ktr_room); (case k9 => first | exact BindsTo.of_eq rfl | exact binds_K (by k_in) rfl (by k_is) rfl rfl rfl); (case c5 => decide); (case kB => exact locs rfl); (case c2 => exact rfl); (case c3 => exact rfl); (case c4 => exact rfl); k_whole; intro g' L' h' FG' F' N' B' X' T'; (try dsimp only); (try k_fold)) | (refine' code_defC ?k1 ?k2 ?k3 ?k4 ?k5 ?kA ?kF ?kK ?k6 ?k7 ?k8 ?k9 ?kB ?kD ?_ ?c2 ?c3 ?c4; (case kA => exact rfl); (case kF => exact rfl); (case kK => first | exact rfl | assumption); (case k1 => k_asm); (case k2 => k_asm); (case k3 => k_asm); (case k4 => k_asm); (case k5 => k_asm); (case k6 => k_is); (case k7 => k_is); (case k8 => ktr_room); (case k9 => first | exact BindsTo.of_eq rfl | exact binds_K (by k_in) rfl (by k_is) rfl rfl rfl); (case kB => exact rfl); (case kD => decide +kernel); (case c2 => exact rfl); (case c3 => exact rfl); (case c4 => exact rfl); k_whole; intro g' L' h' tk' cells' FG' F' N' Y' B' X' T' l1; (try k_lt l1); k_cells Y'; (try simp only [List.cons_append, List.nil_append] at N'); (try dsimp only); (try k_fold))))
  | (refine wpAny_call ?_; (first | (refine' code_def ?k1 ?k2 ?k3 ?k4 ?k5 ?kA ?kF ?kK ?k6 ?k7 ?k8 ?k9 ?kB ?_ ?c2 ?c3 ?c4 ?c5; (case kA => exact rfl); (case kF => exact rfl); (case kK => first | exact rfl | assumption); (case k1 => k_asm); (case k2 => k_asm); (case k3 => k_asm); (case k4 => k_asm); (case k5 => k_asm); (case k6 => k_is); (case k7 => k_is); (case k8 => ktr_room); (case k9 => first | exact BindsTo.of_eq rfl | exact binds_K (by k_in) rfl (by k_is) rfl rfl rfl); (case c5 => decide); (case kB => exact locs rfl); (case c2 => exact rfl); (case c3 => exact rfl); (case c4 => exact rfl); k_whole; intro g' L' h' FG' F' N' B' X' T'; (try dsimp only); (try k_fold)) | (refine' code_defC ?k1 ?k2 ?k3 ?k4 ?k5 ?kA ?kF ?kK ?k6 ?k7 ?k8 ?k9 ?kB ?kD ?_ ?c2 ?c3 ?c4; (case kA => exact rfl); (case kF => exact rfl); (case kK => first | exact rfl | assumption); (case k1 => k_asm); (case k2 => k_asm); (case k3 => k_asm); (case k4 => k_asm); (case k5 => k_asm); (case k6 => k_is); (case k7 => k_is); (case k8 => ktr_room); (case k9 => first | exact BindsTo.of_eq rfl | exact binds_K (by k_in) rfl (by k_is) rfl rfl rfl); (case kB => exact rfl); (case kD => decide +kernel); (case c2 => exact rfl); (case c3 => exact rfl); (case c4 => exact rfl); k_whole; intro g' L' h' tk' cells' FG' F' N' Y' B' X' T' l1; (try k_lt l1); k_cells Y'; (try simp only [List.cons_append, List.nil_append] at N'); (try dsimp only); (try k_fold)))))))

theorem con_mono {w : World} {mean mg mb} {f : Addr} {news : Led} {vs : List Value} {dd uu : Nat} {Ret Ret' : Led → Value → Prop} (C : Con w mean mg mb f news vs dd uu Ret) (h : ∀ tl r, Ret tl r → Ret' tl r) : Con w mean mg mb f news vs dd uu Ret' := by
  intro dp un gd cn cs a ccd cl outer A₀ base h₀ L m s Q E B F X N T hk hd hu hret
  exact C dp un gd cn cs a ccd cl outer A₀ base h₀ L m s Q E B F X N T hk hd hu fun r news' h' tk' F' N' ⟨tl, e, o, hr⟩ => hret r news' h' tk' F' N' ⟨tl, e, o, h _ _ hr⟩
/-- p over q is n over 24 -/
def Vl (n p q : Int) : Prop := p * 24 = n * q ∧ (0 < q ∧ q ≤ 24) ∧ (-90 ≤ p ∧ p ≤ 90)
theorem fr_val {X Y : Int} (hY : 0 < Y) : fr1 X Y * Y = X * fr2 X Y ∧ 0 < fr2 X Y ∧ fr2 X Y ≤ Y ∧ (fr1 X Y).natAbs ≤ X.natAbs := by
  have hg : 0 < Int.gcd X Y := Int.gcd_pos_of_ne_zero_right _ (by omega)
  obtain ⟨a, ha⟩ := Int.gcd_dvd_left (a := X) (b := Y)
  obtain ⟨b, hb⟩ := Int.gcd_dvd_right (a := X) (b := Y)
  have hg' : (0 : Int) < (Int.gcd X Y : Int) := by omega
  have e1 : fr1 X Y = a := by unfold fr1; exact Int.ediv_eq_of_eq_mul_right (by omega) ha
  have e2 : fr2 X Y = b := by unfold fr2; exact Int.ediv_eq_of_eq_mul_right (by omega) hb
  rw [e1, e2]
  generalize (Int.gcd X Y : Int) = g at *
  have hb0 : 0 < b := by
    rcases Int.lt_trichotomy b 0 with h | h | h
    · have := Int.mul_neg_of_pos_of_neg hg' h; omega
    · subst h; omega
    · exact h
  refine ⟨by rw [ha, hb]; grind, hb0, ?_, ?_⟩
  · rw [hb]
    have := Int.mul_le_mul_of_nonneg_right (show 1 ≤ g by omega) (Int.le_of_lt hb0)
    omega
  · rw [ha, Int.natAbs_mul]
    exact Nat.le_mul_of_pos_left _ (by omega)
theorem Vl.of {n X Y : Int} (e : X * 24 = n * Y) (hY : 0 < Y ∧ Y ≤ 24) (hX : -90 ≤ X ∧ X ≤ 90) : Vl n (fr1 X Y) (fr2 X Y) := by
  obtain ⟨h1, h2, h3, h4⟩ := fr_val (X := X) hY.1
  generalize fr1 X Y = p at *
  generalize fr2 X Y = q at *
  refine ⟨Int.eq_of_mul_eq_mul_right (show Y ≠ 0 by omega) ?_, ⟨h2, by omega⟩, by omega⟩
  grind
theorem fr_zero {Y : Int} (hY : 0 < Y) : fr1 0 Y = 0 ∧ fr2 0 Y = 1 := by
  unfold fr1 fr2
  rw [Int.gcd_zero_left]
  refine ⟨by simp, ?_⟩
  rw [show ((Y.natAbs : Nat) : Int) = Y by omega]
  exact Int.ediv_self (by omega)
/-- twelve times it, rounded -/
theorem fine_val {n p q : Int} (e : p * 2 = n * q) (hq : 0 < q) : (2 * p + q) / (2 * q) = (n + 1) / 2 := by
  rw [show 2 * p + q = (n + 1) * q by grind]
  exact Int.mul_ediv_mul_of_pos_left _ _ hq
abbrev VRet (n : Int) (tl : Led) (r : Value) : Prop := ∃ p q, Vl n p q ∧ ∃ a t u k, r = .ref a ∧ tl = [(a, tp p q t u k)]
abbrev ZRet (tl : Led) (r : Value) : Prop := ∃ a t u k, r = .ref a ∧ tl = [(a, tp 0 1 t u k)]
section
variable {w : World} {mean : ExcName → Option Value} {mg mb : Str → Option Value} {news : Led} {a1 a2 : Addr} {x1 y1 x2 y2 n : Int} {t1 t2 u1 u2 : Tok} {n1 n2 : Nat}
local macro_rules | `(tactic| walk_at "call ref") => `(tactic| (k_here; (with_reducible show wpAny _ _ (call (Value.ref 89) _) _ _ _); k_dflt (refine' con_use ?c0 ?c1 ?c2 ?c3 ?c4 ?c5 ?c6 ?c7 ?c8 ?_; (case c1 => k_asm); (case c2 => k_asm); (case c3 => k_asm); (case c4 => k_asm); (case c5 => k_asm); (case c6 => first | exact rfl | assumption); (case c0 => (exact fra_con (by omega) (by omega))); (case c7 => ktr_room); (case c8 => ktr_units)); (rintro r' nw' h' tk' F' N' ⟨tl', e0', o', a', t', u', n', e1', e2'⟩; subst e0'; subst e1'; subst e2'; replace o' := o' _ (List.Mem.head _); simp only [AllLt, and_true] at o'; (repeat (have _ := And.left o'; replace o' := And.right o')); (try simp only [List.nil_append, List.cons_append] at N'); (try dsimp only); (try k_fold))))
theorem times_one (h2 : (a2, tp x2 y2 t2 u2 n2) ∈ news) (v : Vl n x2 y2) : Con w mean mg mb 103 news [.ref 74, .ref a2] 8 80 (VRet n) := by
  obtain ⟨ve, ⟨v1, v2⟩, v3, v4⟩ := v
  suffices h : Con w mean mg mb 103 news [.ref 74, .ref a2] 8 80 (FrRet (1 * x2) (1 * y2)) from con_mono h fun tl r ⟨a, t, u, k, e1, e2⟩ => ⟨_, _, Vl.of (by simp only [Int.one_mul, Int.mul_one, Int.zero_mul, Int.add_zero, Int.zero_add]; exact ve) (by omega) (by omega), a, t, u, k, e1, e2⟩
  (try unfold Con)
  unfold ConM
  k_fill
  intro dp un gd cn cs a ccd cl outer A₀ base h₀ L m s Q E B F X N T hk hd hu hret
  refine wpAny_call ?_
  k_dflt ktr_enter
  k_steps
  all_goals (refine hret _ _ _ _ (by k_asm) (by k_asm) ⟨[_], rfl, con_abv1 (by ktn_lt), _, _, _, _, rfl, rfl⟩)
theorem times_zero (h2 : (a2, tp x2 y2 t2 u2 n2) ∈ news) (v : Vl n x2 y2) : Con w mean mg mb 103 news [.ref 73, .ref a2] 8 80 ZRet := by
  obtain ⟨ve, ⟨v1, v2⟩, v3, v4⟩ := v
  suffices h : Con w mean mg mb 103 news [.ref 73, .ref a2] 8 80 (FrRet (0 * x2) (1 * y2)) from con_mono h fun tl r ⟨a, t, u, k, e1, e2⟩ => ⟨a, t, u, k, e1, by rw [e2, Int.zero_mul, Int.one_mul, (fr_zero v1).1, (fr_zero v1).2]⟩
  (try unfold Con)
  unfold ConM
  k_fill
  intro dp un gd cn cs a ccd cl outer A₀ base h₀ L m s Q E B F X N T hk hd hu hret
  refine wpAny_call ?_
  k_dflt ktr_enter
  k_steps
  all_goals (refine hret _ _ _ _ (by k_asm) (by k_asm) ⟨[_], rfl, con_abv1 (by ktn_lt), _, _, _, _, rfl, rfl⟩)
theorem plus_const (h2 : (a2, tp x2 y2 t2 u2 n2) ∈ news) (v : Vl n x2 y2) : Con w mean mg mb 96 news [.ref a2, .ref 73] 8 80 (VRet n) := by
  obtain ⟨ve, ⟨v1, v2⟩, v3, v4⟩ := v
  suffices h : Con w mean mg mb 96 news [.ref a2, .ref 73] 8 80 (FrRet (x2 * 1 + 0 * y2) (y2 * 1)) from con_mono h fun tl r ⟨a, t, u, k, e1, e2⟩ => ⟨_, _, Vl.of (by simp only [Int.one_mul, Int.mul_one, Int.zero_mul, Int.add_zero, Int.zero_add]; exact ve) (by omega) (by omega), a, t, u, k, e1, e2⟩
  (try unfold Con)
  unfold ConM
  k_fill
  intro dp un gd cn cs a ccd cl outer A₀ base h₀ L m s Q E B F X N T hk hd hu hret
  refine wpAny_call ?_
  k_dflt ktr_enter
  k_steps
  all_goals (refine hret _ _ _ _ (by k_asm) (by k_asm) ⟨[_], rfl, con_abv1 (by ktn_lt), _, _, _, _, rfl, rfl⟩)
theorem plus_right (h1 : (a1, tp x1 y1 t1 u1 n1) ∈ news) (h2 : (a2, tp 0 1 t2 u2 n2) ∈ news) (v : Vl n x1 y1) : Con w mean mg mb 96 news [.ref a1, .ref a2] 8 80 (VRet n) := by
  obtain ⟨ve, ⟨v1, v2⟩, v3, v4⟩ := v
  exact con_mono (plus_con h1 h2 (by omega) (by omega) (by omega) (by omega)) fun tl r ⟨a, t, u, k, e1, e2⟩ => ⟨_, _, Vl.of (by simp only [Int.one_mul, Int.mul_one, Int.zero_mul, Int.add_zero, Int.zero_add]; exact ve) (by omega) (by omega), a, t, u, k, e1, e2⟩
theorem plus_left (h1 : (a1, tp 0 1 t1 u1 n1) ∈ news) (h2 : (a2, tp x2 y2 t2 u2 n2) ∈ news) (v : Vl n x2 y2) : Con w mean mg mb 96 news [.ref a1, .ref a2] 8 80 (VRet n) := by
  obtain ⟨ve, ⟨v1, v2⟩, v3, v4⟩ := v
  exact con_mono (plus_con h1 h2 (by omega) (by omega) (by omega) (by omega)) fun tl r ⟨a, t, u, k, e1, e2⟩ => ⟨_, _, Vl.of (by simp only [Int.one_mul, Int.mul_one, Int.zero_mul, Int.add_zero, Int.zero_add]; exact ve) (by omega) (by omega), a, t, u, k, e1, e2⟩
/-- twelve times a value -/
def Tw (n p q : Int) : Prop := p * 2 = n * q ∧ (0 < q ∧ q ≤ 300) ∧ (-3000 ≤ p ∧ p ≤ 3000)
theorem times_grain (h1 : (a1, tp x1 y1 t1 u1 n1) ∈ news) (h2 : (a2, tp 12 1 t2 u2 n2) ∈ news) (v : Vl n x1 y1) : Con w mean mg mb 103 news [.ref a1, .ref a2] 8 80 (fun tl r => ∃ p q, Tw n p q ∧ ∃ a t u k, r = .ref a ∧ tl = [(a, tp p q t u k)]) := by
  obtain ⟨ve, ⟨v1, v2⟩, v3, v4⟩ := v
  refine con_mono (times_con h1 h2 (by omega) (by omega) (by omega) (by omega)) fun tl r ⟨a, t, u, k, e1, e2⟩ => ⟨_, _, ?_, a, t, u, k, e1, e2⟩
  obtain ⟨f1, f2, f3, f4⟩ := fr_val (X := x1 * 12) (Y := y1 * 1) (by omega)
  generalize fr1 (x1 * 12) (y1 * 1) = p at *
  generalize fr2 (x1 * 12) (y1 * 1) = q at *
  refine ⟨Int.eq_of_mul_eq_mul_right (show y1 ≠ 0 by omega) ?_, ⟨f2, by omega⟩, by omega⟩
  grind
theorem rounded_fine (h1 : (a1, tp x1 y1 t1 u1 n1) ∈ news) (v : Tw n x1 y1) : Con w mean mg mb 110 news [.ref a1] 3 30 (fun tl r => tl = [] ∧ ∃ t, r = .int ((n + 1) / 2) t) := by
  obtain ⟨ve, ⟨v1, v2⟩, v3⟩ := v
  exact con_mono (rounded_con h1 v3 ⟨v1, v2⟩) fun tl r ⟨e, t, e2⟩ => ⟨e, t, by rw [e2, fine_val ve v1]⟩
end
end Fl
namespace Fl
theorem calm_K_spot : True := by
  w_top off
  trivial
local macro_rules | `(tactic| k_mem) => `(tactic| (show (_ : Addr × Obj) ∈ (_ : List (Addr × Obj)); ktr_member))
local macro_rules | `(tactic| k_mem) => `(tactic| (show (_ : Addr × Obj) ∈ (_ ++ _ : List (Addr × Obj)); first | (refine List.mem_append.mpr (Or.inl ?_); k_mem) | (refine List.mem_append.mpr (Or.inr ?_); k_mem)))
local macro_rules | `(tactic| k_all) => `(tactic| first | (with_reducible assumption) | exact ne_upA (by assumption) (Nat.le_refl _) | exact ne_up (by assumption) (by omega))
local macro_rules | `(tactic| k_lt $h:ident) => `(tactic| (replace $h := allLt_of $h; (simp only [AllLt, allLt_app, and_assoc, and_true] at $h:ident); (repeat (have _ := And.left $h; replace $h := And.right $h))))
local macro_rules | `(tactic| k_ne) => `(tactic| (refine neN ?_; (try dsimp only); first | with_reducible assumption | exact Ne.symm (by with_reducible assumption) | omega))
local macro_rules | `(tactic| walk_at "call ref") => `(tactic| (k_here; k_dflt (first
  | (refine' call_cls ?k1 ?k2 ?k3 ?k4 ?k5 ?k6 ?_; (case k1 => k_asm); (case k2 => k_asm); (case k3 => k_asm); (case k4 => k_is); (case k5 => k_is); (case k6 => k_is); k_whole; intro x' d' h' F' N' l1 l2; (try k_lt l1); (try k_lt2 l2); (try k_sweep); (first | (refine' code_def ?k1 ?k2 ?k3 ?k4 ?k5 ?kA ?kF ?kK ?k6 ?k7 ?k8 ?k9 ?kB ?_ ?c2 ?c3 ?c4 ?c5; (case kA => exact rfl); (case kF => exact rfl); (case kK => first | exact rfl | assumption); (case k1 => k_asm); (case k2 => k_asm); (case k3 => k_asm); (case k4 => k_asm); (case k5 => k_asm); (case k6 => k_is); (case k7 => k_is); (case k8 => ktr_room); (case k9 => first | exact BindsTo.of_eq rfl | exact binds_K (by k_in) rfl (by k_is) rfl rfl rfl); (case c5 => decide); (case kB => exact locs rfl); (case c2 => exact rfl); (case c3 => exact rfl); (case c4 => exact rfl); k_whole; intro g' L' h' FG' F' N' B' X' T'; (try dsimp only); (try k_fold)) | (refine' code_defC ?k1 ?k2 ?k3 ?k4 ?k5 ?kA ?kF ?kK ?k6 ?k7 ?k8 ?k9 ?kB ?kD ?_ ?c2 ?c3 ?c4; (case kA => exact rfl); (case kF => exact rfl); (case kK => first | exact rfl | assumption); (case k1 => k_asm); (case k2 => k_asm); (case k3 => k_asm); (case k4 => k_asm); (case k5 => k_asm); (case k6 => k_is); (case k7 => k_is); (case k8 => ktr_room); (case k9 => first | exact BindsTo.of_eq rfl | exact binds_K (by k_in) rfl (by k_is) rfl rfl rfl); (case kB => exact rfl); (case kD => decide +kernel); (case c2 => exact rfl); (case c3 => exact rfl); (case c4 => exact rfl); k_whole; intro g' L' h' tk' cells' FG' F' N' Y' B' X' T' l1; (try k_lt l1); k_cells Y'; (try simp only [List.cons_append, List.nil_append] at N'); (try dsimp only); (try k_fold))))
  | (refine' call_meth ?k1 ?k2 ?_; (case k1 => k_asm); (case k2 => k_mem); k_whole; (first | (refine' code_def ?k1 ?k2 ?k3 ?k4 ?k5 ?kA ?kF ?kK ?k6 ?k7 ?k8 ?k9 ?kB ?_ ?c2 ?c3 ?c4 ?c5; (case kA => exact rfl); (case kF => exact rfl); (case kK => first | exact rfl | assumption); (case k1 => k_asm); (case k2 => k_asm); (case k3 => k_asm); (case k4 => k_asm); (case k5 => k_asm); (case k6 => k_is); (case k7 => k_is); (case k8 => ktr_room); (case k9 => first | exact BindsTo.of_eq rfl | exact binds_K (by k_in) rfl (by k_is) rfl rfl rfl); (case c5 => decide); (case kB => exact locs rfl); (case c2 => exact rfl); (case c3 => exact rfl); (case c4 => exact rfl); k_whole; intro g' L' h' FG' F' N' B' X' T'; (try dsimp only); (try k_fold)) | (refine' code_defC ?k1 ?k2 ?k3 ?k4 ?k5 ?kA ?kF ?kK ?k6 ?k7 ?k8 ?k9 ?kB ?kD ?_ ?c2 ?c3 ?c4; (case kA => exact rfl); (case kF => exact rfl); (case kK => first | exact rfl | assumption); (case k1 => k_asm); (case k2 => k_asm); (case k3 => k_asm); (case k4 => k_asm); (case k5 => k_asm); (case k6 => k_is); (case k7 => k_is); (case k8 => ktr_room); (case k9 => first | exact BindsTo.of_eq rfl | exact binds_K (by k_in) rfl (by k_is) rfl rfl rfl); (case kB => exact rfl); (case kD => decide +kernel); (case c2 => exact rfl); (case c3 => exact rfl); (case c4 => exact rfl); k_whole; intro g' L' h' tk' cells' FG' F' N' Y' B' X' T' l1; (try k_lt l1); k_cells Y'; (try simp only [List.cons_append, List.nil_append] at N'); (try dsimp only); (try k_fold))))
  | (refine wpAny_call ?_; (first | (refine' code_def ?k1 ?k2 ?k3 ?k4 ?k5 ?kA ?kF ?kK ?k6 ?k7 ?k8 ?k9 ?kB ?_ ?c2 ?c3 ?c4 ?c5; (case kA => exact rfl); (case kF => exact rfl); (case kK => first | exact rfl | assumption); (case k1 => k_asm); (case k2 => k_asm); (case k3 => k_asm); (case k4 => k_asm); (case k5 => k_asm); (case k6 => k_is); (case k7 => k_is); (case k8 => ktr_room); (case k9 => first | exact BindsTo.of_eq rfl | exact binds_K (by k_in) rfl (by k_is) rfl rfl rfl); (case c5 => decide); (case kB => exact locs rfl); (case c2 => exact rfl); (case c3 => exact rfl); (case c4 => exact rfl); k_whole; intro g' L' h' FG' F' N' B' X' T'; (try dsimp only); (try k_fold)) | (refine' code_defC ?k1 ?k2 ?k3 ?k4 ?k5 ?kA ?kF ?kK ?k6 ?k7 ?k8 ?k9 ?kB ?kD ?_ ?c2 ?c3 ?c4; (case kA => exact rfl); (case kF => exact rfl); (case kK => first | exact rfl | assumption); (case k1 => k_asm); (case k2 => k_asm); (case k3 => k_asm); (case k4 => k_asm); (case k5 => k_asm); (case k6 => k_is); (case k7 => k_is); (case k8 => ktr_room); (case k9 => first | exact BindsTo.of_eq rfl | exact binds_K (by k_in) rfl (by k_is) rfl rfl rfl); (case kB => exact rfl); (case kD => decide +kernel); (case c2 => exact rfl); (case c3 => exact rfl); (case c4 => exact rfl); k_whole; intro g' L' h' tk' cells' FG' F' N' Y' B' X' T' l1; (try k_lt l1); k_cells Y'; (try simp only [List.cons_append, List.nil_append] at N'); (try dsimp only); (try k_fold)))))))
local macro_rules | `(tactic| walk_at "call ref") => `(tactic| (k_here; (with_reducible show wpAny _ _ (call (Value.ref 103) _) _ _ _); k_dflt (refine' con_use ?c0 ?c1 ?c2 ?c3 ?c4 ?c5 ?c6 ?c7 ?c8 ?_; (case c1 => k_asm); (case c2 => k_asm); (case c3 => k_asm); (case c4 => k_asm); (case c5 => k_asm); (case c6 => first | exact rfl | assumption); (case c0 => (exact times_grain (by k_mem) (by k_mem) (by assumption))); (case c7 => ktr_room); (case c8 => ktr_units)); (rintro r' nw' h' tk' F' N' ⟨tl', e0', o', p', q', hv', a', t', u', n', e1', e2'⟩; subst e0'; subst e1'; subst e2'; replace o' := o' _ (List.Mem.head _); simp only [AllLt, allLt_app, and_assoc, and_true] at o'; (repeat (have _ := And.left o'; replace o' := And.right o')); (try simp only [List.nil_append, List.cons_append] at N'); (try dsimp only); (try k_fold))))
local macro_rules | `(tactic| walk_at "call ref") => `(tactic| (k_here; (with_reducible show wpAny _ _ (call (Value.ref 103) [Value.ref 74, _]) _ _ _); k_dflt (refine' con_use ?c0 ?c1 ?c2 ?c3 ?c4 ?c5 ?c6 ?c7 ?c8 ?_; (case c1 => k_asm); (case c2 => k_asm); (case c3 => k_asm); (case c4 => k_asm); (case c5 => k_asm); (case c6 => first | exact rfl | assumption); (case c0 => (exact times_one (by k_mem) (by assumption))); (case c7 => ktr_room); (case c8 => ktr_units)); (rintro r' nw' h' tk' F' N' ⟨tl', e0', o', p', q', hv', a', t', u', n', e1', e2'⟩; subst e0'; subst e1'; subst e2'; replace o' := o' _ (List.Mem.head _); simp only [AllLt, allLt_app, and_assoc, and_true] at o'; (repeat (have _ := And.left o'; replace o' := And.right o')); (try simp only [List.nil_append, List.cons_append] at N'); (try dsimp only); (try k_fold))))
local macro_rules | `(tactic| walk_at "call ref") => `(tactic| (k_here; (with_reducible show wpAny _ _ (call (Value.ref 103) [Value.ref 73, _]) _ _ _); k_dflt (refine' con_use ?c0 ?c1 ?c2 ?c3 ?c4 ?c5 ?c6 ?c7 ?c8 ?_; (case c1 => k_asm); (case c2 => k_asm); (case c3 => k_asm); (case c4 => k_asm); (case c5 => k_asm); (case c6 => first | exact rfl | assumption); (case c0 => (exact times_zero (by k_mem) (by assumption))); (case c7 => ktr_room); (case c8 => ktr_units)); (rintro r' nw' h' tk' F' N' ⟨tl', e0', o', a', t', u', n', e1', e2'⟩; subst e0'; subst e1'; subst e2'; replace o' := o' _ (List.Mem.head _); simp only [AllLt, allLt_app, and_assoc, and_true] at o'; (repeat (have _ := And.left o'; replace o' := And.right o')); (try simp only [List.nil_append, List.cons_append] at N'); (try dsimp only); (try k_fold))))
local macro_rules | `(tactic| walk_at "call ref") => `(tactic| (k_here; (with_reducible show wpAny _ _ (call (Value.ref 96) _) _ _ _); k_dflt (refine' con_use ?c0 ?c1 ?c2 ?c3 ?c4 ?c5 ?c6 ?c7 ?c8 ?_; (case c1 => k_asm); (case c2 => k_asm); (case c3 => k_asm); (case c4 => k_asm); (case c5 => k_asm); (case c6 => first | exact rfl | assumption); (case c0 => (first | exact plus_right (by k_mem) (by k_mem) (by assumption) | exact plus_left (by k_mem) (by k_mem) (by assumption))); (case c7 => ktr_room); (case c8 => ktr_units)); (rintro r' nw' h' tk' F' N' ⟨tl', e0', o', p', q', hv', a', t', u', n', e1', e2'⟩; subst e0'; subst e1'; subst e2'; replace o' := o' _ (List.Mem.head _); simp only [AllLt, allLt_app, and_assoc, and_true] at o'; (repeat (have _ := And.left o'; replace o' := And.right o')); (try simp only [List.nil_append, List.cons_append] at N'); (try dsimp only); (try k_fold))))
local macro_rules | `(tactic| walk_at "call ref") => `(tactic| (k_here; (with_reducible show wpAny _ _ (call (Value.ref 96) [_, Value.ref 73]) _ _ _); k_dflt (refine' con_use ?c0 ?c1 ?c2 ?c3 ?c4 ?c5 ?c6 ?c7 ?c8 ?_; (case c1 => k_asm); (case c2 => k_asm); (case c3 => k_asm); (case c4 => k_asm); (case c5 => k_asm); (case c6 => first | exact rfl | assumption); (case c0 => (exact plus_const (by k_mem) (by assumption))); (case c7 => ktr_room); (case c8 => ktr_units)); (rintro r' nw' h' tk' F' N' ⟨tl', e0', o', p', q', hv', a', t', u', n', e1', e2'⟩; subst e0'; subst e1'; subst e2'; replace o' := o' _ (List.Mem.head _); simp only [AllLt, allLt_app, and_assoc, and_true] at o'; (repeat (have _ := And.left o'; replace o' := And.right o')); (try simp only [List.nil_append, List.cons_append] at N'); (try dsimp only); (try k_fold))))
local macro_rules | `(tactic| walk_at "call ref") => `(tactic| (k_here; (with_reducible show wpAny _ _ (call (Value.ref 110) _) _ _ _); k_dflt (refine' con_use ?c0 ?c1 ?c2 ?c3 ?c4 ?c5 ?c6 ?c7 ?c8 ?_; (case c1 => k_asm); (case c2 => k_asm); (case c3 => k_asm); (case c4 => k_asm); (case c5 => k_asm); (case c6 => first | exact rfl | assumption); (case c0 => (exact rounded_fine (by k_mem) (by assumption))); (case c7 => ktr_room); (case c8 => ktr_units)); (rintro r' nw' h' tk' F' N' ⟨tl', e0', o', e1', t', e2'⟩; subst e0'; subst e1'; subst e2'; clear o'; (try simp only [List.nil_append, List.cons_append] at N'); (try dsimp only); (try k_fold))))

abbrev ent (w : World) (s : Str) (t : Tok) (v : Value) : DictEntry := { hash := PyData.keyHash w.params s, key := .str s t, val := v }
abbrev matO (w : World) (t1 t2 t3 t4 t5 t6 : Tok) (n : Nat) : Obj := dictOf [ent w (Str.ofString "a") t1 (.ref 74), ent w (Str.ofString "b") t2 (.ref 73), ent w (Str.ofString "c") t3 (.ref 73), ent w (Str.ofString "d") t4 (.ref 74), ent w (Str.ofString "e") t5 (.ref 73), ent w (Str.ofString "f") t6 (.ref 73)] n
theorem keep_top {h₀ h : Heap} {L T : Addr} {o : Obj} {l news : Led} (N : News h₀ L h ((T, o) :: l)) (s : ∀ p ∈ news, p ∈ l) : News h₀ L h ((T, o) :: news) := con_drop N fun p hp => (List.mem_cons.mp hp).elim (fun e => e ▸ List.mem_cons_self) fun h => List.mem_cons_of_mem _ (s p h)
theorem spot_con {w : World} {mean mg mb} {news : Led} {M d aP ax ay : Addr} {t1 t2 t3 t4 t5 t6 tx ux ty uy tg : Tok} {nd nP nx ny : Nat} {x0 x1 y0 y1 nx' ny' : Int}
    (hM : (M, instObj 289 d) ∈ news) (hd : (d, matO w t1 t2 t3 t4 t5 t6 nd) ∈ news) (hP : (aP, ({ cls := .type "tuple", data := .seq #[.ref ax, .ref ay] nP } : Obj)) ∈ news)
    (hx : (ax, tp x0 x1 tx ux nx) ∈ news) (hy : (ay, tp y0 y1 ty uy ny) ∈ news) (vx : Vl nx' x0 x1) (vy : Vl ny' y0 y1) :
    Con w mean mg mb 117 news [.ref M, .ref aP, .int 12 tg] 16 160 (fun tl r => ∃ a t u n, r = .ref a ∧ tl = [(a, tp ((nx' + 1) / 2) ((ny' + 1) / 2) t u n)]) := by
  (try unfold Con)
  unfold ConM
  k_fill
  intro dp un gd cn cs a ccd cl outer A₀ base h₀ L m s Q E B F X N T hk hdp hu hret
  refine wpAny_call ?_
  k_dflt ktr_enter
  k_steps
  all_goals (exact hret _ _ _ _ (by k_asm) (keep_top (news := news) (by k_asm) (fun p hp => by simp only [List.mem_cons, hp, or_true])) ⟨[_], rfl, con_abv1 (by assumption), _, _, _, _, rfl, rfl⟩)
end Fl
namespace Fl
theorem above_ne1 {L c : Nat} {l : Led} (h : ∀ p ∈ l, @LT.lt Nat _ (L + 1) p.1) (hc : c ≤ L + 1) : ∀ p ∈ l, p.1 ≠ c := fun p hp => Nat.ne_of_gt (Nat.lt_of_le_of_lt hc (h p hp))
def PtN (p : Pt) : Prop := (-90 ≤ p.1 ∧ p.1 ≤ 90) ∧ (-90 ≤ p.2 ∧ p.2 ≤ 90)
abbrev Sp1 (x1 : Addr × Obj) (S R : Addr) (o oR : Obj) (tl : Led) : Led := x1 :: (S, o) :: (R, oR) :: tl
section
variable {prog : Program} {w : World} {A : Around} {E : Value → Shared → Prop} {s : Shared} {h₀ : Heap} {L : Addr} {m : Str → Option Value} {env : Env} {elt : PySem.Expr} {x : Str} {scope : Scope} {cl : List (Str × Addr)} {Fin : List Value → Led → Prop} {x1 : Addr × Obj} {S R : Addr} {rest : Led} {v0 v1 a : Int} {t0 t1 : Tok} {n nR k : Nat} {row : List Value}
def NuEnd (L1 : Nat) (x1 : Addr × Obj) (S R : Addr) (made rest : Led) (y : Value) (news' : Led) : Prop :=
  ∃ T p t u n1 v0 v1 t0 t1 n row nR, y = .ref T ∧ @LT.lt Nat _ (L1 + 1) T ∧ PtN p ∧ 0 ≤ v1 ∧ v1 < 2147483647 ∧ IntRow row ∧ news' = Sp1 x1 S R (srcO v0 v1 t0 t1 R n) (rowO row nR) (((T, tp p.1 p.2 t u n1) :: made) ++ rest)
theorem nums_rest (h1 : 0 ≤ v1) (h2 : v1 < 2147483647) (hr : IntRow row)
    (turn : ∀ i t I oI C oC D m₂ ys v0 t0 v1 t1 n row nR made h tk (E' : Value → Shared → Prop), 0 ≤ v1 → v1 < 2147483647 → IntRow row → (∀ p ∈ made, @LT.lt Nat _ (L + 1) p.1) → LCg.NsObj oC m₂ → m₂ x = some (.int (a + (i : Int)) t) → Fr h₀ L h m →
      News h₀ L h ((I, oI) :: (C, oC) :: (D, LCg.lst ys) :: Sp1 x1 S R (srcO v0 v1 t0 t1 R n) (rowO row nR) (made ++ rest)) → LCg.Off3 I C D (Sp1 x1 S R (srcO v0 v1 t0 t1 R n) (rowO row nR) (made ++ rest)) → ((@Ne Nat I C) ∧ (@Ne Nat I D) ∧ (@Ne Nat C D)) →
      wpAny (model prog w) A (eval elt (compEnvC scope cl C env)) (LCg.CompEnd h₀ L m { s with heap := h, toks := tk } I oI C oC D (LCg.lst ys) (fun _ => True) (NuEnd L x1 S R made rest)) E' { s with heap := h, toks := tk })
    (fin : ∀ ys ps made v0 v1 t0 t1 n row nR, All2 (PtIn made) ys ps → ps.length = k → (∀ p ∈ ps, PtN p) → (∀ p ∈ made, @LT.lt Nat _ (L + 1) p.1) → 0 ≤ v1 → v1 < 2147483647 → IntRow row → Fin ys (Sp1 x1 S R (srcO v0 v1 t0 t1 R n) (rowO row nR) (made ++ rest))) :
    LCg.CompRest prog w A h₀ L m env elt x scope cl s (fun _ => True) (fun i v => ∃ t, v = .int (a + (i : Int)) t) Fin k 0 [] (Sp1 x1 S R (srcO v0 v1 t0 t1 R n) (rowO row nR) rest) := by
  refine rest_ind (J := fun i ys news => ∃ v0 v1 t0 t1 n row nR made ps, 0 ≤ v1 ∧ v1 < 2147483647 ∧ IntRow row ∧ (∀ p ∈ made, @LT.lt Nat _ (L + 1) p.1) ∧ All2 (PtIn made) ys ps ∧ ps.length = i ∧ (∀ p ∈ ps, PtN p) ∧ news = Sp1 x1 S R (srcO v0 v1 t0 t1 R n) (rowO row nR) (made ++ rest)) ?_ ?_ ?_
  · rintro i t I oI C oC D m₂ ys news h tk E' hi ⟨v0, v1, t0, t1, n, row, nR, made, ps, b1, b2, b3, b4, b5, b6, b7, rfl⟩ hC hx F N off ne
    refine wpAny_mono (turn i t I oI C oC D m₂ ys v0 t0 v1 t1 n row nR made h tk E' b1 b2 b3 b4 hC hx F N off ne) (fun y s₂ hq => ?_) fun _ _ e => e
    obtain ⟨h', tk', nw, e, F', N', off', hS, T, p, t', u', n1, v0', v1', t0', t1', n', row', nR', rfl, hT, hp, c1, c2, c3, rfl⟩ := hq
    refine ⟨h', tk', _, e, F', N', off', hS, v0', v1', t0', t1', n', row', nR', (T, tp p.1 p.2 t' u' n1) :: made, ps ++ [p], c1, c2, c3, ?_, ?_, ?_, ?_, rfl⟩
    · exact List.forall_mem_cons.mpr ⟨hT, b4⟩
    · exact All2.append (All2.mono (fun _ _ q => q.mono fun x hx => List.mem_cons_of_mem _ hx) b5) ⟨⟨T, t', u', n1, rfl, List.mem_cons_self⟩, trivial⟩
    · rw [List.length_append, b6]; rfl
    · intro q hq
      rcases List.mem_append.mp hq with hq | hq
      · exact b7 q hq
      · rw [List.mem_singleton.mp hq]; exact hp
  · exact ⟨v0, v1, t0, t1, n, row, nR, [], [], h1, h2, hr, (fun _ h => nomatch h), trivial, rfl, (fun _ h => nomatch h), rfl⟩
  · rintro ys news' ⟨v0, v1, t0, t1, n, row, nR, made, ps, b1, b2, b3, b4, b5, b6, b7, rfl⟩
    exact fin ys ps made v0 v1 t0 t1 n row nR b5 b6 b7 b4 b1 b2 b3
theorem nu_end {oS' oR' : Obj} {s₁ : Shared} {h' : Heap} {tk : Nat} {I C D T : Addr} {oI oC : Obj} {ys : List Value} {made all : Led} {k1 k2 : Int} {t u : Tok} {n1 : Nat} (F : Fr h₀ L h' m) (N : News h₀ L h' all)
    (hT : (T, ({ cls := .type "tuple", data := .seq #[.int (k1 - 90) t, .int (k2 - 90) u] n1 } : Obj)) ∈ all) (hN : ∀ p ∈ (I, oI) :: (C, oC) :: (D, LCg.lst ys) :: Sp1 x1 S R (srcO v0 v1 t0 t1 R n) (rowO row nR) (made ++ rest), p ∈ all)
    (off : LCg.Off3 I C D (Sp1 x1 S R oS' oR' (made ++ rest))) (hT3 : @Ne Nat T I ∧ @Ne Nat T C ∧ @Ne Nat T D) (hTL : @LT.lt Nat _ (L + 1) T)
    (b1 : 0 ≤ k1) (b2 : k1 < 180) (b3 : 0 ≤ k2) (b4 : k2 < 180) (h1 : 0 ≤ v1) (h2 : v1 < 2147483647) (hr : IntRow row) :
    LCg.CompEnd h₀ L m s₁ I oI C oC D (LCg.lst ys) (fun _ => True) (NuEnd L x1 S R made rest) (.ref T) { s₁ with heap := h', toks := tk } := by
  refine LCg.CompEnd.intro F N (Sp1 x1 S R (srcO v0 v1 t0 t1 R n) (rowO row nR) (((T, tp (k1 - 90) (k2 - 90) t u n1) :: made) ++ rest)) ?_ ?_ trivial ⟨T, (k1 - 90, k2 - 90), t, u, n1, v0, v1, t0, t1, n, row, nR, rfl, hTL, by unfold PtN; dsimp only; omega, h1, h2, hr, rfl⟩
  · intro p hp
    simp only [Sp1, List.mem_cons, List.cons_append] at hp
    by_cases e : p = (T, tp (k1 - 90) (k2 - 90) t u n1)
    · rw [e]; exact hT
    · apply hN
      simp only [Sp1, List.mem_cons, List.cons_append]
      simp only [e, false_or] at hp
      exact hp
  · obtain ⟨q1, q2, q3, q12⟩ := off
    exact ⟨q1, q2, q3, hT3, q12⟩
end
section
variable {h₀ h : Heap} {L D S R : Addr} {o oR oD : Obj} {made rest : Led} {x1 : Addr × Obj}
/-- the numbers made: one opaque ledger behind -/
theorem renormN (N : News h₀ L h ((D, oD) :: Sp1 x1 S R o oR (made ++ rest))) : ∃ bs, News h₀ L h bs ∧ (D, oD) ∈ bs ∧ (∀ p ∈ made, p ∈ bs) ∧ ∀ p ∈ (S, o) :: (R, oR) :: rest, p ∈ bs := by
  refine ⟨_, N, by simp, fun p hp => by simp [Sp1, hp], fun p hp => ?_⟩
  simp only [Sp1, List.mem_cons, List.mem_append] at hp ⊢
  rcases hp with h | h | h <;> simp only [h, true_or, or_true]
end
/-- a point made of two fractions -/
def PntIn (led : Led) (v : Value) (n : Pt) : Prop := ∃ aP ax ay nP x0 x1 y0 y1 tx ux nx ty uy ny, v = .ref aP ∧ (aP, ({ cls := .type "tuple", data := .seq #[.ref ax, .ref ay] nP } : Obj)) ∈ led ∧ (ax, tp x0 x1 tx ux nx) ∈ led ∧ (ay, tp y0 y1 ty uy ny) ∈ led ∧ Vl n.1 x0 x1 ∧ Vl n.2 y0 y1
theorem PntIn.mono {l l' : Led} {v : Value} {n : Pt} (h : PntIn l v n) (s : ∀ x ∈ l, x ∈ l') : PntIn l' v n :=
  let ⟨aP, ax, ay, nP, x0, x1, y0, y1, tx, ux, nx, ty, uy, ny, e, m1, m2, m3, v1, v2⟩ := h
  ⟨aP, ax, ay, nP, x0, x1, y0, y1, tx, ux, nx, ty, uy, ny, e, s _ m1, s _ m2, s _ m3, v1, v2⟩
/-- the loop that makes the points -/
def PlJ (led : Led) (pa : Addr) (m₀ : Str → Option Value) (ns : List Pt) (vs : List Value) (m' : Str → Option Value) (news' : Led) : Prop :=
  (∃ u : Str → Option Value, m' = fun z => if z = Str.ofString "place" then u z else m₀ z) ∧ ∃ made pv k fq qs, news' = (pa, ({ cls := .type "list", data := .seq (List.toArray pv) k } : Obj)) :: (made ++ led) ∧ All2 (PntIn made) pv fq ∧ All2 (PtIn led) vs qs ∧ fq ++ qs = ns ∧
    (∀ p ∈ made, @LT.lt Nat _ pa p.1 ∧ p.2.cls = .type "tuple")
theorem not_iter {h₀ h : Heap} {L I : Addr} {oI : Obj} {y : Addr × Obj} {made led : Led} (N : News h₀ L h ((I, oI) :: y :: (made ++ led))) (hc : oI.cls = .type "list_iterator") (hm : ∀ p ∈ made, p.2.cls = .type "tuple") : ∀ p ∈ made, p.1 ≠ I := by
  intro p hp e
  have h1 := (N (I, oI) (by simp)).1
  have h2 := (N p (by simp [hp])).1
  rw [e, h1] at h2
  have h3 := hm p hp
  rw [← Option.some.inj h2, hc] at h3
  exact absurd (Value.type.inj h3) (by decide)
section
variable {led : Led} {pa I ax : Addr} {oI oa : Obj} {m₀ m' u : Str → Option Value} {ns fq qs : List Pt} {p : Pt} {vs pv : List Value} {v x : Value} {n k : Nat} {h₀ h' : Heap} {L : Addr} {s₁ : Shared} {tk : Nat} {Q : Flow → Shared → Prop} {made : Led} {T b1 b2 : Addr}
theorem Pl.start (_F : Fr h₀ L h' m₀) (_N : News h₀ L h' ((pa, ({ cls := .type "list", data := .seq #[] k } : Obj)) :: led)) (hv : All2 (PtIn led) vs ns) : PlJ led pa m₀ ns vs m₀ ((pa, ({ cls := .type "list", data := .seq #[] k } : Obj)) :: led) :=
  ⟨⟨m₀, funext fun z => by split <;> rfl⟩, [], [], k, [], ns, rfl, trivial, hv, rfl, fun _ h => nomatch h⟩
theorem Pl.turn {oT o1 o2 : Obj} (F : Fr h₀ L h' (fun y => if y = Str.ofString "place" then some x else (fun z => if z = Str.ofString "place" then u z else m₀ z) y))
    (N : News h₀ L h' ((T, oT) :: (b2, o2) :: (b1, o1) :: (I, oI) :: (pa, W.listOf ((List.toArray pv).push (Value.ref T)) k) :: (made ++ led))) (hI : ∀ q ∈ made, q.1 ≠ I) (lt : ∀ q ∈ led, @LT.lt Nat _ q.1 I) (lf : @LT.lt Nat _ pa I) (hm : (ax, oa) ∈ led)
    (cT : oT.cls = .type "tuple") (c1 : o1.cls = .type "tuple") (c2 : o2.cls = .type "tuple") (gT : @LT.lt Nat _ I T) (g1 : @LT.lt Nat _ I b1) (g2 : @LT.lt Nat _ I b2) (hf : All2 (PntIn made) pv fq) (hp : PntIn [(T, oT), (b2, o2), (b1, o1)] (.ref T) p)
    (hv : All2 (PtIn led) vs qs) (e : fq ++ p :: qs = ns) (ho : ∀ q ∈ made, @LT.lt Nat _ pa q.1 ∧ q.2.cls = .type "tuple") :
    UnrPostW h₀ L s₁ [(I, oI)] (fun m'' n'' => SubL [(ax, oa)] n'' ∧ PlJ led pa m₀ ns vs m'' n'') Q .next { s₁ with heap := h', toks := tk } := by
  rw [List.push_toArray] at N
  refine ⟨h', tk, _, (pa, ({ cls := .type "list", data := .seq (pv ++ [Value.ref T]).toArray k } : Obj)) :: ([(T, oT), (b2, o2), (b1, o1)] ++ made ++ led), rfl, F, con_drop N fun q hq => ?_, fun q hq r hr => ?_, ⟨by simp [hm], trivial⟩, ⟨fun z => if z = Str.ofString "place" then some x else u z, funext fun z => by by_cases h : z = Str.ofString "place" <;> simp [h]⟩,
    [(T, oT), (b2, o2), (b1, o1)] ++ made, pv ++ [Value.ref T], k, fq ++ [p], qs, rfl, ?_, hv, by rw [List.append_assoc]; exact e, ?_⟩
  · simp only [List.mem_cons, List.mem_append, List.not_mem_nil, or_false, false_or] at hq ⊢
    rcases hq with h | h | ((h | h | h) | h) | h <;> simp only [h, true_or, or_true]
  · rw [List.mem_singleton.mp hr]
    simp only [List.mem_cons, List.mem_append, List.not_mem_nil, or_false] at hq
    rcases hq with h | (((h | h | h) | h)) | h
    · rw [h]; exact Nat.ne_of_lt lf
    · rw [h]; exact Nat.ne_of_gt gT
    · rw [h]; exact Nat.ne_of_gt g2
    · rw [h]; exact Nat.ne_of_gt g1
    · exact hI q h
    · exact Nat.ne_of_lt (lt q h)
  · exact All2.append (All2.mono (fun _ _ q => q.mono fun x hx => List.mem_append_right _ hx) hf) (m' := [p]) ⟨hp.mono fun x hx => List.mem_append_left _ hx, trivial⟩
  · intro q hq
    simp only [List.mem_cons, List.mem_append, List.not_mem_nil, or_false] at hq
    rcases hq with (h | h | h) | h
    · rw [h]; exact ⟨Nat.lt_trans lf gT, cT⟩
    · rw [h]; exact ⟨Nat.lt_trans lf g2, c2⟩
    · rw [h]; exact ⟨Nat.lt_trans lf g1, c1⟩
    · exact ho q h
end
theorem news_tail {h₀ h : Heap} {L : Addr} {y : Addr × Obj} {l : Led} (N : News h₀ L h (y :: l)) : News h₀ L h l := fun p hp => N p (List.mem_cons_of_mem _ hp)
section
variable {h₀ h : Heap} {L pa : Addr} {o : Obj} {y1 y2 y3 y4 y5 y6 : Addr × Obj} {made bs : Led} {ns : List Pt} {vs : List Value}
theorem pl_hide (N : News h₀ L h ((pa, o) :: y1 :: y2 :: y3 :: y4 :: y5 :: y6 :: bs)) (hb : AllLt pa bs) (h1 : @LT.lt Nat _ y1.1 pa) (h2 : @LT.lt Nat _ y2.1 pa) (h3 : @LT.lt Nat _ y3.1 pa) (h4 : @LT.lt Nat _ y4.1 pa) (h5 : @LT.lt Nat _ y5.1 pa) (h6 : @LT.lt Nat _ y6.1 pa) :
    ∃ led, News h₀ L h ((pa, o) :: led) ∧ led = y1 :: y2 :: y3 :: y4 :: y5 :: y6 :: bs ∧ (∀ p ∈ led, p.1 ≠ pa) ∧ ∀ p ∈ bs, p ∈ led := by
  refine ⟨_, N, rfl, ?_, fun p hp => by simp [hp]⟩
  simp only [List.forall_mem_cons]
  exact ⟨Nat.ne_of_lt h1, Nat.ne_of_lt h2, Nat.ne_of_lt h3, Nat.ne_of_lt h4, Nat.ne_of_lt h5, Nat.ne_of_lt h6, ne_upA hb (Nat.le_refl _)⟩
theorem pl_renorm {led : Led} (N : News h₀ L h ((pa, o) :: (made ++ led))) (e : led = y1 :: y2 :: y3 :: y4 :: y5 :: y6 :: bs) (ho : ∀ p ∈ made, @LT.lt Nat _ pa p.1 ∧ p.2.cls = .type "tuple") (h2 : @LT.lt Nat _ y2.1 pa) (h4 : @LT.lt Nat _ y4.1 pa) (b2 : AllLt y2.1 bs) (b4 : AllLt y4.1 bs) :
    ∃ bs2, News h₀ L h (y1 :: y2 :: y3 :: y4 :: y5 :: y6 :: bs2) ∧ (pa, o) ∈ bs2 ∧ (∀ p ∈ made, p ∈ bs2) ∧ (∀ p ∈ bs, p ∈ bs2) ∧ (∀ p ∈ bs2, p.1 ≠ y2.1) ∧ (∀ p ∈ bs2, p.1 ≠ y4.1) := by
  subst e
  have key : ∀ c, @LT.lt Nat _ c pa → AllLt c bs → ∀ p ∈ (pa, o) :: (made ++ bs), p.1 ≠ c := by
    intro c hc hb p hp
    simp only [List.mem_cons, List.mem_append] at hp
    rcases hp with h | h | h
    · rw [h]; exact Nat.ne_of_gt hc
    · exact Nat.ne_of_gt (Nat.lt_trans hc (ho p h).1)
    · exact ne_upA hb (Nat.le_refl _) p h
  refine ⟨(pa, o) :: (made ++ bs), con_drop N fun p hp => ?_, by simp, fun p hp => by simp [hp], fun p hp => by simp [hp], key _ h2 b2, key _ h4 b4⟩
  simp only [List.mem_cons, List.mem_append] at hp ⊢
  rcases hp with h | h | h | h | h | h | h | h | h <;> simp only [h, true_or, or_true]
end
abbrev fineP (p : Pt) : Pt := ((p.1 + 1) / 2, (p.2 + 1) / 2)
theorem fine_ok {p1 p2 p3 : Pt} (h : ∀ p ∈ [p1, p2, p3], PtN p) : PsOk [fineP p1, fineP p2, fineP p3] := by
  have h1 := h p1 (by simp)
  have h2 := h p2 (by simp)
  have h3 := h p3 (by simp)
  unfold PtN at h1 h2 h3
  refine ⟨.inl rfl, ?_⟩
  simp only [List.forall_mem_cons, PtOk, fineP]
  exact ⟨by omega, by omega, by omega, List.forall_mem_nil _⟩
theorem off_ne {d : Addr} {o : Obj} {tl led : Led} (h : ∀ p ∈ tl, ∀ q ∈ led, q.1 ≠ p.1) (m : (d, o) ∈ led) : ∀ p ∈ tl, p.1 ≠ d := fun p hp => Ne.symm (h p hp (d, o) m)
section
variable {prog : Program} {w : World} {A : Around} {E : Value → Shared → Prop} {s : Shared} {h₀ h : Heap} {L : Addr} {m : Str → Option Value} {env : Env} {elt : PySem.Expr} {x : Str} {scope : Scope} {cl : List (Str × Addr)} {Fin : List Value → Led → Prop} {news news' led : Led}
theorem ext_one {D b : Addr} {x : Value} {fv : List Value} {n n2 : Nat} {Q : Value → Shared → Prop} (F : Fr h₀ L s.heap m) (N : News h₀ L s.heap news) (hb : (b, ({ cls := .type "list", data := .seq fv.toArray n2 } : Obj)) ∈ news) (hne : fv ≠ []) (hl : fv.length ≤ 100)
    (U : Upd D (W.listOf #[x] n) (W.listOf (x :: fv).toArray (n + 1)) news news') (h : ∀ h', Fr h₀ L h' m → News h₀ L h' news' → Q .none { s with heap := h' }) : wpAny (model prog w) A (call (.builtin "list.extend") [.ref D, .ref b]) Q E s := by
  refine kl_extend F N hb (by simp) ?_ U ?_ ?_ ?_ h
  · have := List.length_pos_iff.mpr hne
    simp; omega
  · simp [Builtin.List.listTooLong, sizeLine_eq]; omega
  · simp [sizeLine_eq]
  · simp [sizeLine_eq]; omega
theorem rest_indS {n : Nat} {S : Led → Prop} {P : Nat → Value → Prop} (J : Nat → List Value → Led → Prop)
    (turn : ∀ i v I oI C oC D m₂ ys news h tk (E' : Value → Shared → Prop), i < n → P i v → J i ys news → LCg.NsObj oC m₂ → m₂ x = some v → Fr h₀ L h m → News h₀ L h ((I, oI) :: (C, oC) :: (D, LCg.lst ys) :: news) → LCg.Off3 I C D news → ((@Ne Nat I C) ∧ (@Ne Nat I D) ∧ (@Ne Nat C D)) →
      wpAny (model prog w) A (eval elt (compEnvC scope cl C env)) (LCg.CompEnd h₀ L m { s with heap := h, toks := tk } I oI C oC D (LCg.lst ys) S (fun y news' => J (i + 1) (ys ++ [y]) news')) E' { s with heap := h, toks := tk })
    (hJ : J 0 [] news) (fin : ∀ ys news', J n ys news' → Fin ys news') : LCg.CompRest prog w A h₀ L m env elt x scope cl s S P Fin n 0 [] news := by
  have key : ∀ (j i : Nat) (ys : List Value) (news : Led), i + j = n → J i ys news → LCg.CompRest prog w A h₀ L m env elt x scope cl s S P Fin j i ys news := by
    intro j
    induction j with
    | zero =>
      intro i ys news hi hJ
      have e : i = n := by omega
      subst e
      exact LCg.CompRest.zero (fin ys news hJ)
    | succ j ih =>
      intro i ys news hi hJ
      refine LCg.CompRest.succ ?_
      intro v I oI C oC D m₂ h tk E' hv hC hx F N off ne
      refine wpAny_mono (turn i v I oI C oC D m₂ ys news h tk E' (by omega) hv hJ hC hx F N off ne) (fun y s₂ hq => ?_) fun _ _ e => e
      obtain ⟨h', tk', nw, e, F', N', off', hS, hJ'⟩ := hq
      exact ⟨h', tk', nw, e, F', N', off', hS, ih (i + 1) _ nw (by omega) hJ'⟩
  exact key n 0 [] news (by omega) hJ
def RdEnd (q : Pt) (tl led : Led) (y : Value) (news' : Led) : Prop := ∃ a t u n, y = .ref a ∧ news' = (a, tp q.1 q.2 t u n) :: (tl ++ led) ∧ ∀ p ∈ led, p.1 ≠ a
theorem rnds_rest (f : Pt → Pt) {ax : Addr} {vs : List Value} {ps : List Pt} (hv : All2 (PtIn led) vs ps)
    (turn : ∀ (q : Pt) a t u n I oI C oC D m₂ ys tl h tk (E' : Value → Shared → Prop), (a, tp q.1 q.2 t u n) ∈ led → LCg.NsObj oC m₂ → m₂ x = some (.ref a) → Fr h₀ L h m → News h₀ L h ((I, oI) :: (C, oC) :: (D, LCg.lst ys) :: (tl ++ led)) → LCg.Off3 I C D (tl ++ led) → ((@Ne Nat I C) ∧ (@Ne Nat I D) ∧ (@Ne Nat C D)) →
      wpAny (model prog w) A (eval elt (compEnvC scope cl C env)) (LCg.CompEnd h₀ L m { s with heap := h, toks := tk } I oI C oC D (LCg.lst ys) (LCg.SrcAt h₀ ax vs.toArray) (RdEnd (f q) tl led)) E' { s with heap := h, toks := tk })
    (fin : ∀ ys tl, All2 (PtIn tl) ys (ps.map f) → (∀ p ∈ tl, ∀ q ∈ led, q.1 ≠ p.1) → Fin ys (tl ++ led)) :
    LCg.CompRest prog w A h₀ L m env elt x scope cl s (LCg.SrcAt h₀ ax vs.toArray) (fun i v => vs.toArray[i]? = some v) Fin vs.toArray.size 0 [] led := by
  refine rest_indS (J := fun i ys news => ∃ tl, news = tl ++ led ∧ All2 (PtIn tl) ys ((ps.take i).map f) ∧ ∀ p ∈ tl, ∀ q ∈ led, q.1 ≠ p.1) ?_ ⟨[], rfl, trivial, fun _ h => nomatch h⟩ ?_
  · rintro i v I oI C oC D m₂ ys news h tk E' hi hP ⟨tl, rfl, hys, hoff⟩ hC hx F N off ne
    have hP' : vs[i]? = some v := by simpa using hP
    obtain ⟨q, hq, a, t, u, n, rfl, hm⟩ := All2.get hv hP'
    refine wpAny_mono (turn q a t u n I oI C oC D m₂ ys tl h tk E' hm hC hx F N off ne) (fun y s₂ hr => ?_) fun _ _ e => e
    obtain ⟨h', tk', nw, e, F', N', off', hS, a', t', u', n', rfl, rfl, hna⟩ := hr
    refine ⟨h', tk', _, e, F', N', off', hS, _ :: tl, rfl, ?_, List.forall_mem_cons.mpr ⟨hna, hoff⟩⟩
    rw [List.take_add_one, hq, List.map_append]
    exact All2.append (All2.mono (fun _ _ q => q.mono fun x hx => List.mem_cons_of_mem _ hx) hys) (m' := [f q]) ⟨⟨a', t', u', n', rfl, List.mem_cons_self⟩, trivial⟩
  · rintro ys news' ⟨tl, rfl, hys, hoff⟩
    refine fin ys tl ?_ hoff
    rwa [List.take_of_length_le (by rw [List.size_toArray, hv.length]; exact Nat.le_refl _)] at hys
theorem rd_end {q : Pt} {s₁ : Shared} {h' : Heap} {tk : Nat} {I C D a ax : Addr} {oI oC : Obj} {ys vs : List Value} {tl : Led} {t u : Tok} {n k : Nat} (F : Fr h₀ L h' m)
    (N : News h₀ L h' ((a, tp q.1 q.2 t u n) :: ((I, oI) :: (C, oC) :: (D, LCg.lst ys) :: (tl ++ led)))) (hna : AllLt a ((I, oI) :: (C, oC) :: (D, LCg.lst ys) :: (tl ++ led))) (off : LCg.Off3 I C D (tl ++ led)) (hs : (ax, ({ cls := .type "list", data := .seq vs.toArray k } : Obj)) ∈ led) :
    LCg.CompEnd h₀ L m s₁ I oI C oC D (LCg.lst ys) (LCg.SrcAt h₀ ax vs.toArray) (RdEnd q tl led) (.ref a) { s₁ with heap := h', toks := tk } := by
  have hna' := ne_upA hna (Nat.le_refl a)
  refine LCg.CompEnd.intro F N ((a, tp q.1 q.2 t u n) :: (tl ++ led)) ?_ ⟨⟨Ne.symm (hna' (I, oI) (by simp)), Ne.symm (hna' (C, oC) (by simp)), Ne.symm (hna' (D, LCg.lst ys) (by simp))⟩, off⟩ (.inr ⟨_, List.mem_cons_of_mem _ (List.mem_append_right _ hs), rfl, _, rfl⟩) ⟨a, t, u, n, rfl, rfl, fun q hq => hna' q (by simp [hq])⟩
  intro p hp
  simp only [List.mem_cons] at hp ⊢
  rcases hp with h | h | h | h | h <;> simp only [h, true_or, or_true]
end
/-- no tuple -/
def NT (x : Addr × Obj) : Prop := x.2.cls ≠ .type "tuple" ∨ ∃ v, x.2.data = .cell v
theorem PtIn.off {l l' : Led} {v : Value} {p : Pt} (h : PtIn l v p) (s : ∀ x ∈ l, x ∈ l' ∨ NT x) : PtIn l' v p := by
  obtain ⟨a, t, u, n, e, m⟩ := h
  exact ⟨a, t, u, n, e, (s _ m).resolve_right fun q => q.elim (fun q => q rfl) fun ⟨v, q⟩ => nomatch q⟩
theorem renormG {h₀ h : Heap} {L : Addr} {y1 y2 y3 y4 y5 y6 y7 y8 y9 y10 y11 y12 y13 y14 y15 y16 y17 y18 y19 y20 : Addr × Obj} {bs : Led} (N : News h₀ L h (y1 :: y2 :: y3 :: y4 :: y5 :: y6 :: y7 :: y8 :: y9 :: y10 :: y11 :: y12 :: y13 :: y14 :: y15 :: y16 :: y17 :: y18 :: y19 :: y20 :: bs))
    (k9 : ∀ p ∈ [y1, y2, y3, y4, y5, y6, y8, y10, y11, y12, y13, y14, y15, y19, y20], p.1 ≠ y9.1) (k16 : ∀ p ∈ [y1, y2, y3, y4, y5, y6, y8, y10, y11, y12, y13, y14, y15, y19, y20], p.1 ≠ y16.1) (k18 : ∀ p ∈ [y1, y2, y3, y4, y5, y6, y8, y10, y11, y12, y13, y14, y15, y19, y20], p.1 ≠ y18.1) (b9 : ∀ p ∈ bs, p.1 ≠ y9.1) (b16 : ∀ p ∈ bs, p.1 ≠ y16.1) (b18 : ∀ p ∈ bs, p.1 ≠ y18.1) :
    ∃ bs3, News h₀ L h (y9 :: y7 :: y16 :: y17 :: y18 :: bs3) ∧ (∀ p ∈ [y1, y2, y3, y4, y5, y6, y8, y10, y11, y12, y13, y14, y15, y19, y20], p ∈ bs3) ∧ (∀ p ∈ bs, p ∈ bs3) ∧ (∀ p ∈ bs3, p.1 ≠ y9.1) ∧ (∀ p ∈ bs3, p.1 ≠ y16.1) ∧ (∀ p ∈ bs3, p.1 ≠ y18.1) := by
  refine ⟨[y1, y2, y3, y4, y5, y6, y8, y10, y11, y12, y13, y14, y15, y19, y20] ++ bs, con_drop N fun p hp => ?_, fun p hp => List.mem_append_left _ hp, fun p hp => List.mem_append_right _ hp, all_app k9 b9, all_app k16 b16, all_app k18 b18⟩
  simp only [List.mem_cons, List.mem_append, List.not_mem_nil, or_false] at hp ⊢
  rcases hp with h | h | h | h | h | h | h
  all_goals try (simp only [h, true_or, or_true]; done)
  rcases h with h | h | h | h | h | h | h | h | h | h | h | h | h | h | h <;> simp only [h, true_or, or_true]
theorem renormH {h₀ h : Heap} {L : Addr} {y1 y2 y3 y4 y5 : Addr × Obj} {tl bs : Led} (N : News h₀ L h (tl ++ y1 :: y2 :: y3 :: y4 :: y5 :: bs)) (ot : ∀ p ∈ tl, AllLt p.1 (y1 :: y2 :: y3 :: y4 :: y5 :: bs))
    (k1 : ∀ p ∈ bs, p.1 ≠ y1.1) (k3 : ∀ p ∈ bs, p.1 ≠ y3.1) (k5 : ∀ p ∈ bs, p.1 ≠ y5.1) (c1 : NT y1) (c2 : NT y2) (c3 : NT y3) (c4 : NT y4) (c5 : NT y5) :
    ∃ bs4, News h₀ L h (y1 :: y2 :: y3 :: y4 :: y5 :: bs4) ∧ (∀ p ∈ tl, p ∈ bs4) ∧ (∀ p ∈ bs, p ∈ bs4) ∧ (∀ p ∈ bs4, p.1 ≠ y1.1) ∧ (∀ p ∈ bs4, p.1 ≠ y3.1) ∧ (∀ p ∈ bs4, p.1 ≠ y5.1) ∧ ∀ v p, PtIn (tl ++ y1 :: y2 :: y3 :: y4 :: y5 :: bs) v p → PtIn bs4 v p := by
  refine ⟨tl ++ bs, con_drop N fun p hp => ?_, fun p hp => List.mem_append_left _ hp, fun p hp => List.mem_append_right _ hp, all_app (fun p hp => Nat.ne_of_gt (ot p hp).1) k1, all_app (fun p hp => Nat.ne_of_gt (ot p hp).2.2.1) k3, all_app (fun p hp => Nat.ne_of_gt (ot p hp).2.2.2.2.1) k5, fun v p h => h.off fun x hx => ?_⟩
  · simp only [List.mem_cons, List.mem_append] at hp ⊢
    rcases hp with h | h | h | h | h | h | h <;> simp only [h, true_or, or_true]
  · simp only [List.mem_cons, List.mem_append] at hx ⊢
    rcases hx with h | h | h | h | h | h | h
    · exact .inl (.inl h)
    · exact .inr (by rw [h]; exact c1)
    · exact .inr (by rw [h]; exact c2)
    · exact .inr (by rw [h]; exact c3)
    · exact .inr (by rw [h]; exact c4)
    · exact .inr (by rw [h]; exact c5)
    · exact .inl (.inr h)
theorem pt_gb {gt bs : Led} {y0 y1 y2 y3 y4 y5 y6 : Addr × Obj} {v : Value} {p : Pt} (h : PtIn (y0 :: (gt ++ y1 :: y2 :: y3 :: y4 :: y5 :: y6 :: bs)) v p) (c0 : NT y0) (c1 : NT y1) (c2 : NT y2) (c3 : NT y3) (c4 : NT y4) (c5 : NT y5) (c6 : NT y6) : PtIn (gt ++ bs) v p :=
  h.off fun x hx => by
    simp only [List.mem_cons, List.mem_append] at hx ⊢
    rcases hx with h | h | h | h | h | h | h | h | h
    · exact .inr (by rw [h]; exact c0)
    · exact .inl (.inl h)
    · exact .inr (by rw [h]; exact c1)
    · exact .inr (by rw [h]; exact c2)
    · exact .inr (by rw [h]; exact c3)
    · exact .inr (by rw [h]; exact c4)
    · exact .inr (by rw [h]; exact c5)
    · exact .inr (by rw [h]; exact c6)
    · exact .inl (.inr h)
theorem nt_list {a : Addr} {o : Obj} (h : o.cls = .type "list") : NT (a, o) := .inl (by show o.cls ≠ _; rw [h]; decide)
theorem nt_dict {a : Addr} {o : Obj} (h : o.cls = .type "dict") : NT (a, o) := .inl (by show o.cls ≠ _; rw [h]; decide)
theorem nt_inst {a c d : Addr} : NT (a, instObj c d) := .inl (fun h => by cases h)
theorem nt_cell {a : Addr} {o : Obj} {v : Option Value} (h : o.data = .cell v) : NT (a, o) := .inr ⟨v, h⟩
theorem renormE {h₀ h : Heap} {L : Addr} {gt bs : Led} {y1 y2 y3 y4 y5 z1 z2 z3 z4 z5 z6 : Addr × Obj} (N : News h₀ L h (y1 :: y2 :: y3 :: y4 :: y5 :: (gt ++ z1 :: z2 :: z3 :: z4 :: z5 :: z6 :: bs))) : ∃ bs5, News h₀ L h bs5 ∧ y3 ∈ bs5 ∧ (∀ p ∈ gt ++ bs, p ∈ bs5) ∧ ∀ p ∈ bs, p ∈ bs5 :=
  ⟨_, N, by simp, fun p hp => by rcases List.mem_append.mp hp with h | h <;> simp [h], fun p hp => by simp [hp]⟩
theorem uq_ends {f : Pt → Pt} {a z : Pt} {l : List Pt} (hl : l ≠ []) (hz : ∀ o, l.getLastD o = z) : (unq [] ((a :: l).map f)).head? = some (f a) ∧ (unq [] ((a :: l).map f)).getLast? = some (f z) := by
  constructor
  · show (unq (if ([] : List Pt).getLast? = some (f a) then [] else [] ++ [f a]) (l.map f)).head? = _
    rw [if_neg (by simp)]
    exact unq_head _ _ (f a) [] rfl
  · have e := List.dropLast_concat_getLast hl
    have h2 : l.getLast hl = z := by
      have := hz a
      rw [List.getLastD_eq_getLast?, List.getLast?_eq_some_getLast hl] at this
      exact this
    rw [← e, h2, ← List.cons_append, List.map_append]
    exact unq_last _ _ _
theorem all2_ends {l : Led} {vs : List Value} {qs : List Pt} {a z : Pt} (h : All2 (PtIn l) vs qs) (ha : qs.head? = some a) (hz : qs.getLast? = some z) :
    ∃ b0 r t u n b1 t' u' n', vs = .ref b0 :: r ∧ (b0, tp a.1 a.2 t u n) ∈ l ∧ vs.getLast? = some (.ref b1) ∧ (b1, tp z.1 z.2 t' u' n') ∈ l := by
  have hne : qs ≠ [] := by rintro rfl; simp at ha
  obtain ⟨b1, t', u', n', e1, m1⟩ := all2_last h hne
  rw [List.getLastD_eq_getLast?, hz] at m1
  rcases qs with _ | ⟨q, qs⟩
  · exact absurd rfl hne
  rcases vs with _ | ⟨v, r⟩
  · exact h.elim
  obtain ⟨⟨b0, t, u, n, e0, m0⟩, _⟩ := h
  have : q = a := by simpa using ha
  subst this e0
  exact ⟨b0, r, t, u, n, b1, t', u', n', rfl, m0, e1, m1⟩
section
variable {prog : Program} {w : World} {A : Around} {E : Value → Shared → Prop} {s : Shared}
theorem tup_last {value slice : PySem.Expr} {t : Addr} {l : List Value} {u : Tok} {x : Value} {Q : Value → Shared → Prop} (ht : IsTup s.heap t l.toArray) (hx : l.getLast? = some x) (hz : l.length ≤ 1000) (h : Q x s)
    (hs : subscripted slice false (.ref t) (.int (-1) u) = operate [.ref t, .int (-1) u] (getItem (.ref t) (.int (-1) u)) := by with_unfolding_all rfl) : wpAny (model prog w) A (subscriptTail value slice (.ref t) (.int (-1) u)) Q E s := by
  have h1 : l ≠ [] := by rintro rfl; simp at hx
  have h2 : 0 < l.length := List.length_pos_iff.mpr h1
  refine item_tupleT ht (by decide) (by decide) (j := l.length - 1) ?_ (by rw [← List.getLast?_eq_getElem?]; exact hx) h hs
  unfold seqIndex?
  simp only [show ((-1 : Int) < 0) from by decide, if_true]
  rw [if_pos (by simp only [Bool.and_eq_true, decide_eq_true_eq]; omega)]
  exact congrArg some (by omega)
theorem tup_first {value slice : PySem.Expr} {t : Addr} {x : Value} {r : List Value} {u : Tok} {Q : Value → Shared → Prop} (ht : IsTup s.heap t (List.toArray (x :: r))) (h : Q x s)
    (hs : subscripted slice false (.ref t) (.int 0 u) = operate [.ref t, .int 0 u] (getItem (.ref t) (.int 0 u)) := by with_unfolding_all rfl) : wpAny (model prog w) A (subscriptTail value slice (.ref t) (.int 0 u)) Q E s :=
  item_tupleT ht (by decide) (by decide) (j := 0) (idx0 _) rfl h hs
theorem tup_len {t : Addr} {l : List Value} {Q : Value → Shared → Prop} (ht : IsTup s.heap t l.toArray) (hz : l.length ≤ 1000) (h : ∀ t tk, Q (.int (l.length : Int) t) { s with toks := tk }) : wpAny (model prog w) A (call (.builtin "len") [.ref t]) Q E s := by
  refine PyProof.Rows.len_tuple ht (by rw [List.size_toArray]; omega) ?_
  rw [List.size_toArray]
  exact h _ _
open PySem.SeqAt in
theorem eq_due {l1 l2 a b c d : Addr} {x1 y1 x2 y2 x3 y3 x4 y4 : Int} {t1 u1 t2 u2 t3 u3 t4 u4 : Tok} {n1 n2 n3 n4 : Nat} {Q : Value → Shared → Prop} (h1 : s.heap.IsList l1 #[.ref a, .ref b]) (h2 : s.heap.IsList l2 #[.ref c, .ref d])
    (ha : s.heap.get? a = some (tp x1 y1 t1 u1 n1)) (hb : s.heap.get? b = some (tp x2 y2 t2 u2 n2)) (hc : s.heap.get? c = some (tp x3 y3 t3 u3 n3)) (hd : s.heap.get? d = some (tp x4 y4 t4 u4 n4)) (e1 : x1 = x3) (e2 : y1 = y3) (e3 : x2 = x4) (e4 : y2 = y4)
    (ne1 : a ≠ c) (ne2 : b ≠ d) (hu : A.units < cLine) (hu1 : A.in1.units < cLine) (h : Q (.bool true) s) : wpAny (model prog w) A (compareOp .Eq (.ref l1) (.ref l2)) Q E s := by
  subst e1 e2 e3 e4
  have pr : ∀ {p q : Addr} {x y : Int} {t u t' u' : Tok} {n n' : Nat}, p ≠ q → s.heap.get? p = some (tp x y t u n) → s.heap.get? q = some (tp x y t' u' n') → EqAt A.in1 s (.ref p) (.ref q) true := by
    intro p q x y t u t' u' n n' hne hp hq
    refine EqAt.of_refs hne (RcAt.tuples (l := p) (b := q) (items := #[.int x t, .int y u]) (items2 := #[.int x t', .int y u']) (e := fun _ => true) ⟨_, hp, rfl, _, rfl⟩ ⟨_, hq, rfl, _, rfl⟩ hu1 (fun j h1 h2 => ?_))
    have h3 : j < 2 := h1
    match j, h3 with
    | 0, _ => have := EqAt.int_int (A := A.in1.in1) (s := s) x t x t'; simpa using this
    | 1, _ => have := EqAt.int_int (A := A.in1.in1) (s := s) y u y u'; simpa using this
  refine cmp_ofEq (RcAt.lists (e := fun _ => true) h1 h2 rfl hu (fun j g1 g2 => ?_) prog w E Q h)
  have h3 : j < 2 := g1
  match j, h3 with
  | 0, _ => exact pr ne1 ha hc
  | 1, _ => exact pr ne2 hb hd
end
theorem grains_eq {n : Int} : (2 * ((n + 1) / 2) + 4) / (2 * 4) = (2 * (n + 1).fdiv 2 + 4).fdiv 8 := by
  rw [Int.fdiv_eq_ediv_of_nonneg _ (by decide), Int.fdiv_eq_ediv_of_nonneg _ (by decide)]
  rfl
theorem ends9 {l : Led} {fv9 : List Value} {p1 p2 p3 : Pt} (hU : All2 (PtIn l) fv9 (unq [] ((fineP p1 :: fsp 8 2 [fineP p1, fineP p2, fineP p3]).map (rnd 4)))) :
    ∃ b0 r t u n b1 t' u' n', fv9 = Value.ref b0 :: r ∧ (b0, tp (rnd 4 (fineP p1)).1 (rnd 4 (fineP p1)).2 t u n) ∈ l ∧ fv9.getLast? = some (.ref b1) ∧ (b1, tp (rnd 4 (fineP p3)).1 (rnd 4 (fineP p3)).2 t' u' n') ∈ l := by
  have hw : ((2 : Nat) = 2 ∧ ([fineP p1, fineP p2, fineP p3]).length = 3) ∨ ((2 : Nat) = 3 ∧ ([fineP p1, fineP p2, fineP p3]).length = 4) := .inl ⟨rfl, rfl⟩
  have h1 := fsp_ne (b := 8) (k := 2) hw
  have h2 : ∀ o, (fsp 8 2 [fineP p1, fineP p2, fineP p3]).getLastD o = fineP p3 := fun o => (fsp_last (b := 8) (k := 2) hw o).trans rfl
  generalize fsp 8 2 [fineP p1, fineP p2, fineP p3] = q at *
  obtain ⟨e1, e2⟩ := uq_ends (f := rnd 4) (a := fineP p1) h1 h2
  exact all2_ends hU e1 e2
end Fl
namespace Fl
theorem calm_K_uniq : True := by
  w_top off
  trivial
local macro_rules | `(tactic| k_mem) => `(tactic| (show (_ : Addr × Obj) ∈ (_ : List (Addr × Obj)); ktr_member))
local macro_rules | `(tactic| k_mem) => `(tactic| (show (_ : Addr × Obj) ∈ (_ ++ _ : List (Addr × Obj)); first | (refine List.mem_append.mpr (Or.inl ?_); k_mem) | (refine List.mem_append.mpr (Or.inr ?_); k_mem)))
local macro_rules | `(tactic| k_all) => `(tactic| first | (with_reducible assumption) | exact ne_upA (by assumption) (Nat.le_refl _) | exact ne_up (by assumption) (by omega))
local macro_rules | `(tactic| k_lt $h:ident) => `(tactic| (replace $h := allLt_of $h; (simp only [AllLt, allLt_app, and_assoc, and_true] at $h:ident); (repeat (have _ := And.left $h; replace $h := And.right $h))))
local macro_rules | `(tactic| k_ne) => `(tactic| (refine neN ?_; (try dsimp only); first | with_reducible assumption | exact Ne.symm (by with_reducible assumption) | omega))
local macro_rules | `(tactic| walk_at "call ref") => `(tactic| (k_here; k_dflt (first
  | (refine' call_cls ?k1 ?k2 ?k3 ?k4 ?k5 ?k6 ?_; (case k1 => k_asm); (case k2 => k_asm); (case k3 => k_asm); (case k4 => k_is); (case k5 => k_is); (case k6 => k_is); k_whole; intro x' d' h' F' N' l1 l2; (try k_lt l1); (try k_lt2 l2); (try k_sweep); (first | (refine' code_def ?k1 ?k2 ?k3 ?k4 ?k5 ?kA ?kF ?kK ?k6 ?k7 ?k8 ?k9 ?kB ?_ ?c2 ?c3 ?c4 ?c5; (case kA => exact rfl); (case kF => exact rfl); (case kK => first | exact rfl | assumption); (case k1 => k_asm); (case k2 => k_asm); (case k3 => k_asm); (case k4 => k_asm); (case k5 => k_asm); (case k6 => k_is); (case k7 => k_is); (case k8 => ktr_room); (case k9 => first | exact BindsTo.of_eq rfl | exact binds_K (by k_in) rfl (by k_is) rfl rfl rfl); (case c5 => decide); (case kB => exact locs rfl); (case c2 => exact rfl); (case c3 => exact rfl); (case c4 => exact rfl); k_whole; intro g' L' h' FG' F' N' B' X' T'; (try dsimp only); (try k_fold)) | (refine' code_defC ?k1 ?k2 ?k3 ?k4 ?k5 ?kA ?kF ?kK ?k6 ?k7 ?k8 ?k9 ?kB ?kD ?_ ?c2 ?c3 ?c4; (case kA => exact rfl); (case kF => exact rfl); (case kK => first | exact rfl | assumption); (case k1 => k_asm); (case k2 => k_asm); (case k3 => k_asm); (case k4 => k_asm); (case k5 => k_asm); (case k6 => k_is); (case k7 => k_is); (case k8 => ktr_room); (case k9 => first | exact BindsTo.of_eq rfl | exact binds_K (by k_in) rfl (by k_is) rfl rfl rfl); (case kB => exact rfl); (case kD => decide +kernel); (case c2 => exact rfl); (case c3 => exact rfl); (case c4 => exact rfl); k_whole; intro g' L' h' tk' cells' FG' F' N' Y' B' X' T' l1; (try k_lt l1); k_cells Y'; (try simp only [List.cons_append, List.nil_append] at N'); (try dsimp only); (try k_fold))))
  | (refine' call_meth ?k1 ?k2 ?_; (case k1 => k_asm); (case k2 => k_mem); k_whole; (first | (refine' code_def ?k1 ?k2 ?k3 ?k4 ?k5 ?kA ?kF ?kK ?k6 ?k7 ?k8 ?k9 ?kB ?_ ?c2 ?c3 ?c4 ?c5; (case kA => exact rfl); (case kF => exact rfl); (case kK => first | exact rfl | assumption); (case k1 => k_asm); (case k2 => k_asm); (case k3 => k_asm); (case k4 => k_asm); (case k5 => k_asm); (case k6 => k_is); (case k7 => k_is); (case k8 => ktr_room); (case k9 => first | exact BindsTo.of_eq rfl | exact binds_K (by k_in) rfl (by k_is) rfl rfl rfl); (case c5 => decide); (case kB => exact locs rfl); (case c2 => exact rfl); (case c3 => exact rfl); (case c4 => exact rfl); k_whole; intro g' L' h' FG' F' N' B' X' T'; (try dsimp only); (try k_fold)) | (refine' code_defC ?k1 ?k2 ?k3 ?k4 ?k5 ?kA ?kF ?kK ?k6 ?k7 ?k8 ?k9 ?kB ?kD ?_ ?c2 ?c3 ?c4; (case kA => exact rfl); (case kF => exact rfl); (case kK => first | exact rfl | assumption); (case k1 => k_asm); (case k2 => k_asm); (case k3 => k_asm); (case k4 => k_asm); (case k5 => k_asm); (case k6 => k_is); (case k7 => k_is); (case k8 => ktr_room); (case k9 => first | exact BindsTo.of_eq rfl | exact binds_K (by k_in) rfl (by k_is) rfl rfl rfl); (case kB => exact rfl); (case kD => decide +kernel); (case c2 => exact rfl); (case c3 => exact rfl); (case c4 => exact rfl); k_whole; intro g' L' h' tk' cells' FG' F' N' Y' B' X' T' l1; (try k_lt l1); k_cells Y'; (try simp only [List.cons_append, List.nil_append] at N'); (try dsimp only); (try k_fold))))
  | (refine wpAny_call ?_; (first | (refine' code_def ?k1 ?k2 ?k3 ?k4 ?k5 ?kA ?kF ?kK ?k6 ?k7 ?k8 ?k9 ?kB ?_ ?c2 ?c3 ?c4 ?c5; (case kA => exact rfl); (case kF => exact rfl); (case kK => first | exact rfl | assumption); (case k1 => k_asm); (case k2 => k_asm); (case k3 => k_asm); (case k4 => k_asm); (case k5 => k_asm); (case k6 => k_is); (case k7 => k_is); (case k8 => ktr_room); (case k9 => first | exact BindsTo.of_eq rfl | exact binds_K (by k_in) rfl (by k_is) rfl rfl rfl); (case c5 => decide); (case kB => exact locs rfl); (case c2 => exact rfl); (case c3 => exact rfl); (case c4 => exact rfl); k_whole; intro g' L' h' FG' F' N' B' X' T'; (try dsimp only); (try k_fold)) | (refine' code_defC ?k1 ?k2 ?k3 ?k4 ?k5 ?kA ?kF ?kK ?k6 ?k7 ?k8 ?k9 ?kB ?kD ?_ ?c2 ?c3 ?c4; (case kA => exact rfl); (case kF => exact rfl); (case kK => first | exact rfl | assumption); (case k1 => k_asm); (case k2 => k_asm); (case k3 => k_asm); (case k4 => k_asm); (case k5 => k_asm); (case k6 => k_is); (case k7 => k_is); (case k8 => ktr_room); (case k9 => first | exact BindsTo.of_eq rfl | exact binds_K (by k_in) rfl (by k_is) rfl rfl rfl); (case kB => exact rfl); (case kD => decide +kernel); (case c2 => exact rfl); (case c3 => exact rfl); (case c4 => exact rfl); k_whole; intro g' L' h' tk' cells' FG' F' N' Y' B' X' T' l1; (try k_lt l1); k_cells Y'; (try simp only [List.cons_append, List.nil_append] at N'); (try dsimp only); (try k_fold)))))))
local macro_rules | `(tactic| walk_at "subscriptTail") => `(tactic| (k_here; (with_reducible show wpAny _ _ (subscriptTail _ _ (Value.ref _) (Value.int _ _)) _ _ _); k_dflt (first
  | (refine' item_tupleT ?t ?a ?b ?c ?d ?_; (case t => exact News.isTup (by k_asm) (by k_mem)); (case a => decide); (case b => decide); (case c => rfl); (case d => rfl); k_whole)
  | (refine' item_listL ?t ?a ?b ?c ?_; (case t => exact News.isList (by k_asm) (by k_mem)); (case a => decide); (case b => decide); (case c => rfl); k_whole))))
local macro_rules | `(tactic| walk_at "subscriptTail Name Name ref int") => `(tactic| (k_here; (with_reducible show wpAny _ _ (subscriptTail _ _ (Value.ref _) (Value.int _ _)) _ _ _); k_dflt (first
  | (refine' item_tupleT ?t ?a ?b ?c ?d ?_; (case t => exact News.isTup (by k_asm) (by k_mem)); (case a => decide); (case b => decide); (case c => rfl); (case d => rfl); k_whole)
  | (refine' item_listL ?t ?a ?b ?c ?_; (case t => exact News.isList (by k_asm) (by k_mem)); (case a => decide); (case b => decide); (case c => rfl); k_whole))))
local macro_rules | `(tactic| walk_at "subscriptTail Name Constant ref int") => `(tactic| (k_here; (with_reducible show wpAny _ _ (subscriptTail _ _ (Value.ref _) (Value.int _ _)) _ _ _); k_dflt (first
  | (refine' item_tupleT ?t ?a ?b ?c ?d ?_; (case t => exact News.isTup (by k_asm) (by k_mem)); (case a => decide); (case b => decide); (case c => rfl); (case d => rfl); k_whole)
  | (refine' item_listL ?t ?a ?b ?c ?_; (case t => exact News.isList (by k_asm) (by k_mem)); (case a => decide); (case b => decide); (case c => rfl); k_whole))))
local macro_rules | `(tactic| walk_at "subscriptTail Name BinOp ref int") => `(tactic| (k_here; (with_reducible show wpAny _ _ (subscriptTail _ _ (Value.ref _) (Value.int _ _)) _ _ _); k_dflt (first
  | (refine' item_tupleT ?t ?a ?b ?c ?d ?_; (case t => exact News.isTup (by k_asm) (by k_mem)); (case a => decide); (case b => decide); (case c => rfl); (case d => rfl); k_whole)
  | (refine' item_listL ?t ?a ?b ?c ?_; (case t => exact News.isList (by k_asm) (by k_mem)); (case a => decide); (case b => decide); (case c => rfl); k_whole))))
local macro_rules | `(tactic| walk_at "call builtin:list.append") => `(tactic| (k_here; (with_reducible show wpAny _ _ (call (Value.builtin _) [Value.ref _, _]) _ _ _); k_dflt (refine' append_K ?k1 ?k2 ?k3 ?_ ?z; (case k1 => k_asm); (case k2 => k_asm); (case k3 => k_upd); (case z => first | exact Nat.le_of_ble_eq_true rfl | (rw [sizeLine_eq]; simp only [List.size_toArray, Array.size_push]; omega) | size_fits); k_whole); intro h' F' N'; (try k_sweep)))
local macro_rules | `(tactic| walk_at "compareOp Eq ref ref") => `(tactic| (k_here; (with_reducible show wpAny _ _ (compareOp CmpOp.Eq (Value.ref _) (Value.ref _)) _ _ _); k_dflt (first
  | refine eq_empty (News.isList (by k_asm) (by k_mem)) (News.isList (by k_asm) (by k_mem)) (by ktr_units) ?_
  | refine eq_full (News.isList (by k_asm) (by k_mem)) (News.isList (by k_asm) (by k_mem)) (by first | decide | simp; done) (by ktr_units) ?_)))
local macro_rules | `(tactic| walk_at "compareOp NotEq ref ref") => `(tactic| (k_here; k_dflt (refine' ne_pts ?a ?b ?c ?_; (case a => exact News.get (by k_asm) (by k_mem)); (case b => exact News.get (by k_asm) (by k_mem)); (case c => ktr_units); k_whole)))
local macro_rules | `(tactic| walk_at "subscriptTail") => `(tactic| (k_here; (with_reducible show wpAny _ _ (subscriptTail _ _ (Value.ref _) (Value.int (-1) _)) _ _ _); k_dflt (refine' item_last ?a ?b ?_; (case a => exact News.isList (by k_asm) (by k_mem)); (case b => with_reducible assumption); k_whole)))
local macro_rules | `(tactic| walk_at "subscriptTail Name UnaryOp ref int") => `(tactic| (k_here; (with_reducible show wpAny _ _ (subscriptTail _ _ (Value.ref _) (Value.int (-1) _)) _ _ _); k_dflt (refine' item_last ?a ?b ?_; (case a => exact News.isList (by k_asm) (by k_mem)); (case b => with_reducible assumption); k_whole)))
local macro_rules | `(tactic| walk_at "subscriptTail Name Constant ref int") => `(tactic| (k_here; (with_reducible show wpAny _ _ (subscriptTail _ _ (Value.ref _) (Value.int (-1) _)) _ _ _); k_dflt (refine' item_last ?a ?b ?_; (case a => exact News.isList (by k_asm) (by k_mem)); (case b => with_reducible assumption); k_whole)))
local macro_rules | `(tactic| walk_at "exec For Name Name cons nil") => `(tactic| (k_here; (rename Fr _ _ _ _ => lF'); (with_unfolding_all refine' For_turns lF' ?_); k_whole))

theorem rnd_con {w : World} {mean mg mb} {news : Led} {a : Addr} {x y : Int} {t u tm : Tok} {n : Nat} (h : (a, tp x y t u n) ∈ news) :
    Con w mean mg mb 157 news [.ref a, .int 4 tm] 3 30 (fun tl r => ∃ a t u n, r = .ref a ∧ tl = [(a, tp (rnd 4 (x, y)).1 (rnd 4 (x, y)).2 t u n)]) := by
  (try unfold Con)
  unfold ConM
  k_fill
  intro dp un gd cn cs a ccd cl outer A₀ base h₀ L m s Q E B F X N T hk hdp hu hret
  refine wpAny_call ?_
  k_dflt ktr_enter
  k_steps
  all_goals (refine hret _ _ _ _ (by k_asm) (by k_asm) ⟨[_], rfl, con_abv1 (by ktn_lt), _, _, _, _, rfl, (by simp only [rnd, Int.fdiv_eq_ediv_of_nonneg _ (show (0 : Int) ≤ 2 * 4 by decide)]; rfl)⟩)
theorem uniq_con {w : World} {mean mg mb} {news : Led} {aS : Addr} {nS : Nat} {vs : List Value} {ps : List Pt} (hS : (aS, ({ cls := .type "list", data := .seq vs.toArray nS } : Obj)) ∈ news) (hv : All2 (PtIn news) vs ps) (hl : ps.length ≤ 20) :
    Con w mean mg mb 164 news [.ref aS] 5 60 (fun tl r => ∃ a n fv, r = .ref a ∧ tl = [(a, ({ cls := .type "list", data := .seq (List.toArray fv) n } : Obj))] ∧ All2 (PtIn news) fv (unq [] ps)) := by
  (try unfold Con)
  unfold ConM
  k_fill
  intro dp un gd cn cs a ccd cl outer A₀ base h₀ L m s Q E B F X N T hk hdp hu hret
  refine wpAny_call ?_
  k_dflt ktr_enter
  (repeat' (first | (k_unfold; (try dsimp only)) | (k_end; wrow_close) | ((fail_if_success (with_reducible show wpAny _ _ (pyIter (Value.ref _)) _ _ _)); first | walk1 | (dsimp only; walk1)) | (leave1; walk_say "STEP leave1"; try dsimp only) | fail "no step"))
  (rename Fr _ _ _ _ => lF); (rename News _ _ _ _ => lN)
  have st := Uq.start lF lN hv
  refine for_items (by rfl) (by rfl) lF lN (by k_mem) _ st ?tu ?fi
  case tu =>
    intro I hI
    rw [List.forall_mem_cons] at hI
    obtain ⟨i1, i2⟩ := hI
    clear st lF lN
    rintro v r m' news' h tk oI hcI ⟨fv, fq, qs, n, ⟨⟨u, rfl⟩, rfl, hf, hv', ha, hlen⟩⟩ F2 N2
    rcases qs with _ | ⟨q, qs⟩
    · exact hv'.elim
    obtain ⟨⟨aq, tq, uq, nq, rfl, mq⟩, hv'⟩ := hv'
    have hfl := hf.length
    rw [List.length_cons] at hlen
    rcases List.eq_nil_or_concat fv with rfl | ⟨xs, v, rfl⟩
    · rcases fq with _ | ⟨_, _⟩
      · (repeat' (first | (k_unfold; (try dsimp only)) | (k_end; wrow_close) | ((fail_if_success (with_reducible show UnrPostW _ _ _ _ _ _ _ _)); first | walk1 | (dsimp only; walk1)) | (leave1; walk_say "STEP leave1"; try dsimp only) | fail "no step"))
        all_goals (exact Uq.add (fv := []) (fq := []) (p := q) (by k_asm) (by k_asm) ⟨aq, tq, uq, nq, rfl, mq⟩ i2 i1 hS hf hv' ha hlen (by simp))
      · exact hf.elim
    · rw [List.concat_eq_append] at *
      obtain ⟨fq', fl, rfl, hf1, ⟨al, tl, ul, nl, rfl, ml⟩⟩ := All2.snoc hf
      have hgl : (xs ++ [Value.ref al]).getLast? = some (Value.ref al) := by simp
      (repeat' (first | (k_unfold; (try dsimp only)) | (k_end; wrow_close) | ((fail_if_success (with_reducible show UnrPostW _ _ _ _ _ _ _ _)); first | walk1 | (dsimp only; walk1)) | (leave1; walk_say "STEP leave1"; try dsimp only) | fail "no step"))
      all_goals (first
        | exact Uq.add (fv := xs ++ [Value.ref al]) (p := q) (by k_asm) (by k_asm) ⟨aq, tq, uq, nq, rfl, mq⟩ i2 i1 hS hf hv' ha hlen (last_ne (by assumption))
        | exact Uq.keep (fv := xs ++ [Value.ref al]) (p := q) (by k_asm) (by k_asm) i2 i1 hS hf hv' ha hlen (last_eq (by first | assumption | exact eq_false_of_ne_true (by assumption))))
  case fi =>
    rintro m' news' h tk ⟨fv, fq, qs, n, ⟨⟨u, rfl⟩, rfl, hf, hv', ha, hlen⟩⟩ F2 N2
    rcases qs with _ | ⟨q, qs⟩
    · k_steps
      all_goals (exact hret _ _ _ _ (by k_asm) (by k_asm) ⟨[_], rfl, con_abv1 (by first | assumption | exact allLt_iff.mpr (by assumption)), _, n, fv, rfl, rfl, by rw [← ha]; exact hf⟩)
    · exact hv'.elim
end Fl
namespace Fl
theorem calm_K_lawfr : True := by
  w_top off
  trivial
local macro_rules | `(tactic| k_mem) => `(tactic| (show (_ : Addr × Obj) ∈ (_ : List (Addr × Obj)); ktr_member))
local macro_rules | `(tactic| k_mem) => `(tactic| (show (_ : Addr × Obj) ∈ (_ ++ _ : List (Addr × Obj)); first | (refine List.mem_append.mpr (Or.inl ?_); k_mem) | (refine List.mem_append.mpr (Or.inr ?_); k_mem)))
local macro_rules | `(tactic| k_all) => `(tactic| first | (with_reducible assumption) | exact ne_upA (by assumption) (Nat.le_refl _) | exact ne_up (by assumption) (by omega))
local macro_rules | `(tactic| k_lt $h:ident) => `(tactic| (replace $h := allLt_of $h; (simp only [AllLt, allLt_app, and_assoc, and_true] at $h:ident); (repeat (have _ := And.left $h; replace $h := And.right $h))))
local macro_rules | `(tactic| k_ne) => `(tactic| (refine neN ?_; (try dsimp only); first | with_reducible assumption | exact Ne.symm (by with_reducible assumption) | omega))
local macro_rules | `(tactic| walk_at "call ref") => `(tactic| (k_here; k_dflt (first
  | (refine' call_cls ?k1 ?k2 ?k3 ?k4 ?k5 ?k6 ?_; (case k1 => k_asm); (case k2 => k_asm); (case k3 => k_asm); (case k4 => k_is); (case k5 => k_is); (case k6 => k_is); k_whole; intro x' d' h' F' N' l1 l2; (try k_lt l1); (try k_lt2 l2); (try k_sweep); (first | (refine' code_def ?k1 ?k2 ?k3 ?k4 ?k5 ?kA ?kF ?kK ?k6 ?k7 ?k8 ?k9 ?kB ?_ ?c2 ?c3 ?c4 ?c5; (case kA => exact rfl); (case kF => exact rfl); (case kK => first | exact rfl | assumption); (case k1 => k_asm); (case k2 => k_asm); (case k3 => k_asm); (case k4 => k_asm); (case k5 => k_asm); (case k6 => k_is); (case k7 => k_is); (case k8 => ktr_room); (case k9 => first | exact BindsTo.of_eq rfl | exact binds_K (by k_in) rfl (by k_is) rfl rfl rfl); (case c5 => decide); (case kB => exact locs rfl); (case c2 => exact rfl); (case c3 => exact rfl); (case c4 => exact rfl); k_whole; intro g' L' h' FG' F' N' B' X' T'; (try dsimp only); (try k_fold)) | (refine' code_defC ?k1 ?k2 ?k3 ?k4 ?k5 ?kA ?kF ?kK ?k6 ?k7 ?k8 ?k9 ?kB ?kD ?_ ?c2 ?c3 ?c4; (case kA => exact rfl); (case kF => exact rfl); (case kK => first | exact rfl | assumption); (case k1 => k_asm); (case k2 => k_asm); (case k3 => k_asm); (case k4 => k_asm); (case k5 => k_asm); (case k6 => k_is); (case k7 => k_is); (case k8 => ktr_room); (case k9 => first | exact BindsTo.of_eq rfl | exact binds_K (by k_in) rfl (by k_is) rfl rfl rfl); (case kB => exact rfl); (case kD => decide +kernel); (case c2 => exact rfl); (case c3 => exact rfl); (case c4 => exact rfl); k_whole; intro g' L' h' tk' cells' FG' F' N' Y' B' X' T' l1; (try k_lt l1); k_cells Y'; (try simp only [List.cons_append, List.nil_append] at N'); (try dsimp only); (try k_fold))))
  | (refine' call_meth ?k1 ?k2 ?_; (case k1 => k_asm); (case k2 => k_mem); k_whole; (first | (refine' code_def ?k1 ?k2 ?k3 ?k4 ?k5 ?kA ?kF ?kK ?k6 ?k7 ?k8 ?k9 ?kB ?_ ?c2 ?c3 ?c4 ?c5; (case kA => exact rfl); (case kF => exact rfl); (case kK => first | exact rfl | assumption); (case k1 => k_asm); (case k2 => k_asm); (case k3 => k_asm); (case k4 => k_asm); (case k5 => k_asm); (case k6 => k_is); (case k7 => k_is); (case k8 => ktr_room); (case k9 => first | exact BindsTo.of_eq rfl | exact binds_K (by k_in) rfl (by k_is) rfl rfl rfl); (case c5 => decide); (case kB => exact locs rfl); (case c2 => exact rfl); (case c3 => exact rfl); (case c4 => exact rfl); k_whole; intro g' L' h' FG' F' N' B' X' T'; (try dsimp only); (try k_fold)) | (refine' code_defC ?k1 ?k2 ?k3 ?k4 ?k5 ?kA ?kF ?kK ?k6 ?k7 ?k8 ?k9 ?kB ?kD ?_ ?c2 ?c3 ?c4; (case kA => exact rfl); (case kF => exact rfl); (case kK => first | exact rfl | assumption); (case k1 => k_asm); (case k2 => k_asm); (case k3 => k_asm); (case k4 => k_asm); (case k5 => k_asm); (case k6 => k_is); (case k7 => k_is); (case k8 => ktr_room); (case k9 => first | exact BindsTo.of_eq rfl | exact binds_K (by k_in) rfl (by k_is) rfl rfl rfl); (case kB => exact rfl); (case kD => decide +kernel); (case c2 => exact rfl); (case c3 => exact rfl); (case c4 => exact rfl); k_whole; intro g' L' h' tk' cells' FG' F' N' Y' B' X' T' l1; (try k_lt l1); k_cells Y'; (try simp only [List.cons_append, List.nil_append] at N'); (try dsimp only); (try k_fold))))
  | (refine wpAny_call ?_; (first | (refine' code_def ?k1 ?k2 ?k3 ?k4 ?k5 ?kA ?kF ?kK ?k6 ?k7 ?k8 ?k9 ?kB ?_ ?c2 ?c3 ?c4 ?c5; (case kA => exact rfl); (case kF => exact rfl); (case kK => first | exact rfl | assumption); (case k1 => k_asm); (case k2 => k_asm); (case k3 => k_asm); (case k4 => k_asm); (case k5 => k_asm); (case k6 => k_is); (case k7 => k_is); (case k8 => ktr_room); (case k9 => first | exact BindsTo.of_eq rfl | exact binds_K (by k_in) rfl (by k_is) rfl rfl rfl); (case c5 => decide); (case kB => exact locs rfl); (case c2 => exact rfl); (case c3 => exact rfl); (case c4 => exact rfl); k_whole; intro g' L' h' FG' F' N' B' X' T'; (try dsimp only); (try k_fold)) | (refine' code_defC ?k1 ?k2 ?k3 ?k4 ?k5 ?kA ?kF ?kK ?k6 ?k7 ?k8 ?k9 ?kB ?kD ?_ ?c2 ?c3 ?c4; (case kA => exact rfl); (case kF => exact rfl); (case kK => first | exact rfl | assumption); (case k1 => k_asm); (case k2 => k_asm); (case k3 => k_asm); (case k4 => k_asm); (case k5 => k_asm); (case k6 => k_is); (case k7 => k_is); (case k8 => ktr_room); (case k9 => first | exact BindsTo.of_eq rfl | exact binds_K (by k_in) rfl (by k_is) rfl rfl rfl); (case kB => exact rfl); (case kD => decide +kernel); (case c2 => exact rfl); (case c3 => exact rfl); (case c4 => exact rfl); k_whole; intro g' L' h' tk' cells' FG' F' N' Y' B' X' T' l1; (try k_lt l1); k_cells Y'; (try simp only [List.cons_append, List.nil_append] at N'); (try dsimp only); (try k_fold)))))))
local macro_rules | `(tactic| walk_at "exec For Name List cons nil") => `(tactic| (k_here; (rename Fr _ _ _ _ => lF'); (with_unfolding_all refine' For_turns lF' ?_); k_whole))

theorem piece_val {n p : Int} (hn : -90 ≤ n ∧ n ≤ 90) (hp : 2 ≤ p ∧ p ≤ 24) (hd : p ∣ 24) (h : n.fmod p = 0) : Vl n (n.fdiv p) (Int.fdiv 24 p) := by
  rw [Int.fmod_eq_emod_of_nonneg _ (by omega)] at h
  rw [Int.fdiv_eq_ediv_of_nonneg _ (show 0 ≤ p by omega), Int.fdiv_eq_ediv_of_nonneg _ (show 0 ≤ p by omega)]
  obtain ⟨k, rfl⟩ := Int.dvd_of_emod_eq_zero h
  obtain ⟨c, hc⟩ := hd
  have e1 : p * k / p = k := Int.mul_ediv_cancel_left _ (by omega)
  have e2 : (24 : Int) / p = c := by rw [hc]; exact Int.mul_ediv_cancel_left _ (by omega)
  rw [e1, e2]
  have hc0 : 0 < c := by
    rcases Int.lt_trichotomy c 0 with q | q | q
    · have := Int.mul_neg_of_pos_of_neg (show 0 < p by omega) q; omega
    · subst q; omega
    · exact q
  have a1 := Int.mul_le_mul_of_nonneg_right (show 1 ≤ p by omega) (Int.le_of_lt hc0)
  refine ⟨by rw [hc]; grind, ⟨hc0, by omega⟩, ?_⟩
  have hk : k.natAbs ≤ (p * k).natAbs := by rw [Int.natAbs_mul]; exact Nat.le_mul_of_pos_left _ (by omega)
  omega
theorem whole_val {n : Int} (hn : -90 ≤ n ∧ n ≤ 90) : Vl n n 24 := ⟨rfl, by omega, hn⟩
theorem lawfr_con {w : World} {mean mg mb} {news : Led} {n : Int} {tn : Tok} (hn : -90 ≤ n ∧ n ≤ 90) :
    Con w mean mg mb 352 news [.int n tn] 5 60 (VRet n) := by
  (try unfold Con)
  unfold ConM
  k_fill
  intro dp un gd cn cs a ccd cl outer A₀ base h₀ L m s Q E B F X N T hk hdp hu hret
  refine wpAny_call ?_
  k_dflt ktr_enter
  (repeat' (first | (k_unfold; (try dsimp only)) | (k_end; wrow_close) | ((fail_if_success (with_reducible show wpAny _ _ (pyIter (Value.ref _)) _ _ _)); first | walk1 | (dsimp only; walk1)) | (leave1; walk_say "STEP leave1"; try dsimp only) | fail "no step"))
  (rename Fr _ _ _ _ => lF); (rename News _ _ _ _ => lN)
  refine for_items (by rfl) (by rfl) lF lN (by k_mem) _ (Pc.start lF lN) ?tu ?fi
  case tu =>
    intro I hI
    have hI' := hI
    rw [List.forall_mem_cons] at hI'
    obtain ⟨i1, i2⟩ := hI'
    rintro v r m' news' h tk oI hcI ⟨⟨u, rfl⟩, rfl, hv⟩ F2 N2
    clear lF lN
    obtain ⟨p, t, rfl, hp, hd⟩ := hv v List.mem_cons_self
    have hp1 := hp.1
    have hp2 := hp.2
    (repeat' (first | (k_unfold; (try dsimp only)) | (k_end; wrow_close) | ((fail_if_success (with_reducible show UnrPostW _ _ _ _ _ _ _ _)); first | walk1 | (dsimp only; walk1)) | (leave1; walk_say "STEP leave1"; try dsimp only) | fail "no step"))
    all_goals (first
      | exact Pc.turn (by k_asm) (by k_asm) (by rw [List.forall_mem_cons]; exact ⟨i1, i2⟩) (by k_mem) (fun v hv' => hv v (List.mem_cons_of_mem _ hv'))
      | (unfold UnrPostW; (try dsimp only); k_steps; exact hret _ _ _ _ (by k_asm) (keep_top (news := news) (by k_asm) (fun p hp => by simp only [List.mem_cons, hp, or_true])) ⟨[_], rfl, con_abv1 (by first | assumption | exact allLt_iff.mpr (by assumption)), _, _, piece_val hn hp hd (by assumption), _, _, _, _, rfl, rfl⟩))
  case fi =>
    rintro m' news' h tk ⟨⟨u, rfl⟩, rfl, hv⟩ F2 N2
    k_steps
    all_goals (exact hret _ _ _ _ (by k_asm) (keep_top (news := news) (by k_asm) (fun p hp => by simp only [List.mem_cons, hp, or_true])) ⟨[_], rfl, con_abv1 (by first | assumption | exact allLt_iff.mpr (by assumption)), _, _, whole_val hn, _, _, _, _, rfl, rfl⟩)
end Fl
namespace Fl
theorem calm_K_cont : True := by
  w_top off
  trivial
local macro_rules | `(tactic| k_mem) => `(tactic| (show (_ : Addr × Obj) ∈ (_ : List (Addr × Obj)); ktr_member))
local macro_rules | `(tactic| k_mem) => `(tactic| (show (_ : Addr × Obj) ∈ (_ ++ _ : List (Addr × Obj)); first | (refine List.mem_append.mpr (Or.inl ?_); k_mem) | (refine List.mem_append.mpr (Or.inr ?_); k_mem)))
local macro_rules | `(tactic| k_all) => `(tactic| first | (with_reducible assumption) | exact ne_upA (by assumption) (Nat.le_refl _) | exact ne_up (by assumption) (by omega))
local macro_rules | `(tactic| k_lt $h:ident) => `(tactic| (replace $h := allLt_of $h; (simp only [AllLt, allLt_app, and_assoc, and_true] at $h:ident); (repeat (have _ := And.left $h; replace $h := And.right $h))))
local macro_rules | `(tactic| k_ne) => `(tactic| (refine neN ?_; (try dsimp only); first | with_reducible assumption | exact Ne.symm (by with_reducible assumption) | omega))
local macro_rules | `(tactic| k_cells $Y:ident) => `(tactic| (have hY := CellsAre.one $Y; obtain ⟨o', hE', d1'⟩ := hY; subst hE'; clear $Y))
local macro_rules | `(tactic| ktr_enter) => `(tactic| (refine' code_defC ?k1 ?k2 ?k3 ?k4 ?k5 ?kA ?kF ?kK ?k6 ?k7 ?k8 ?k9 ?kB ?kD ?_ ?c2 ?c3 ?c4; (case kA => exact rfl); (case kF => exact rfl); (case kK => assumption); (case k1 => k_asm); (case k2 => k_asm); (case k3 => k_asm); (case k4 => k_asm); (case k5 => k_asm); (case k6 => k_is); (case k7 => k_is); (case k8 => ktr_room); (case k9 => exact BindsTo.of_eq rfl); (case kB => exact rfl); (case kD => decide +kernel); (case c2 => exact rfl); (case c3 => exact rfl); (case c4 => exact rfl); k_whole; intro g' L' h' tk' cells' FG' F' N' Y' B' X' T' l1; (try k_lt l1); k_cells Y'; (try simp only [List.cons_append, List.nil_append] at N'); (try dsimp only); (try k_fold)))
local macro_rules | `(tactic| walk_at "call ref") => `(tactic| (k_here; k_dflt (first
  | (refine' call_cls ?k1 ?k2 ?k3 ?k4 ?k5 ?k6 ?_; (case k1 => k_asm); (case k2 => k_asm); (case k3 => k_asm); (case k4 => k_is); (case k5 => k_is); (case k6 => k_is); k_whole; intro x' d' h' F' N' l1 l2; (try k_lt l1); (try k_lt2 l2); (try k_sweep); (first | (refine' code_def ?k1 ?k2 ?k3 ?k4 ?k5 ?kA ?kF ?kK ?k6 ?k7 ?k8 ?k9 ?kB ?_ ?c2 ?c3 ?c4 ?c5; (case kA => exact rfl); (case kF => exact rfl); (case kK => first | exact rfl | assumption); (case k1 => k_asm); (case k2 => k_asm); (case k3 => k_asm); (case k4 => k_asm); (case k5 => k_asm); (case k6 => k_is); (case k7 => k_is); (case k8 => ktr_room); (case k9 => first | exact BindsTo.of_eq rfl | exact binds_K (by k_in) rfl (by k_is) rfl rfl rfl); (case c5 => decide); (case kB => exact locs rfl); (case c2 => exact rfl); (case c3 => exact rfl); (case c4 => exact rfl); k_whole; intro g' L' h' FG' F' N' B' X' T'; (try dsimp only); (try k_fold)) | (refine' code_defC ?k1 ?k2 ?k3 ?k4 ?k5 ?kA ?kF ?kK ?k6 ?k7 ?k8 ?k9 ?kB ?kD ?_ ?c2 ?c3 ?c4; (case kA => exact rfl); (case kF => exact rfl); (case kK => first | exact rfl | assumption); (case k1 => k_asm); (case k2 => k_asm); (case k3 => k_asm); (case k4 => k_asm); (case k5 => k_asm); (case k6 => k_is); (case k7 => k_is); (case k8 => ktr_room); (case k9 => first | exact BindsTo.of_eq rfl | exact binds_K (by k_in) rfl (by k_is) rfl rfl rfl); (case kB => exact rfl); (case kD => decide +kernel); (case c2 => exact rfl); (case c3 => exact rfl); (case c4 => exact rfl); k_whole; intro g' L' h' tk' cells' FG' F' N' Y' B' X' T' l1; (try k_lt l1); k_cells Y'; (try simp only [List.cons_append, List.nil_append] at N'); (try dsimp only); (try k_fold))))
  | (refine' call_meth ?k1 ?k2 ?_; (case k1 => k_asm); (case k2 => k_mem); k_whole; (first | (refine' code_def ?k1 ?k2 ?k3 ?k4 ?k5 ?kA ?kF ?kK ?k6 ?k7 ?k8 ?k9 ?kB ?_ ?c2 ?c3 ?c4 ?c5; (case kA => exact rfl); (case kF => exact rfl); (case kK => first | exact rfl | assumption); (case k1 => k_asm); (case k2 => k_asm); (case k3 => k_asm); (case k4 => k_asm); (case k5 => k_asm); (case k6 => k_is); (case k7 => k_is); (case k8 => ktr_room); (case k9 => first | exact BindsTo.of_eq rfl | exact binds_K (by k_in) rfl (by k_is) rfl rfl rfl); (case c5 => decide); (case kB => exact locs rfl); (case c2 => exact rfl); (case c3 => exact rfl); (case c4 => exact rfl); k_whole; intro g' L' h' FG' F' N' B' X' T'; (try dsimp only); (try k_fold)) | (refine' code_defC ?k1 ?k2 ?k3 ?k4 ?k5 ?kA ?kF ?kK ?k6 ?k7 ?k8 ?k9 ?kB ?kD ?_ ?c2 ?c3 ?c4; (case kA => exact rfl); (case kF => exact rfl); (case kK => first | exact rfl | assumption); (case k1 => k_asm); (case k2 => k_asm); (case k3 => k_asm); (case k4 => k_asm); (case k5 => k_asm); (case k6 => k_is); (case k7 => k_is); (case k8 => ktr_room); (case k9 => first | exact BindsTo.of_eq rfl | exact binds_K (by k_in) rfl (by k_is) rfl rfl rfl); (case kB => exact rfl); (case kD => decide +kernel); (case c2 => exact rfl); (case c3 => exact rfl); (case c4 => exact rfl); k_whole; intro g' L' h' tk' cells' FG' F' N' Y' B' X' T' l1; (try k_lt l1); k_cells Y'; (try simp only [List.cons_append, List.nil_append] at N'); (try dsimp only); (try k_fold))))
  | (refine wpAny_call ?_; (first | (refine' code_def ?k1 ?k2 ?k3 ?k4 ?k5 ?kA ?kF ?kK ?k6 ?k7 ?k8 ?k9 ?kB ?_ ?c2 ?c3 ?c4 ?c5; (case kA => exact rfl); (case kF => exact rfl); (case kK => first | exact rfl | assumption); (case k1 => k_asm); (case k2 => k_asm); (case k3 => k_asm); (case k4 => k_asm); (case k5 => k_asm); (case k6 => k_is); (case k7 => k_is); (case k8 => ktr_room); (case k9 => first | exact BindsTo.of_eq rfl | exact binds_K (by k_in) rfl (by k_is) rfl rfl rfl); (case c5 => decide); (case kB => exact locs rfl); (case c2 => exact rfl); (case c3 => exact rfl); (case c4 => exact rfl); k_whole; intro g' L' h' FG' F' N' B' X' T'; (try dsimp only); (try k_fold)) | (refine' code_defC ?k1 ?k2 ?k3 ?k4 ?k5 ?kA ?kF ?kK ?k6 ?k7 ?k8 ?k9 ?kB ?kD ?_ ?c2 ?c3 ?c4; (case kA => exact rfl); (case kF => exact rfl); (case kK => first | exact rfl | assumption); (case k1 => k_asm); (case k2 => k_asm); (case k3 => k_asm); (case k4 => k_asm); (case k5 => k_asm); (case k6 => k_is); (case k7 => k_is); (case k8 => ktr_room); (case k9 => first | exact BindsTo.of_eq rfl | exact binds_K (by k_in) rfl (by k_is) rfl rfl rfl); (case kB => exact rfl); (case kD => decide +kernel); (case c2 => exact rfl); (case c3 => exact rfl); (case c4 => exact rfl); k_whole; intro g' L' h' tk' cells' FG' F' N' Y' B' X' T' l1; (try k_lt l1); k_cells Y'; (try simp only [List.cons_append, List.nil_append] at N'); (try dsimp only); (try k_fold)))))))
local macro_rules | `(tactic| walk_at "call ref") => `(tactic| (k_here; (with_reducible show wpAny _ _ (call (Value.ref 314) _) _ _ _); k_dflt (refine' con_use ?c0 ?c1 ?c2 ?c3 ?c4 ?c5 ?c6 ?c7 ?c8 ?_; (case c1 => k_asm); (case c2 => k_asm); (case c3 => k_asm); (case c4 => k_asm); (case c5 => k_asm); (case c6 => first | exact rfl | assumption); (case c0 => exact take_u ⟨_, by k_updF, fun o' => by k_updF⟩ (by assumption) (by assumption) (by assumption) (by assumption) (by decide) (by decide)); (case c7 => ktr_room); (case c8 => ktr_units)); (rintro r' nw' h' tk' F' N' hr'; (unfold TakeU at hr'); obtain ⟨k', t', v0', t0', v1', t1', n', row', nR', e1', b1', b2', b3', b4', b5', e2'⟩ := hr'; subst e1'; subst e2'; (try dsimp only at N'); (try k_fold))))
local macro_rules | `(tactic| k_all) => `(tactic| first | (with_reducible assumption) | exact above_ne1 (by with_reducible assumption) (by omega) | (refine all_app ?_ ?_ <;> k_all))
local macro_rules | `(tactic| lcg_off) => `(tactic| with_reducible assumption)
local macro_rules | `(tactic| walk_at "FinE") => `(tactic| ((unfold LCg.FinE); intro D' h' tk' F' N' o1'; (try simp only [LCg.Off1, off1_app, and_true] at o1'); (repeat (obtain ⟨_, o1'⟩ := o1')); (try simp only [List.nil_append, List.cons_append] at N'); (try dsimp only)))
local macro_rules | `(tactic| walk_at "eval Name") => `(tactic| (k_here; (with_reducible show wpAny _ _ (eval (Expr.Name _ _) (compEnvC _ _ _ _)) _ _ _); k_dflt (first
  | (refine' lcf_free ?N ?c ?m ?d ?_ ?a ?b; (case a => rfl); (case b => rfl); (case N => k_asm); (case c => rfl); (case m => k_mem); (case d => with_reducible assumption); k_whole)
  | refine LCgL.ld_own (by k_asm) (by k_mem) (by with_reducible assumption) (by with_reducible assumption) ?_
  | refine LCgL.ld_global (by k_asm) (by k_asm) (by k_asm) (by k_is) ?_
  | refine LCgL.ld_built (by k_asm) (by k_asm) (by k_asm) (by k_is) (by boot_by_name) (by decide) ?_)))
local macro_rules | `(tactic| walk_at "call builtin:list.append") => `(tactic| (k_here; (with_reducible show wpAny _ _ (call (Value.builtin _) [Value.ref _, _]) _ _ _); k_dflt (refine' append_K ?k1 ?k2 ?k3 ?_ ?z; (case k1 => k_asm); (case k2 => k_asm); (case k3 => k_upd); (case z => first | exact Nat.le_of_ble_eq_true rfl | (rw [sizeLine_eq]; simp only [List.size_toArray, Array.size_push]; omega) | size_fits); k_whole); intro h' F' N'; (try k_sweep)))
local macro_rules | `(tactic| walk_at "exec For Name Name cons nil") => `(tactic| (k_here; (rename Fr _ _ _ _ => lF'); (with_unfolding_all refine' For_turns lF' ?_); k_whole))
local macro_rules | `(tactic| walk_at "subscriptTail") => `(tactic| (k_here; (with_reducible show wpAny _ _ (subscriptTail _ _ (Value.ref _) (Value.int _ _)) _ _ _); k_dflt (first
  | (refine' item_tupleT ?t ?a ?b ?c ?d ?_; (case t => exact News.isTup (by k_asm) (by k_mem)); (case a => decide); (case b => decide); (case c => rfl); (case d => rfl); k_whole)
  | (refine' item_listL ?t ?a ?b ?c ?_; (case t => exact News.isList (by k_asm) (by k_mem)); (case a => decide); (case b => decide); (case c => rfl); k_whole))))
local macro_rules | `(tactic| walk_at "subscriptTail Name Name ref int") => `(tactic| (k_here; (with_reducible show wpAny _ _ (subscriptTail _ _ (Value.ref _) (Value.int _ _)) _ _ _); k_dflt (first
  | (refine' item_tupleT ?t ?a ?b ?c ?d ?_; (case t => exact News.isTup (by k_asm) (by k_mem)); (case a => decide); (case b => decide); (case c => rfl); (case d => rfl); k_whole)
  | (refine' item_listL ?t ?a ?b ?c ?_; (case t => exact News.isList (by k_asm) (by k_mem)); (case a => decide); (case b => decide); (case c => rfl); k_whole))))
local macro_rules | `(tactic| walk_at "subscriptTail Name Constant ref int") => `(tactic| (k_here; (with_reducible show wpAny _ _ (subscriptTail _ _ (Value.ref _) (Value.int _ _)) _ _ _); k_dflt (first
  | (refine' item_tupleT ?t ?a ?b ?c ?d ?_; (case t => exact News.isTup (by k_asm) (by k_mem)); (case a => decide); (case b => decide); (case c => rfl); (case d => rfl); k_whole)
  | (refine' item_listL ?t ?a ?b ?c ?_; (case t => exact News.isList (by k_asm) (by k_mem)); (case a => decide); (case b => decide); (case c => rfl); k_whole))))
local macro_rules | `(tactic| walk_at "subscriptTail Name BinOp ref int") => `(tactic| (k_here; (with_reducible show wpAny _ _ (subscriptTail _ _ (Value.ref _) (Value.int _ _)) _ _ _); k_dflt (first
  | (refine' item_tupleT ?t ?a ?b ?c ?d ?_; (case t => exact News.isTup (by k_asm) (by k_mem)); (case a => decide); (case b => decide); (case c => rfl); (case d => rfl); k_whole)
  | (refine' item_listL ?t ?a ?b ?c ?_; (case t => exact News.isList (by k_asm) (by k_mem)); (case a => decide); (case b => decide); (case c => rfl); k_whole))))
local macro_rules | `(tactic| walk_at "compareOp Eq ref ref") => `(tactic| (k_here; (with_reducible show wpAny _ _ (compareOp CmpOp.Eq (Value.ref _) (Value.ref _)) _ _ _); k_dflt (first
  | refine eq_empty (News.isList (by k_asm) (by k_mem)) (News.isList (by k_asm) (by k_mem)) (by ktr_units) ?_
  | refine eq_full (News.isList (by k_asm) (by k_mem)) (News.isList (by k_asm) (by k_mem)) (by first | decide | simp; done) (by ktr_units) ?_)))
local macro_rules | `(tactic| k_upd) => `(tactic| (refine' upd_app ?a ?b; (case a => first | exact off_above (by assumption) (by k_mem) | exact off_ne (by assumption) (by k_mem)); (case b => k_upd)))
local macro_rules | `(tactic| walk_at "call builtin:list.extend") => `(tactic| (k_here; (with_reducible show wpAny _ _ (call (Value.builtin _) [Value.ref _, Value.ref _]) _ _ _); k_dflt (refine' ext_one ?F ?N ?b ?e ?c ?U ?_; (case F => k_asm); (case N => k_asm); (case b => k_mem); (case e => with_reducible assumption); (case c => omega); (case U => k_upd)); intro h' F' N'))
local macro_rules | `(tactic| walk_at "subscriptTail") => `(tactic| (k_here; (with_reducible show wpAny _ _ (subscriptTail _ _ (Value.ref _) (Value.int (-1) _)) _ _ _); k_dflt (refine' item_last ?a ?b ?_; (case a => exact News.isList (by k_asm) (by k_mem)); (case b => first | with_reducible assumption | exact rfl); k_whole)))
local macro_rules | `(tactic| walk_at "subscriptTail Name UnaryOp ref int") => `(tactic| (k_here; (with_reducible show wpAny _ _ (subscriptTail _ _ (Value.ref _) (Value.int (-1) _)) _ _ _); k_dflt (refine' item_last ?a ?b ?_; (case a => exact News.isList (by k_asm) (by k_mem)); (case b => first | with_reducible assumption | exact rfl); k_whole)))
local macro_rules | `(tactic| walk_at "subscriptTail Name Constant ref int") => `(tactic| (k_here; (with_reducible show wpAny _ _ (subscriptTail _ _ (Value.ref _) (Value.int (-1) _)) _ _ _); k_dflt (refine' item_last ?a ?b ?_; (case a => exact News.isList (by k_asm) (by k_mem)); (case b => first | with_reducible assumption | exact rfl); k_whole)))
local macro_rules | `(tactic| walk_at "call type:tuple") => `(tactic| (k_here; (with_reducible show wpAny _ _ (call (Value.type _) [Value.ref _]) _ _ _); k_dflt (refine' kde_tupleOf ?k1 ?k2 ?k3 ?k4 ?k5 ?_; (case k1 => k_asm); (case k2 => k_asm); (case k3 => exact News.isList (by k_asm) (by k_mem)); (case k4 => first | exact Nat.le_of_ble_eq_true rfl | (simp only [List.size_toArray]; omega)); (case k5 => exact rfl); k_whole); intro D' h' F' N' l1; (try k_lt l1); (try k_sweep)))
local macro_rules | `(tactic| walk_at "call builtin:len") => `(tactic| (k_here; (with_reducible show wpAny _ _ (call (Value.builtin _) [Value.ref _]) _ _ _); k_dflt (refine' len_sym ?a ?b ?c ?_; (case a => exact News.isList (by k_asm) (by k_mem)); (case b => first | with_reducible assumption | exact List.length_cons); (case c => omega); k_whole); intro t' tk'))
local macro_rules | `(tactic| walk_at "binaryOp Pow int int") => `(tactic| (k_here; k_dflt (refine' pow_many ?a ?b ?c ?_; (case a => with_reducible assumption); (case b => omega); (case c => omega); k_whole); intro t' tk'))
local macro_rules | `(tactic| walk_at "call ref") => `(tactic| (k_here; (with_reducible show wpAny _ _ (call (Value.ref 352) _) _ _ _); k_dflt (refine' con_use ?c0 ?c1 ?c2 ?c3 ?c4 ?c5 ?c6 ?c7 ?c8 ?_; (case c1 => k_asm); (case c2 => k_asm); (case c3 => k_asm); (case c4 => k_asm); (case c5 => k_asm); (case c6 => first | exact rfl | assumption); (case c0 => (exact lawfr_con (by assumption))); (case c7 => ktr_room); (case c8 => ktr_units)); (rintro r' nw' h' tk' F' N' ⟨tl', e0', o', p', q', hv', a', t', u', n', e1', e2'⟩; subst e0'; subst e1'; subst e2'; replace o' := o' _ (List.Mem.head _); simp only [AllLt, allLt_app, and_assoc, and_true] at o'; (repeat (have _ := And.left o'; replace o' := And.right o')); (try simp only [List.nil_append, List.cons_append] at N'); (try dsimp only); (try k_fold))))
local macro_rules | `(tactic| walk_at "eval ListComp") => `(tactic| (k_here; k_dflt (refine LCg.ListComp_U (F₀ := by k_asm) (by with_unfolding_all rfl) (by decide) (by rfl) (by decide) (by rfl) ?_)))
local macro_rules | `(tactic| walk_at "CompSrc") => `(tactic| (k_here; k_dflt (refine LCg.CompSrc.ledger (by rfl) (by k_asm) (by k_asm) (by k_mem) (by first | size_fits | exact Nat.le_of_ble_eq_true rfl) ?_; intro g'; lcg_lit)))
local macro_rules | `(tactic| walk_at "CompRest") => `(tactic| (with_unfolding_all first
  | (refine LCg.CompRest.succ ?_; intro v' I' oI' C' oC' D' m' h' tk' E' hv' hC' hx' F' N' off' ne'; (first | lcg_open hv' | (obtain ⟨t9', hv9'⟩ := hv'; subst hv9')); obtain ⟨_, _, _⟩ := ne')
  | refine LCg.CompRest.zero ?_))
local macro_rules | `(tactic| walk_at "CompSrc") => `(tactic| (k_here; k_dflt (refine LCg.CompSrc.range (by rfl) (by k_asm) (by k_asm) (by assumption) (small_one (by omega) (by omega) (by omega) (by omega)) (rangeSize_nat _ _) (by rw [sizeLine_eq]; omega) ?_; intro g')))
local macro_rules | `(tactic| walk_at "CompEnd") => `(tactic| (k_here; k_dflt (first
  | (refine ce1 (by k_asm) (by k_asm) (by assumption) (by dsimp only; omega) (by first | exact True.intro | exact Or.inr ⟨_, by k_mem, rfl, _, rfl⟩) ?_)
  | (refine ce0 (by k_asm) (by k_asm) (by assumption) (by first | exact True.intro | exact Or.inr ⟨_, by k_mem, rfl, _, rfl⟩) ?_))))
local macro_rules | `(tactic| walk_at "call ref") => `(tactic| (k_here; (with_reducible show wpAny _ _ (call (Value.ref 117) _) _ _ _); k_dflt (refine' con_use ?c0 ?c1 ?c2 ?c3 ?c4 ?c5 ?c6 ?c7 ?c8 ?_; (case c1 => k_asm); (case c2 => k_asm); (case c3 => k_asm); (case c4 => k_asm); (case c5 => k_asm); (case c6 => first | exact rfl | assumption); (case c0 => (exact spot_con (by k_mem) (by k_mem) (by k_mem) (by k_mem) (by k_mem) (by assumption) (by assumption))); (case c7 => ktr_room); (case c8 => ktr_units)); (rintro r' nw' h' tk' F' N' ⟨tl', e0', o', a', t', u', n', e1', e2'⟩; subst e0'; subst e1'; subst e2'; replace o' := o' _ (List.Mem.head _); simp only [AllLt, allLt_app, and_assoc, and_true] at o'; (repeat (have _ := And.left o'; replace o' := And.right o')); (try simp only [List.nil_append, List.cons_append] at N'); (try dsimp only); (try k_fold))))
local macro_rules | `(tactic| walk_at "call ref") => `(tactic| (k_here; (with_reducible show wpAny _ _ (call (Value.ref 157) _) _ _ _); k_dflt (refine' con_use ?c0 ?c1 ?c2 ?c3 ?c4 ?c5 ?c6 ?c7 ?c8 ?_; (case c1 => k_asm); (case c2 => k_asm); (case c3 => k_asm); (case c4 => k_asm); (case c5 => k_asm); (case c6 => first | exact rfl | assumption); (case c0 => (exact rnd_con (by k_mem))); (case c7 => ktr_room); (case c8 => ktr_units)); (rintro r' nw' h' tk' F' N' ⟨tl', e0', o', a', t', u', n', e1', e2'⟩; subst e0'; subst e1'; subst e2'; replace o' := o' _ (List.Mem.head _); simp only [AllLt, allLt_app, and_assoc, and_true] at o'; (repeat (have _ := And.left o'; replace o' := And.right o')); (try simp only [List.nil_append, List.cons_append] at N'); (try dsimp only); (try k_fold))))
local macro_rules | `(tactic| walk_at "call ref") => `(tactic| (k_here; (with_reducible show wpAny _ _ (call (Value.ref 164) _) _ _ _); k_dflt (refine' con_use ?c0 ?c1 ?c2 ?c3 ?c4 ?c5 ?c6 ?c7 ?c8 ?_; (case c1 => k_asm); (case c2 => k_asm); (case c3 => k_asm); (case c4 => k_asm); (case c5 => k_asm); (case c6 => first | exact rfl | assumption); (case c0 => (exact uniq_con (vs := []) (ps := []) (by k_mem) trivial (by decide))); (case c7 => ktr_room); (case c8 => ktr_units)); (rintro r' nw' h' tk' F' N' ⟨tl', e0', o', a', n', fv', e1', e2', e3'⟩; subst e0'; subst e1'; subst e2'; replace o' := o' _ (List.Mem.head _); simp only [AllLt, allLt_app, and_assoc, and_true] at o'; (repeat (have _ := And.left o'; replace o' := And.right o')); (try simp only [List.nil_append, List.cons_append] at N'); (try dsimp only); (try k_fold))))
theorem contour_con {w : World} {mean mg mb} {rest : Led} {S R : Addr} {v0 v1 : Int} {t0 t1 : Tok} {n nR : Nat} {row : List Value}
    (h1 : 0 ≤ v1) (h2 : v1 < 2147483647) (hr : IntRow row) (hne : @Ne Nat S R) (oS : ∀ p ∈ rest, p.1 ≠ S) (oR : ∀ p ∈ rest, p.1 ≠ R) :
    ConM w mean mg mb 364 ((S, srcO v0 v1 t0 t1 R n) :: (R, rowO row nR) :: rest) [.ref S] 40 500 (fun news' r => r = .bool true ∧ ∃ v0 t0 v1 t1 n row nR, 0 ≤ v1 ∧ v1 < 2147483647 ∧ IntRow row ∧ news' = (S, srcO v0 v1 t0 t1 R n) :: (R, rowO row nR) :: rest) := by
  (try unfold Con)
  unfold ConM
  k_fill
  intro dp un gd cn cs a ccd cl outer A₀ base h₀ L m s Q E B F X N T hk hdp hu hret
  refine wpAny_call ?_
  k_dflt ktr_enter
  (repeat' (first | (k_unfold; (try dsimp only)) | (k_end; wrow_close) | ((fail_if_success (with_reducible show LCg.CompRest _ _ _ _ _ _ _ _ _ _ _ _ _ _ _ _ _ _ _)); first | walk1 | (dsimp only; walk1)) | (leave1; walk_say "STEP leave1"; try dsimp only) | fail "no step"))
  refine nums_rest (by assumption) (by assumption) (by assumption) ?turn ?fin
  case turn =>
    intro i t I oI C oC D m₂ ys w0 u0 w1 u1 n' row' nR' made h tk E' b1 b2 b3 b4 hC hx F2 N2 off ne
    have off' := off
    simp only [Sp1, LCg.Off3, off3_app, and_assoc, and_true] at off'
    (repeat (obtain ⟨_, off'⟩ := off'))
    obtain ⟨_, _, _⟩ := ne
    dsimp only [Sp1] at N2
    (repeat' (first | (k_unfold; (try dsimp only)) | (k_end; wrow_close) | ((fail_if_success (with_reducible show LCg.CompEnd _ _ _ _ _ _ _ _ _ _ _ _ _ _)); first | walk1 | (dsimp only; walk1)) | (leave1; walk_say "STEP leave1"; try dsimp only) | fail "no step"))
    all_goals (exact nu_end (by k_asm) (by k_asm) (by k_mem) (by intro p hp; exact List.mem_cons_of_mem _ hp) off (by refine ⟨?_, ?_, ?_⟩ <;> (refine neN ?_; (try dsimp only); omega)) (by (try dsimp only); omega) (by assumption) (by assumption) (by assumption) (by assumption) (by assumption) (by assumption) (by assumption))
  case fin =>
    intro ys ps made w0 w1 u0 u1 n' row' nR' a1 a2 a3 a4 a5 a6 a7
    unfold LCg.FinA
    intro Dn hn tkn Fn Nn on
    obtain ⟨bs, Nb, mD, mab, hfin⟩ := renormN Nn
    rcases ps with _ | ⟨p1, _ | ⟨p2, _ | ⟨p3, _ | ⟨p4, r⟩⟩⟩⟩ <;> simp only [List.length_cons, List.length_nil] at a2
    all_goals try (exfalso; omega)
    have hb1 := a3 p1 (by simp)
    have hb2 := a3 p2 (by simp)
    have hb3 := a3 p3 (by simp)
    rcases ys with _ | ⟨y1, _ | ⟨y2, _ | ⟨y3, _ | ⟨y4, r⟩⟩⟩⟩
    · exact a1.elim
    · exact a1.2.elim
    · exact a1.2.2.elim
    rotate_left
    · exact a1.2.2.2.elim
    have hnum : All2 (PtIn bs) [y1, y2, y3] [p1, p2, p3] := All2.mono (fun _ _ q => q.mono mab) a1
    clear Nn on a1 a2 a4 mab hb1 hb2 hb3
    (repeat' (first | (k_unfold; (try dsimp only)) | (k_end; wrow_close) | ((fail_if_success (with_reducible show wpAny _ _ (pyIter (Value.ref _)) _ _ _)); first | walk1 | (dsimp only; walk1)) | (leave1; walk_say "STEP leave1"; try dsimp only) | fail "no step"))
    (rename Fr _ _ _ _ => lF); (rename News _ _ _ _ => lN)
    obtain ⟨led, lN2, eled, hlo, bled⟩ := pl_hide (news_tail lN) (by assumption) (by (try dsimp only); omega) (by (try dsimp only); omega) (by (try dsimp only); omega) (by (try dsimp only); omega) (by (try dsimp only); omega) (by (try dsimp only); omega)
    have hnum2 : All2 (PtIn led) [y1, y2, y3] [p1, p2, p3] := All2.mono (fun _ _ q => q.mono bled) hnum
    have mD2 := bled _ mD
    refine for_items (by rfl) (by rfl) lF lN2 (by k_mem) _ (Pl.start lF lN2 hnum2) ?tu ?fi
    case tu =>
      intro I hI
      rw [List.forall_mem_cons] at hI
      obtain ⟨i1, i2⟩ := hI
      clear lN lF lN2 eled hnum hnum2
      rintro v r m' news' h tk oI hcI ⟨⟨u, rfl⟩, made2, pv, k, fq, qs, rfl, hf, hv, hfq, ho⟩ F2 N2
      have hni := not_iter N2 hcI (fun p hp => (ho p hp).2)
      rcases qs with _ | ⟨q, qs⟩
      · exact hv.elim
      obtain ⟨⟨aq, tq, uq, nq, rfl, mq⟩, hv⟩ := hv
      have hq : PtN q := a3 q (by rw [← hfq]; simp)
      obtain ⟨hq1, hq2⟩ := hq
      have hpo : ∀ p ∈ made2, p.1 ≠ _ := fun p hp => Nat.ne_of_gt (ho p hp).1
      have hpv : pv.length ≤ 3 := by
        have h9 := congrArg List.length hfq
        simp only [List.length_append, List.length_cons, List.length_nil] at h9
        rw [hf.length]; omega
      (repeat' (first | (k_unfold; (try dsimp only)) | (k_end; wrow_close) | ((fail_if_success (with_reducible show UnrPostW _ _ _ _ _ _ _ _)); first | walk1 | (dsimp only; walk1)) | (leave1; walk_say "STEP leave1"; try dsimp only) | fail "no step"))
      all_goals (exact Pl.turn (by k_asm) (by k_asm) hni i2 i1 mD2 rfl rfl rfl (by assumption) (by assumption) (by assumption) hf ⟨_, _, _, _, _, _, _, _, _, _, _, _, _, _, rfl, List.mem_cons_self, .tail _ (.tail _ (.head _)), .tail _ (.head _), by assumption, by assumption⟩ hv hfq ho)
    case fi =>
      rintro m' news' h tk ⟨⟨u, rfl⟩, made2, pv, k, fq, qs, rfl, hf, hv, hfq, ho⟩ F2 N2
      clear lF lN2 hnum2
      rcases qs with _ | ⟨_, _⟩
      rotate_left
      · exact hv.elim
      rw [List.append_nil] at hfq
      subst hfq
      rcases pv with _ | ⟨q1, _ | ⟨q2, _ | ⟨q3, _ | ⟨q4, r⟩⟩⟩⟩
      · exact hf.elim
      · exact hf.2.elim
      · exact hf.2.2.elim
      rotate_left
      · exact hf.2.2.2.elim
      -- @@1
      obtain ⟨bs2, N3, mP, mdb, bsb, hc1, hc2⟩ := pl_renorm N2 eled ho (by (try dsimp only); omega) (by (try dsimp only); omega) (by assumption) (by assumption)
      clear N2 eled hlo bled mD2
      obtain ⟨c1, c2, c3, _⟩ := All2.mono (fun _ _ q => PntIn.mono q mdb) hf
      clear hf mdb
      obtain ⟨aP1, ax1, ay1, nP1, x0, x1, y0, y1', tx1, ux1, nx1, ty1, uy1, ny1, rfl, mP1, mx1, my1, vx1, vy1⟩ := c1
      obtain ⟨aP2, ax2, ay2, nP2, x20, x21, y20, y21, tx2, ux2, nx2, ty2, uy2, ny2, rfl, mP2, mx2, my2, vx2, vy2⟩ := c2
      obtain ⟨aP3, ax3, ay3, nP3, x30, x31, y30, y31, tx3, ux3, nx3, ty3, uy3, ny3, rfl, mP3, mx3, my3, vx3, vy3⟩ := c3
      have hnum3 : All2 (PtIn bs2) [y1, y2, y3] [p1, p2, p3] := All2.mono (fun _ _ q => q.mono bsb) hnum
      have mD3 := bsb _ mD
      have hfin3 := fun p hp => bsb _ (hfin p hp)
      clear hnum mD hfin bsb
      simp only [show (2 : Int) ^ Int.toNat 2 = 4 from rfl, show (3 : Int) * 4 = 12 from rfl, show (2 : Int) * 4 = 8 from rfl] at N3
      (repeat' (first | (k_unfold; (try dsimp only)) | (k_end; wrow_close) | ((fail_if_success (with_reducible show wpAny _ _ (call (Value.ref 150) _) _ _ _)); first | walk1 | (dsimp only; walk1)) | (leave1; walk_say "STEP leave1"; try dsimp only) | fail "no step"))
      (rename Fr _ _ _ _ => lF); (rename News _ _ _ _ => lN)
      -- @@2
      have ok := fine_ok a3
      have hln : ([fineP p1, fineP p2, fineP p3]).length = 3 := rfl
      have hw3 : ((2 : Nat) = 2 ∧ ([fineP p1, fineP p2, fineP p3]).length = 3) ∨ ((2 : Nat) = 3 ∧ ([fineP p1, fineP p2, fineP p3]).length = 4) := .inl ⟨rfl, rfl⟩
      obtain ⟨bs3, N6, hin, hbs, e9, e16, e18⟩ := renormG lN (by simp only [List.forall_mem_cons]; and_intros <;> first | exact List.forall_mem_nil _ | (refine neN ?_; (try dsimp only); omega)) (by simp only [List.forall_mem_cons]; and_intros <;> first | exact List.forall_mem_nil _ | (refine neN ?_; (try dsimp only); omega)) (by simp only [List.forall_mem_cons]; and_intros <;> first | exact List.forall_mem_nil _ | (refine neN ?_; (try dsimp only); omega)) (ne_upA (by assumption) (Nat.le_refl _)) hc1 hc2
      simp only [List.forall_mem_cons] at hin
      obtain ⟨g1, g2, g3, g4, g5, g6, g8, g10, g11, g12, g13, g14, g15, g19, g20, _⟩ := hin
      have mP1 := hbs _ mP1
      have mP2 := hbs _ mP2
      have mP3 := hbs _ mP3
      have hnum4 : All2 (PtIn bs3) [y1, y2, y3] [p1, p2, p3] := All2.mono (fun _ _ q => q.mono hbs) hnum3
      have mD4 := hbs _ mD3
      have hfin4 := fun p hp => hbs _ (hfin3 p hp)
      clear lN hnum3 mD3 hfin3 hbs hc1 hc2 mP
      refine con_use (spots_con2 (K := 2) (vs := [Value.ref _, Value.ref _, Value.ref _]) (ps := [fineP p1, fineP p2, fineP p3]) (.tail _ (.tail _ (.tail _ (.tail _ (.tail _ g1))))) ⟨ptm (.tail _ (.tail _ (.tail _ (.tail _ (.tail _ g10))))), ptm (.tail _ (.tail _ (.tail _ (.tail _ (.tail _ g5))))), ptm (.tail _ (.tail _ (.tail _ (.tail _ (.tail _ g4))))), trivial⟩ ok (by omega) (by decide) rfl) (by k_asm) lF (by k_asm) N6 (by k_asm) (by first | exact rfl | assumption) (by ktr_room) (by ktr_units) ?_
      clear lF N6
      rintro r nw h5 tk5 F5 N5 ⟨tl, rfl, ot, Fa, nf, fv, rfl, mF, hF⟩
      -- @@3
      obtain ⟨bs4, N6, tl4, bs34, e1', e3', e5', pt4⟩ := renormH N5 ot e9 e16 e18 (nt_list rfl) (nt_cell (by assumption)) (nt_list rfl) nt_inst (nt_dict rfl)
      have hF := All2.mono pt4 hF
      have mFa := tl4 _ mF
      have mP1 := bs34 _ mP1
      have mP2 := bs34 _ mP2
      have mP3 := bs34 _ mP3
      have g8 := bs34 _ g8
      have g10 := bs34 _ g10
      have g19 := bs34 _ g19
      have g20 := bs34 _ g20
      have hnum5 : All2 (PtIn bs4) [y1, y2, y3] [p1, p2, p3] := All2.mono (fun _ _ q => q.mono bs34) hnum4
      have mD5 := bs34 _ mD4
      have hfin5 := fun p hp => bs34 _ (hfin4 p hp)
      clear N5 ot mF tl4 bs34 pt4 hnum4 mD4 hfin4 e9 e16 e18 g1 g2 g3 g4 g5 g6 g11 g12 g13 g14 g15
      have hfl : fv.length ≤ 4 := by rw [hF.length]; exact fsp_len 8 2 _
      have hfne : fv ≠ [] := by
        have hne := fsp_ne (b := 8) (k := 2) hw3
        intro e
        subst e
        have := hF.length
        exact hne (List.eq_nil_of_length_eq_zero this.symm)
      have hfp : 1 ≤ fv.length := List.length_pos_iff.mpr hfne
      (repeat' (first | (k_unfold; (try dsimp only)) | (k_end; wrow_close) | ((fail_if_success (with_reducible show LCg.CompSrc _ _ _ _ _ _ _ _ _ _ _ _ _ _)); first | walk1 | (dsimp only; walk1)) | (leave1; walk_say "STEP leave1"; try dsimp only) | fail "no step"))
      (rename Fr _ _ _ _ => lF); (rename News _ _ _ _ => lN)
      -- @@4
      refine LCg.CompSrc.ledger (by rfl) lF lN (by k_mem) (by rw [sizeLine_eq]; simp only [List.size_toArray, List.length_cons]; omega) ?_
      intro g'
      refine rnds_rest (rnd 4) (vs := Value.ref _ :: fv) (ps := fineP p1 :: fsp 8 2 [fineP p1, fineP p2, fineP p3]) ⟨ptm (p := fineP p1) (by k_mem), All2.mono (fun _ _ q => q.mono fun x hx => by simp only [List.mem_cons, hx, or_true]) hF⟩ ?rt ?rf
      case rt =>
        clear lF lN
        intro q a t u n I oI C oC D m₂ zs tl2 h tk E' hm hC hx F2 N2 off ne
        k_steps
        all_goals (exact ⟨_, _, _, _, rfl, rfl, by simp only [List.forall_mem_cons]; and_intros <;> first | (refine neN ?_; (try dsimp only); omega) | exact ne_upA (by assumption) (Nat.le_refl _)⟩)
      case rf =>
        intro gy gt hgy hgoff
        unfold LCg.FinE
        intro Dg hg tkg Fg Ng og
        simp only [LCg.Off1, off1_app, and_true] at og
        (repeat (obtain ⟨_, og⟩ := og))
        clear lF lN
        -- @@5
        (repeat' (first | (k_unfold; (try dsimp only)) | (k_end; wrow_close) | ((fail_if_success (with_reducible show wpAny _ _ (call (Value.ref 164) _) _ _ _)); first | walk1 | (dsimp only; walk1)) | (leave1; walk_say "STEP leave1"; try dsimp only) | fail "no step"))
        -- @@6
        (rename Fr _ _ _ _ => lF); (rename News _ _ _ _ => lN)
        refine con_use (uniq_con (vs := gy) (ps := (fineP p1 :: fsp 8 2 [fineP p1, fineP p2, fineP p3]).map (rnd 4)) (by k_mem) (All2.mono (fun _ _ q => q.mono fun x hx => by simp only [List.mem_cons, List.mem_append, hx, true_or, or_true]) hgy) (by rw [List.length_map, List.length_cons, ← hF.length]; omega)) (by k_asm) lF (by k_asm) lN (by k_asm) (by first | exact rfl | assumption) (by ktr_room) (by ktr_units) ?_
        clear lF lN
        rintro r nw h5 tk5 F5 N5 ⟨tl', rfl, ot, a9, n9, fv9, rfl, rfl, hU⟩
        have hU := All2.mono (fun _ _ q => pt_gb q (nt_list rfl) (nt_cell (by assumption)) (nt_list rfl) (nt_cell (by assumption)) (nt_list rfl) nt_inst (nt_dict rfl)) hU
        simp only [List.cons_append, List.nil_append] at N5
        replace ot := ot _ (List.Mem.head _)
        simp only [AllLt, allLt_app, and_assoc, and_true] at ot
        (repeat (have _ := And.left ot; replace ot := And.right ot))
        have hl9 : fv9.length ≤ 5 := by
          have := unq_len ((fineP p1 :: fsp 8 2 [fineP p1, fineP p2, fineP p3]).map (rnd 4)) []
          rw [hU.length]
          rw [List.length_map, List.length_cons, ← hF.length, List.length_nil] at this
          omega
        -- @@7
        have hU9 := ends9 hU
        (repeat' (first | (k_unfold; (try dsimp only)) | (k_end; wrow_close) | ((fail_if_success (with_reducible show wpAny _ _ (exec (PySem.Stmt.Assign [PySem.Expr.Name _ _] (PySem.Expr.ListComp _ _ _ _) _) _) _ _ _)); first | walk1 | (dsimp only; walk1)) | (leave1; walk_say "STEP leave1"; try dsimp only) | fail "no step"))
        (rename Fr _ _ _ _ => lF); (rename News _ _ _ _ => lN)
        obtain ⟨bs5, N9, mT, gb, bb⟩ := renormE lN
        obtain ⟨b0, r0, tb0, ub0, nb0, b1, tb1, ub1, nb1, rfl, mb0, hlast, mb1⟩ := hU9
        obtain ⟨⟨an1, tn1, un1, nn1, rfl, mn1⟩, _, ⟨an3, tn3, un3, nn3, rfl, mn3⟩, _⟩ := hnum5
        have mb0 := gb _ mb0
        have mb1 := gb _ mb1
        have mn1 := bb _ mn1
        have mn3 := bb _ mn3
        have mD6 := bb _ mD5
        have hfin6 := fun p hp => bb _ (hfin5 p hp)
        clear lN gb bb hU hgy hgoff hF mFa g8 g10 g19 g20 mD5 hfin5 e1' e3' e5'
        -- @@8
        k_dflt (refine LCg.Assign_ListComp_U (F₀ := by k_asm) (by rfl) (by with_unfolding_all rfl) (by with_unfolding_all rfl) (by decide) (by rfl) (by decide) (by rfl) (by rfl) (by rfl) ?_)
        (repeat' (first | (k_unfold; (try dsimp only)) | (k_end; wrow_close) | ((fail_if_success (with_reducible show wpAny _ _ (exec (PySem.Stmt.Return (some (PySem.Expr.BoolOp _ _ _)) _) _) _ _ _)); first | walk1 | (dsimp only; walk1)) | (leave1; walk_say "STEP leave1"; try dsimp only) | fail "no step"))
        -- @@9
        (repeat' (first | (k_unfold; (try dsimp only)) | (k_end; wrow_close) | ((fail_if_success (with_reducible show wpAny _ _ (subscriptTail _ _ (Value.ref _) (Value.int _ _)) _ _ _)); first | walk1 | (dsimp only; walk1)) | (leave1; walk_say "STEP leave1"; try dsimp only) | fail "no step"))
        k_dflt (refine tup_first (News.isTup (by k_asm) (by k_mem)) ?_)
        (repeat' (first | (k_unfold; (try dsimp only)) | (k_end; wrow_close) | ((fail_if_success (with_reducible show wpAny _ _ (subscriptTail _ _ (Value.ref _) (Value.int _ _)) _ _ _)); first | walk1 | (dsimp only; walk1)) | (leave1; walk_say "STEP leave1"; try dsimp only) | fail "no step"))
        k_dflt (refine tup_last (News.isTup (by k_asm) (by k_mem)) hlast (Nat.le_trans hl9 (by decide)) ?_)
        (repeat' (first | (k_unfold; (try dsimp only)) | (k_end; wrow_close) | ((fail_if_success (with_reducible show wpAny _ _ (compareOp _ (Value.ref _) (Value.ref _)) _ _ _)); first | walk1 | (dsimp only; walk1)) | (leave1; walk_say "STEP leave1"; try dsimp only) | fail "no step"))
        k_dflt (refine eq_due (News.isList (by k_asm) (by k_mem)) (News.isList (by k_asm) (by k_mem)) (News.get (by k_asm) (by k_mem)) (News.get (by k_asm) (by k_mem)) (News.get (by k_asm) (by k_mem)) (News.get (by k_asm) (by k_mem)) grains_eq grains_eq grains_eq grains_eq (Nat.ne_of_lt (allLt_mem (by assumption) mb0)) (Nat.ne_of_lt (allLt_mem (by assumption) mb1)) (by ktr_units) (by ktr_units) ?_)
        (repeat' (first | (k_unfold; (try dsimp only)) | (k_end; wrow_close) | ((fail_if_success (with_reducible show wpAny _ _ (call (Value.builtin _) [Value.ref _]) _ _ _)); first | walk1 | (dsimp only; walk1)) | (leave1; walk_say "STEP leave1"; try dsimp only) | fail "no step"))
        k_dflt (refine tup_len (News.isTup (by k_asm) (by k_mem)) (Nat.le_trans hl9 (by decide)) ?_)
        intro tL tkL
        k_steps
        all_goals (exact hret _ _ _ _ (by k_asm) (con_drop (by k_asm) (fun p hp => by simp only [List.mem_cons, hfin6 p hp, or_true])) ⟨congrArg Value.bool (decide_eq_true (Int.ofNat_le.mpr hl9)), w0, u0, w1, u1, n', row', nR', a5, a6, a7, rfl⟩)
end Fl
namespace Fl
theorem calm_K_law : True := by
  w_top off
  trivial
local macro_rules | `(tactic| k_mem) => `(tactic| (show (_ : Addr × Obj) ∈ (_ : List (Addr × Obj)); ktr_member))
local macro_rules | `(tactic| k_mem) => `(tactic| (show (_ : Addr × Obj) ∈ (_ ++ _ : List (Addr × Obj)); first | (refine List.mem_append.mpr (Or.inl ?_); k_mem) | (refine List.mem_append.mpr (Or.inr ?_); k_mem)))
local macro_rules | `(tactic| k_all) => `(tactic| first | (with_reducible assumption) | exact ne_upA (by assumption) (Nat.le_refl _) | exact ne_up (by assumption) (by omega))
local macro_rules | `(tactic| k_lt $h:ident) => `(tactic| (replace $h := allLt_of $h; (simp only [AllLt, allLt_app, and_assoc, and_true] at $h:ident); (repeat (have _ := And.left $h; replace $h := And.right $h))))
local macro_rules | `(tactic| k_ne) => `(tactic| (refine neN ?_; (try dsimp only); first | with_reducible assumption | exact Ne.symm (by with_reducible assumption) | omega))
local macro_rules | `(tactic| walk_at "compareOp Eq ref ref") => `(tactic| (k_here; (with_reducible show wpAny _ _ (compareOp CmpOp.Eq (Value.ref _) (Value.ref _)) _ _ _); k_dflt (first
  | refine eq_empty (News.isList (by k_asm) (by k_mem)) (News.isList (by k_asm) (by k_mem)) (by ktr_units) ?_
  | refine eq_full (News.isList (by k_asm) (by k_mem)) (News.isList (by k_asm) (by k_mem)) (by first | decide | simp; done) (by ktr_units) ?_)))

theorem no_raise {l : List Int} (h : decide (l = []) = false) (h2 : 0 < -(l.length : Int) ∨ (l.length : Int) ≤ 0) : False := by
  rcases l with _ | ⟨a, l⟩
  · simp at h
  · simp only [List.length_cons] at h2
    omega
theorem two_in {S R : Addr} {o oR : Obj} {all : Led} (h : (S, o) ∈ all) (h' : (R, oR) ∈ all) : ∀ p ∈ (S, o) :: (R, oR) :: ([] : Led), p ∈ all := by
  intro p hp
  simp only [List.mem_cons, List.not_mem_nil, or_false] at hp
  rcases hp with rfl | rfl <;> assumption
theorem row_nil : IntRow [] := ⟨(fun _ h => nomatch h), Nat.zero_le _⟩
theorem row_ints {vs : List Value} (h : ∀ v ∈ vs, ∃ i t, v = Value.int i t) (hl : vs.length ≤ 20) : IntRow vs := ⟨h, hl⟩
theorem law_holds : PySem.Challenge.rw_pf0204_01.Holds := hd (by
  k_go0
  all_goals (try k_fold)
  (repeat' (first | (k_unfold; (try dsimp only)) | (k_end; wrow_close) | ((fail_if_success (with_reducible show wpAny _ _ (call (Value.ref 345) _) _ _ _)); first | walk1 | (dsimp only; walk1)) | (leave1; walk_say "STEP leave1"; try dsimp only) | fail "no step"))
  all_goals first
    | exact (no_raise (by assumption) (by assumption)).elim
    | skip
  all_goals (
    (rename Fr _ _ _ _ => lF); (rename News _ _ _ _ => lN)
    refine con_use (right_con (rest := []) ?v1 ?v2 ?row ?ne (fun _ h => nomatch h) (fun _ h => nomatch h)) (by k_asm) lF (by k_asm) (con_drop lN (two_in (List.Mem.head _) (by k_mem))) (by k_asm) rfl (by ktr_room) (by ktr_units) ?_
    case v1 => exact Int.fmod_nonneg_of_pos _ (by decide)
    case v2 => exact Int.fmod_lt_of_pos _ (by decide)
    case ne => k_ne
    case row => first
      | exact row_nil
      | (refine row_ints ?_ (Nat.le_of_ble_eq_true rfl); simp only [List.forall_mem_cons]; and_intros <;> first | exact List.forall_mem_nil _ | exact ⟨_, _, rfl⟩)
    clear lF lN
    rintro r nw h5 tk5 F5 N5 ⟨rfl, v0, t0, v1, t1, n, row, nR, b1, b2, b3, rfl⟩
    (repeat' (first | (k_unfold; (try dsimp only)) | (k_end; wrow_close) | ((fail_if_success (with_reducible show wpAny _ _ (call (Value.ref 364) _) _ _ _)); first | walk1 | (dsimp only; walk1)) | (leave1; walk_say "STEP leave1"; try dsimp only) | fail "no step"))
    (rename Fr _ _ _ _ => lF); (rename News _ _ _ _ => lN)
    refine con_use (contour_con (rest := []) b1 b2 b3 ?ne (fun _ h => nomatch h) (fun _ h => nomatch h)) (by k_asm) lF (by k_asm) lN (by k_asm) rfl (by ktr_room) (by ktr_units) ?_
    case ne => k_ne
    clear lF lN
    rintro r nw h5 tk5 F5 N5 ⟨rfl, v0, t0, v1, t1, n, row, nR, b1, b2, b3, rfl⟩
    k_steps)
  all_goals trace_state)
end Fl
end
open PySem PySem.W PyProof.Rows
theorem PySem.Challenge.cw_pf0204_01_holds : PySem.Challenge.rw_pf0204_01.Holds := by
  exact Fl.law_holds
