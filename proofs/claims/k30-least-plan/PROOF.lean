import PyProof.Rows.All
import Wide.All
import OpenK.AllK
import Wide.FinOn
import HandS.ForMost
import HandS.Walk
import HandS.DictComp
import HandS.IsInst
import HandS.Zip
import HandS.Style
import HandS.TupAny
import HandS.More
import HandS.Wide
import HandS.NoneIn
import HandS.TupSets
import KE.SortData
import KE.GoesEnum
import PySem.Challenge.RW_putbetween_k30_whole_least_plan_is_least
set_option Elab.async false
set_option linter.all false
set_option maxRecDepth 100000
set_option maxHeartbeats 4000000
/-! The base: the text by places, heaps, data, rules that the layer lacks. -/
namespace Pb
open PySem PySem.Spec PyProof.Rows L2

/-! ### the text -/
def topS (i : Nat) : Stmt := PySem.Challenge.pw_putbetween_k30_whole_least_plan_is_least.main.body.getD i (.Pass ⟨0, 0, 0, 0⟩)

/-! ### heaps -/
theorem same_new {H : Hp} {p : Addr} (h : H p = none) (o : HO) : Same H (upd H p o) := fun b u q => by
  rw [upd_ne (ne_of_none q h)]
  exact q
/-- all that is no list is kept -/
def LSame (H H' : Hp) : Prop := ∀ b o, H b = some o → (∀ xs, o ≠ .lst xs) → H' b = some o
theorem LSame.refl (H : Hp) : LSame H H := fun _ _ h _ => h
theorem LSame.trans {H H1 H2 : Hp} (a : LSame H H1) (b : LSame H1 H2) : LSame H H2 := fun c o h n => b c o (a c o h n) n
theorem s_ls {H H' : Hp} (s : Same H H') : LSame H H' := fun b o h _ => s b o h
/-- all but one cell is kept -/
def But (a : Addr) (H H' : Hp) : Prop := ∀ b o, b ≠ a → H b = some o → H' b = some o
theorem But.refl {a : Addr} (H : Hp) : But a H H := fun _ _ _ h => h
theorem But.trans {a : Addr} {H H1 H2 : Hp} (s : But a H H1) (t : But a H1 H2) : But a H H2 := fun c o n h => t c o n (s c o n h)
theorem s_but {a : Addr} {H H' : Hp} (s : Same H H') : But a H H' := fun b o _ h => s b o h
theorem But.ls {a : Addr} {H H' : Hp} {xs : List V} (s : But a H H') (h : H a = some (.lst xs)) : LSame H H' := fun b o e n => by
  refine s b o (fun z => ?_) e
  subst z
  rw [h] at e
  exact n xs (Option.some.inj e).symm
theorem But.upd {a : Addr} (H : Hp) (o : HO) : But a H (upd H a o) := fun b u n h => by
  rw [upd_ne n]
  exact h
/-- a cell that was free before is changed -/
theorem s_then {H H' : Hp} {a : Addr} (s : Same H H') (n : H a = none) (o : HO) : Same H (upd H' a o) := fun b u e => by
  rw [upd_ne (ne_of_none e n)]
  exact s b u e
theorem s_thenB {H H1 H2 : Hp} {a : Addr} (s : Same H H1) (n : H a = none) (t : But a H1 H2) : Same H H2 := fun b u e => t b u (ne_of_none e n) (s b u e)
theorem s_seqT {K : PySem.W.Frag} {H H' : Hp} {a : Addr} {xs : List V} (e : Same H H') (h : SqT K H a xs) : SqT K H' a xs :=
  Or.imp_left (Or.imp (e a _) fun q => q.imp fun o => e a _) h
theorem LSame.seqT {K : PySem.W.Frag} {H H' : Hp} {a : Addr} {xs : List V} (e : LSame H H') (h : SqT K H a xs) : SqT K H' a xs :=
  Or.imp_left (Or.imp (fun q => e a _ q nofun) fun q => q.imp fun o z => e a _ z nofun) h
theorem tupOf {K : PySem.W.Frag} {H : Hp} {a : Addr} {xs : List V} (h : H a = some (.tup xs)) : SqT K H a xs := .inl (.inl h)
theorem lstOf {K : PySem.W.Frag} {H : Hp} {a : Addr} {xs : List V} (h : H a = some (.lst xs)) : SqL K H a xs := .inl (.inl h)
theorem sz1000 {n : Nat} (h : n ≤ 100000) : n ≤ sizeLine := Nat.le_trans h (by decide)
theorem sz1000' {n : Nat} (h : n ≤ 100000) : n < sizeLine := Nat.lt_of_le_of_lt h (by decide)

/-! ### data -/
def iv (n : Nat) : V := .int (n : Int)
/-- a tuple of numbers -/
def NT (K : PySem.W.Frag) (H : Hp) (x : V) (r : List Nat) : Prop := ∃ p, x = .ref p ∧ SqT K H p (r.map iv)
/-- a tuple of tuples of numbers -/
def NN (K : PySem.W.Frag) (H : Hp) (x : V) (rows : List (List Nat)) : Prop := ∃ p vs, x = .ref p ∧ SqT K H p vs ∧ Paired (NT K H) vs rows
/-- a tuple of ints -/
def ZT (K : PySem.W.Frag) (H : Hp) (x : V) (r : List Int) : Prop := ∃ p, x = .ref p ∧ SqT K H p (r.map V.int)
section
variable {K : PySem.W.Frag} {H H' : Hp} {x : V}
theorem NT.ls {r : List Nat} (e : LSame H H') (h : NT K H x r) : NT K H' x r := let ⟨p, a, b⟩ := h; ⟨p, a, e.seqT b⟩
theorem ZT.ls {r : List Int} (e : LSame H H') (h : ZT K H x r) : ZT K H' x r := let ⟨p, a, b⟩ := h; ⟨p, a, e.seqT b⟩
theorem NN.ls {r : List (List Nat)} (e : LSame H H') (h : NN K H x r) : NN K H' x r := let ⟨p, vs, a, b, c⟩ := h; ⟨p, vs, a, e.seqT b, Paired.mapP c fun _ _ q => q.ls e⟩
end
theorem paired_len {α β : Type} {R : α → β → Prop} {xs : List α} {ys : List β} (p : Paired R xs ys) : xs.length = ys.length := Paired.length p
theorem paired_flip {α β : Type} {R : α → β → Prop} {xs : List α} {ys : List β} (p : Paired R xs ys) : Paired (fun y x => R x y) ys xs := by
  induction p with
  | nil => exact .nil
  | cons r _ ih => exact .cons r ih
theorem paired_at {α β : Type} {R : α → β → Prop} {xs : List α} {ys : List β} (p : Paired R xs ys) : ∀ (i : Nat) (x : α), xs[i]? = some x → ∃ y, ys[i]? = some y ∧ R x y := by
  induction p with
  | nil => exact fun i x h => nomatch h
  | cons r _ ih =>
    rintro (_ | i) x h
    · exact ⟨_, rfl, Option.some.inj h ▸ r⟩
    · exact ih i x h
theorem paired_get {α β : Type} {R : α → β → Prop} {xs : List α} {ys : List β} (p : Paired R xs ys) {i : Nat} {x : α} (h : xs[i]? = some x) : ∃ y, ys[i]? = some y ∧ R x y := paired_at p i x h
theorem paired_get' {α β : Type} {R : α → β → Prop} {xs : List α} {ys : List β} (p : Paired R xs ys) {i : Nat} {y : β} (h : ys[i]? = some y) : ∃ x, xs[i]? = some x ∧ R x y := paired_at (paired_flip p) i y h
theorem paired_of {α β : Type} {R : α → β → Prop} {xs : List α} : ∀ {ys : List β}, xs.length = ys.length → (∀ (i : Nat) (x : α) (y : β), xs[i]? = some x → ys[i]? = some y → R x y) → Paired R xs ys := by
  induction xs with
  | nil => intro ys hl _; cases ys with
    | nil => exact .nil
    | cons => cases hl
  | cons x xs ih => intro ys hl f; cases ys with
    | nil => cases hl
    | cons y ys => exact .cons (f 0 x y rfl rfl) (ih (Nat.succ.inj hl) fun i a b ha hb => f (i + 1) a b ha hb)
theorem paired_app {α β : Type} {R : α → β → Prop} : ∀ {xs xs' : List α} {ys ys' : List β}, Paired R xs ys → Paired R xs' ys' → Paired R (xs ++ xs') (ys ++ ys')
  | _, _, _, _, .nil, s => s
  | _, _, _, _, .cons r t, s => .cons r (paired_app t s)
theorem map_get {α β : Type} {f : α → β} {l : List α} {i : Nat} {x : α} (h : l[i]? = some x) : (l.map f)[i]? = some (f x) := by
  rw [List.getElem?_map, h]
  rfl
theorem get_map {α β : Type} {f : α → β} {l : List α} {i : Nat} {y : β} (h : (l.map f)[i]? = some y) : ∃ x, l[i]? = some x ∧ y = f x := by
  rw [List.getElem?_map] at h
  obtain ⟨x, hx, e⟩ := Option.map_eq_some_iff.1 h
  exact ⟨x, hx, e.symm⟩
theorem get_lt {α : Type} {l : List α} {i : Nat} {x : α} (h : l[i]? = some x) : i < l.length := (List.getElem?_eq_some_iff.mp h).1
theorem lt_get {α : Type} {l : List α} {i : Nat} (h : i < l.length) : ∃ x, l[i]? = some x := ⟨l[i], List.getElem?_eq_getElem h⟩

/-! ### a def that may be called -/
structure Cal (P : Program) (w : World) (K : PySem.W.Frag) (mg : Str → Option Value) (base : Heap) (k : Nat) (nm : Str) (ps : List Str) (sp : Sp) (f : Addr) (fd : FuncData) : Prop where
  ok : FnOk P w K mg base CX0 k f fd ps sp
  m : mg nm = some (.ref f)
  kp : PySem.W.keepIn K (.ref f) = true
  b : Binds K fd ps []
section
variable {X : Cx}
theorem pe_c {k : Nat} {nm : Str} {ps : List Str} {sp : Sp} {f : Addr} {fd : FuncData} {e : Expr} {es : List Expr} {t : TA} {p pos : Pos} (C : Cal X.prog X.w X.K X.mg X.base k nm ps sp f fd) (hr : Room k X.A) (ha : PA X (e :: es) t) (hg : Gl X nm := by rfl)
    (hdb : (nm == ("__debug__" : Str)) = false := by decide) (he : starEach (e :: es) X.env = (false, eval e X.env) :: starEach es X.env := by rfl) (hpl : (backTo pos (starEach es X.env)).any (·.1) = false := by rfl) :
    PE X (.Call (.Name nm p) (e :: es) [] pos) (tCall sp [] E0 t) := pe_call C.ok hr hg C.m C.kp C.b .nil pass0 ha hdb he hpl
end

/-! ### comprehensions -/
theorem yes_mk {A B : Hp → Prop} {σ : L2.St} {H : Hp} (h : A H) : tYes σ H (fun b H3 => if b = true then A H3 else B H3) := by
  unfold tYes
  exact iteT h
theorem wipe_set (σ : L2.St) (j : Nat) (o : Option V) : wipe ((wipe σ [j]).set j o) [j] = wipe σ [j] := by
  show (((σ.set j none).set j o).set j none) = σ.set j none
  rw [List.set_set, List.set_set]
section
variable {G : Hp → Prop} {Y : Nat → Hp → V → Hp → Prop} {n : Nat} {J : It}
/-- a turn of a list comprehension at the item x; N is to hold ahead of the next turn -/
abbrev LTurn (g : TG) (tt : L2.TT) (te : TE) (own : List Nat) (σ : L2.St) (D : Addr) (x : V) (Hx : Hp) (N : Hp → Prop) : Prop :=
  g x (wipe σ own) Hx fun τ Ht => wipe τ own = wipe σ own ∧
    tt τ Ht fun yes Hy =>
      if yes = true then
        te τ Hy fun y He => ∃ acc, He D = some (.lst acc) ∧
          acc.length < sizeLine ∧ N (upd He D (.lst (acc ++ [y])))
      else N Hy
/-- the turns of a list comprehension into the new list at D, told by what stands ahead of each -/
abbrev LTurns (J : It) (g : TG) (tt : L2.TT) (te : TE) (own : List Nat) (σ : L2.St) (H1 : Hp) (D : Addr) (Qd : Hp → Prop) : Prop :=
  ∃ W : Nat → Nat → Hp → Prop,
    (∃ m, W 0 m (upd H1 D (.lst []))) ∧
    ∀ i m H, W i m H →
      (J.stop i H ∧ Qd H) ∨
      (J.go i H ∧ ∃ N : Hp → Prop,
        (∀ Hn, N Hn → ∃ k, k < m ∧ W (i + 1) k Hn) ∧
        ∀ x Hx, J.yld i H x Hx → LTurn g tt te own σ D x Hx N)
/-- [e for x in ..]: nothing but the new list changes -/
theorem lc_map (w : Walk J n G Y) {H1 : Hp} {D : Addr} {j : Nat} {σ : L2.St} {te : TE} {Qd : Hp → Prop} (hD : H1 D = none) (Yv : Nat → V → Prop) (hY : ∀ i H x H', Y i H x H' → H' = H ∧ Yv i x) (hG : ∀ Hc, Same H1 Hc → G Hc)
    (E : Nat → V → Hp → Prop) (sE : ∀ i y H H', LSame H H' → E i y H → E i y H') (hn : n ≤ 100000)
    (turn : ∀ i x Hc (Qt : VK), i < n → Same H1 Hc → Yv i x → (∀ y H', Same Hc H' → E i y H' → Qt y H') → te ((wipe σ [j]).set j (some x)) Hc Qt)
    (done : ∀ Hd ys, Same H1 Hd → Hd D = some (.lst ys) → ys.length = n → (∀ i y, ys[i]? = some y → E i y Hd) → Qd Hd) :
    LTurns J (gName j) tYes te [j] σ H1 D Qd := by
  refine lc_it w (Qd := Qd) (fun i Hc => Same H1 Hc ∧ ∃ acc, Hc D = some (.lst acc) ∧ acc.length = i ∧ ∀ m y, acc[m]? = some y → E m y Hc) ⟨same_new hD _, [], upd_same, rfl, fun m y h => by simp at h⟩ (fun i Hc _ p => hG Hc p.1) ?_ ?_
  · rintro i x Hc H' hi ⟨s, acc, hacc, hl, hE⟩ y
    obtain ⟨rfl, yv⟩ := hY i _ x _ y
    show wipe ((wipe σ [j]).set j (some x)) [j] = wipe σ [j] ∧ _
    refine ⟨wipe_set σ j _, ?_⟩
    refine yes_mk ?_
    refine turn i x H' _ hi s yv fun z H4 s4 e4 => ⟨acc, s4 _ _ hacc, sz1000' (by omega), s_then (s.trans s4) hD _, acc ++ [z], upd_same, by simp [hl], fun m u hm => ?_⟩
    have ls : LSame H4 (upd H4 D (.lst (acc ++ [z]))) := (But.upd H4 _).ls (s4 _ _ hacc)
    by_cases h : m < acc.length
    · rw [List.getElem?_append_left h] at hm
      exact sE _ _ _ _ ((s_ls s4).trans ls) (hE m u hm)
    · have e : m = acc.length := by
        have := get_lt hm
        rw [List.length_append, List.length_singleton] at this
        omega
      subst e
      rw [List.getElem?_concat_length] at hm
      cases hm
      rw [hl]
      exact sE _ _ _ _ ls e4
  · rintro Hd ⟨s, acc, hacc, hl, hE⟩
    exact done Hd acc s hacc hl hE
/-- [x for x in xs if t] -/
theorem lc_filter {xs : List V} (w : Walk J xs.length G Y) {H1 : Hp} {D : Addr} {j : Nat} {σ : L2.St} {tt : L2.TT} {Qd : Hp → Prop} (hD : H1 D = none) (hY : ∀ i H x H', Y i H x H' → H' = H ∧ xs[i]? = some x) (hG : ∀ Hc, Same H1 Hc → G Hc)
    (p : V → Bool) (hn : xs.length ≤ 100000) (hj : j < σ.length)
    (turn : ∀ (i : Nat) x Hc (Qt : Bool → Hp → Prop), xs[i]? = some x → Same H1 Hc → (∀ H', Same Hc H' → Qt (p x) H') → tt ((wipe σ [j]).set j (some x)) Hc Qt)
    (done : ∀ Hd, Same H1 Hd → Hd D = some (.lst (xs.filter p)) → Qd Hd) :
    LTurns J (gName j) tt (tVar j) [j] σ H1 D Qd := by
  refine lc_it w (Qd := Qd) (fun i Hc => Same H1 Hc ∧ Hc D = some (.lst ((xs.take i).filter p))) ⟨same_new hD _, upd_same⟩ (fun i Hc _ p => hG Hc p.1) ?_ ?_
  · rintro i x Hc H' hi ⟨s, hacc⟩ y
    obtain ⟨rfl, yv⟩ := hY i _ x _ y
    show wipe ((wipe σ [j]).set j (some x)) [j] = wipe σ [j] ∧ _
    refine ⟨wipe_set σ j _, ?_⟩
    refine turn i x H' _ yv s fun H4 s4 => ?_
    have et : (xs.take (i + 1)).filter p = (xs.take i).filter p ++ if p x = true then [x] else [] := by
      rw [List.take_add_one, yv, List.filter_append]
      show _ ++ List.filter p [x] = _
      cases hp : p x <;> simp [hp]
    cases hp : p x with
    | true =>
      rw [if_pos rfl]
      rw [hp, if_pos rfl] at et
      refine ⟨x, ?_, (xs.take i).filter p, s4 _ _ hacc, ?_, s_then (s.trans s4) hD _, ?_⟩
      · show ((σ.set j none).set j (some x))[j]? = some (some x)
        rw [List.set_set, List.getElem?_set_self hj]
      · have a := List.length_filter_le p (xs.take i)
        have b := List.length_take_le i xs
        exact sz1000' (by rw [List.length_take] at a; omega)
      · rw [upd_same, et]
    | false =>
      rw [hp, if_neg Bool.false_ne_true, List.append_nil] at et
      rw [if_neg nofun]
      exact ⟨s.trans s4, by rw [et]; exact s4 _ _ hacc⟩
  · rintro Hd ⟨s, hacc⟩
    rw [List.take_length] at hacc
    exact done Hd s hacc
end
theorem yat {xs : List V} : ∀ i H x H', YAt xs i H x H' → H' = H ∧ xs[i]? = some x := fun _ _ _ _ h => h
theorem yfn {f : Nat → V} : ∀ i H x H', YFn f i H x H' → H' = H ∧ x = f i := fun _ _ _ _ h => h
end Pb

namespace Pb
open PySem PySem.Spec PyProof.Rows L2

/-! ### enumerate(tuple) -/
/-- the tuple's iterator, nothing taken yet -/
abbrev tupIt (l : Addr) : Obj := { cls := .type "tuple_iterator", data := .fields #[.ref l, .int 0 0] }
/-- what enumerate makes over the iterator at n -/
abbrev enmOf (n : Nat) : Obj := { cls := .type "enumerate", data := .fields #[.none, .bool false, .ref n, rawInt 0, .none, .none] }
/-- the heap with both new cells -/
abbrev enmHeap (h : Heap) (l : Addr) : Heap := (h.push (tupIt l)).push (enmOf h.objs.size)
theorem enm_new (l : Addr) : Meets (Builtin.«enumerate.__new__» ⟨[.type "enumerate", .ref l], []⟩)
    (fun _ R s => (∃ its, s.heap.IsTuple l its) ∧ R (.ok (.ret (.ref (s.heap.push (tupIt l)).objs.size))) { s with heap := enmHeap s.heap l }) := by
  refine .of_wp fun P w A R s ht => ?_
  rcases s with ⟨h, gs, dr, ts, os⟩
  rcases ht with ⟨⟨its, ht⟩, hR⟩
  have sub := sub_enumerate
  have start : ∀ {B : Around} {E Q : Value → Shared → Prop}, Q (.ref h.objs.size) ⟨h.push (tupIt l), gs, dr, ts, os⟩ → wpAny (model P w) B (pyIter (.ref l)) Q E ⟨h, gs, dr, ts, os⟩ := wpAny_pyIter_tuple ht
  wp_walk using start
  apply wpAny_stack_any
  intro st
  apply wpAny_pure
  split
  case h_1 k _ _ _ _ _ =>
    rcases (k == Value.type "enumerate") with _ | _ <;> (wp_walk using start; exact ⟨_, rfl, hR⟩)
  case h_2 => wp_walk using start; exact ⟨_, rfl, hR⟩
/-- enumerate of a tuple: two new cells, all others as they were -/
theorem enm_call {P : Program} {w : World} {A : Around} {E Q : Value → Shared → Prop} {s : Shared} {l : Addr} {its : Array Value} (ht : s.heap.IsTuple l its)
    (q : IsEnum (enmHeap s.heap l) (s.heap.objs.size + 1) s.heap.objs.size 0 .none → (enmHeap s.heap l).IsTupleIter s.heap.objs.size l 0 →
      (∀ b o, s.heap.get? b = some o → (enmHeap s.heap l).get? b = some o) → Q (.ref (s.heap.objs.size + 1)) { s with heap := enmHeap s.heap l }) :
    wpAny (model P w) A (call (.type "enumerate") [.ref l]) Q E s := by
  have one : (s.heap.push (tupIt l)).objs.size = s.heap.objs.size + 1 := Heap.size_push ..
  have atI := Heap.get?_push_size s.heap (o := tupIt l) rfl
  have atE := Heap.get?_push_size (s.heap.push (tupIt l)) (o := enmOf s.heap.objs.size) rfl
  have old : ∀ b o, s.heap.get? b = some o → (enmHeap s.heap l).get? b = some o := fun b o z =>
    Heap.get?_push_of_some _ (Heap.get?_push_of_some _ z)
  rw [one] at atE
  have fin := q atE ⟨tupIt l, Heap.get?_push_of_some _ atI, rfl, rfl⟩ old
  rw [← one] at fin atE
  exact callType_new F.called_enumerate (by decide) (F.typeCall_enumerate_1 _) (F.newCall_enumerate_1 _)
    (fun ob => F.args_object_init_2 ob _) F.entry_enumerate_new (enm_new l) ⟨⟨its, ht⟩, ⟨_, atE, rfl⟩, fin⟩
/-- the tuple at a of n items, each in a new pair with its number -/
def IteT (K : PySem.W.Frag) (a : Addr) (n : Nat) : It where
  go i H := i < n ∧ ∃ xs, SqT K H a xs ∧ xs.length = n
  yld i H v H' := ∃ T x, v = .ref T ∧ H T = none ∧ H' = upd H T (.tup [.int (i : Nat), x]) ∧
    ∀ xs, SqT K H a xs → xs[i]? = some x
  stop i H := n ≤ i ∧ ∃ xs, SqT K H a xs ∧ xs.length = n
/-- what stands of the enumerate at e over the iterator at it, i items of n taken -/
def EnmAt (a e it : Addr) (n i : Nat) (h : Heap) : Prop := i ≤ n ∧ (∃ old, IsEnum h e it i old) ∧ h.IsTupleIter it a i ∧ e ≠ it
theorem enm_turn {P : Program} {w : World} {K : PySem.W.Frag} {elts : List Expr} {kk : Nat} {tpos : Pos} {a e it : Addr} {n : Nat} (ai : a ≠ it) (ae : a ≠ e) :
    Turn P w K (.Tuple elts kk tpos) (IteT K a n) [e, it] e (EnmAt a e it n) := by
  have two : ∀ {b : Addr}, b ∈ [e, it] → b = e ∨ b = it := fun hb => by simpa using hb
  have walks : ∀ (X : Cx), X.A.handled = none → ∀ its : Array Value, e ≠ it →
      WalksT X.prog X.w X.A e [e, it, a] [e, it] its.size _ _ _ := fun X hh its ne =>
    WalksT.enumerateD (Draws.tuple (A := X.A.in1) hh it a ai its) e ne (by simp [ne, Ne.symm ae]) (by simp)
  constructor
  · exact List.mem_cons_self
  · rintro i h ⟨-, ⟨old, atE⟩, ⟨oi, atI, -, di⟩, -⟩ b hb
    rcases two hb with rfl | rfl
    · exact ⟨_, atE, nofun⟩
    · exact ⟨oi, atI, by rw [di]; exact nofun⟩
  · rintro i h h' ⟨le, ⟨old, atE⟩, ti, ne⟩ same
    exact ⟨le, ⟨old, same _ (by simp) _ atE⟩, ti.at fun o => same _ (by simp) o, ne⟩
  · rintro X rfl rfl rfl calm i pins s σ H E I free ⟨-, atE, ti, ne⟩ ⟨lt, xs, hs, hl⟩
    obtain ⟨its, vals, hT, _⟩ := I.tuple hs
    obtain ⟨x, hx⟩ := lt_get (l := xs) (hl ▸ lt)
    obtain ⟨u, hu, xu⟩ := vals.get hx
    have wk := walks X (I.ok.hd calm) its.toArray ne
    apply wk.item i s _ E (get_lt hu) ⟨atE, ti, hT⟩
    rintro T _ h1 tk ⟨t, y, hy, rfl⟩ newT pair mid same1
    have yu : y = u := Option.some.inj (hy.symm.trans (by simpa using hu))
    subst yu
    refine ⟨.ref T, rfl, wk.go elts kk tpos i T _ _ _ mid fun h2 after same2 => ?_⟩
    have apart := wk.apart i T h1 mid
    have pair2 : h2.IsTuple T #[.int i t, y] := pair.at fun o => same2 T o apart
    have ok : ObjOk X.prog X.w (upd H T (.tup [.int (i : Nat), x])) h2 T (.tup [.int (i : Nat), x]) :=
      ⟨show 2 ≤ sizeLine by decide, [.int i t, y], .cons ⟨t, rfl⟩ (.cons xu .nil), pair2⟩
    have I2 := I.turnedNew (t' := tk) (ch := [e, it]) (fun b o out z => same2 b o out (same1 b o out z)) free newT ok
    refine ⟨.ref T, _, I2, rfl, ⟨T, x, rfl, I.hok.fresh newT, rfl, fun ys hy => I.tuple_inj hs hy ▸ hx⟩, ⟨lt, after.1, after.2.1, ne⟩, fun b hb => ?_⟩
    have bT : b ≠ T := fun z => apart (by rw [← z]; exact hb)
    rw [upd_ne bT]
    exact (free b hb).1
  · rintro X rfl rfl rfl calm i pins s σ H E I free ⟨le, atE, ti, ne⟩ ⟨ge, xs, hs, hl⟩
    obtain ⟨its, vals, hT, _⟩ := I.tuple hs
    have all : its.toArray.size = i := by
      have := vals.length
      simp only [List.size_toArray]
      omega
    have wk := walks X (I.ok.hd calm) its.toArray ne
    rw [all] at wk
    exact wk.done s _ E ⟨atE, ti, hT⟩ fun h1 tk same => ⟨rfl, I.turnedL same free⟩
  · rintro A i s Q E ⟨-, ⟨old, atE⟩, -⟩ q
    exact wpAny_pyIter_enum atE q
def iEnumT (K : PySem.W.Frag) (ta : TA) : TI := fun σ H R => ta σ H fun vs H1 => ∃ a xs, vs = [.ref a] ∧ SqT K H1 a xs ∧ R (IteT K a xs.length) H1
theorem pi_enumT {X : Cx} {e : Expr} {ta : TA} {p pos tpos : Pos} {elts : List Expr} {kk : Nat} (hg : Gl X "enumerate") (hm : X.mg "enumerate" = none) (ha : PA X [e] ta)
    (hs : starEach [e] X.env = [(false, eval e X.env)] := by rfl) : PI X (.Tuple elts kk tpos) (.Call (.Name "enumerate" p) [e] [] pos) (iEnumT X.K ta) := by
  constructor
  intro pins s σ H R I h
  have args := ha.run pos pins s σ H _ I h
  refine Call_ (ld_blt I hg hm boot_enumerate ?_)
  refine PyProof.Rows.callWith_type1 (thn args ?_) hs rfl
  rintro us s1 ⟨_, H1, I1, vals, a, xs, rfl, hq, fin⟩
  obtain _ | ⟨⟨⟩, ⟨⟩⟩ := vals
  obtain ⟨its, rv, hT, _⟩ := I1.tuple hq
  have lt : a < s1.heap.objs.size := hT.elim fun o z => Heap.lt_size z.1
  have fresh : ∀ k b, b = s1.heap.objs.size + k → FpOk X pins H1 b := fun k b z =>
    I1.fpOk (z ▸ Nat.le_add_right ..) (I1.hok.fresh (z ▸ Nat.le_add_right ..))
  refine enm_call hT fun atE ti old => wpAny_pyIter_enum atE ?_
  have ne : s1.heap.objs.size + 1 ≠ s1.heap.objs.size := Nat.succ_ne_self _
  refine ⟨_, [s1.heap.objs.size + 1, s1.heap.objs.size], _, _, H1, rfl, I1.kept (t' := s1.toks) old,
    enm_turn (a := a) (n := xs.length) (Nat.ne_of_lt lt) (Nat.ne_of_lt (Nat.lt_succ_of_lt lt)), ⟨Nat.zero_le _, ⟨_, atE⟩, ti, ne⟩, ?_, fin⟩
  simp only [List.mem_cons, List.not_mem_nil, or_false]
  rintro b (z | z)
  · exact fresh 1 b z
  · exact fresh 0 b z
theorem walk_enumT {K : PySem.W.Frag} {a : Addr} {xs : List V} : Walk (IteT K a xs.length) xs.length (fun H => SqT K H a xs) (YPair (fun i => some (.int (i : Nat))) (xs[·]?)) where
  goes i H lt q := ⟨lt, xs, q, rfl⟩
  stops H q := ⟨Nat.le_refl _, xs, q, rfl⟩
  yields i H v H' _ q := fun ⟨T, x, e, f, u, z⟩ => ⟨T, _, x, e, f, u, rfl, z xs q⟩
theorem walk_zipT {K : PySem.W.Frag} {a b : Addr} {xs ys : List V} {n : Nat} (hn : n = min xs.length ys.length) :
    Walk (RZ.ItzT K a b) n (fun H => SqT K H a xs ∧ SqT K H b ys) (YPair (xs[·]?) (ys[·]?)) where
  goes i H lt q := by
    obtain ⟨x, hx⟩ := lt_get (l := xs) (by omega : i < _)
    obtain ⟨y, hy⟩ := lt_get (l := ys) (by omega : i < _)
    exact ⟨xs, ys, x, y, q.1, q.2, hx, hy⟩
  stops H q := ⟨xs, ys, q.1, q.2, by omega⟩
  yields i H v H' _ q := fun ⟨T, x, y, e, f, u, p1, p2⟩ => ⟨T, x, y, e, f, u, p1 xs q.1, p2 ys q.2⟩

/-! ### sorted of tuples of data -/
def rSortedDt (K : PySem.W.Frag) : List V → Hp → VK → Prop := fun vs H Q => ∃ (a : Addr) (xs : List V) (β : Type) (bs : List β) (enc : β → PyData) (E : V → β → Prop), vs = [V.ref a] ∧ SqL K H a xs ∧ Paired E xs bs ∧ (∀ x b, E x b → Dp K H x (enc b)) ∧
  (∀ b b', PySem.W.alike (enc b) (enc b') = true) ∧ PySem.W.Sortable (bs.map enc) ∧ bs.length ≤ 100000 ∧ (∀ b, (enc b).depth ≤ 20) ∧
  ∀ ys p, Paired E ys (bs.mergeSort (PySem.W.dataLe false enc)) → H p = none → Q (.ref p) (upd H p (.lst ys))
theorem each_of {β : Type} {R : Value → β → Prop} {us : List Value} {bs : List β} (hl : us.length = bs.length) (f : ∀ (i : Nat) (u : Value) (b : β), us[i]? = some u → bs[i]? = some b → R u b) : PySem.W.EachIs R us bs := by
  have p := paired_of hl f
  clear f hl
  induction p with
  | nil => exact .nil
  | cons r _ ih => exact .cons r ih
theorem each_back {β : Type} {E : V → β → Prop} : ∀ {us : List Value} {bs : List β}, PySem.W.EachIs (fun u b => ∃ x, RelV x u ∧ E x b) us bs → ∃ ys, Vals ys us ∧ Paired E ys bs
  | _, _, .nil => ⟨[], .nil, .nil⟩
  | _, _, .cons ⟨x, r, e⟩ t => by
    obtain ⟨ys, a, b⟩ := each_back t
    exact ⟨x :: ys, .cons r a, .cons e b⟩
theorem cr_sortedDt {X : Cx} (hu : X.A.units + 64 < cLine) : CallR X (.builtin "sorted") (rSortedDt X.K) := by
  intro pins s σ H vs us Q I r h
  obtain ⟨a, xs, β, bs, enc, E, rfl, hs, hE, hD, hal, hk, hL, hd, q⟩ := h
  obtain _ | ⟨⟨⟩, ⟨⟩⟩ := r
  have ⟨its, rv, hl, _⟩ := I.list hs
  have l1 := paired_len hE
  have l2 := rv.length
  have each : ∀ (i : Nat) (v : Value) (b : β), its[i]? = some v → bs[i]? = some b → ∃ x, RelV x v ∧ E x b := fun i v b hv hb => by
    obtain ⟨x, hx, e⟩ := paired_get' hE hb
    obtain ⟨v', hv', rr⟩ := rv.get hx
    rw [hv] at hv'
    cases hv'
    exact ⟨x, rr, e⟩
  refine PySem.W.sorted_data (bs := bs) (enc := enc) (R := fun u b => ∃ x, RelV x u ∧ E x b) hl.isList (each_of (l2.symm.trans l1) each) (each_of (l2.symm.trans l1) fun i v b hv hb => ?_) (PySem.W.AllAlike.of hal) hk (sz1000 hL) (fun b _ => ?_) fun out ho he => ?_
  · obtain ⟨x, rr, e⟩ := each i v b hv hb
    exact Dp.reads I (enc b) x v (hD x b e) rr
  · have := hd b
    omega
  · obtain ⟨ys, va, pe⟩ := each_back he
    have hd' : H (s.heap.objs.size + 1) = none := I.hok.fresh (Nat.le_succ _)
    obtain ⟨n, hn⟩ := sortedAll_at s.heap its (List.toArray out)
    refine ⟨.ref (s.heap.objs.size + 1), upd H (s.heap.objs.size + 1) (.lst ys), I.laid (t' := s.toks) (fun b o e => sortedAll_old e) (Nat.le_succ _) ⟨?_, out, n, va, hn⟩, rfl, q ys _ pe hd'⟩
    have := va.length
    rw [this, ho]
    exact sz1000 hL

/-! ### dict comprehensions -/
/-- a turn of a dict comprehension at the item x; N is to hold ahead of the next turn -/
abbrev DTurn (g : TG) (tt : L2.TT) (tk tv : TE) (own : List Nat) (σ : L2.St) (D : Addr) (x : V) (Hx : Hp) (N : Hp → Prop) : Prop :=
  g x (wipe σ own) Hx fun τ Ht => wipe τ own = wipe σ own ∧
    tt τ Ht fun yes Hy =>
      if yes = true then
        tk τ Hy fun y Hk => tv τ Hk fun z Hv =>
          ∃ ps k, y = kV k ∧ Hv D = some (.dK ps) ∧
            ps.length < sizeLine ∧ N (upd Hv D (.dK (putK ps k z)))
      else N Hy
/-- the turns of a dict comprehension into the new dict at D, told by what stands ahead of each -/
abbrev DTurns (J : It) (g : TG) (tt : L2.TT) (tk tv : TE) (own : List Nat) (σ : L2.St) (H1 : Hp) (D : Addr) (Qd : Hp → Prop) : Prop :=
  ∃ W : Nat → Nat → Hp → Prop,
    (∃ m, W 0 m (upd H1 D (.dK []))) ∧
    ∀ i m H, W i m H →
      (J.stop i H ∧ Qd H) ∨
      (J.go i H ∧ ∃ N : Hp → Prop,
        (∀ Hn, N Hn → ∃ k, k < m ∧ W (i + 1) k Hn) ∧
        ∀ x Hx, J.yld i H x Hx → DTurn g tt tk tv own σ D x Hx N)
/-- over n items, by what stands ahead of each turn: the turns left are the measure -/
theorem dc_it {J : It} {n : Nat} {G : Hp → Prop} {Y : Nat → Hp → V → Hp → Prop} (w : Walk J n G Y) {g : TG} {tt : L2.TT} {tk tv : TE} {own : List Nat} {σ : L2.St} {H1 : Hp} {D : Addr} {Qd : Hp → Prop}
    (At : Nat → Hp → Prop) (first : At 0 (upd H1 D (.dK []))) (src : ∀ i H, i ≤ n → At i H → G H)
    (turn : ∀ i x H Hx, i < n → At i H → Y i H x Hx → DTurn g tt tk tv own σ D x Hx (At (i + 1))) (last : ∀ H, At n H → Qd H) :
    DTurns J g tt tk tv own σ H1 D Qd := by
  refine ⟨fun i m H => i + m = n ∧ At i H, ⟨n, Nat.zero_add n, first⟩, ?_⟩
  rintro i (_ | m) H ⟨e, at_⟩
  · obtain rfl : i = n := e
    exact .inl ⟨w.stops H (src i H (Nat.le_refl i) at_), last H at_⟩
  · have lt : i < n := by omega
    have s := src i H (Nat.le_of_lt lt) at_
    exact .inr ⟨w.goes i H lt s, At (i + 1), fun Hn a => ⟨m, Nat.lt_succ_self m, by omega, a⟩,
      fun x Hx y => turn i x H Hx lt at_ (w.yields i H x Hx lt s y)⟩
theorem putK_new {κ : Type} [DecidableEq κ] {kvs : List (κ × V)} {k : κ} {v : V} (h : ∀ p ∈ kvs, p.1 ≠ k) : putK kvs k v = kvs ++ [(k, v)] := by
  unfold putK
  rw [if_neg]
  intro q
  rw [List.any_eq_true] at q
  obtain ⟨p, hp, e⟩ := q
  exact h p hp (of_decide_eq_true e)
theorem valV_at {κ : Type} [DecidableEq κ] {kvs : List (κ × V)} : ∀ {i : Nat} {k : κ} {v : V}, (kvs.map (·.1)).Nodup → kvs[i]? = some (k, v) → valV kvs k = some v := by
  induction kvs with
  | nil => exact fun _ h => nomatch h
  | cons p r ih =>
    rintro (_ | i) k v hn h
    · cases Option.some.inj h
      exact valV_pos rfl
    · obtain ⟨n1, n2⟩ := List.nodup_cons.1 hn
      have m : k ∈ r.map (·.1) := List.mem_map.2 ⟨_, List.mem_of_getElem? h, rfl⟩
      rw [valV_neg]
      · exact ih n2 h
      · intro e
        subst e
        exact n1 m
theorem valV_none {κ : Type} [DecidableEq κ] : ∀ {kvs : List (κ × V)} {k : κ}, k ∉ kvs.map (·.1) → valV kvs k = none
  | [], _, _ => rfl
  | p :: r, k, h => by
    rw [List.map_cons, List.mem_cons, not_or] at h
    rw [valV_neg (fun e => h.1 e.symm)]
    exact valV_none h.2
/-- {k: v for ..} whose keys are all unlike: kvs are the pairs -/
theorem dc_map {J : It} {G : Hp → Prop} {Y : Nat → Hp → V → Hp → Prop} {kvs : List (Key × V)} (w : Walk J kvs.length G Y) {H1 : Hp} {D : Addr} {g : TG} {own : List Nat} {σ : L2.St} {tk tv : TE} {Qd : Hp → Prop} (hD : H1 D = none)
    (hG : ∀ Hc, Same H1 Hc → G Hc) (hn : (kvs.map (·.1)).Nodup) (hl : kvs.length ≤ 100000)
    (turn : ∀ (i : Nat) x Hc H' k v (Qt : L2.St → Hp → Prop), kvs[i]? = some (k, v) → Same H1 Hc → Y i Hc x H' →
      (∀ σ2 H2, Same Hc H2 → wipe σ2 own = wipe σ own → (∀ H3 (Qy : VK), Same H2 H3 → (∀ H4, Same H3 H4 → Qy (kV k) H4) → tk σ2 H3 Qy) → (∀ H3 (Qy : VK), Same H2 H3 → (∀ H4, Same H3 H4 → Qy v H4) → tv σ2 H3 Qy) → Qt σ2 H2) → g x (wipe σ own) H' Qt)
    (done : ∀ Hd, Same H1 Hd → Hd D = some (.dK kvs) → Qd Hd) :
    DTurns J g tYes tk tv own σ H1 D Qd := by
  refine dc_it w (Qd := Qd) (fun i Hc => Same H1 Hc ∧ Hc D = some (.dK (kvs.take i))) ⟨same_new hD _, upd_same⟩ (fun i Hc _ p => hG Hc p.1) ?_ ?_
  · rintro i x Hc H' hi ⟨s, hacc⟩ y
    obtain ⟨⟨k, v⟩, hkv⟩ := lt_get hi
    refine turn i x Hc H' k v _ hkv s y fun σ2 H2 s2 ew hk hv => ⟨ew, yes_mk ?_⟩
    refine hk H2 _ (Same.refl _) fun H4 s4 => hv H4 _ s4 fun H5 s5 => ⟨kvs.take i, k, rfl, s5 _ _ (s4 _ _ (s2 _ _ hacc)), ?_, s_then (s.trans (s2.trans (s4.trans s5))) hD _, ?_⟩
    · rw [List.length_take]
      exact sz1000' (by omega)
    · rw [upd_same, List.take_add_one, hkv, putK_new]
      · rfl
      · intro p hp e
        obtain ⟨m, hm⟩ := List.mem_iff_getElem?.mp hp
        rw [List.getElem?_take] at hm
        by_cases hmi : m < i
        · rw [if_pos hmi] at hm
          have a : (kvs.map (·.1))[m]? = some k := by rw [List.getElem?_map, hm]; exact congrArg some e
          have b : (kvs.map (·.1))[i]? = some k := by rw [List.getElem?_map, hkv]; rfl
          have := nd_ix hn a b
          omega
        · rw [if_neg hmi] at hm
          cases hm
  · rintro Hd ⟨s, hacc⟩
    rw [List.take_length] at hacc
    exact done Hd s hacc
section
variable {X : Cx}
/-- what holds of every block of X for the comprehension with this scope -/
abbrev InBlk (X : Cx) (sc : Scope) (F : Cx → Prop) : Prop :=
  ∀ (s : Shared) (H : Hp) (C : Addr) (cl : List (Str × Addr)) (fp : List Addr),
    F (X.blk s H sc (compEnvC sc cl C X.env) fp)
/-- name = {..} on one line, the name a local: the store is done within the comprehension -/
theorem sw_trueD {kx vx : Expr} {gs : List Comprehension} {sc : Scope} {at_ py : Pos} {y : Str} {l : Nat} {env : Env} (fn : env.scope.kind = .function) (loc : env.scope.names.lookup y = some .local) (row : (py.line == at_.line) = true)
    (out : (sc.names.any fun (n, k) => n == y && (k == .local || k == .cell)) = false) : swapsWith (.DictComp kx vx gs sc at_) (some (.Name y py)) l env = pure true := by
  have fb : env.blockKind = .function := by simp only [Env.blockKind, fn]; rfl
  have kd : env.kindOf y = some .local := loc
  simp only [swapsWith, fb, kd, out, Expr.pos, row]
  rfl
theorem ps_setDc {i : Nat} {y : Str} {py : Pos} {kx vx tg iter : Expr} {ifs : List Expr} {sc : Scope} {own : List (Str × Nat)} {pos spos : Pos} {wi : TI} {g : TG} {tt : L2.TT} {tk tv : TE}
    (calm : X.calm = true) (nd : X.N.Nodup) (slot : X.N[i]? = some y) (loc : X.env.scope.names.lookup y = some .local)
    (sw : swapsWith (.DictComp kx vx [⟨tg, iter, ifs, 0⟩] sc pos) (some (.Name y py)) spos.line X.env = pure true)
    (src : PI X tg iter wi) (blk : BlkOk X.N X.env.scope sc own) (hg : InBlk X sc fun B => PG B tg g) (ht : InBlk X sc fun B => PTs B ifs tt)
    (hk : InBlk X sc fun B => PE B kx tk) (hv : InBlk X sc fun B => PE B vx tv) (fs : ∀ x, foldedSetIterable iter X.env x = pure x := by intro _; rfl) :
    PS X (.Assign [.Name y py] (.DictComp kx vx [⟨tg, iter, ifs, 0⟩] sc pos) spos) (tAsg (tDc wi g tt tk tv (own.map (·.2))) (gName i)) := by
  constructor
  intro pins s σ H D I h
  have all := dc_core (use := some (assign (.Name y py) X.env)) (pos := pos) (pos' := firstIterPos [⟨tg, iter, ifs, 0⟩] pos) (Q := fun x H1 => gName i x σ H1 D.nx)
    (Qf := fun _ s' => SP X pins D .next s') calm nd I src blk hg ht hk hv fs h
  rw [exec_Assign_Name_used _ _ _ _ sw]
  apply wpAny_bind
  apply wpAny_standAt
  apply wpAny_bind
  refine wpAny_bind (thn (all ?_) fun _ _ done => wpAny_pure (wpAny_pure done))
  intro L C s1 m H1 I1 q ns free
  have known : X.fn y = true ∨ X.env.scope.names.lookup y = some .local := .inr loc
  change wpAny _ _ (assign (.Name y py) X.env _) _ _ _
  apply wpAny_assign_Name
  apply store_ok2 (v := V.ref L) I1 nd slot (.inl loc) rfl ?_ known
  rintro s2 I2 ⟨cell, sb, which⟩
  have other : C ≠ cell := which.elim (fun z => z ▸ free.2.1) fun z e => free.2.2.2.2.1 y cell z e.symm
  refine ⟨m, ns.sameBut sb other, fun h3 sb3 => ⟨_, H1, ?_, q⟩⟩
  exact I2.turnedL (t' := s2.toks) (ch := [C]) (fun b o out z => (sb3.2 b fun e => out (by simp [e])).trans z) fun b hb => by
    obtain rfl : b = C := by simpa using hb
    exact free
end
/-- a list or a tuple -/
def SqA (K : PySem.W.Frag) (H : Hp) (a : Addr) (xs : List V) : Prop := SqL K H a xs ∨ SqT K H a xs
theorem SqA.same {K : PySem.W.Frag} {H H' : Hp} {a : Addr} {xs : List V} (s : Same H H') (h : SqA K H a xs) : SqA K H' a xs := h.elim (fun q => .inl (s.seq q)) fun q => .inr (s_seqT s q)
section
variable {X : Cx}
/-- a for over a list or a tuple -/
def iSeq (K : PySem.W.Frag) (tl : TE) : TI := fun σ H R => tl σ H fun x H1 => ∃ a xs, x = .ref a ∧ SqA K H1 a xs ∧ ∀ (J : It) (G : Hp → Prop), Walk J xs.length G (YAt xs) → (∀ Hc, Same H1 Hc → G Hc) → R J H1
/-- an iterator of one new cell o -/
theorem pie_new {tg : Expr} {pins : List (Addr × Obj)} {σ : L2.St} {R : It → Hp → Prop} {H : Hp} {s : Shared} {J : It} {o : Obj} {tn : Nat → Heap → Prop} (I : L2.Inv X pins σ H s)
    (t : Turn X.prog X.w X.K tg J [s.heap.objs.size] s.heap.objs.size tn) (h0 : tn 0 (s.heap.push o)) (r : R J H) :
    PIE X pins σ tg R (.ref s.heap.objs.size) { s with heap := s.heap.push o } :=
  ⟨_, _, _, J, H, rfl, I.kept (t' := s.toks) fun b u z => Heap.get?_push_of_some _ z, t, h0, fun b hb => by
    obtain rfl : b = s.heap.objs.size := by simpa using hb
    have le := Nat.le_refl s.heap.objs.size
    exact I.fpOk le (I.hok.fresh le), r⟩
theorem pi_seq {tg l : Expr} {tl : TE} (hl : PE X l tl) : PI X tg l (iSeq X.K tl) := by
  constructor
  intro pins s σ H R I h
  apply thn (hl.run pins s σ H _ I h)
  rintro _ s1 ⟨_, H1, I1, rel, a, xs, rfl, kind, q⟩
  cases rel
  rcases kind with kind | kind
  · obtain ⟨its, -, p, -⟩ := I1.list kind
    exact wpAny_pyIter_list p.isList (pie_new I1 (turn_list a _) ⟨_, Heap.get?_push_size _ rfl, rfl, rfl⟩ (q _ _ walk_list fun _ s => s.seq kind))
  · obtain ⟨its, -, p, -⟩ := I1.tuple kind
    have p' : s1.heap.IsTuple a its.toArray := p
    exact wpAny_pyIter_tuple p' (pie_new I1 (turn_tuple a _) ⟨_, Heap.get?_push_size _ rfl, rfl, rfl⟩ (q _ _ walk_tup fun _ s => s_seqT s kind))
end
end Pb

namespace Pb
open PySem PySem.Spec PyProof.Rows L2

/-! ### the mathematics: what is spoken of -/
structure Plan (p : List (List Nat)) : Prop where
  asc : ∀ (i : Nat) (r : List Nat), p[i]? = some r → r.Pairwise (· < ·)
  lt : ∀ (i : Nat) (r : List Nat), p[i]? = some r → ∀ j ∈ r, j < i
  tr : ∀ (i : Nat) (r : List Nat), p[i]? = some r → ∀ j ∈ r, ∀ q, p[j]? = some q → ∀ x ∈ q, x ∈ r
structure Lines (ls : List (List Nat)) : Prop where
  step : ∀ (i : Nat) (l : List Nat), ls[i]? = some l → l = [i] ∨ ∃ (j : Nat) (q : List Nat), j < i ∧ ls[j]? = some q ∧ l = q ++ [i]
def least (ls : List (List Nat)) : List (List Nat) := ls.map List.dropLast
def kz (l : List Nat) : List Int := l.map fun (n : Nat) => -(n : Int)
def encN (names : List (List Nat)) (o : Nat) : PyData := .tuple [.tuple ((kz (names.getD o [])).map .int), .int o]
def inO (seen : List Nat) (names : List (List Nat)) : List Nat := seen.mergeSort (PySem.W.dataLe false (encN names))
def nameOf (seen : List Nat) (gap : Nat) (names : List (List Nat)) (i : Nat) : List Nat :=
  if gap = 0 then [i] else names.getD ((inO seen names).getD (gap - 1) 0) [] ++ [i]
def pn (plan : List (List Nat)) (run : List Nat) : Nat → List (List Nat)
  | 0 => []
  | n + 1 => pn plan run n ++ [nameOf (plan.getD n []) (run.getD n 0) (pn plan run n) n]
def gapOf (seen order : List Nat) (i : Nat) : Nat := (seen.filter fun o => decide (order.idxOf o < order.idxOf i)).length
def gapsOf (plan : List (List Nat)) (order : List Nat) : List Nat := (List.range plan.length).map fun i => gapOf (plan.getD i []) order i
def runOf (plan ls : List (List Nat)) : List Nat := (List.range plan.length).map fun i => ((plan.getD i []).filter fun o => decide (kz (ls.getD o []) < kz (ls.getD i []))).length
def Runs (plan : List (List Nat)) (run : List Nat) : Prop := run.length = plan.length ∧ ∀ (i : Nat) (g : Nat) (r : List Nat), run[i]? = some g → plan[i]? = some r → g ≤ r.length
def hasAll (plan ls : List (List Nat)) : Bool := (List.range plan.length).all fun i => (ls.getD i []).all fun o => decide (o ∈ plan.getD i [])
/-! letters -/
structure LetOk (L : List Nat) : Prop where
  dec : L.Pairwise (· > ·)
  rg : ∀ c ∈ L, 97 ≤ c ∧ c ≤ 122
def sg (c : Nat) : Str := ⟨#[c]⟩
def tx (l : List Nat) : Str := ⟨l.toArray⟩
def wdL (L l : List Nat) : List Nat := l.map fun i => L.getD i 0
def wd (L l : List Nat) : Str := tx (wdL L l)
/-- the codes of the letters, from z down -/
def alpha : List Nat := (List.range 26).map fun i => 122 - i
/-- a heap's texts -/
structure HeapOf (hs : List Str) (L : List Nat) (ls : List (List Nat)) : Prop where
  perm : hs.Perm (ls.map (wd L))
  lines : Lines ls
  len : L.length = ls.length
  let_ : LetOk L

/-! ### the module's names -/
structure Txt (mg : Str → Option Value) : Prop where
  len : mg "len" = none
  all : mg "all" = none
  tuple : mg "tuple" = none
  list : mg "list" = none
  int : mg "int" = none
  str : mg "str" = none
  bool : mg "bool" = none
  isinstance : mg "isinstance" = none
  enumerate : mg "enumerate" = none
  zip : mg "zip" = none
  range : mg "range" = none
  sorted : mg "sorted" = none
  min : mg "min" = none
  max : mg "max" = none
  most : ∃ t, mg "MOST_ITEMS" = some (.int 40 t)
  letters : ∃ t, mg "LETTERS" = some (.str (tx alpha) t)

/-! ### data in short -/
theorem inV_iv (n : Nat) : ∀ r : List Nat, inV (iv n) (r.map iv) = decide (n ∈ r)
  | [] => by simp [inV]
  | m :: r => by
    have ih := inV_iv n r
    unfold inV at ih ⊢
    rw [List.map_cons, List.any_cons, ih]
    have e : eqV (iv m) (iv n) = decide (n = m) := by
      show ((m : Int) == (n : Int)) = _
      by_cases h : n = m
      · subst h; simp
      · have : (m : Int) ≠ (n : Int) := by omega
        simp [h, this]
    rw [e]
    by_cases h : n = m
    · subst h; simp
    · simp [h]
theorem flat_iv (n : Nat) : flatV (iv n) = true := rfl
theorem flat_ivs (r : List Nat) : (r.map iv).all flatV = true := by
  rw [List.all_map]
  simp [Function.comp_def, flat_iv]
theorem at_iv {r : List Nat} {i : Nat} {n : Nat} (h : r[i]? = some n) : atI (r.map iv) (i : Int) = some (iv n) := atI_nat (map_get h)
theorem at_nat {xs : List V} {i : Nat} {x : V} (h : xs[i]? = some x) : atI xs (i : Int) = some x := atI_nat h
theorem len_iv (r : List Nat) : (r.map iv).length = r.length := List.length_map _
theorem filter_iv (r : List Nat) (p : V → Bool) : (r.map iv).filter p = (r.filter fun n => p (iv n)).map iv := by
  rw [List.filter_map]
  rfl
theorem iv_inj {a b : Nat} (h : iv a = iv b) : a = b := by
  have : (a : Int) = (b : Int) := V.int.inj h
  omega
theorem ivs_inj {r q : List Nat} (h : r.map iv = q.map iv) : r = q :=
  List.map_inj_right (fun _ _ e => iv_inj e) |>.1 h
/-- the items of a plan -/
theorem NN.get {K : PySem.W.Frag} {H : Hp} {x : V} {rows : List (List Nat)} (h : NN K H x rows) : ∃ p vs, x = .ref p ∧ SqT K H p vs ∧ vs.length = rows.length ∧ ∀ (i : Nat) (r : List Nat), rows[i]? = some r → ∃ q, vs[i]? = some (.ref q) ∧ SqT K H q (r.map iv) := by
  obtain ⟨p, vs, e, s, pr⟩ := h
  refine ⟨p, vs, e, s, Paired.length pr, fun i r hr => ?_⟩
  obtain ⟨v, hv, q, e2, s2⟩ := paired_get' pr hr
  subst e2
  exact ⟨q, hv, s2⟩

/-! ### plain facts of lists -/
theorem nodup_len (l D : List Nat) (hn : l.Nodup) (hs : ∀ x ∈ l, x ∈ D) : l.length ≤ D.length := nat_nodup_len l D hn hs
theorem nodup_of_asc {r : List Nat} (h : r.Pairwise (· < ·)) : r.Nodup := h.imp fun q => Nat.ne_of_lt q
theorem nodup_lt_len {r : List Nat} {n : Nat} (h : r.Nodup) (hl : ∀ j ∈ r, j < n) : r.length ≤ n := by
  have := nodup_len r (List.range n) h fun x hx => List.mem_range.mpr (hl x hx)
  rw [List.length_range] at this
  exact this
theorem Plan.row_len {p : List (List Nat)} (h : Plan p) {i : Nat} {r : List Nat} (hr : p[i]? = some r) : r.length ≤ i := nodup_lt_len (nodup_of_asc (h.asc i r hr)) (h.lt i r hr)

/-! ### rules whose written part is said (for the blocks of comprehensions) -/
section
variable {X : Cx} {K : PySem.W.Frag}
def rLen (K : PySem.W.Frag) : List V → Hp → VK → Prop := fun xs H Q => ∃ p ys, xs = [.ref p] ∧ (SqL K H p ys ∨ SqT K H p ys) ∧ Q (.int ys.length) H
theorem cLen (h : X.K = K) : CallR X (.builtin "len") (rLen K) := by subst h; exact call_len_seq
def rTup (K : PySem.W.Frag) : List V → Hp → VK → Prop := fun xs H Q => ∃ p ys, xs = [.ref p] ∧ ((SqL K H p ys ∧ ∀ l, H l = none → Q (.ref l) (upd H l (.tup ys))) ∨ (SqT K H p ys ∧ Q (.ref p) H))
theorem cTup (h : X.K = K) : CallR X (.type "tuple") (rTup K) := by subst h; exact call_tuple_of
def rLst (K : PySem.W.Frag) : List V → Hp → VK → Prop := fun xs H Q => ∃ p ys, xs = [.ref p] ∧ (SqL K H p ys ∨ SqT K H p ys) ∧ ∀ l, H l = none → Q (.ref l) (upd H l (.lst ys))
theorem cLst (h : X.K = K) : CallR X (.type "list") (rLst K) := by subst h; exact call_list_of
theorem cAll (hc : X.calm = true) (h : X.K = K) : CallR X (.builtin "all") (rAll K) := by subst h; exact cr_all hc
theorem ixT (h : X.K = K) : IxR X (rIxT K) := by subst h; exact ix_tup
theorem ixL (h : X.K = K) : IxR X (rIxL K) := by subst h; exact ix_list
theorem opIn (h : X.K = K) : OpR X (compareOp .In) (rIn K false) := by subst h; exact op_in_seq
theorem opNi (h : X.K = K) : OpR X (compareOp .NotIn) (rIn K true) := by subst h; exact op_notIn_seq
theorem slA (h : X.K = K) : SlR X (rSlA K) := by subst h; exact sl_tupA
theorem slL (h : X.K = K) : SlR X (rSlL K) := by subst h; exact sl_list
theorem catA (h : X.K = K) : OpR X (binaryOp .Add) (rCatA K) := by subst h; exact op_catA
theorem pTup {tg l : Expr} {tl : TE} (h : X.K = K) (hl : PE X l tl) : PI X tg l (iTup K tl) := by subst h; exact pi_tup hl
theorem pLst {tg l : Expr} {tl : TE} (h : X.K = K) (hl : PE X l tl) : PI X tg l (iList K tl) := by subst h; exact pi_list hl
theorem mtIndex (h : X.K = K) : MtR X "list.index" (rIndex K) := by subst h; exact mt_index
end

/-! ### isinstance -/
theorem tyT {K : PySem.W.Frag} {H : Hp} {a : Addr} {xs : List V} (h : SqT K H a xs) : TyX K H (.ref a) (.type "tuple") := by
  rcases h with (h | ⟨o, h⟩) | ⟨o, its, n, h, c, _⟩
  · exact .base (.tup h)
  · exact .fTuple h
  · exact .kTuple h c
theorem tyL {K : PySem.W.Frag} {H : Hp} {a : Addr} {xs : List V} (h : SqL K H a xs) : TyX K H (.ref a) (.type "list") := by
  rcases h with (h | ⟨o, h⟩) | ⟨o, its, n, h, c, _⟩
  · exact .base (.lst h)
  · exact .base (.frz h)
  · exact .kList h c
theorem ki (a b : String) {r : Bool} (h : kitB a b = some r) {K : PySem.W.Frag} : PySem.W.kitOne K (.type a) (.type b) = some r := kit_ty h
theorem kb_ii : kitB "int" "int" = some true := by decide +kernel
theorem kb_ib : kitB "int" "bool" = some false := by decide +kernel
theorem kb_is : kitB "int" "str" = some false := by decide +kernel
theorem kb_ss : kitB "str" "str" = some true := by decide +kernel
theorem kb_tt : kitB "tuple" "tuple" = some true := by decide +kernel
theorem kb_tb : kitB "tuple" "bool" = some false := by decide +kernel
theorem kb_ts : kitB "tuple" "str" = some false := by decide +kernel
theorem kb_ti : kitB "tuple" "int" = some false := by decide +kernel
theorem kb_tl : kitB "tuple" "list" = some false := by decide +kernel
theorem kb_ll : kitB "list" "list" = some true := by decide +kernel

/-! ### the promises -/
def StAt (H : Hp) (st : Addr) : Prop := ∃ r b c : Int, H st = some (.lst [.int r, .int b, .int c])
def spIsInt : Sp := fun vs H Q _ => ∃ n : Int, vs = [.int n] ∧ Q (.bl true) H
def spWithin : Sp := fun vs H Q _ => ∃ t lo hi : Int, vs = [.int t, .int lo, .int hi] ∧ lo ≤ t ∧ t ≤ hi ∧ Q (.bl true) H
def spListed (K : PySem.W.Frag) : Sp := fun vs H Q _ => ∃ (a : Addr) (xs : List V), vs = [.ref a] ∧ SqA K H a xs ∧ ∀ H', Same H H' → Q (.bl true) H'
def spItems (K : PySem.W.Frag) : Sp := fun vs H Q _ => ∃ (x : V) (r : List Nat) (b : Nat), vs = [x, iv b] ∧ NT K H x r ∧ r.Pairwise (· < ·) ∧ (∀ j ∈ r, j < b) ∧ r.length ≤ 1000 ∧ ∀ H', Same H H' → Q (.bl true) H'
def spSound (K : PySem.W.Frag) : Sp := fun vs H Q _ => ∃ (x : V) (rows : List (List Nat)), vs = [x] ∧ NN K H x rows ∧ Plan rows ∧ rows.length ≤ 40 ∧ ∀ H', Same H H' → Q (.bl true) H'
def spCheckPlan (K : PySem.W.Frag) : Sp := fun vs H Q _ => ∃ (x : V) (rows : List (List Nat)), vs = [x] ∧ NN K H x rows ∧ Plan rows ∧ rows.length ≤ 40 ∧ ∀ H', Same H H' → Q .non H'
def spKey (K : PySem.W.Frag) : Sp := fun vs H Q _ => ∃ (x : V) (r : List Nat), vs = [x] ∧ NT K H x r ∧ r.length ≤ 1000 ∧ ∀ y H', Same H H' → ZT K H' y (kz r) → Q y H'
def spIsRun (K : PySem.W.Frag) (v : V) : Sp := fun vs H Q _ => ∃ (x y : V) (rows : List (List Nat)) (run : List Nat), vs = [x, y] ∧ NN K H x rows ∧ NT K H y run ∧ Runs rows run ∧ rows.length ≤ 40 ∧ ∀ H', Same H H' → Q v H'
def spGaps (K : PySem.W.Frag) : Sp := fun vs H Q _ => ∃ (x : V) (o : Addr) (rows : List (List Nat)) (order : List Nat), vs = [x, .ref o] ∧ NN K H x rows ∧ SqL K H o (order.map iv) ∧ order.Nodup ∧ (∀ i, i < rows.length → i ∈ order) ∧ Plan rows ∧ rows.length ≤ 40 ∧ order.length ≤ 40 ∧
  ∀ y H', Same H H' → NT K H' y (gapsOf rows order) → Q y H'
def spInOrder (K : PySem.W.Frag) : Sp := fun vs H Q _ => ∃ (x : V) (p : Addr) (ns : List V) (seen : List Nat) (names : List (List Nat)), vs = [x, .ref p] ∧ NT K H x seen ∧ SqL K H p ns ∧ Paired (NT K H) ns names ∧ (∀ o ∈ seen, o < names.length) ∧ (∀ l ∈ names, l.length ≤ 1000) ∧ seen.length ≤ 1000 ∧
  ∀ p H', Same H H' → H' p = some (.lst ((inO seen names).map iv)) → Q (.ref p) H'
def spPlain (K : PySem.W.Frag) : Sp := fun vs H Q _ => ∃ (x y : V) (rows : List (List Nat)) (run : List Nat), vs = [x, y] ∧ NN K H x rows ∧ NT K H y run ∧ Plan rows ∧ Runs rows run ∧ rows.length ≤ 40 ∧
  ∀ p ns H', Same H H' → H p = none → H' p = some (.lst ns) → Paired (NT K H') ns (pn rows run rows.length) → Q (.ref p) H'
def spNames (K : PySem.W.Frag) : Sp := fun vs H Q _ => ∃ (x y : V) (rows : List (List Nat)) (run : List Nat), vs = [x, y] ∧ NN K H x rows ∧ NT K H y run ∧ Plan rows ∧ Runs rows run ∧ rows.length ≤ 40 ∧
  ∀ z H', Same H H' → NN K H' z (pn rows run rows.length) → Q z H'
def Falls (l : List Nat) : Prop := l ≠ [] ∧ l.Pairwise (· > ·) ∧ (∀ c ∈ l, 97 ≤ c ∧ c ≤ 122) ∧ l.length ≤ 26
def spFalling (K : PySem.W.Frag) : Sp := fun vs H Q _ => ∃ l : List Nat, vs = [.str (tx l)] ∧ Falls l ∧ ∀ H', Same H H' → Q (.bl true) H'
def spCheckHeap (K : PySem.W.Frag) : Sp := fun vs H Q _ => ∃ (a : Addr) (hs : List Str) (L : List Nat) (ls : List (List Nat)), vs = [.ref a] ∧ SqA K H a (hs.map V.str) ∧ HeapOf hs L ls ∧ ∀ H', Same H H' → Q .non H'
def places (L : List Nat) : List (Key × V) := (List.range L.length).map fun i => (Sum.inr (sg (L.getD i 0)), iv i)
def spSortedHeap (K : PySem.W.Frag) : Sp := fun vs H Q _ => ∃ (a : Addr) (hs : List Str) (L : List Nat) (ls : List (List Nat)), vs = [.ref a] ∧ SqA K H a (hs.map V.str) ∧ HeapOf hs L ls ∧
  ∀ (p t d : Addr) H', Same H H' → H t = none → H d = none → H' p = some (.tup [.ref t, .ref d]) → H' t = some (.lst (ls.map fun l => V.str (wd L l))) → H' d = some (.dK (places L)) → Q (.ref p) H'
def spLeast (K : PySem.W.Frag) : Sp := fun vs H Q _ => ∃ (a : Addr) (hs : List Str) (L : List Nat) (ls : List (List Nat)), vs = [.ref a] ∧ SqA K H a (hs.map V.str) ∧ HeapOf hs L ls ∧
  ∀ y H', Same H H' → NN K H' y (least ls) → Q y H'
def spHeapRun (K : PySem.W.Frag) : Sp := fun vs H Q _ => ∃ (a : Addr) (x : V) (hs : List Str) (L : List Nat) (ls rows : List (List Nat)), vs = [.ref a, x] ∧ SqA K H a (hs.map V.str) ∧ HeapOf hs L ls ∧ NN K H x rows ∧ Plan rows ∧ rows.length = ls.length ∧
  ∀ y H', Same H H' → ((pn rows (runOf rows ls) rows.length = ls ∧ NT K H' y (runOf rows ls)) ∨ (pn rows (runOf rows ls) rows.length ≠ ls ∧ y = .non)) → Q y H'
/-! the law's own -/
def spState (K : PySem.W.Frag) : Sp := fun vs H Q _ => ∃ (a : Addr) (ns : List Int) (k : Nat), vs = [.ref a, iv k] ∧ SqL K H a (ns.map V.int) ∧ ns.length ≤ 63 ∧ ∀ p H', Same H H' → H p = none → StAt H' p → Q (.ref p) H'
def spDraw : Sp := fun vs H Q _ => ∃ (st : Addr) (many : Nat), vs = [.ref st, iv many] ∧ StAt H st ∧ 1 ≤ many ∧ many ≤ 1000 ∧ ∀ d H', d < many → But st H H' → StAt H' st → Q (iv d) H'
def spPlanL (K : PySem.W.Frag) : Sp := fun vs H Q _ => ∃ (st : Addr) (size : Nat), vs = [.ref st, iv size] ∧ StAt H st ∧ 1 ≤ size ∧ size ≤ 26 ∧ ∀ y rows H', But st H H' → StAt H' st → NN K H' y rows → Plan rows → rows.length = size → Q y H'
def spRunL (K : PySem.W.Frag) : Sp := fun vs H Q _ => ∃ (st : Addr) (x : V) (rows : List (List Nat)), vs = [.ref st, x] ∧ StAt H st ∧ NN K H x rows ∧ rows.length ≤ 40 ∧ (∀ r ∈ rows, r.length ≤ 100) ∧ ∀ y run H', But st H H' → StAt H' st → NT K H' y run → Runs rows run → Q y H'
def spDoc (K : PySem.W.Frag) : Sp := fun vs H Q _ => ∃ (x y : V) (rows : List (List Nat)) (run : List Nat), vs = [x, y] ∧ NN K H x rows ∧ NT K H y run ∧ Plan rows ∧ Runs rows run ∧ rows.length ≤ 40 ∧
  ∀ (p : Addr) o l ls H', Same H H' → H' p = some (.tup [o, l]) → NN K H' l ls → Lines ls → ls.length = rows.length → hasAll rows (least ls) = true → Q (.ref p) H'
def spLetters : Sp := fun vs H Q _ => ∃ (st : Addr) (size : Nat), vs = [.ref st, iv size] ∧ StAt H st ∧ 1 ≤ size ∧ size ≤ 26 ∧ ∀ L H', But st H H' → StAt H' st → LetOk L → L.length = size → Q (.str (tx L)) H'
def spSpelled (K : PySem.W.Frag) : Sp := fun vs H Q _ => ∃ (x : V) (l L : List Nat), vs = [x, .str (tx L)] ∧ NT K H x l ∧ (∀ i ∈ l, i < L.length) ∧ l.length ≤ 1000 ∧ L.length ≤ 1000 ∧ ∀ H', Same H H' → Q (.str (wd L l)) H'
def spMixed (K : PySem.W.Frag) : Sp := fun vs H Q _ => ∃ (st a : Addr) (xs : List V), vs = [.ref st, .ref a] ∧ StAt H st ∧ H a = some (.lst xs) ∧ a ≠ st ∧ xs.length ≤ 900 ∧ ∀ p ys H', But st H H' → StAt H' st → H p = none → H' p = some (.lst ys) → ys.Perm xs → Q (.ref p) H'
/-- the two stand for one datum of depth n: 0 a number, 1 a tuple of numbers, 2 a tuple of such -/
def Alike (K : PySem.W.Frag) (H : Hp) : Nat → V → V → Prop
  | 0, x, y => ∃ n : Int, x = .int n ∧ y = .int n
  | d + 1, x, y => ∃ (p q : Addr) (xs ys : List V), x = .ref p ∧ y = .ref q ∧ SqT K H p xs ∧ SqT K H q ys ∧ Paired (Alike K H d) xs ys ∧ xs.length ≤ 1000
def spAlike (K : PySem.W.Frag) (n : Nat) : Sp := fun vs H Q _ => ∃ (d : Nat) (x y : V), vs = [x, y] ∧ d < n ∧ Alike K H d x y ∧ ∀ H', Same H H' → Q (.bl true) H'
def spClosed (K : PySem.W.Frag) : Sp := fun vs H Q _ => ∃ (a : Addr) (rs : List V) (rows : List (List Nat)), vs = [.ref a] ∧ SqL K H a rs ∧ Paired (fun x r => ∃ p, x = V.ref p ∧ SqL K H p (r.map iv)) rs rows ∧ (∀ (i : Nat) (r : List Nat), rows[i]? = some r → ∀ j ∈ r, j < i) ∧ rows.length ≤ 40 ∧
  ∀ y rows' H', Same H H' → NN K H' y rows' → Plan rows' → rows'.length = rows.length → Q y H'
def spOther (K : PySem.W.Frag) : Sp := fun vs H Q _ => ∃ (st : Addr) (x : V) (ls : List (List Nat)), vs = [.ref st, x] ∧ StAt H st ∧ NN K H x ls ∧ Plan ls ∧ 1 ≤ ls.length ∧ ls.length ≤ 26 ∧ ∀ y rows H', But st H H' → StAt H' st → NN K H' y rows → Plan rows → rows.length = ls.length → Q y H'
def spHasAll (K : PySem.W.Frag) : Sp := fun vs H Q _ => ∃ (x y : V) (rows ls : List (List Nat)), vs = [x, y] ∧ NN K H x rows ∧ NN K H y ls ∧ ls.length = rows.length ∧ rows.length ≤ 40 ∧ (∀ r ∈ ls, r.length ≤ 1000) ∧ ∀ H', Same H H' → Q (.bl (hasAll rows ls)) H'
def spGapDue (K : PySem.W.Frag) : Sp := fun vs H Q _ => ∃ (x : V) (o : Addr) (seen order : List Nat) (i : Nat), vs = [x, .ref o, iv i] ∧ NT K H x seen ∧ SqL K H o (order.map iv) ∧ (∀ j ∈ seen, j ∈ order) ∧ i ∈ order ∧ seen.length ≤ 1000 ∧ ∀ H', Same H H' → Q (iv (gapOf seen order i)) H'
def spRunDue (K : PySem.W.Frag) : Sp := fun vs H Q _ => ∃ (x y : V) (rows ls : List (List Nat)), vs = [x, y] ∧ NN K H x rows ∧ NN K H y ls ∧ Plan rows ∧ Lines ls ∧ ls.length = rows.length ∧ rows.length ≤ 26 ∧ ∀ z H', Same H H' → NT K H' z (runOf rows ls) → Q z H'
def spAsked (K : PySem.W.Frag) : Sp := fun vs H Q _ => ∃ (x le l : V) (a : Addr) (hs : List Str) (L : List Nat) (rows ls : List (List Nat)), vs = [x, le, .ref a, l] ∧ NN K H x rows ∧ NN K H le (least ls) ∧ SqL K H a (hs.map V.str) ∧ NN K H l ls ∧ HeapOf hs L ls ∧ Plan rows ∧ rows.length = ls.length ∧ rows.length ≤ 26 ∧
  ∀ H', Same H H' → Q (.bl true) H'
def spLaw (K : PySem.W.Frag) : Sp := fun vs H Q _ => ∃ (a : Addr) (ns : List Int), vs = [.ref a] ∧ SqL K H a (ns.map V.int) ∧ ns.length ≤ 63 ∧ ∀ H', Q (.bl true) H'
end Pb

namespace Pb
open PySem PySem.Spec PyProof.Rows L2
section
variable {P : Program} {w : World} {K : PySem.W.Frag} {mg : Str → Option Value} {base : Heap}

abbrev sIsInt : Stmt := topS 8
theorem scIsInt : FnScope ["thing"] ["thing"] (defScope sIsInt) := ⟨rfl, rfl, rfl, by decide +kernel, rfl, by decide +kernel, by decide +kernel⟩
theorem ok_is_integer {f : Addr} {fd : FuncData} (F : Fun K "is_integer" "is_integer" sIsInt f fd) (T : Txt mg) : FnOk P w K mg base CX0 1 f fd ["thing"] spIsInt := by
  refine F.ok scIsInt (fun vs H Q E h => ?_) (fun cdv A outer s H vs Q E hr h => ?_)
  · obtain ⟨n, rfl, _⟩ := h
    rfl
  · obtain ⟨n, rfl, q⟩ := h
    refine ⟨_, pss_one (ps_ret (pe_and (pe_callB call_isi (by rfl) T.isinstance (by decide +kernel) (pa_cons (pv 0) (pa_cons (pe_bltn (v := .ty "int") (by rfl) T.int (by decide +kernel) rfl) pa_nil)))
      (pe_one (pe_not (pe_callB call_isi (by rfl) T.isinstance (by decide +kernel) (pa_cons (pv 0) (pa_cons (pe_bltn (v := .ty "bool") (by rfl) T.bool (by decide +kernel) rfl) pa_nil))))))), ?_⟩
    refine ⟨_, rfl, _, _, _, _, true, rfl, .ty _, .base (.int n), kit_ty kb_ii, true, rfl, iteT ?_⟩
    exact ⟨_, rfl, _, _, _, _, false, rfl, .ty _, .base (.int n), kit_ty kb_ib, false, rfl, q⟩

abbrev sWithin : Stmt := topS 9
theorem scWithin : FnScope ["thing", "least", "most"] ["thing", "least", "most"] (defScope sWithin) := ⟨rfl, rfl, rfl, by decide +kernel, rfl, by decide +kernel, by decide +kernel⟩
theorem ok_is_within {f f1 : Addr} {fd fd1 : FuncData} (F : Fun K "is_within" "is_within" sWithin f fd) (C1 : Cal P w K mg base 1 "is_integer" ["thing"] spIsInt f1 fd1) : FnOk P w K mg base CX0 2 f fd ["thing", "least", "most"] spWithin := by
  refine F.ok scWithin (fun vs H Q E h => ?_) (fun cdv A outer s H vs Q E hr h => ?_)
  · obtain ⟨t, lo, hi, rfl, _⟩ := h
    rfl
  · obtain ⟨t, lo, hi, rfl, h1, h2, q⟩ := h
    refine ⟨_, pss_one (ps_ret (pe_and (pe_c C1 hr (pa_cons (pv 0) pa_nil)) (pe_one (pe_chain op_le op_le (pv 1) (pv 0) (pv 2))))), ?_⟩
    refine ⟨_, rfl, t, rfl, true, rfl, iteT ?_⟩
    refine ⟨_, rfl, _, rfl, lo, t, rfl, rfl, true, congrArg V.bl (decide_eq_true h1), iteT ?_⟩
    refine ⟨_, rfl, t, hi, rfl, rfl, ?_⟩
    show Q (.bl (decide (t ≤ hi))) H
    rw [decide_eq_true h2]
    exact q

abbrev sListed : Stmt := topS 10
theorem scListed : FnScope ["thing"] ["thing"] (defScope sListed) := ⟨rfl, rfl, rfl, by decide +kernel, rfl, by decide +kernel, by decide +kernel⟩
theorem ok_is_listed {f : Addr} {fd : FuncData} (F : Fun K "is_listed" "is_listed" sListed f fd) (T : Txt mg) : FnOk P w K mg base CX0 1 f fd ["thing"] (spListed K) := by
  refine F.ok scListed (fun vs H Q E h => ?_) (fun cdv A outer s H vs Q E hr h => ?_)
  · obtain ⟨a, xs, rfl, _⟩ := h
    rfl
  · obtain ⟨a, xs, rfl, hS, q⟩ := h
    refine ⟨_, pss_one (ps_ret (pe_callB call_isiT (by rfl) T.isinstance (by decide +kernel) (pa_cons (pv 0) (pa_cons (pe_tup (pa_cons (pe_bltn (v := .ty "list") (by rfl) T.list (by decide +kernel) rfl) (pa_cons (pe_bltn (v := .ty "tuple") (by rfl) T.tuple (by decide +kernel) rfl) pa_nil))) pa_nil)))), ?_⟩
    refine ⟨_, rfl, (by show 2 ≤ sizeLine; decide), fun p hp => ?_⟩
    have s1 : Same H (upd H p (.tup [.ty "list", .ty "tuple"])) := same_new hp _
    rcases hS with hS | hS
    · exact ⟨.ref a, p, _, .type "list", [.type "list", .type "tuple"], true, rfl, upd_same, .cons (.ty _) (.cons (.ty _) .nil), tyL (s1.seq hS), kitAny_cons (b := true) (kit_ty kb_ll) (fun z => by cases z) (fun _ => rfl), q _ s1⟩
    · exact ⟨.ref a, p, _, .type "tuple", [.type "list", .type "tuple"], true, rfl, upd_same, .cons (.ty _) (.cons (.ty _) .nil), tyT (s_seqT s1 hS), kitAny_cons (b := false) (kit_ty kb_tl) (fun _ => kitAny_cons (b := true) (kit_ty kb_tt) (fun z => by cases z) (fun _ => rfl)) (fun z => by cases z), q _ s1⟩
end
end Pb

namespace Pb
open PySem PySem.Spec PyProof.Rows L2
theorem all_true (n : Nat) : (List.replicate n true).all id = true := by
  induction n with
  | zero => rfl
  | succ n ih => rw [List.replicate_succ, List.all_cons, ih]; rfl
/-- a list of nothing but True -/
theorem trues {ys : List V} {n : Nat} (hl : ys.length = n) (h : ∀ (i : Nat) y, ys[i]? = some y → y = .bl true) : ys = (List.replicate n true).map V.bl := by
  apply List.ext_getElem?
  intro i
  by_cases hi : i < n
  · rw [List.getElem?_map, List.getElem?_replicate, if_pos hi]
    obtain ⟨y, hy⟩ := lt_get (l := ys) (i := i) (by omega)
    rw [hy, h i y hy]
    rfl
  · rw [List.getElem?_map, List.getElem?_replicate, if_neg hi, List.getElem?_eq_none (by omega)]
    rfl
section
variable {P : Program} {w : World} {K : PySem.W.Frag} {mg : Str → Option Value} {base : Heap}

abbrev sItems : Stmt := topS 11
theorem scItems : FnScope ["thing", "bound", "item", "last"] ["thing", "bound"] (defScope sItems) := ⟨rfl, rfl, rfl, by decide +kernel, rfl, by decide +kernel, by decide +kernel⟩
theorem ok_are_items {f f1 : Addr} {fd fd1 : FuncData} (F : Fun K "are_items" "are_items" sItems f fd) (T : Txt mg) (C1 : Cal P w K mg base 1 "is_integer" ["thing"] spIsInt f1 fd1) : FnOk P w K mg base CX0 2 f fd ["thing", "bound"] (spItems K) := by
  refine F.ok scItems (fun vs H Q E h => ?_) (fun cdv A outer s H vs Q E hr h => ?_)
  · obtain ⟨x, r, b, rfl, _⟩ := h
    rfl
  · obtain ⟨x, r, b, rfl, ⟨p, rfl, hS⟩, hasc, hlt, hlen, q⟩ := h
    refine ⟨_, pss_cons (ps_if (PW.pt (pw_or (pt_not (pt_val (pe_callB call_isi (by rfl) T.isinstance (by decide +kernel) (pa_cons (pv 0) (pa_cons (pe_bltn (v := .ty "tuple") (by rfl) T.tuple (by decide +kernel) rfl) pa_nil)))))
        (pw_or1 (pt_not (pt_val (pe_callB (cr_all rfl) (by rfl) T.all (by decide +kernel) (pa_cons (pe_lc (own := [("item", 2)]) (g := gName 2) (tt := tYes) rfl scItems.nd (pi_tup (pv 0)) (blkOk_by (N := ["thing", "bound", "item", "last"]) (sc := defScope sItems) (by decide +kernel))
          (fun _ _ _ _ _ => pg_name (i := 2) scItems.nd rfl (Or.inl rfl)) (fun _ _ _ _ _ => pts_nil) (fun _ _ _ _ _ => pe_c C1 hr (pa_cons (pv 2) pa_nil))) pa_nil))))))) pss_never pss_nil)
      (pss_cons (ps_set (i := 3) scItems.nd rfl (Or.inl rfl) (pe_un un_neg pe_int))
      (pss_cons (ps_for PassesOwn.never rfl (pi_tup (pv 0)) (pg_name (i := 2) scItems.nd rfl (Or.inl rfl))
        (pss_cons (ps_if (PW.pt (pw_or (pt_cmpR op_le (pv 2) (pv 3) (nomark _)) (pw_or1 (pt_cmpR op_ge (pv 2) (pv 1) (nomark _))))) pss_never pss_nil)
          (pss_one (ps_set (i := 3) scItems.nd rfl (Or.inl rfl) (pv 2)))))
      (pss_one (ps_ret pe_bl)))), ?_⟩
    refine ⟨_, rfl, _, _, _, _, true, rfl, .ty _, tyT hS, kit_ty kb_tt, true, rfl, iteF ?_⟩
    refine ⟨_, rfl, p, rfl, ⟨_, hS⟩, fun D hD => ?_⟩
    refine lc_map walk_tup hD (fun i x => ∃ n : Int, x = .int n) (fun i H x H' y => ⟨y.1, ?_⟩) (fun Hc s => s_seqT s hS) (fun i y H => y = .bl true) (fun _ _ _ _ _ h => h) (by rw [len_iv]; omega) (fun i x Hc Qt hi s yv k => ?_) (fun Hd ys s hD' hl hE => ?_)
    · obtain ⟨n, _, e⟩ := get_map y.2
      exact ⟨_, e⟩
    · obtain ⟨n, rfl⟩ := yv
      exact ⟨_, rfl, n, rfl, k _ _ (Same.refl _) rfl⟩
    · refine ⟨D, List.replicate (r.map iv).length true, rfl, ?_, true, ?_, ?_⟩
      · rw [← trues hl hE]
        exact lstOf hD'
      · rw [all_true]
      · refine iteF ?_
        have sS : SqT K Hd p (r.map iv) := s_seqT s hS
        refine ⟨1, rfl, _, rfl, p, rfl, ⟨_, sS⟩, ?_⟩
        refine for_it walk_tup (fun i σ H' => H' = Hd ∧ ∃ (z : Option V) (l : Int), σ = [some (.ref p), some (iv b), z, some (.int l)] ∧ (∀ x, r[i]? = some x → l < (x : Int))) ⟨rfl, none, _, rfl, fun x _ => ?_⟩ (fun i σ H' _ h => by rw [h.1]; exact sS) ?_ ?_
        · show -(1 : Int) < (x : Int)
          omega
        · rintro i x σ H' H'' hi ⟨rfl, z, l, rfl, hlx⟩ ⟨rfl, hx⟩
          obtain ⟨n, hn, rfl⟩ := get_map hx
          have h1 := hlx n hn
          have h2 := hlt n (List.mem_of_getElem? hn)
          refine ⟨_, rfl, _, rfl, _, _, rfl, rfl, _, rfl, ?_⟩
          refine ite2 (fun e => absurd (of_decide_eq_true e) (by show ¬ (n : Int) ≤ l; omega)) (fun _ => ?_)
          refine ⟨_, rfl, _, rfl, _, _, rfl, rfl, _, rfl, ?_⟩
          refine ite2 (fun e => absurd (of_decide_eq_true e) (by show ¬ (n : Int) ≥ (b : Int); omega)) (fun _ => ?_)
          refine ⟨_, rfl, rfl, _, _, rfl, fun y hy => ?_⟩
          obtain ⟨ha, ea⟩ := List.getElem?_eq_some_iff.mp hn
          obtain ⟨hb, eb⟩ := List.getElem?_eq_some_iff.mp hy
          have := (List.pairwise_iff_getElem.mp hasc) i (i + 1) ha hb (by omega)
          rw [ea, eb] at this
          omega
        · rintro σ H' ⟨rfl, z, l, rfl, _⟩
          exact q _ s
end
end Pb

namespace Pb
open PySem PySem.Spec PyProof.Rows L2
def natKeys (r : List Nat) : List (Key × V) := r.map fun (n : Nat) => (Sum.inl (n : Int), V.bl true)
theorem natKeys_some (r : List Nat) (m : Nat) : (valV (natKeys r) (Sum.inl (m : Int))).isSome = decide (m ∈ r) := by
  rw [← valV_any]
  unfold natKeys
  rw [List.any_map]
  by_cases h : m ∈ r
  · rw [decide_eq_true h, List.any_eq_true]
    exact ⟨m, h, by simp⟩
  · rw [decide_eq_false h, Bool.eq_false_iff]
    intro q
    rw [List.any_eq_true] at q
    obtain ⟨n, hn, e⟩ := q
    have e2 : (Sum.inl (n : Int) : Key) = Sum.inl (m : Int) := of_decide_eq_true e
    have e3 : (n : Int) = (m : Int) := Sum.inl.inj e2
    have : n = m := by omega
    exact h (this ▸ hn)
theorem natKeys_nodup {r : List Nat} (h : r.Nodup) : ((natKeys r).map (·.1)).Nodup := by
  unfold natKeys
  rw [List.map_map]
  refine (List.pairwise_map.mpr (h.imp fun {a b} q e => q ?_))
  have e3 : (a : Int) = (b : Int) := Sum.inl.inj (show (Sum.inl (a : Int) : Key) = Sum.inl (b : Int) from e)
  omega
section
variable {P : Program} {w : World} {K : PySem.W.Frag} {mg : Str → Option Value} {base : Heap}
abbrev nSound : List Str := ["thing", "item", "seen", "other", "known", "more"]
abbrev sSound : Stmt := topS 12
theorem scSound : FnScope nSound ["thing"] (defScope sSound) := ⟨rfl, rfl, rfl, by decide +kernel, rfl, by decide +kernel, by decide +kernel⟩
theorem ok_is_sound {f f1 : Addr} {fd fd1 : FuncData} (F : Fun K "is_sound" "is_sound" sSound f fd) (T : Txt mg) (C1 : Cal P w K mg base 2 "are_items" ["thing", "bound"] (spItems K) f1 fd1) : FnOk P w K mg base CX0 3 f fd ["thing"] (spSound K) := by
  obtain ⟨t40, hm⟩ := T.most
  refine F.ok scSound (fun vs H Q E h => ?_) (fun cdv A outer s H vs Q E hr h => ?_)
  · obtain ⟨x, rows, rfl, _⟩ := h
    rfl
  · obtain ⟨x, rows, rfl, hN, hP, hlen, q⟩ := h
    obtain ⟨p, vs, rfl, hS, hvl, hg⟩ := hN.get
    have hu := hu_of hr
    refine ⟨_, pss_cons (ps_if (PW.pt (pw_or (pt_not (pt_val (pe_callB call_isi (by rfl) T.isinstance (by decide +kernel) (pa_cons (pv 0) (pa_cons (pe_bltn (v := .ty "tuple") (by rfl) T.tuple (by decide +kernel) rfl) pa_nil)))))
        (pw_or1 (pt_cmpR op_gt (pe_callB call_len_seq (by rfl) T.len PySem.boot_len (pa_cons (pv 0) pa_nil)) (pe_glob (v := .int 40) (by rfl) hm ⟨_, rfl⟩) (nomark _))))) pss_never pss_nil)
      (pss_cons (ps_for PassesOwn.never rfl (pi_enumT (by rfl) T.enumerate (pa_cons (pv 0) pa_nil)) (pg_tup rfl (pgs_cons (pg_name (i := 1) scSound.nd rfl (Or.inl rfl)) (pgs_cons (pg_name (i := 2) scSound.nd rfl (Or.inl rfl)) pgs_nil)))
        (pss_cons (ps_if (pt_not (pt_val (pe_c C1 hr (pa_cons (pv 2) (pa_cons (pv 1) pa_nil))))) pss_never pss_nil)
        (pss_cons (ps_set (i := 4) scSound.nd rfl (Or.inr rfl) (pe_dc (own := [("other", 3)]) (g := gName 3) (tt := tYes) rfl scSound.nd (pi_tup (pv 2)) (blkOk_by (N := nSound) (sc := defScope sSound) (by decide +kernel))
            (fun _ _ _ _ _ => pg_name (i := 3) scSound.nd rfl (Or.inl rfl)) (fun _ _ _ _ _ => pts_nil) (fun _ _ _ _ _ => pv 3) (fun _ _ _ _ _ => pe_bl)))
        (pss_one (ps_for PassesOwn.never rfl (pi_tup (pv 2)) (pg_name (i := 3) scSound.nd rfl (Or.inl rfl))
          (pss_one (ps_if (pt_not (pt_val (pe_callB (cr_all rfl) (by rfl) T.all (by decide +kernel) (pa_cons (pe_lc (own := [("more", 5)]) (g := gName 5) (tt := tYes) rfl scSound.nd (pi_tup (pe_ix ix_tup (pv 0) (pv 3) (fun _ _ => rfl))) (blkOk_by (N := nSound) (sc := defScope sSound) (by decide +kernel))
            (fun _ _ _ _ _ => pg_name (i := 5) scSound.nd rfl (Or.inl rfl)) (fun _ _ _ _ _ => pts_nil) (fun _ _ _ _ _ => pe_cmp (pc_din hu (pv 5) (pv 4)) rfl)) pa_nil)))) pss_never pss_nil)))))))
      (pss_one (ps_ret pe_bl))), ?_⟩
    refine ⟨_, rfl, _, _, _, _, true, rfl, .ty _, tyT hS, kit_ty kb_tt, true, rfl, iteF ?_⟩
    refine ⟨_, rfl, p, vs, rfl, .inr hS, _, _, rfl, rfl, _, rfl, ?_⟩
    refine ite2 (fun e => absurd (of_decide_eq_true e) (by show ¬ ((vs.length : Nat) : Int) > 40; omega)) (fun _ => ?_)
    refine ⟨_, rfl, p, vs, rfl, hS, ?_⟩
    refine for_it walk_enumT (fun i σ H' => Same H H' ∧ ∃ z1 z2 z3 z4, σ = [some (.ref p), z1, z2, z3, z4, none]) ⟨Same.refl _, none, none, none, none, rfl⟩ (fun i σ H' _ h => s_seqT h.1 hS) ?_ ?_
    · rintro i x σ H1 H2 hi ⟨s1, z1, z2, z3, z4, rfl⟩ ⟨T', a, b, rfl, nT, rfl, e1, e2⟩
      have e1 : V.int (i : Nat) = a := Option.some.inj e1
      subst e1
      obtain ⟨r, hr'⟩ := lt_get (l := rows) (i := i) (by omega)
      obtain ⟨qa, hqa, sqa⟩ := hg i r hr'
      have eb : b = .ref qa := Option.some.inj (e2.symm.trans hqa)
      subst eb
      have s2 : Same H (upd H1 T' (.tup [V.int (i : Nat), .ref qa])) := s1.trans (same_new nT _)
      refine ⟨T', [V.int (i : Nat), .ref qa], rfl, .inl (.inl upd_same), rfl, _, [.ref qa], rfl, _, [], rfl, rfl, ?_⟩
      generalize hH2 : upd H1 T' (.tup [V.int (i : Nat), .ref qa]) = H2 at s2 ⊢
      have hasc := hP.asc i r hr'
      have hlt := hP.lt i r hr'
      have hrl : r.length ≤ 1000 := by
        have := hP.row_len hr'
        omega
      refine ⟨_, rfl, _, rfl, .ref qa, r, i, rfl, ⟨qa, rfl, s_seqT s2 sqa⟩, hasc, hlt, hrl, fun H3 s3 => ⟨true, rfl, iteF ?_⟩⟩
      have s3' := s2.trans s3
      have sq3 := s_seqT s3' sqa
      -- known
      refine ⟨_, rfl, qa, rfl, ⟨_, sq3⟩, fun D hD => ?_⟩
      have hnk := natKeys_nodup (nodup_of_asc hasc)
      have hlk : (natKeys r).length = r.length := List.length_map _
      refine dc_map (kvs := natKeys r) (by rw [show (natKeys r).length = (r.map iv).length by rw [hlk, len_iv]]; exact walk_tup) hD (fun Hc s => s_seqT s sq3) hnk (by omega) (fun m x Hc H' k v Qt hk s y cont => ?_) (fun Hd s4 hDd => ?_)
      · obtain ⟨rfl, hx⟩ := y
        obtain ⟨n, hn, ek⟩ := get_map hk
        rw [map_get hn] at hx
        cases hx
        cases ek
        exact cont _ H' (Same.refl _) (wipe_set _ 3 _) (fun H3 Qy _ kk => ⟨_, rfl, kk _ (Same.refl _)⟩) (fun H3 Qy _ kk => kk _ (Same.refl _))
      · have s4' := s3'.trans s4
        refine ⟨_, rfl, qa, rfl, ⟨_, s_seqT s4' sqa⟩, ?_⟩
        refine for_it walk_tup (fun j σ H' => Same H H' ∧ H' D = some (.dK (natKeys r)) ∧ ∃ z3, σ = [some (.ref p), some (V.int (i : Nat)), some (.ref qa), z3, some (.ref D), none]) ⟨s4', hDd, _, rfl⟩ (fun j σ H' _ h => s_seqT h.1 sqa) ?_ ?_
        · rintro j x σ H5 H6 hj ⟨s5, hD5, z, rfl⟩ ⟨rfl, hx⟩
          obtain ⟨o, ho, rfl⟩ := get_map hx
          have hoi := hlt o (List.mem_of_getElem? ho)
          obtain ⟨r2, hr2⟩ := lt_get (l := rows) (i := o) (by omega)
          obtain ⟨q2, hq2, sq2⟩ := hg o r2 hr2
          have hsub := hP.tr i r hr' o (List.mem_of_getElem? ho) r2 hr2
          refine ⟨_, rfl, _, rfl, p, vs, _, .ref q2, rfl, rfl, s_seqT s5 hS, at_nat hq2, q2, rfl, ⟨_, s_seqT s5 sq2⟩, fun D2 hD2 => ?_⟩
          refine lc_map walk_tup hD2 (fun k x => ∃ m : Nat, x = iv m ∧ m ∈ r2) (fun k H x H' y => ⟨y.1, ?_⟩) (fun Hc s => s_seqT (s5.trans s) sq2) (fun i y H => y = .bl true) (fun _ _ _ _ _ h => h) ?_ (fun k x Hc Qt hk s yv kk => ?_) (fun Hd ys s6 hD' hl hE => ?_)
          · obtain ⟨m, hm, e⟩ := get_map y.2
            exact ⟨m, e, List.mem_of_getElem? hm⟩
          · have := hP.row_len hr2
            rw [len_iv]
            omega
          · obtain ⟨m, rfl, hm2⟩ := yv
            refine ⟨_, rfl, _, rfl, D, _, rfl, DGet.k (k := Sum.inl (m : Int)) (s _ _ hD5), ?_⟩
            rw [natKeys_some, decide_eq_true (hsub m hm2)]
            exact kk _ _ (Same.refl _) rfl
          · refine ⟨D2, List.replicate (r2.map iv).length true, rfl, ?_, true, ?_, ?_⟩
            · rw [← trues hl hE]
              exact lstOf hD'
            · rw [all_true]
            · exact iteF ⟨s5.trans s6, s6 _ _ hD5, _, rfl⟩
        · rintro σ H' ⟨s5, _, z, rfl⟩
          exact ⟨s5, _, _, _, _, rfl⟩
    · rintro σ H' ⟨s1, z1, z2, z3, z4, rfl⟩
      exact q _ s1
abbrev sCheckPlan : Stmt := topS 13
theorem scCheckPlan : FnScope ["thing"] ["thing"] (defScope sCheckPlan) := ⟨rfl, rfl, rfl, by decide +kernel, rfl, by decide +kernel, by decide +kernel⟩
theorem ok_check_plan {f f1 : Addr} {fd fd1 : FuncData} (F : Fun K "check_plan" "check_plan" sCheckPlan f fd) (C1 : Cal P w K mg base 3 "is_sound" ["thing"] (spSound K) f1 fd1) : FnOk P w K mg base CX0 4 f fd ["thing"] (spCheckPlan K) := by
  refine F.ok scCheckPlan (fun vs H Q E h => ?_) (fun cdv A outer s H vs Q E hr h => ?_)
  · obtain ⟨x, rows, rfl, _⟩ := h
    rfl
  · obtain ⟨x, rows, rfl, hN, hP, hlen, q⟩ := h
    refine ⟨_, pss_one (ps_if (pt_not (pt_val (pe_c C1 hr (pa_cons (pv 0) pa_nil)))) pss_never pss_nil), ?_⟩
    exact ⟨_, rfl, x, rows, rfl, hN, hP, hlen, fun H' s => ⟨true, rfl, iteF (q _ s)⟩⟩
end
end Pb

namespace Pb
open PySem PySem.Spec PyProof.Rows L2
theorem take_map_range {f : Nat → Nat} {n i : Nat} (h : i < n) : ((List.range n).map f).take (i + 1) = ((List.range n).map f).take i ++ [f i] := by
  rw [List.take_add_one, List.getElem?_map, List.getElem?_range h]
  rfl
def ordKeys (order : List Nat) : List (Key × V) := (List.range order.length).map fun (j : Nat) => (Sum.inl ((order.getD j 0 : Nat) : Int), iv j)
theorem ordKeys_nodup {order : List Nat} (h : order.Nodup) : ((ordKeys order).map (·.1)).Nodup := by
  unfold ordKeys
  rw [List.map_map, List.Nodup, List.pairwise_map]
  refine (List.Pairwise.imp_of_mem (fun {a b} ha hb q e => q ?_) (List.nodup_range (n := order.length)))
  have e3 : ((order.getD a 0 : Nat) : Int) = ((order.getD b 0 : Nat) : Int) := Sum.inl.inj e
  have e4 : order.getD a 0 = order.getD b 0 := by omega
  have ha' := List.mem_range.mp ha
  have hb' := List.mem_range.mp hb
  rw [List.getD_eq_getElem?_getD, List.getD_eq_getElem?_getD, List.getElem?_eq_getElem ha', List.getElem?_eq_getElem hb'] at e4
  exact (List.getElem_inj h).mp e4
theorem ordKeys_at {order : List Nat} (h : order.Nodup) {o : Nat} (ho : o ∈ order) : valV (ordKeys order) (Sum.inl (o : Int)) = some (iv (order.idxOf o)) := by
  have hl : order.idxOf o < order.length := List.idxOf_lt_length_iff.mpr ho
  refine valV_at (i := order.idxOf o) (ordKeys_nodup h) ?_
  unfold ordKeys
  rw [List.getElem?_map, List.getElem?_range hl]
  have e : order.getD (order.idxOf o) 0 = o := by
    rw [List.getD_eq_getElem?_getD, List.getElem?_eq_getElem hl]
    exact List.getElem_idxOf hl
  show some (Sum.inl ((order.getD (order.idxOf o) 0 : Nat) : Int), _) = _
  rw [e]
section
variable {P : Program} {w : World} {K : PySem.W.Frag} {mg : Str → Option Value} {base : Heap}
abbrev sKey : Stmt := topS 15
theorem scKey : FnScope ["chain", "item"] ["chain"] (defScope sKey) := ⟨rfl, rfl, rfl, by decide +kernel, rfl, by decide +kernel, by decide +kernel⟩
theorem ok_chain_key {f : Addr} {fd : FuncData} (F : Fun K "chain_key" "chain_key" sKey f fd) (T : Txt mg) : FnOk P w K mg base CX0 1 f fd ["chain"] (spKey K) := by
  refine F.ok scKey (fun vs H Q E h => ?_) (fun cdv A outer s H vs Q E hr h => ?_)
  · obtain ⟨x, r, rfl, _⟩ := h
    rfl
  · obtain ⟨x, r, rfl, ⟨p, rfl, hS⟩, hlen, q⟩ := h
    refine ⟨_, pss_one (ps_ret (pe_callTy call_tuple_of (by rfl) T.tuple (by decide +kernel) (pa_cons (pe_lc (own := [("item", 1)]) (g := gName 1) (tt := tYes) rfl scKey.nd (pi_tup (pv 0)) (blkOk_by (N := ["chain", "item"]) (sc := defScope sKey) (by decide +kernel))
          (fun _ _ _ _ _ => pg_name (i := 1) scKey.nd rfl (Or.inl rfl)) (fun _ _ _ _ _ => pts_nil) (fun _ _ _ _ _ => pe_un un_neg (pv 1))) pa_nil))), ?_⟩
    refine ⟨_, rfl, p, rfl, ⟨_, hS⟩, fun D hD => ?_⟩
    refine lc_map walk_tup hD (fun i x => (r.map iv)[i]? = some x) (fun i H x H' y => y) (fun Hc s => s_seqT s hS) (fun i y H => ∃ n, r[i]? = some n ∧ y = .int (-(n : Int))) (fun _ _ _ _ _ h => h) (by rw [len_iv]; omega) (fun i x Hc Qt hi s yv k => ?_) (fun Hd ys s hD' hl hE => ?_)
    · obtain ⟨n, hn, rfl⟩ := get_map yv
      exact ⟨_, rfl, _, rfl, k _ _ (Same.refl _) ⟨n, hn, rfl⟩⟩
    · have ey : ys = (kz r).map V.int := by
        apply List.ext_getElem?
        intro i
        unfold kz
        rw [List.map_map, List.getElem?_map]
        cases e : ys[i]? with
        | none =>
          have : r[i]? = none := by
            rw [List.getElem?_eq_none_iff] at e ⊢
            rw [len_iv] at hl
            omega
          rw [this]
          rfl
        | some y =>
          obtain ⟨n, hn, rfl⟩ := hE i y e
          rw [hn]
          rfl
      subst ey
      refine ⟨D, _, rfl, .inl ⟨lstOf hD', fun l hl' => ?_⟩⟩
      exact q _ _ (s.trans (same_new hl' _)) ⟨l, rfl, tupOf upd_same⟩

abbrev nRun : List Str := ["plan", "thing", "gap", "seen"]
abbrev sIsRun : Stmt := topS 17
theorem scIsRun : FnScope nRun ["plan", "thing"] (defScope sIsRun) := ⟨rfl, rfl, rfl, by decide +kernel, rfl, by decide +kernel, by decide +kernel⟩
theorem ok_is_run {f f1 : Addr} {fd fd1 : FuncData} (F : Fun K "is_run" "is_run" sIsRun f fd) (T : Txt mg) (C1 : Cal P w K mg base 2 "is_within" ["thing", "least", "most"] spWithin f1 fd1) : FnOk P w K mg base CX0 3 f fd ["plan", "thing"] (spIsRun K (.bl true)) := by
  refine F.ok scIsRun (fun vs H Q E h => ?_) (fun cdv A outer s H vs Q E hr h => ?_)
  · obtain ⟨x, y, rows, run, rfl, _⟩ := h
    rfl
  · obtain ⟨x, y, rows, run, rfl, hN, ⟨pr, rfl, hR⟩, hRun, hlen, q⟩ := h
    obtain ⟨p, vs, rfl, hS, hvl, hg⟩ := hN.get
    refine ⟨_, pss_cons (ps_if (PW.pt (pw_or (pt_not (pt_val (pe_callB call_isi (by rfl) T.isinstance (by decide +kernel) (pa_cons (pv 1) (pa_cons (pe_bltn (v := .ty "tuple") (by rfl) T.tuple (by decide +kernel) rfl) pa_nil)))))
        (pw_or1 (pt_cmpR op_ne (pe_callB call_len_seq (by rfl) T.len PySem.boot_len (pa_cons (pv 1) pa_nil)) (pe_callB call_len_seq (by rfl) T.len PySem.boot_len (pa_cons (pv 0) pa_nil)) (nomark _))))) pss_never pss_nil)
      (pss_one (ps_ret (pe_callB (cr_all rfl) (by rfl) T.all (by decide +kernel) (pa_cons (pe_lc (own := [("gap", 2), ("seen", 3)]) (g := gTup K 2 (gCons (gName 2) (gCons (gName 3) gNil))) (tt := tYes) rfl scIsRun.nd (RZ.pi_zipA (by rfl) T.zip (pa_cons (pv 1) (pa_cons (pv 0) pa_nil))) (blkOk_by (N := nRun) (sc := defScope sIsRun) (by decide +kernel))
          (fun _ _ _ _ _ => pg_tup rfl (pgs_cons (pg_name (i := 2) scIsRun.nd rfl (Or.inl rfl)) (pgs_cons (pg_name (i := 3) scIsRun.nd rfl (Or.inl rfl)) pgs_nil))) (fun _ _ _ _ _ => pts_nil)
          (fun _ _ _ _ _ => pe_c C1 hr (pa_cons (pv 2) (pa_cons pe_int (pa_cons (pe_callB (cLen (K := K) rfl) (by rfl) T.len PySem.boot_len (pa_cons (pv 3) pa_nil)) pa_nil))))) pa_nil)))), ?_⟩
    refine ⟨_, rfl, _, _, _, _, true, rfl, .ty _, tyT hR, kit_ty kb_tt, true, rfl, iteF ?_⟩
    refine ⟨_, rfl, pr, _, rfl, .inr hR, _, rfl, p, vs, rfl, .inr hS, rfl, _, rfl, iteNS (by rw [len_iv, hvl, hRun.1]) ?_⟩
    refine ⟨_, rfl, _, rfl, pr, p, _, _, rfl, .inr ⟨hR, hS, fun D hD => ?_⟩⟩
    have hm : rows.length = min (run.map iv).length vs.length := by rw [len_iv, hvl, hRun.1, Nat.min_self]
    refine lc_it (walk_zipT hm) (fun i Hc => Same H Hc ∧ Hc D = some (.lst ((List.replicate i true).map V.bl))) ⟨same_new hD _, upd_same⟩ (fun i Hc _ h => ⟨s_seqT h.1 hR, s_seqT h.1 hS⟩) ?_ ?_
    · rintro i x Hc H' hi ⟨s1, hDc⟩ ⟨T', a, b, rfl, nT, rfl, e1, e2⟩
      obtain ⟨g, hgi, rfl⟩ := get_map e1
      obtain ⟨r, hr'⟩ := lt_get hi
      obtain ⟨qa, hqa, sqa⟩ := hg i r hr'
      have eb : b = .ref qa := Option.some.inj (e2.symm.trans hqa)
      subst eb
      have hle := hRun.2 i g r hgi hr'
      refine ⟨T', [iv g, .ref qa], rfl, .inl (.inl upd_same), rfl, _, [.ref qa], rfl, _, [], rfl, rfl, rfl, yes_mk ?_⟩
      have s2 : Same H (upd Hc T' (.tup [iv g, .ref qa])) := s1.trans (same_new nT _)
      refine ⟨_, rfl, _, rfl, qa, _, rfl, .inr (s_seqT s2 sqa), _, _, _, rfl, by omega, by rw [len_iv]; omega, ?_⟩
      have nD : D ≠ T' := ne_of_none hDc nT
      refine ⟨_, (upd_ne nD).trans hDc, ?_, s_then s2 hD _, ?_⟩
      · rw [List.length_map, List.length_replicate]
        exact sz1000' (by omega)
      · rw [upd_same, List.replicate_succ', List.map_append]
        rfl
    · rintro Hd ⟨s1, hDd⟩
      refine ⟨D, _, rfl, lstOf hDd, ?_⟩
      rw [all_true]
      exact q _ s1
abbrev sCheckRun : Stmt := topS 18
theorem scCheckRun : FnScope ["plan", "thing"] ["plan", "thing"] (defScope sCheckRun) := ⟨rfl, rfl, rfl, by decide +kernel, rfl, by decide +kernel, by decide +kernel⟩
theorem ok_check_run {f f1 : Addr} {fd fd1 : FuncData} (F : Fun K "check_run" "check_run" sCheckRun f fd) (C1 : Cal P w K mg base 3 "is_run" ["plan", "thing"] (spIsRun K (.bl true)) f1 fd1) : FnOk P w K mg base CX0 4 f fd ["plan", "thing"] (spIsRun K .non) := by
  refine F.ok scCheckRun (fun vs H Q E h => ?_) (fun cdv A outer s H vs Q E hr h => ?_)
  · obtain ⟨x, y, rows, run, rfl, _⟩ := h
    rfl
  · obtain ⟨x, y, rows, run, rfl, hN, hR, hRun, hlen, q⟩ := h
    refine ⟨_, pss_one (ps_if (pt_not (pt_val (pe_c C1 hr (pa_cons (pv 0) (pa_cons (pv 1) pa_nil))))) pss_never pss_nil), ?_⟩
    exact ⟨_, rfl, _, rfl, x, y, rows, run, rfl, hN, hR, hRun, hlen, fun H' s => ⟨true, rfl, iteF (q _ s)⟩⟩

abbrev nGaps : List Str := ["plan", "order", "item", "places", "found", "seen", "place", "other"]
abbrev sGaps : Stmt := topS 19
theorem scGaps : FnScope nGaps ["plan", "order"] (defScope sGaps) := ⟨rfl, rfl, rfl, by decide +kernel, rfl, by decide +kernel, by decide +kernel⟩
theorem ok_gaps_of {f : Addr} {fd : FuncData} (F : Fun K "gaps_of" "gaps_of" sGaps f fd) (T : Txt mg) : FnOk P w K mg base CX0 1 f fd ["plan", "order"] (spGaps K) := by
  refine F.ok scGaps (fun vs H Q E h => ?_) (fun cdv A outer s H vs Q E hr h => ?_)
  · obtain ⟨x, o, rows, order, rfl, _⟩ := h
    rfl
  · obtain ⟨x, po, rows, order, rfl, hN, hO, hnd, hin, hP, hlen, holen, q⟩ := h
    obtain ⟨p, vs, rfl, hS, hvl, hg⟩ := hN.get
    have hu := hu_of hr
    refine ⟨_, pss_cons (ps_set (i := 3) scGaps.nd rfl (Or.inr rfl) (pe_dc (own := [("place", 6), ("item", 2)]) (g := gTup K 2 (gCons (gName 6) (gCons (gName 2) gNil))) (tt := tYes) rfl scGaps.nd (pi_enum (by rfl) T.enumerate (pa_cons (pv 1) pa_nil)) (blkOk_by (N := nGaps) (sc := defScope sGaps) (by decide +kernel))
            (fun _ _ _ _ _ => pg_tup rfl (pgs_cons (pg_name (i := 6) scGaps.nd rfl (Or.inl rfl)) (pgs_cons (pg_name (i := 2) scGaps.nd rfl (Or.inl rfl)) pgs_nil))) (fun _ _ _ _ _ => pts_nil) (fun _ _ _ _ _ => pv 2) (fun _ _ _ _ _ => pv 6)))
      (pss_cons (ps_set (i := 4) scGaps.nd rfl (Or.inl rfl) (pe_lst pa_nil))
      (pss_cons (ps_for PassesOwn.never rfl (pi_enumT (by rfl) T.enumerate (pa_cons (pv 0) pa_nil)) (pg_tup rfl (pgs_cons (pg_name (i := 2) scGaps.nd rfl (Or.inr rfl)) (pgs_cons (pg_name (i := 5) scGaps.nd rfl (Or.inl rfl)) pgs_nil)))
        (pss_one (ps_expr (pe_bm PySem.F.plainAttrs_list PySem.F.slot_list_append PySem.F.type_list_append mt_append (pv 4) (pa_cons (pe_callB call_len_seq (by rfl) T.len PySem.boot_len (pa_cons
          (pe_lc (own := [("other", 7)]) (g := gName 7) rfl scGaps.nd (pi_tup (pv 5)) (blkOk_by (N := nGaps) (sc := defScope sGaps) (by decide +kernel)) (fun _ _ _ _ _ => pg_name (i := 7) scGaps.nd rfl (Or.inl rfl))
            (fun _ _ _ _ _ => pts_one (pt_cmpR op_lt (pe_dget hu (pv 3) (pv 7) (fun _ _ => rfl)) (pe_dget hu (pv 3) (pv 2) (fun _ _ => rfl)) (nomark _))) (fun _ _ _ _ _ => pv 7)) pa_nil)) pa_nil)))))
      (pss_one (ps_ret (pe_callTy call_tuple_of (by rfl) T.tuple (by decide +kernel) (pa_cons (pv 4) pa_nil)))))), ?_⟩
    refine ⟨_, rfl, po, _, rfl, hO, fun D hD => ?_⟩
    have hkl : (ordKeys order).length = (order.map iv).length := by rw [len_iv]; unfold ordKeys; rw [List.length_map, List.length_range]
    refine dc_map (kvs := ordKeys order) (hkl ▸ walk_enum) hD (fun Hc s => s.seq hO) (ordKeys_nodup hnd) (by rw [hkl, len_iv]; omega) (fun m x Hc H' k v Qt hk s y cont => ?_) (fun Hd s1 hDd => ?_)
    · obtain ⟨T', a, b, rfl, nT, rfl, e1, e2⟩ := y
      have e1 : V.int (m : Nat) = a := Option.some.inj e1
      subst e1
      obtain ⟨n, hn, rfl⟩ := get_map e2
      have hml := get_lt hn
      have hk2 : (Sum.inl ((order.getD m 0 : Nat) : Int), iv m) = (k, v) := by
        unfold ordKeys at hk
        rw [List.getElem?_map, List.getElem?_range hml] at hk
        exact Option.some.inj hk
      have e0 : order.getD m 0 = n := by rw [List.getD_eq_getElem?_getD, hn]; rfl
      rw [e0] at hk2
      cases hk2
      refine ⟨T', [V.int (m : Nat), iv n], rfl, .inl (.inl upd_same), rfl, _, [iv n], rfl, _, [], rfl, rfl, ?_⟩
      exact cont _ _ (same_new nT _) rfl (fun H3 Qy _ kk => ⟨_, rfl, kk _ (Same.refl _)⟩) (fun H3 Qy _ kk => ⟨_, rfl, kk _ (Same.refl _)⟩)
    · refine ⟨Nat.zero_le _, fun o ho => ?_⟩
      have s2 : Same H (upd Hd o (.lst [])) := s1.trans (same_new ho _)
      refine ⟨_, rfl, p, vs, rfl, s_seqT s2 hS, ?_⟩
      have ho0 : H o = none := s1.free ho
      have hDo : D ≠ o := ne_of_none hDd ho
      have hglen : (gapsOf rows order).length = rows.length := by unfold gapsOf; rw [List.length_map, List.length_range]
      refine for_it walk_enumT (fun i σ H' => Same H H' ∧ H' D = some (.dK (ordKeys order)) ∧ H' o = some (.lst (((gapsOf rows order).take i).map iv)) ∧ ∃ z1 z2, σ = [some (.ref p), some (.ref po), z1, some (.ref D), some (.ref o), z2, none, none]) ⟨s2, (upd_ne hDo).trans hDd, upd_same, none, none, rfl⟩ (fun i σ H' _ h => s_seqT h.1 hS) ?_ ?_
      · rintro i x σ H1 H2 hi ⟨s3, hD3, ho3, z1, z2, rfl⟩ ⟨T', a, b, rfl, nT, rfl, e1, e2⟩
        have e1 : V.int (i : Nat) = a := Option.some.inj e1
        subst e1
        have hir : i < rows.length := by omega
        obtain ⟨r, hr'⟩ := lt_get hir
        obtain ⟨qa, hqa, sqa⟩ := hg i r hr'
        have eb : b = .ref qa := Option.some.inj (e2.symm.trans hqa)
        subst eb
        have sT := same_new nT (.tup [V.int (i : Nat), .ref qa])
        refine ⟨T', [V.int (i : Nat), .ref qa], rfl, .inl (.inl upd_same), rfl, _, [.ref qa], rfl, _, [], rfl, rfl, ?_⟩
        have hD4 := sT _ _ hD3
        have ho4 := sT _ _ ho3
        have s4 := s3.trans sT
        generalize upd H1 T' (.tup [V.int (i : Nat), .ref qa]) = H4 at hD4 ho4 s4
        refine ⟨_, rfl, .inl ⟨rfl, _, lstOf ho4⟩, ?_⟩
        refine ⟨_, rfl, qa, rfl, ⟨_, s_seqT s4 sqa⟩, fun D2 hD2 => ?_⟩
        refine lc_filter (xs := r.map iv) walk_tup hD2 yat (fun Hc s => s_seqT (s4.trans s) sqa) (fun x => match x with | .int n => decide (order.idxOf n.toNat < order.idxOf i) | _ => false) (by have := hP.row_len hr'; rw [len_iv]; omega) (by show 7 < 8; decide) (fun m x Hc Qt hx s k => ?_) (fun Hd' s5 hDd' => ?_)
        · obtain ⟨n, hn, rfl⟩ := get_map hx
          have hni := hP.lt i r hr' n (List.mem_of_getElem? hn)
          have hDc := s _ _ hD4
          refine ⟨_, rfl, _, rfl, D, iv (order.idxOf n), rfl, ?_, _, rfl, _, rfl, D, iv (order.idxOf i), rfl, ?_, _, _, rfl, rfl, _, rfl, ?_⟩
          · rw [← ordKeys_at hnd (hin n (by omega))]
            exact DGet.k (k := Sum.inl (n : Int)) hDc
          · rw [← ordKeys_at hnd (hin i hir)]
            exact DGet.k (k := Sum.inl (i : Int)) hDc
          · have e : decide (((order.idxOf n : Nat) : Int) < ((order.idxOf i : Nat) : Int)) = decide (order.idxOf ((n : Int).toNat) < order.idxOf i) := by
              rw [Int.toNat_natCast]
              exact decide_eq_decide.mpr (by omega)
            rw [e]
            exact k _ (Same.refl _)
        · rw [filter_iv] at hDd'
          refine ⟨D2, _, rfl, .inl (lstOf hDd'), o, _, _, rfl, rfl, s5 _ _ ho4, ?_, ?_⟩
          · rw [len_iv, List.length_take]
            exact sz1000' (by omega)
          · have s6 := s4.trans s5
            have hDo2 : D ≠ o := hDo
            refine ⟨s_then s6 ho0 _, (upd_ne hDo2).trans (s5 _ _ hD4), ?_, _, _, rfl⟩
            rw [upd_same]
            have ee : (gapsOf rows order).take (i + 1) = (gapsOf rows order).take i ++ [gapOf r order i] := by
              unfold gapsOf
              rw [take_map_range hir]
              rw [show rows.getD i [] = r by rw [List.getD_eq_getElem?_getD, hr']; rfl]
            rw [ee, List.map_append, len_iv]
            rfl
      · rintro σ H' ⟨s3, hD3, ho3, z1, z2, rfl⟩
        rw [hvl, ← hglen, List.take_length] at ho3
        refine ⟨_, rfl, o, _, rfl, .inl ⟨lstOf ho3, fun l hl => ?_⟩⟩
        exact q _ _ (s3.trans (same_new hl _)) ⟨l, rfl, tupOf upd_same⟩
end
end Pb

namespace Pb
open PySem PySem.Spec PyProof.Rows L2
theorem inO_perm (seen : List Nat) (names : List (List Nat)) : (inO seen names).Perm seen := List.mergeSort_perm _ _
theorem inO_len (seen : List Nat) (names : List (List Nat)) : (inO seen names).length = seen.length := (inO_perm seen names).length_eq
theorem pn_len (plan : List (List Nat)) (run : List Nat) : ∀ n, (pn plan run n).length = n
  | 0 => rfl
  | n + 1 => by rw [pn, List.length_append, pn_len plan run n]; rfl
theorem pn_small (plan : List (List Nat)) (run : List Nat) : ∀ n, ∀ l ∈ pn plan run n, l.length ≤ n
  | 0, l, h => by simp [pn] at h
  | n + 1, l, h => by
    rw [pn, List.mem_append, List.mem_singleton] at h
    have ih := pn_small plan run n
    rcases h with h | h
    · have := ih l h
      omega
    · subst h
      unfold nameOf
      split
      · simp
      · rw [List.length_append, List.length_singleton]
        generalize (inO (plan.getD n []) (pn plan run n)).getD _ 0 = o
        rw [List.getD_eq_getElem?_getD]
        cases e : (pn plan run n)[o]? with
        | none => simp
        | some l =>
          have := ih l (List.mem_of_getElem? e)
          simpa using this
theorem dp_ints {K : PySem.W.Frag} {H : Hp} : ∀ l : List Int, DpAll K H (l.map V.int) (l.map .int)
  | [] => .nil
  | _ :: l => .cons (.int _) (dp_ints l)
theorem alike_encN (names : List (List Nat)) (a b : Nat) : PySem.W.alike (encN names a) (encN names b) = true := by
  unfold encN
  simp [PySem.W.alike, PySem.W.alikeAll, PySem.W.alike_ints]
theorem depth_encN (names : List (List Nat)) (a : Nat) : (encN names a).depth ≤ 20 := by
  unfold encN
  simp [PyData.depth, PyData.depthAll, PySem.W.depth_ints]
/-- a row (key, item) -/
def RowAt (K : PySem.W.Frag) (H : Hp) (names : List (List Nat)) (y : V) (o : Nat) : Prop := ∃ t k, y = V.ref t ∧ SqT K H t [k, iv o] ∧ ZT K H k (kz (names.getD o []))
section
variable {P : Program} {w : World} {K : PySem.W.Frag} {mg : Str → Option Value} {base : Heap}
abbrev nInOrder : List Str := ["items", "names", "rows", "item", "row"]
abbrev sInOrder : Stmt := topS 21
theorem scInOrder : FnScope nInOrder ["items", "names"] (defScope sInOrder) := ⟨rfl, rfl, rfl, by decide +kernel, rfl, by decide +kernel, by decide +kernel⟩
theorem ok_in_order {f f1 : Addr} {fd fd1 : FuncData} (F : Fun K "in_order" "in_order" sInOrder f fd) (T : Txt mg) (C1 : Cal P w K mg base 1 "chain_key" ["chain"] (spKey K) f1 fd1) : FnOk P w K mg base CX0 2 f fd ["items", "names"] (spInOrder K) := by
  refine F.ok scInOrder (fun vs H Q E h => ?_) (fun cdv A outer s H vs Q E hr h => ?_)
  · obtain ⟨x, p, ns, seen, names, rfl, _⟩ := h
    rfl
  · obtain ⟨x, np, ns, seen, names, rfl, ⟨p, rfl, hS⟩, hN, hP, hlt, hsm, hlen, q⟩ := h
    refine ⟨_, pss_cons (ps_set (i := 2) scInOrder.nd rfl (Or.inl rfl) (pe_callB (cr_sortedDt hr.units) (by rfl) T.sorted (by decide +kernel) (pa_cons (pe_lc (own := [("item", 3)]) (g := gName 3) (tt := tYes) rfl scInOrder.nd (pi_tup (pv 0)) (blkOk_by (N := nInOrder) (sc := defScope sInOrder) (by decide +kernel))
          (fun _ _ _ _ _ => pg_name (i := 3) scInOrder.nd rfl (Or.inl rfl)) (fun _ _ _ _ _ => pts_nil) (fun _ _ _ _ _ => pe_tup (pa_cons (pe_c C1 hr (pa_cons (pe_ix (ixL (K := K) rfl) (pv 1) (pv 3) (fun _ _ => rfl)) pa_nil)) (pa_cons (pv 3) pa_nil)))) pa_nil)))
      (pss_one (ps_ret (pe_lc (own := [("row", 4)]) (g := gName 4) (tt := tYes) rfl scInOrder.nd (pi_list (pv 2)) (blkOk_by (N := nInOrder) (sc := defScope sInOrder) (by decide +kernel))
          (fun _ _ _ _ _ => pg_name (i := 4) scInOrder.nd rfl (Or.inl rfl)) (fun _ _ _ _ _ => pts_nil) (fun _ _ _ _ _ => pe_ix (ixT (K := K) rfl) (pv 4) pe_int (fun _ _ => rfl))))), ?_⟩
    refine ⟨_, rfl, p, rfl, ⟨_, hS⟩, fun D hD => ?_⟩
    refine lc_map walk_tup hD (fun i x => (seen.map iv)[i]? = some x) (fun i H x H' y => y) (fun Hc s => s_seqT s hS) (fun i y H => ∃ o, seen[i]? = some o ∧ RowAt K H names y o) ?_ (by rw [len_iv]; omega) (fun i x Hc Qt hi s yv k => ?_) (fun Hd ys s hD' hl hE => ?_)
    · rintro i y H1 H2 ls ⟨o, ho, t, kk, e, a, b⟩
      exact ⟨o, ho, t, kk, e, ls.seqT a, b.ls ls⟩
    · obtain ⟨o, ho, rfl⟩ := get_map yv
      have hon := hlt o (List.mem_of_getElem? ho)
      obtain ⟨l, hl⟩ := lt_get hon
      obtain ⟨xl, hxl, hNT⟩ := paired_get' hP hl
      refine ⟨_, rfl, _, rfl, np, ns, _, xl, rfl, rfl, s.seq hN, at_nat hxl, xl, l, rfl, hNT.ls (s_ls s), hsm l (List.mem_of_getElem? hl), fun y H' s' zt => ?_⟩
      refine ⟨_, rfl, (by show 2 ≤ sizeLine; decide), fun t ht => ?_⟩
      have el : names.getD o [] = l := by rw [List.getD_eq_getElem?_getD, hl]; rfl
      refine k _ _ (s'.trans (same_new ht _)) ⟨o, ho, t, y, rfl, tupOf upd_same, ?_⟩
      rw [el]
      exact zt.ls (s_ls (same_new ht _))
    · have hpair : Paired (RowAt K Hd names) ys seen := paired_of (by rw [hl, len_iv]) fun i y o hy ho => by
        obtain ⟨o', ho', r⟩ := hE i y hy
        rw [ho] at ho'
        cases ho'
        exact r
      refine ⟨D, ys, Nat, seen, encN names, RowAt K Hd names, rfl, lstOf hD', hpair, ?_, alike_encN names, PySem.W.Sortable.tuples fun b => ⟨_, _, rfl⟩, by omega, depth_encN names, fun zs p2 hz hp2 => ?_⟩
      · rintro y o ⟨t, kk, rfl, a, c, rfl, b⟩
        exact .tup a (.cons (.tup b (dp_ints _)) (.cons (.int _) .nil))
      · have s2 := s.trans (same_new hp2 (.lst zs))
        have sl := same_new hp2 (.lst zs)
        refine ⟨_, rfl, p2, rfl, ⟨_, lstOf upd_same⟩, fun D2 hD2 => ?_⟩
        have hzl : zs.length = seen.length := by rw [Paired.length hz]; exact inO_len seen names
        refine lc_map walk_list hD2 (fun i x => zs[i]? = some x) (fun i H x H' y => y) (fun Hc s => s.seq (lstOf upd_same)) (fun i y H => ∃ o, (inO seen names)[i]? = some o ∧ y = iv o) (fun _ _ _ _ _ h => h) (by omega) (fun i x Hc Qt hi s3 yv k => ?_) (fun Hf us s3 hD' hl hE => ?_)
        · obtain ⟨o, ho, t, kk, rfl, a, b⟩ := paired_get hz yv
          refine ⟨_, rfl, t, _, _, iv o, rfl, rfl, s_seqT s3 (s_seqT sl a), at_nat (i := 1) rfl, ?_⟩
          exact k _ _ (Same.refl _) ⟨o, ho, rfl⟩
        · have eu : us = (inO seen names).map iv := by
            apply List.ext_getElem?
            intro i
            rw [List.getElem?_map]
            cases e : us[i]? with
            | none =>
              have : (inO seen names)[i]? = none := by
                rw [List.getElem?_eq_none_iff] at e ⊢
                rw [inO_len]
                omega
              rw [this]
              rfl
            | some y =>
              obtain ⟨o, ho, rfl⟩ := hE i y e
              rw [ho]
              rfl
          subst eu
          exact q D2 Hf (s2.trans s3) hD'

abbrev nPlain : List Str := ["plan", "run", "names", "item", "seen", "gap"]
abbrev sPlain : Stmt := topS 22
theorem scPlain : FnScope nPlain ["plan", "run"] (defScope sPlain) := ⟨rfl, rfl, rfl, by decide +kernel, rfl, by decide +kernel, by decide +kernel⟩
theorem ok_plain_names {f f1 : Addr} {fd fd1 : FuncData} (F : Fun K "plain_names" "plain_names" sPlain f fd) (T : Txt mg) (C1 : Cal P w K mg base 2 "in_order" ["items", "names"] (spInOrder K) f1 fd1) : FnOk P w K mg base CX0 3 f fd ["plan", "run"] (spPlain K) := by
  refine F.ok scPlain (fun vs H Q E h => ?_) (fun cdv A outer s H vs Q E hr h => ?_)
  · obtain ⟨x, y, rows, run, rfl, _⟩ := h
    rfl
  · obtain ⟨x, y, rows, run, rfl, hN, ⟨pr, rfl, hR⟩, hPl, hRun, hlen, q⟩ := h
    obtain ⟨p, vs, rfl, hS, hvl, hg⟩ := hN.get
    refine ⟨_, pss_cons (ps_set (i := 2) scPlain.nd rfl (Or.inl rfl) (pe_lst pa_nil))
      (pss_cons (ps_for PassesOwn.never rfl (pi_enumT (by rfl) T.enumerate (pa_cons (pv 0) pa_nil)) (pg_tup rfl (pgs_cons (pg_name (i := 3) scPlain.nd rfl (Or.inl rfl)) (pgs_cons (pg_name (i := 4) scPlain.nd rfl (Or.inl rfl)) pgs_nil)))
        (pss_cons (ps_set (i := 5) scPlain.nd rfl (Or.inl rfl) (pe_ix ix_tup (pv 1) (pv 3) (fun _ _ => rfl)))
        (pss_one (ps_if (pt_cmpR op_eq (pv 5) pe_int (nomark _))
          (pss_one (ps_expr (pe_bm PySem.F.plainAttrs_list PySem.F.slot_list_append PySem.F.type_list_append mt_append (pv 2) (pa_cons (pe_tup (pa_cons (pv 3) pa_nil)) pa_nil))))
          (pss_one (ps_expr (pe_bm PySem.F.plainAttrs_list PySem.F.slot_list_append PySem.F.type_list_append mt_append (pv 2) (pa_cons (pe_op op_catA
            (pe_ix ix_list (pv 2) (pe_ix ix_list (pe_c C1 hr (pa_cons (pv 4) (pa_cons (pv 2) pa_nil))) (pe_op op_sub (pv 5) pe_int) (fun _ _ => rfl)) (fun _ _ => rfl)) (pe_tup (pa_cons (pv 3) pa_nil))) pa_nil))))))))
      (pss_one (ps_ret (pv 2)))), ?_⟩
    refine ⟨Nat.zero_le _, fun o ho => ?_⟩
    have s1 := same_new ho (.lst [])
    refine ⟨_, rfl, p, vs, rfl, s_seqT s1 hS, ?_⟩
    refine for_it walk_enumT (fun i σ H' => Same H H' ∧ (∃ ns, H' o = some (.lst ns) ∧ Paired (NT K H') ns (pn rows run i)) ∧ ∃ z1 z2 z3, σ = [some (.ref p), some (.ref pr), some (.ref o), z1, z2, z3]) ⟨s1, ⟨[], upd_same, .nil⟩, none, none, none, rfl⟩ (fun i σ H' _ h => s_seqT h.1 hS) ?_ ?_
    · rintro i x σ H1 H2 hi ⟨s3, ⟨ns, ho3, hns⟩, z1, z2, z3, rfl⟩ ⟨T', a, b, rfl, nT, rfl, e1, e2⟩
      have e1 : V.int (i : Nat) = a := Option.some.inj e1
      subst e1
      have hir : i < rows.length := by omega
      obtain ⟨r, hr'⟩ := lt_get hir
      obtain ⟨qa, hqa, sqa⟩ := hg i r hr'
      have eb : b = .ref qa := Option.some.inj (e2.symm.trans hqa)
      subst eb
      have sT := same_new nT (.tup [V.int (i : Nat), .ref qa])
      refine ⟨T', [V.int (i : Nat), .ref qa], rfl, .inl (.inl upd_same), rfl, _, [.ref qa], rfl, _, [], rfl, rfl, ?_⟩
      have ho4 := sT _ _ ho3
      have s4 := s3.trans sT
      have hns4 : Paired (NT K (upd H1 T' (.tup [V.int (i : Nat), .ref qa]))) ns (pn rows run i) := Paired.mapP hns fun _ _ h => h.ls (s_ls sT)
      generalize upd H1 T' (.tup [V.int (i : Nat), .ref qa]) = H4 at ho4 s4 hns4
      obtain ⟨g, hgi⟩ := lt_get (l := run) (i := i) (by rw [hRun.1]; exact hir)
      refine ⟨_, rfl, _, rfl, pr, _, _, iv g, rfl, rfl, s_seqT s4 hR, at_iv hgi, _, rfl, rfl, _, rfl, ?_⟩
      have erow : rows.getD i [] = r := by rw [List.getD_eq_getElem?_getD, hr']; rfl
      have erun : run.getD i 0 = g := by rw [List.getD_eq_getElem?_getD, hgi]; rfl
      have nl : ns.length = i := by rw [Paired.length hns4, pn_len]
      -- the end of a turn: a tuple y of the new name is appended
      have fin : ∀ (y : V) (H5 : Hp), Same H4 H5 → NT K H5 y (nameOf r g (pn rows run i) i) → (Same H (upd H5 o (.lst (ns ++ [y]))) ∧ ∃ ns', (upd H5 o (.lst (ns ++ [y]))) o = some (.lst ns') ∧ Paired (NT K (upd H5 o (.lst (ns ++ [y])))) ns' (pn rows run (i + 1))) := fun y H5 s5 hy => by
        have ls := (But.upd H5 (.lst (ns ++ [y]))).ls (s5 _ _ ho4)
        refine ⟨s_then (s4.trans s5) ho _, _, upd_same, ?_⟩
        rw [pn, erow, erun]
        exact paired_app (Paired.mapP hns4 fun _ _ h => h.ls ((s_ls s5).trans ls)) (.cons (hy.ls ls) .nil)
      refine ite2 (fun e => ?_) (fun e => ?_)
      · have g0 : g = 0 := by
          have : (g : Int) = 0 := V.int.inj (of_decide_eq_true e)
          omega
        subst g0
        refine ⟨_, rfl, .inl ⟨rfl, _, lstOf ho4⟩, _, rfl, (by show 1 ≤ sizeLine; decide), fun t ht => ?_⟩
        have s5 := same_new ht (.tup [V.int (i : Nat)])
        refine ⟨o, ns, _, rfl, rfl, s5 _ _ ho4, sz1000' (by omega), ?_⟩
        obtain ⟨f1, f2⟩ := fin (.ref t) _ s5 ⟨t, rfl, tupOf upd_same⟩
        exact ⟨f1, f2, _, _, _, rfl⟩
      · have g0 : g ≠ 0 := fun z => by
          subst z
          exact e (decide_eq_true rfl)
        have hgr := hRun.2 i g r hgi hr'
        refine ⟨_, rfl, .inl ⟨rfl, _, lstOf ho4⟩, _, rfl, _, rfl, _, rfl, .ref qa, o, ns, r, pn rows run i, rfl, ⟨qa, rfl, s_seqT s4 sqa⟩, lstOf ho4, hns4, ?_, ?_, ?_, fun S H5 s5 hS5 => ?_⟩
        · intro j hj
          have := hPl.lt i r hr' j hj
          rw [pn_len]
          exact this
        · intro l hl
          have := pn_small rows run i l hl
          omega
        · have := hPl.row_len hr'
          omega
        · have hgl : g - 1 < (inO r (pn rows run i)).length := by rw [inO_len]; omega
          obtain ⟨j, hj⟩ := lt_get hgl
          have hjr : j ∈ r := (inO_perm r (pn rows run i)).mem_iff.mp (List.mem_of_getElem? hj)
          have hji := hPl.lt i r hr' j hjr
          obtain ⟨l, hl⟩ := lt_get (l := pn rows run i) (i := j) (by rw [pn_len]; exact hji)
          obtain ⟨xl, hxl, t0, rfl, hNT⟩ := paired_get' hns4 hl
          have eg : ((g : Int) - 1) = ((g - 1 : Nat) : Int) := by omega
          refine ⟨_, rfl, _, _, rfl, rfl, S, _, _, iv j, rfl, rfl, lstOf hS5, ?_, o, ns, _, .ref t0, rfl, rfl, lstOf (s5 _ _ ho4), at_nat hxl, _, rfl, (by show 1 ≤ sizeLine; decide), fun t ht => ?_⟩
          · rw [eg]
            exact at_iv hj
          · have s6 := s5.trans (same_new ht (.tup [V.int (i : Nat)]))
            have hll := pn_small rows run i l (List.mem_of_getElem? hl)
            have en : nameOf r g (pn rows run i) i = l ++ [i] := by
              unfold nameOf
              rw [if_neg g0]
              rw [show (inO r (pn rows run i)).getD (g - 1) 0 = j by rw [List.getD_eq_getElem?_getD, hj]; rfl]
              rw [show (pn rows run i).getD j [] = l by rw [List.getD_eq_getElem?_getD, hl]; rfl]
            refine ⟨t0, t, _, _, rfl, rfl, s_seqT s6 hNT, tupOf upd_same, ?_, fun e0 => ?_, fun _ e0 => (by cases e0), fun _ _ t2 ht2 => ?_⟩
            · rw [len_iv]
              show l.length + 1 ≤ sizeLine
              exact sz1000 (by omega)
            · have l0 : l = [] := by cases l with
                | nil => rfl
                | cons => simp at e0
              refine ⟨o, ns, _, rfl, rfl, s6 _ _ ho4, sz1000' (by omega), ?_⟩
              obtain ⟨f1, f2⟩ := fin (.ref t) _ s6 ⟨t, rfl, by rw [en, l0]; exact tupOf upd_same⟩
              exact ⟨f1, f2, _, _, _, rfl⟩
            · have s7 := s6.trans (same_new ht2 (.tup (l.map iv ++ [V.int (i : Nat)])))
              refine ⟨o, ns, _, rfl, rfl, s7 _ _ ho4, sz1000' (by omega), ?_⟩
              obtain ⟨f1, f2⟩ := fin (.ref t2) _ s7 ⟨t2, rfl, by rw [en, List.map_append]; exact tupOf upd_same⟩
              exact ⟨f1, f2, _, _, _, rfl⟩
    · rintro σ H' ⟨s3, ⟨ns, ho3, hns⟩, z1, z2, z3, rfl⟩
      rw [hvl] at hns
      exact ⟨_, rfl, q o ns H' s3 ho ho3 hns⟩

abbrev sNames : Stmt := topS 23
theorem scNames : FnScope ["plan", "run"] ["plan", "run"] (defScope sNames) := ⟨rfl, rfl, rfl, by decide +kernel, rfl, by decide +kernel, by decide +kernel⟩
theorem ok_names {f f1 f2 f3 : Addr} {fd fd1 fd2 fd3 : FuncData} (F : Fun K "names" "names" sNames f fd) (T : Txt mg) (C1 : Cal P w K mg base 4 "check_plan" ["thing"] (spCheckPlan K) f1 fd1) (C2 : Cal P w K mg base 4 "check_run" ["plan", "thing"] (spIsRun K .non) f2 fd2)
    (C3 : Cal P w K mg base 3 "plain_names" ["plan", "run"] (spPlain K) f3 fd3) : FnOk P w K mg base CX0 5 f fd ["plan", "run"] (spNames K) := by
  refine F.ok scNames (fun vs H Q E h => ?_) (fun cdv A outer s H vs Q E hr h => ?_)
  · obtain ⟨x, y, rows, run, rfl, _⟩ := h
    rfl
  · obtain ⟨x, y, rows, run, rfl, hN, hR, hPl, hRun, hlen, q⟩ := h
    refine ⟨_, pss_cons (ps_expr (pe_c C1 hr (pa_cons (pv 0) pa_nil))) (pss_cons (ps_expr (pe_c C2 hr (pa_cons (pv 0) (pa_cons (pv 1) pa_nil))))
      (pss_one (ps_ret (pe_callTy call_tuple_of (by rfl) T.tuple (by decide +kernel) (pa_cons (pe_c C3 (hr.mono (by decide)) (pa_cons (pv 0) (pa_cons (pv 1) pa_nil))) pa_nil))))), ?_⟩
    refine ⟨_, rfl, x, rows, rfl, hN, hPl, hlen, fun H1 s1 => ?_⟩
    refine ⟨_, rfl, _, rfl, x, y, rows, run, rfl, hN.ls (s_ls s1), hR.ls (s_ls s1), hRun, hlen, fun H2 s2 => ?_⟩
    have s12 := s1.trans s2
    refine ⟨_, rfl, _, rfl, x, y, rows, run, rfl, hN.ls (s_ls s12), hR.ls (s_ls s12), hPl, hRun, hlen, fun p ns H3 s3 _ hp hns => ?_⟩
    refine ⟨p, ns, rfl, .inl ⟨lstOf hp, fun l hl => ?_⟩⟩
    have s4 := same_new hl (.tup ns)
    exact q _ _ (s12.trans (s3.trans s4)) ⟨l, ns, rfl, tupOf upd_same, Paired.mapP hns fun _ _ h => h.ls (s_ls s4)⟩
end
end Pb

/-! plain facts of lines and words -/
namespace Pb
open PySem PySem.Spec PyProof.Rows L2
/-- what a line looks like -/
theorem Lines.form {ls : List (List Nat)} (h : Lines ls) : ∀ (i : Nat) (l : List Nat), ls[i]? = some l → ∃ d, l = d ++ [i] ∧ (∀ x ∈ d, x < i) ∧ d.Pairwise (· < ·) ∧ (d = [] ∨ ∃ j, j < i ∧ ls[j]? = some d) := by
  intro i
  induction i using Nat.strongRecOn with
  | ind i ih =>
    intro l hl
    rcases h.step i l hl with e | ⟨j, q, hj, hq, e⟩
    · exact ⟨[], e, by simp, List.Pairwise.nil, .inl rfl⟩
    · obtain ⟨d, ed, h1, h2, _⟩ := ih j hj q hq
      refine ⟨q, e, ?_, ?_, .inr ⟨j, hj, hq⟩⟩
      · intro x hx
        rw [ed, List.mem_append, List.mem_singleton] at hx
        rcases hx with hx | hx
        · have := h1 x hx
          omega
        · omega
      · rw [ed, List.pairwise_append]
        exact ⟨h2, List.pairwise_singleton _ _, fun a ha b hb => by rw [List.mem_singleton] at hb; rw [hb]; exact h1 a ha⟩
theorem Lines.lt {ls : List (List Nat)} (h : Lines ls) {i : Nat} {l : List Nat} (hl : ls[i]? = some l) : ∀ x ∈ l, x ≤ i := by
  obtain ⟨d, e, h1, _⟩ := h.form i l hl
  intro x hx
  rw [e, List.mem_append, List.mem_singleton] at hx
  rcases hx with hx | hx
  · exact Nat.le_of_lt (h1 x hx)
  · omega
theorem Lines.asc {ls : List (List Nat)} (h : Lines ls) {i : Nat} {l : List Nat} (hl : ls[i]? = some l) : l.Pairwise (· < ·) := by
  obtain ⟨d, e, h1, h2, _⟩ := h.form i l hl
  rw [e, List.pairwise_append]
  exact ⟨h2, List.pairwise_singleton _ _, fun a ha b hb => by rw [List.mem_singleton] at hb; rw [hb]; exact h1 a ha⟩
theorem Lines.inj {ls : List (List Nat)} (h : Lines ls) {i j : Nat} {l : List Nat} (hi : ls[i]? = some l) (hj : ls[j]? = some l) : i = j := by
  obtain ⟨d, e, _⟩ := h.form i l hi
  obtain ⟨d', e', _⟩ := h.form j l hj
  have := e.symm.trans e'
  have := congrArg List.getLast? this
  simpa using this
theorem Lines.nodup {ls : List (List Nat)} (h : Lines ls) : ls.Nodup := by
  rw [List.Nodup, List.pairwise_iff_getElem]
  intro i j hi hj hij e
  have := h.inj (List.getElem?_eq_getElem hi) (by rw [e]; exact List.getElem?_eq_getElem hj)
  omega
theorem Lines.len {ls : List (List Nat)} (h : Lines ls) {i : Nat} {l : List Nat} (hl : ls[i]? = some l) : l.length ≤ i + 1 :=
  nodup_lt_len (nodup_of_asc (h.asc hl)) fun j hj => Nat.lt_succ_of_le (h.lt hl j hj)
theorem least_get {ls : List (List Nat)} {i : Nat} : (least ls)[i]? = ls[i]?.map List.dropLast := List.getElem?_map ..
theorem least_len {ls : List (List Nat)} : (least ls).length = ls.length := List.length_map _
/-- a line's beginnings are lines -/
theorem Lines.start {ls : List (List Nat)} (h : Lines ls) : ∀ (i : Nat) (l : List Nat), ls[i]? = some l → ∀ j ∈ l, ∃ q, ls[j]? = some q ∧ ∀ x ∈ q, x ∈ l := by
  intro i
  induction i using Nat.strongRecOn with
  | ind i ih =>
    intro l hl j hj
    obtain ⟨d, e, h1, _, h3⟩ := h.form i l hl
    rw [e, List.mem_append, List.mem_singleton] at hj
    rcases hj with hj | hj
    · rcases h3 with h3 | ⟨m, hm, hd⟩
      · rw [h3] at hj
        cases hj
      · obtain ⟨q, hq, hs⟩ := ih m hm d hd j hj
        exact ⟨q, hq, fun x hx => by rw [e]; exact List.mem_append_left _ (hs x hx)⟩
    · subst hj
      exact ⟨l, hl, fun x hx => hx⟩
theorem Lines.plan {ls : List (List Nat)} (h : Lines ls) : Plan (least ls) where
  asc := fun i r hr => by
    rw [least_get, Option.map_eq_some_iff] at hr
    obtain ⟨l, hl, rfl⟩ := hr
    exact (h.asc hl).sublist (List.dropLast_sublist l)
  lt := fun i r hr j hj => by
    rw [least_get, Option.map_eq_some_iff] at hr
    obtain ⟨l, hl, rfl⟩ := hr
    obtain ⟨d, e, h1, _⟩ := h.form i l hl
    rw [e, List.dropLast_concat] at hj
    exact h1 j hj
  tr := fun i r hr j hj q hq x hx => by
    rw [least_get, Option.map_eq_some_iff] at hr hq
    obtain ⟨l, hl, rfl⟩ := hr
    obtain ⟨m, hm, rfl⟩ := hq
    obtain ⟨d, e, h1, _, h3⟩ := h.form i l hl
    rw [e, List.dropLast_concat] at hj ⊢
    rcases h3 with h3 | ⟨n, hn, hd⟩
    · rw [h3] at hj
      cases hj
    · obtain ⟨q, hq, hs⟩ := h.start n d hd j hj
      rw [hm] at hq
      cases hq
      exact hs x (List.dropLast_subset _ hx)
/-! words -/
theorem tx_list (l : List Nat) : (tx l).cps.toList = l := rfl
theorem tx_len (l : List Nat) : (tx l).length = l.length := by
  show l.toArray.size = l.length
  simp
theorem tx_inj {l m : List Nat} (h : tx l = tx m) : l = m := by
  have := congrArg (fun z : Str => z.cps.toList) h
  exact this
theorem mem_alpha (c : Nat) : c ∈ alpha ↔ 97 ≤ c ∧ c ≤ 122 := by
  unfold alpha
  rw [List.mem_map]
  constructor
  · rintro ⟨i, hi, rfl⟩
    have := List.mem_range.mp hi
    omega
  · intro h
    exact ⟨122 - c, List.mem_range.mpr (by omega), by omega⟩
theorem alpha_dec : alpha.Pairwise (· > ·) := by decide
theorem LetOk.nodup {L : List Nat} (h : LetOk L) : L.Nodup := h.dec.imp fun q => Nat.ne_of_gt q
theorem LetOk.le {L : List Nat} (h : LetOk L) : L.length ≤ 26 := by
  have := nodup_len L alpha h.nodup fun c hc => (mem_alpha c).mpr (h.rg c hc)
  simpa [alpha] using this
theorem getD_of {α : Type} {l : List α} {i : Nat} {x d : α} (h : l[i]? = some x) : l.getD i d = x := by
  rw [List.getD_eq_getElem?_getD, h]
  rfl
theorem LetOk.at {L : List Nat} (h : LetOk L) {i j : Nat} (hi : i < j) (hj : j < L.length) : L.getD j 0 < L.getD i 0 := by
  have a := List.getElem?_eq_getElem hj
  have b := List.getElem?_eq_getElem (Nat.lt_trans hi hj)
  rw [getD_of a, getD_of b]
  exact (List.pairwise_iff_getElem.mp h.dec) i j _ hj hi
theorem LetOk.at_lt {L : List Nat} (h : LetOk L) {i j : Nat} (hi : i < L.length) (hj : j < L.length) : L.getD j 0 < L.getD i 0 ↔ i < j := by
  constructor
  · intro q
    rcases Nat.lt_trichotomy i j with a | a | a
    · exact a
    · subst a; omega
    · have := h.at a hi
      omega
  · exact fun q => h.at q hj
theorem LetOk.at_inj {L : List Nat} (h : LetOk L) {i j : Nat} (hi : i < L.length) (hj : j < L.length) (e : L.getD i 0 = L.getD j 0) : i = j := by
  rcases Nat.lt_trichotomy i j with a | a | a
  · have := h.at a hj; omega
  · exact a
  · have := h.at a hi; omega
theorem LetOk.mem {L : List Nat} {i : Nat} (hi : i < L.length) : L.getD i 0 ∈ L := by
  rw [getD_of (List.getElem?_eq_getElem hi)]
  exact List.getElem_mem hi
theorem wdL_app (L d : List Nat) (i : Nat) : wdL L (d ++ [i]) = wdL L d ++ [L.getD i 0] := by
  unfold wdL
  rw [List.map_append]
  rfl
theorem wdL_len (L l : List Nat) : (wdL L l).length = l.length := List.length_map _
theorem wdL_inj {L : List Nat} (h : LetOk L) : ∀ {l m : List Nat}, (∀ i ∈ l, i < L.length) → (∀ i ∈ m, i < L.length) → wdL L l = wdL L m → l = m
  | [], [], _, _, _ => rfl
  | [], _ :: _, _, _, e => by cases e
  | _ :: _, [], _, _, e => by cases e
  | a :: l, b :: m, hl, hm, e => by
    have e1 : L.getD a 0 = L.getD b 0 := (List.cons.inj e).1
    have e2 : wdL L l = wdL L m := (List.cons.inj e).2
    rw [h.at_inj (hl a List.mem_cons_self) (hm b List.mem_cons_self) e1, wdL_inj h (fun i hi => hl i (List.mem_cons_of_mem _ hi)) (fun i hi => hm i (List.mem_cons_of_mem _ hi)) e2]
theorem HeapOf.line {hs : List Str} {L : List Nat} {ls : List (List Nat)} (h : HeapOf hs L ls) {z : Str} (hz : z ∈ hs) : ∃ (i : Nat) (l : List Nat), ls[i]? = some l ∧ z = wd L l := by
  obtain ⟨l, hl, rfl⟩ := List.mem_map.mp (h.perm.mem_iff.mp hz)
  obtain ⟨i, hi⟩ := List.mem_iff_getElem?.mp hl
  exact ⟨i, l, hi, rfl⟩
theorem HeapOf.mem {hs : List Str} {L : List Nat} {ls : List (List Nat)} (h : HeapOf hs L ls) {i : Nat} {l : List Nat} (hl : ls[i]? = some l) : wd L l ∈ hs := h.perm.mem_iff.mpr (List.mem_map.mpr ⟨l, List.mem_of_getElem? hl, rfl⟩)
theorem HeapOf.small {hs : List Str} {L : List Nat} {ls : List (List Nat)} (h : HeapOf hs L ls) {i : Nat} {l : List Nat} (hl : ls[i]? = some l) : ∀ x ∈ l, x < L.length := fun x hx => by
  have a := h.lines.lt hl x hx
  have b := get_lt hl
  rw [h.len]
  omega
theorem HeapOf.le {hs : List Str} {L : List Nat} {ls : List (List Nat)} (h : HeapOf hs L ls) : ls.length ≤ 26 := by
  rw [← h.len]
  exact h.let_.le
theorem HeapOf.hlen {hs : List Str} {L : List Nat} {ls : List (List Nat)} (h : HeapOf hs L ls) : hs.length = ls.length := by
  rw [h.perm.length_eq, List.length_map]
theorem HeapOf.falls {hs : List Str} {L : List Nat} {ls : List (List Nat)} (h : HeapOf hs L ls) {i : Nat} {l : List Nat} (hl : ls[i]? = some l) : Falls (wdL L l) := by
  refine ⟨?_, ?_, ?_, ?_⟩
  · obtain ⟨d, e, _⟩ := h.lines.form i l hl
    rw [e, wdL_app]
    simp
  · unfold wdL
    rw [List.pairwise_map]
    exact List.Pairwise.imp_of_mem (fun {a b} ha hb q => h.let_.at q (h.small hl b hb)) (h.lines.asc hl)
  · intro c hc
    obtain ⟨x, hx, rfl⟩ := List.mem_map.mp hc
    exact h.let_.rg _ (LetOk.mem (h.small hl x hx))
  · rw [wdL_len]
    have := h.lines.len hl
    have := get_lt hl
    have := h.le
    omega
theorem HeapOf.winj {hs : List Str} {L : List Nat} {ls : List (List Nat)} (h : HeapOf hs L ls) {i j : Nat} {l m : List Nat} (hl : ls[i]? = some l) (hm : ls[j]? = some m) (e : wd L l = wd L m) : l = m :=
  wdL_inj h.let_ (h.small hl) (h.small hm) (tx_inj e)
theorem HeapOf.nodup {hs : List Str} {L : List Nat} {ls : List (List Nat)} (h : HeapOf hs L ls) : hs.Nodup := by
  refine h.perm.nodup_iff.mpr ?_
  rw [List.Nodup, List.pairwise_map]
  refine List.Pairwise.imp_of_mem (fun {a b} ha hb q e => q ?_) h.lines.nodup
  obtain ⟨i, hi⟩ := List.mem_iff_getElem?.mp ha
  obtain ⟨j, hj⟩ := List.mem_iff_getElem?.mp hb
  exact h.winj hi hj e
/-- a text's last sign -/
def lastC (z : Str) : Nat := z.cps.toList.getLastD 0
theorem lastC_wd (L d : List Nat) (i : Nat) : lastC (wd L (d ++ [i])) = L.getD i 0 := by
  show (wdL L (d ++ [i])).getLastD 0 = _
  rw [wdL_app, List.getLastD_concat]
theorem HeapOf.last {hs : List Str} {L : List Nat} {ls : List (List Nat)} (h : HeapOf hs L ls) {i : Nat} {l : List Nat} (hl : ls[i]? = some l) : lastC (wd L l) = L.getD i 0 := by
  obtain ⟨d, e, _⟩ := h.lines.form i l hl
  rw [e, lastC_wd]
theorem HeapOf.last_nodup {hs : List Str} {L : List Nat} {ls : List (List Nat)} (h : HeapOf hs L ls) : (hs.map lastC).Nodup := by
  rw [List.Nodup, List.pairwise_map]
  refine List.Pairwise.imp_of_mem (fun {a b} ha hb q e => q ?_) h.nodup
  obtain ⟨i, l, hl, rfl⟩ := h.line ha
  obtain ⟨j, m, hm, rfl⟩ := h.line hb
  rw [h.last hl, h.last hm] at e
  have hi := get_lt hl
  have hj := get_lt hm
  have := h.let_.at_inj (by rw [h.len]; exact hi) (by rw [h.len]; exact hj) e
  subst this
  rw [hl] at hm
  cases hm
  rfl
/-- atI of the last -/
theorem atI_getLast {l : List Nat} (h : l ≠ []) : atI l (-1) = some (l.getLastD 0) := by
  unfold atI ixN
  have hp : 0 < l.length := List.length_pos_iff.mpr h
  rw [if_neg (by omega), if_pos (by omega)]
  show l[((-1 : Int) + (l.length : Int)).toNat]? = _
  rw [show ((-1 : Int) + (l.length : Int)).toNat = l.length - 1 by omega]
  rw [List.getLastD_eq_getLast?, List.getLast?_eq_getElem?, List.getElem?_eq_getElem (by omega)]
  rfl
theorem cutS_init (l : List Nat) : cutS (tx l) none (some (-1)) = tx l.dropLast := by
  unfold cutS
  rw [HT.sIx_none, tx_len, tx_list]
  have e : HT.sIx l.length l.length (some (-1)) = l.length - 1 := by
    show (if (-1 : Int) < 0 then ((-1 : Int) + (l.length : Int)).toNat else min (-1 : Int).toNat l.length) = _
    rw [if_pos (by decide)]
    omega
  rw [e, Nat.sub_zero, List.drop_zero, ← List.dropLast_eq_take]
  rfl
end Pb

namespace Pb
open PySem PySem.Spec PyProof.Rows L2
theorem one_lt (a b : Nat) : decide ((⟨#[a]⟩ : Str).cps.toList < (⟨#[b]⟩ : Str).cps.toList) = decide (a < b) := by
  have : ([a] < [b]) ↔ a < b := by
    rw [List.cons_lt_cons_iff]
    simp
  exact decide_eq_decide.mpr this
theorem txtKeys_some (zs : List Str) (v : V) (z : Str) : (valV (zs.map fun x => ((Sum.inr x : Key), v)) (Sum.inr z)).isSome = decide (z ∈ zs) := by
  rw [← valV_any, List.any_map]
  by_cases h : z ∈ zs
  · rw [decide_eq_true h, List.any_eq_true]
    exact ⟨z, h, by simp⟩
  · rw [decide_eq_false h, Bool.eq_false_iff]
    intro q
    rw [List.any_eq_true] at q
    obtain ⟨n, hn, e⟩ := q
    have e3 : n = z := Sum.inr.inj (show (Sum.inr n : Key) = Sum.inr z from of_decide_eq_true e)
    exact h (e3 ▸ hn)
theorem keys_nodup {α : Type} {f : α → Str} {g : α → V} {zs : List α} (h : (zs.map f).Nodup) : ((zs.map fun x => ((Sum.inr (f x) : Key), g x)).map (·.1)).Nodup := by
  rw [List.map_map, List.Nodup, List.pairwise_map]
  rw [List.Nodup, List.pairwise_map] at h
  exact h.imp fun q e => q (Sum.inr.inj e)
section
variable {P : Program} {w : World} {K : PySem.W.Frag} {mg : Str → Option Value} {base : Heap}
abbrev nFalling : List Str := ["thing", "letter", "at"]
abbrev sFalling : Stmt := topS 26
theorem scFalling : FnScope nFalling ["thing"] (defScope sFalling) := ⟨rfl, rfl, rfl, by decide +kernel, rfl, by decide +kernel, by decide +kernel⟩
theorem ok_is_falling {f : Addr} {fd : FuncData} (F : Fun K "is_falling" "is_falling" sFalling f fd) (T : Txt mg) : FnOk P w K mg base CX0 1 f fd ["thing"] (spFalling K) := by
  obtain ⟨tl, hm⟩ := T.letters
  refine F.ok scFalling (fun vs H Q E h => ?_) (fun cdv A outer s H vs Q E hr h => ?_)
  · obtain ⟨l, rfl, _⟩ := h
    rfl
  · obtain ⟨l, rfl, ⟨hne, hdec, hrg, hlen⟩, q⟩ := h
    refine ⟨_, pss_cons (ps_if (PW.pt (pw_or (pt_not (pt_val (pe_callB call_isi (by rfl) T.isinstance (by decide +kernel) (pa_cons (pv 0) (pa_cons (pe_bltn (v := .ty "str") (by rfl) T.str (by decide +kernel) rfl) pa_nil)))))
        (pw_or (pt_cmpR op_eq (pv 0) pe_str (nomark _))
        (pw_or1 (pt_not (pt_val (pe_callB (cr_all rfl) (by rfl) T.all (by decide +kernel) (pa_cons (pe_lc (own := [("letter", 1)]) (g := gName 1) (tt := tYes) rfl scFalling.nd (pi_str (pv 0)) (blkOk_by (N := nFalling) (sc := defScope sFalling) (by decide +kernel))
          (fun _ _ _ _ _ => pg_name (i := 1) scFalling.nd rfl (Or.inl rfl)) (fun _ _ _ _ _ => pts_nil) (fun _ _ _ _ _ => pe_cmpR op_in_sign (pv 1) (pe_glob (v := .str (tx alpha)) (by rfl) hm ⟨_, rfl⟩) (by rfl))) pa_nil)))))))) pss_never pss_nil)
      (pss_one (ps_ret (pe_callB (cr_all rfl) (by rfl) T.all (by decide +kernel) (pa_cons (pe_lc (own := [("at", 2)]) (g := gName 2) (tt := tYes) rfl scFalling.nd (pi_range1 (by rfl) T.range (pa_cons (pe_op op_sub (pe_callB call_len_str (by rfl) T.len PySem.boot_len (pa_cons (pv 0) pa_nil)) pe_int) pa_nil)) (blkOk_by (N := nFalling) (sc := defScope sFalling) (by decide +kernel))
          (fun _ _ _ _ _ => pg_name (i := 2) scFalling.nd rfl (Or.inl rfl)) (fun _ _ _ _ _ => pts_nil) (fun _ _ _ _ _ => pe_cmpR op_lt_str (pe_ix ix_str (pv 0) (pe_op op_add (pv 2) pe_int) (fun _ _ => rfl)) (pe_ix ix_str (pv 0) (pv 2) (fun _ _ => rfl)) (nomark _))) pa_nil)))), ?_⟩
    have hlp : 0 < l.length := List.length_pos_iff.mpr hne
    refine ⟨_, rfl, _, _, _, _, true, rfl, .ty _, .base (.str _), kit_ty kb_ss, true, rfl, iteF ?_⟩
    refine ⟨_, rfl, rfl, _, rfl, ?_⟩
    refine ite2 (fun e => ?_) (fun _ => ?_)
    · have e2 : V.str (tx l) = V.str "" := of_decide_eq_true e
      have e3 : tx l = ("" : Str) := V.str.inj e2
      have e4 : l = [] := by
        have := congrArg (fun z : Str => z.cps.toList) e3
        exact this
      exact absurd e4 hne
    · refine ⟨_, rfl, _, rfl, fun D hD => ?_⟩
      refine lc_map walk_str hD (fun i x => ∃ c, l[i]? = some c ∧ x = .str ⟨#[c]⟩) (fun i H x H' y => ⟨y.1, ?_⟩) (fun _ _ => True.intro) (fun i y H => y = .bl true) (fun _ _ _ _ _ h => h) ?_ (fun i x Hc Qt hi s yv k => ?_) (fun Hd ys s hD' hl hE => ?_)
      · obtain ⟨c, hc, e⟩ := y.2
        exact ⟨c, by simpa [tx] using hc, e⟩
      · show (tx l).cps.size ≤ 100000
        have : (tx l).cps.size = l.length := tx_len l
        omega
      · obtain ⟨c, hc, rfl⟩ := yv
        refine ⟨_, rfl, c, tx alpha, rfl, rfl, ?_⟩
        rw [tx_list, decide_eq_true ((mem_alpha c).mpr (hrg c (List.mem_of_getElem? hc)))]
        exact k _ _ (Same.refl _) rfl
      · refine ⟨D, List.replicate (tx l).cps.size true, rfl, ?_, true, ?_, iteF ?_⟩
        · rw [← trues hl hE]
          exact lstOf hD'
        · rw [all_true]
        · refine ⟨_, rfl, _, rfl, (by rw [tx_len]; exact sz1000 (by omega)), _, _, rfl, rfl, _, rfl, ?_, ?_, fun D2 hD2 => ?_⟩
          · rw [tx_len]; omega
          · rw [tx_len]; omega
          · have en : (((tx l).length : Int) - 1).toNat = l.length - 1 := by rw [tx_len]; omega
            rw [en]
            refine lc_map walk_range hD2 (fun i x => x = .int (0 + (i : Int))) (fun i H x H' y => y) (fun _ _ => True.intro) (fun i y H => y = .bl true) (fun _ _ _ _ _ h => h) (by omega) (fun i x Hc Qt hi s2 yv k => ?_) (fun Hd2 ys2 s2 hD3 hl2 hE2 => ?_)
            · subst yv
              obtain ⟨c1, hc1⟩ := lt_get (l := l) (i := i + 1) (by omega)
              obtain ⟨c0, hc0⟩ := lt_get (l := l) (i := i) (by omega)
              have hlt : c1 < c0 := by
                obtain ⟨ha, ea⟩ := List.getElem?_eq_some_iff.mp hc0
                obtain ⟨hb, eb⟩ := List.getElem?_eq_some_iff.mp hc1
                have := (List.pairwise_iff_getElem.mp hdec) i (i + 1) ha hb (by omega)
                omega
              have i1 : atI l (0 + (i : Int) + 1) = some c1 := by
                rw [show (0 + (i : Int) + 1) = ((i + 1 : Nat) : Int) by omega]
                exact atI_nat hc1
              have i0 : atI l (0 + (i : Int)) = some c0 := by
                rw [show (0 + (i : Int)) = (i : Int) by omega]
                exact atI_nat hc0
              refine ⟨_, rfl, _, rfl, _, _, rfl, rfl, tx l, _, c1, rfl, rfl, (by rw [tx_len]; exact sz1000 (by omega)), i1, _, rfl, _, rfl, tx l, _, c0, rfl, rfl, (by rw [tx_len]; exact sz1000 (by omega)), i0, _, _, rfl, rfl, ?_⟩
              rw [one_lt, decide_eq_true hlt]
              exact k _ _ (Same.refl _) rfl
            · refine ⟨D2, List.replicate (l.length - 1) true, rfl, ?_, ?_⟩
              · rw [← trues hl2 hE2]
                exact lstOf hD3
              · rw [all_true]
                exact q _ (s.trans s2)

abbrev nCheckHeap : List Str := ["heap", "known", "lasts", "thing", "text"]
abbrev sCheckHeap : Stmt := topS 27
theorem scCheckHeap : FnScope nCheckHeap ["heap"] (defScope sCheckHeap) := ⟨rfl, rfl, rfl, by decide +kernel, rfl, by decide +kernel, by decide +kernel⟩
theorem ok_check_heap {f f1 f2 : Addr} {fd fd1 fd2 : FuncData} (F : Fun K "check_heap" "check_heap" sCheckHeap f fd) (T : Txt mg) (C1 : Cal P w K mg base 1 "is_listed" ["thing"] (spListed K) f1 fd1) (C2 : Cal P w K mg base 1 "is_falling" ["thing"] (spFalling K) f2 fd2) : FnOk P w K mg base CX0 2 f fd ["heap"] (spCheckHeap K) := by
  refine F.ok scCheckHeap (fun vs H Q E h => ?_) (fun cdv A outer s H vs Q E hr h => ?_)
  · obtain ⟨a, hs, L, ls, rfl, _⟩ := h
    rfl
  · obtain ⟨a, hs, L, ls, rfl, hA, hH, q⟩ := h
    have hu := hu_of hr
    have hhl := hH.hlen
    have hle := hH.le
    have hz : ∀ {i : Nat} {x : V}, (hs.map V.str)[i]? = some x → ∃ (j : Nat) (l : List Nat), ls[j]? = some l ∧ x = .str (wd L l) ∧ hs[i]? = some (wd L l) := fun {i x} hx => by
      obtain ⟨z, hz, rfl⟩ := get_map hx
      obtain ⟨j, l, hl, rfl⟩ := hH.line (List.mem_of_getElem? hz)
      exact ⟨j, l, hl, rfl, hz⟩
    refine ⟨_, pss_cons (ps_if (PW.pt (pw_or (pt_not (pt_val (pe_c C1 hr (pa_cons (pv 0) pa_nil))))
        (pw_or1 (pt_not (pt_val (pe_callB (cr_all rfl) (by rfl) T.all (by decide +kernel) (pa_cons (pe_lc (own := [("thing", 3)]) (g := gName 3) (tt := tYes) rfl scCheckHeap.nd (pi_seq (pv 0)) (blkOk_by (N := nCheckHeap) (sc := defScope sCheckHeap) (by decide +kernel))
          (fun _ _ _ _ _ => pg_name (i := 3) scCheckHeap.nd rfl (Or.inl rfl)) (fun _ _ _ _ _ => pts_nil) (fun _ _ _ _ _ => pe_c C2 hr (pa_cons (pv 3) pa_nil))) pa_nil))))))) pss_never pss_nil)
      (pss_cons (ps_set (i := 1) scCheckHeap.nd rfl (Or.inr rfl) (pe_dc (own := [("text", 4)]) (g := gName 4) (tt := tYes) rfl scCheckHeap.nd (pi_seq (pv 0)) (blkOk_by (N := nCheckHeap) (sc := defScope sCheckHeap) (by decide +kernel))
          (fun _ _ _ _ _ => pg_name (i := 4) scCheckHeap.nd rfl (Or.inl rfl)) (fun _ _ _ _ _ => pts_nil) (fun _ _ _ _ _ => pv 4) (fun _ _ _ _ _ => pe_bl)))
      (pss_cons (ps_setDc (i := 2) (own := [("text", 4)]) (g := gName 4) (tt := tYes) rfl scCheckHeap.nd rfl rfl (sw_trueD rfl rfl rfl (by decide +kernel)) (pi_seq (pv 0)) (blkOk_by (N := nCheckHeap) (sc := defScope sCheckHeap) (by decide +kernel))
          (fun _ _ _ _ _ => pg_name (i := 4) scCheckHeap.nd rfl (Or.inl rfl)) (fun _ _ _ _ _ => pts_nil) (fun _ _ _ _ _ => pe_ix ix_str (pv 4) (pe_un un_neg pe_int) (fun _ _ => rfl)) (fun _ _ _ _ _ => pe_bl))
      (pss_cons (ps_if (pt_cmpR op_ne (pe_callB call_lenD (by rfl) T.len PySem.boot_len (pa_cons (pv 2) pa_nil)) (pe_callB call_len_seq (by rfl) T.len PySem.boot_len (pa_cons (pv 0) pa_nil)) (nomark _)) pss_never pss_nil)
      (pss_one (ps_if (pt_not (pt_val (pe_callB (cr_all rfl) (by rfl) T.all (by decide +kernel) (pa_cons (pe_lc (own := [("text", 4)]) (g := gName 4) (tt := tYes) rfl scCheckHeap.nd (pi_seq (pv 0)) (blkOk_by (N := nCheckHeap) (sc := defScope sCheckHeap) (by decide +kernel))
          (fun _ _ _ _ _ => pg_name (i := 4) scCheckHeap.nd rfl (Or.inl rfl)) (fun _ _ _ _ _ => pts_nil)
          (fun _ _ _ _ _ => pe_or (pe_cmpR op_eq (pe_callB call_len_str (by rfl) T.len PySem.boot_len (pa_cons (pv 4) pa_nil)) pe_int (nomark _)) (pe_one (pe_cmp (pc_din hu (pe_slice sl_str (pv 4) po_none (po_some (pe_un un_neg pe_int))) (pv 1)) rfl)))) pa_nil)))) pss_never pss_nil))))), ?_⟩
    have hml : (hs.map V.str).length = hs.length := List.length_map _
    refine ⟨_, rfl, a, _, rfl, hA, fun H1 s1 => ⟨true, rfl, iteF ?_⟩⟩
    -- all([is_falling(thing) for thing in heap])
    refine ⟨_, rfl, a, _, rfl, hA.same s1, fun J G wk hG D hD => ?_⟩
    refine lc_map wk hD (fun i x => (hs.map V.str)[i]? = some x) (fun i H x H' y => y) hG (fun i y H => y = .bl true) (fun _ _ _ _ _ h => h) (by omega) (fun i x Hc Qt hi s yv k => ?_) (fun H2 ys s2 hD' hl hE => ?_)
    · obtain ⟨j, l, hl, rfl, _⟩ := hz yv
      exact ⟨_, rfl, wdL L l, rfl, hH.falls hl, fun H' s' => k _ _ s' rfl⟩
    refine ⟨D, List.replicate (hs.map V.str).length true, rfl, by rw [← trues hl hE]; exact lstOf hD', true, by rw [all_true], iteF ?_⟩
    have s12 := s1.trans s2
    -- known
    refine ⟨_, rfl, a, _, rfl, hA.same s12, fun J G wk hG Dk hDk => ?_⟩
    have kl : (hs.map fun x => ((Sum.inr x : Key), V.bl true)).length = (hs.map V.str).length := by rw [List.length_map, List.length_map]
    refine dc_map (kvs := hs.map fun x => ((Sum.inr x : Key), V.bl true)) (by rw [kl]; exact wk) hDk hG (keys_nodup (f := id) (by rw [List.map_id]; exact hH.nodup)) (by rw [kl]; omega) (fun m x Hc H' k v Qt hk s y cont => ?_) (fun H3 s3 hDk3 => ?_)
    · obtain ⟨rfl, hx⟩ := y
      obtain ⟨z, hzz, e⟩ := get_map hk
      rw [map_get hzz] at hx
      cases hx
      cases e
      exact cont _ _ (Same.refl _) (wipe_set _ 4 _) (fun H3 Qy _ kk => ⟨_, rfl, kk _ (Same.refl _)⟩) (fun H3 Qy _ kk => kk _ (Same.refl _))
    have s13 := s12.trans s3
    -- lasts
    refine ⟨_, rfl, a, _, rfl, hA.same s13, fun J G wk hG Dl hDl => ?_⟩
    have ll : (hs.map fun x => ((Sum.inr (sg (lastC x)) : Key), V.bl true)).length = (hs.map V.str).length := by rw [List.length_map, List.length_map]
    refine dc_map (kvs := hs.map fun x => ((Sum.inr (sg (lastC x)) : Key), V.bl true)) (by rw [ll]; exact wk) hDl hG (keys_nodup (f := fun x => sg (lastC x)) ?_) (by rw [ll]; omega) (fun m x Hc H' k v Qt hk s y cont => ?_) (fun H4 s4 hDl4 => ?_)
    · have := hH.last_nodup
      rw [List.Nodup, List.pairwise_map] at this ⊢
      refine this.imp fun q e => q ?_
      have := congrArg (fun z : Str => z.cps.toList) e
      simpa [sg] using this
    · obtain ⟨rfl, hx⟩ := y
      obtain ⟨z, hzz, e⟩ := get_map hk
      have hx' := hx
      rw [map_get hzz] at hx
      cases hx
      cases e
      obtain ⟨j, l, hl, e1, _⟩ := hz hx'
      have ez : z = wd L l := V.str.inj e1
      subst ez
      refine cont _ _ (Same.refl _) (wipe_set _ 4 _) (fun H3 Qy _ kk => ?_) (fun H3 Qy _ kk => kk _ (Same.refl _))
      exact ⟨_, rfl, 1, rfl, wd L l, -1, lastC (wd L l), rfl, rfl, (by rw [show wd L l = tx (wdL L l) from rfl, tx_len]; exact sz1000 (by have := (hH.falls hl).2.2.2; omega)), atI_getLast (hH.falls hl).1, kk _ (Same.refl _)⟩
    have s14 := s13.trans s4
    refine ⟨_, rfl, Dl, _, rfl, hDl4, _, rfl, a, _, rfl, hA.same s14, rfl, _, rfl, iteNS (by rw [ll]) ?_⟩
    -- all([len(text) == 1 or text[:-1] in known ..])
    refine ⟨_, rfl, a, _, rfl, hA.same s14, fun J G wk hG D2 hD2 => ?_⟩
    refine lc_map wk hD2 (fun i x => (hs.map V.str)[i]? = some x) (fun i H x H' y => y) hG (fun i y H => y = .bl true) (fun _ _ _ _ _ h => h) (by omega) (fun i x Hc Qt hi s yv k => ?_) (fun H5 ys5 s5 hD5 hl5 hE5 => ?_)
    · obtain ⟨j, l, hl, rfl, _⟩ := hz yv
      have hfl := hH.falls hl
      have hsz : (wd L l).length ≤ sizeLine := by
        rw [show wd L l = tx (wdL L l) from rfl, tx_len]
        exact sz1000 (by have := hfl.2.2.2; omega)
      refine ⟨_, rfl, _, rfl, hsz, rfl, _, rfl, ?_⟩
      refine ite2 (fun _ => k _ _ (Same.refl _) rfl) (fun e => ?_)
      have hknown := s _ _ (s4 _ _ hDk3)
      refine ⟨_, rfl, 1, rfl, -1, rfl, wd L l, rfl, hsz, _, rfl, Dk, _, rfl, DGet.k (k := Sum.inr (cutS (wd L l) none (some (-1)))) hknown, ?_⟩
      rw [txtKeys_some]
      have hin : cutS (wd L l) none (some (-1)) ∈ hs := by
        rw [show wd L l = tx (wdL L l) from rfl, cutS_init]
        obtain ⟨d, ed, _, _, h3⟩ := hH.lines.form j l hl
        rcases h3 with h3 | ⟨m, _, hd⟩
        · exfalso
          apply e
          rw [ed, h3]
          refine decide_eq_true ?_
          show V.int (((wd L ([] ++ [j])).length : Nat) : Int) = V.int 1
          rw [show wd L ([] ++ [j]) = tx (wdL L ([] ++ [j])) from rfl, tx_len, wdL_len]
          rfl
        · rw [ed, wdL_app, List.dropLast_concat]
          exact hH.mem hd
      rw [decide_eq_true hin]
      exact k _ _ (Same.refl _) rfl
    · refine ⟨D2, List.replicate (hs.map V.str).length true, rfl, by rw [← trues hl5 hE5]; exact lstOf hD5, true, by rw [all_true], iteF ?_⟩
      exact q _ (s14.trans s5)
end
end Pb

/-! orders and keys -/
namespace Pb
open PySem PySem.Spec PyProof.Rows L2
/-! ### lists by their first unlike place -/
theorem map_lt {α : Type} {f : α → Int} {g : α → Nat} : ∀ {l m : List α}, (∀ a ∈ l, ∀ b ∈ m, (f a < f b ↔ g a < g b) ∧ (f a = f b ↔ g a = g b)) → (l.map f < m.map f ↔ l.map g < m.map g)
  | [], [], _ => by simp
  | [], _ :: _, _ => by simp
  | _ :: _, [], _ => by simp
  | a :: l, b :: m, h => by
    have ih := map_lt (l := l) (m := m) fun x hx y hy => h x (List.mem_cons_of_mem _ hx) y (List.mem_cons_of_mem _ hy)
    obtain ⟨h1, h2⟩ := h a List.mem_cons_self b List.mem_cons_self
    rw [List.map_cons, List.map_cons, List.map_cons, List.map_cons, List.cons_lt_cons_iff, List.cons_lt_cons_iff, h1, h2, ih]
theorem kz_inj {l m : List Nat} (h : kz l = kz m) : l = m := by
  unfold kz at h
  induction l generalizing m with
  | nil => cases m with
    | nil => rfl
    | cons => simp at h
  | cons a l ih => cases m with
    | nil => simp at h
    | cons b m =>
      simp only [List.map_cons, List.cons.injEq] at h
      rw [ih h.2]
      have : a = b := by omega
      rw [this]
theorem kz_tri (l m : List Nat) (h : l ≠ m) : kz l < kz m ∨ kz m < kz l := by
  rcases Classical.em (kz l < kz m) with a | a
  · exact .inl a
  rcases Classical.em (kz m < kz l) with b | b
  · exact .inr b
  · exact absurd (kz_inj (List.le_antisymm (List.not_lt.mp b) (List.not_lt.mp a))) h
theorem kz_asym {l m : List Nat} (a : kz l < kz m) : ¬ kz m < kz l := fun b => absurd (List.lt_trans a b) (List.lt_irrefl _)
/-- words stand as keys do -/
theorem wdL_lt {L : List Nat} (h : LetOk L) {l m : List Nat} (hl : ∀ i ∈ l, i < L.length) (hm : ∀ i ∈ m, i < L.length) : wdL L l < wdL L m ↔ kz l < kz m := by
  unfold wdL kz
  refine (map_lt fun a ha b hb => ⟨?_, ?_⟩).symm
  · rw [h.at_lt (hm b hb) (hl a ha)]
    omega
  · constructor
    · intro e
      have : a = b := by omega
      rw [this]
    · intro e
      have := h.at_inj (hl a ha) (hm b hb) e
      omega
/-! ### an order by keys -/
theorem order_lt {order : List Nat} {n : Nat} {key : Nat → List Nat} (hp : order.Perm (List.range n)) (hs : order.Pairwise fun a b => ¬ kz (key b) < kz (key a)) (hk : ∀ a b, a < n → b < n → key a = key b → a = b) {a b : Nat} (ha : a < n) (hb : b < n) :
    order.idxOf a < order.idxOf b ↔ kz (key a) < kz (key b) := by
  have ia : order.idxOf a < order.length := List.idxOf_lt_length_iff.mpr (hp.mem_iff.mpr (List.mem_range.mpr ha))
  have ib : order.idxOf b < order.length := List.idxOf_lt_length_iff.mpr (hp.mem_iff.mpr (List.mem_range.mpr hb))
  have ea : order[order.idxOf a] = a := List.getElem_idxOf ia
  have eb : order[order.idxOf b] = b := List.getElem_idxOf ib
  constructor
  · intro h
    have q := (List.pairwise_iff_getElem.mp hs) _ _ ia ib h
    rw [ea, eb] at q
    have hne : key a ≠ key b := fun e => by
      have := hk a b ha hb e
      subst this
      omega
    exact (kz_tri _ _ hne).resolve_right q
  · intro h
    rcases Nat.lt_trichotomy (order.idxOf a) (order.idxOf b) with c | c | c
    · exact c
    · have : a = b := by
        have h1 : order[order.idxOf a] = order[order.idxOf b] := getElem_congr_idx c
        rw [ea, eb] at h1
        exact h1
      subst this
      exact absurd h (List.lt_irrefl _)
    · have q := (List.pairwise_iff_getElem.mp hs) _ _ ib ia c
      rw [ea, eb] at q
      exact absurd h q
theorem gaps_run {rows ls : List (List Nat)} {order : List Nat} (hp : order.Perm (List.range rows.length)) (hs : order.Pairwise fun a b => ¬ kz (ls.getD b []) < kz (ls.getD a [])) (hL : Lines ls) (hl : ls.length = rows.length) (hP : Plan rows) :
    gapsOf rows order = runOf rows ls := by
  unfold gapsOf runOf
  refine List.map_congr_left fun i hi => ?_
  have hi := List.mem_range.mp hi
  obtain ⟨r, hr⟩ := lt_get hi
  rw [getD_of hr]
  unfold gapOf
  congr 1
  refine List.filter_congr fun o ho => ?_
  have hoi := hP.lt i r hr o ho
  refine decide_eq_decide.mpr (order_lt (key := fun j => ls.getD j []) hp hs (fun a b ha hb e => ?_) (by omega) hi)
  obtain ⟨x, hx⟩ := lt_get (l := ls) (i := a) (by omega)
  obtain ⟨y, hy⟩ := lt_get (l := ls) (i := b) (by omega)
  have e' : ls.getD a [] = ls.getD b [] := e
  rw [getD_of hx, getD_of hy] at e'
  subst e'
  exact hL.inj hx hy
/-! ### what sorting gives -/
theorem sorted_pw {β : Type} (enc : β → PyData) (l : List β) : (l.mergeSort (PySem.W.dataLe false enc)).Pairwise fun a b => PySem.W.dataLt (enc b) (enc a) = false := by
  have h := PySem.W.sort_pairwise (PySem.W.sortLe_total (PyProof.Rows.listOrd PyProof.Rows.itemOrd) false fun b => PySem.W.keyToks (enc b)) l
  refine h.imp fun {a b} q => ?_
  have e : PySem.W.dataLe false enc a b = true := q
  rw [PySem.W.dataLe_eq] at e
  simpa using e
end Pb

namespace Pb
open PySem PySem.Spec PyProof.Rows L2
/-! ### the two orders -/
def encW (L : List Nat) (ls : List (List Nat)) (i : Nat) : PyData := .str (wd L (ls.getD i []))
def encR (ls : List (List Nat)) (i : Nat) : PyData := .tuple [.str (wd alpha (ls.getD i [])), .int i]
def orderW (L : List Nat) (ls : List (List Nat)) : List Nat := (List.range ls.length).mergeSort (PySem.W.dataLe false (encW L ls))
def orderR (ls : List (List Nat)) : List Nat := (List.range ls.length).mergeSort (PySem.W.dataLe false (encR ls))
theorem alpha_ok : LetOk alpha := ⟨alpha_dec, fun c hc => (mem_alpha c).mp hc⟩
theorem alpha_len : alpha.length = 26 := by unfold alpha; rw [List.length_map, List.length_range]
theorem orderW_perm (L : List Nat) (ls : List (List Nat)) : (orderW L ls).Perm (List.range ls.length) := List.mergeSort_perm _ _
theorem orderR_perm (ls : List (List Nat)) : (orderR ls).Perm (List.range ls.length) := List.mergeSort_perm _ _
theorem order_nodup {o : List Nat} {n : Nat} (h : o.Perm (List.range n)) : o.Nodup := h.nodup_iff.mpr List.nodup_range
theorem Lines.getD_lt {ls : List (List Nat)} (h : Lines ls) {i : Nat} (hi : i < ls.length) : ∀ x ∈ ls.getD i [], x < ls.length := fun x hx => by
  obtain ⟨l, hl⟩ := lt_get hi
  rw [getD_of hl] at hx
  have := h.lt hl x hx
  omega
theorem orderW_pw {L : List Nat} {ls : List (List Nat)} (hL : LetOk L) (hl : L.length = ls.length) (h : Lines ls) : (orderW L ls).Pairwise fun a b => ¬ kz (ls.getD b []) < kz (ls.getD a []) := by
  refine (sorted_pw (encW L ls) (List.range ls.length)).imp_of_mem fun {a b} ha hb q => ?_
  have ha := List.mem_range.mp ((orderW_perm L ls).mem_iff.mp ha)
  have hb := List.mem_range.mp ((orderW_perm L ls).mem_iff.mp hb)
  unfold encW at q
  rw [PySem.W.dataLt_str] at q
  have q2 : ¬ wdL L (ls.getD b []) < wdL L (ls.getD a []) := of_decide_eq_false q
  rw [wdL_lt hL (fun i hi => by rw [hl]; exact h.getD_lt hb i hi) (fun i hi => by rw [hl]; exact h.getD_lt ha i hi)] at q2
  exact q2
theorem orderR_pw {ls : List (List Nat)} (hl : ls.length ≤ 26) (h : Lines ls) : (orderR ls).Pairwise fun a b => ¬ kz (ls.getD b []) < kz (ls.getD a []) := by
  refine (sorted_pw (encR ls) (List.range ls.length)).imp_of_mem fun {a b} ha hb q => ?_
  have ha := List.mem_range.mp ((orderR_perm ls).mem_iff.mp ha)
  have hb := List.mem_range.mp ((orderR_perm ls).mem_iff.mp hb)
  unfold encR at q
  have small : ∀ j, j < ls.length → ∀ i ∈ ls.getD j [], i < alpha.length := fun j hj i hi => by
    have := h.getD_lt hj i hi
    rw [alpha_len]
    omega
  rw [PySem.W.dataLt_pair (by simp [PySem.W.alike]) (by simp [PySem.W.alike])] at q
  rw [← wdL_lt alpha_ok (small b hb) (small a ha)]
  intro lt
  have ne : PyData.eqv (.str (wd alpha (ls.getD b []))) (.str (wd alpha (ls.getD a []))) = false := by
    rw [Bool.eq_false_iff]
    intro e
    have e2 : wd alpha (ls.getD b []) = wd alpha (ls.getD a []) := by simpa [PyData.eqv] using e
    rw [tx_inj e2] at lt
    exact List.lt_irrefl _ lt
  rw [ne, if_neg Bool.false_ne_true, PySem.W.dataLt_str] at q
  exact (of_decide_eq_false q) lt
theorem inO_pw (seen : List Nat) (names : List (List Nat)) : (inO seen names).Pairwise fun a b => ¬ kz (names.getD b []) < kz (names.getD a []) := by
  refine (sorted_pw (encN names) seen).imp fun {a b} q lt => ?_
  unfold encN at q
  rw [PySem.W.dataLt_pair (by simp [PySem.W.alike, PySem.W.alike_ints]) (by simp [PySem.W.alike])] at q
  have ne : PyData.eqv (.tuple ((kz (names.getD b [])).map .int)) (.tuple ((kz (names.getD a [])).map .int)) = false := by
    rw [Bool.eq_false_iff]
    intro e
    have e2 := (PySem.W.toks_eqv _ _ (by simp [PySem.W.alike, PySem.W.alike_ints])).1 e
    have r1 : PySem.W.rowLt ((kz (names.getD b [])).map .int) ((kz (names.getD a [])).map .int) = true := by rw [PySem.W.dataLt_ints]; exact decide_eq_true lt
    unfold PySem.W.rowLt at r1
    have e3 : PySem.W.keyToksAll ((kz (names.getD b [])).map .int) = PySem.W.keyToksAll ((kz (names.getD a [])).map .int) := by simpa [PySem.W.keyToks] using e2
    rw [e3] at r1
    have r0 : PySem.W.rowLt ((kz (names.getD a [])).map .int) ((kz (names.getD a [])).map .int) = false := by rw [PySem.W.dataLt_ints]; exact decide_eq_false (List.lt_irrefl _)
    unfold PySem.W.rowLt at r0
    rw [r1] at r0
    cases r0
  rw [ne, if_neg Bool.false_ne_true, PySem.W.dataLt_tuple] at q
  have r1 : PySem.W.rowLt ((kz (names.getD b [])).map .int) ((kz (names.getD a [])).map .int) = true := by rw [PySem.W.dataLt_ints]; exact decide_eq_true lt
  unfold PySem.W.rowLt at r1
  rw [r1] at q
  cases q

/-! ### the third fact -/
/-- between a line and the line with one more item behind it there is no line of lesser items -/
theorem between_none : ∀ (q m : List Nat) (i : Nat), (∀ x ∈ m, x < i) → kz q < kz m → ¬ kz m < kz (q ++ [i])
  | q, [], i, _, h1, _ => by
    have : kz ([] : List Nat) = [] := rfl
    rw [this] at h1
    exact List.not_lt_nil _ h1
  | [], a :: m, i, hm, _, h2 => by
    have ha := hm a List.mem_cons_self
    have h3 : (-(a : Int)) :: kz m < [-(i : Int)] := h2
    rw [List.cons_lt_cons_iff] at h3
    rcases h3 with h3 | ⟨h3, h4⟩
    · omega
    · exact List.not_lt_nil _ h4
  | b :: q, a :: m, i, hm, h1, h2 => by
    have h1' : (-(b : Int)) :: kz q < (-(a : Int)) :: kz m := h1
    have h2' : (-(a : Int)) :: kz m < (-(b : Int)) :: kz (q ++ [i]) := h2
    rw [List.cons_lt_cons_iff] at h1' h2'
    rcases h1' with h1' | ⟨e1, h1'⟩
    · rcases h2' with h2' | ⟨e2, _⟩ <;> omega
    · rcases h2' with h2' | ⟨_, h2'⟩
      · omega
      · exact between_none q m i (fun x hx => hm x (List.mem_cons_of_mem _ hx)) h1' h2'
theorem kz_app (q : List Nat) (i : Nat) : kz q < kz (q ++ [i]) := by
  induction q with
  | nil => exact List.nil_lt_cons _ _
  | cons a q ih =>
    show (-(a : Int)) :: kz q < (-(a : Int)) :: kz (q ++ [i])
    rw [List.cons_lt_cons_iff]
    exact .inr ⟨rfl, ih⟩
/-- in a list in order those below a bound are the first ones -/
theorem filter_take {α : Type} {p : α → Bool} : ∀ {l : List α}, l.Pairwise (fun a b => p b = true → p a = true) → l.filter p = l.take (l.filter p).length
  | [], _ => rfl
  | a :: l, h => by
    rw [List.pairwise_cons] at h
    cases hp : p a with
    | true =>
      rw [List.filter_cons_of_pos hp, List.length_cons, List.take_succ_cons, ← filter_take h.2]
    | false =>
      have e : l.filter p = [] := by
        rw [List.filter_eq_nil_iff]
        intro b hb q
        have := h.1 b hb q
        rw [hp] at this
        cases this
      rw [List.filter_cons_of_neg (by rw [hp]; decide), e]
      rfl
theorem pn_lines {rows ls : List (List Nat)} (hP : Plan rows) (hL : Lines ls) (hl : ls.length = rows.length) (hA : ∀ (i : Nat) (l r : List Nat), ls[i]? = some l → rows[i]? = some r → ∀ x ∈ l.dropLast, x ∈ r) :
    ∀ n, n ≤ ls.length → pn rows (runOf rows ls) n = ls.take n
  | 0, _ => by rw [List.take_zero]; rfl
  | n + 1, hn => by
    have ih := pn_lines hP hL hl hA n (by omega)
    obtain ⟨l, hln⟩ := lt_get (l := ls) (i := n) (by omega)
    obtain ⟨r, hrn⟩ := lt_get (l := rows) (i := n) (by omega)
    rw [pn, ih, getD_of hrn]
    have eg : (runOf rows ls).getD n 0 = (r.filter fun o => decide (kz (ls.getD o []) < kz l)).length := by
      refine getD_of ?_
      unfold runOf
      rw [List.getElem?_map, List.getElem?_range (by omega)]
      show some ((rows.getD n []).filter fun o => decide (kz (ls.getD o []) < kz (ls.getD n []))).length = _
      rw [getD_of hrn, getD_of hln]
    rw [eg, List.take_add_one, hln]
    show ls.take n ++ [nameOf r _ (ls.take n) n] = ls.take n ++ [l]
    congr 2
    -- the keys of the seen ones
    have key : ∀ o, o ∈ r → (ls.take n).getD o [] = ls.getD o [] := fun o ho => by
      have := hP.lt n r hrn o ho
      rw [List.getD_eq_getElem?_getD, List.getD_eq_getElem?_getD, List.getElem?_take, if_pos this]
    have hperm := inO_perm r (ls.take n)
    have hfl : (r.filter fun o => decide (kz (ls.getD o []) < kz l)).length = ((inO r (ls.take n)).filter fun o => decide (kz (ls.getD o []) < kz l)).length := (hperm.symm.filter _).length_eq
    rw [hfl]
    -- the lesser ones stand first
    have hpw : (inO r (ls.take n)).Pairwise fun a b => decide (kz (ls.getD b []) < kz l) = true → decide (kz (ls.getD a []) < kz l) = true := by
      refine (inO_pw r (ls.take n)).imp_of_mem fun {a b} ha hb q hb' => ?_
      rw [key a (hperm.mem_iff.mp ha), key b (hperm.mem_iff.mp hb)] at q
      have hb' := of_decide_eq_true hb'
      refine decide_eq_true ?_
      rcases Classical.em (kz (ls.getD a []) < kz l) with c | c
      · exact c
      · exact absurd (Std.lt_of_lt_of_le hb' (List.not_lt.mp c)) q
    have hft := filter_take hpw
    obtain ⟨d, el, hd1, _, hd3⟩ := hL.form n l hln
    have hline : ∀ o, o ∈ r → (∀ x ∈ ls.getD o [], x < n) ∧ kz ([] : List Nat) < kz (ls.getD o []) := fun o ho => by
      have hon := hP.lt n r hrn o ho
      obtain ⟨m, hm⟩ := lt_get (l := ls) (i := o) (by omega)
      rw [getD_of hm]
      refine ⟨fun x hx => by have := hL.lt hm x hx; omega, ?_⟩
      obtain ⟨d', e', _⟩ := hL.form o m hm
      cases m with
      | nil => simp at e'
      | cons a m => exact List.nil_lt_cons _ _
    unfold nameOf
    split
    · rename_i g0
      rw [List.length_eq_zero_iff, List.filter_eq_nil_iff] at g0
      rcases hd3 with hd3 | ⟨j, hj, hd⟩
      · rw [el, hd3]
        rfl
      · exfalso
        have hjr : j ∈ r := by
          refine hA n l r hln hrn j ?_
          rw [el, List.dropLast_concat]
          obtain ⟨d', e', _⟩ := hL.form j d hd
          rw [e']
          exact List.mem_append_right _ (List.mem_singleton.mpr rfl)
        refine g0 j (hperm.mem_iff.mpr hjr) (decide_eq_true ?_)
        rw [getD_of hd, el]
        exact kz_app d n
    · rename_i g0
      generalize hS : inO r (ls.take n) = S at hperm hft g0
      generalize hg : (S.filter fun o => decide (kz (ls.getD o []) < kz l)).length = g at hft g0
      have hgS : g ≤ S.length := by rw [← hg]; exact List.length_filter_le _ _
      have hlt : g - 1 < S.length := by omega
      have ho := List.getElem?_eq_getElem hlt
      generalize ho' : S[g - 1] = o at ho
      rw [getD_of ho]
      have hor : o ∈ r := hperm.mem_iff.mp (List.mem_of_getElem? ho)
      have hof : o ∈ S.filter fun o => decide (kz (ls.getD o []) < kz l) := by
        rw [hft]
        exact List.mem_of_getElem? (i := g - 1) (by rw [List.getElem?_take, if_pos (by omega)]; exact ho)
      have hok : kz (ls.getD o []) < kz l := of_decide_eq_true (List.mem_filter.mp hof).2
      rw [key o hor]
      obtain ⟨ho1, ho2⟩ := hline o hor
      rcases hd3 with hd3 | ⟨j, hj, hd⟩
      · exfalso
        rw [el, hd3] at hok
        exact between_none [] (ls.getD o []) n ho1 ho2 hok
      · have hjr : j ∈ r := by
          refine hA n l r hln hrn j ?_
          rw [el, List.dropLast_concat]
          obtain ⟨d', e', _⟩ := hL.form j d hd
          rw [e']
          exact List.mem_append_right _ (List.mem_singleton.mpr rfl)
        have hjf : j ∈ S.filter fun o => decide (kz (ls.getD o []) < kz l) := List.mem_filter.mpr ⟨hperm.mem_iff.mpr hjr, decide_eq_true (by rw [getD_of hd, el]; exact kz_app d n)⟩
        -- the parent is not behind o
        have hle : ¬ kz (ls.getD o []) < kz (ls.getD j []) := by
          rw [hft] at hjf
          obtain ⟨m, hm⟩ := List.mem_iff_getElem?.mp hjf
          rw [List.getElem?_take] at hm
          by_cases hmg : m < g
          · rw [if_pos hmg] at hm
            rcases Nat.lt_or_ge m (g - 1) with c | c
            · have pw := inO_pw r (ls.take n)
              rw [hS] at pw
              obtain ⟨hm1, hm2⟩ := List.getElem?_eq_some_iff.mp hm
              have := (List.pairwise_iff_getElem.mp pw) m (g - 1) hm1 hlt c
              rw [hm2, ho', key j hjr, key o hor] at this
              exact this
            · have e : m = g - 1 := by omega
              subst e
              rw [ho] at hm
              cases hm
              exact List.lt_irrefl _
          · rw [if_neg hmg] at hm
            cases hm
        have eo : ls.getD o [] = d := by
          rcases Classical.em (ls.getD o [] = d) with c | c
          · exact c
          · exfalso
            rcases kz_tri _ _ c with c1 | c1
            · exact hle (by rw [getD_of hd]; exact c1)
            · rw [el] at hok
              exact between_none d (ls.getD o []) n ho1 c1 hok
        rw [eo, el]
/-- names of a plan keep to what is seen -/
theorem pn_seen {rows : List (List Nat)} {run : List Nat} (hP : Plan rows) (hR : Runs rows run) : ∀ n, n ≤ rows.length → ∀ (i : Nat) (l r : List Nat), (pn rows run n)[i]? = some l → rows[i]? = some r → ∃ d, l = d ++ [i] ∧ ∀ x ∈ d, x ∈ r
  | 0, _, i, l, r, h, _ => by simp [pn] at h
  | n + 1, hn, i, l, r, h, hr => by
    have ih := pn_seen hP hR n (by omega)
    rw [pn] at h
    by_cases hi : i < n
    · rw [List.getElem?_append_left (by rw [pn_len]; exact hi)] at h
      exact ih i l r h hr
    · have e : i = n := by
        have := get_lt h
        rw [List.length_append, pn_len, List.length_singleton] at this
        omega
      subst e
      rw [List.getElem?_append_right (by rw [pn_len]; exact Nat.le_refl _), pn_len, Nat.sub_self, List.getElem?_cons_zero, Option.some.injEq] at h
      subst h
      rw [getD_of hr]
      obtain ⟨g, hg⟩ := lt_get (l := run) (i := i) (by rw [hR.1]; omega)
      rw [getD_of hg]
      have hgr := hR.2 i g r hg hr
      unfold nameOf
      split
      · exact ⟨[], rfl, by simp⟩
      · rename_i g0
        obtain ⟨o, ho⟩ := lt_get (l := inO r (pn rows run i)) (i := g - 1) (by rw [inO_len]; omega)
        rw [getD_of ho]
        have hor : o ∈ r := (inO_perm r _).mem_iff.mp (List.mem_of_getElem? ho)
        have hoi := hP.lt i r hr o hor
        obtain ⟨m, hm⟩ := lt_get (l := pn rows run i) (i := o) (by rw [pn_len]; exact hoi)
        rw [getD_of hm]
        obtain ⟨r2, hr2⟩ := lt_get (l := rows) (i := o) (by omega)
        obtain ⟨d, ed, hd⟩ := ih o m r2 hm hr2
        refine ⟨m, rfl, fun x hx => ?_⟩
        rw [ed, List.mem_append, List.mem_singleton] at hx
        rcases hx with hx | hx
        · exact hP.tr i r hr o hor r2 hr2 x (hd x hx)
        · rw [hx]; exact hor
theorem runOf_runs {rows ls : List (List Nat)} : Runs rows (runOf rows ls) := by
  refine ⟨by unfold runOf; rw [List.length_map, List.length_range], fun i g r hg hr => ?_⟩
  unfold runOf at hg
  rw [List.getElem?_map, List.getElem?_range (get_lt hr)] at hg
  have hg : ((rows.getD i []).filter fun o => decide (kz (ls.getD o []) < kz (ls.getD i []))).length = g := Option.some.inj hg
  rw [getD_of hr] at hg
  rw [← hg]
  exact List.length_filter_le _ _
theorem hasAll_iff {rows ls : List (List Nat)} (hl : ls.length = rows.length) : hasAll rows (least ls) = true ↔ ∀ (i : Nat) (l r : List Nat), ls[i]? = some l → rows[i]? = some r → ∀ x ∈ l.dropLast, x ∈ r := by
  unfold hasAll
  rw [List.all_eq_true]
  constructor
  · intro h i l r hl' hr x hx
    have q := h i (List.mem_range.mpr (get_lt hr))
    rw [List.all_eq_true] at q
    have e : (least ls).getD i [] = l.dropLast := getD_of (by rw [least_get, hl']; rfl)
    have := of_decide_eq_true (q x (by rw [e]; exact hx))
    rw [getD_of hr] at this
    exact this
  · intro h i hi
    have hi := List.mem_range.mp hi
    obtain ⟨r, hr⟩ := lt_get hi
    obtain ⟨l, hl'⟩ := lt_get (l := ls) (i := i) (by omega)
    have e : (least ls).getD i [] = l.dropLast := getD_of (by rw [least_get, hl']; rfl)
    rw [List.all_eq_true, e, getD_of hr]
    intro x hx
    exact decide_eq_true (h i l r hl' hr x hx)
/-- THE LAW, of plain lists -/
theorem third_fact {rows ls : List (List Nat)} (hP : Plan rows) (hL : Lines ls) (hl : ls.length = rows.length) : pn rows (runOf rows ls) rows.length = ls ↔ hasAll rows (least ls) = true := by
  rw [hasAll_iff hl]
  constructor
  · intro h i l r hl' hr x hx
    rw [← h] at hl'
    obtain ⟨d, e, hd⟩ := pn_seen hP runOf_runs rows.length (Nat.le_refl _) i l r hl' hr
    rw [e, List.dropLast_concat] at hx
    exact hd x hx
  · intro h
    rw [pn_lines hP hL hl h rows.length (by omega), ← hl, List.take_length]
end Pb

namespace Pb
open PySem PySem.Spec PyProof.Rows L2
/-- two falling lists of the same members are one -/
theorem dec_ext : ∀ {l m : List Nat}, l.Pairwise (· > ·) → m.Pairwise (· > ·) → (∀ x, x ∈ l ↔ x ∈ m) → l = m
  | [], [], _, _, _ => rfl
  | [], b :: m, _, _, h => absurd ((h b).mpr List.mem_cons_self) (by simp)
  | a :: l, [], _, _, h => absurd ((h a).mp List.mem_cons_self) (by simp)
  | a :: l, b :: m, hl, hm, h => by
    rw [List.pairwise_cons] at hl hm
    have e : a = b := by
      rcases List.mem_cons.mp ((h a).mp List.mem_cons_self) with q | q
      · exact q
      · rcases List.mem_cons.mp ((h b).mpr List.mem_cons_self) with q2 | q2
        · exact q2.symm
        · have := hl.1 b q2
          have := hm.1 a q
          omega
    subst e
    rw [dec_ext hl.2 hm.2 fun x => ?_]
    constructor
    · intro hx
      rcases List.mem_cons.mp ((h x).mp (List.mem_cons_of_mem _ hx)) with q | q
      · have := hl.1 x hx
        omega
      · exact q
    · intro hx
      rcases List.mem_cons.mp ((h x).mpr (List.mem_cons_of_mem _ hx)) with q | q
      · have := hm.1 x hx
        omega
      · exact q
theorem alpha_filter {L : List Nat} (h : LetOk L) : alpha.filter (fun c => decide (c ∈ L)) = L := by
  refine dec_ext (alpha_dec.filter _) h.dec fun x => ?_
  rw [List.mem_filter, decide_eq_true_eq]
  exact ⟨fun q => q.2, fun q => ⟨(mem_alpha x).mpr (h.rg x q), q⟩⟩
theorem sg_inj {a b : Nat} (h : sg a = sg b) : a = b := by
  have := congrArg (fun z : Str => z.cps.toList) h
  simpa [sg] using this
theorem places_len (L : List Nat) : (places L).length = L.length := by unfold places; rw [List.length_map, List.length_range]
theorem places_nodup {L : List Nat} (h : LetOk L) : ((places L).map (·.1)).Nodup := by
  unfold places
  rw [List.map_map, List.Nodup, List.pairwise_map]
  refine (List.Pairwise.imp_of_mem (fun {a b} ha hb q e => q ?_) (List.nodup_range (n := L.length)))
  exact h.at_inj (List.mem_range.mp ha) (List.mem_range.mp hb) (sg_inj (Sum.inr.inj e))
theorem places_get {L : List Nat} {i : Nat} (hi : i < L.length) : (places L)[i]? = some (Sum.inr (sg (L.getD i 0)), iv i) := by
  unfold places
  rw [List.getElem?_map, List.getElem?_range hi]
  rfl
theorem places_at {L : List Nat} (h : LetOk L) {i : Nat} (hi : i < L.length) : valV (places L) (Sum.inr (sg (L.getD i 0))) = some (iv i) := valV_at (places_nodup h) (places_get hi)
/-- the pairs of the dict of words by their last letters -/
def byLast (hs : List Str) : List (Key × V) := hs.map fun x => ((Sum.inr (sg (lastC x)) : Key), V.str x)
theorem byLast_nodup {hs : List Str} {L : List Nat} {ls : List (List Nat)} (h : HeapOf hs L ls) : ((byLast hs).map (·.1)).Nodup := by
  refine keys_nodup (f := fun x => sg (lastC x)) ?_
  have := h.last_nodup
  rw [List.Nodup, List.pairwise_map] at this ⊢
  exact this.imp fun q e => q (sg_inj e)
theorem byLast_at {hs : List Str} {L : List Nat} {ls : List (List Nat)} (h : HeapOf hs L ls) {i : Nat} {l : List Nat} (hl : ls[i]? = some l) : valV (byLast hs) (Sum.inr (sg (L.getD i 0))) = some (.str (wd L l)) := by
  obtain ⟨k, hk⟩ := List.mem_iff_getElem?.mp (h.mem hl)
  refine valV_at (i := k) (byLast_nodup h) ?_
  unfold byLast
  rw [map_get hk, h.last hl]
theorem byLast_some {hs : List Str} {L : List Nat} {ls : List (List Nat)} (h : HeapOf hs L ls) (c : Nat) : (valV (byLast hs) (Sum.inr (sg c))).isSome = decide (c ∈ L) := by
  by_cases hc : c ∈ L
  · obtain ⟨i, hi⟩ := List.mem_iff_getElem?.mp hc
    obtain ⟨l, hl⟩ := lt_get (l := ls) (i := i) (by rw [← h.len]; exact get_lt hi)
    have := byLast_at h hl
    rw [getD_of hi] at this
    rw [this, decide_eq_true hc]
    rfl
  · rw [decide_eq_false hc, ← valV_any, Bool.eq_false_iff]
    intro q
    rw [List.any_eq_true] at q
    obtain ⟨p, hp, e⟩ := q
    unfold byLast at hp
    obtain ⟨z, hz, rfl⟩ := List.mem_map.mp hp
    obtain ⟨i, l, hl, rfl⟩ := h.line hz
    have e2 : sg (lastC (wd L l)) = sg c := Sum.inr.inj (show (Sum.inr (sg (lastC (wd L l))) : Key) = Sum.inr (sg c) from of_decide_eq_true e)
    rw [h.last hl] at e2
    rw [← sg_inj e2] at hc
    exact hc (LetOk.mem (by rw [h.len]; exact get_lt hl))
section
variable {P : Program} {w : World} {K : PySem.W.Frag} {mg : Str → Option Value} {base : Heap}
abbrev nSH : List Str := ["heap", "by_last", "lasts", "text", "letter", "item"]
abbrev sSH : Stmt := topS 28
theorem scSH : FnScope nSH ["heap"] (defScope sSH) := ⟨rfl, rfl, rfl, by decide +kernel, rfl, by decide +kernel, by decide +kernel⟩
theorem ok_sorted_heap {f : Addr} {fd : FuncData} (F : Fun K "sorted_heap" "sorted_heap" sSH f fd) (T : Txt mg) : FnOk P w K mg base CX0 1 f fd ["heap"] (spSortedHeap K) := by
  obtain ⟨tl, hm⟩ := T.letters
  refine F.ok scSH (fun vs H Q E h => ?_) (fun cdv A outer s H vs Q E hr h => ?_)
  · obtain ⟨a, hs, L, ls, rfl, _⟩ := h
    rfl
  · obtain ⟨a, hs, L, ls, rfl, hA, hH, q⟩ := h
    have hu := hu_of hr
    have hhl := hH.hlen
    have hle := hH.le
    have hml : (hs.map V.str).length = hs.length := List.length_map _
    refine ⟨_, pss_cons (ps_set (i := 1) scSH.nd rfl (Or.inr rfl) (pe_dc (own := [("text", 3)]) (g := gName 3) (tt := tYes) rfl scSH.nd (pi_seq (pv 0)) (blkOk_by (N := nSH) (sc := defScope sSH) (by decide +kernel))
          (fun _ _ _ _ _ => pg_name (i := 3) scSH.nd rfl (Or.inl rfl)) (fun _ _ _ _ _ => pts_nil) (fun _ _ _ _ _ => pe_ix ix_str (pv 3) (pe_un un_neg pe_int) (fun _ _ => rfl)) (fun _ _ _ _ _ => pv 3)))
      (pss_cons (ps_setLc (i := 2) (own := [("letter", 4)]) (g := gName 4) rfl scSH.nd rfl rfl (sw_true rfl rfl rfl (by decide +kernel)) (pi_str (pe_glob (v := .str (tx alpha)) (by rfl) hm ⟨_, rfl⟩)) (blkOk_by (N := nSH) (sc := defScope sSH) (by decide +kernel))
          (fun _ _ _ _ _ => pg_name (i := 4) scSH.nd rfl (Or.inl rfl)) (fun _ _ _ _ _ => pts_one (pt_cmp (pc_din hu (pv 4) (pv 1)))) (fun _ _ _ _ _ => pv 4))
      (pss_one (ps_ret (pe_tup (pa_cons (pe_lc (own := [("letter", 4)]) (g := gName 4) (tt := tYes) rfl scSH.nd (pi_list (pv 2)) (blkOk_by (N := nSH) (sc := defScope sSH) (by decide +kernel))
          (fun _ _ _ _ _ => pg_name (i := 4) scSH.nd rfl (Or.inl rfl)) (fun _ _ _ _ _ => pts_nil) (fun _ _ _ _ _ => pe_dget hu (pv 1) (pv 4) (fun _ _ => rfl)))
        (pa_cons (pe_dc (own := [("item", 5), ("letter", 4)]) (g := gTup K 2 (gCons (gName 5) (gCons (gName 4) gNil))) (tt := tYes) rfl scSH.nd (pi_enum (by rfl) T.enumerate (pa_cons (pv 2) pa_nil)) (blkOk_by (N := nSH) (sc := defScope sSH) (by decide +kernel))
          (fun _ _ _ _ _ => pg_tup rfl (pgs_cons (pg_name (i := 5) scSH.nd rfl (Or.inl rfl)) (pgs_cons (pg_name (i := 4) scSH.nd rfl (Or.inl rfl)) pgs_nil))) (fun _ _ _ _ _ => pts_nil) (fun _ _ _ _ _ => pv 4) (fun _ _ _ _ _ => pv 5)) pa_nil)))))), ?_⟩
    -- by_last
    refine ⟨_, rfl, a, _, rfl, hA, fun J G wk hG B hB => ?_⟩
    have bl : (byLast hs).length = (hs.map V.str).length := by unfold byLast; rw [List.length_map, List.length_map]
    refine dc_map (kvs := byLast hs) (by rw [bl]; exact wk) hB hG (byLast_nodup hH) (by rw [bl]; omega) (fun m x Hc H' k v Qt hk s y cont => ?_) (fun H1 s1 hB1 => ?_)
    · obtain ⟨rfl, hx⟩ := y
      obtain ⟨z, hzz, e⟩ := get_map hk
      rw [map_get hzz] at hx
      cases hx
      cases e
      obtain ⟨j, l, hl, rfl⟩ := hH.line (List.mem_of_getElem? hzz)
      refine cont _ _ (Same.refl _) (wipe_set _ 3 _) (fun H3 Qy _ kk => ?_) (fun H3 Qy _ kk => ⟨_, rfl, kk _ (Same.refl _)⟩)
      exact ⟨_, rfl, 1, rfl, wd L l, -1, lastC (wd L l), rfl, rfl, (by rw [show wd L l = tx (wdL L l) from rfl, tx_len]; exact sz1000 (by have := (hH.falls hl).2.2.2; omega)), atI_getLast (hH.falls hl).1, kk _ (Same.refl _)⟩
    -- lasts
    refine ⟨_, rfl, fun Dl hDl => ?_⟩
    have wa : Walk (Its (tx alpha)) (alpha.map fun c => V.str (sg c)).length (fun _ => True) (fun i H v H' => H' = H ∧ ∃ c, (tx alpha).cps[i]? = some c ∧ v = .str ⟨#[c]⟩) := by
      rw [show (alpha.map fun c => V.str (sg c)).length = (tx alpha).cps.size from by rw [List.length_map]; exact (tx_len alpha).symm]
      exact walk_str
    refine lc_filter (xs := alpha.map fun c => V.str (sg c)) wa hDl (fun i H x H' y => ⟨y.1, ?_⟩) (fun _ _ => True.intro) (fun x => match x with | .str z => (valV (byLast hs) (Sum.inr z)).isSome | _ => false) (by rw [List.length_map, alpha_len]; omega) (by show 4 < 6; decide) (fun m x Hc Qt hx s k => ?_) (fun H2 s2 hDl2 => ?_)
    · obtain ⟨c, hc, rfl⟩ := y.2
      have hc' : alpha[i]? = some c := by simpa [tx] using hc
      exact map_get hc'
    · obtain ⟨c, hc, rfl⟩ := get_map hx
      exact ⟨_, rfl, _, rfl, B, _, rfl, DGet.k (k := Sum.inr (sg c)) (s _ _ hB1), _, rfl, k _ (Same.refl _)⟩
    have el : (alpha.map fun c => V.str (sg c)).filter (fun x => match x with | .str z => (valV (byLast hs) (Sum.inr z)).isSome | _ => false) = L.map fun c => V.str (sg c) := by
      rw [List.filter_map]
      refine congrArg (List.map _) ?_
      refine Eq.trans (List.filter_congr fun c _ => ?_) (alpha_filter hH.let_)
      exact byLast_some hH c
    rw [el] at hDl2
    have s12 := s1.trans s2
    have hB2 := s2 _ _ hB1
    have hLl : (L.map fun c => V.str (sg c)).length = L.length := List.length_map _
    have hlen := hH.len
    -- the texts
    refine ⟨_, rfl, Dl, rfl, ⟨_, lstOf hDl2⟩, fun t ht => ?_⟩
    refine lc_map walk_list ht (fun i x => (L.map fun c => V.str (sg c))[i]? = some x) (fun i H x H' y => y) (fun Hc s => s.seq (lstOf hDl2)) (fun i y H => ∃ l, ls[i]? = some l ∧ y = .str (wd L l)) (fun _ _ _ _ _ h => h) (by omega) (fun i x Hc Qt hi s yv k => ?_) (fun H3 ys s3 ht3 hl hE => ?_)
    · obtain ⟨c, hc, rfl⟩ := get_map yv
      obtain ⟨l, hl⟩ := lt_get (l := ls) (i := i) (by have := get_lt hc; omega)
      refine ⟨_, rfl, _, rfl, B, .str (wd L l), rfl, ?_, k _ _ (Same.refl _) ⟨l, hl, rfl⟩⟩
      have := DGet.k (k := Sum.inr (sg c)) (s _ _ hB2)
      rw [← getD_of (d := 0) hc, byLast_at hH hl, getD_of hc] at this
      exact this
    have ey : ys = ls.map fun l => V.str (wd L l) := by
      apply List.ext_getElem?
      intro i
      rw [List.getElem?_map]
      cases e : ys[i]? with
      | none =>
        have : ls[i]? = none := by
          rw [List.getElem?_eq_none_iff] at e ⊢
          omega
        rw [this]
        rfl
      | some y =>
        obtain ⟨l, hl, rfl⟩ := hE i y e
        rw [hl]
        rfl
    subst ey
    have s13 := s12.trans s3
    -- the places
    refine ⟨_, rfl, Dl, _, rfl, lstOf (s3 _ _ hDl2), fun d hd => ?_⟩
    refine dc_map (kvs := places L) (by rw [show (places L).length = (L.map fun c => V.str (sg c)).length from by rw [places_len, hLl]]; exact walk_enum) hd (fun Hc s => s.seq (lstOf (s3 _ _ hDl2))) (places_nodup hH.let_) (by rw [places_len]; omega) (fun m x Hc H' k v Qt hk s y cont => ?_) (fun H4 s4 hd4 => ?_)
    · obtain ⟨T', a', b, rfl, nT, rfl, e1, e2⟩ := y
      have e1 : V.int (m : Nat) = a' := Option.some.inj e1
      subst e1
      obtain ⟨c, hc, rfl⟩ := get_map e2
      rw [places_get (get_lt hc), getD_of hc] at hk
      cases hk
      refine ⟨T', [V.int (m : Nat), .str (sg c)], rfl, .inl (.inl upd_same), rfl, _, [.str (sg c)], rfl, _, [], rfl, rfl, ?_⟩
      exact cont _ _ (same_new nT _) rfl (fun H3 Qy _ kk => ⟨_, rfl, kk _ (Same.refl _)⟩) (fun H3 Qy _ kk => ⟨_, rfl, kk _ (Same.refl _)⟩)
    · refine ⟨(by show 2 ≤ sizeLine; decide), fun p hp => ?_⟩
      have sp := same_new hp (.tup [.ref t, .ref d])
      have s14 := s13.trans s4
      have htH : H t = none := s12.free ht
      have hdH : H d = none := s13.free hd
      exact q p t d _ (s14.trans sp) htH hdH upd_same (sp _ _ (s4 _ _ ht3)) (sp _ _ hd4)
end
end Pb

namespace Pb
open PySem PySem.Spec PyProof.Rows L2
/-- the scope of a block within which another block stands -/
abbrev scBlk (names : List (Str × NameKind)) : Scope := { kind := .function, names := names, isGenerator := false, isCoroutine := false }
theorem ext_of {α : Type} {f : α → V} {ys : List V} {l : List α} (hl : ys.length = l.length) (h : ∀ (i : Nat) y, ys[i]? = some y → ∃ x, l[i]? = some x ∧ y = f x) : ys = l.map f := by
  apply List.ext_getElem?
  intro i
  rw [List.getElem?_map]
  cases e : ys[i]? with
  | none =>
    have : l[i]? = none := by
      rw [List.getElem?_eq_none_iff] at e ⊢
      omega
    rw [this]
    rfl
  | some y =>
    obtain ⟨x, hx, rfl⟩ := h i y e
    rw [hx]
    rfl
theorem init_wd (L l : List Nat) : cutS (wd L l) none (some (-1)) = wd L l.dropLast := by
  rw [show wd L l = tx (wdL L l) from rfl, cutS_init]
  unfold wd wdL
  rw [List.map_dropLast]
section
variable {P : Program} {w : World} {K : PySem.W.Frag} {mg : Str → Option Value} {base : Heap}
abbrev nLeast : List Str := ["heap", "texts", "places", "text", "letter"]
abbrev sLeast : Stmt := topS 29
theorem scLeast : FnScope nLeast ["heap"] (defScope sLeast) := ⟨rfl, rfl, rfl, by decide +kernel, rfl, by decide +kernel, by decide +kernel⟩
theorem ok_least_plan {f f1 f2 : Addr} {fd fd1 fd2 : FuncData} (F : Fun K "least_plan" "least_plan" sLeast f fd) (T : Txt mg) (C1 : Cal P w K mg base 2 "check_heap" ["heap"] (spCheckHeap K) f1 fd1) (C2 : Cal P w K mg base 1 "sorted_heap" ["heap"] (spSortedHeap K) f2 fd2) : FnOk P w K mg base CX0 3 f fd ["heap"] (spLeast K) := by
  refine F.ok scLeast (fun vs H Q E h => ?_) (fun cdv A outer s H vs Q E hr h => ?_)
  · obtain ⟨a, hs, L, ls, rfl, _⟩ := h
    rfl
  · obtain ⟨a, hs, L, ls, rfl, hA, hH, q⟩ := h
    have hu := hu_of hr
    have hle := hH.le
    refine ⟨_, pss_cons (ps_expr (pe_c C1 hr (pa_cons (pv 0) pa_nil)))
      (pss_cons (ps_asg (pe_c C2 (hr.mono (by decide)) (pa_cons (pv 0) pa_nil)) (pg_tup rfl (pgs_cons (pg_name (i := 1) scLeast.nd rfl (Or.inl rfl)) (pgs_cons (pg_name (i := 2) scLeast.nd rfl (Or.inr rfl)) pgs_nil))))
      (pss_one (ps_ret (pe_callTy (cTup (K := K) rfl) (by rfl) T.tuple (by decide +kernel) (pa_cons (pe_lc (own := [("text", 3)]) (g := gName 3) (tt := tYes) rfl scLeast.nd (pi_list (pv 1)) (blkOk_by (N := nLeast) (sc := defScope sLeast) (by decide +kernel))
          (fun _ _ _ _ _ => pg_name (i := 3) scLeast.nd rfl (Or.inl rfl)) (fun _ _ _ _ _ => pts_nil)
          (fun _ _ _ _ _ => pe_callTy (cTup (K := K) rfl) (by rfl) T.tuple (by decide +kernel) (pa_cons (pe_lc (own := [("letter", 4)]) (g := gName 4) (tt := tYes) rfl scLeast.nd (pi_str (pe_slice sl_str (pv 3) po_none (po_some (pe_un un_neg pe_int)))) (blkOk_by (N := nLeast) (sc := scBlk [(".0", .local), ("text", .local), ("tuple", .globalImplicit), ("places", .cell)]) (by decide +kernel))
            (fun _ _ _ _ _ => pg_name (i := 4) scLeast.nd rfl (Or.inl rfl)) (fun _ _ _ _ _ => pts_nil) (fun _ _ _ _ _ => pe_dget hu (pv 2) (pv 4) (fun _ _ => rfl))) pa_nil))) pa_nil))))), ?_⟩
    refine ⟨_, rfl, a, hs, L, ls, rfl, hA, hH, fun H1 s1 => ?_⟩
    refine ⟨_, rfl, a, hs, L, ls, rfl, hA.same s1, hH, fun p t d H2 s2 ht hd hp ht2 hd2 => ?_⟩
    have s12 := s1.trans s2
    refine ⟨p, _, rfl, tupOf hp, rfl, _, [.ref d], rfl, _, [], rfl, rfl, ?_⟩
    have hlen := hH.len
    have hml : (ls.map fun l => V.str (wd L l)).length = ls.length := List.length_map _
    refine ⟨_, rfl, t, rfl, ⟨_, lstOf ht2⟩, fun D hD => ?_⟩
    refine lc_map walk_list hD (fun i x => (ls.map fun l => V.str (wd L l))[i]? = some x) (fun i H x H' y => y) (fun Hc s => s.seq (lstOf ht2)) (fun i y H => ∃ l, ls[i]? = some l ∧ NT K H y l.dropLast) (fun i y H H' s ⟨l, hl, h⟩ => ⟨l, hl, h.ls s⟩) (by omega) (fun i x Hc Qt hi s yv k => ?_) (fun H3 ys s3 hD3 hl hE => ?_)
    · obtain ⟨l, hl, rfl⟩ := get_map yv
      have hfl := hH.falls hl
      have hll : l.length ≤ 26 := by rw [← wdL_len L l]; exact hfl.2.2.2
      have hsz : (wd L l).length ≤ sizeLine := by
        rw [show wd L l = tx (wdL L l) from rfl, tx_len, wdL_len]
        exact sz1000 (by omega)
      refine ⟨_, rfl, 1, rfl, -1, rfl, wd L l, rfl, hsz, ?_⟩
      rw [init_wd]
      refine ⟨_, rfl, fun D2 hD2 => ?_⟩
      refine lc_map walk_str hD2 (fun i x => ∃ c, (wdL L l.dropLast)[i]? = some c ∧ x = .str (sg c)) (fun i H x H' y => ⟨y.1, ?_⟩) (fun _ _ => True.intro) (fun i y H => ∃ m, l.dropLast[i]? = some m ∧ y = iv m) (fun _ _ _ _ _ h => h) ?_ (fun i x Hc2 Qt2 hi s2' yv k2 => ?_) (fun H4 zs s4 hD4 hl4 hE4 => ?_)
      · obtain ⟨c, hc, e⟩ := y.2
        exact ⟨c, by simpa [wd, tx] using hc, e⟩
      · show (tx (wdL L l.dropLast)).length ≤ 100000
        rw [tx_len, wdL_len, List.length_dropLast]
        omega
      · obtain ⟨c, hc, rfl⟩ := yv
        obtain ⟨m, hm, rfl⟩ := get_map hc
        have hml : m < L.length := hH.small hl m (List.dropLast_subset _ (List.mem_of_getElem? hm))
        refine ⟨_, rfl, _, rfl, d, iv m, rfl, ?_, k2 _ _ (Same.refl _) ⟨m, hm, rfl⟩⟩
        rw [← places_at hH.let_ hml]
        exact DGet.k (k := Sum.inr (sg (L.getD m 0))) (s2' _ _ (s _ _ hd2))
      · have ez : zs = l.dropLast.map iv := ext_of (by rw [hl4]; show (tx (wdL L l.dropLast)).length = _; rw [tx_len, wdL_len]) hE4
        subst ez
        refine ⟨D2, _, rfl, .inl ⟨lstOf hD4, fun u hu' => ?_⟩⟩
        exact k _ _ (s4.trans (same_new hu' _)) ⟨l, hl, u, rfl, tupOf upd_same⟩
    · refine ⟨D, ys, rfl, .inl ⟨lstOf hD3, fun u hu' => ?_⟩⟩
      have s4 := same_new hu' (.tup ys)
      refine q _ _ (s12.trans (s3.trans s4)) ⟨u, ys, rfl, tupOf upd_same, ?_⟩
      refine paired_of (by rw [least_len, hl, hml]) fun i y r hy hr => ?_
      obtain ⟨l, hl', hN⟩ := hE i y hy
      rw [least_get, hl'] at hr
      cases hr
      exact hN.ls (s_ls s4)
end
end Pb

namespace Pb
open PySem PySem.Spec PyProof.Rows L2
def encT (l : List Nat) : PyData := .tuple (l.map fun (n : Nat) => .int (n : Int))
/-- a number as a datum -/
abbrev numD (n : Nat) : PyData := .int (n : Int)
theorem eqvAll_nats (l : List Nat) : ∀ m : List Nat, PyData.eqvAll (l.map numD) (m.map numD) = decide (l = m) := by
  induction l with
  | nil => rintro (_ | _) <;> simp [PyData.eqvAll]
  | cons a l ih =>
    rintro (_ | ⟨b, m⟩)
    · simp [PyData.eqvAll]
    · simp only [List.map_cons, PyData.eqvAll, ih, PyData.eqv]
      have same : ((a : Int) == (b : Int)) = decide (a = b) := by
        rcases Nat.decEq a b with e | e <;> simp [e] <;> omega
      simp [same]
theorem eqvAll_encT (A : List (List Nat)) : ∀ B : List (List Nat), PyData.eqvAll (A.map encT) (B.map encT) = decide (A = B) := by
  induction A with
  | nil => rintro (_ | _) <;> simp [PyData.eqvAll]
  | cons a A ih =>
    rintro (_ | ⟨b, B⟩)
    · simp [PyData.eqvAll]
    · have one : (encT a).eqv (encT b) = decide (a = b) := by
        simp only [encT, PyData.eqv]
        exact eqvAll_nats a b
      simp [PyData.eqvAll, ih, one]
theorem canLay_nats (l : List Nat) : PyData.canLayAll0 (l.map numD) = true := by
  induction l with
  | nil => simp only [List.map_nil, PyData.canLayAll0]
  | cons a l ih => simp [PyData.canLayAll0, PyData.canLay0, ih]
theorem canLay_encT (A : List (List Nat)) : PyData.canLayAll0 (A.map encT) = true := by
  induction A with
  | nil => simp only [List.map_nil, PyData.canLayAll0]
  | cons a A ih =>
    have one : (encT a).canLay0 = true := by
      simp only [encT, PyData.canLay0]
      exact canLay_nats a
    simp [PyData.canLayAll0, ih, one]
theorem depth_nats (l : List Nat) : PyData.depthAll (l.map numD) = 0 := by
  induction l with
  | nil => simp only [List.map_nil, PyData.depthAll]
  | cons a l ih => simp [PyData.depthAll, PyData.depth, ih]
theorem depth_encT (A : List (List Nat)) : PyData.depthAll (A.map encT) ≤ 1 := by
  induction A with
  | nil => simp [PyData.depthAll]
  | cons a A ih =>
    have one : (encT a).depth = 1 := by
      simp only [encT, PyData.depth]
      exact congrArg (· + 1) (depth_nats a)
    simp only [List.map_cons, PyData.depthAll, one]
    omega
theorem shaped_rows (A : List (List Nat)) : SeqAt.shaped (.list (A.map encT)) = true := by
  unfold SeqAt.shaped
  rw [PyData.canLay0, canLay_encT, Bool.true_and]
  refine decide_eq_true ?_
  have := depth_encT A
  rw [PyData.depth]
  omega
theorem dp_nats {K : PySem.W.Frag} {H : Hp} : ∀ l : List Nat, DpAll K H (l.map iv) (l.map fun (n : Nat) => .int (n : Int))
  | [] => .nil
  | a :: l => .cons (.int (a : Int)) (dp_nats l)
theorem dp_rows {K : PySem.W.Frag} {H : Hp} : ∀ {vs : List V} {A : List (List Nat)}, Paired (NT K H) vs A → DpAll K H vs (A.map encT)
  | _, _, .nil => .nil
  | _, _, .cons ⟨p, e, h⟩ t => by
    subst e
    exact .cons (.tup h (dp_nats _)) (dp_rows t)
section
variable {P : Program} {w : World} {K : PySem.W.Frag} {mg : Str → Option Value} {base : Heap}
abbrev nHR : List Str := ["heap", "plan", "texts", "places", "run", "due", "text", "letter"]
abbrev sHR : Stmt := topS 30
theorem scHR : FnScope nHR ["heap", "plan"] (defScope sHR) := ⟨rfl, rfl, rfl, by decide +kernel, rfl, by decide +kernel, by decide +kernel⟩
theorem ok_heap_run {f f1 f2 f3 f4 f5 : Addr} {fd fd1 fd2 fd3 fd4 fd5 : FuncData} (F : Fun K "heap_run" "heap_run" sHR f fd) (T : Txt mg) (C1 : Cal P w K mg base 2 "check_heap" ["heap"] (spCheckHeap K) f1 fd1) (C2 : Cal P w K mg base 4 "check_plan" ["thing"] (spCheckPlan K) f2 fd2)
    (C3 : Cal P w K mg base 1 "sorted_heap" ["heap"] (spSortedHeap K) f3 fd3) (C4 : Cal P w K mg base 1 "gaps_of" ["plan", "order"] (spGaps K) f4 fd4) (C5 : Cal P w K mg base 3 "plain_names" ["plan", "run"] (spPlain K) f5 fd5) : FnOk P w K mg base CX0 5 f fd ["heap", "plan"] (spHeapRun K) := by
  refine F.ok scHR (fun vs H Q E h => ?_) (fun cdv A outer s H vs Q E hr h => ?_)
  · obtain ⟨a, x, hs, L, ls, rows, rfl, _⟩ := h
    rfl
  · obtain ⟨a, x, hs, L, ls, rows, rfl, hA, hH, hN, hP, hrl, q⟩ := h
    have hu := hu_of hr
    have hle := hH.le
    have hlen := hH.len
    obtain ⟨pp, pvs, rfl, hS, hvl, hg⟩ := hN.get
    refine ⟨_, pss_cons (ps_expr (pe_c C1 (hr.mono (by decide)) (pa_cons (pv 0) pa_nil)))
      (pss_cons (ps_expr (pe_c C2 hr (pa_cons (pv 1) pa_nil)))
      (pss_cons (ps_if (pt_cmpR op_ne (pe_callB call_len_seq (by rfl) T.len PySem.boot_len (pa_cons (pv 1) pa_nil)) (pe_callB call_len_seq (by rfl) T.len PySem.boot_len (pa_cons (pv 0) pa_nil)) (nomark _)) pss_never pss_nil)
      (pss_cons (ps_asg (pe_c C3 (hr.mono (by decide)) (pa_cons (pv 0) pa_nil)) (pg_tup rfl (pgs_cons (pg_name (i := 2) scHR.nd rfl (Or.inl rfl)) (pgs_cons (pg_name (i := 3) scHR.nd rfl (Or.inr rfl)) pgs_nil))))
      (pss_cons (ps_set (i := 4) scHR.nd rfl (Or.inl rfl) (pe_c C4 (hr.mono (by decide)) (pa_cons (pv 1) (pa_cons (pe_lc (own := [("text", 6)]) (g := gName 6) (tt := tYes) rfl scHR.nd (pi_list (pe_callB (cr_sortedDt hr.units) (by rfl) T.sorted (by decide +kernel) (pa_cons (pv 2) pa_nil))) (blkOk_by (N := nHR) (sc := defScope sHR) (by decide +kernel))
          (fun _ _ _ _ _ => pg_name (i := 6) scHR.nd rfl (Or.inl rfl)) (fun _ _ _ _ _ => pts_nil) (fun _ _ _ _ _ => pe_dget hu (pv 3) (pe_ix ix_str (pv 6) (pe_un un_neg pe_int) (fun _ _ => rfl)) (fun _ _ => rfl))) pa_nil))))
      (pss_cons (ps_setLc (i := 5) (own := [("text", 6)]) (g := gName 6) (tt := tYes) rfl scHR.nd rfl rfl (sw_true rfl rfl rfl (by decide +kernel)) (pi_list (pv 2)) (blkOk_by (N := nHR) (sc := defScope sHR) (by decide +kernel))
          (fun _ _ _ _ _ => pg_name (i := 6) scHR.nd rfl (Or.inl rfl)) (fun _ _ _ _ _ => pts_nil)
          (fun _ _ _ _ _ => pe_callTy (cTup (K := K) rfl) (by rfl) T.tuple (by decide +kernel) (pa_cons (pe_lc (own := [("letter", 7)]) (g := gName 7) (tt := tYes) rfl scHR.nd (pi_str (pv 6)) (blkOk_by (N := nHR) (sc := scBlk [(".0", .local), ("text", .local), ("tuple", .globalImplicit), ("places", .cell)]) (by decide +kernel))
            (fun _ _ _ _ _ => pg_name (i := 7) scHR.nd rfl (Or.inl rfl)) (fun _ _ _ _ _ => pts_nil) (fun _ _ _ _ _ => pe_dget hu (pv 3) (pv 7) (fun _ _ => rfl))) pa_nil)))
      (pss_cons (ps_if (pt_cmpR (op_neD hr.units) (pe_c C5 (hr.mono (by decide)) (pa_cons (pv 1) (pa_cons (pv 4) pa_nil))) (pv 5) (nomark _)) (pss_one (ps_ret pe_non)) pss_nil)
      (pss_one (ps_ret (pv 4))))))))), ?_⟩
    refine ⟨_, rfl, a, hs, L, ls, rfl, hA, hH, fun H1 s1 => ?_⟩
    refine ⟨_, rfl, _, rows, rfl, hN.ls (s_ls s1), hP, by omega, fun H2 s2 => ?_⟩
    have s12 := s1.trans s2
    refine ⟨_, rfl, pp, pvs, rfl, .inr (s_seqT s12 hS), _, rfl, a, _, rfl, hA.same s12, rfl, _, rfl, iteNS (by rw [List.length_map, hvl, hrl, hH.hlen]) ?_⟩
    refine ⟨_, rfl, a, hs, L, ls, rfl, hA.same s12, hH, fun p t d H3 s3 ht hd hp ht2 hd2 => ?_⟩
    have s13 := s12.trans s3
    refine ⟨p, _, rfl, tupOf hp, rfl, _, [.ref d], rfl, _, [], rfl, rfl, ?_⟩
    have hml : (ls.map fun l => V.str (wd L l)).length = ls.length := List.length_map _
    -- run
    refine ⟨_, rfl, _, rfl, t, ls.map fun l => V.str (wd L l), Nat, List.range ls.length, encW L ls, fun x i => ∃ l, ls[i]? = some l ∧ x = .str (wd L l), rfl, lstOf ht2, ?_, ?_, fun b b' => by simp [encW, PySem.W.alike], PySem.W.Sortable.others fun b => ⟨by simp [encW], by simp [encW]⟩, by rw [List.length_range]; omega, fun b => by simp [encW, PyData.depth], fun ys yp hys hyp => ?_⟩
    · refine paired_of (by rw [hml, List.length_range]) fun i x j hx hj => ?_
      obtain ⟨l, hl, rfl⟩ := get_map hx
      rw [List.getElem?_range (get_lt hl)] at hj
      cases hj
      exact ⟨l, hl, rfl⟩
    · rintro x i ⟨l, hl, rfl⟩
      unfold encW
      rw [getD_of hl]
      exact .str _
    have s4 := same_new hyp (.lst ys)
    have hys : Paired (fun x i => ∃ l, ls[i]? = some l ∧ x = V.str (wd L l)) ys (orderW L ls) := hys
    have hyl : ys.length = ls.length := by rw [Paired.length hys, (orderW_perm L ls).length_eq, List.length_range]
    refine ⟨yp, rfl, ⟨_, lstOf upd_same⟩, fun o ho => ?_⟩
    refine lc_map walk_list ho (fun i x => ys[i]? = some x) (fun i H x H' y => y) (fun Hc s => s.seq (lstOf upd_same)) (fun i y H => ∃ j, (orderW L ls)[i]? = some j ∧ y = iv j) (fun _ _ _ _ _ h => h) (by omega) (fun i x Hc Qt hi s yv k => ?_) (fun H5 zs s5 ho5 hl hE => ?_)
    · obtain ⟨j, hj, l, hl, rfl⟩ := paired_get hys yv
      have hfl := hH.falls hl
      refine ⟨_, rfl, _, rfl, 1, rfl, wd L l, -1, lastC (wd L l), rfl, rfl, (by rw [show wd L l = tx (wdL L l) from rfl, tx_len]; exact sz1000 (by have := hfl.2.2.2; omega)), atI_getLast hfl.1, ?_⟩
      refine ⟨d, iv j, rfl, ?_, k _ _ (Same.refl _) ⟨j, hj, rfl⟩⟩
      rw [hH.last hl, ← places_at hH.let_ (by rw [hlen]; exact get_lt hl)]
      exact DGet.k (k := Sum.inr (sg (L.getD j 0))) (s _ _ (s4 _ _ hd2))
    have ez : zs = (orderW L ls).map iv := ext_of (by rw [hl, hyl, (orderW_perm L ls).length_eq, List.length_range]) hE
    subst ez
    have s15 := s13.trans (s4.trans s5)
    refine ⟨_, o, rows, orderW L ls, rfl, hN.ls (s_ls s15), lstOf ho5, order_nodup (orderW_perm L ls), fun i hi => (orderW_perm L ls).mem_iff.mpr (List.mem_range.mpr (by omega)), hP, by omega, by rw [(orderW_perm L ls).length_eq, List.length_range]; omega, fun yr H6 s6 hyr => ?_⟩
    have hperm : (orderW L ls).Perm (List.range rows.length) := by rw [hrl]; exact orderW_perm L ls
    rw [gaps_run hperm (orderW_pw hH.let_ hlen hH.lines) hH.lines hrl.symm hP] at hyr
    have s16 := s15.trans s6
    have ht6 := s6 _ _ (s5 _ _ (s4 _ _ ht2))
    have hd6 := s6 _ _ (s5 _ _ (s4 _ _ hd2))
    -- due
    refine ⟨_, rfl, t, rfl, ⟨_, lstOf ht6⟩, fun D hD => ?_⟩
    refine lc_map walk_list hD (fun i x => (ls.map fun l => V.str (wd L l))[i]? = some x) (fun i H x H' y => y) (fun Hc s => s.seq (lstOf ht6)) (fun i y H => ∃ l, ls[i]? = some l ∧ NT K H y l) (fun i y H H' s ⟨l, hl, h⟩ => ⟨l, hl, h.ls s⟩) (by omega) (fun i x Hc Qt hi s yv k => ?_) (fun H7 ds s7 hD7 hl7 hE7 => ?_)
    · obtain ⟨l, hl, rfl⟩ := get_map yv
      have hfl := hH.falls hl
      have hll : l.length ≤ 26 := by rw [← wdL_len L l]; exact hfl.2.2.2
      refine ⟨_, rfl, _, rfl, fun D2 hD2 => ?_⟩
      refine lc_map walk_str hD2 (fun i x => ∃ c, (wdL L l)[i]? = some c ∧ x = .str (sg c)) (fun i H x H' y => ⟨y.1, ?_⟩) (fun _ _ => True.intro) (fun i y H => ∃ m, l[i]? = some m ∧ y = iv m) (fun _ _ _ _ _ h => h) ?_ (fun i x Hc2 Qt2 hi s2' yv k2 => ?_) (fun H4 us s4' hD4 hl4 hE4 => ?_)
      · obtain ⟨c, hc, e⟩ := y.2
        exact ⟨c, by simpa [wd, tx] using hc, e⟩
      · show (tx (wdL L l)).length ≤ 100000
        rw [tx_len, wdL_len]
        omega
      · obtain ⟨c, hc, rfl⟩ := yv
        obtain ⟨m, hm, rfl⟩ := get_map hc
        have hml : m < L.length := hH.small hl m (List.mem_of_getElem? hm)
        refine ⟨_, rfl, _, rfl, d, iv m, rfl, ?_, k2 _ _ (Same.refl _) ⟨m, hm, rfl⟩⟩
        rw [← places_at hH.let_ hml]
        exact DGet.k (k := Sum.inr (sg (L.getD m 0))) (s2' _ _ (s _ _ hd6))
      · have ez : us = l.map iv := ext_of (by rw [hl4]; show (tx (wdL L l)).length = _; rw [tx_len, wdL_len]) hE4
        subst ez
        refine ⟨D2, _, rfl, .inl ⟨lstOf hD4, fun u hu' => ?_⟩⟩
        exact k _ _ (s4'.trans (same_new hu' _)) ⟨l, hl, u, rfl, tupOf upd_same⟩
    have s17 := s16.trans s7
    have hdue : Paired (NT K H7) ds ls := paired_of (by rw [hl7, hml]) fun i y r hy hr => by
      obtain ⟨l, hl', hN'⟩ := hE7 i y hy
      rw [hr] at hl'
      cases hl'
      exact hN'
    refine ⟨_, rfl, _, rfl, _, _, rows, runOf rows ls, rfl, hN.ls (s_ls s17), hyr.ls (s_ls s7), hP, runOf_runs, by omega, fun np ns H8 s8 _ hnp hns => ?_⟩
    have s18 := s17.trans s8
    refine ⟨_, rfl, .list ((pn rows (runOf rows ls) rows.length).map encT), .list (ls.map encT), .lst (lstOf hnp) (dp_rows hns), .lst (lstOf (s8 _ _ hD7)) (dp_rows (Paired.mapP hdue fun _ _ h => h.ls (s_ls s8))), shaped_rows _, shaped_rows _, ?_⟩
    rw [PyData.eqv, eqvAll_encT]
    refine ⟨_, rfl, ?_⟩
    by_cases e : pn rows (runOf rows ls) rows.length = ls
    · rw [decide_eq_true e]
      refine iteF ?_
      exact ⟨_, rfl, q _ _ s18 (.inl ⟨e, hyr.ls ((s_ls s7).trans (s_ls s8))⟩)⟩
    · rw [decide_eq_false e]
      refine iteT ?_
      exact q _ _ s18 (.inr ⟨e, rfl⟩)
end
end Pb

namespace Pb
open PySem PySem.Spec PyProof.Rows L2
section
variable {P : Program} {w : World} {K : PySem.W.Frag} {mg : Str → Option Value} {base : Heap}
abbrev nState : List Str := ["_law_script", "_law_k", "_law_cell", "_law_rest"]
abbrev sState : Stmt := topS 32
theorem scState : FnScope nState ["_law_script", "_law_k"] (defScope sState) := ⟨rfl, rfl, rfl, by decide +kernel, rfl, by decide +kernel, by decide +kernel⟩
theorem ok_law_state {f : Addr} {fd : FuncData} (F : Fun K "_law_state" "_law_state" sState f fd) (T : Txt mg) : FnOk P w K mg base CX0 1 f fd ["_law_script", "_law_k"] (spState K) := by
  refine F.ok scState (fun vs H Q E h => ?_) (fun cdv A outer s H vs Q E hr h => ?_)
  · obtain ⟨a, ns, k, rfl, _⟩ := h
    rfl
  · obtain ⟨a, ns, k, rfl, hS, hlen, q⟩ := h
    refine ⟨_, pss_cons (ps_set (i := 2) scState.nd rfl (Or.inl rfl) (pe_ifExp (pt_cmpR op_lt (pv 1) (pe_callB (cLen (K := K) rfl) (by rfl) T.len PySem.boot_len (pa_cons (pv 0) pa_nil)) (nomark _)) (pe_ix (ixL (K := K) rfl) (pv 0) (pv 1) (fun _ _ => rfl))
          (pe_op op_add (pe_op op_mul pe_int (pv 1)) (pe_op op_mul pe_int (pe_callB (cLen (K := K) rfl) (by rfl) T.len PySem.boot_len (pa_cons (pv 0) pa_nil))))))
      (pss_cons (ps_set (i := 3) scState.nd rfl (Or.inl rfl) (pe_ifExp (pt_cmpR op_ge (pv 2) (pe_op op_pow pe_int pe_int) (nomark _)) (pv 2) pe_int))
      (pss_one (ps_ret (pe_lst (pa_cons (pv 3) (pa_cons (pe_op op_mod (pe_callTy call_int1 (by rfl) T.int (by decide +kernel) (pa_cons (pe_op op_add (pv 2) (pe_op op_mul pe_int (pv 1))) pa_nil)) pe_int) (pa_cons pe_int pa_nil))))))), ?_⟩
    have hml : (ns.map V.int).length = ns.length := List.length_map _
    have tail : ∀ c : Int, (tSeq (tAsg (tIf (tTest (tOp (rI0 fun i j => .bl (decide (i ≥ j))) (tVar 2) (tOp (rI CPow fun i j => .int (i ^ j.toNat)) (tC (.int 10)) (tC (.int 18))))) (tVar 2) (tC (.int 0))) (gName 3))
        (tRet (tLst (tCons (tVar 3) (tCons (tOp (rI (fun _ j => 0 < j) fun i j => .int (i % j)) (tCB (fun xs H Q => (∃ i, xs = [.int i] ∧ Q (.int i) H) ∨ ∃ k, xs = [.bl k] ∧ Q (.int (if k then 1 else 0)) H) (tCons (tOp (rI0 fun i j => .int (i + j)) (tVar 2) (tOp (rI CMul fun i j => .int (i * j)) (tC (.int 104729)) (tVar 1))) tNil)) (tC (.int 1000000007))) (tCons (tC (.int 0)) tNil))))))
        { nx := fun _ H' => Q .non H', rt := Q } [some (.ref a), some (iv k), some (.int c), none] H := fun c => by
      refine ⟨_, rfl, 10, 18, rfl, rfl, ⟨by decide, by decide, by decide⟩, _, _, rfl, rfl, _, rfl, ?_⟩
      have fin : ∀ r : Int, (tRet (tLst (tCons (tVar 3) (tCons (tOp (rI (fun _ j => 0 < j) fun i j => .int (i % j)) (tCB (fun xs H Q => (∃ i, xs = [.int i] ∧ Q (.int i) H) ∨ ∃ k, xs = [.bl k] ∧ Q (.int (if k then 1 else 0)) H) (tCons (tOp (rI0 fun i j => .int (i + j)) (tVar 2) (tOp (rI CMul fun i j => .int (i * j)) (tC (.int 104729)) (tVar 1))) tNil)) (tC (.int 1000000007))) (tCons (tC (.int 0)) tNil)))))
          { nx := fun _ H' => Q .non H', rt := Q } [some (.ref a), some (iv k), some (.int c), some (.int r)] H := fun r => by
        refine ⟨_, rfl, _, rfl, _, rfl, 104729, _, rfl, rfl, .inl ⟨by decide, by decide⟩, _, _, rfl, rfl, .inl ⟨_, rfl, _, 1000000007, rfl, rfl, (by show (0 : Int) < 1000000007; decide), (by show 3 ≤ sizeLine; decide), fun p hp => ?_⟩⟩
        exact q p _ (same_new hp _) hp ⟨_, _, _, upd_same⟩
      refine ite2 (fun _ => ⟨_, rfl, fin c⟩) (fun _ => fin 0)
    refine ⟨_, rfl, _, rfl, a, _, rfl, .inl hS, _, _, rfl, rfl, _, rfl, ?_⟩
    refine ite2 (fun e => ?_) (fun e => ?_)
    · have hk : k < ns.length := by
        have : (k : Int) < (((ns.map V.int).length : Nat) : Int) := of_decide_eq_true e
        omega
      refine ⟨_, rfl, _, rfl, a, _, _, .int ns[k], rfl, rfl, hS, at_nat (map_get (List.getElem?_eq_getElem hk)), ?_⟩
      exact tail _
    · refine ⟨_, rfl, 1009, _, rfl, rfl, .inl ⟨by decide, by decide⟩, _, rfl, a, _, rfl, .inl hS, 31, _, rfl, rfl, .inl ⟨by decide, by decide⟩, _, _, rfl, rfl, ?_⟩
      exact tail _

abbrev nDraw : List Str := ["_law_state_here", "_law_many", "_law_number"]
abbrev sDraw : Stmt := topS 33
theorem scDraw : FnScope nDraw ["_law_state_here", "_law_many"] (defScope sDraw) := ⟨rfl, rfl, rfl, by decide +kernel, rfl, by decide +kernel, by decide +kernel⟩
theorem draw_mod (x : Int) {m : Nat} (h : 1 ≤ m) : ∃ d : Nat, d < m ∧ x % (m : Int) = (d : Int) := by
  have h1 := Int.emod_nonneg x (show (m : Int) ≠ 0 by omega)
  have h2 := Int.emod_lt_of_pos x (show (0 : Int) < m by omega)
  exact ⟨(x % (m : Int)).toNat, by omega, by omega⟩
theorem ok_law_draw {f : Addr} {fd : FuncData} (F : Fun K "_law_draw" "_law_draw" sDraw f fd) (T : Txt mg) : FnOk P w K mg base CX0 1 f fd ["_law_state_here", "_law_many"] spDraw := by
  refine F.ok scDraw (fun vs H Q E h => ?_) (fun cdv A outer s H vs Q E hr h => ?_)
  · obtain ⟨st, many, rfl, _⟩ := h
    rfl
  · obtain ⟨st, many, rfl, ⟨r, b, c, hst⟩, h1, h2, q⟩ := h
    refine ⟨_, pss_cons (ps_if (pt_cmpR op_gt (pe_ix (ixL (K := K) rfl) (pv 0) pe_int (fun _ _ => rfl)) pe_int (nomark _))
        (pss_cons (ps_set (i := 2) scDraw.nd rfl (Or.inl rfl) (pe_op op_mod (pe_callTy call_int1 (by rfl) T.int (by decide +kernel) (pa_cons (pe_ix (ixL (K := K) rfl) (pv 0) pe_int (fun _ _ => rfl)) pa_nil)) (pv 1)))
        (pss_cons (ps_asg (pe_op op_fdiv (pe_ix (ixL (K := K) rfl) (pv 0) pe_int (fun _ _ => rfl)) (pv 1)) (pg_sub (pv 0) pe_int set_list))
        (pss_one (ps_ret (pv 2))))) pss_nil)
      (pss_cons (ps_asg (pe_op op_add (pe_ix (ixL (K := K) rfl) (pv 0) pe_int (fun _ _ => rfl)) pe_int) (pg_sub (pv 0) pe_int set_list))
      (pss_cons (ps_set (i := 2) scDraw.nd rfl (Or.inl rfl) (pe_op op_mod (pe_callTy call_int1 (by rfl) T.int (by decide +kernel) (pa_cons (pe_op op_mul (pe_op op_add (pe_op op_add (pe_ix (ixL (K := K) rfl) (pv 0) pe_int (fun _ _ => rfl)) (pe_op op_mul pe_int (pe_ix (ixL (K := K) rfl) (pv 0) pe_int (fun _ _ => rfl)))) pe_int) pe_int) pa_nil)) pe_int))
      (pss_cons (ps_set (i := 2) scDraw.nd rfl (Or.inl rfl) (pe_op op_mod (pe_callTy call_int1 (by rfl) T.int (by decide +kernel) (pa_cons (pe_op op_mul (pv 2) (pe_op op_add (pe_op op_fdiv (pv 2) pe_int) pe_int)) pa_nil)) pe_int))
      (pss_cons (ps_set (i := 2) scDraw.nd rfl (Or.inl rfl) (pe_op op_mod (pe_callTy call_int1 (by rfl) T.int (by decide +kernel) (pa_cons (pe_op op_mul (pv 2) (pe_op op_add (pe_op op_add (pe_op op_fdiv (pv 2) pe_int) pe_int) (pe_ix (ixL (K := K) rfl) (pv 0) pe_int (fun _ _ => rfl)))) pa_nil)) pe_int))
      (pss_one (ps_ret (pe_op op_mod (pe_callTy call_int1 (by rfl) T.int (by decide +kernel) (pa_cons (pe_op op_fdiv (pv 2) pe_int) pa_nil)) (pv 1)))))))), ?_⟩
    have x0 : ∀ {u v z : V}, atI [u, v, z] 0 = some u := fun {u v z} => at_nat (i := 0) rfl
    have x1 : ∀ {u v z : V}, atI [u, v, z] 1 = some v := fun {u v z} => at_nat (i := 1) rfl
    have x2 : ∀ {u v z : V}, atI [u, v, z] 2 = some z := fun {u v z} => at_nat (i := 2) rfl
    refine ⟨_, rfl, st, _, 0, _, rfl, rfl, lstOf hst, x0, _, _, rfl, rfl, _, rfl, ?_⟩
    refine ite2 (fun _ => ?_) (fun _ => ?_)
    · obtain ⟨d, hd, ed⟩ := draw_mod r h1
      refine ⟨_, rfl, st, _, 0, _, rfl, rfl, lstOf hst, x0, .inl ⟨_, rfl, _, rfl, _, _, rfl, rfl, (by show (0 : Int) < (many : Int); omega), ?_⟩⟩
      refine ⟨_, rfl, st, _, 0, _, rfl, rfl, lstOf hst, x0, _, rfl, _, _, rfl, rfl, ⟨by omega, by omega⟩, ?_⟩
      refine ⟨_, rfl, st, _, 0, 0, rfl, rfl, hst, rfl, ?_⟩
      refine ⟨_, rfl, ?_⟩
      show Q (.int (r % (many : Int))) _
      rw [ed]
      exact q d _ hd (But.upd H _) ⟨_, _, _, upd_same⟩
    · refine ⟨_, rfl, st, _, 2, _, rfl, rfl, lstOf hst, x2, _, _, rfl, rfl, _, rfl, st, _, 2, 2, rfl, rfl, hst, rfl, ?_⟩
      have hst2 : (upd H st (.lst [.int r, .int b, .int (c + 1)])) st = some (.lst [.int r, .int b, .int (c + 1)]) := upd_same
      have bu := But.upd (a := st) H (.lst [.int r, .int b, .int (c + 1)])
      show tSeq _ _ _ _ (upd H st (.lst [.int r, .int b, .int (c + 1)]))
      generalize upd H st (.lst [.int r, .int b, .int (c + 1)]) = H1 at hst2 bu
      refine ⟨_, rfl, st, _, 1, _, rfl, rfl, lstOf hst2, x1, _, rfl, st, _, 2, _, rfl, rfl, lstOf hst2, x2, 7919, _, rfl, rfl, .inl ⟨by decide, by decide⟩, _, _, rfl, rfl, _, 1, rfl, rfl, _, 48271, rfl, rfl, .inr ⟨by decide, by decide⟩, .inl ⟨_, rfl, _, 2147483647, rfl, rfl, (by show (0 : Int) < 2147483647; decide), ?_⟩⟩
      have bd : ∀ x : Int, -(2 ^ 64) < x % 2147483647 ∧ x % 2147483647 < 2 ^ 64 := fun x => by
        have a1 := Int.emod_nonneg x (show (2147483647 : Int) ≠ 0 by decide)
        have a2 := Int.emod_lt_of_pos x (show (0 : Int) < 2147483647 by decide)
        exact ⟨by omega, by omega⟩
      show tSeq _ _ _ ([some (.ref st), some (iv many), some (.int ((b + 7919 * (c + 1) + 1) * 48271 % 2147483647))] : L2.St) H1
      generalize hx : (b + 7919 * (c + 1) + 1) * 48271 % 2147483647 = n1
      have b1 := bd ((b + 7919 * (c + 1) + 1) * 48271)
      rw [hx] at b1
      refine ⟨_, rfl, _, rfl, n1, 1009, rfl, rfl, ⟨by decide, by decide⟩, _, 69621, rfl, rfl, n1, _, rfl, rfl, .inl b1, .inl ⟨_, rfl, _, 2147483647, rfl, rfl, (by show (0 : Int) < 2147483647; decide), ?_⟩⟩
      show tSeq _ _ _ ([some (.ref st), some (iv many), some (.int (n1 * (n1 / 1009 + 69621) % 2147483647))] : L2.St) H1
      generalize hy : n1 * (n1 / 1009 + 69621) % 2147483647 = n2
      have b2 := bd (n1 * (n1 / 1009 + 69621))
      rw [hy] at b2
      refine ⟨_, rfl, _, rfl, n2, 2003, rfl, rfl, ⟨by decide, by decide⟩, _, 40692, rfl, rfl, _, rfl, st, _, 2, _, rfl, rfl, lstOf hst2, x2, _, _, rfl, rfl, n2, _, rfl, rfl, .inl b2, .inl ⟨_, rfl, _, 2147483399, rfl, rfl, (by show (0 : Int) < 2147483399; decide), ?_⟩⟩
      obtain ⟨d, hd, ed⟩ := draw_mod (n2 * (n2 / 2003 + 40692 + (c + 1)) % 2147483399 / 16) h1
      refine ⟨_, rfl, _, 16, rfl, rfl, ⟨by decide, by decide⟩, .inl ⟨_, rfl, _, rfl, _, _, rfl, rfl, (by show (0 : Int) < (many : Int); omega), ?_⟩⟩
      show Q (.int (n2 * (n2 / 2003 + 40692 + (c + 1)) % 2147483399 / 16 % (many : Int))) _
      rw [ed]
      exact q d _ hd bu ⟨_, _, _, hst2⟩
end
end Pb

namespace Pb
open PySem PySem.Spec PyProof.Rows L2
theorem cut_te {te : TE} {σ : L2.St} {H : Hp} {Q : VK} (R : V → Hp → Prop) (h2 : ∀ Q' : VK, (∀ v H', R v H' → Q' v H') → te σ H Q') (h1 : ∀ v H', R v H' → Q v H') : te σ H Q := h2 Q h1
theorem iv_add (a b : Nat) : V.int ((a : Int) + (b : Int)) = iv (a + b) := by
  unfold iv
  rw [Int.natCast_add]
theorem iv_zero (i : Nat) : V.int (0 + (i : Int)) = iv i := by
  unfold iv
  rw [Int.zero_add]
theorem walk_up {n : Nat} : Walk (Itr 0 n) n (fun _ => True) (YFn iv) := walk_range.mono (fun _ h => h) fun i H x H' _ _ y => ⟨y.1, y.2.trans (iv_zero i)⟩
theorem walk_down {n : Nat} : Walk (Itc ((n : Int) - 1) (-1) n) n (fun _ => True) (YFn fun m => iv (n - 1 - m)) := walk_rangeC.mono (fun _ h => h) fun i H x H' hi _ y => ⟨y.1, y.2.trans (by
  unfold iv
  show V.int ((n : Int) - 1 + (i : Nat) * -1) = V.int _
  congr 1
  omega)⟩
theorem Plan.snoc {p : List (List Nat)} {r : List Nat} (h : Plan p) (h1 : r.Pairwise (· < ·)) (h2 : ∀ j ∈ r, j < p.length) (h3 : ∀ j ∈ r, ∀ q, p[j]? = some q → ∀ x ∈ q, x ∈ r) : Plan (p ++ [r]) := by
  have at_ : ∀ (i : Nat) (q : List Nat), (p ++ [r])[i]? = some q → (i < p.length ∧ p[i]? = some q) ∨ (i = p.length ∧ q = r) := fun i q hq => by
    by_cases hi : i < p.length
    · rw [List.getElem?_append_left hi] at hq
      exact .inl ⟨hi, hq⟩
    · have e : i = p.length := by
        have := get_lt hq
        rw [List.length_append, List.length_singleton] at this
        omega
      subst e
      rw [List.getElem?_concat_length] at hq
      exact .inr ⟨rfl, (Option.some.inj hq).symm⟩
  refine ⟨fun i q hq => ?_, fun i q hq j hj => ?_, fun i q hq j hj q2 hq2 x hx => ?_⟩
  · rcases at_ i q hq with ⟨_, e⟩ | ⟨_, rfl⟩
    · exact h.asc i q e
    · exact h1
  · rcases at_ i q hq with ⟨_, e⟩ | ⟨rfl, rfl⟩
    · exact h.lt i q e j hj
    · exact h2 j hj
  · rcases at_ i q hq with ⟨hi, e⟩ | ⟨rfl, rfl⟩
    · have hji := h.lt i q e j hj
      rcases at_ j q2 hq2 with ⟨_, e2⟩ | ⟨e2, _⟩
      · exact h.tr i q e j hj q2 e2 x hx
      · omega
    · have hji := h2 j hj
      rcases at_ j q2 hq2 with ⟨_, e2⟩ | ⟨e2, _⟩
      · exact h3 j hj q2 e2 x hx
      · omega
theorem Plan.nil : Plan [] := ⟨fun i r h => by simp at h, fun i r h => by simp at h, fun i r h => by simp at h⟩
/-- sorted numbers are numbers -/
theorem nats_back {r : List Nat} {ns : List Int} (h : ns.Perm (r.map fun (n : Nat) => (n : Int))) (hs : ns.Pairwise (· ≤ ·)) (hn : r.Nodup) : ∃ r' : List Nat, ns = r'.map (fun (n : Nat) => (n : Int)) ∧ r'.Perm r ∧ r'.Pairwise (· < ·) := by
  have e : ns = (ns.map Int.toNat).map (fun (n : Nat) => (n : Int)) := by
    rw [List.map_map]
    refine (List.map_id ns).symm.trans (List.map_congr_left fun x hx => ?_)
    obtain ⟨n, _, rfl⟩ := List.mem_map.mp (h.mem_iff.mp hx)
    simp
  have hp : (ns.map Int.toNat).Perm r := by
    have := h.map Int.toNat
    rw [List.map_map] at this
    refine this.trans (List.Perm.of_eq ?_)
    refine Eq.trans (List.map_congr_left fun x _ => ?_) (List.map_id r)
    simp
  refine ⟨ns.map Int.toNat, e, hp, ?_⟩
  have hnd : (ns.map Int.toNat).Nodup := hp.nodup_iff.mpr hn
  have hle : (ns.map Int.toNat).Pairwise (· ≤ ·) := by
    rw [List.pairwise_map]
    exact hs.imp fun {a b} q => Int.toNat_le_toNat q
  exact (hle.and hnd).imp fun {a b} q => Nat.lt_of_le_of_ne q.1 q.2
theorem map_int (r : List Nat) : (r.map fun (n : Nat) => (n : Int)).map V.int = r.map iv := by
  rw [List.map_map]
  rfl
section
variable {P : Program} {w : World} {K : PySem.W.Frag} {mg : Str → Option Value} {base : Heap}
abbrev nPlanL : List Str := ["_law_state_here", "_law_size", "_law_wide", "_law_level", "_law_rows", "_law_item", "_law_row", "_law_other_here", "_law_more"]
abbrev sPlanL : Stmt := topS 34
theorem scPlanL : FnScope nPlanL ["_law_state_here", "_law_size"] (defScope sPlanL) := ⟨rfl, rfl, rfl, by decide +kernel, rfl, by decide +kernel, by decide +kernel⟩
theorem ok_law_plan {f f1 : Addr} {fd fd1 : FuncData} (F : Fun K "_law_plan" "_law_plan" sPlanL f fd) (T : Txt mg) (C1 : Cal P w K mg base 1 "_law_draw" ["_law_state_here", "_law_many"] spDraw f1 fd1) : FnOk P w K mg base CX0 2 f fd ["_law_state_here", "_law_size"] (spPlanL K) := by
  refine F.ok scPlanL (fun vs H Q E h => ?_) (fun cdv A outer s H vs Q E hr h => ?_)
  · obtain ⟨st, size, rfl, _⟩ := h
    rfl
  · obtain ⟨st, size, rfl, hst, h1, h26, q⟩ := h
    refine ⟨_, pss_cons (ps_set (i := 2) scPlanL.nd rfl (Or.inl rfl) (pe_ifExp (pt_cmpR op_lt (pv 1) pe_int (nomark _)) pe_int (pe_ix (ixL (K := K) rfl) (pe_lst (pa_cons pe_int (pa_cons pe_int (pa_cons pe_int pa_nil)))) (pe_c C1 hr (pa_cons (pv 0) (pa_cons pe_int pa_nil))) (fun _ _ => rfl))))
      (pss_cons (ps_set (i := 3) scPlanL.nd rfl (Or.inl rfl) (pe_op op_add pe_int (pe_c C1 hr (pa_cons (pv 0) (pa_cons pe_int pa_nil)))))
      (pss_cons (ps_set (i := 4) scPlanL.nd rfl (Or.inl rfl) (pe_lst pa_nil))
      (pss_cons (ps_for PassesOwn.never rfl (pi_range1 (by rfl) T.range (pa_cons (pv 1) pa_nil)) (pg_name (i := 5) scPlanL.nd rfl (Or.inl rfl))
        (pss_cons (ps_set (i := 6) scPlanL.nd rfl (Or.inr rfl) (pe_lst pa_nil))
        (pss_cons (ps_for PassesOwn.never rfl (pi_range3 (by rfl) T.range (pa_cons (pe_op op_sub (pv 5) pe_int) (pa_cons (pe_un un_neg pe_int) (pa_cons (pe_un un_neg pe_int) pa_nil)))) (pg_name (i := 7) scPlanL.nd rfl (Or.inl rfl))
          (pss_one (ps_if (PW.pt (pw_and (pt_cmpR (opNi (K := K) rfl) (pv 7) (pv 6) (by rfl)) (pw_and1 (pt_cmpR op_lt (pe_c C1 hr (pa_cons (pv 0) (pa_cons (pv 2) pa_nil))) (pv 3) (nomark _)))))
            (pss_one (ps_set (i := 6) scPlanL.nd rfl (Or.inr rfl) (pe_op op_cat (pe_op op_cat (pv 6) (pe_lst (pa_cons (pv 7) pa_nil)))
              (pe_lc (own := [("_law_more", 8)]) (g := gName 8) rfl scPlanL.nd (pi_tup (pe_ix (ixL (K := K) rfl) (pv 4) (pv 7) (fun _ _ => rfl))) (blkOk_by (N := nPlanL) (sc := defScope sPlanL) (by decide +kernel)) (fun _ _ _ _ _ => pg_name (i := 8) scPlanL.nd rfl (Or.inl rfl))
                (fun _ _ _ _ _ => pts_one (pt_cmpR (opNi (K := K) rfl) (pv 8) (pv 6) (by rfl))) (fun _ _ _ _ _ => pv 8))))) pss_nil)))
        (pss_one (ps_expr (pe_bm PySem.F.plainAttrs_list PySem.F.slot_list_append PySem.F.type_list_append mt_append (pv 4) (pa_cons (pe_callTy (cTup (K := K) rfl) (by rfl) T.tuple (by decide +kernel) (pa_cons (pe_callB cr_sorted (by rfl) T.sorted (by decide +kernel) (pa_cons (pv 6) pa_nil)) pa_nil)) pa_nil)))))))
      (pss_one (ps_ret (pe_callTy (cTup (K := K) rfl) (by rfl) T.tuple (by decide +kernel) (pa_cons (pv 4) pa_nil))))))), ?_⟩
    -- wide
    show tIf _ _ _ _ _ _
    refine cut_te (fun v H1 => ∃ wd : Nat, v = iv wd ∧ 1 ≤ wd ∧ wd ≤ 60 ∧ But st H H1 ∧ StAt H1 st) (fun Q' k => ?_) ?_
    · refine ⟨_, rfl, _, _, rfl, rfl, _, rfl, ?_⟩
      refine ite2 (fun _ => k _ _ ⟨4, rfl, by decide, by decide, But.refl _, hst⟩) (fun _ => ?_)
      refine ⟨(by show 3 ≤ sizeLine; decide), fun p hp => ?_⟩
      obtain ⟨r, b, c, hst'⟩ := id hst
      have s1 := same_new hp (.lst [.int 4, .int 14, .int 60])
      have hps : p ≠ st := fun e => by rw [e, hst'] at hp; cases hp
      refine ⟨_, rfl, st, 3, rfl, ⟨r, b, c, s1 _ _ hst'⟩, by decide, by decide, fun d H1 hd b1 st1 => ?_⟩
      have hp1 := b1 p _ hps upd_same
      have bb : But st H H1 := (s_but s1).trans b1
      match d, hd with
      | 0, _ => exact ⟨p, _, _, _, rfl, rfl, lstOf hp1, at_nat (i := 0) rfl, k _ _ ⟨4, rfl, by decide, by decide, bb, st1⟩⟩
      | 1, _ => exact ⟨p, _, _, _, rfl, rfl, lstOf hp1, at_nat (i := 1) rfl, k _ _ ⟨14, rfl, by decide, by decide, bb, st1⟩⟩
      | 2, _ => exact ⟨p, _, _, _, rfl, rfl, lstOf hp1, at_nat (i := 2) rfl, k _ _ ⟨60, rfl, by decide, by decide, bb, st1⟩⟩
    rintro v H1 ⟨wd, rfl, hw1, hw2, b1, st1⟩
    -- level
    refine ⟨_, rfl, st, 3, rfl, st1, by decide, by decide, fun lv H2 hlv b2 st2 => ?_⟩
    refine ⟨1, (lv : Int), rfl, rfl, ?_⟩
    have b12 := b1.trans b2
    -- rows
    refine ⟨Nat.zero_le _, fun lr hlr => ?_⟩
    obtain ⟨r0, b0, c0, hst0⟩ := id hst
    obtain ⟨r2, q2, c2, hst2⟩ := id st2
    have hlrs : lr ≠ st := fun e => by rw [e, hst2] at hlr; cases hlr
    have b3 : But st H (upd H2 lr (.lst [])) := b12.trans (s_but (same_new hlr _))
    have st3 : StAt (upd H2 lr (.lst [])) st := ⟨r2, q2, c2, same_new hlr _ _ _ hst2⟩
    refine ⟨_, rfl, size, rfl, by omega, by omega, ?_⟩
    rw [Int.toNat_natCast]
    have hlr0 : H lr = none := by
      cases e : H lr with
      | none => rfl
      | some o =>
        rw [b12 lr o hlrs e] at hlr
        cases hlr
    refine for_it walk_up (fun i σ H' => But st H H' ∧ StAt H' st ∧ (∃ vs rows, H' lr = some (.lst vs) ∧ Paired (NT K H') vs rows ∧ Plan rows ∧ rows.length = i) ∧ ∃ z5 z6 z7, σ = [some (.ref st), some (iv size), some (iv wd), some (.int (1 + (lv : Int))), some (.ref lr), z5, z6, z7, none]) ⟨b3, st3, ⟨[], [], upd_same, .nil, Plan.nil, rfl⟩, none, none, none, rfl⟩ (fun _ _ _ _ _ => True.intro) ?_ ?_
    · rintro i x σ H3 H4 hi ⟨b4, st4, ⟨vs, rows, hlr4, hvs, hPl, hrl⟩, z5, z6, z7, rfl⟩ ⟨rfl, rfl⟩
      -- row = []
      refine ⟨Nat.zero_le _, fun lw hlw => ?_⟩
      obtain ⟨r4, q4, c4, hst4⟩ := id st4
      have hlws : lw ≠ st := fun e => by rw [e, hst4] at hlw; cases hlw
      have s5 := same_new hlw (.lst [])
      have hlr5 := s5 _ _ hlr4
      have hvs5 : Paired (NT K (upd H4 lw (.lst []))) vs rows := Paired.mapP hvs fun _ _ h => h.ls (s_ls s5)
      refine ⟨_, rfl, _, 1, rfl, rfl, 1, rfl, 1, rfl, _, _, _, _, rfl, RgC.neg (by omega) (by omega) (by decide) (by decide), ?_⟩
      have en : ((i : Int) - 1 - (-1)).toNat = i := by omega
      rw [en]
      refine for_it walk_down (fun m σ H' => But st H H' ∧ StAt H' st ∧ (∃ vs, H' lr = some (.lst vs) ∧ Paired (NT K H') vs rows) ∧ ∃ lw rw z7, σ = [some (.ref st), some (iv size), some (iv wd), some (.int (1 + (lv : Int))), some (.ref lr), some (iv i), some (.ref lw), z7, none] ∧
        H' lw = some (.lst (rw.map iv)) ∧ lw ≠ st ∧ rw.Nodup ∧ (∀ x ∈ rw, x < i) ∧ ∀ j ∈ rw, ∀ q, rows[j]? = some q → ∀ x ∈ q, x ∈ rw) ⟨b4.trans (s_but s5), ⟨r4, q4, c4, s5 _ _ hst4⟩, ⟨vs, hlr5, hvs5⟩, lw, [], z7, rfl, upd_same, hlws, List.nodup_nil, by simp, by simp⟩ (fun _ _ _ _ _ => True.intro) ?_ ?_
      · rintro m x σ H5 H6 hm ⟨b6, st6, ⟨vs6, hlr6, hvs6⟩, lw6, rw6, z7, rfl, hlw6, hlw6s, hnd, hlt, hcl⟩ ⟨rfl, hx⟩
        have hx : x = iv (i - 1 - m) := hx
        subst hx
        have hoi : i - 1 - m < i := by omega
        generalize i - 1 - m = o at hoi ⊢
        obtain ⟨r6, q6, c6, hst6⟩ := id st6
        refine ⟨_, rfl, _, rfl, lw6, _, rfl, .inl (lstOf hlw6), rfl, flat_ivs _, _, rfl, ?_⟩
        rw [inV_iv]
        by_cases ho : o ∈ rw6
        · rw [decide_eq_true ho]
          refine iteF (iteF ?_)
          exact ⟨b6, st6, ⟨vs6, hlr6, hvs6⟩, lw6, rw6, _, rfl, hlw6, hlw6s, hnd, hlt, hcl⟩
        · rw [decide_eq_false ho]
          refine iteT ?_
          refine ⟨_, rfl, _, rfl, st, wd, rfl, st6, hw1, by omega, fun d H7 hd b7 st7 => ?_⟩
          have b67 := b6.trans b7
          have hlw7 := b7 _ _ hlw6s hlw6
          have hlr7 := b7 _ _ hlrs hlr6
          have hvs7 : Paired (NT K H7) vs6 rows := Paired.mapP hvs6 fun _ _ h => h.ls (b7.ls hst6)
          refine ⟨_, rfl, _, _, rfl, rfl, _, rfl, ?_⟩
          refine ite2 (fun _ => ?_) (fun _ => ⟨b67, st7, ⟨vs6, hlr7, hvs7⟩, lw6, rw6, _, rfl, hlw7, hlw6s, hnd, hlt, hcl⟩)
          obtain ⟨r7, q7, c7, hst7⟩ := id st7
          -- row + [other] + [..]
          refine ⟨_, rfl, _, rfl, (by show 1 ≤ sizeLine; decide), fun p1 hp1 => ?_⟩
          have s8 := same_new hp1 (.lst [iv o])
          have hrwl : rw6.length ≤ i := nodup_lt_len hnd hlt
          refine ⟨lw6, p1, _, _, rfl, rfl, s8 _ _ hlw7, upd_same, by rw [len_iv]; exact sz1000 (by show rw6.length + 1 ≤ 100000; omega), fun p2 hp2 => ?_⟩
          have s9 := s8.trans (same_new hp2 (.lst (rw6.map iv ++ [iv o])))
          obtain ⟨ro, hro⟩ := lt_get (l := rows) (i := o) (by omega)
          obtain ⟨xo, hxo, po, rfl, hpo⟩ := paired_get' hvs7 hro
          refine ⟨_, rfl, _, rfl, lr, _, _, .ref po, rfl, rfl, lstOf (s9 _ _ hlr7), at_nat hxo, po, rfl, ⟨_, s_seqT s9 hpo⟩, fun D hD => ?_⟩
          refine lc_filter (xs := ro.map iv) walk_tup hD yat (fun Hc s => s_seqT (s9.trans s) hpo) (fun x => !inV x (rw6.map iv)) (by have := hPl.row_len hro; rw [len_iv]; omega) (by show 8 < 9; decide) (fun m x Hc Qt hx s k => ?_) (fun H8 s10 hD8 => ?_)
          · obtain ⟨n, hn, rfl⟩ := get_map hx
            exact ⟨_, rfl, _, rfl, lw6, _, rfl, .inl (lstOf (s _ _ (s9 _ _ hlw7))), rfl, flat_ivs _, _, rfl, k _ (Same.refl _)⟩
          · rw [filter_iv] at hD8
            have ef : (ro.filter fun n => !inV (iv n) (rw6.map iv)) = ro.filter fun n => decide (n ∉ rw6) := by
              refine List.filter_congr fun n _ => ?_
              rw [inV_iv]
              simp
            rw [ef] at hD8
            have hfl : (ro.filter fun n => decide (n ∉ rw6)).length ≤ ro.length := List.length_filter_le _ _
            have hrol := hPl.row_len hro
            have hp28 := s10 _ _ (show (upd (upd H7 p1 (.lst [iv o])) p2 (.lst (rw6.map iv ++ [iv o]))) p2 = _ from upd_same)
            refine ⟨p2, D, _, _, rfl, rfl, hp28, hD8, ?_, fun p3 hp3 => ?_⟩
            · rw [List.length_append, len_iv, len_iv]
              exact sz1000 (by show rw6.length + 1 + _ ≤ 100000; omega)
            · have s11 := (s9.trans s10).trans (same_new hp3 (.lst (rw6.map iv ++ [iv o] ++ (ro.filter fun n => decide (n ∉ rw6)).map iv)))
              refine ⟨b67.trans (s_but s11), ⟨r7, q7, c7, s11 _ _ hst7⟩, ⟨vs6, s11 _ _ hlr7, Paired.mapP hvs7 fun _ _ h => h.ls (s_ls s11)⟩, p3, rw6 ++ [o] ++ ro.filter (fun n => decide (n ∉ rw6)), _, rfl, ?_, (fun e => by rw [e, (s9.trans s10) _ _ hst7] at hp3; cases hp3), ?_, ?_, ?_⟩
              · rw [upd_same, List.map_append, List.map_append]
                rfl
              · rw [List.nodup_append, List.nodup_append]
                refine ⟨⟨hnd, by simp, fun a ha b hb e => by rw [List.mem_singleton] at hb; subst hb; subst e; exact ho ha⟩, (nodup_of_asc (hPl.asc o ro hro)).filter _, fun a ha b hb e => ?_⟩
                subst e
                rw [List.mem_filter] at hb
                rcases List.mem_append.mp ha with ha | ha
                · exact (of_decide_eq_true hb.2) ha
                · rw [List.mem_singleton] at ha
                  subst ha
                  have := hPl.lt a ro hro a hb.1
                  omega
              · intro x hx
                rcases List.mem_append.mp hx with hx | hx
                · rcases List.mem_append.mp hx with hx | hx
                  · exact hlt x hx
                  · rw [List.mem_singleton] at hx
                    omega
                · have := hPl.lt o ro hro x (List.mem_filter.mp hx).1
                  omega
              · intro j hj q' hq' x hx
                have inr : ∀ y, y ∈ ro → y ∈ rw6 ++ [o] ++ ro.filter (fun n => decide (n ∉ rw6)) := fun y hy => by
                  by_cases hyr : y ∈ rw6
                  · exact List.mem_append_left _ (List.mem_append_left _ hyr)
                  · exact List.mem_append_right _ (List.mem_filter.mpr ⟨hy, decide_eq_true hyr⟩)
                rcases List.mem_append.mp hj with hj | hj
                · rcases List.mem_append.mp hj with hj | hj
                  · exact List.mem_append_left _ (List.mem_append_left _ (hcl j hj q' hq' x hx))
                  · rw [List.mem_singleton] at hj
                    subst hj
                    rw [hro] at hq'
                    cases hq'
                    exact inr x hx
                · have hjr := (List.mem_filter.mp hj).1
                  exact inr x (hPl.tr o ro hro j hjr q' hq' x hx)
      · rintro σ H5 ⟨b6, st6, ⟨vs6, hlr6, hvs6⟩, lw6, rw6, z7, rfl, hlw6, hlw6s, hnd, hlt, hcl⟩
        have hrwl : rw6.length ≤ i := nodup_lt_len hnd hlt
        refine ⟨_, rfl, .inl ⟨rfl, _, lstOf hlr6⟩, _, rfl, lw6, rw6.map fun (n : Nat) => (n : Int), rfl, by rw [map_int]; exact lstOf hlw6, by rw [List.length_map]; omega, fun ns p1 hperm hpw hp1 => ?_⟩
        obtain ⟨r', rfl, hr'p, hr'a⟩ := nats_back hperm hpw hnd
        rw [map_int]
        have s7 := same_new hp1 (.lst (r'.map iv))
        refine ⟨p1, _, rfl, .inl ⟨lstOf upd_same, fun p2 hp2 => ?_⟩⟩
        have s8 := s7.trans (same_new hp2 (.tup (r'.map iv)))
        have hl6 : vs6.length = i := by rw [Paired.length hvs6, hrl]
        refine ⟨lr, vs6, _, rfl, rfl, s8 _ _ hlr6, sz1000' (by omega), ?_⟩
        obtain ⟨r6, q6, c6, hst6⟩ := id st6
        have hH : ∀ H7, H7 = upd (upd H5 p1 (.lst (r'.map iv))) p2 (.tup (r'.map iv)) → But st H (upd H7 lr (.lst (vs6 ++ [.ref p2]))) := fun H7 e => by
          subst e
          intro b u nb e
          have nl : b ≠ lr := fun z => by rw [z, hlr0] at e; cases e
          rw [upd_ne nl]
          exact s8 _ _ (b6 b u nb e)
        refine ⟨hH _ rfl, ⟨r6, q6, c6, (upd_ne (Ne.symm hlrs)).trans (s8 _ _ hst6)⟩, ⟨vs6 ++ [.ref p2], rows ++ [r'], upd_same, ?_, hPl.snoc hr'a (fun j hj => by rw [hrl]; exact hlt j (hr'p.mem_iff.mp hj)) (fun j hj q' hq' x hx => hr'p.mem_iff.mpr (hcl j (hr'p.mem_iff.mp hj) q' hq' x hx)), by rw [List.length_append, hrl]; rfl⟩, _, _, _, rfl⟩
        have ls := (s_ls s8).trans ((But.upd (upd (upd H5 p1 (.lst (r'.map iv))) p2 (.tup (r'.map iv))) (.lst (vs6 ++ [.ref p2]))).ls (s8 _ _ hlr6))
        refine paired_app (Paired.mapP hvs6 fun _ _ h => h.ls ls) (.cons ⟨p2, rfl, ?_⟩ .nil)
        exact ((But.upd (upd (upd H5 p1 (.lst (r'.map iv))) p2 (.tup (r'.map iv))) (.lst (vs6 ++ [.ref p2]))).ls (s8 _ _ hlr6)).seqT (tupOf upd_same)
    · rintro σ H3 ⟨b4, st4, ⟨vs, rows, hlr4, hvs, hPl, hrl⟩, z5, z6, z7, rfl⟩
      refine ⟨_, rfl, lr, vs, rfl, .inl ⟨lstOf hlr4, fun l hl => ?_⟩⟩
      have s5 := same_new hl (.tup vs)
      obtain ⟨r4, q4, c4, hst4⟩ := id st4
      exact q _ rows _ (b4.trans (s_but s5)) ⟨r4, q4, c4, s5 _ _ hst4⟩ ⟨l, vs, rfl, tupOf upd_same, Paired.mapP hvs fun _ _ h => h.ls (s_ls s5)⟩ hPl hrl
end
end Pb

namespace Pb
open PySem PySem.Spec PyProof.Rows L2
theorem eqV_iv (a b : Nat) : eqV (iv a) (iv b) = decide (a = b) := by
  show ((a : Int) == (b : Int)) = _
  by_cases h : a = b
  · subst h; simp
  · have : (a : Int) ≠ (b : Int) := by omega
    simp [h, this]
theorem ins_perm {α : Type} (l : List α) (k : Nat) (x : α) : (l.take k ++ [x] ++ l.drop k).Perm (x :: l) := by
  have h : (l.take k ++ [x] ++ l.drop k).Perm ([x] ++ l.take k ++ l.drop k) := List.perm_append_comm.append_right _
  refine h.trans (List.Perm.of_eq ?_)
  rw [List.append_assoc, List.take_append_drop]
  rfl
theorem Lines.snoc {ls : List (List Nat)} {l : List Nat} (h : Lines ls) (hl : l = [ls.length] ∨ ∃ (j : Nat) (q : List Nat), j < ls.length ∧ ls[j]? = some q ∧ l = q ++ [ls.length]) : Lines (ls ++ [l]) := by
  refine ⟨fun i m hm => ?_⟩
  by_cases hi : i < ls.length
  · rw [List.getElem?_append_left hi] at hm
    rcases h.step i m hm with e | ⟨j, q, hj, hq, e⟩
    · exact .inl e
    · exact .inr ⟨j, q, hj, by rw [List.getElem?_append_left (by omega)]; exact hq, e⟩
  · have e : i = ls.length := by
      have := get_lt hm
      rw [List.length_append, List.length_singleton] at this
      omega
    subst e
    rw [List.getElem?_concat_length] at hm
    cases hm
    rcases hl with e | ⟨j, q, hj, hq, e⟩
    · exact .inl e
    · exact .inr ⟨j, q, hj, by rw [List.getElem?_append_left hj]; exact hq, e⟩
theorem Lines.nil : Lines [] := ⟨fun i l h => by simp at h⟩
section
variable {P : Program} {w : World} {K : PySem.W.Frag} {mg : Str → Option Value} {base : Heap}
abbrev nRunL : List Str := ["_law_state_here", "_law_plan_here", "_law_seen"]
abbrev sRunL : Stmt := topS 35
theorem scRunL : FnScope nRunL ["_law_state_here", "_law_plan_here"] (defScope sRunL) := ⟨rfl, rfl, rfl, by decide +kernel, rfl, by decide +kernel, by decide +kernel⟩
theorem ok_law_run {f f1 : Addr} {fd fd1 : FuncData} (F : Fun K "_law_run" "_law_run" sRunL f fd) (T : Txt mg) (C1 : Cal P w K mg base 1 "_law_draw" ["_law_state_here", "_law_many"] spDraw f1 fd1) : FnOk P w K mg base CX0 2 f fd ["_law_state_here", "_law_plan_here"] (spRunL K) := by
  refine F.ok scRunL (fun vs H Q E h => ?_) (fun cdv A outer s H vs Q E hr h => ?_)
  · obtain ⟨st, x, rows, rfl, _⟩ := h
    rfl
  · obtain ⟨st, x, rows, rfl, hst, hN, hlen, hrl, q⟩ := h
    obtain ⟨p, vs, rfl, hS, hvl, hg⟩ := hN.get
    refine ⟨_, pss_one (ps_ret (pe_callTy (cTup (K := K) rfl) (by rfl) T.tuple (by decide +kernel) (pa_cons (pe_lc (own := [("_law_seen", 2)]) (g := gName 2) (tt := tYes) rfl scRunL.nd (pi_tup (pv 1)) (blkOk_by (N := nRunL) (sc := defScope sRunL) (by decide +kernel))
          (fun _ _ _ _ _ => pg_name (i := 2) scRunL.nd rfl (Or.inl rfl)) (fun _ _ _ _ _ => pts_nil) (fun _ _ _ _ _ => pe_c C1 hr (pa_cons (pv 0) (pa_cons (pe_op op_add (pe_callB (cLen (K := K) rfl) (by rfl) T.len PySem.boot_len (pa_cons (pv 2) pa_nil)) pe_int) pa_nil)))) pa_nil))), ?_⟩
    obtain ⟨r0, b0, c0, hst0⟩ := id hst
    refine ⟨_, rfl, p, rfl, ⟨_, hS⟩, fun D hD => ?_⟩
    have hDs : D ≠ st := fun e => by rw [e, hst0] at hD; cases hD
    refine lc_it (walk_tup (xs := vs)) (fun i Hc => But st H Hc ∧ StAt Hc st ∧ ∃ acc : List Nat, Hc D = some (.lst (acc.map iv)) ∧ acc.length = i ∧ ∀ (m g : Nat) (r : List Nat), acc[m]? = some g → rows[m]? = some r → g ≤ r.length)
      ⟨s_but (same_new hD _), ⟨r0, b0, c0, same_new hD _ _ _ hst0⟩, [], upd_same, rfl, fun m g r h => by simp at h⟩ (fun i Hc _ h => ?_) ?_ ?_
    · exact (h.1.ls hst0).seqT hS
    · rintro i x Hc H' hi ⟨b1, st1, acc, hD1, hal, hacc⟩ ⟨rfl, hx⟩
      obtain ⟨r, hr'⟩ := lt_get (l := rows) (i := i) (by omega)
      obtain ⟨qa, hqa, sqa⟩ := hg i r hr'
      have ex : x = .ref qa := Option.some.inj (hx.symm.trans hqa)
      subst ex
      have hl100 := hrl r (List.mem_of_getElem? hr')
      refine ⟨rfl, yes_mk ?_⟩
      refine ⟨_, rfl, _, rfl, qa, _, rfl, .inr ((b1.ls hst0).seqT sqa), _, 1, rfl, rfl, st, r.length + 1, ?_, st1, by omega, by omega, fun d H2 hd b2 st2 => ?_⟩
      · rw [len_iv]
        rfl
      · refine ⟨acc.map iv, b2 _ _ hDs hD1, by rw [len_iv]; exact sz1000' (by omega), ?_⟩
        have bb : But st H (upd H2 D (.lst (acc.map iv ++ [iv d]))) := fun b o nb e => by
          have nD : b ≠ D := ne_of_none e hD
          rw [upd_ne nD]
          exact b2 _ _ nb (b1 _ _ nb e)
        obtain ⟨r2, q2, c2, hst2⟩ := st2
        refine ⟨bb, ⟨r2, q2, c2, (upd_ne (Ne.symm hDs)).trans hst2⟩, acc ++ [d], ?_, by rw [List.length_append, hal]; rfl, fun m g r' hm hr2 => ?_⟩
        · rw [upd_same, List.map_append]
          rfl
        · by_cases hmi : m < acc.length
          · rw [List.getElem?_append_left hmi] at hm
            exact hacc m g r' hm hr2
          · have e : m = acc.length := by
              have := get_lt hm
              rw [List.length_append, List.length_singleton] at this
              omega
            subst e
            rw [List.getElem?_concat_length] at hm
            cases hm
            rw [hal, hr'] at hr2
            cases hr2
            omega
    · rintro Hd ⟨b1, ⟨r1, q1, c1, hst1⟩, acc, hD1, hal, hacc⟩
      refine ⟨D, _, rfl, .inl ⟨lstOf hD1, fun l hl => ?_⟩⟩
      have s2 := same_new hl (.tup (acc.map iv))
      exact q _ acc _ (b1.trans (s_but s2)) ⟨r1, q1, c1, s2 _ _ hst1⟩ ⟨l, rfl, tupOf upd_same⟩ ⟨by rw [hal, hvl], fun m g r hm hr => hacc m g r hm hr⟩

abbrev nDoc : List Str := ["_law_plan_here", "_law_run_here", "_law_order", "_law_lines", "_law_item", "_law_seen", "_law_left", "_law_other_here"]
abbrev sDoc : Stmt := topS 36
theorem scDoc : FnScope nDoc ["_law_plan_here", "_law_run_here"] (defScope sDoc) := ⟨rfl, rfl, rfl, by decide +kernel, rfl, by decide +kernel, by decide +kernel⟩
theorem ok_law_document {f : Addr} {fd : FuncData} (F : Fun K "_law_document" "_law_document" sDoc f fd) (T : Txt mg) : FnOk P w K mg base CX0 1 f fd ["_law_plan_here", "_law_run_here"] (spDoc K) := by
  refine F.ok scDoc (fun vs H Q E h => ?_) (fun cdv A outer s H vs Q E hr h => ?_)
  · obtain ⟨x, y, rows, run, rfl, _⟩ := h
    rfl
  · obtain ⟨x, y, rows, run, rfl, hN, ⟨pr, rfl, hR⟩, hPl, hRun, hlen, q⟩ := h
    obtain ⟨p, vs, rfl, hS, hvl, hg⟩ := hN.get
    refine ⟨_, pss_cons (ps_set (i := 2) scDoc.nd rfl (Or.inl rfl) (pe_lst pa_nil))
      (pss_cons (ps_set (i := 3) scDoc.nd rfl (Or.inl rfl) (pe_lst pa_nil))
      (pss_cons (ps_for PassesOwn.never rfl (pi_range1 (by rfl) T.range (pa_cons (pe_callB (cLen (K := K) rfl) (by rfl) T.len PySem.boot_len (pa_cons (pv 0) pa_nil)) pa_nil)) (pg_name (i := 4) scDoc.nd rfl (Or.inr rfl))
        (pss_cons (ps_setLc (i := 5) (own := [("_law_other_here", 7)]) (g := gName 7) rfl scDoc.nd rfl rfl (sw_true rfl rfl rfl (by decide +kernel)) (pi_list (pv 2)) (blkOk_by (N := nDoc) (sc := defScope sDoc) (by decide +kernel))
            (fun _ _ _ _ _ => pg_name (i := 7) scDoc.nd rfl (Or.inl rfl)) (fun _ _ _ _ _ => pts_one (pt_cmpR (opIn (K := K) rfl) (pv 7) (pe_ix (ixT (K := K) rfl) (pv 0) (pv 4) (fun _ _ => rfl)) (by rfl))) (fun _ _ _ _ _ => pv 7))
        (pss_one (ps_if (pt_cmpR op_eq (pe_ix (ixT (K := K) rfl) (pv 1) (pv 4) (fun _ _ => rfl)) pe_int (nomark _))
          (pss_cons (ps_expr (pe_bm PySem.F.plainAttrs_list PySem.F.slot_list_append PySem.F.type_list_append mt_append (pv 3) (pa_cons (pe_tup (pa_cons (pv 4) pa_nil)) pa_nil)))
          (pss_one (ps_expr (pe_bm PySem.F.plainAttrs_list PySem.F.slot_list_insert PySem.F.type_list_insert mt_insert (pv 2) (pa_cons pe_int (pa_cons (pv 4) pa_nil))))))
          (pss_cons (ps_set (i := 6) scDoc.nd rfl (Or.inl rfl) (pe_ix (ixL (K := K) rfl) (pv 5) (pe_op op_sub (pe_ix (ixT (K := K) rfl) (pv 1) (pv 4) (fun _ _ => rfl)) pe_int) (fun _ _ => rfl)))
          (pss_cons (ps_expr (pe_bm PySem.F.plainAttrs_list PySem.F.slot_list_append PySem.F.type_list_append mt_append (pv 3) (pa_cons (pe_op (catA (K := K) rfl) (pe_ix (ixL (K := K) rfl) (pv 3) (pv 6) (fun _ _ => rfl)) (pe_tup (pa_cons (pv 4) pa_nil))) pa_nil)))
          (pss_one (ps_expr (pe_bm PySem.F.plainAttrs_list PySem.F.slot_list_insert PySem.F.type_list_insert mt_insert (pv 2)
            (pa_cons (pe_op op_add (pe_bm PySem.F.plainAttrs_list PySem.F.slot_list_index PySem.F.type_list_index mt_index (pv 2) (pa_cons (pv 6) pa_nil)) pe_int) (pa_cons (pv 4) pa_nil)))))))))))
      (pss_one (ps_ret (pe_tup (pa_cons (pe_callTy (cTup (K := K) rfl) (by rfl) T.tuple (by decide +kernel) (pa_cons (pv 2) pa_nil)) (pa_cons (pe_callTy (cTup (K := K) rfl) (by rfl) T.tuple (by decide +kernel) (pa_cons (pv 3) pa_nil)) pa_nil))))))), ?_⟩
    refine ⟨Nat.zero_le _, fun lo hlo => ⟨Nat.zero_le _, fun ll hll => ?_⟩⟩
    have s1 := same_new hlo (.lst [])
    have s2 := s1.trans (same_new hll (.lst []))
    have hll0 : H ll = none := s1.free hll
    have hne : lo ≠ ll := fun e => by rw [← e, upd_same] at hll; cases hll
    have hlo2 : (upd (upd H lo (.lst [])) ll (.lst [])) lo = some (.lst []) := (upd_ne hne).trans upd_same
    refine ⟨_, rfl, p, vs, rfl, .inr (s_seqT s2 hS), _, rfl, by omega, by omega, ?_⟩
    rw [Int.toNat_natCast]
    refine for_it walk_up (fun i σ H' => Same H H' ∧ (∃ ord : List Nat, H' lo = some (.lst (ord.map iv)) ∧ ord.Nodup ∧ ∀ x, x ∈ ord ↔ x < i) ∧
      (∃ ns ls, H' ll = some (.lst ns) ∧ Paired (NT K H') ns ls ∧ ls.length = i ∧ Lines ls ∧ ∀ (m : Nat) (l r : List Nat), ls[m]? = some l → rows[m]? = some r → ∀ x ∈ l.dropLast, x ∈ r) ∧
      ∃ z4 z5 z6, σ = [some (.ref p), some (.ref pr), some (.ref lo), some (.ref ll), z4, z5, z6, none])
      ⟨s2, ⟨[], hlo2, List.nodup_nil, by simp⟩, ⟨[], [], upd_same, .nil, rfl, Lines.nil, fun m l r h => by simp at h⟩, none, none, none, rfl⟩ (fun _ _ _ _ _ => True.intro) ?_ ?_
    · rintro i x σ H3 H4 hi ⟨s3, ⟨ord, hlo3, hnd, hmem⟩, ⟨ns, ls, hll3, hns, hlsl, hL, hin⟩, z4, z5, z6, rfl⟩ ⟨rfl, rfl⟩
      obtain ⟨r, hr'⟩ := lt_get (l := rows) (i := i) (by omega)
      obtain ⟨qa, hqa, sqa⟩ := hg i r hr'
      obtain ⟨g, hgi⟩ := lt_get (l := run) (i := i) (by rw [hRun.1]; omega)
      have hgr := hRun.2 i g r hgi hr'
      have hrlt := hPl.lt i r hr'
      have hrnd := nodup_of_asc (hPl.asc i r hr')
      have hordl : ord.length ≤ 40 := by
        have := nodup_lt_len hnd (n := i) fun x hx => (hmem x).mp hx
        omega
      -- seen
      refine ⟨_, rfl, lo, rfl, ⟨_, lstOf hlo3⟩, fun D hD => ?_⟩
      refine lc_filter (xs := ord.map iv) walk_list hD yat (fun Hc s => s.seq (lstOf hlo3)) (fun x => inV x (r.map iv)) (by rw [len_iv]; omega) (by show 7 < 8; decide) (fun m x Hc Qt hx s k => ?_) (fun H5 s5 hD5 => ?_)
      · obtain ⟨n, hn, rfl⟩ := get_map hx
        exact ⟨_, rfl, _, rfl, _, rfl, p, vs, _, .ref qa, rfl, rfl, s_seqT (s3.trans s) hS, at_nat hqa, qa, _, rfl, .inr (s_seqT (s3.trans s) sqa), rfl, flat_ivs _, _, rfl, k _ (Same.refl _)⟩
      · rw [filter_iv] at hD5
        have ef : (ord.filter fun n => inV (iv n) (r.map iv)) = ord.filter fun n => decide (n ∈ r) := List.filter_congr fun n _ => inV_iv n r
        rw [ef] at hD5
        generalize hseen : ord.filter (fun n => decide (n ∈ r)) = seen at hD5
        have hsm : ∀ x, x ∈ seen ↔ x ∈ r := fun x => by
          rw [← hseen, List.mem_filter, decide_eq_true_eq]
          exact ⟨fun h => h.2, fun h => ⟨(hmem x).mpr (hrlt x h), h⟩⟩
        have hsnd : seen.Nodup := by rw [← hseen]; exact hnd.filter _
        have hsl : r.length ≤ seen.length := nodup_len r seen hrnd fun x hx => (hsm x).mpr hx
        have s35 := s3.trans s5
        have hlo5 := s5 _ _ hlo3
        have hll5 := s5 _ _ hll3
        have hns5 : Paired (NT K H5) ns ls := Paired.mapP hns fun _ _ h => h.ls (s_ls s5)
        have hnl : ns.length = i := by rw [Paired.length hns5, hlsl]
        -- the end of a turn
        have fin : ∀ (y : V) (l : List Nat) (k : Nat) (H6 : Hp) (z : Option V), Same H5 H6 → NT K H6 y l → (l = [i] ∨ ∃ (j : Nat) (q : List Nat), j < i ∧ ls[j]? = some q ∧ l = q ++ [i]) → (∀ x ∈ l.dropLast, x ∈ r) →
            (let H8 := upd (upd H6 ll (.lst (ns ++ [y]))) lo (.lst ((ord.map iv).take k ++ [iv i] ++ (ord.map iv).drop k))
            Same H H8 ∧ (∃ ord : List Nat, H8 lo = some (.lst (ord.map iv)) ∧ ord.Nodup ∧ ∀ x, x ∈ ord ↔ x < i + 1) ∧
              (∃ ns ls, H8 ll = some (.lst ns) ∧ Paired (NT K H8) ns ls ∧ ls.length = i + 1 ∧ Lines ls ∧ ∀ (m : Nat) (l r : List Nat), ls[m]? = some l → rows[m]? = some r → ∀ x ∈ l.dropLast, x ∈ r) ∧
              ∃ z4 z5 z6, [some (.ref p), some (.ref pr), some (.ref lo), some (.ref ll), some (iv i), some (.ref D), z, none] = [some (.ref p), some (.ref pr), some (.ref lo), some (.ref ll), z4, z5, z6, (none : Option V)]) := by
          intro y l k H6 z s6 hy hl hsub
          have hp := ins_perm ord k i
          have ls1 : LSame H6 (upd H6 ll (.lst (ns ++ [y]))) := (But.upd H6 _).ls (s6 _ _ hll5)
          have hlo7 : (upd H6 ll (.lst (ns ++ [y]))) lo = some (.lst (ord.map iv)) := (upd_ne hne).trans (s6 _ _ hlo5)
          have ls2 : LSame H6 (upd (upd H6 ll (.lst (ns ++ [y]))) lo (.lst ((ord.map iv).take k ++ [iv i] ++ (ord.map iv).drop k))) := ls1.trans ((But.upd _ _).ls hlo7)
          refine ⟨s_then (s_then (s35.trans s6) hll0 _) hlo _, ⟨ord.take k ++ [i] ++ ord.drop k, ?_, hp.nodup_iff.mpr (List.nodup_cons.mpr ⟨fun h => by have := (hmem i).mp h; omega, hnd⟩), fun x => ?_⟩, ⟨ns ++ [y], ls ++ [l], (upd_ne (Ne.symm hne)).trans upd_same, ?_, by rw [List.length_append, hlsl]; rfl, hL.snoc (by rw [hlsl]; exact hl), fun m l' r2 hm hr2 => ?_⟩, _, _, _, rfl⟩
          · rw [upd_same, List.map_append, List.map_append, List.map_take, List.map_drop]
            rfl
          · rw [hp.mem_iff, List.mem_cons, hmem]
            omega
          · exact paired_app (Paired.mapP hns5 fun _ _ h => h.ls ((s_ls s6).trans ls2)) (.cons (hy.ls ls2) .nil)
          · by_cases hmi : m < ls.length
            · rw [List.getElem?_append_left hmi] at hm
              exact hin m l' r2 hm hr2
            · have e : m = ls.length := by
                have := get_lt hm
                rw [List.length_append, List.length_singleton] at this
                omega
              subst e
              rw [List.getElem?_concat_length] at hm
              cases hm
              rw [hlsl, hr'] at hr2
              cases hr2
              exact hsub
        refine ⟨_, rfl, _, rfl, pr, _, _, iv g, rfl, rfl, s_seqT s35 hR, at_iv hgi, rfl, _, rfl, ?_⟩
        refine ite2 (fun e => ?_) (fun e => ?_)
        · refine ⟨_, rfl, .inl ⟨rfl, _, lstOf hll5⟩, _, rfl, (by show 1 ≤ sizeLine; decide), fun t ht => ?_⟩
          have s6 := same_new ht (.tup [iv i])
          refine ⟨ll, ns, _, rfl, rfl, s6 _ _ hll5, sz1000' (by omega), ?_⟩
          have hlo7 : (upd (upd H5 t (.tup [iv i])) ll (.lst (ns ++ [.ref t]))) lo = some (.lst (ord.map iv)) := (upd_ne hne).trans (s6 _ _ hlo5)
          refine ⟨_, rfl, .inl ⟨rfl, _, lstOf hlo7⟩, _, rfl, lo, _, 0, _, rfl, rfl, hlo7, by rw [len_iv]; exact sz1000' (by omega), by decide, by decide, ?_⟩
          exact fin (.ref t) [i] 0 _ _ s6 ⟨t, rfl, tupOf upd_same⟩ (.inl rfl) (by simp)
        · have g0 : g ≠ 0 := fun z => by
            subst z
            exact e (decide_eq_true rfl)
          obtain ⟨j, hj⟩ := lt_get (l := seen) (i := g - 1) (by omega)
          have hjr : j ∈ r := (hsm j).mp (List.mem_of_getElem? hj)
          have hji := hrlt j hjr
          obtain ⟨l, hl⟩ := lt_get (l := ls) (i := j) (by omega)
          obtain ⟨xl, hxl, t0, rfl, hNT⟩ := paired_get' hns5 hl
          have eg : ((g : Int) - 1) = ((g - 1 : Nat) : Int) := by omega
          obtain ⟨r2, hr2⟩ := lt_get (l := rows) (i := j) (by omega)
          obtain ⟨d, ed, _⟩ := hL.form j l hl
          have hll' := hL.len hl
          refine ⟨_, rfl, _, rfl, _, rfl, pr, _, _, iv g, rfl, rfl, s_seqT s35 hR, at_iv hgi, _, _, rfl, rfl, D, _, _, iv j, rfl, rfl, lstOf hD5, by rw [eg]; exact at_iv hj, ?_⟩
          refine ⟨_, rfl, .inl ⟨rfl, _, lstOf hll5⟩, _, rfl, _, rfl, ll, ns, _, .ref t0, rfl, rfl, lstOf hll5, at_nat hxl, _, rfl, (by show 1 ≤ sizeLine; decide), fun t ht => ?_⟩
          have s6 := same_new ht (.tup [iv i])
          have hlne : l.map iv ≠ [] := fun z => by
            rw [ed] at z
            simp at z
          refine ⟨t0, t, _, _, rfl, rfl, s_seqT s6 hNT, tupOf upd_same, by rw [len_iv]; exact sz1000 (by show l.length + 1 ≤ 100000; omega), fun z => absurd z hlne, fun _ z => (by cases z), fun _ _ t2 ht2 => ?_⟩
          have s7 := s6.trans (same_new ht2 (.tup (l.map iv ++ [iv i])))
          refine ⟨ll, ns, _, rfl, rfl, s7 _ _ hll5, sz1000' (by omega), ?_⟩
          have hlo7 : (upd (upd (upd H5 t (.tup [iv i])) t2 (.tup (l.map iv ++ [iv i]))) ll (.lst (ns ++ [.ref t2]))) lo = some (.lst (ord.map iv)) := (upd_ne hne).trans (s7 _ _ hlo5)
          have hjo : j ∈ ord := (hmem j).mpr hji
          have hix : ord.idxOf j < ord.length := List.idxOf_lt_length_iff.mpr hjo
          have hixe : ord[ord.idxOf j]? = some j := by rw [List.getElem?_eq_getElem hix, List.getElem_idxOf hix]
          refine ⟨_, rfl, .inl ⟨rfl, _, lstOf hlo7⟩, _, rfl, .inl ⟨rfl, _, lstOf hlo7⟩, _, rfl, lo, _, iv j, ord.idxOf j, iv j, rfl, rfl, lstOf hlo7, rfl, flat_ivs _, map_get hixe, (by rw [eqV_iv]; simp), fun m z' hm hz => ?_, ?_⟩
          · obtain ⟨n, hn, rfl⟩ := get_map hz
            rw [eqV_iv]
            refine decide_eq_false fun e => ?_
            subst e
            have h1 := nd_ix hnd hn hixe
            omega
          · refine ⟨_, 1, rfl, rfl, _, rfl, lo, _, _, _, rfl, rfl, hlo7, by rw [len_iv]; exact sz1000' (by omega), by omega, by omega, ?_⟩
            refine fin (.ref t2) (l ++ [i]) _ _ _ s7 ⟨t2, rfl, by rw [List.map_append]; exact tupOf upd_same⟩ (.inr ⟨j, l, hji, hl, rfl⟩) ?_
            rw [List.dropLast_concat]
            intro x hx
            rw [ed, List.mem_append, List.mem_singleton] at hx
            rcases hx with hx | hx
            · refine hPl.tr i r hr' j hjr r2 hr2 x (hin j l r2 hl hr2 x ?_)
              rw [ed, List.dropLast_concat]
              exact hx
            · rw [hx]; exact hjr
    · rintro σ H3 ⟨s3, ⟨ord, hlo3, hnd, hmem⟩, ⟨ns, ls, hll3, hns, hlsl, hL, hin⟩, z4, z5, z6, rfl⟩
      refine ⟨_, rfl, lo, _, rfl, .inl ⟨lstOf hlo3, fun t1 ht1 => ?_⟩⟩
      have s4 := same_new ht1 (.tup (ord.map iv))
      refine ⟨_, rfl, ll, _, rfl, .inl ⟨lstOf (s4 _ _ hll3), fun t2 ht2 => ?_⟩⟩
      have s5 := s4.trans (same_new ht2 (.tup ns))
      refine ⟨(by show 2 ≤ sizeLine; decide), fun t3 ht3 => ?_⟩
      have s6 := s5.trans (same_new ht3 (.tup [.ref t1, .ref t2]))
      refine q t3 _ (.ref t2) ls _ (s3.trans s6) upd_same ⟨t2, ns, rfl, s_seqT (same_new ht3 _) (tupOf upd_same), Paired.mapP hns fun _ _ h => h.ls (s_ls s6)⟩ hL (by rw [hlsl, hvl]) ((hasAll_iff (by rw [hlsl, hvl])).mpr hin)
end
end Pb

namespace Pb
open PySem PySem.Spec PyProof.Rows L2
/-- a method's reading, its written part by name -/
theorem pBm {X : Cx} {K : PySem.W.Frag} {T : String} {r : V → List V → Hp → VK → Prop} {to : TE} {t : TA} {e : Expr} (h : X.K = K) (q : PE X e (tBM X.K T r to t)) : PE X e (tBM K T r to t) := h ▸ q
theorem tx_app (l : List Nat) (c : Nat) : tx l ++ sg c = tx (l ++ [c]) := by
  show (⟨l.toArray ++ #[c]⟩ : Str) = ⟨(l ++ [c]).toArray⟩
  congr 1
  simp
theorem join_sg : ∀ cs : List Nat, PySem.Str.join "" (cs.map sg) = tx cs := by
  intro cs
  apply PySem.W.str_of_cps
  have e := TL.tl_join "" (cs.map sg)
  have j : ∀ cs : List Nat, TL.joinL [] (cs.map fun c => [c]) = cs := fun cs => by
    induction cs with
    | nil => rfl
    | cons c r ih =>
      cases r with
      | nil => rfl
      | cons d r => 
        show [c] ++ ([] ++ TL.joinL [] ((d :: r).map fun c => [c])) = _
        rw [ih]
        rfl
  have e2 : (cs.map sg).map TL.tl = cs.map fun c => [c] := by
    rw [List.map_map]
    rfl
  rw [e2] at e
  have e3 : TL.tl (("" : Str)) = [] := rfl
  rw [e3, j] at e
  exact e
section
variable {P : Program} {w : World} {K : PySem.W.Frag} {mg : Str → Option Value} {base : Heap}
abbrev nLet : List Str := ["_law_state_here", "_law_size", "_law_found", "_law_k", "_law_left"]
abbrev sLet : Stmt := topS 37
theorem scLet : FnScope nLet ["_law_state_here", "_law_size"] (defScope sLet) := ⟨rfl, rfl, rfl, by decide +kernel, rfl, by decide +kernel, by decide +kernel⟩
theorem alpha_text : ("zyxwvutsrqponmlkjihgfedcba" : Str) = tx alpha := by decide +kernel
theorem ok_law_letters {f f1 : Addr} {fd fd1 : FuncData} (F : Fun K "_law_letters" "_law_letters" sLet f fd) (T : Txt mg) (C1 : Cal P w K mg base 1 "_law_draw" ["_law_state_here", "_law_many"] spDraw f1 fd1) : FnOk P w K mg base CX0 2 f fd ["_law_state_here", "_law_size"] spLetters := by
  refine F.ok scLet (fun vs H Q E h => ?_) (fun cdv A outer s H vs Q E hr h => ?_)
  · obtain ⟨st, size, rfl, _⟩ := h
    rfl
  · obtain ⟨st, size, rfl, hst, h1, h26, q⟩ := h
    refine ⟨_, pss_cons (ps_set (i := 2) scLet.nd rfl (Or.inl rfl) pe_str)
      (pss_cons (ps_for PassesOwn.never rfl (pi_range1 (by rfl) T.range (pa_cons pe_int pa_nil)) (pg_name (i := 3) scLet.nd rfl (Or.inl rfl))
        (pss_cons (ps_set (i := 4) scLet.nd rfl (Or.inl rfl) (pe_op op_sub (pv 1) (pe_callB call_len_str (by rfl) T.len PySem.boot_len (pa_cons (pv 2) pa_nil))))
        (pss_one (ps_if (PW.pt (pw_and (pt_cmpR op_gt (pv 4) pe_int (nomark _)) (pw_and1 (PW.pt (pw_or (pt_cmpR op_le (pe_op op_sub pe_int (pv 3)) (pv 4) (nomark _)) (pw_or1 (pt_cmpR op_eq (pe_c C1 hr (pa_cons (pv 0) (pa_cons pe_int pa_nil))) pe_int (nomark _))))))))
          (pss_one (ps_set (i := 2) scLet.nd rfl (Or.inl rfl) (pe_op op_add_str (pv 2) (pe_ix ix_str pe_str (pv 3) (fun _ _ => rfl))))) pss_nil))))
      (pss_one (ps_ret (pv 2)))), ?_⟩
    refine ⟨26, rfl, by decide, by decide, ?_⟩
    show ∃ W : Nat → Nat → L2.St → Hp → Prop, _
    refine for_it (n := 26) walk_up (fun i σ H' => But st H H' ∧ StAt H' st ∧ ∃ (L : List Nat) (z3 z4 : Option V), σ = [some (.ref st), some (iv size), some (.str (tx L)), z3, z4] ∧ L.Pairwise (· > ·) ∧ (∀ c ∈ L, 123 - i ≤ c ∧ c ≤ 122) ∧ L.length ≤ size ∧ size + i ≤ L.length + 26 ∧ L.length ≤ i)
      ⟨But.refl _, hst, [], none, none, rfl, List.Pairwise.nil, by simp, Nat.zero_le _, by simp; omega, Nat.le_refl _⟩ (fun _ _ _ _ _ => True.intro) ?_ ?_
    · rintro i x σ H1 H2 hi ⟨b1, st1, L, z3, z4, rfl, hdec, hrg, hsz, hle, hli⟩ ⟨rfl, rfl⟩
      have hszl : (tx L).length ≤ sizeLine := by rw [tx_len]; exact sz1000 (by omega)
      refine ⟨_, rfl, _, rfl, tx L, rfl, hszl, _, _, rfl, rfl, ?_⟩
      rw [tx_len]
      -- what both ways need
      have skip : ∀ H3, But st H H3 → StAt H3 st → (L.length < size → size + (i + 1) ≤ L.length + 26) → ∃ (L' : List Nat) (z3 z4 : Option V), ([some (.ref st), some (iv size), some (.str (tx L)), some (iv i), some (.int ((size : Int) - (L.length : Int)))] : L2.St) = [some (.ref st), some (iv size), some (.str (tx L')), z3, z4] ∧ L'.Pairwise (· > ·) ∧ (∀ c ∈ L', 123 - (i + 1) ≤ c ∧ c ≤ 122) ∧ L'.length ≤ size ∧ size + (i + 1) ≤ L'.length + 26 ∧ L'.length ≤ i + 1 := fun H3 _ _ hh =>
        ⟨L, _, _, rfl, hdec, fun c hc => ⟨by have := (hrg c hc).1; omega, (hrg c hc).2⟩, hsz, by
          rcases Nat.lt_or_ge L.length size with c | c
          · exact hh c
          · omega, by omega⟩
      have take : ∀ H3, But st H H3 → StAt H3 st → L.length < size → tAsg (tOp (fun x y H Q => ∃ i j, x = V.str i ∧ y = V.str j ∧ i.length + j.length ≤ sizeLine ∧ Q (.str (i ++ j)) H) (tVar 2) (tOp rIxS (tC (.str "zyxwvutsrqponmlkjihgfedcba")) (tVar 3))) (gName 2)
          { nx := fun σ H' => But st H H' ∧ StAt H' st ∧ ∃ (L : List Nat) (z3 z4 : Option V), σ = [some (.ref st), some (iv size), some (.str (tx L)), z3, z4] ∧ L.Pairwise (· > ·) ∧ (∀ c ∈ L, 123 - (i + 1) ≤ c ∧ c ≤ 122) ∧ L.length ≤ size ∧ size + (i + 1) ≤ L.length + 26 ∧ L.length ≤ i + 1, rt := fun _ _ => True }
          [some (.ref st), some (iv size), some (.str (tx L)), some (iv i), some (.int ((size : Int) - (L.length : Int)))] H3 := fun H3 b3 st3 hlt => by
        have hc : alpha[i]? = some (122 - i) := by
          unfold alpha
          rw [List.getElem?_map, List.getElem?_range hi]
          rfl
        refine ⟨_, rfl, _, rfl, _, _, 122 - i, rfl, rfl, by rw [alpha_text, tx_len, alpha_len]; decide, by rw [alpha_text, tx_list]; exact atI_nat hc, tx L, sg (122 - i), rfl, rfl, by rw [tx_len]; exact sz1000 (by show L.length + 1 ≤ 100000; omega), ?_⟩
        rw [tx_app]
        refine ⟨b3, st3, L ++ [122 - i], _, _, rfl, ?_, fun c hc => ?_, by rw [List.length_append, List.length_singleton]; omega, by rw [List.length_append, List.length_singleton]; omega, by rw [List.length_append, List.length_singleton]; omega⟩
        · rw [List.pairwise_append]
          refine ⟨hdec, List.pairwise_singleton _ _, fun a ha b hb => ?_⟩
          rw [List.mem_singleton] at hb
          have := (hrg a ha).1
          omega
        · rcases List.mem_append.mp hc with hc | hc
          · have := hrg c hc
            omega
          · rw [List.mem_singleton] at hc
            omega
      refine ⟨_, rfl, _, _, rfl, rfl, _, rfl, ?_⟩
      by_cases h0 : L.length < size
      · have e0 : decide ((size : Int) - (L.length : Int) > 0) = true := decide_eq_true (by omega)
        rw [e0]
        refine iteT ?_
        refine ⟨_, rfl, _, _, rfl, rfl, _, rfl, _, _, rfl, rfl, _, rfl, ?_⟩
        refine ite2 (fun _ => iteT (take _ b1 st1 h0)) (fun e => ?_)
        have hnle : ¬ (26 - (i : Int)) ≤ (size : Int) - (L.length : Int) := fun z => e (decide_eq_true z)
        refine ⟨_, rfl, st, 2, rfl, st1, by decide, by decide, fun d H3 hd b3 st3 => ?_⟩
        refine ⟨rfl, _, rfl, ?_⟩
        refine ite2 (fun _ => take _ (b1.trans b3) st3 h0) (fun _ => ⟨b1.trans b3, st3, skip _ (b1.trans b3) st3 fun _ => by omega⟩)
      · have e0 : decide ((size : Int) - (L.length : Int) > 0) = false := decide_eq_false (by omega)
        rw [e0]
        refine iteF (iteF ?_)
        exact ⟨b1, st1, skip _ b1 st1 fun z => absurd z h0⟩
    · rintro σ H1 ⟨b1, st1, L, z3, z4, rfl, hdec, hrg, hsz, hle, hli⟩
      exact ⟨_, rfl, q L _ b1 st1 ⟨hdec, fun c hc => by have := hrg c hc; omega⟩ (by omega)⟩

abbrev nSpell : List Str := ["_law_line", "_law_letters_here", "_law_item"]
abbrev sSpell : Stmt := topS 38
theorem scSpell : FnScope nSpell ["_law_line", "_law_letters_here"] (defScope sSpell) := ⟨rfl, rfl, rfl, by decide +kernel, rfl, by decide +kernel, by decide +kernel⟩
theorem ok_law_spelled {f : Addr} {fd : FuncData} (F : Fun K "_law_spelled" "_law_spelled" sSpell f fd) (T : Txt mg) : FnOk P w K mg base CX0 1 f fd ["_law_line", "_law_letters_here"] (spSpelled K) := by
  refine F.ok scSpell (fun vs H Q E h => ?_) (fun cdv A outer s H vs Q E hr h => ?_)
  · obtain ⟨x, l, L, rfl, _⟩ := h
    rfl
  · obtain ⟨x, l, L, rfl, ⟨p, rfl, hS⟩, hlt, hll, hLl, q⟩ := h
    refine ⟨_, pss_one (ps_ret (pe_join pe_str (pe_lc (own := [("_law_item", 2)]) (g := gName 2) (tt := tYes) rfl scSpell.nd (pi_tup (pv 0)) (blkOk_by (N := nSpell) (sc := defScope sSpell) (by decide +kernel))
          (fun _ _ _ _ _ => pg_name (i := 2) scSpell.nd rfl (Or.inl rfl)) (fun _ _ _ _ _ => pts_nil) (fun _ _ _ _ _ => pe_ix ix_str (pv 1) (pv 2) (fun _ _ => rfl))))), ?_⟩
    refine ⟨⟨_, rfl⟩, _, rfl, p, rfl, ⟨_, hS⟩, fun D hD => ?_⟩
    refine lc_map walk_tup hD (fun i x => (l.map iv)[i]? = some x) (fun i H x H' y => y) (fun Hc s => s_seqT s hS) (fun i y H => ∃ c, (wdL L l)[i]? = some c ∧ y = .str (sg c)) (fun _ _ _ _ _ h => h) (by rw [len_iv]; omega) (fun i x Hc Qt hi s yv k => ?_) (fun Hd ys s hD' hl hE => ?_)
    · obtain ⟨m, hm, rfl⟩ := get_map yv
      have hml := hlt m (List.mem_of_getElem? hm)
      have hc : (tx L).cps.toList[m]? = some (L.getD m 0) := by rw [tx_list, getD_of (List.getElem?_eq_getElem hml)]; exact List.getElem?_eq_getElem hml
      refine ⟨_, rfl, _, rfl, tx L, _, L.getD m 0, rfl, rfl, by rw [tx_len]; exact sz1000 (by omega), atI_nat hc, k _ _ (Same.refl _) ⟨L.getD m 0, map_get hm, rfl⟩⟩
    · have ey : ys = (wdL L l).map fun c => V.str (sg c) := ext_of (by rw [hl, len_iv, wdL_len]) hE
      have ey2 : ys = ((wdL L l).map sg).map V.str := by rw [ey, List.map_map]; rfl
      refine ⟨_, D, (wdL L l).map sg, rfl, rfl, .inl (by rw [← ey2]; exact lstOf hD'), ?_, ?_⟩
      · have e1 : (((wdL L l).map sg).map (·.length)) = List.replicate l.length 1 := by
          rw [List.map_map]
          refine List.eq_replicate_iff.mpr ⟨by rw [List.length_map, wdL_len], fun b hb => ?_⟩
          obtain ⟨c, _, rfl⟩ := List.mem_map.mp hb
          rfl
        rw [e1, List.sum_replicate_nat, List.length_map, wdL_len]
        have : ("" : Str).length = 0 := rfl
        rw [this]
        omega
      · have h2 := q _ s
        rw [show wd L l = tx (wdL L l) from rfl, ← join_sg, ← TL.join_eq] at h2
        exact h2

abbrev nMix : List Str := ["_law_state_here", "_law_things", "_law_found", "_law_thing"]
abbrev sMix : Stmt := topS 39
theorem scMix : FnScope nMix ["_law_state_here", "_law_things"] (defScope sMix) := ⟨rfl, rfl, rfl, by decide +kernel, rfl, by decide +kernel, by decide +kernel⟩
theorem ok_law_mixed {f f1 : Addr} {fd fd1 : FuncData} (F : Fun K "_law_mixed" "_law_mixed" sMix f fd) (T : Txt mg) (C1 : Cal P w K mg base 1 "_law_draw" ["_law_state_here", "_law_many"] spDraw f1 fd1) : FnOk P w K mg base CX0 2 f fd ["_law_state_here", "_law_things"] (spMixed K) := by
  refine F.ok scMix (fun vs H Q E h => ?_) (fun cdv A outer s H vs Q E hr h => ?_)
  · obtain ⟨st, a, xs, rfl, _⟩ := h
    rfl
  · obtain ⟨st, a, xs, rfl, hst, ha, hne, hlen, q⟩ := h
    refine ⟨_, pss_cons (ps_set (i := 2) scMix.nd rfl (Or.inl rfl) (pe_lst pa_nil))
      (pss_cons (ps_for PassesOwn.never rfl (pi_list (pv 1)) (pg_name (i := 3) scMix.nd rfl (Or.inl rfl))
        (pss_one (ps_expr (pe_bm PySem.F.plainAttrs_list PySem.F.slot_list_insert PySem.F.type_list_insert mt_insert (pv 2) (pa_cons (pe_c C1 hr (pa_cons (pv 0) (pa_cons (pe_op op_add (pe_callB call_len_seq (by rfl) T.len PySem.boot_len (pa_cons (pv 2) pa_nil)) pe_int) pa_nil))) (pa_cons (pv 3) pa_nil))))))
      (pss_one (ps_ret (pv 2)))), ?_⟩
    obtain ⟨r0, b0, c0, hst0⟩ := id hst
    refine ⟨Nat.zero_le _, fun o ho => ?_⟩
    have s1 := same_new ho (.lst [])
    have hos : o ≠ st := fun e => by rw [e, hst0] at ho; cases ho
    have hoa : a ≠ o := ne_of_none ha ho
    refine ⟨_, rfl, a, rfl, ⟨_, lstOf (s1 _ _ ha)⟩, ?_⟩
    refine for_it (walk_list (xs := xs)) (fun i σ H' => But st H H' ∧ StAt H' st ∧ H' a = some (.lst xs) ∧ ∃ (acc : List V) (z : Option V), σ = [some (.ref st), some (.ref a), some (.ref o), z] ∧ H' o = some (.lst acc) ∧ acc.Perm (xs.take i))
      ⟨s_but s1, ⟨r0, b0, c0, s1 _ _ hst0⟩, s1 _ _ ha, [], none, rfl, upd_same, List.Perm.refl _⟩ (fun i σ H' _ h => lstOf h.2.2.1) ?_ ?_
    · rintro i x σ H1 H2 hi ⟨b1, st1, ha1, acc, z, rfl, ho1, hp⟩ ⟨rfl, hx⟩
      have hal : acc.length = i := by rw [hp.length_eq, List.length_take]; omega
      refine ⟨_, rfl, .inl ⟨rfl, _, lstOf ho1⟩, _, rfl, _, rfl, o, acc, rfl, .inl (lstOf ho1), _, 1, rfl, rfl, st, acc.length + 1, rfl, st1, by omega, by omega, fun d H3 hd b3 st3 => ?_⟩
      have ho3 := b3 _ _ hos ho1
      refine ⟨_, rfl, o, acc, _, x, rfl, rfl, ho3, sz1000' (by omega), by omega, by omega, ?_⟩
      rw [Int.toNat_natCast]
      obtain ⟨r3, q3, c3, hst3⟩ := st3
      refine ⟨fun b u nb e => ?_, ⟨r3, q3, c3, (upd_ne (Ne.symm hos)).trans hst3⟩, (upd_ne hoa).trans (b3 _ _ hne ha1), _, _, rfl, upd_same, ?_⟩
      · have nD : b ≠ o := ne_of_none e ho
        rw [upd_ne nD]
        exact b3 _ _ nb (b1 _ _ nb e)
      · refine (ins_perm acc d x).trans ?_
        have hx' : xs[i]? = some x := hx
        rw [List.take_add_one, hx']
        exact ((List.Perm.cons x hp).trans (List.perm_append_singleton x (xs.take i)).symm)
    · rintro σ H1 ⟨b1, st1, ha1, acc, z, rfl, ho1, hp⟩
      rw [List.take_length] at hp
      exact ⟨_, rfl, q o acc _ b1 st1 ho ho1 hp⟩

abbrev nAll : List Str := ["_law_plan_here", "_law_least", "_law_item", "_law_other_here"]
abbrev sAll : Stmt := topS 43
theorem scAll : FnScope nAll ["_law_plan_here", "_law_least"] (defScope sAll) := ⟨rfl, rfl, rfl, by decide +kernel, rfl, by decide +kernel, by decide +kernel⟩
theorem ok_law_has_all {f : Addr} {fd : FuncData} (F : Fun K "_law_has_all" "_law_has_all" sAll f fd) (T : Txt mg) : FnOk P w K mg base CX0 1 f fd ["_law_plan_here", "_law_least"] (spHasAll K) := by
  refine F.ok scAll (fun vs H Q E h => ?_) (fun cdv A outer s H vs Q E hr h => ?_)
  · obtain ⟨x, y, rows, ls, rfl, _⟩ := h
    rfl
  · obtain ⟨x, y, rows, ls, rfl, hN, hM, hll, hlen, hsm, q⟩ := h
    obtain ⟨p, vs, rfl, hS, hvl, hg⟩ := hN.get
    obtain ⟨p2, vs2, rfl, hS2, hvl2, hg2⟩ := hM.get
    refine ⟨_, pss_cons (ps_for PassesOwn.never rfl (pi_range1 (by rfl) T.range (pa_cons (pe_callB (cLen (K := K) rfl) (by rfl) T.len PySem.boot_len (pa_cons (pv 0) pa_nil)) pa_nil)) (pg_name (i := 2) scAll.nd rfl (Or.inr rfl))
        (pss_one (ps_if (pt_cmpR op_gt (pe_callB (cLen (K := K) rfl) (by rfl) T.len PySem.boot_len (pa_cons (pe_lc (own := [("_law_other_here", 3)]) (g := gName 3) rfl scAll.nd (pi_tup (pe_ix (ixT (K := K) rfl) (pv 1) (pv 2) (fun _ _ => rfl))) (blkOk_by (N := nAll) (sc := defScope sAll) (by decide +kernel))
            (fun _ _ _ _ _ => pg_name (i := 3) scAll.nd rfl (Or.inl rfl)) (fun _ _ _ _ _ => pts_one (pt_cmpR (opNi (K := K) rfl) (pv 3) (pe_ix (ixT (K := K) rfl) (pv 0) (pv 2) (fun _ _ => rfl)) (by rfl))) (fun _ _ _ _ _ => pv 3)) pa_nil)) pe_int (nomark _)) (pss_one (ps_ret pe_bl)) pss_nil)))
      (pss_one (ps_ret pe_bl)), ?_⟩
    refine ⟨_, rfl, p, vs, rfl, .inr hS, _, rfl, by omega, by omega, ?_⟩
    rw [Int.toNat_natCast]
    refine for_it walk_up (fun i σ H' => Same H H' ∧ (∀ j, j < i → (ls.getD j []).all (fun o => decide (o ∈ rows.getD j [])) = true) ∧ ∃ z, σ = [some (.ref p), some (.ref p2), z, none]) ⟨Same.refl _, fun j h => absurd h (Nat.not_lt_zero _), none, rfl⟩ (fun _ _ _ _ _ => True.intro) ?_ ?_
    · rintro i x σ H1 H2 hi ⟨s1, hj, z, rfl⟩ ⟨rfl, rfl⟩
      obtain ⟨r, hr'⟩ := lt_get (l := rows) (i := i) (by omega)
      obtain ⟨qa, hqa, sqa⟩ := hg i r hr'
      obtain ⟨l, hl⟩ := lt_get (l := ls) (i := i) (by omega)
      obtain ⟨qb, hqb, sqb⟩ := hg2 i l hl
      refine ⟨_, rfl, _, rfl, p2, vs2, _, .ref qb, rfl, rfl, s_seqT s1 hS2, at_nat hqb, qb, rfl, ⟨_, s_seqT s1 sqb⟩, fun D hD => ?_⟩
      refine lc_filter (xs := l.map iv) walk_tup hD yat (fun Hc s => s_seqT (s1.trans s) sqb) (fun x => !inV x (r.map iv)) (by have := hsm l (List.mem_of_getElem? hl); rw [len_iv]; omega) (by show 3 < 4; decide) (fun m x Hc Qt hx s k => ?_) (fun H3 s3 hD3 => ?_)
      · obtain ⟨n, hn, rfl⟩ := get_map hx
        exact ⟨_, rfl, _, rfl, _, rfl, p, vs, _, .ref qa, rfl, rfl, s_seqT (s1.trans s) hS, at_nat hqa, qa, _, rfl, .inr (s_seqT (s1.trans s) sqa), rfl, flat_ivs _, _, rfl, k _ (Same.refl _)⟩
      · rw [filter_iv] at hD3
        have ef : (l.filter fun n => !inV (iv n) (r.map iv)) = l.filter fun n => decide (n ∉ r) := List.filter_congr fun n _ => by
          rw [inV_iv]
          simp
        rw [ef] at hD3
        refine ⟨D, _, rfl, .inl (lstOf hD3), _, _, rfl, rfl, _, rfl, ?_⟩
        rw [len_iv]
        refine ite2 (fun e => ?_) (fun e => ?_)
        · have hpos : 0 < (l.filter fun n => decide (n ∉ r)).length := by
            have : ((l.filter fun n => decide (n ∉ r)).length : Int) > 0 := of_decide_eq_true e
            omega
          obtain ⟨n, hn⟩ := List.exists_mem_of_length_pos hpos
          rw [List.mem_filter, decide_eq_true_eq] at hn
          have hf : hasAll rows ls = false := by
            rw [Bool.eq_false_iff]
            intro h
            unfold hasAll at h
            rw [List.all_eq_true] at h
            have h2 := h i (List.mem_range.mpr (by omega))
            rw [List.all_eq_true, getD_of hl, getD_of hr'] at h2
            exact hn.2 (of_decide_eq_true (h2 n hn.1))
          have := q _ (s1.trans s3)
          rw [hf] at this
          exact this
        · refine ⟨s1.trans s3, fun j hjl => ?_, _, rfl⟩
          by_cases hji : j < i
          · exact hj j hji
          · have ej : j = i := by omega
            subst ej
            rw [getD_of hl, getD_of hr', List.all_eq_true]
            intro n hn
            by_cases hnr : n ∈ r
            · exact decide_eq_true hnr
            · exfalso
              apply e
              refine decide_eq_true ?_
              have : 0 < (l.filter fun n => decide (n ∉ r)).length := List.length_pos_of_mem (List.mem_filter.mpr ⟨hn, decide_eq_true hnr⟩)
              show ((l.filter fun n => decide (n ∉ r)).length : Int) > 0
              omega
    · rintro σ H1 ⟨s1, hj, z, rfl⟩
      have ht : hasAll rows ls = true := by
        unfold hasAll
        rw [List.all_eq_true]
        intro j hjm
        exact hj j (by rw [hvl]; exact List.mem_range.mp hjm)
      have := q _ s1
      rw [ht] at this
      exact this

abbrev nGD : List Str := ["_law_seen", "_law_order", "_law_item", "_law_other_here"]
abbrev sGD : Stmt := topS 44
theorem scGD : FnScope nGD ["_law_seen", "_law_order", "_law_item"] (defScope sGD) := ⟨rfl, rfl, rfl, by decide +kernel, rfl, by decide +kernel, by decide +kernel⟩
theorem idx_le : ∀ {l : List Nat} {m n : Nat}, l[m]? = some n → l.idxOf n ≤ m
  | [], _, _, h => by simp at h
  | a :: l, m, n, h => by
    rw [List.idxOf_cons]
    by_cases e : a = n
    · subst e
      simp
    · have e' : (a == n) = false := by simpa using e
      rw [e']
      cases m with
      | zero => simp at h; exact absurd h e
      | succ m =>
        have := idx_le (l := l) (m := m) (n := n) (by simpa using h)
        simp
        exact this
theorem idx_pre {order : List Nat} {j : Nat} (hj : j ∈ order) : (order.map iv)[order.idxOf j]? = some (iv j) ∧ eqV (iv j) (iv j) = true ∧ ∀ (m : Nat) (z' : V), m < order.idxOf j → (order.map iv)[m]? = some z' → eqV z' (iv j) = false := by
  have hix : order.idxOf j < order.length := List.idxOf_lt_length_iff.mpr hj
  have hixe : order[order.idxOf j]? = some j := by rw [List.getElem?_eq_getElem hix, List.getElem_idxOf hix]
  refine ⟨map_get hixe, (by rw [eqV_iv]; simp), fun m z' hm hz => ?_⟩
  obtain ⟨n, hn, rfl⟩ := get_map hz
  rw [eqV_iv]
  refine decide_eq_false fun e => ?_
  subst e
  have := idx_le hn
  omega
theorem ok_law_gap_due {f : Addr} {fd : FuncData} (F : Fun K "_law_gap_due" "_law_gap_due" sGD f fd) (T : Txt mg) : FnOk P w K mg base CX0 1 f fd ["_law_seen", "_law_order", "_law_item"] (spGapDue K) := by
  refine F.ok scGD (fun vs H Q E h => ?_) (fun cdv A outer s H vs Q E hr h => ?_)
  · obtain ⟨x, o, seen, order, i, rfl, _⟩ := h
    rfl
  · obtain ⟨x, o, seen, order, i, rfl, ⟨p, rfl, hS⟩, hO, hin, hi, hlen, q⟩ := h
    refine ⟨_, pss_one (ps_ret (pe_callB (cLen (K := K) rfl) (by rfl) T.len PySem.boot_len (pa_cons (pe_lc (own := [("_law_other_here", 3)]) (g := gName 3) rfl scGD.nd (pi_tup (pv 0)) (blkOk_by (N := nGD) (sc := defScope sGD) (by decide +kernel))
          (fun _ _ _ _ _ => pg_name (i := 3) scGD.nd rfl (Or.inl rfl))
          (fun _ _ _ _ _ => pts_one (pt_cmpR op_lt (pBm (K := K) rfl (pe_bm PySem.F.plainAttrs_list PySem.F.slot_list_index PySem.F.type_list_index (mtIndex (K := K) rfl) (pv 1) (pa_cons (pv 3) pa_nil))) (pBm (K := K) rfl (pe_bm PySem.F.plainAttrs_list PySem.F.slot_list_index PySem.F.type_list_index (mtIndex (K := K) rfl) (pv 1) (pa_cons (pv 2) pa_nil))) (nomark _)))
          (fun _ _ _ _ _ => pv 3)) pa_nil))), ?_⟩
    refine ⟨_, rfl, p, rfl, ⟨_, hS⟩, fun D hD => ?_⟩
    refine lc_filter (xs := seen.map iv) walk_tup hD yat (fun Hc s => s_seqT s hS) (fun x => match x with | .int n => decide (order.idxOf n.toNat < order.idxOf i) | _ => false) (by rw [len_iv]; omega) (by show 3 < 4; decide) (fun m x Hc Qt hx s k => ?_) (fun H3 s3 hD3 => ?_)
    · obtain ⟨n, hn, rfl⟩ := get_map hx
      have hno := hin n (List.mem_of_getElem? hn)
      have hO' := s.seq hO
      refine ⟨_, rfl, .inl ⟨rfl, _, hO'⟩, _, rfl, ?_⟩
      obtain ⟨g1, g2, g3⟩ := idx_pre hno
      obtain ⟨j1, j2, j3⟩ := idx_pre hi
      refine ⟨o, _, iv n, order.idxOf n, iv n, rfl, rfl, hO', rfl, flat_ivs _, g1, g2, g3, ?_⟩
      refine ⟨_, rfl, .inl ⟨rfl, _, hO'⟩, _, rfl, ?_⟩
      refine ⟨o, _, iv i, order.idxOf i, iv i, rfl, rfl, hO', rfl, flat_ivs _, j1, j2, j3, ?_⟩
      refine ⟨_, _, rfl, rfl, _, rfl, ?_⟩
      have e : decide (((order.idxOf n : Nat) : Int) < ((order.idxOf i : Nat) : Int)) = decide (order.idxOf ((n : Int).toNat) < order.idxOf i) := by
        rw [Int.toNat_natCast]
        exact decide_eq_decide.mpr (by omega)
      rw [e]
      exact k _ (Same.refl _)
    · rw [filter_iv] at hD3
      refine ⟨D, _, rfl, .inl (lstOf hD3), ?_⟩
      rw [len_iv]
      exact q _ s3
end
end Pb

namespace Pb
open PySem PySem.Spec PyProof.Rows L2
theorem Alike.ls {K : PySem.W.Frag} {H H' : Hp} (s : LSame H H') : ∀ {d : Nat} {x y : V}, Alike K H d x y → Alike K H' d x y
  | 0, _, _, h => h
  | d + 1, _, _, ⟨p, q, xs, ys, e1, e2, h1, h2, h3, h4⟩ => ⟨p, q, xs, ys, e1, e2, s.seqT h1, s.seqT h2, Paired.mapP h3 fun _ _ h => Alike.ls s h, h4⟩
section
variable {P : Program} {w : World} {K : PySem.W.Frag} {mg : Str → Option Value} {base : Heap}
abbrev nAlike : List Str := ["_law_told", "_law_due", "_law_k"]
abbrev sAlike : Stmt := topS 40
theorem scAlike : FnScope nAlike ["_law_told", "_law_due"] (defScope sAlike) := ⟨rfl, rfl, rfl, by decide +kernel, rfl, by decide +kernel, by decide +kernel⟩
theorem alike_step {n : Nat} {f : Addr} {fd : FuncData} (F : Fun K "_law_alike" "_law_alike" sAlike f fd) (T : Txt mg) (C1 : Cal P w K mg base n "_law_alike" ["_law_told", "_law_due"] (spAlike K n) f fd) : FnOk P w K mg base CX0 (n + 1) f fd ["_law_told", "_law_due"] (spAlike K (n + 1)) := by
  refine F.ok scAlike (fun vs H Q E h => ?_) (fun cdv A outer s H vs Q E hr h => ?_)
  · obtain ⟨d, x, y, rfl, _⟩ := h
    rfl
  · obtain ⟨d, x, y, rfl, hd, hA, q⟩ := h
    refine ⟨_, pss_cons (ps_if (pt_cmpR op_isN (pv 1) pe_non (nomark _)) (pss_one (ps_ret (pe_cmp (pc_isN (pv 0)) rfl))) pss_nil)
      (pss_cons (ps_if (pt_val (pe_callB call_isi (by rfl) T.isinstance (by decide +kernel) (pa_cons (pv 1) (pa_cons (pe_bltn (v := .ty "bool") (by rfl) T.bool (by decide +kernel) rfl) pa_nil)))) pss_never pss_nil)
      (pss_cons (ps_if (pt_val (pe_callB call_isi (by rfl) T.isinstance (by decide +kernel) (pa_cons (pv 1) (pa_cons (pe_bltn (v := .ty "str") (by rfl) T.str (by decide +kernel) rfl) pa_nil)))) pss_never pss_nil)
      (pss_cons (ps_if (pt_val (pe_callB call_isi (by rfl) T.isinstance (by decide +kernel) (pa_cons (pv 1) (pa_cons (pe_bltn (v := .ty "int") (by rfl) T.int (by decide +kernel) rfl) pa_nil))))
          (pss_one (ps_ret (pe_and (pe_callB call_isi (by rfl) T.isinstance (by decide +kernel) (pa_cons (pv 0) (pa_cons (pe_bltn (v := .ty "int") (by rfl) T.int (by decide +kernel) rfl) pa_nil)))
            (pe_and (pe_not (pe_callB call_isi (by rfl) T.isinstance (by decide +kernel) (pa_cons (pv 0) (pa_cons (pe_bltn (v := .ty "bool") (by rfl) T.bool (by decide +kernel) rfl) pa_nil)))) (pe_one (pe_cmpR op_eq (pv 0) (pv 1) (nomark _))))))) pss_nil)
      (pss_cons (ps_if (PW.pt (pw_or (pt_cmpR op_ne (pe_callB call_isi (by rfl) T.isinstance (by decide +kernel) (pa_cons (pv 1) (pa_cons (pe_bltn (v := .ty "tuple") (by rfl) T.tuple (by decide +kernel) rfl) pa_nil))) (pe_callB call_isi (by rfl) T.isinstance (by decide +kernel) (pa_cons (pv 0) (pa_cons (pe_bltn (v := .ty "tuple") (by rfl) T.tuple (by decide +kernel) rfl) pa_nil))) (nomark _))
          (pw_or1 (pt_cmpR op_ne (pe_callB call_isi (by rfl) T.isinstance (by decide +kernel) (pa_cons (pv 1) (pa_cons (pe_bltn (v := .ty "list") (by rfl) T.list (by decide +kernel) rfl) pa_nil))) (pe_callB call_isi (by rfl) T.isinstance (by decide +kernel) (pa_cons (pv 0) (pa_cons (pe_bltn (v := .ty "list") (by rfl) T.list (by decide +kernel) rfl) pa_nil))) (nomark _))))) pss_never pss_nil)
      (pss_cons (ps_if (pt_cmpR op_ne (pe_callB (cLen (K := K) rfl) (by rfl) T.len PySem.boot_len (pa_cons (pv 0) pa_nil)) (pe_callB (cLen (K := K) rfl) (by rfl) T.len PySem.boot_len (pa_cons (pv 1) pa_nil)) (nomark _)) pss_never pss_nil)
      (pss_one (ps_ret (pe_callB (cAll (K := K) rfl rfl) (by rfl) T.all (by decide +kernel) (pa_cons (pe_lc (own := [("_law_k", 2)]) (g := gName 2) (tt := tYes) rfl scAlike.nd (pi_range1 (by rfl) T.range (pa_cons (pe_callB (cLen (K := K) rfl) (by rfl) T.len PySem.boot_len (pa_cons (pv 1) pa_nil)) pa_nil)) (blkOk_by (N := nAlike) (sc := defScope sAlike) (by decide +kernel))
          (fun _ _ _ _ _ => pg_name (i := 2) scAlike.nd rfl (Or.inl rfl)) (fun _ _ _ _ _ => pts_nil)
          (fun _ _ _ _ _ => pe_c C1 hr (pa_cons (pe_ix (ixT (K := K) rfl) (pv 0) (pv 2) (fun _ _ => rfl)) (pa_cons (pe_ix (ixT (K := K) rfl) (pv 1) (pv 2) (fun _ _ => rfl)) pa_nil)))) pa_nil))))))))), ?_⟩
    cases d with
    | zero =>
      obtain ⟨m, rfl, rfl⟩ := hA
      refine ⟨_, rfl, rfl, _, rfl, ?_⟩
      rw [show decide (V.int m = V.non) = false from rfl]
      refine iteF ?_
      refine ⟨_, rfl, _, _, _, _, false, rfl, .ty _, .base (.int m), kit_ty kb_ib, false, rfl, iteF ?_⟩
      refine ⟨_, rfl, _, _, _, _, false, rfl, .ty _, .base (.int m), kit_ty kb_is, false, rfl, iteF ?_⟩
      refine ⟨_, rfl, _, _, _, _, true, rfl, .ty _, .base (.int m), kit_ty kb_ii, true, rfl, iteT ?_⟩
      refine ⟨_, rfl, _, _, _, _, true, rfl, .ty _, .base (.int m), kit_ty kb_ii, true, rfl, iteT ?_⟩
      refine ⟨_, rfl, _, _, _, _, false, rfl, .ty _, .base (.int m), kit_ty kb_ib, false, rfl, true, rfl, iteT ?_⟩
      refine ⟨_, rfl, _, rfl, rfl, ?_⟩
      show Q (.bl (decide (V.int m = V.int m))) H
      rw [decide_eq_true rfl]
      exact q _ (Same.refl _)
    | succ d =>
      obtain ⟨p, p2, xs, ys, rfl, rfl, h1, h2, h3, h4⟩ := hA
      have hl := Paired.length h3
      refine ⟨_, rfl, rfl, _, rfl, ?_⟩
      rw [show decide (V.ref p2 = V.non) = false from rfl]
      refine iteF ?_
      refine ⟨_, rfl, _, _, _, _, false, rfl, .ty _, tyT h2, kit_ty kb_tb, false, rfl, iteF ?_⟩
      refine ⟨_, rfl, _, _, _, _, false, rfl, .ty _, tyT h2, kit_ty kb_ts, false, rfl, iteF ?_⟩
      refine ⟨_, rfl, _, _, _, _, false, rfl, .ty _, tyT h2, kit_ty kb_ti, false, rfl, iteF ?_⟩
      refine ⟨_, rfl, _, _, _, _, true, rfl, .ty _, tyT h2, kit_ty kb_tt, _, rfl, _, _, _, _, true, rfl, .ty _, tyT h1, kit_ty kb_tt, rfl, _, rfl, iteF ?_⟩
      refine ⟨_, rfl, _, _, _, _, false, rfl, .ty _, tyT h2, kit_ty kb_tl, _, rfl, _, _, _, _, false, rfl, .ty _, tyT h1, kit_ty kb_tl, rfl, _, rfl, iteF ?_⟩
      refine ⟨_, rfl, p, xs, rfl, .inr h1, _, rfl, p2, ys, rfl, .inr h2, rfl, _, rfl, iteNS (by rw [hl]) ?_⟩
      refine ⟨_, rfl, p2, ys, rfl, .inr h2, _, rfl, by omega, by omega, fun D hD => ?_⟩
      rw [Int.toNat_natCast]
      refine lc_map walk_up hD (fun i x => x = iv i) (fun i H x H' y => y) (fun _ _ => True.intro) (fun i y H => y = .bl true) (fun _ _ _ _ _ h => h) (by omega) (fun i x Hc Qt hi s yv k => ?_) (fun Hd zs s hD' hlz hE => ?_)
      · subst yv
        obtain ⟨u, hu⟩ := lt_get (l := xs) (i := i) (by omega)
        obtain ⟨v, hv, huv⟩ := paired_get h3 hu
        refine ⟨_, rfl, _, rfl, p, xs, _, u, rfl, rfl, s_seqT s h1, at_nat hu, _, rfl, _, rfl, p2, ys, _, v, rfl, rfl, s_seqT s h2, at_nat hv, d, u, v, rfl, by omega, huv.ls (s_ls s), fun H' s' => k _ _ s' rfl⟩
      · refine ⟨D, List.replicate ys.length true, rfl, by rw [← trues hlz hE]; exact lstOf hD', ?_⟩
        rw [all_true]
        exact q _ s
theorem ok_law_alike {f : Addr} {fd : FuncData} (F : Fun K "_law_alike" "_law_alike" sAlike f fd) (T : Txt mg) (m : mg "_law_alike" = some (.ref f)) (b : Binds K fd ["_law_told", "_law_due"] []) : ∀ n, FnOk P w K mg base CX0 n f fd ["_law_told", "_law_due"] (spAlike K n)
  | 0 => ⟨fun vs H Q E h => by obtain ⟨d, x, y, _, hd, _⟩ := h; omega, fun A outer s H args us vs Q E _ _ _ _ h => by obtain ⟨d, x, y, _, hd, _⟩ := h; omega⟩
  | n + 1 => alike_step F T ⟨ok_law_alike F T m b n, m, F.kp, b⟩

abbrev nClosed : List Str := ["_law_rows", "_law_found", "_law_row", "_law_grown", "_law_item", "_law_other_here"]
abbrev sClosed : Stmt := topS 41
theorem scClosed : FnScope nClosed ["_law_rows"] (defScope sClosed) := ⟨rfl, rfl, rfl, by decide +kernel, rfl, by decide +kernel, by decide +kernel⟩
theorem ok_law_closed {f : Addr} {fd : FuncData} (F : Fun K "_law_closed" "_law_closed" sClosed f fd) (T : Txt mg) : FnOk P w K mg base CX0 1 f fd ["_law_rows"] (spClosed K) := by
  refine F.ok scClosed (fun vs H Q E h => ?_) (fun cdv A outer s H vs Q E hr h => ?_)
  · obtain ⟨a, rs, rows, rfl, _⟩ := h
    rfl
  · obtain ⟨a, rs, rows, rfl, hA, hrs, hlt0, hlen, q⟩ := h
    refine ⟨_, pss_cons (ps_set (i := 1) scClosed.nd rfl (Or.inl rfl) (pe_lst pa_nil))
      (pss_cons (ps_for PassesOwn.never rfl (pi_list (pv 0)) (pg_name (i := 2) scClosed.nd rfl (Or.inl rfl))
        (pss_cons (ps_set (i := 3) scClosed.nd rfl (Or.inr rfl) (pe_lst pa_nil))
        (pss_cons (ps_for PassesOwn.never rfl (pi_list (pv 2)) (pg_name (i := 4) scClosed.nd rfl (Or.inl rfl))
          (pss_one (ps_set (i := 3) scClosed.nd rfl (Or.inr rfl) (pe_op op_cat (pv 3)
            (pe_lc (own := [("_law_other_here", 5)]) (g := gName 5) rfl scClosed.nd (pi_tup (pe_op (catA (K := K) rfl) (pe_tup (pa_cons (pv 4) pa_nil)) (pe_ix (ixL (K := K) rfl) (pv 1) (pv 4) (fun _ _ => rfl)))) (blkOk_by (N := nClosed) (sc := defScope sClosed) (by decide +kernel))
              (fun _ _ _ _ _ => pg_name (i := 5) scClosed.nd rfl (Or.inl rfl)) (fun _ _ _ _ _ => pts_one (pt_cmpR (opNi (K := K) rfl) (pv 5) (pv 3) (by rfl))) (fun _ _ _ _ _ => pv 5))))))
        (pss_one (ps_expr (pe_bm PySem.F.plainAttrs_list PySem.F.slot_list_append PySem.F.type_list_append mt_append (pv 1) (pa_cons (pe_callTy (cTup (K := K) rfl) (by rfl) T.tuple (by decide +kernel) (pa_cons (pe_callB cr_sorted (by rfl) T.sorted (by decide +kernel) (pa_cons (pv 3) pa_nil)) pa_nil)) pa_nil)))))))
      (pss_one (ps_ret (pe_callTy (cTup (K := K) rfl) (by rfl) T.tuple (by decide +kernel) (pa_cons (pv 1) pa_nil))))), ?_⟩
    refine ⟨Nat.zero_le _, fun lf hlf => ?_⟩
    have s1 := same_new hlf (.lst [])
    have hrl := Paired.length hrs
    refine ⟨_, rfl, a, rfl, ⟨_, s1.seq hA⟩, ?_⟩
    refine for_it (walk_list (xs := rs)) (fun i σ H' => Same H H' ∧ (∃ vs found, H' lf = some (.lst vs) ∧ Paired (NT K H') vs found ∧ Plan found ∧ found.length = i) ∧ ∃ z2 z3 z4, σ = [some (.ref a), some (.ref lf), z2, z3, z4, none]) ⟨s1, ⟨[], [], upd_same, .nil, Plan.nil, rfl⟩, none, none, none, rfl⟩ (fun i σ H' _ h => h.1.seq hA) ?_ ?_
    · rintro i x σ H1 H2 hi ⟨s2, ⟨vs, found, hlf1, hvs, hPl, hfl⟩, z2, z3, z4, rfl⟩ ⟨rfl, hx⟩
      obtain ⟨row, hrow, pr, rfl, hpr⟩ := paired_get hrs hx
      have hrowlt := hlt0 i row hrow
      refine ⟨Nat.zero_le _, fun lw hlw => ?_⟩
      have s3 := same_new hlw (.lst [])
      refine ⟨_, rfl, pr, rfl, ⟨_, (s2.trans s3).seq hpr⟩, ?_⟩
      refine for_it (walk_list (xs := row.map iv)) (fun m σ H' => Same H H' ∧ (∃ vs, H' lf = some (.lst vs) ∧ Paired (NT K H') vs found) ∧ ∃ lw g z4, σ = [some (.ref a), some (.ref lf), some (.ref pr), some (.ref lw), z4, none] ∧
        H' lw = some (.lst (g.map iv)) ∧ g.Nodup ∧ (∀ x ∈ g, x < i) ∧ ∀ j ∈ g, ∀ q, found[j]? = some q → ∀ x ∈ q, x ∈ g) ⟨s2.trans s3, ⟨vs, s3 _ _ hlf1, Paired.mapP hvs fun _ _ h => h.ls (s_ls s3)⟩, lw, [], z4, rfl, upd_same, List.nodup_nil, by simp, by simp⟩ (fun m σ H' _ h => h.1.seq hpr) ?_ ?_
      · rintro m x σ H3 H4 hm ⟨s4, ⟨vs4, hlf4, hvs4⟩, lw4, g, z4, rfl, hlw4, hnd, hlt, hcl⟩ ⟨rfl, hx4⟩
        obtain ⟨o, ho, rfl⟩ := get_map hx4
        have hoi := hrowlt o (List.mem_of_getElem? ho)
        obtain ⟨ro, hro⟩ := lt_get (l := found) (i := o) (by omega)
        obtain ⟨xo, hxo, po, rfl, hpo⟩ := paired_get' hvs4 hro
        have hgl : g.length ≤ i := nodup_lt_len hnd hlt
        have hi40 : i < 40 := by omega
        have hrol := hPl.row_len hro
        refine ⟨_, rfl, _, rfl, (by show 1 ≤ sizeLine; decide), fun t ht => ?_⟩
        have s5 := same_new ht (.tup [iv o])
        refine ⟨_, rfl, _, rfl, lf, vs4, _, .ref po, rfl, rfl, lstOf (s5 _ _ hlf4), at_nat hxo, ?_⟩
        -- behind (item,) + found[item]
        have fin : ∀ (T' : Addr) (H5 : Hp), Same H4 H5 → SqT K H5 T' ((o :: ro).map iv) → ∀ (D : Addr) (H6 : Hp), Same H5 H6 → H6 D = some (.lst (((o :: ro).filter fun n => decide (n ∉ g)).map iv)) → ∀ p3, H6 p3 = none →
            (Same H (upd H6 p3 (.lst (g.map iv ++ ((o :: ro).filter fun n => decide (n ∉ g)).map iv))) ∧ (∃ vs, (upd H6 p3 (.lst (g.map iv ++ ((o :: ro).filter fun n => decide (n ∉ g)).map iv))) lf = some (.lst vs) ∧ Paired (NT K (upd H6 p3 (.lst (g.map iv ++ ((o :: ro).filter fun n => decide (n ∉ g)).map iv)))) vs found) ∧
              ∃ (lw : Addr) (g' : List Nat) (z4 : Option V), [some (.ref a), some (.ref lf), some (.ref pr), some (.ref p3), some (iv o), none] = [some (.ref a), some (.ref lf), some (.ref pr), some (.ref lw), z4, (none : Option V)] ∧
              (upd H6 p3 (.lst (g.map iv ++ ((o :: ro).filter fun n => decide (n ∉ g)).map iv))) lw = some (.lst (g'.map iv)) ∧ g'.Nodup ∧ (∀ x ∈ g', x < i) ∧ ∀ j ∈ g', ∀ q, found[j]? = some q → ∀ x ∈ q, x ∈ g') := by
          intro T' H5 s5 hT D H6 s6 hD6 p3 hp3
          have s7 := (s5.trans s6).trans (same_new hp3 (.lst (g.map iv ++ ((o :: ro).filter fun n => decide (n ∉ g)).map iv)))
          have hro' : (o :: ro).Nodup := List.nodup_cons.mpr ⟨fun h => by have := hPl.lt o ro hro o h; omega, nodup_of_asc (hPl.asc o ro hro)⟩
          refine ⟨s4.trans s7, ⟨vs4, s7 _ _ hlf4, Paired.mapP hvs4 fun _ _ h => h.ls (s_ls s7)⟩, p3, g ++ (o :: ro).filter (fun n => decide (n ∉ g)), _, rfl, by rw [upd_same, List.map_append], ?_, ?_, ?_⟩
          · rw [List.nodup_append]
            refine ⟨hnd, hro'.filter _, fun x hx y hy e => ?_⟩
            subst e
            exact (of_decide_eq_true (List.mem_filter.mp hy).2) hx
          · intro x hx
            rcases List.mem_append.mp hx with hx | hx
            · exact hlt x hx
            · rcases List.mem_cons.mp (List.mem_filter.mp hx).1 with e | e
              · omega
              · have := hPl.lt o ro hro x e
                omega
          · have inr : ∀ y, y ∈ o :: ro → y ∈ g ++ (o :: ro).filter (fun n => decide (n ∉ g)) := fun y hy => by
              by_cases hyr : y ∈ g
              · exact List.mem_append_left _ hyr
              · exact List.mem_append_right _ (List.mem_filter.mpr ⟨hy, decide_eq_true hyr⟩)
            intro j hj q' hq' x hx
            rcases List.mem_append.mp hj with hj | hj
            · exact List.mem_append_left _ (hcl j hj q' hq' x hx)
            · rcases List.mem_cons.mp (List.mem_filter.mp hj).1 with e | e
              · subst e
                rw [hro] at hq'
                cases hq'
                exact inr x (List.mem_cons_of_mem _ hx)
              · exact inr x (List.mem_cons_of_mem _ (hPl.tr o ro hro j e q' hq' x hx))
        have lcr : ∀ (T' : Addr) (H5 : Hp), Same H4 H5 → SqT K H5 T' ((o :: ro).map iv) → ∀ (Qd : Addr → Hp → Prop), (∀ D H6, Same H5 H6 → H6 D = some (.lst (((o :: ro).filter fun n => decide (n ∉ g)).map iv)) → Qd D H6) → ∀ D, H5 D = none → ∃ W : Nat → Nat → Hp → Prop, (∃ m, W 0 m (upd H5 D (.lst []))) ∧ ∀ i m H, W i m H →
            ((Itt K T').stop i H ∧ Qd D H) ∨ ((Itt K T').go i H ∧ ∃ Nx : Hp → Prop, (∀ H', Nx H' → ∃ m', m' < m ∧ W (i + 1) m' H') ∧ ∀ x H', (Itt K T').yld i H x H' → gName 5 x (wipe [some (.ref a), some (.ref lf), some (.ref pr), some (.ref lw4), some (iv o), none] [5]) H' fun σ2 H2 => wipe σ2 [5] = wipe [some (.ref a), some (.ref lf), some (.ref pr), some (.ref lw4), some (iv o), none] [5] ∧
              (tTest (tOp (rIn K true) (tVar 5) (tVar 3))) σ2 H2 fun b H3 => if b = true then tVar 5 σ2 H3 fun y H4 => ∃ acc, H4 D = some (.lst acc) ∧ acc.length < sizeLine ∧ Nx (upd H4 D (.lst (acc ++ [y]))) else Nx H3) := by
          intro T' H5 s5 hT Qd k D hD
          refine lc_filter (xs := (o :: ro).map iv) walk_tup hD yat (fun Hc s => s_seqT s hT) (fun x => !inV x (g.map iv)) (by rw [len_iv]; show ro.length + 1 ≤ 100000; omega) (by show 5 < 6; decide) (fun m x Hc Qt hx s k => ?_) (fun H6 s6 hD6 => ?_)
          · obtain ⟨n, hn, rfl⟩ := get_map hx
            exact ⟨_, rfl, _, rfl, lw4, _, rfl, .inl (lstOf (s _ _ (s5 _ _ hlw4))), rfl, flat_ivs _, _, rfl, k _ (Same.refl _)⟩
          · rw [filter_iv] at hD6
            have ef : ((o :: ro).filter fun n => !inV (iv n) (g.map iv)) = (o :: ro).filter fun n => decide (n ∉ g) := List.filter_congr fun n _ => by
              rw [inV_iv]
              simp
            rw [ef] at hD6
            exact k D H6 s6 hD6
        have szo : g.length + ((o :: ro).filter fun n => decide (n ∉ g)).length ≤ 100000 := by
          have a1 : ((o :: ro).filter fun n => decide (n ∉ g)).length ≤ (o :: ro).length := List.length_filter_le _ _
          have a2 : (o :: ro).length = ro.length + 1 := rfl
          omega
        refine ⟨t, po, [iv o], ro.map iv, rfl, rfl, tupOf upd_same, s_seqT s5 hpo, by rw [len_iv]; exact sz1000 (by show 1 + ro.length ≤ 100000; omega), fun z => (by cases z), fun _ z => ?_, fun _ _ t2 ht2 => ?_⟩
        · have hro0 : ro = [] := by cases ro with
            | nil => rfl
            | cons => simp at z
          have hT : SqT K (upd H4 t (.tup [iv o])) t ((o :: ro).map iv) := by rw [hro0]; exact tupOf upd_same
          refine ⟨t, rfl, ⟨_, hT⟩, ?_⟩
          refine lcr t _ s5 hT (fun D H6 => _) fun D H6 s6 hD6 => ?_
          exact ⟨lw4, D, _, _, rfl, rfl, s6 _ _ (s5 _ _ hlw4), hD6, by rw [len_iv, len_iv]; exact sz1000 szo, fun p3 hp3 => fin t _ s5 hT D H6 s6 hD6 p3 hp3⟩
        · have s6 := s5.trans (same_new ht2 (.tup ([iv o] ++ ro.map iv)))
          have hT : SqT K (upd (upd H4 t (.tup [iv o])) t2 (.tup ([iv o] ++ ro.map iv))) t2 ((o :: ro).map iv) := tupOf upd_same
          refine ⟨t2, rfl, ⟨_, hT⟩, ?_⟩
          refine lcr t2 _ s6 hT (fun D H6 => _) fun D H6 s7 hD6 => ?_
          exact ⟨lw4, D, _, _, rfl, rfl, s7 _ _ (s6 _ _ hlw4), hD6, by rw [len_iv, len_iv]; exact sz1000 szo, fun p3 hp3 => fin t2 _ s6 hT D H6 s7 hD6 p3 hp3⟩
      · rintro σ H3 ⟨s4, ⟨vs4, hlf4, hvs4⟩, lw4, g, z4, rfl, hlw4, hnd, hlt, hcl⟩
        have hgl : g.length ≤ i := nodup_lt_len hnd hlt
        refine ⟨_, rfl, .inl ⟨rfl, _, lstOf hlf4⟩, _, rfl, lw4, g.map fun (n : Nat) => (n : Int), rfl, by rw [map_int]; exact lstOf hlw4, by rw [List.length_map]; omega, fun ns p1 hperm hpw hp1 => ?_⟩
        obtain ⟨r', rfl, hr'p, hr'a⟩ := nats_back hperm hpw hnd
        rw [map_int]
        have s5 := same_new hp1 (.lst (r'.map iv))
        refine ⟨p1, _, rfl, .inl ⟨lstOf upd_same, fun p2 hp2 => ?_⟩⟩
        have s6 := s5.trans (same_new hp2 (.tup (r'.map iv)))
        have hl4 : vs4.length = i := by rw [Paired.length hvs4, hfl]
        refine ⟨lf, vs4, _, rfl, rfl, s6 _ _ hlf4, sz1000' (by omega), ?_⟩
        have ls2 := (But.upd (upd (upd H3 p1 (.lst (r'.map iv))) p2 (.tup (r'.map iv))) (.lst (vs4 ++ [.ref p2]))).ls (s6 _ _ hlf4)
        refine ⟨s_then (s4.trans s6) hlf _, ⟨vs4 ++ [.ref p2], found ++ [r'], upd_same, ?_, hPl.snoc hr'a (fun j hj => by rw [hfl]; exact hlt j (hr'p.mem_iff.mp hj)) (fun j hj q' hq' x hx => hr'p.mem_iff.mpr (hcl j (hr'p.mem_iff.mp hj) q' hq' x hx)), by rw [List.length_append, hfl]; rfl⟩, _, _, _, rfl⟩
        exact paired_app (Paired.mapP hvs4 fun _ _ h => h.ls ((s_ls s6).trans ls2)) (.cons ⟨p2, rfl, ls2.seqT (tupOf upd_same)⟩ .nil)
    · rintro σ H1 ⟨s2, ⟨vs, found, hlf1, hvs, hPl, hfl⟩, z2, z3, z4, rfl⟩
      refine ⟨_, rfl, lf, vs, rfl, .inl ⟨lstOf hlf1, fun l hl => ?_⟩⟩
      have s5 := same_new hl (.tup vs)
      exact q _ found _ (s2.trans s5) ⟨l, vs, rfl, tupOf upd_same, Paired.mapP hvs fun _ _ h => h.ls (s_ls s5)⟩ hPl (by rw [hfl, hrl])
end
end Pb

namespace Pb
open PySem PySem.Spec PyProof.Rows L2
theorem cat_reads {K : PySem.W.Frag} {H : Hp} {a b : Addr} {xs ys : List V} {Q : VK} (h1 : SqT K H a xs) (h2 : SqT K H b ys) (hl : xs.length + ys.length ≤ 100000) (k : ∀ p H', Same H H' → SqT K H' p (xs ++ ys) → Q (.ref p) H') : rCatA K (.ref a) (.ref b) H Q := by
  refine ⟨a, b, xs, ys, rfl, rfl, h1, h2, sz1000 hl, fun e => ?_, fun _ e => ?_, fun _ _ p hp => k p _ (same_new hp _) (tupOf upd_same)⟩
  · subst e
    exact k b H (Same.refl _) h2
  · subst e
    exact k a H (Same.refl _) (by rw [List.append_nil]; exact h1)
theorem cutV_whole {xs : List V} {lo hi : Option Int} (h : HT.sIx xs.length 0 lo = 0 ∧ HT.sIx xs.length xs.length hi = xs.length) : cutV xs lo hi = xs := by
  unfold cutV
  rw [h.1, h.2, Nat.sub_zero, List.drop_zero, List.take_length]
theorem sl_reads {K : PySem.W.Frag} {H : Hp} {a : Addr} {xs : List V} {lo hi : Option Int} {Q : VK} (h1 : SqT K H a xs) (k : ∀ p H', Same H H' → SqT K H' p (cutV xs lo hi) → Q (.ref p) H') : rSlA K (.ref a) lo hi H Q := by
  refine ⟨a, xs, rfl, h1, fun e => ?_, fun _ p hp => k p _ (same_new hp _) (tupOf upd_same)⟩
  exact k a H (Same.refl _) (by rw [cutV_whole e]; exact h1)
theorem sl_readsN {K : PySem.W.Frag} {σ : L2.St} {H : Hp} {a : Addr} {xs : List V} {lo : Option Int} {Q : VK} (h1 : SqT K H a xs) (k : ∀ p H', Same H H' → SqT K H' p (cutV xs lo none) → Q (.ref p) H') : tNoPart σ H (fun u H3 => rSlA K (.ref a) lo u H3 Q) := sl_reads h1 k
theorem cutV_take (xs : List V) (i : Nat) : cutV xs none (some (i : Int)) = xs.take i := by
  unfold cutV
  rw [HT.sIx_none, HT.sIx_nat, Nat.sub_zero, List.drop_zero]
  rcases Nat.le_total i xs.length with h | h
  · rw [Nat.min_eq_left h]
  · rw [Nat.min_eq_right h, List.take_length, List.take_of_length_le h]
theorem cutV_drop (xs : List V) (i : Nat) : cutV xs (some (i : Int)) none = xs.drop i := by
  unfold cutV
  rw [HT.sIx_none, HT.sIx_nat]
  rcases Nat.le_total i xs.length with h | h
  · rw [Nat.min_eq_left h, List.take_of_length_le (by rw [List.length_drop]; exact Nat.le_refl _)]
  · rw [Nat.min_eq_right h, List.drop_eq_nil_of_le h, List.drop_eq_nil_of_le (Nat.le_refl _)]
    simp
theorem paired_set {α β : Type} {R : α → β → Prop} {xs : List α} {ys : List β} (h : Paired R xs ys) (i : Nat) {x : α} {y : β} (hr : R x y) : Paired R (xs.set i x) (ys.set i y) := by
  refine paired_of (by rw [List.length_set, List.length_set]; exact Paired.length h) fun j a b ha hb => ?_
  rw [List.getElem?_set] at ha hb
  by_cases e : i = j
  · subst e
    rw [if_pos rfl] at ha hb
    split at ha
    · cases ha
      split at hb
      · cases hb
        exact hr
      · cases hb
    · cases ha
  · rw [if_neg e] at ha hb
    obtain ⟨y', hy', r⟩ := paired_get h ha
    rw [hb] at hy'
    cases hy'
    exact r
theorem Plan.hole {p : List (List Nat)} (h : Plan p) (i : Nat) : Plan (p.set i []) := by
  have at_ : ∀ (m : Nat) (q : List Nat), (p.set i [])[m]? = some q → q = [] ∨ p[m]? = some q := fun m q hq => by
    rw [List.getElem?_set] at hq
    by_cases e : i = m
    · subst e
      rw [if_pos rfl] at hq
      split at hq
      · cases hq
        exact .inl rfl
      · cases hq
    · rw [if_neg e] at hq
      exact .inr hq
  refine ⟨fun m q hq => ?_, fun m q hq j hj => ?_, fun m q hq j hj q2 hq2 x hx => ?_⟩
  · rcases at_ m q hq with rfl | e
    · exact List.Pairwise.nil
    · exact h.asc m q e
  · rcases at_ m q hq with rfl | e
    · cases hj
    · exact h.lt m q e j hj
  · rcases at_ m q hq with rfl | e
    · cases hj
    · rcases at_ j q2 hq2 with rfl | e2
      · cases hx
      · exact h.tr m q e j hj q2 e2 x hx
section
variable {P : Program} {w : World} {K : PySem.W.Frag} {mg : Str → Option Value} {base : Heap}
abbrev nOther : List Str := ["_law_state_here", "_law_least", "_law_size", "_law_kind", "_law_item", "_law_rows", "_law_k", "_law_row"]
abbrev sOther : Stmt := topS 42
theorem scOther : FnScope nOther ["_law_state_here", "_law_least"] (defScope sOther) := ⟨rfl, rfl, rfl, by decide +kernel, rfl, by decide +kernel, by decide +kernel⟩
theorem ok_law_other {f f1 f2 f3 : Addr} {fd fd1 fd2 fd3 : FuncData} (F : Fun K "_law_other" "_law_other" sOther f fd) (T : Txt mg) (C1 : Cal P w K mg base 1 "_law_draw" ["_law_state_here", "_law_many"] spDraw f1 fd1) (C2 : Cal P w K mg base 2 "_law_plan" ["_law_state_here", "_law_size"] (spPlanL K) f2 fd2)
    (C3 : Cal P w K mg base 1 "_law_closed" ["_law_rows"] (spClosed K) f3 fd3) : FnOk P w K mg base CX0 3 f fd ["_law_state_here", "_law_least"] (spOther K) := by
  refine F.ok scOther (fun vs H Q E h => ?_) (fun cdv A outer s H vs Q E hr h => ?_)
  · obtain ⟨st, x, ls, rfl, _⟩ := h
    rfl
  · obtain ⟨st, x, ls, rfl, hst, hN, hP, h1, h26, q⟩ := h
    obtain ⟨p, vs, rfl, hS, hvl, hg⟩ := hN.get
    have hr1 := hr.mono (show 1 ≤ 2 by decide)
    refine ⟨_, pss_cons (ps_set (i := 2) scOther.nd rfl (Or.inl rfl) (pe_callB (cLen (K := K) rfl) (by rfl) T.len PySem.boot_len (pa_cons (pv 1) pa_nil)))
      (pss_cons (ps_set (i := 3) scOther.nd rfl (Or.inl rfl) (pe_c C1 hr1 (pa_cons (pv 0) (pa_cons pe_int pa_nil))))
      (pss_cons (ps_if (pt_cmpR op_eq (pv 3) pe_int (nomark _)) (pss_one (ps_ret (pe_c C2 hr (pa_cons (pv 0) (pa_cons (pv 2) pa_nil))))) pss_nil)
      (pss_cons (ps_set (i := 4) scOther.nd rfl (Or.inl rfl) (pe_c C1 hr1 (pa_cons (pv 0) (pa_cons (pv 2) pa_nil))))
      (pss_cons (ps_if (pt_cmpR op_eq (pv 3) pe_int (nomark _))
          (pss_one (ps_ret (pe_op (catA (K := K) rfl) (pe_op (catA (K := K) rfl) (pe_slice (slA (K := K) rfl) (pv 1) po_none (po_some (pv 4))) (pe_tup (pa_cons (pe_tup pa_nil) pa_nil))) (pe_slice (slA (K := K) rfl) (pv 1) (po_some (pe_op op_add (pv 4) pe_int)) po_none)))) pss_nil)
      (pss_cons (ps_setLc (i := 5) (own := [("_law_row", 7)]) (g := gName 7) (tt := tYes) rfl scOther.nd rfl rfl (sw_true rfl rfl rfl (by decide +kernel)) (pi_tup (pv 1)) (blkOk_by (N := nOther) (sc := defScope sOther) (by decide +kernel))
          (fun _ _ _ _ _ => pg_name (i := 7) scOther.nd rfl (Or.inl rfl)) (fun _ _ _ _ _ => pts_nil) (fun _ _ _ _ _ => pe_callTy (cLst (K := K) rfl) (by rfl) T.list (by decide +kernel) (pa_cons (pv 7) pa_nil)))
      (pss_cons (ps_for PassesOwn.never rfl (pi_range1 (by rfl) T.range (pa_cons (pe_c C1 hr1 (pa_cons (pv 0) (pa_cons pe_int pa_nil))) pa_nil)) (pg_name (i := 6) scOther.nd rfl (Or.inl rfl))
        (pss_cons (ps_set (i := 4) scOther.nd rfl (Or.inl rfl) (pe_c C1 hr1 (pa_cons (pv 0) (pa_cons (pv 2) pa_nil))))
        (pss_one (ps_if (pt_cmpR op_gt (pv 4) pe_int (nomark _)) (pss_one (ps_asg (pe_op op_cat (pe_ix (ixL (K := K) rfl) (pv 5) (pv 4) (fun _ _ => rfl)) (pe_lst (pa_cons (pe_c C1 hr1 (pa_cons (pv 0) (pa_cons (pv 4) pa_nil))) pa_nil))) (pg_sub (pv 5) (pv 4) set_list))) pss_nil))))
      (pss_one (ps_ret (pe_c C3 hr1 (pa_cons (pv 5) pa_nil)))))))))), ?_⟩
    refine ⟨_, rfl, p, vs, rfl, .inr hS, ?_⟩
    rw [hvl]
    refine ⟨_, rfl, st, 4, rfl, hst, by decide, by decide, fun kd H1 hkd b1 st1 => ?_⟩
    obtain ⟨r0, q0, c0, hst0⟩ := id hst
    obtain ⟨r1, q1, c1, hst1⟩ := id st1
    refine ⟨_, rfl, rfl, _, rfl, ?_⟩
    refine ite2 (fun _ => ?_) (fun _ => ?_)
    · refine ⟨_, rfl, _, rfl, st, ls.length, rfl, st1, h1, h26, fun y rows H2 b2 st2 hy hPr hrl => ?_⟩
      exact q y rows H2 (b1.trans b2) st2 hy hPr hrl
    refine ⟨_, rfl, _, rfl, st, ls.length, rfl, st1, h1, by omega, fun it H2 hit b2 st2 => ?_⟩
    have b12 := b1.trans b2
    have hS2 := (b12.ls hst0).seqT hS
    obtain ⟨r2, q2, c2, hst2⟩ := id st2
    refine ⟨_, rfl, rfl, _, rfl, ?_⟩
    refine ite2 (fun _ => ?_) (fun _ => ?_)
    · -- least[:item] + ((),) + least[item + 1:]
      refine ⟨_, rfl, _, rfl, (it : Int), rfl, ?_⟩
      refine sl_reads hS2 fun pa Ha sa ha => ?_
      rw [cutV_take] at ha
      refine ⟨by decide, fun pe he => ⟨(by show 1 ≤ sizeLine; decide), fun pb hb => ?_⟩⟩
      have s1 := same_new he (.tup [])
      have s2 := s1.trans (same_new hb (.tup [.ref pe]))
      have hpe : SqT K (upd (upd Ha pe (.tup [])) pb (.tup [.ref pe])) pe (([] : List Nat).map iv) := s_seqT (same_new hb _) (tupOf upd_same)
      refine cat_reads (s_seqT s2 ha) (tupOf upd_same) (by rw [List.length_take]; show _ + 1 ≤ 100000; omega) fun pc Hc sc hc => ?_
      refine ⟨_, rfl, _, rfl, _, 1, rfl, rfl, ((it + 1 : Nat) : Int), by show V.int ((it : Int) + 1) = _; rfl, ?_⟩
      have sac := sa.trans (s2.trans sc)
      refine sl_readsN (s_seqT sac hS2) fun pd Hd sd hd => ?_
      rw [cutV_drop] at hd
      refine cat_reads (s_seqT sd hc) hd (by rw [List.length_append, List.length_take, List.length_drop]; show _ + 1 + _ ≤ 100000; omega) fun pf Hf sf hf => ?_
      have sall := sac.trans (sd.trans sf)
      have eset : vs.take it ++ [V.ref pe] ++ vs.drop (it + 1) = vs.set it (.ref pe) := by
        rw [List.set_eq_take_append_cons_drop, if_pos (by omega), List.append_assoc]
        rfl
      rw [eset] at hf
      refine q (.ref pf) (ls.set it []) Hf (b12.trans (s_but sall)) ⟨r2, q2, c2, sall _ _ hst2⟩ ⟨pf, _, rfl, hf, ?_⟩ (hP.hole it) (by rw [List.length_set])
      refine paired_set ?_ it ⟨pe, rfl, s_seqT (sc.trans (sd.trans sf)) hpe⟩
      refine paired_of hvl fun m a b ha hb => ?_
      obtain ⟨qm, hqm, sqm⟩ := hg m b hb
      rw [ha] at hqm
      cases hqm
      exact ⟨qm, rfl, s_seqT sall ((b12.ls hst0).seqT sqm)⟩
    · -- rows
      refine ⟨_, rfl, p, rfl, ⟨_, hS2⟩, fun D hD => ?_⟩
      have hDs : D ≠ st := fun e => by rw [e, hst2] at hD; cases hD
      refine lc_it (walk_tup (xs := vs)) (fun i Hc => Same H2 Hc ∧ ∃ acc, Hc D = some (.lst acc) ∧ acc.length = i ∧ ∀ (m : Nat) y, acc[m]? = some y → ∃ (pp : Addr) (r : List Nat), y = .ref pp ∧ ls[m]? = some r ∧ Hc pp = some (.lst (r.map iv)) ∧ pp ≠ D ∧ pp ≠ st)
        ⟨same_new hD _, [], upd_same, rfl, fun m y h => by simp at h⟩ (fun i Hc _ h => s_seqT h.1 hS2) ?_ ?_
      · rintro i x Hc H' hi ⟨sc, acc, hDc, hal, hacc⟩ ⟨rfl, hx⟩
        obtain ⟨r, hr'⟩ := lt_get (l := ls) (i := i) (by omega)
        obtain ⟨qa, hqa, sqa⟩ := hg i r hr'
        have ex : x = .ref qa := Option.some.inj (hx.symm.trans hqa)
        subst ex
        refine ⟨rfl, yes_mk ?_⟩
        refine ⟨_, rfl, qa, _, rfl, .inr (s_seqT sc ((b12.ls hst0).seqT sqa)), fun l hl => ?_⟩
        have sl := same_new hl (.lst (r.map iv))
        have hDl := sl _ _ hDc
        refine ⟨acc, hDl, sz1000' (by omega), s_then (sc.trans sl) hD _, acc ++ [.ref l], upd_same, by rw [List.length_append, hal]; rfl, fun m y hy => ?_⟩
        have nlD : l ≠ D := fun e => by rw [e, hDc] at hl; cases hl
        by_cases hm : m < acc.length
        · rw [List.getElem?_append_left hm] at hy
          obtain ⟨pp, r3, e, hr3, hpp, n1, n2⟩ := hacc m y hy
          exact ⟨pp, r3, e, hr3, (upd_ne n1).trans (sl _ _ hpp), n1, n2⟩
        · have e : m = acc.length := by
            have := get_lt hy
            rw [List.length_append, List.length_singleton] at this
            omega
          subst e
          rw [List.getElem?_concat_length] at hy
          cases hy
          refine ⟨l, r, rfl, by rw [hal]; exact hr', (upd_ne nlD).trans upd_same, nlD, fun e => ?_⟩
          rw [e, sc _ _ hst2] at hl
          cases hl
      · rintro H3 ⟨s3, acc, hD3, hal, hacc⟩
        refine ⟨_, rfl, st, 4, rfl, ⟨r2, q2, c2, s3 _ _ hst2⟩, by decide, by decide, fun tn H4 htn b4 st4 => ?_⟩
        refine ⟨_, rfl, by omega, by omega, ?_⟩
        rw [Int.toNat_natCast]
        have hDn : ∀ b o, b ≠ st → H2 b = some o → b ≠ D := fun b o _ e z => by rw [z, hD] at e; cases e
        refine for_it (n := tn) walk_up (fun i σ H' => But st H2 H' ∧ StAt H' st ∧ (∃ z4 z6, σ = [some (.ref st), some (.ref p), some (iv ls.length), some (iv kd), z4, some (.ref D), z6, none]) ∧
          ∃ acc, H' D = some (.lst acc) ∧ acc.length = ls.length ∧ ∀ (m : Nat) y, acc[m]? = some y → ∃ (pp : Addr) (r : List Nat), y = .ref pp ∧ H' pp = some (.lst (r.map iv)) ∧ pp ≠ D ∧ pp ≠ st ∧ (∀ j ∈ r, j < m) ∧ r.length ≤ 26 + i)
          ⟨(s_but s3).trans b4, st4, ⟨_, _, rfl⟩, acc, b4 _ _ hDs hD3, by omega, fun m y hy => ?_⟩ (fun _ _ _ _ _ => True.intro) ?_ ?_
        · obtain ⟨pp, r3, e, hr3, hpp, n1, n2⟩ := hacc m y hy
          have := hP.row_len hr3
          have := get_lt hr3
          exact ⟨pp, r3, e, b4 _ _ n2 hpp, n1, n2, hP.lt m r3 hr3, by omega⟩
        · rintro i x σ H5 H6 hi ⟨b5, st5, ⟨z4, z6, rfl⟩, acc5, hD5, hal5, hacc5⟩ ⟨rfl, rfl⟩
          refine ⟨_, rfl, _, rfl, st, ls.length, rfl, st5, h1, by omega, fun it2 H7 hit2 b7 st7 => ?_⟩
          have b57 := b5.trans b7
          have hD7 := b7 _ _ hDs hD5
          have hacc7 : ∀ (m : Nat) y, acc5[m]? = some y → ∃ (pp : Addr) (r : List Nat), y = V.ref pp ∧ H7 pp = some (.lst (r.map iv)) ∧ pp ≠ D ∧ pp ≠ st ∧ (∀ j ∈ r, j < m) ∧ r.length ≤ 26 + i := fun m y hy => by
            obtain ⟨pp, r, e, hpp, n1, n2, n3, n4⟩ := hacc5 m y hy
            exact ⟨pp, r, e, b7 _ _ n2 hpp, n1, n2, n3, n4⟩
          refine ⟨_, rfl, _, _, rfl, rfl, _, rfl, ?_⟩
          refine ite2 (fun e => ?_) (fun _ => ?_)
          · have hpos : 1 ≤ it2 := by
              have : (it2 : Int) > 0 := of_decide_eq_true e
              omega
            obtain ⟨y, hy⟩ := lt_get (l := acc5) (i := it2) (by omega)
            obtain ⟨pp, r, rfl, hpp, n1, n2, n3, n4⟩ := hacc7 it2 y hy
            refine ⟨_, rfl, _, rfl, D, acc5, _, .ref pp, rfl, rfl, lstOf hD7, at_nat hy, ?_⟩
            refine ⟨_, rfl, _, rfl, st, it2, rfl, st7, hpos, by omega, fun d H8 hd b8 st8 => ⟨(by show 1 ≤ sizeLine; decide), fun pl hpl => ?_⟩⟩
            obtain ⟨r8, q8, c8, hst8⟩ := id st8
            have s9 := same_new hpl (.lst [iv d])
            have hpp9 := s9 _ _ (b8 _ _ n2 hpp)
            refine ⟨pp, pl, _, _, rfl, rfl, hpp9, upd_same, by rw [len_iv]; exact sz1000 (by show r.length + 1 ≤ 100000; omega), fun pq hpq => ?_⟩
            have s10 := s9.trans (same_new hpq (.lst (r.map iv ++ [iv d])))
            have hD10 := s10 _ _ (b8 _ _ hDs hD7)
            refine ⟨_, rfl, _, rfl, D, acc5, _, it2, rfl, rfl, hD10, ?_, ?_⟩
            · unfold ixN
              rw [if_pos (by omega), if_pos (by omega), Int.toNat_natCast]
            · have nqD : pq ≠ D := fun e => by rw [e, (s9 _ _ (b8 _ _ hDs hD7))] at hpq; cases hpq
              have nqs : pq ≠ st := fun e => by rw [e, s9 _ _ hst8] at hpq; cases hpq
              refine ⟨fun b o nb e => ?_, ⟨r8, q8, c8, (upd_ne (Ne.symm hDs)).trans (s10 _ _ hst8)⟩, ⟨_, _, rfl⟩, acc5.set it2 (.ref pq), upd_same, by rw [List.length_set]; exact hal5, fun m y hy2 => ?_⟩
              · rw [upd_ne (hDn b o nb e)]
                exact s10 _ _ (b8 _ _ nb (b57 _ _ nb e))
              · rw [List.getElem?_set] at hy2
                by_cases em : it2 = m
                · subst em
                  rw [if_pos rfl] at hy2
                  split at hy2
                  · cases hy2
                    refine ⟨pq, r ++ [d], rfl, ?_, nqD, nqs, fun j hj => ?_, by rw [List.length_append, List.length_singleton]; omega⟩
                    · rw [upd_ne nqD, upd_same, List.map_append]
                      rfl
                    · rcases List.mem_append.mp hj with hj | hj
                      · exact n3 j hj
                      · rw [List.mem_singleton] at hj
                        omega
                  · cases hy2
                · rw [if_neg em] at hy2
                  obtain ⟨pp2, r3, e2, hpp2, m1, m2, m3, m4⟩ := hacc7 m y hy2
                  exact ⟨pp2, r3, e2, (upd_ne m1).trans (s10 _ _ (b8 _ _ m2 hpp2)), m1, m2, m3, by omega⟩
          · exact ⟨b57, st7, ⟨_, _, rfl⟩, acc5, hD7, hal5, fun m y hy => by
              obtain ⟨pp, r, e, hpp, n1, n2, n3, n4⟩ := hacc7 m y hy
              exact ⟨pp, r, e, hpp, n1, n2, n3, by omega⟩⟩
        · rintro σ H5 ⟨b5, st5, ⟨z4, z6, rfl⟩, acc5, hD5, hal5, hacc5⟩
          -- the rows as lists
          have hrows : ∃ rows : List (List Nat), Paired (fun x r => ∃ p, x = V.ref p ∧ SqL K H5 p (r.map iv)) acc5 rows ∧ ∀ (m : Nat) (r : List Nat), rows[m]? = some r → ∀ j ∈ r, j < m := by
            have aux : ∀ (n : Nat), n ≤ acc5.length → ∃ rows : List (List Nat), rows.length = n ∧ ∀ (m : Nat) (r : List Nat), rows[m]? = some r → (∃ y, acc5[m]? = some y ∧ ∃ p, y = V.ref p ∧ SqL K H5 p (r.map iv)) ∧ ∀ j ∈ r, j < m := by
              intro n
              induction n with
              | zero => exact fun _ => ⟨[], rfl, fun m r h => by simp at h⟩
              | succ n ih =>
                intro hn
                obtain ⟨rows, hl, hrr⟩ := ih (by omega)
                obtain ⟨y, hy⟩ := lt_get (l := acc5) (i := n) (by omega)
                obtain ⟨pp, r, e, hpp, n1, n2, n3, n4⟩ := hacc5 n y hy
                refine ⟨rows ++ [r], by rw [List.length_append, hl]; rfl, fun m r' hm => ?_⟩
                by_cases hmn : m < rows.length
                · rw [List.getElem?_append_left hmn] at hm
                  exact hrr m r' hm
                · have em : m = rows.length := by
                    have := get_lt hm
                    rw [List.length_append, List.length_singleton] at this
                    omega
                  subst em
                  rw [List.getElem?_concat_length] at hm
                  cases hm
                  rw [hl]
                  exact ⟨⟨y, hy, pp, e, lstOf hpp⟩, n3⟩
            obtain ⟨rows, hl, hrr⟩ := aux acc5.length (Nat.le_refl _)
            refine ⟨rows, paired_of hl.symm fun m a b ha hb => ?_, fun m r hr' => (hrr m r hr').2⟩
            obtain ⟨⟨y, hy, hp⟩, _⟩ := hrr m b hb
            rw [ha] at hy
            cases hy
            exact hp
          obtain ⟨rows, hpr, hlt⟩ := hrows
          have hrl := Paired.length hpr
          refine ⟨_, rfl, D, acc5, rows, rfl, lstOf hD5, hpr, hlt, by omega, fun y rows' H6 s6 hy hPr hl' => ?_⟩
          obtain ⟨r5, q5, c5, hst5⟩ := st5
          exact q y rows' H6 (b12.trans (b5.trans (s_but s6))) ⟨r5, q5, c5, s6 _ _ hst5⟩ hy hPr (by omega)

abbrev nRD : List Str := ["_law_plan_here", "_law_lines", "_law_rows", "_law_order", "_law_line", "_law_row", "_law_item"]
abbrev sRD : Stmt := topS 45
theorem scRD : FnScope nRD ["_law_plan_here", "_law_lines"] (defScope sRD) := ⟨rfl, rfl, rfl, by decide +kernel, rfl, by decide +kernel, by decide +kernel⟩
theorem ok_law_run_due {f f1 f2 : Addr} {fd fd1 fd2 : FuncData} (F : Fun K "_law_run_due" "_law_run_due" sRD f fd) (T : Txt mg) (C1 : Cal P w K mg base 1 "_law_spelled" ["_law_line", "_law_letters_here"] (spSpelled K) f1 fd1) (C2 : Cal P w K mg base 1 "_law_gap_due" ["_law_seen", "_law_order", "_law_item"] (spGapDue K) f2 fd2) : FnOk P w K mg base CX0 2 f fd ["_law_plan_here", "_law_lines"] (spRunDue K) := by
  refine F.ok scRD (fun vs H Q E h => ?_) (fun cdv A outer s H vs Q E hr h => ?_)
  · obtain ⟨x, y, rows, ls, rfl, _⟩ := h
    rfl
  · obtain ⟨x, y, rows, ls, rfl, hN, hM, hP, hL, hll, hlen, q⟩ := h
    obtain ⟨p, vs, rfl, hS, hvl, hg⟩ := hN.get
    obtain ⟨p2, vs2, rfl, hS2, hvl2, hg2⟩ := hM.get
    refine ⟨_, pss_cons (ps_set (i := 2) scRD.nd rfl (Or.inl rfl) (pe_callB (cr_sortedDt hr.units) (by rfl) T.sorted (by decide +kernel) (pa_cons (pe_lc (own := [("_law_line", 4)]) (g := gName 4) (tt := tYes) rfl scRD.nd (pi_tup (pv 1)) (blkOk_by (N := nRD) (sc := defScope sRD) (by decide +kernel))
          (fun _ _ _ _ _ => pg_name (i := 4) scRD.nd rfl (Or.inl rfl)) (fun _ _ _ _ _ => pts_nil) (fun _ _ _ _ _ => pe_tup (pa_cons (pe_c C1 hr (pa_cons (pv 4) (pa_cons pe_str pa_nil))) (pa_cons (pe_ix (ixT (K := K) rfl) (pv 4) (pe_un un_neg pe_int) (fun _ _ => rfl)) pa_nil)))) pa_nil)))
      (pss_cons (ps_set (i := 3) scRD.nd rfl (Or.inr rfl) (pe_lc (own := [("_law_row", 5)]) (g := gName 5) (tt := tYes) rfl scRD.nd (pi_list (pv 2)) (blkOk_by (N := nRD) (sc := defScope sRD) (by decide +kernel))
          (fun _ _ _ _ _ => pg_name (i := 5) scRD.nd rfl (Or.inl rfl)) (fun _ _ _ _ _ => pts_nil) (fun _ _ _ _ _ => pe_ix (ixT (K := K) rfl) (pv 5) pe_int (fun _ _ => rfl))))
      (pss_one (ps_ret (pe_callTy (cTup (K := K) rfl) (by rfl) T.tuple (by decide +kernel) (pa_cons (pe_lc (own := [("_law_item", 6)]) (g := gName 6) (tt := tYes) rfl scRD.nd (pi_range1 (by rfl) T.range (pa_cons (pe_callB (cLen (K := K) rfl) (by rfl) T.len PySem.boot_len (pa_cons (pv 0) pa_nil)) pa_nil)) (blkOk_by (N := nRD) (sc := defScope sRD) (by decide +kernel))
          (fun _ _ _ _ _ => pg_name (i := 6) scRD.nd rfl (Or.inl rfl)) (fun _ _ _ _ _ => pts_nil) (fun _ _ _ _ _ => pe_c C2 hr (pa_cons (pe_ix (ixT (K := K) rfl) (pv 0) (pv 6) (fun _ _ => rfl)) (pa_cons (pv 3) (pa_cons (pv 6) pa_nil))))) pa_nil))))), ?_⟩
    refine ⟨_, rfl, p2, rfl, ⟨_, hS2⟩, fun D hD => ?_⟩
    refine lc_map walk_tup hD (fun i x => vs2[i]? = some x) (fun i H x H' y => y) (fun Hc s => s_seqT s hS2) (fun i y H => ∃ l t, ls[i]? = some l ∧ y = .ref t ∧ SqT K H t [.str (wd alpha l), iv i]) (fun i y H H' s ⟨l, t, hl, e, h⟩ => ⟨l, t, hl, e, s.seqT h⟩) (by omega) (fun i x Hc Qt hi s yv k => ?_) (fun Hd ys s hD' hl hE => ?_)
    · obtain ⟨l, hl⟩ := lt_get (l := ls) (i := i) (by omega)
      obtain ⟨qa, hqa, sqa⟩ := hg2 i l hl
      rw [hqa] at yv
      cases yv
      obtain ⟨d, ed, _⟩ := hL.form i l hl
      have hll' := hL.len hl
      refine ⟨_, rfl, .ref qa, l, alpha, ?_, ⟨qa, rfl, s_seqT s sqa⟩, fun j hj => by have := hL.lt hl j hj; rw [alpha_len]; omega, by omega, by rw [alpha_len]; decide, fun H' s' => ?_⟩
      · show [V.ref qa, V.str "zyxwvutsrqponmlkjihgfedcba"] ++ [] = _
        rw [alpha_text]
        rfl
      · refine ⟨_, rfl, 1, rfl, qa, _, -1, iv i, rfl, rfl, s_seqT (s.trans s') sqa, ?_, (by show 2 ≤ sizeLine; decide), fun t ht => ?_⟩
        · rw [ed, List.map_append]
          exact atI_last _ _
        · exact k _ _ (s'.trans (same_new ht _)) ⟨l, t, hl, rfl, tupOf upd_same⟩
    · refine ⟨D, ys, Nat, List.range ls.length, encR ls, fun x i => ∃ l t, ls[i]? = some l ∧ x = .ref t ∧ SqT K Hd t [.str (wd alpha l), iv i], rfl, lstOf hD', ?_, ?_, fun b b' => by simp [encR, PySem.W.alike, PySem.W.alikeAll], PySem.W.Sortable.tuples fun b => ⟨_, _, rfl⟩, by rw [List.length_range]; omega, fun b => by simp [encR, PyData.depth, PyData.depthAll], fun zs p3 hz hp3 => ?_⟩
      · refine paired_of (by rw [hl, List.length_range]; omega) fun i x j hx hj => ?_
        obtain ⟨l, t, hl', e, h⟩ := hE i x hx
        rw [List.getElem?_range (get_lt hl')] at hj
        cases hj
        exact ⟨l, t, hl', e, h⟩
      · rintro x i ⟨l, t, hl', rfl, h⟩
        unfold encR
        rw [getD_of hl']
        exact .tup h (.cons (.str _) (.cons (.int _) .nil))
      · have hz : Paired (fun x i => ∃ l t, ls[i]? = some l ∧ x = V.ref t ∧ SqT K Hd t [.str (wd alpha l), iv i]) zs (orderR ls) := hz
        have hol : (orderR ls).length = ls.length := by rw [(orderR_perm ls).length_eq, List.length_range]
        have hzl : zs.length = ls.length := by rw [Paired.length hz, hol]
        have s3 := same_new hp3 (.lst zs)
        refine ⟨_, rfl, p3, rfl, ⟨_, lstOf upd_same⟩, fun o ho => ?_⟩
        refine lc_map walk_list ho (fun i x => zs[i]? = some x) (fun i H x H' y => y) (fun Hc s => s.seq (lstOf upd_same)) (fun i y H => ∃ j, (orderR ls)[i]? = some j ∧ y = iv j) (fun _ _ _ _ _ h => h) (by omega) (fun i x Hc Qt hi s4 yv k => ?_) (fun Hf us s4 ho4 hlu hEu => ?_)
        · obtain ⟨j, hj, l, t, hl', rfl, h⟩ := paired_get hz yv
          exact ⟨_, rfl, t, _, _, iv j, rfl, rfl, s_seqT s4 (s_seqT s3 h), at_nat (i := 1) rfl, k _ _ (Same.refl _) ⟨j, hj, rfl⟩⟩
        · have eu : us = (orderR ls).map iv := ext_of (by rw [hlu, hzl, hol]) hEu
          subst eu
          have s5 := s.trans (s3.trans s4)
          have hperm : (orderR ls).Perm (List.range rows.length) := by rw [← hll]; exact orderR_perm ls
          refine ⟨_, rfl, p, vs, rfl, .inr (s_seqT s5 hS), _, rfl, by omega, by omega, fun D3 hD3 => ?_⟩
          rw [Int.toNat_natCast]
          refine lc_map walk_up hD3 (fun i x => x = iv i) (fun i H x H' y => y) (fun _ _ => True.intro) (fun i y H => ∃ g, (gapsOf rows (orderR ls))[i]? = some g ∧ y = iv g) (fun _ _ _ _ _ h => h) (by omega) (fun i x Hc Qt hi s6 yv k => ?_) (fun Hg ws s6 hD6 hlw hEw => ?_)
          · subst yv
            obtain ⟨r, hr'⟩ := lt_get (l := rows) (i := i) (by omega)
            obtain ⟨qa, hqa, sqa⟩ := hg i r hr'
            have s56 := s5.trans s6
            have hmem : ∀ j, j < rows.length → j ∈ orderR ls := fun j hj => hperm.mem_iff.mpr (List.mem_range.mpr hj)
            refine ⟨_, rfl, _, rfl, p, vs, _, .ref qa, rfl, rfl, s_seqT s56 hS, at_nat hqa, _, rfl, _, rfl, .ref qa, o, r, orderR ls, i, rfl, ⟨qa, rfl, s_seqT s56 sqa⟩, lstOf (s6 _ _ ho4), fun j hj => hmem j (by have := hP.lt i r hr' j hj; omega), hmem i (by omega), by have := hP.row_len hr'; omega, fun H' s' => ?_⟩
            refine k _ _ s' ⟨gapOf r (orderR ls) i, ?_, rfl⟩
            unfold gapsOf
            rw [List.getElem?_map, List.getElem?_range (by omega)]
            show some (gapOf (rows.getD i []) _ i) = _
            rw [getD_of hr']
          · have ew : ws = (gapsOf rows (orderR ls)).map iv := ext_of (by rw [hlw, hvl]; unfold gapsOf; rw [List.length_map, List.length_range]) hEw
            subst ew
            refine ⟨D3, _, rfl, .inl ⟨lstOf hD6, fun u hu' => ?_⟩⟩
            refine q _ _ (s5.trans (s6.trans (same_new hu' _))) ⟨u, rfl, ?_⟩
            rw [← gaps_run hperm (orderR_pw (by omega) hL) hL hll hP]
            exact tupOf upd_same

abbrev nAsk : List Str := ["_law_plan_here", "_law_least", "_law_heap", "_law_lines", "_law_told", "_law_due"]
abbrev sAsk : Stmt := topS 46
theorem scAsk : FnScope nAsk ["_law_plan_here", "_law_least", "_law_heap", "_law_lines"] (defScope sAsk) := ⟨rfl, rfl, rfl, by decide +kernel, rfl, by decide +kernel, by decide +kernel⟩
theorem nt_alike {H : Hp} {x y : V} {r : List Nat} (h1 : NT K H x r) (h2 : NT K H y r) (hl : r.length ≤ 1000) : Alike K H 1 x y := by
  obtain ⟨p, rfl, hp⟩ := h1
  obtain ⟨p2, rfl, hp2⟩ := h2
  refine ⟨p, p2, _, _, rfl, rfl, hp, hp2, ?_, by rw [len_iv]; exact hl⟩
  refine paired_of rfl fun i a b ha hb => ?_
  rw [ha] at hb
  cases hb
  obtain ⟨n, _, rfl⟩ := get_map ha
  exact ⟨(n : Int), rfl, rfl⟩
theorem nn_alike {H : Hp} {x y : V} {rows : List (List Nat)} (h1 : NN K H x rows) (h2 : NN K H y rows) (hl : rows.length ≤ 1000) (hrl : ∀ r ∈ rows, r.length ≤ 1000) : Alike K H 2 x y := by
  obtain ⟨p, vs, rfl, hp, hv⟩ := h1
  obtain ⟨p2, vs2, rfl, hp2, hv2⟩ := h2
  refine ⟨p, p2, vs, vs2, rfl, rfl, hp, hp2, ?_, by rw [Paired.length hv]; exact hl⟩
  refine paired_of (by rw [Paired.length hv, Paired.length hv2]) fun i a b ha hb => ?_
  obtain ⟨r, hr, h⟩ := paired_get hv ha
  obtain ⟨r2, hr2, h2⟩ := paired_get hv2 hb
  rw [hr] at hr2
  cases hr2
  exact nt_alike h h2 (hrl r (List.mem_of_getElem? hr))
theorem ok_law_asked {f f1 f2 f3 f4 f5 : Addr} {fd fd1 fd2 fd3 fd4 fd5 : FuncData} (F : Fun K "_law_asked" "_law_asked" sAsk f fd) (T : Txt mg) (C1 : Cal P w K mg base 5 "heap_run" ["heap", "plan"] (spHeapRun K) f1 fd1) (C2 : Cal P w K mg base 1 "_law_has_all" ["_law_plan_here", "_law_least"] (spHasAll K) f2 fd2)
    (C3 : Cal P w K mg base 2 "_law_run_due" ["_law_plan_here", "_law_lines"] (spRunDue K) f3 fd3) (C4 : Cal P w K mg base 3 "_law_alike" ["_law_told", "_law_due"] (spAlike K 3) f4 fd4) (C5 : Cal P w K mg base 5 "names" ["plan", "run"] (spNames K) f5 fd5) : FnOk P w K mg base CX0 6 f fd ["_law_plan_here", "_law_least", "_law_heap", "_law_lines"] (spAsked K) := by
  refine F.ok scAsk (fun vs H Q E h => ?_) (fun cdv A outer s H vs Q E hr h => ?_)
  · obtain ⟨x, le, l, a, hs, L, rows, ls, rfl, _⟩ := h
    rfl
  · obtain ⟨x, le, l, a, hs, L, rows, ls, rfl, hN, hLe, hA, hLn, hH, hP, hrl, hlen, q⟩ := h
    have hr1 := hr.mono (show 1 ≤ 5 by decide)
    have hr2 := hr.mono (show 2 ≤ 5 by decide)
    have hr3 := hr.mono (show 3 ≤ 5 by decide)
    refine ⟨_, pss_cons (ps_set (i := 4) scAsk.nd rfl (Or.inl rfl) (pe_c C1 hr (pa_cons (pe_callTy (cLst (K := K) rfl) (by rfl) T.list (by decide +kernel) (pa_cons (pv 2) pa_nil)) (pa_cons (pv 0) pa_nil))))
      (pss_cons (ps_if (pt_not (pt_val (pe_c C2 hr1 (pa_cons (pv 0) (pa_cons (pv 1) pa_nil))))) (pss_one (ps_ret (pe_cmp (pc_isN (pv 4)) rfl))) pss_nil)
      (pss_cons (ps_set (i := 5) scAsk.nd rfl (Or.inl rfl) (pe_c C3 hr2 (pa_cons (pv 0) (pa_cons (pv 3) pa_nil))))
      (pss_one (ps_ret (pe_and (pe_c C4 hr3 (pa_cons (pv 4) (pa_cons (pv 5) pa_nil))) (pe_one (pe_c C4 hr3 (pa_cons (pe_c C5 hr (pa_cons (pv 0) (pa_cons (pv 5) pa_nil))) (pa_cons (pv 3) pa_nil))))))))), ?_⟩
    refine ⟨_, rfl, a, _, rfl, .inl hA, fun u hu => ?_⟩
    have s1 := same_new hu (.lst (hs.map V.str))
    refine ⟨_, rfl, u, x, hs, L, ls, rows, rfl, .inl (lstOf upd_same), hH, hN.ls (s_ls s1), hP, hrl, fun y H2 s2 hy => ?_⟩
    have s12 := s1.trans s2
    have hlf : ∀ r ∈ ls, r.length ≤ 100 := fun r hr' => by
      obtain ⟨i, hi⟩ := List.mem_iff_getElem?.mp hr'
      have := hH.lines.len hi
      have := get_lt hi
      omega
    refine ⟨_, rfl, _, rfl, x, le, rows, least ls, rfl, hN.ls (s_ls s12), hLe.ls (s_ls s12), by rw [least_len]; omega, by omega, fun r hr' => ?_, fun H3 s3 => ⟨_, rfl, ?_⟩⟩
    · obtain ⟨l', hl', rfl⟩ := List.mem_map.mp hr'
      have := hlf l' hl'
      rw [List.length_dropLast]
      omega
    · have s13 := s12.trans s3
      have tf := third_fact hP hH.lines hrl.symm
      cases hall : hasAll rows (least ls) with
      | false =>
        refine iteT ?_
        have yn : y = .non := by
          rcases hy with ⟨e, _⟩ | ⟨_, e⟩
          · rw [tf.mp e] at hall
            cases hall
          · exact e
        subst yn
        refine ⟨_, rfl, ?_⟩
        exact q _ s13
      | true =>
        refine iteF ?_
        have hpn := tf.mpr hall
        obtain ⟨hpn, hyr⟩ : pn rows (runOf rows ls) rows.length = ls ∧ NT K H2 y (runOf rows ls) := by
          rcases hy with h | ⟨e, _⟩
          · exact h
          · exact absurd hpn e
        refine ⟨_, rfl, _, rfl, x, l, rows, ls, rfl, hN.ls (s_ls s13), hLn.ls (s_ls s13), hP, hH.lines, hrl.symm, hlen, fun z H4 s4 hz => ?_⟩
        have s14 := s13.trans s4
        have hrunl : (runOf rows ls).length ≤ 1000 := by rw [runOf_runs.1]; omega
        refine ⟨_, rfl, _, rfl, 1, y, z, rfl, by decide, nt_alike (hyr.ls ((s_ls s3).trans (s_ls s4))) hz hrunl, fun H5 s5 => ⟨true, rfl, iteT ?_⟩⟩
        have s15 := s14.trans s5
        refine ⟨_, rfl, _, rfl, x, z, rows, runOf rows ls, rfl, hN.ls (s_ls s15), hz.ls (s_ls s5), hP, runOf_runs, by omega, fun nm H6 s6 hnm => ?_⟩
        rw [hpn] at hnm
        refine ⟨_, rfl, 2, nm, l, rfl, by decide, nn_alike hnm (hLn.ls (s_ls (s15.trans s6))) (by omega) (fun r hr' => by have := hlf r hr'; omega), fun H7 s7 => ?_⟩
        exact q _ (s15.trans (s6.trans s7))
end
end Pb

namespace Pb
open PySem PySem.Spec PyProof.Rows L2
/-- ways are joined behind a statement -/
def tCut (t : TS) : TS := fun D σ H => ∃ R : L2.St → Hp → Prop, (∀ N : L2.St → Hp → Prop, (∀ σ' H', R σ' H' → N σ' H') → t { D with nx := N } σ H) ∧ ∀ σ' H', R σ' H' → D.nx σ' H'
theorem ps_cut {X : Cx} {st : Stmt} {t : TS} (h : PS X st t) : PS X st (tCut t) := ⟨fun pins s σ H D I q => by
  obtain ⟨R, h2, h1⟩ := q
  exact h.run pins s σ H D I (h2 D.nx h1)⟩
theorem pe_weak {X : Cx} {e : Expr} {t t' : TE} (h : PE X e t) (k : ∀ σ H Q, t' σ H Q → t σ H Q) : PE X e t' := ⟨fun pins s σ H Q I hq => h.run pins s σ H Q I (k _ _ _ hq)⟩
/-- a if t else b, both written -/
def tIfI (t : L2.TT) (a b : Int) : TE := fun σ H Q => t σ H fun c H1 => Q (.int (if c = true then a else b)) H1
theorem walk_two {n : Nat} : Walk (Itr 2 n) n (fun _ => True) (YFn fun i => iv (2 + i)) := walk_range.mono (fun _ h => h) fun i H x H' _ _ y => ⟨y.1, y.2.trans (by
  unfold iv
  show V.int (2 + (i : Int)) = V.int _
  congr 1)⟩
theorem perm_back {α β : Type} {f : α → β} : ∀ {l m : List β}, l.Perm m → ∀ {zs : List α}, m = zs.map f → ∃ hs : List α, l = hs.map f ∧ hs.Perm zs := by
  intro l m h
  induction h with
  | nil =>
    intro zs e
    have : zs = [] := by cases zs with
      | nil => rfl
      | cons => simp at e
    subst this
    exact ⟨[], rfl, List.Perm.refl _⟩
  | cons x _ ih =>
    intro zs e
    cases zs with
    | nil => simp at e
    | cons z zs =>
      simp only [List.map_cons, List.cons.injEq] at e
      obtain ⟨hs, e1, hp⟩ := ih e.2
      exact ⟨z :: hs, by rw [List.map_cons, e.1, e1], hp.cons z⟩
  | swap x y l =>
    intro zs e
    cases zs with
    | nil => simp at e
    | cons z zs =>
      cases zs with
      | nil => simp at e
      | cons z2 zs =>
        simp only [List.map_cons, List.cons.injEq] at e
        exact ⟨z2 :: z :: zs, by rw [List.map_cons, List.map_cons, e.1, e.2.1, e.2.2], List.Perm.swap z z2 zs⟩
  | trans _ _ ih1 ih2 =>
    intro zs e
    obtain ⟨hs, e1, hp⟩ := ih2 e
    obtain ⟨hs2, e2, hp2⟩ := ih1 e1
    exact ⟨hs2, e2, hp2.trans hp⟩
theorem cutV_init (l : List Nat) : cutV (l.map iv) none (some (-1)) = l.dropLast.map iv := by
  unfold cutV
  rw [HT.sIx_none, len_iv, Nat.sub_zero, List.drop_zero]
  have e : HT.sIx l.length l.length (some (-1)) = l.length - 1 := by
    show (if (-1 : Int) < 0 then ((-1 : Int) + (l.length : Int)).toNat else min (-1 : Int).toNat l.length) = _
    rw [if_pos (by decide)]
    omega
  rw [e, List.map_dropLast, List.dropLast_eq_take, len_iv]
section
variable {P : Program} {w : World} {K : PySem.W.Frag} {mg : Str → Option Value} {base : Heap}
abbrev nLaw : List Str := ["_law_script", "_law_state_here", "_law_size", "_law_plan_here", "_law_order", "_law_lines", "_law_letters_here", "_law_heap", "_law_least", "_law_k", "_law_line"]
abbrev sLaw : Stmt := topS 47
theorem scLaw : FnScope nLaw ["_law_script"] (defScope sLaw) := ⟨rfl, rfl, rfl, by decide +kernel, rfl, by decide +kernel, by decide +kernel⟩
theorem ok_law {f f1 f2 f3 f4 f5 f6 f7 f8 f9 fa fb fc fe : Addr} {fd fd1 fd2 fd3 fd4 fd5 fd6 fd7 fd8 fd9 fda fdb fdc fde : FuncData} (F : Fun K "law" "law" sLaw f fd) (T : Txt mg)
    (C1 : Cal P w K mg base 1 "_law_state" ["_law_script", "_law_k"] (spState K) f1 fd1) (C2 : Cal P w K mg base 1 "_law_draw" ["_law_state_here", "_law_many"] spDraw f2 fd2) (C3 : Cal P w K mg base 2 "_law_plan" ["_law_state_here", "_law_size"] (spPlanL K) f3 fd3)
    (C4 : Cal P w K mg base 2 "_law_run" ["_law_state_here", "_law_plan_here"] (spRunL K) f4 fd4) (C5 : Cal P w K mg base 1 "_law_document" ["_law_plan_here", "_law_run_here"] (spDoc K) f5 fd5) (C6 : Cal P w K mg base 2 "_law_letters" ["_law_state_here", "_law_size"] spLetters f6 fd6)
    (C7 : Cal P w K mg base 2 "_law_mixed" ["_law_state_here", "_law_things"] (spMixed K) f7 fd7) (C8 : Cal P w K mg base 1 "_law_spelled" ["_law_line", "_law_letters_here"] (spSpelled K) f8 fd8) (C9 : Cal P w K mg base 3 "_law_alike" ["_law_told", "_law_due"] (spAlike K 3) f9 fd9)
    (CA : Cal P w K mg base 3 "least_plan" ["heap"] (spLeast K) fa fda) (CB : Cal P w K mg base 1 "_law_has_all" ["_law_plan_here", "_law_least"] (spHasAll K) fb fdb) (CC : Cal P w K mg base 6 "_law_asked" ["_law_plan_here", "_law_least", "_law_heap", "_law_lines"] (spAsked K) fc fdc)
    (CE : Cal P w K mg base 3 "_law_other" ["_law_state_here", "_law_least"] (spOther K) fe fde) : FnOk P w K mg base CX0 7 f fd ["_law_script"] (spLaw K) := by
  refine F.ok scLaw (fun vs H Q E h => ?_) (fun cdv A outer s H vs Q E hr h => ?_)
  · obtain ⟨a, ns, rfl, _⟩ := h
    rfl
  · obtain ⟨a, ns, rfl, hA, hlen, q⟩ := h
    have r1 := hr.mono (show 1 ≤ 6 by decide)
    have r2 := hr.mono (show 2 ≤ 6 by decide)
    have r3 := hr.mono (show 3 ≤ 6 by decide)
    refine ⟨_, pss_cons (ps_set (i := 1) scLaw.nd rfl (Or.inl rfl) (pe_c C1 r1 (pa_cons (pv 0) (pa_cons pe_int pa_nil))))
      (pss_cons (ps_set (i := 2) scLaw.nd rfl (Or.inl rfl) (pe_op op_add pe_int (pe_c C2 r1 (pa_cons (pv 1) (pa_cons pe_int pa_nil)))))
      (pss_cons (ps_cut (ps_if (pt_cmpR op_eq (pe_c C2 r1 (pa_cons (pv 1) (pa_cons pe_int pa_nil))) pe_int (nomark _)) (pss_one (ps_set (i := 2) scLaw.nd rfl (Or.inl rfl) (pe_op op_add pe_int (pe_c C2 r1 (pa_cons (pv 1) (pa_cons pe_int pa_nil)))))) pss_nil))
      (pss_cons (ps_set (i := 3) scLaw.nd rfl (Or.inl rfl) (pe_c C3 r2 (pa_cons (pv 1) (pa_cons (pv 2) pa_nil))))
      (pss_cons (ps_set (i := 1) scLaw.nd rfl (Or.inl rfl) (pe_c C1 r1 (pa_cons (pv 0) (pa_cons pe_int pa_nil))))
      (pss_cons (ps_asg (pe_c C5 r1 (pa_cons (pv 3) (pa_cons (pe_c C4 r2 (pa_cons (pv 1) (pa_cons (pv 3) pa_nil))) pa_nil))) (pg_tup rfl (pgs_cons (pg_name (i := 4) scLaw.nd rfl (Or.inl rfl)) (pgs_cons (pg_name (i := 5) scLaw.nd rfl (Or.inl rfl)) pgs_nil))))
      (pss_cons (ps_set (i := 6) scLaw.nd rfl (Or.inr rfl) (pe_c C6 r2 (pa_cons (pv 1) (pa_cons (pv 2) pa_nil))))
      (pss_cons (ps_set (i := 7) scLaw.nd rfl (Or.inl rfl) (pe_c C7 r2 (pa_cons (pv 1) (pa_cons (pe_lc (own := [("_law_line", 10)]) (g := gName 10) (tt := tYes) rfl scLaw.nd (pi_tup (pv 5)) (blkOk_by (N := nLaw) (sc := defScope sLaw) (by decide +kernel))
          (fun _ _ _ _ _ => pg_name (i := 10) scLaw.nd rfl (Or.inl rfl)) (fun _ _ _ _ _ => pts_nil) (fun _ _ _ _ _ => pe_c C8 r1 (pa_cons (pv 10) (pa_cons (pv 6) pa_nil)))) pa_nil))))
      (pss_cons (ps_set (i := 8) scLaw.nd rfl (Or.inl rfl) (pe_callTy (cTup (K := K) rfl) (by rfl) T.tuple (by decide +kernel) (pa_cons (pe_lc (own := [("_law_line", 10)]) (g := gName 10) (tt := tYes) rfl scLaw.nd (pi_tup (pv 5)) (blkOk_by (N := nLaw) (sc := defScope sLaw) (by decide +kernel))
          (fun _ _ _ _ _ => pg_name (i := 10) scLaw.nd rfl (Or.inl rfl)) (fun _ _ _ _ _ => pts_nil) (fun _ _ _ _ _ => pe_slice (slA (K := K) rfl) (pv 10) po_none (po_some (pe_un un_neg pe_int)))) pa_nil)))
      (pss_cons (ps_if (PW.pt (pw_or (pt_not (pt_val (pe_c C9 r3 (pa_cons (pe_c CA r3 (pa_cons (pe_callTy (cLst (K := K) rfl) (by rfl) T.list (by decide +kernel) (pa_cons (pv 7) pa_nil)) pa_nil)) (pa_cons (pv 8) pa_nil)))))
          (pw_or1 (pt_not (pt_val (pe_c C9 r3 (pa_cons (pe_c CA r3 (pa_cons (pe_callTy (cTup (K := K) rfl) (by rfl) T.tuple (by decide +kernel) (pa_cons (pe_revL (pv 7)) pa_nil)) pa_nil)) (pa_cons (pv 8) pa_nil)))))))) pss_never pss_nil)
      (pss_cons (ps_if (pt_not (pt_val (pe_c CB r1 (pa_cons (pv 3) (pa_cons (pv 8) pa_nil))))) pss_never pss_nil)
      (pss_cons (ps_if (PW.pt (pw_or (pt_not (pt_val (pe_c CC hr (pa_cons (pv 3) (pa_cons (pv 8) (pa_cons (pv 7) (pa_cons (pv 5) pa_nil)))))))
          (pw_or1 (pt_not (pt_val (pe_c CC hr (pa_cons (pv 8) (pa_cons (pv 8) (pa_cons (pv 7) (pa_cons (pv 5) pa_nil)))))))))) pss_never pss_nil)
      (pss_cons (ps_for PassesOwn.never rfl (pi_range2 (by rfl) T.range (pa_cons pe_int (pa_cons (pe_op op_add pe_int (pe_callB (call_min2 rfl) (by rfl) T.min (by decide +kernel)
            (pa_cons (pe_weak (t' := tIfI (tTest (tOp (rI0 fun i j => .bl (decide (i < j))) (tVar 2) (tC (.int 10)))) 12 3) (pe_ifExp (pt_cmpR op_lt (pv 2) pe_int (nomark _)) pe_int pe_int) (fun σ H Q q => by
                obtain ⟨v, e, i, j, e1, e2, c, e3, q⟩ := q
                refine ⟨v, e, i, j, e1, e2, c, e3, ?_⟩
                cases c with
                | true => exact q
                | false => exact q))
              (pa_cons (pe_callB (call_max2 rfl) (by rfl) T.max (by decide +kernel) (pa_cons pe_int (pa_cons (pe_op op_sub (pe_callB (cLen (K := K) rfl) (by rfl) T.len PySem.boot_len (pa_cons (pv 0) pa_nil)) pe_int) pa_nil))) pa_nil)))) pa_nil))) (pg_name (i := 9) scLaw.nd rfl (Or.inl rfl))
          (pss_one (ps_if (pt_not (pt_val (pe_c CC hr (pa_cons (pe_c CE r3 (pa_cons (pe_c C1 r1 (pa_cons (pv 0) (pa_cons (pv 9) pa_nil))) (pa_cons (pv 8) pa_nil))) (pa_cons (pv 8) (pa_cons (pv 7) (pa_cons (pv 5) pa_nil))))))) pss_never pss_nil)))
      (pss_one (ps_ret (pe_c C9 r3 (pa_cons (pe_c CA r3 (pa_cons (pv 7) pa_nil)) (pa_cons (pv 8) pa_nil))))))))))))))))), ?_⟩
    -- the first state
    refine ⟨_, rfl, a, ns, 0, rfl, hA, hlen, fun st H1 s1 hst0 st1 => ?_⟩
    refine ⟨_, rfl, st, 9, rfl, st1, by decide, by decide, fun d1 H2 hd1 b2 st2 => ?_⟩
    refine ⟨1, (d1 : Int), rfl, rfl, ?_⟩
    have s2 := s_thenB s1 hst0 b2
    refine ⟨fun σ' H' => Same H H' ∧ StAt H' st ∧ ∃ size : Nat, 1 ≤ size ∧ size ≤ 26 ∧ σ' = [some (.ref a), some (.ref st), some (iv size), none, none, none, none, none, none, none, none], fun N k => ?_, ?_⟩
    · refine ⟨_, rfl, st, 4, rfl, st2, by decide, by decide, fun d2 H3 hd2 b3 st3 => ?_⟩
      have s3 := s_thenB s2 hst0 b3
      refine ⟨rfl, _, rfl, ?_⟩
      refine ite2 (fun _ => ?_) (fun _ => k _ _ ⟨s3, st3, 1 + d1, by omega, by omega, ?_⟩)
      · refine ⟨_, rfl, st, 26, rfl, st3, by decide, by decide, fun d3 H4 hd3 b4 st4 => ?_⟩
        refine ⟨1, (d3 : Int), rfl, rfl, ?_⟩
        refine k _ _ ⟨s_thenB s3 hst0 b4, st4, 1 + d3, by omega, by omega, ?_⟩
        show ([some (.ref a), some (.ref st), some (.int (1 + (d3 : Int))), none, none, none, none, none, none, none, none] : L2.St) = _
        rw [show V.int (1 + (d3 : Int)) = iv (1 + d3) from iv_add 1 d3]
      · show ([some (.ref a), some (.ref st), some (.int (1 + (d1 : Int))), none, none, none, none, none, none, none, none] : L2.St) = _
        rw [show V.int (1 + (d1 : Int)) = iv (1 + d1) from iv_add 1 d1]
    rintro σ' H5 ⟨s5, st5, size, hz1, hz26, rfl⟩
    -- the plan
    refine ⟨_, rfl, _, rfl, st, size, rfl, st5, hz1, hz26, fun pl rows H6 b6 st6 hpl hP hrl => ?_⟩
    have s6 := s_thenB s5 hst0 b6
    -- the second state
    refine ⟨_, rfl, a, ns, 1, rfl, s6.seq hA, hlen, fun st' H7 s7 hst7 st7 => ?_⟩
    have s67 := s6.trans s7
    have hst0' : H st' = none := s6.free hst7
    have hpl7 := hpl.ls (s_ls s7)
    -- the document
    have hrow100 : ∀ r ∈ rows, r.length ≤ 100 := fun r hr' => by
      obtain ⟨i, hi⟩ := List.mem_iff_getElem?.mp hr'
      have := hP.row_len hi
      have := get_lt hi
      omega
    refine ⟨_, rfl, _, rfl, _, rfl, st', pl, rows, rfl, st7, hpl7, by omega, hrow100, fun rn run H8 b8 st8 hrn hruns => ?_⟩
    obtain ⟨x7, y7, z7, hst7'⟩ := id st7
    have hpl8 := hpl7.ls (b8.ls hst7')
    have s8 := s_thenB s67 hst0' b8
    refine ⟨pl, rn, rows, run, rfl, hpl8, hrn, hP, hruns, by omega, fun pd o l ls H9 s9 hpd hl hL hll hall => ?_⟩
    have s89 := s8.trans s9
    refine ⟨pd, _, rfl, tupOf hpd, rfl, _, [l], rfl, _, [], rfl, rfl, ?_⟩
    obtain ⟨x8, y8, z8, hst8⟩ := st8
    have st9 : StAt H9 st' := ⟨x8, y8, z8, s9 _ _ hst8⟩
    -- the letters
    refine ⟨_, rfl, _, rfl, st', size, rfl, st9, hz1, hz26, fun L H10 b10 st10 hLo hLl => ?_⟩
    obtain ⟨x9, y9, z9, hst9⟩ := id st9
    have hl10 := hl.ls (b10.ls hst9)
    have hpl10 := (hpl8.ls (s_ls s9)).ls (b10.ls hst9)
    have s10 := s_thenB s89 hst0' b10
    have hlsl : ls.length = L.length := by omega
    have hlt : ∀ (i : Nat) (r : List Nat), ls[i]? = some r → (∀ j ∈ r, j < L.length) ∧ r.length ≤ 100 := fun i r hr' => by
      have := hL.len hr'
      have h3 := get_lt hr'
      refine ⟨fun j hj => ?_, by omega⟩
      have := hL.lt hr' j hj
      omega
    -- the heap
    obtain ⟨lp, lvs, rfl, hlS, hlvl, hlg⟩ := hl10.get
    refine ⟨_, rfl, _, rfl, lp, rfl, ⟨_, hlS⟩, fun D hD => ?_⟩
    refine lc_map walk_tup hD (fun i x => lvs[i]? = some x) (fun i H x H' y => y) (fun Hc s => s_seqT s hlS) (fun i y H => ∃ r, ls[i]? = some r ∧ y = .str (wd L r)) (fun _ _ _ _ _ h => h) (by omega) (fun i x Hc Qt hi s yv k => ?_) (fun H11 ys s11 hD11 hyl hE => ?_)
    · obtain ⟨r, hr'⟩ := lt_get (l := ls) (i := i) (by omega)
      obtain ⟨qa, hqa, sqa⟩ := hlg i r hr'
      rw [hqa] at yv
      cases yv
      obtain ⟨t1, t2⟩ := hlt i r hr'
      exact ⟨_, rfl, _, rfl, .ref qa, r, L, rfl, ⟨qa, rfl, s_seqT s sqa⟩, t1, by omega, by omega, fun H' s' => k _ _ s' ⟨r, hr', rfl⟩⟩
    have ey : ys = (ls.map (wd L)).map V.str := by
      rw [List.map_map]
      exact ext_of (by omega) hE
    subst ey
    obtain ⟨x10, y10, z10, hst10⟩ := id st10
    have st11 : StAt H11 st' := ⟨x10, y10, z10, s11 _ _ hst10⟩
    have hDs : D ≠ st' := fun e => by rw [e, hst10] at hD; cases hD
    refine ⟨st', D, _, rfl, st11, hD11, hDs, by rw [List.length_map, List.length_map]; omega, fun hp hys H12 b12 st12 hhp11 hhp hperm => ?_⟩
    obtain ⟨hs, ehs, hsp⟩ := perm_back hperm rfl
    subst ehs
    have hH : HeapOf hs L ls := ⟨hsp, hL, hlsl.symm, hLo⟩
    have ls12 : LSame H11 H12 := b12.ls (s11 _ _ hst10)
    have s12 := s_thenB (s10.trans s11) hst0' b12
    have hlS12 := ls12.seqT (s_seqT s11 hlS)
    -- least
    refine ⟨_, rfl, lp, rfl, ⟨_, hlS12⟩, fun D2 hD2 => ?_⟩
    refine lc_map walk_tup hD2 (fun i x => lvs[i]? = some x) (fun i H x H' y => y) (fun Hc s => s_seqT s hlS12) (fun i y H => ∃ r, ls[i]? = some r ∧ NT K H y r.dropLast) (fun i y H H' s ⟨r, hr', h⟩ => ⟨r, hr', h.ls s⟩) (by omega) (fun i x Hc Qt hi s yv k => ?_) (fun H13 ds s13 hD13 hdl hdE => ?_)
    · obtain ⟨r, hr'⟩ := lt_get (l := ls) (i := i) (by omega)
      obtain ⟨qa, hqa, sqa⟩ := hlg i r hr'
      rw [hqa] at yv
      cases yv
      refine ⟨_, rfl, 1, rfl, -1, rfl, ?_⟩
      refine sl_reads (s_seqT s (ls12.seqT (s_seqT s11 sqa))) fun p' H' s' h' => ?_
      rw [cutV_init] at h'
      exact k _ _ s' ⟨r, hr', p', rfl, h'⟩
    refine ⟨D2, ds, rfl, .inl ⟨lstOf hD13, fun le hle => ?_⟩⟩
    have s14 := s13.trans (same_new hle (.tup ds))
    have hLe : NN K (upd H13 le (.tup ds)) (.ref le) (least ls) := ⟨le, ds, rfl, tupOf upd_same, paired_of (by rw [least_len]; omega) fun i y r hy hr' => by
      obtain ⟨r2, hr2, h⟩ := hdE i y hy
      rw [least_get, hr2] at hr'
      cases hr'
      exact h.ls (s_ls (same_new hle _))⟩
    have hl14 : NN K (upd H13 le (.tup ds)) (.ref lp) ls := (hl10.ls ((s_ls s11).trans ls12)).ls (s_ls s14)
    have hpl14 : NN K (upd H13 le (.tup ds)) pl rows := (hpl10.ls ((s_ls s11).trans ls12)).ls (s_ls s14)
    have hhp14 : (upd H13 le (.tup ds)) hp = some (.lst (hs.map V.str)) := s14 _ _ hhp
    have sH14 : Same H (upd H13 le (.tup ds)) := s12.trans s14
    generalize upd H13 le (.tup ds) = Hb at hLe hl14 hpl14 hhp14 sH14
    have hll26 : ls.length ≤ 26 := by omega
    have hsmall : ∀ r ∈ least ls, r.length ≤ 1000 := fun r hr' => by
      obtain ⟨r2, hr2, rfl⟩ := List.mem_map.mp hr'
      obtain ⟨i, hi⟩ := List.mem_iff_getElem?.mp hr2
      have := (hlt i r2 hi).2
      rw [List.length_dropLast]
      omega
    have hLel : (least ls).length ≤ 1000 := by rw [least_len]; omega
    -- least_plan(list(heap)), least_plan(tuple(heap[::-1]))
    refine ⟨_, rfl, hp, _, rfl, .inl (lstOf hhp14), fun u1 hu1 => ?_⟩
    have sa := same_new hu1 (.lst (hs.map V.str))
    refine ⟨u1, hs, L, ls, rfl, .inl (lstOf upd_same), hH, fun y1 Ha s2a hy1 => ?_⟩
    have sA := sa.trans s2a
    refine ⟨_, rfl, 2, y1, _, rfl, by decide, nn_alike hy1 (hLe.ls (s_ls sA)) hLel hsmall, fun Hc sc => ⟨true, rfl, iteF ?_⟩⟩
    have sC := sA.trans sc
    refine ⟨_, rfl, hp, _, rfl, lstOf (sC _ _ hhp14), fun u2 hu2 => ⟨u2, _, rfl, .inl ⟨lstOf upd_same, fun u3 hu3 => ?_⟩⟩⟩
    have sd := (same_new hu2 (.lst (hs.map V.str).reverse)).trans (same_new hu3 (.tup (hs.map V.str).reverse))
    have hHr : HeapOf hs.reverse L ls := ⟨(List.reverse_perm hs).trans hsp, hL, hlsl.symm, hLo⟩
    refine ⟨u3, hs.reverse, L, ls, rfl, .inr (by rw [List.map_reverse]; exact tupOf upd_same), hHr, fun y2 Hd2 s2d hy2 => ?_⟩
    have sD := sC.trans (sd.trans s2d)
    refine ⟨_, rfl, 2, y2, _, rfl, by decide, nn_alike hy2 (hLe.ls (s_ls sD)) hLel hsmall, fun He se => ⟨true, rfl, iteF ?_⟩⟩
    have sE := sD.trans se
    -- has_all
    refine ⟨_, rfl, _, rfl, pl, .ref le, rows, least ls, rfl, hpl14.ls (s_ls sE), hLe.ls (s_ls sE), by rw [least_len]; omega, by omega, hsmall, fun Hf sf => ?_⟩
    rw [hall]
    refine ⟨true, rfl, iteF ?_⟩
    have sF := sE.trans sf
    -- asked, twice
    refine ⟨_, rfl, _, rfl, _, rfl, _, rfl, pl, .ref le, .ref lp, hp, hs, L, rows, ls, rfl, hpl14.ls (s_ls sF), hLe.ls (s_ls sF), lstOf (sF _ _ hhp14), hl14.ls (s_ls sF), hH, hP, by omega, by omega, fun Hg sg' => ⟨true, rfl, iteF ?_⟩⟩
    have sG := sF.trans sg'
    refine ⟨_, rfl, _, rfl, _, rfl, _, rfl, .ref le, .ref le, .ref lp, hp, hs, L, least ls, ls, rfl, hLe.ls (s_ls sG), hLe.ls (s_ls sG), lstOf (sG _ _ hhp14), hl14.ls (s_ls sG), hH, hL.plan, least_len, by rw [least_len]; omega, fun Hi si => ⟨true, rfl, iteF ?_⟩⟩
    have sI := sG.trans si
    have sI' := sH14.trans sI
    -- the loop
    have hml : (ns.map V.int).length = ns.length := List.length_map _
    refine ⟨_, rfl, _, _, rfl, rfl, _, rfl, _, rfl, a, _, rfl, .inl (sI'.seq hA), _, 2, rfl, rfl, _, _, rfl, _, _, rfl, 2, _, rfl, rfl, _, _, rfl, ⟨by decide, by decide, ?_, ?_⟩, ?_⟩
    · rw [hml]
      split <;> split <;> split <;> omega
    · rw [hml]
      split <;> split <;> split <;> omega
    refine for_it walk_two (fun i σ' H' => Same Hb H' ∧ ∃ z, σ' = [some (.ref a), some (.ref st'), some (iv size), some pl, some o, some (.ref lp), some (.str (tx L)), some (.ref hp), some (.ref le), z, none]) ⟨sI, none, rfl⟩ (fun _ _ _ _ _ => True.intro) ?_ ?_
    · rintro i x σ' H' H'' hi ⟨sb, z, rfl⟩ ⟨rfl, hx⟩
      have hx : x = iv (2 + i) := hx
      subst hx
      have sHb := sH14.trans sb
      refine ⟨_, rfl, _, rfl, a, ns, 2 + i, rfl, sHb.seq hA, hlen, fun stk K1 t1 hstk stk1 => ?_⟩
      obtain ⟨xk, yk, zk, hstk1⟩ := id stk1
      refine ⟨_, rfl, stk, .ref le, least ls, rfl, stk1, (hLe.ls (s_ls sb)).ls (s_ls t1), hL.plan, by rw [least_len]; omega, by rw [least_len]; omega, fun y rows' K2 b2 stk2 hy hP' hl' => ?_⟩
      have hstkb : Hb stk = none := sb.free hstk
      have sK := s_thenB (sb.trans t1) hstkb b2
      refine ⟨_, rfl, _, rfl, _, rfl, y, .ref le, .ref lp, hp, hs, L, rows', ls, rfl, hy, hLe.ls (s_ls sK), lstOf (sK _ _ hhp14), hl14.ls (s_ls sK), hH, hP', by rw [hl', least_len], by rw [hl', least_len]; omega, fun K3 t3 => ⟨true, rfl, iteF ?_⟩⟩
      exact ⟨sK.trans t3, _, rfl⟩
    · rintro σ' H' ⟨sb, z, rfl⟩
      refine ⟨_, rfl, hp, hs, L, ls, rfl, .inl (lstOf (sb _ _ hhp14)), hH, fun y K1 t1 hy => ?_⟩
      refine ⟨_, rfl, 2, y, _, rfl, by decide, nn_alike hy ((hLe.ls (s_ls sb)).ls (s_ls t1)) hLel hsmall, fun K2 t2 => ?_⟩
      exact q _
end
end Pb

namespace Pb
open PySem PySem.Spec PyProof.Rows L2
/-! ### what the top has written -/
theorem all_mk {l : PySem.W.OpenLaw} {w : World} {K : PySem.W.Frag} {h : Heap} {mg : Str → Option Value} {fa f1 f2 f3 f4 f5 f6 f7 f8 f9 f10 f11 f12 f13 f14 f15 f16 f17 f18 f19 f20 f21 f22 f23 f24 f25 f26 f27 f28 f29 f30 f31 f32 f33 f34 : Addr} (X : K.In h) (G : h.Ns mainGlobals mg) (hfa : mg "law" = some (.ref fa))
    {od1 od2 od3 od4 od5 od6 od7 od8 od9 od10 od11 od12 od13 od14 od15 od16 od17 od18 od19 od20 od21 od22 od23 od24 od25 od26 od27 od28 od29 od30 od31 od32 od33 od34 an1 an2 an3 an4 an5 an6 an7 an8 an9 an10 an11 an12 an13 an14 an15 an16 an17 an18 an19 an20 an21 an22 an23 an24 an25 an26 an27 an28 an29 an30 an31 an32 an33 an34 : Option Addr} {sl1 sl2 sl3 sl4 sl5 sl6 sl7 sl8 sl9 sl10 sl11 sl12 sl13 sl14 sl15 sl16 sl17 sl18 sl19 sl20 sl21 sl22 sl23 sl24 sl25 sl26 sl27 sl28 sl29 sl30 sl31 sl32 sl33 sl34 : Array (Option Value)} {oc1 oc2 oc3 oc4 oc5 oc6 oc7 oc8 oc9 oc10 oc11 oc12 oc13 oc14 oc15 oc16 oc17 oc18 oc19 oc20 oc21 oc22 oc23 oc24 oc25 oc26 oc27 oc28 oc29 oc30 oc31 oc32 oc33 oc34 kV1 kV2 kV3 kV4 kV5 kV6 kV7 kV8 kV9 kV10 kV11 kV12 kV13 kV14 kV15 kV16 kV17 kV18 kV19 kV20 kV21 kV22 kV23 kV24 kV25 kV26 kV27 kV28 kV29 kV30 kV31 kV32 kV33 kV34 dc1 dc2 dc3 dc4 dc5 dc6 dc7 dc8 dc9 dc10 dc11 dc12 dc13 dc14 dc15 dc16 dc17 dc18 dc19 dc20 dc21 dc22 dc23 dc24 dc25 dc26 dc27 dc28 dc29 dc30 dc31 dc32 dc33 dc34 pm1 pm2 pm3 pm4 pm5 pm6 pm7 pm8 pm9 pm10 pm11 pm12 pm13 pm14 pm15 pm16 pm17 pm18 pm19 pm20 pm21 pm22 pm23 pm24 pm25 pm26 pm27 pm28 pm29 pm30 pm31 pm32 pm33 pm34 cd1 cd2 cd3 cd4 cd5 cd6 cd7 cd8 cd9 cd10 cd11 cd12 cd13 cd14 cd15 cd16 cd17 cd18 cd19 cd20 cd21 cd22 cd23 cd24 cd25 cd26 cd27 cd28 cd29 cd30 cd31 cd32 cd33 cd34 ct1 ct2 ct3 ct4 ct5 ct6 ct7 ct8 ct9 ct10 ct11 ct12 ct13 ct14 ct15 ct16 ct17 ct18 ct19 ct20 ct21 ct22 ct23 ct24 ct25 ct26 ct27 ct28 ct29 ct30 ct31 ct32 ct33 ct34 : Value} {tM tL : Tok}
    (a1 : PySem.W.nsIn K mainGlobals "is_integer" = some (some (.ref f1))) (l1 : K.lookup f1 = some ⟨oc1, od1, .func (PySem.W.fnOf "is_integer" "is_integer" (defArgs sIsInt) (defBody sIsInt) (defScope sIsInt) .none kV1 dc1 pm1 an1 cd1 ct1), sl1⟩) (c1 : PySem.W.codeIn K cd1 "is_integer" = true) (k1 : PySem.W.keepIn K (.ref f1) = true)
    (a2 : PySem.W.nsIn K mainGlobals "is_within" = some (some (.ref f2))) (l2 : K.lookup f2 = some ⟨oc2, od2, .func (PySem.W.fnOf "is_within" "is_within" (defArgs sWithin) (defBody sWithin) (defScope sWithin) .none kV2 dc2 pm2 an2 cd2 ct2), sl2⟩) (c2 : PySem.W.codeIn K cd2 "is_within" = true) (k2 : PySem.W.keepIn K (.ref f2) = true)
    (a3 : PySem.W.nsIn K mainGlobals "is_listed" = some (some (.ref f3))) (l3 : K.lookup f3 = some ⟨oc3, od3, .func (PySem.W.fnOf "is_listed" "is_listed" (defArgs sListed) (defBody sListed) (defScope sListed) .none kV3 dc3 pm3 an3 cd3 ct3), sl3⟩) (c3 : PySem.W.codeIn K cd3 "is_listed" = true) (k3 : PySem.W.keepIn K (.ref f3) = true)
    (a4 : PySem.W.nsIn K mainGlobals "are_items" = some (some (.ref f4))) (l4 : K.lookup f4 = some ⟨oc4, od4, .func (PySem.W.fnOf "are_items" "are_items" (defArgs sItems) (defBody sItems) (defScope sItems) .none kV4 dc4 pm4 an4 cd4 ct4), sl4⟩) (c4 : PySem.W.codeIn K cd4 "are_items" = true) (k4 : PySem.W.keepIn K (.ref f4) = true)
    (a5 : PySem.W.nsIn K mainGlobals "is_sound" = some (some (.ref f5))) (l5 : K.lookup f5 = some ⟨oc5, od5, .func (PySem.W.fnOf "is_sound" "is_sound" (defArgs sSound) (defBody sSound) (defScope sSound) .none kV5 dc5 pm5 an5 cd5 ct5), sl5⟩) (c5 : PySem.W.codeIn K cd5 "is_sound" = true) (k5 : PySem.W.keepIn K (.ref f5) = true)
    (a6 : PySem.W.nsIn K mainGlobals "check_plan" = some (some (.ref f6))) (l6 : K.lookup f6 = some ⟨oc6, od6, .func (PySem.W.fnOf "check_plan" "check_plan" (defArgs sCheckPlan) (defBody sCheckPlan) (defScope sCheckPlan) .none kV6 dc6 pm6 an6 cd6 ct6), sl6⟩) (c6 : PySem.W.codeIn K cd6 "check_plan" = true) (k6 : PySem.W.keepIn K (.ref f6) = true)
    (a7 : PySem.W.nsIn K mainGlobals "chain_key" = some (some (.ref f7))) (l7 : K.lookup f7 = some ⟨oc7, od7, .func (PySem.W.fnOf "chain_key" "chain_key" (defArgs sKey) (defBody sKey) (defScope sKey) .none kV7 dc7 pm7 an7 cd7 ct7), sl7⟩) (c7 : PySem.W.codeIn K cd7 "chain_key" = true) (k7 : PySem.W.keepIn K (.ref f7) = true)
    (a8 : PySem.W.nsIn K mainGlobals "is_run" = some (some (.ref f8))) (l8 : K.lookup f8 = some ⟨oc8, od8, .func (PySem.W.fnOf "is_run" "is_run" (defArgs sIsRun) (defBody sIsRun) (defScope sIsRun) .none kV8 dc8 pm8 an8 cd8 ct8), sl8⟩) (c8 : PySem.W.codeIn K cd8 "is_run" = true) (k8 : PySem.W.keepIn K (.ref f8) = true)
    (a9 : PySem.W.nsIn K mainGlobals "check_run" = some (some (.ref f9))) (l9 : K.lookup f9 = some ⟨oc9, od9, .func (PySem.W.fnOf "check_run" "check_run" (defArgs sCheckRun) (defBody sCheckRun) (defScope sCheckRun) .none kV9 dc9 pm9 an9 cd9 ct9), sl9⟩) (c9 : PySem.W.codeIn K cd9 "check_run" = true) (k9 : PySem.W.keepIn K (.ref f9) = true)
    (a10 : PySem.W.nsIn K mainGlobals "gaps_of" = some (some (.ref f10))) (l10 : K.lookup f10 = some ⟨oc10, od10, .func (PySem.W.fnOf "gaps_of" "gaps_of" (defArgs sGaps) (defBody sGaps) (defScope sGaps) .none kV10 dc10 pm10 an10 cd10 ct10), sl10⟩) (c10 : PySem.W.codeIn K cd10 "gaps_of" = true) (k10 : PySem.W.keepIn K (.ref f10) = true)
    (a11 : PySem.W.nsIn K mainGlobals "in_order" = some (some (.ref f11))) (l11 : K.lookup f11 = some ⟨oc11, od11, .func (PySem.W.fnOf "in_order" "in_order" (defArgs sInOrder) (defBody sInOrder) (defScope sInOrder) .none kV11 dc11 pm11 an11 cd11 ct11), sl11⟩) (c11 : PySem.W.codeIn K cd11 "in_order" = true) (k11 : PySem.W.keepIn K (.ref f11) = true)
    (a12 : PySem.W.nsIn K mainGlobals "plain_names" = some (some (.ref f12))) (l12 : K.lookup f12 = some ⟨oc12, od12, .func (PySem.W.fnOf "plain_names" "plain_names" (defArgs sPlain) (defBody sPlain) (defScope sPlain) .none kV12 dc12 pm12 an12 cd12 ct12), sl12⟩) (c12 : PySem.W.codeIn K cd12 "plain_names" = true) (k12 : PySem.W.keepIn K (.ref f12) = true)
    (a13 : PySem.W.nsIn K mainGlobals "names" = some (some (.ref f13))) (l13 : K.lookup f13 = some ⟨oc13, od13, .func (PySem.W.fnOf "names" "names" (defArgs sNames) (defBody sNames) (defScope sNames) .none kV13 dc13 pm13 an13 cd13 ct13), sl13⟩) (c13 : PySem.W.codeIn K cd13 "names" = true) (k13 : PySem.W.keepIn K (.ref f13) = true)
    (a14 : PySem.W.nsIn K mainGlobals "is_falling" = some (some (.ref f14))) (l14 : K.lookup f14 = some ⟨oc14, od14, .func (PySem.W.fnOf "is_falling" "is_falling" (defArgs sFalling) (defBody sFalling) (defScope sFalling) .none kV14 dc14 pm14 an14 cd14 ct14), sl14⟩) (c14 : PySem.W.codeIn K cd14 "is_falling" = true) (k14 : PySem.W.keepIn K (.ref f14) = true)
    (a15 : PySem.W.nsIn K mainGlobals "check_heap" = some (some (.ref f15))) (l15 : K.lookup f15 = some ⟨oc15, od15, .func (PySem.W.fnOf "check_heap" "check_heap" (defArgs sCheckHeap) (defBody sCheckHeap) (defScope sCheckHeap) .none kV15 dc15 pm15 an15 cd15 ct15), sl15⟩) (c15 : PySem.W.codeIn K cd15 "check_heap" = true) (k15 : PySem.W.keepIn K (.ref f15) = true)
    (a16 : PySem.W.nsIn K mainGlobals "sorted_heap" = some (some (.ref f16))) (l16 : K.lookup f16 = some ⟨oc16, od16, .func (PySem.W.fnOf "sorted_heap" "sorted_heap" (defArgs sSH) (defBody sSH) (defScope sSH) .none kV16 dc16 pm16 an16 cd16 ct16), sl16⟩) (c16 : PySem.W.codeIn K cd16 "sorted_heap" = true) (k16 : PySem.W.keepIn K (.ref f16) = true)
    (a17 : PySem.W.nsIn K mainGlobals "least_plan" = some (some (.ref f17))) (l17 : K.lookup f17 = some ⟨oc17, od17, .func (PySem.W.fnOf "least_plan" "least_plan" (defArgs sLeast) (defBody sLeast) (defScope sLeast) .none kV17 dc17 pm17 an17 cd17 ct17), sl17⟩) (c17 : PySem.W.codeIn K cd17 "least_plan" = true) (k17 : PySem.W.keepIn K (.ref f17) = true)
    (a18 : PySem.W.nsIn K mainGlobals "heap_run" = some (some (.ref f18))) (l18 : K.lookup f18 = some ⟨oc18, od18, .func (PySem.W.fnOf "heap_run" "heap_run" (defArgs sHR) (defBody sHR) (defScope sHR) .none kV18 dc18 pm18 an18 cd18 ct18), sl18⟩) (c18 : PySem.W.codeIn K cd18 "heap_run" = true) (k18 : PySem.W.keepIn K (.ref f18) = true)
    (a19 : PySem.W.nsIn K mainGlobals "_law_state" = some (some (.ref f19))) (l19 : K.lookup f19 = some ⟨oc19, od19, .func (PySem.W.fnOf "_law_state" "_law_state" (defArgs sState) (defBody sState) (defScope sState) .none kV19 dc19 pm19 an19 cd19 ct19), sl19⟩) (c19 : PySem.W.codeIn K cd19 "_law_state" = true) (k19 : PySem.W.keepIn K (.ref f19) = true)
    (a20 : PySem.W.nsIn K mainGlobals "_law_draw" = some (some (.ref f20))) (l20 : K.lookup f20 = some ⟨oc20, od20, .func (PySem.W.fnOf "_law_draw" "_law_draw" (defArgs sDraw) (defBody sDraw) (defScope sDraw) .none kV20 dc20 pm20 an20 cd20 ct20), sl20⟩) (c20 : PySem.W.codeIn K cd20 "_law_draw" = true) (k20 : PySem.W.keepIn K (.ref f20) = true)
    (a21 : PySem.W.nsIn K mainGlobals "_law_plan" = some (some (.ref f21))) (l21 : K.lookup f21 = some ⟨oc21, od21, .func (PySem.W.fnOf "_law_plan" "_law_plan" (defArgs sPlanL) (defBody sPlanL) (defScope sPlanL) .none kV21 dc21 pm21 an21 cd21 ct21), sl21⟩) (c21 : PySem.W.codeIn K cd21 "_law_plan" = true) (k21 : PySem.W.keepIn K (.ref f21) = true)
    (a22 : PySem.W.nsIn K mainGlobals "_law_run" = some (some (.ref f22))) (l22 : K.lookup f22 = some ⟨oc22, od22, .func (PySem.W.fnOf "_law_run" "_law_run" (defArgs sRunL) (defBody sRunL) (defScope sRunL) .none kV22 dc22 pm22 an22 cd22 ct22), sl22⟩) (c22 : PySem.W.codeIn K cd22 "_law_run" = true) (k22 : PySem.W.keepIn K (.ref f22) = true)
    (a23 : PySem.W.nsIn K mainGlobals "_law_document" = some (some (.ref f23))) (l23 : K.lookup f23 = some ⟨oc23, od23, .func (PySem.W.fnOf "_law_document" "_law_document" (defArgs sDoc) (defBody sDoc) (defScope sDoc) .none kV23 dc23 pm23 an23 cd23 ct23), sl23⟩) (c23 : PySem.W.codeIn K cd23 "_law_document" = true) (k23 : PySem.W.keepIn K (.ref f23) = true)
    (a24 : PySem.W.nsIn K mainGlobals "_law_letters" = some (some (.ref f24))) (l24 : K.lookup f24 = some ⟨oc24, od24, .func (PySem.W.fnOf "_law_letters" "_law_letters" (defArgs sLet) (defBody sLet) (defScope sLet) .none kV24 dc24 pm24 an24 cd24 ct24), sl24⟩) (c24 : PySem.W.codeIn K cd24 "_law_letters" = true) (k24 : PySem.W.keepIn K (.ref f24) = true)
    (a25 : PySem.W.nsIn K mainGlobals "_law_spelled" = some (some (.ref f25))) (l25 : K.lookup f25 = some ⟨oc25, od25, .func (PySem.W.fnOf "_law_spelled" "_law_spelled" (defArgs sSpell) (defBody sSpell) (defScope sSpell) .none kV25 dc25 pm25 an25 cd25 ct25), sl25⟩) (c25 : PySem.W.codeIn K cd25 "_law_spelled" = true) (k25 : PySem.W.keepIn K (.ref f25) = true)
    (a26 : PySem.W.nsIn K mainGlobals "_law_mixed" = some (some (.ref f26))) (l26 : K.lookup f26 = some ⟨oc26, od26, .func (PySem.W.fnOf "_law_mixed" "_law_mixed" (defArgs sMix) (defBody sMix) (defScope sMix) .none kV26 dc26 pm26 an26 cd26 ct26), sl26⟩) (c26 : PySem.W.codeIn K cd26 "_law_mixed" = true) (k26 : PySem.W.keepIn K (.ref f26) = true)
    (a27 : PySem.W.nsIn K mainGlobals "_law_alike" = some (some (.ref f27))) (l27 : K.lookup f27 = some ⟨oc27, od27, .func (PySem.W.fnOf "_law_alike" "_law_alike" (defArgs sAlike) (defBody sAlike) (defScope sAlike) .none kV27 dc27 pm27 an27 cd27 ct27), sl27⟩) (c27 : PySem.W.codeIn K cd27 "_law_alike" = true) (k27 : PySem.W.keepIn K (.ref f27) = true)
    (a28 : PySem.W.nsIn K mainGlobals "_law_closed" = some (some (.ref f28))) (l28 : K.lookup f28 = some ⟨oc28, od28, .func (PySem.W.fnOf "_law_closed" "_law_closed" (defArgs sClosed) (defBody sClosed) (defScope sClosed) .none kV28 dc28 pm28 an28 cd28 ct28), sl28⟩) (c28 : PySem.W.codeIn K cd28 "_law_closed" = true) (k28 : PySem.W.keepIn K (.ref f28) = true)
    (a29 : PySem.W.nsIn K mainGlobals "_law_other" = some (some (.ref f29))) (l29 : K.lookup f29 = some ⟨oc29, od29, .func (PySem.W.fnOf "_law_other" "_law_other" (defArgs sOther) (defBody sOther) (defScope sOther) .none kV29 dc29 pm29 an29 cd29 ct29), sl29⟩) (c29 : PySem.W.codeIn K cd29 "_law_other" = true) (k29 : PySem.W.keepIn K (.ref f29) = true)
    (a30 : PySem.W.nsIn K mainGlobals "_law_has_all" = some (some (.ref f30))) (l30 : K.lookup f30 = some ⟨oc30, od30, .func (PySem.W.fnOf "_law_has_all" "_law_has_all" (defArgs sAll) (defBody sAll) (defScope sAll) .none kV30 dc30 pm30 an30 cd30 ct30), sl30⟩) (c30 : PySem.W.codeIn K cd30 "_law_has_all" = true) (k30 : PySem.W.keepIn K (.ref f30) = true)
    (a31 : PySem.W.nsIn K mainGlobals "_law_gap_due" = some (some (.ref f31))) (l31 : K.lookup f31 = some ⟨oc31, od31, .func (PySem.W.fnOf "_law_gap_due" "_law_gap_due" (defArgs sGD) (defBody sGD) (defScope sGD) .none kV31 dc31 pm31 an31 cd31 ct31), sl31⟩) (c31 : PySem.W.codeIn K cd31 "_law_gap_due" = true) (k31 : PySem.W.keepIn K (.ref f31) = true)
    (a32 : PySem.W.nsIn K mainGlobals "_law_run_due" = some (some (.ref f32))) (l32 : K.lookup f32 = some ⟨oc32, od32, .func (PySem.W.fnOf "_law_run_due" "_law_run_due" (defArgs sRD) (defBody sRD) (defScope sRD) .none kV32 dc32 pm32 an32 cd32 ct32), sl32⟩) (c32 : PySem.W.codeIn K cd32 "_law_run_due" = true) (k32 : PySem.W.keepIn K (.ref f32) = true)
    (a33 : PySem.W.nsIn K mainGlobals "_law_asked" = some (some (.ref f33))) (l33 : K.lookup f33 = some ⟨oc33, od33, .func (PySem.W.fnOf "_law_asked" "_law_asked" (defArgs sAsk) (defBody sAsk) (defScope sAsk) .none kV33 dc33 pm33 an33 cd33 ct33), sl33⟩) (c33 : PySem.W.codeIn K cd33 "_law_asked" = true) (k33 : PySem.W.keepIn K (.ref f33) = true)
    (a34 : PySem.W.nsIn K mainGlobals "law" = some (some (.ref f34))) (l34 : K.lookup f34 = some ⟨oc34, od34, .func (PySem.W.fnOf "law" "law" (defArgs sLaw) (defBody sLaw) (defScope sLaw) .none kV34 dc34 pm34 an34 cd34 ct34), sl34⟩) (c34 : PySem.W.codeIn K cd34 "law" = true) (k34 : PySem.W.keepIn K (.ref f34) = true)
    (z1 : PySem.W.nsIn K mainGlobals "len" = some none) (z2 : PySem.W.nsIn K mainGlobals "all" = some none) (z3 : PySem.W.nsIn K mainGlobals "tuple" = some none) (z4 : PySem.W.nsIn K mainGlobals "list" = some none) (z5 : PySem.W.nsIn K mainGlobals "int" = some none) (z6 : PySem.W.nsIn K mainGlobals "str" = some none) (z7 : PySem.W.nsIn K mainGlobals "bool" = some none) (z8 : PySem.W.nsIn K mainGlobals "isinstance" = some none) (z9 : PySem.W.nsIn K mainGlobals "enumerate" = some none) (z10 : PySem.W.nsIn K mainGlobals "zip" = some none) (z11 : PySem.W.nsIn K mainGlobals "range" = some none) (z12 : PySem.W.nsIn K mainGlobals "sorted" = some none) (z13 : PySem.W.nsIn K mainGlobals "min" = some none) (z14 : PySem.W.nsIn K mainGlobals "max" = some none)
    (cM : PySem.W.nsIn K mainGlobals "MOST_ITEMS" = some (some (.int 40 tM))) (cL : PySem.W.nsIn K mainGlobals "LETTERS" = some (some (.str "zyxwvutsrqponmlkjihgfedcba" tL))) :
    ∃ fd : FuncData, (∀ (s : Shared) (v : Value), BindsTo s fd ⟨[v], []⟩ [("_law_script", v)]) ∧ ∀ base : Heap, K.In base → base.Ns mainGlobals mg → FnOk l.prog w K mg base CX0 7 fa fd ["_law_script"] (spLaw K) := by
  have e := hfa.symm.trans (PySem.W.mg_of X G a34)
  cases e
  have T : Txt mg := ⟨PySem.W.mg_none_of X G z1, PySem.W.mg_none_of X G z2, PySem.W.mg_none_of X G z3, PySem.W.mg_none_of X G z4, PySem.W.mg_none_of X G z5, PySem.W.mg_none_of X G z6, PySem.W.mg_none_of X G z7, PySem.W.mg_none_of X G z8, PySem.W.mg_none_of X G z9, PySem.W.mg_none_of X G z10, PySem.W.mg_none_of X G z11, PySem.W.mg_none_of X G z12, PySem.W.mg_none_of X G z13, PySem.W.mg_none_of X G z14, ⟨tM, PySem.W.mg_of X G cM⟩, ⟨tL, by rw [← alpha_text]; exact PySem.W.mg_of X G cL⟩⟩
  have F1 := fun_mk (st := sIsInt) l1 c1 k1
  have F2 := fun_mk (st := sWithin) l2 c2 k2
  have F3 := fun_mk (st := sListed) l3 c3 k3
  have F4 := fun_mk (st := sItems) l4 c4 k4
  have F5 := fun_mk (st := sSound) l5 c5 k5
  have F6 := fun_mk (st := sCheckPlan) l6 c6 k6
  have F7 := fun_mk (st := sKey) l7 c7 k7
  have F8 := fun_mk (st := sIsRun) l8 c8 k8
  have F9 := fun_mk (st := sCheckRun) l9 c9 k9
  have F10 := fun_mk (st := sGaps) l10 c10 k10
  have F11 := fun_mk (st := sInOrder) l11 c11 k11
  have F12 := fun_mk (st := sPlain) l12 c12 k12
  have F13 := fun_mk (st := sNames) l13 c13 k13
  have F14 := fun_mk (st := sFalling) l14 c14 k14
  have F15 := fun_mk (st := sCheckHeap) l15 c15 k15
  have F16 := fun_mk (st := sSH) l16 c16 k16
  have F17 := fun_mk (st := sLeast) l17 c17 k17
  have F18 := fun_mk (st := sHR) l18 c18 k18
  have F19 := fun_mk (st := sState) l19 c19 k19
  have F20 := fun_mk (st := sDraw) l20 c20 k20
  have F21 := fun_mk (st := sPlanL) l21 c21 k21
  have F22 := fun_mk (st := sRunL) l22 c22 k22
  have F23 := fun_mk (st := sDoc) l23 c23 k23
  have F24 := fun_mk (st := sLet) l24 c24 k24
  have F25 := fun_mk (st := sSpell) l25 c25 k25
  have F26 := fun_mk (st := sMix) l26 c26 k26
  have F27 := fun_mk (st := sAlike) l27 c27 k27
  have F28 := fun_mk (st := sClosed) l28 c28 k28
  have F29 := fun_mk (st := sOther) l29 c29 k29
  have F30 := fun_mk (st := sAll) l30 c30 k30
  have F31 := fun_mk (st := sGD) l31 c31 k31
  have F32 := fun_mk (st := sRD) l32 c32 k32
  have F33 := fun_mk (st := sAsk) l33 c33 k33
  have F34 := fun_mk (st := sLaw) l34 c34 k34
  have b1 := F1.binds (ps := ["thing"]) fun _ _ _ _ _ _ us hl => match us, hl with | [_], _ => rfl
  have b2 := F2.binds (ps := ["thing", "least", "most"]) fun _ _ _ _ _ _ us hl => match us, hl with | [_, _, _], _ => rfl
  have b3 := F3.binds (ps := ["thing"]) fun _ _ _ _ _ _ us hl => match us, hl with | [_], _ => rfl
  have b4 := F4.binds (ps := ["thing", "bound"]) fun _ _ _ _ _ _ us hl => match us, hl with | [_, _], _ => rfl
  have b5 := F5.binds (ps := ["thing"]) fun _ _ _ _ _ _ us hl => match us, hl with | [_], _ => rfl
  have b6 := F6.binds (ps := ["thing"]) fun _ _ _ _ _ _ us hl => match us, hl with | [_], _ => rfl
  have b7 := F7.binds (ps := ["chain"]) fun _ _ _ _ _ _ us hl => match us, hl with | [_], _ => rfl
  have b8 := F8.binds (ps := ["plan", "thing"]) fun _ _ _ _ _ _ us hl => match us, hl with | [_, _], _ => rfl
  have b9 := F9.binds (ps := ["plan", "thing"]) fun _ _ _ _ _ _ us hl => match us, hl with | [_, _], _ => rfl
  have b10 := F10.binds (ps := ["plan", "order"]) fun _ _ _ _ _ _ us hl => match us, hl with | [_, _], _ => rfl
  have b11 := F11.binds (ps := ["items", "names"]) fun _ _ _ _ _ _ us hl => match us, hl with | [_, _], _ => rfl
  have b12 := F12.binds (ps := ["plan", "run"]) fun _ _ _ _ _ _ us hl => match us, hl with | [_, _], _ => rfl
  have b13 := F13.binds (ps := ["plan", "run"]) fun _ _ _ _ _ _ us hl => match us, hl with | [_, _], _ => rfl
  have b14 := F14.binds (ps := ["thing"]) fun _ _ _ _ _ _ us hl => match us, hl with | [_], _ => rfl
  have b15 := F15.binds (ps := ["heap"]) fun _ _ _ _ _ _ us hl => match us, hl with | [_], _ => rfl
  have b16 := F16.binds (ps := ["heap"]) fun _ _ _ _ _ _ us hl => match us, hl with | [_], _ => rfl
  have b17 := F17.binds (ps := ["heap"]) fun _ _ _ _ _ _ us hl => match us, hl with | [_], _ => rfl
  have b18 := F18.binds (ps := ["heap", "plan"]) fun _ _ _ _ _ _ us hl => match us, hl with | [_, _], _ => rfl
  have b19 := F19.binds (ps := ["_law_script", "_law_k"]) fun _ _ _ _ _ _ us hl => match us, hl with | [_, _], _ => rfl
  have b20 := F20.binds (ps := ["_law_state_here", "_law_many"]) fun _ _ _ _ _ _ us hl => match us, hl with | [_, _], _ => rfl
  have b21 := F21.binds (ps := ["_law_state_here", "_law_size"]) fun _ _ _ _ _ _ us hl => match us, hl with | [_, _], _ => rfl
  have b22 := F22.binds (ps := ["_law_state_here", "_law_plan_here"]) fun _ _ _ _ _ _ us hl => match us, hl with | [_, _], _ => rfl
  have b23 := F23.binds (ps := ["_law_plan_here", "_law_run_here"]) fun _ _ _ _ _ _ us hl => match us, hl with | [_, _], _ => rfl
  have b24 := F24.binds (ps := ["_law_state_here", "_law_size"]) fun _ _ _ _ _ _ us hl => match us, hl with | [_, _], _ => rfl
  have b25 := F25.binds (ps := ["_law_line", "_law_letters_here"]) fun _ _ _ _ _ _ us hl => match us, hl with | [_, _], _ => rfl
  have b26 := F26.binds (ps := ["_law_state_here", "_law_things"]) fun _ _ _ _ _ _ us hl => match us, hl with | [_, _], _ => rfl
  have b27 := F27.binds (ps := ["_law_told", "_law_due"]) fun _ _ _ _ _ _ us hl => match us, hl with | [_, _], _ => rfl
  have b28 := F28.binds (ps := ["_law_rows"]) fun _ _ _ _ _ _ us hl => match us, hl with | [_], _ => rfl
  have b29 := F29.binds (ps := ["_law_state_here", "_law_least"]) fun _ _ _ _ _ _ us hl => match us, hl with | [_, _], _ => rfl
  have b30 := F30.binds (ps := ["_law_plan_here", "_law_least"]) fun _ _ _ _ _ _ us hl => match us, hl with | [_, _], _ => rfl
  have b31 := F31.binds (ps := ["_law_seen", "_law_order", "_law_item"]) fun _ _ _ _ _ _ us hl => match us, hl with | [_, _, _], _ => rfl
  have b32 := F32.binds (ps := ["_law_plan_here", "_law_lines"]) fun _ _ _ _ _ _ us hl => match us, hl with | [_, _], _ => rfl
  have b33 := F33.binds (ps := ["_law_plan_here", "_law_least", "_law_heap", "_law_lines"]) fun _ _ _ _ _ _ us hl => match us, hl with | [_, _, _, _], _ => rfl
  refine ⟨PySem.W.fnOf "law" "law" (defArgs sLaw) (defBody sLaw) (defScope sLaw) .none kV34 dc34 pm34 an34 cd34 ct34, fun s v => .of_eq rfl, fun base _ _ => ?_⟩
  have C1 : Cal l.prog w K mg base 1 "is_integer" ["thing"] (spIsInt) f1 _ := ⟨ok_is_integer (P := l.prog) (w := w) (base := base) F1 T, PySem.W.mg_of X G a1, k1, b1⟩
  have C2 : Cal l.prog w K mg base 2 "is_within" ["thing", "least", "most"] (spWithin) f2 _ := ⟨ok_is_within (P := l.prog) (w := w) (base := base) F2 C1, PySem.W.mg_of X G a2, k2, b2⟩
  have C3 : Cal l.prog w K mg base 1 "is_listed" ["thing"] (spListed K) f3 _ := ⟨ok_is_listed (P := l.prog) (w := w) (base := base) F3 T, PySem.W.mg_of X G a3, k3, b3⟩
  have C4 : Cal l.prog w K mg base 2 "are_items" ["thing", "bound"] (spItems K) f4 _ := ⟨ok_are_items (P := l.prog) (w := w) (base := base) F4 T C1, PySem.W.mg_of X G a4, k4, b4⟩
  have C5 : Cal l.prog w K mg base 3 "is_sound" ["thing"] (spSound K) f5 _ := ⟨ok_is_sound (P := l.prog) (w := w) (base := base) F5 T C4, PySem.W.mg_of X G a5, k5, b5⟩
  have C6 : Cal l.prog w K mg base 4 "check_plan" ["thing"] (spCheckPlan K) f6 _ := ⟨ok_check_plan (P := l.prog) (w := w) (base := base) F6 C5, PySem.W.mg_of X G a6, k6, b6⟩
  have C7 : Cal l.prog w K mg base 1 "chain_key" ["chain"] (spKey K) f7 _ := ⟨ok_chain_key (P := l.prog) (w := w) (base := base) F7 T, PySem.W.mg_of X G a7, k7, b7⟩
  have C8 : Cal l.prog w K mg base 3 "is_run" ["plan", "thing"] (spIsRun K (.bl true)) f8 _ := ⟨ok_is_run (P := l.prog) (w := w) (base := base) F8 T C2, PySem.W.mg_of X G a8, k8, b8⟩
  have C9 : Cal l.prog w K mg base 4 "check_run" ["plan", "thing"] (spIsRun K .non) f9 _ := ⟨ok_check_run (P := l.prog) (w := w) (base := base) F9 C8, PySem.W.mg_of X G a9, k9, b9⟩
  have C10 : Cal l.prog w K mg base 1 "gaps_of" ["plan", "order"] (spGaps K) f10 _ := ⟨ok_gaps_of (P := l.prog) (w := w) (base := base) F10 T, PySem.W.mg_of X G a10, k10, b10⟩
  have C11 : Cal l.prog w K mg base 2 "in_order" ["items", "names"] (spInOrder K) f11 _ := ⟨ok_in_order (P := l.prog) (w := w) (base := base) F11 T C7, PySem.W.mg_of X G a11, k11, b11⟩
  have C12 : Cal l.prog w K mg base 3 "plain_names" ["plan", "run"] (spPlain K) f12 _ := ⟨ok_plain_names (P := l.prog) (w := w) (base := base) F12 T C11, PySem.W.mg_of X G a12, k12, b12⟩
  have C13 : Cal l.prog w K mg base 5 "names" ["plan", "run"] (spNames K) f13 _ := ⟨ok_names (P := l.prog) (w := w) (base := base) F13 T C6 C9 C12, PySem.W.mg_of X G a13, k13, b13⟩
  have C14 : Cal l.prog w K mg base 1 "is_falling" ["thing"] (spFalling K) f14 _ := ⟨ok_is_falling (P := l.prog) (w := w) (base := base) F14 T, PySem.W.mg_of X G a14, k14, b14⟩
  have C15 : Cal l.prog w K mg base 2 "check_heap" ["heap"] (spCheckHeap K) f15 _ := ⟨ok_check_heap (P := l.prog) (w := w) (base := base) F15 T C3 C14, PySem.W.mg_of X G a15, k15, b15⟩
  have C16 : Cal l.prog w K mg base 1 "sorted_heap" ["heap"] (spSortedHeap K) f16 _ := ⟨ok_sorted_heap (P := l.prog) (w := w) (base := base) F16 T, PySem.W.mg_of X G a16, k16, b16⟩
  have C17 : Cal l.prog w K mg base 3 "least_plan" ["heap"] (spLeast K) f17 _ := ⟨ok_least_plan (P := l.prog) (w := w) (base := base) F17 T C15 C16, PySem.W.mg_of X G a17, k17, b17⟩
  have C18 : Cal l.prog w K mg base 5 "heap_run" ["heap", "plan"] (spHeapRun K) f18 _ := ⟨ok_heap_run (P := l.prog) (w := w) (base := base) F18 T C15 C6 C16 C10 C12, PySem.W.mg_of X G a18, k18, b18⟩
  have C19 : Cal l.prog w K mg base 1 "_law_state" ["_law_script", "_law_k"] (spState K) f19 _ := ⟨ok_law_state (P := l.prog) (w := w) (base := base) F19 T, PySem.W.mg_of X G a19, k19, b19⟩
  have C20 : Cal l.prog w K mg base 1 "_law_draw" ["_law_state_here", "_law_many"] (spDraw) f20 _ := ⟨ok_law_draw (P := l.prog) (w := w) (base := base) F20 T, PySem.W.mg_of X G a20, k20, b20⟩
  have C21 : Cal l.prog w K mg base 2 "_law_plan" ["_law_state_here", "_law_size"] (spPlanL K) f21 _ := ⟨ok_law_plan (P := l.prog) (w := w) (base := base) F21 T C20, PySem.W.mg_of X G a21, k21, b21⟩
  have C22 : Cal l.prog w K mg base 2 "_law_run" ["_law_state_here", "_law_plan_here"] (spRunL K) f22 _ := ⟨ok_law_run (P := l.prog) (w := w) (base := base) F22 T C20, PySem.W.mg_of X G a22, k22, b22⟩
  have C23 : Cal l.prog w K mg base 1 "_law_document" ["_law_plan_here", "_law_run_here"] (spDoc K) f23 _ := ⟨ok_law_document (P := l.prog) (w := w) (base := base) F23 T, PySem.W.mg_of X G a23, k23, b23⟩
  have C24 : Cal l.prog w K mg base 2 "_law_letters" ["_law_state_here", "_law_size"] (spLetters) f24 _ := ⟨ok_law_letters (P := l.prog) (w := w) (base := base) F24 T C20, PySem.W.mg_of X G a24, k24, b24⟩
  have C25 : Cal l.prog w K mg base 1 "_law_spelled" ["_law_line", "_law_letters_here"] (spSpelled K) f25 _ := ⟨ok_law_spelled (P := l.prog) (w := w) (base := base) F25 T, PySem.W.mg_of X G a25, k25, b25⟩
  have C26 : Cal l.prog w K mg base 2 "_law_mixed" ["_law_state_here", "_law_things"] (spMixed K) f26 _ := ⟨ok_law_mixed (P := l.prog) (w := w) (base := base) F26 T C20, PySem.W.mg_of X G a26, k26, b26⟩
  have C27 : Cal l.prog w K mg base 3 "_law_alike" ["_law_told", "_law_due"] (spAlike K 3) f27 _ := ⟨ok_law_alike (P := l.prog) (w := w) (base := base) F27 T (PySem.W.mg_of X G a27) b27 3, PySem.W.mg_of X G a27, k27, b27⟩
  have C28 : Cal l.prog w K mg base 1 "_law_closed" ["_law_rows"] (spClosed K) f28 _ := ⟨ok_law_closed (P := l.prog) (w := w) (base := base) F28 T, PySem.W.mg_of X G a28, k28, b28⟩
  have C29 : Cal l.prog w K mg base 3 "_law_other" ["_law_state_here", "_law_least"] (spOther K) f29 _ := ⟨ok_law_other (P := l.prog) (w := w) (base := base) F29 T C20 C21 C28, PySem.W.mg_of X G a29, k29, b29⟩
  have C30 : Cal l.prog w K mg base 1 "_law_has_all" ["_law_plan_here", "_law_least"] (spHasAll K) f30 _ := ⟨ok_law_has_all (P := l.prog) (w := w) (base := base) F30 T, PySem.W.mg_of X G a30, k30, b30⟩
  have C31 : Cal l.prog w K mg base 1 "_law_gap_due" ["_law_seen", "_law_order", "_law_item"] (spGapDue K) f31 _ := ⟨ok_law_gap_due (P := l.prog) (w := w) (base := base) F31 T, PySem.W.mg_of X G a31, k31, b31⟩
  have C32 : Cal l.prog w K mg base 2 "_law_run_due" ["_law_plan_here", "_law_lines"] (spRunDue K) f32 _ := ⟨ok_law_run_due (P := l.prog) (w := w) (base := base) F32 T C25 C31, PySem.W.mg_of X G a32, k32, b32⟩
  have C33 : Cal l.prog w K mg base 6 "_law_asked" ["_law_plan_here", "_law_least", "_law_heap", "_law_lines"] (spAsked K) f33 _ := ⟨ok_law_asked (P := l.prog) (w := w) (base := base) F33 T C18 C30 C32 C27 C13, PySem.W.mg_of X G a33, k33, b33⟩
  exact ok_law F34 T C19 C20 C21 C22 C23 C24 C26 C25 C27 C17 C30 C33 C29
theorem walk {l : PySem.W.OpenLaw} {q : Program} {loose : List Str} {XP : (Str → Option Value) → Heap → Prop} {YP : World → Heap → Prop} {d : DefRec} {K : Params → PySem.W.Frag} (hn : l.most = some 63) (hdf : d.params.defaults = [])
    (hY : ∀ (w : World) (h : Heap), YP w h → (K w.params).In h)
    (F : ∀ (w : World) (mg : Str → Option Value) (fa : Addr) (h : Heap), (K w.params).In h → h.Ns mainGlobals mg → mg d.name = some (.ref fa) →
      ∃ fd : FuncData, (∀ (s : Shared) (u : Value), BindsTo s fd ⟨[u], []⟩ [("_law_script", u)]) ∧ ∀ base : Heap, (K w.params).In base → base.Ns mainGlobals mg → FnOk l.prog w (K w.params) mg base CX0 7 fa fd ["_law_script"] (spLaw (K w.params))) :
    PySem.W.WalkO q loose XP YP l.row.toRowW d [] (fun f vs => PySem.call f vs) :=
  L2.walk_of (n := 63) (k := 7) (x := "_law_script") (CX := fun _ => CX0) (sp := fun w => spLaw (K w.params)) hn (by decide) hdf ⟨rfl, by decide, by decide⟩ hY F (fun _ _ a ns hl _ hS => ⟨a, ns, rfl, hS, hl, fun _ => rfl⟩) fun _ _ _ _ _ z => z
end Pb
open PySem PySem.W PyProof.Rows
set_option maxRecDepth 100000 in
set_option maxHeartbeats 0 in
theorem PySem.Challenge.cw_putbetween_k30_whole_least_plan_is_least_holds : PySem.Challenge.rw_putbetween_k30_whole_least_plan_is_least.Holds := by
  w_on; o_law; k_head; (case hw => w_witness2)
  k_fill
  refine Pb.walk (l := PySem.Challenge.rw_putbetween_k30_whole_least_plan_is_least) rfl rfl (fun w h Y => PySem.W.kIn_of Y) ?F
  case F =>
    intro w mg fa h KX G hmg
    refine' Pb.all_mk KX G hmg ?a1 ?l1 ?c1 ?k1 ?a2 ?l2 ?c2 ?k2 ?a3 ?l3 ?c3 ?k3 ?a4 ?l4 ?c4 ?k4 ?a5 ?l5 ?c5 ?k5 ?a6 ?l6 ?c6 ?k6 ?a7 ?l7 ?c7 ?k7 ?a8 ?l8 ?c8 ?k8 ?a9 ?l9 ?c9 ?k9 ?a10 ?l10 ?c10 ?k10 ?a11 ?l11 ?c11 ?k11 ?a12 ?l12 ?c12 ?k12 ?a13 ?l13 ?c13 ?k13 ?a14 ?l14 ?c14 ?k14 ?a15 ?l15 ?c15 ?k15 ?a16 ?l16 ?c16 ?k16 ?a17 ?l17 ?c17 ?k17 ?a18 ?l18 ?c18 ?k18 ?a19 ?l19 ?c19 ?k19 ?a20 ?l20 ?c20 ?k20 ?a21 ?l21 ?c21 ?k21 ?a22 ?l22 ?c22 ?k22 ?a23 ?l23 ?c23 ?k23 ?a24 ?l24 ?c24 ?k24 ?a25 ?l25 ?c25 ?k25 ?a26 ?l26 ?c26 ?k26 ?a27 ?l27 ?c27 ?k27 ?a28 ?l28 ?c28 ?k28 ?a29 ?l29 ?c29 ?k29 ?a30 ?l30 ?c30 ?k30 ?a31 ?l31 ?c31 ?k31 ?a32 ?l32 ?c32 ?k32 ?a33 ?l33 ?c33 ?k33 ?a34 ?l34 ?c34 ?k34 ?z1 ?z2 ?z3 ?z4 ?z5 ?z6 ?z7 ?z8 ?z9 ?z10 ?z11 ?z12 ?z13 ?z14 ?cM ?cL
    (case a1 => k_is); (case l1 => k_is); (case c1 => k_is); (case k1 => k_is)
    (case a2 => k_is); (case l2 => k_is); (case c2 => k_is); (case k2 => k_is)
    (case a3 => k_is); (case l3 => k_is); (case c3 => k_is); (case k3 => k_is)
    (case a4 => k_is); (case l4 => k_is); (case c4 => k_is); (case k4 => k_is)
    (case a5 => k_is); (case l5 => k_is); (case c5 => k_is); (case k5 => k_is)
    (case a6 => k_is); (case l6 => k_is); (case c6 => k_is); (case k6 => k_is)
    (case a7 => k_is); (case l7 => k_is); (case c7 => k_is); (case k7 => k_is)
    (case a8 => k_is); (case l8 => k_is); (case c8 => k_is); (case k8 => k_is)
    (case a9 => k_is); (case l9 => k_is); (case c9 => k_is); (case k9 => k_is)
    (case a10 => k_is); (case l10 => k_is); (case c10 => k_is); (case k10 => k_is)
    (case a11 => k_is); (case l11 => k_is); (case c11 => k_is); (case k11 => k_is)
    (case a12 => k_is); (case l12 => k_is); (case c12 => k_is); (case k12 => k_is)
    (case a13 => k_is); (case l13 => k_is); (case c13 => k_is); (case k13 => k_is)
    (case a14 => k_is); (case l14 => k_is); (case c14 => k_is); (case k14 => k_is)
    (case a15 => k_is); (case l15 => k_is); (case c15 => k_is); (case k15 => k_is)
    (case a16 => k_is); (case l16 => k_is); (case c16 => k_is); (case k16 => k_is)
    (case a17 => k_is); (case l17 => k_is); (case c17 => k_is); (case k17 => k_is)
    (case a18 => k_is); (case l18 => k_is); (case c18 => k_is); (case k18 => k_is)
    (case a19 => k_is); (case l19 => k_is); (case c19 => k_is); (case k19 => k_is)
    (case a20 => k_is); (case l20 => k_is); (case c20 => k_is); (case k20 => k_is)
    (case a21 => k_is); (case l21 => k_is); (case c21 => k_is); (case k21 => k_is)
    (case a22 => k_is); (case l22 => k_is); (case c22 => k_is); (case k22 => k_is)
    (case a23 => k_is); (case l23 => k_is); (case c23 => k_is); (case k23 => k_is)
    (case a24 => k_is); (case l24 => k_is); (case c24 => k_is); (case k24 => k_is)
    (case a25 => k_is); (case l25 => k_is); (case c25 => k_is); (case k25 => k_is)
    (case a26 => k_is); (case l26 => k_is); (case c26 => k_is); (case k26 => k_is)
    (case a27 => k_is); (case l27 => k_is); (case c27 => k_is); (case k27 => k_is)
    (case a28 => k_is); (case l28 => k_is); (case c28 => k_is); (case k28 => k_is)
    (case a29 => k_is); (case l29 => k_is); (case c29 => k_is); (case k29 => k_is)
    (case a30 => k_is); (case l30 => k_is); (case c30 => k_is); (case k30 => k_is)
    (case a31 => k_is); (case l31 => k_is); (case c31 => k_is); (case k31 => k_is)
    (case a32 => k_is); (case l32 => k_is); (case c32 => k_is); (case k32 => k_is)
    (case a33 => k_is); (case l33 => k_is); (case c33 => k_is); (case k33 => k_is)
    (case a34 => k_is); (case l34 => k_is); (case c34 => k_is); (case k34 => k_is)
    (case z1 => k_is); (case z2 => k_is); (case z3 => k_is); (case z4 => k_is)
    (case z5 => k_is); (case z6 => k_is); (case z7 => k_is); (case z8 => k_is)
    (case z9 => k_is); (case z10 => k_is); (case z11 => k_is); (case z12 => k_is)
    (case z13 => k_is); (case z14 => k_is); (case cM => k_is); (case cL => k_is)
#print axioms PySem.Challenge.cw_putbetween_k30_whole_least_plan_is_least_holds
