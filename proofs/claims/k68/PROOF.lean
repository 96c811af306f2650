import PyProof.Rows.All
import Wide.All
import OpenK.AllK
import Wide.FinOn
import HandS.ForMost
import HandS.Wide
import HandS.TupAny
import HandS.TupMul
import HandS.Style
import HandS.IsInst
import HandS.Exc
import KE.GoesEnum
import HandS.Walk
import KE.GoesMore
import KE.GoesZip
import KE.KDictPairs
import HandS.Dict
import PySem.Challenge.RW_cutsumsways_k68_whole_slips_round_and_ro
set_option Elab.async false
set_option linter.all false
set_option maxRecDepth 100000
set_option maxHeartbeats 4000000
/-! enumerate and zip over lists and tuples in any mix, at the hand layer's level -/
namespace PySem
open Sem (wp)
set_option maxHeartbeats 1000000 in
theorem meets_enumerate_newB1 {v : Value} {o : Obj} {H : Heap → Prop} (B : Begins v o H) :
    Meets (Builtin.«enumerate.__new__» ⟨[.type "enumerate", v], []⟩) (fun _ R s => H s.heap ∧
      R (.ok (.ret (.ref (s.heap.push o).objs.size))) { s with heap := (s.heap.push o).push { cls := .type "enumerate", data := .fields #[.none, .bool false, .ref s.heap.objs.size, rawInt 0, .none, .none] } }) :=
  .of_wp fun prog w A R s h => by
    obtain ⟨hp, g, d, tk, os⟩ := s; obtain ⟨h1, h⟩ := h
    have hsub := sub_enumerate
    have q1 : ∀ {A' : Around} {E : Value → Shared → Prop} {Q : Value → Shared → Prop}, Q (.ref hp.objs.size) ⟨hp.push o, g, d, tk, os⟩ → wpAny (model prog w) A' (pyIter v) Q E ⟨hp, g, d, tk, os⟩ :=
      fun q => B.iter prog w _ _ ⟨hp, g, d, tk, os⟩ _ h1 q
    wp_walk using q1
    refine wpAny_stack_any fun st => wpAny_pure ?_
    split
    · rename_i c _ _ _ _ _
      cases (c == Value.type "enumerate")
      · wp_walk using q1
        exact ⟨_, rfl, h⟩
      · wp_walk using q1
        exact ⟨_, rfl, h⟩
    · wp_walk using q1
      exact ⟨_, rfl, h⟩
section
variable {prog : Program} {w : World} {A : Around} {E : Value → Shared → Prop} {s : Shared}
theorem enum_begins1 {v : Value} {o : Obj} {H : Heap → Prop} {Q : Value → Shared → Prop} (B : Begins v o H) (h1 : H s.heap)
    (h : ∀ h', IsEnum h' (s.heap.objs.size + 1) s.heap.objs.size 0 .none → h'.get? s.heap.objs.size = some o → h'.objs.size = s.heap.objs.size + 2 →
      (∀ b o, s.heap.get? b = some o → h'.get? b = some o) → Q (.ref (s.heap.objs.size + 1)) { s with heap := h' }) :
    wpAny (model prog w) A (call (.type "enumerate") [v]) Q E s := by
  refine callType_new F.called_enumerate (by decide) (F.typeCall_enumerate_1 _) (F.newCall_enumerate_1 _) (fun obj => F.args_object_init_2 obj _) F.entry_enumerate_new
    (meets_enumerate_newB1 B) ⟨h1, ?_⟩
  have hz : (s.heap.push o).objs.size = s.heap.objs.size + 1 := Heap.size_push ..
  show _ ∧ _
  rw [hz]
  have he : IsEnum ((s.heap.push o).push { cls := .type "enumerate", data := .fields #[.none, .bool false, .ref s.heap.objs.size, rawInt 0, .none, .none] }) (s.heap.objs.size + 1) s.heap.objs.size 0 .none := by
    have := Heap.get?_push_size (s.heap.push o) (o := { cls := .type "enumerate", data := .fields #[.none, .bool false, .ref s.heap.objs.size, rawInt 0, .none, .none] }) rfl
    rw [hz] at this; exact this
  refine ⟨⟨_, he, rfl⟩, h _ he (Heap.get?_push_of_some _ (Heap.get?_push_size _ B.free)) (by rw [Heap.size_push, hz]) fun b o x => Heap.get?_push_of_some _ (Heap.get?_push_of_some _ x)⟩
end
end PySem
namespace Y
open PySem PySem.Spec PyProof.Rows L2

inductive Kd where | L | T
def SqK (κ : Kd) (K : PySem.W.Frag) (H : Hp) (a : Addr) (xs : List V) : Prop := match κ with | .L => SqL K H a xs | .T => SqT K H a xs
def ItAt (κ : Kd) (h : Heap) (it a : Addr) (i : Nat) : Prop := match κ with | .L => h.IsListIter it a i | .T => h.IsTupleIter it a i
def SeqAtH (κ : Kd) (h : Heap) (a : Addr) (items : Array Value) : Prop := match κ with | .L => h.IsList a items | .T => h.IsTuple a items
theorem SeqAtH.lt {κ : Kd} {h : Heap} {a : Addr} {items : Array Value} (x : SeqAtH κ h a items) : a < h.objs.size := by
  cases κ with
  | L => obtain ⟨o, e, _⟩ := x; exact Heap.lt_size e
  | T => obtain ⟨o, e, _⟩ := x; exact Heap.lt_size e
theorem ItAt.lt {κ : Kd} {h : Heap} {it a : Addr} {i : Nat} (x : ItAt κ h it a i) : it < h.objs.size := by
  cases κ with
  | L => obtain ⟨o, e, _⟩ := x; exact Heap.lt_size e
  | T => obtain ⟨o, e, _⟩ := x; exact Heap.lt_size e
theorem ItAt.ob {κ : Kd} {h : Heap} {it a : Addr} {i : Nat} (x : ItAt κ h it a i) : ∃ o, h.get? it = some o ∧ ∀ v, o.data ≠ .cell v := by
  cases κ with
  | L => obtain ⟨o, e, c, d⟩ := x; exact ⟨o, e, fun v z => by rw [d] at z; cases z⟩
  | T => obtain ⟨o, e, c, d⟩ := x; exact ⟨o, e, fun v z => by rw [d] at z; cases z⟩
theorem ItAt.at {κ : Kd} {h h' : Heap} {it a : Addr} {i : Nat} (x : ItAt κ h it a i) (k : ∀ o, h.get? it = some o → h'.get? it = some o) : ItAt κ h' it a i := by
  cases κ with
  | L => obtain ⟨o, e, c, d⟩ := x; exact ⟨o, k o e, c, d⟩
  | T => obtain ⟨o, e, c, d⟩ := x; exact ⟨o, k o e, c, d⟩
theorem drawsK (κ : Kd) {prog : Program} {w : World} {A : Around} (hh : A.handled = none) (it a : Addr) (hne : a ≠ it) (items : Array Value) :
    Draws prog w A it [it, a] items.size (fun i v => items[i]? = some v) (fun i h => ItAt κ h it a i ∧ SeqAtH κ h a items) := by
  cases κ with
  | L => exact Draws.list hh it a hne items
  | T => exact Draws.tuple hh it a hne items
def itObj (κ : Kd) (a : Addr) : Obj := match κ with | .L => { cls := .type "list_iterator", data := .fields #[.ref a, .int 0 0] } | .T => { cls := .type "tuple_iterator", data := .fields #[.ref a, .int 0 0] }
theorem beginsK (κ : Kd) (a : Addr) (items : Array Value) : Begins (.ref a) (itObj κ a) fun h => SeqAtH κ h a items := by
  cases κ with
  | L => exact begins_list a items
  | T => exact begins_tuple a items
theorem itAt_new {κ : Kd} {h : Heap} {it a : Addr} (e : h.get? it = some (itObj κ a)) : ItAt κ h it a 0 := by
  cases κ with
  | L => exact ⟨_, e, rfl, rfl⟩
  | T => exact ⟨_, e, rfl, rfl⟩
section
variable {X : Cx} {pins : List (Addr × Obj)} {σ : L2.St} {H : Hp} {s : Shared} {a : Addr} {xs ys : List V} {κ : Kd}
theorem seqK (I : Inv X pins σ H s) (h : SqK κ X.K H a xs) : ∃ its : List Value, Vals xs its ∧ SeqAtH κ s.heap a its.toArray ∧ xs.length ≤ sizeLine := by
  cases κ with
  | L => obtain ⟨its, rv, p, hz⟩ := I.list h; exact ⟨its, rv, p.isList, hz⟩
  | T => obtain ⟨its, rv, p, hz⟩ := I.tuple h; exact ⟨its, rv, p, hz⟩
theorem seqK_inj (I : Inv X pins σ H s) (h : SqK κ X.K H a xs) (h' : SqK κ X.K H a ys) : xs = ys := by
  cases κ with
  | L => exact I.list_inj h h'
  | T => exact I.tuple_inj h h'
end

/-- a new plain pair of the i-th of xs and the i-th of ys -/
def YPairF (xs ys : Nat → Option V) : Nat → Hp → V → Hp → Prop := fun i H v H' => ∃ T x y o, v = .ref T ∧ H T = none ∧ Obj.dict o = none ∧ H' = upd H T (.frz o (.tup [x, y])) ∧ xs i = some x ∧ ys i = some y
/-! ### enumerate -/
def ItE (κ : Kd) (K : PySem.W.Frag) (a : Addr) (k₀ : Int) : It :=
  ⟨fun i H => ∃ (xs : List V) (x : V), SqK κ K H a xs ∧ xs[i]? = some x, fun i H v H' => ∃ T x o, v = .ref T ∧ H T = none ∧ Obj.dict o = none ∧ H' = upd H T (.frz o (.tup [.int (k₀ + (i : Nat)), x])) ∧ ∀ xs, SqK κ K H a xs → xs[i]? = some x, fun i H => ∃ xs : List V, SqK κ K H a xs ∧ xs.length = i⟩
theorem turn_enumK {P : Program} {w : World} {K : PySem.W.Frag} {elts : List Expr} {kk : Nat} {tpos : Pos} (κ : Kd) (a e it : Addr) (k₀ : Int) (hai : a ≠ it) (hae : a ≠ e) :
    Turn P w K (.Tuple elts kk tpos) (ItE κ K a k₀) [e, it] e (fun i h => (∃ old, IsEnum h e it (k₀ + ((i : Nat) : Int)) old) ∧ ItAt κ h it a i ∧ e ≠ it) where
  mem := by simp
  obj := fun i h st b hb => by
    obtain ⟨⟨old, he⟩, hi, _⟩ := st
    have e' : b = e ∨ b = it := by simpa using hb
    rcases e' with z | z
    · rw [z]; exact ⟨_, he, fun v q => nomatch q⟩
    · rw [z]; exact hi.ob
  keep := fun i h h' st k => let ⟨⟨old, he⟩, hi, hne⟩ := st; ⟨⟨old, k e (by simp) _ he⟩, hi.at fun o q => k it (by simp) o q, hne⟩
  item := by
    intro X hP hw hK hc i pins s σ H E I hf st hg
    subst hP hw hK
    obtain ⟨⟨old, he⟩, hit, hne⟩ := st
    obtain ⟨xs, x, hq, hx⟩ := hg
    obtain ⟨its, rv, p, hz⟩ := seqK I hq
    obtain ⟨u, hu, ru⟩ := rv.get hx
    have hel : e < s.heap.objs.size := Heap.lt_size he
    have hil : it < s.heap.objs.size := hit.lt
    have hlt : i < its.toArray.size := by
      obtain ⟨h1, _⟩ := List.getElem?_eq_some_iff.mp hu
      simpa using h1
    refine wpAny_pyNext_enum_itemC (drawsK κ (prog := X.prog) (w := X.w) (A := X.A.in1) (show X.A.in1.handled = none from I.ok.hd hc) it a hai its.toArray) he ⟨hit, p⟩ hlt hne
      (by simp only [List.mem_cons, List.not_mem_nil, or_false, not_or]; exact ⟨hne, fun z => hae z.symm⟩) fun x' h' tk hP ho hst' hT hsz hk => ?_
    have ex : x' = u := by
      have q : some u = some x' := by simpa [hu] using hP
      exact (Option.some.inj q).symm
    subst ex
    refine ⟨_, rfl, wpAny_letOwnedTupleGo_enum (s := { s with heap := h', toks := tk + 1 }) ho fun h'' he' sb => ?_⟩
    have hT2 : h''.get? s.heap.objs.size = some { cls := .type "tuple", data := .seq #[.int (k₀ + (i : Nat)) tk, x'] } := (sb.2 _ (Nat.ne_of_gt hel)).trans hT
    have new : ObjOk X.prog X.w (upd H s.heap.objs.size (.frz { cls := .type "tuple", data := .seq #[.int (k₀ + (i : Nat)) tk, x'] } (.tup [.int (k₀ + (i : Nat)), x]))) h'' s.heap.objs.size (.frz { cls := .type "tuple", data := .seq #[.int (k₀ + (i : Nat)) tk, x'] } (.tup [.int (k₀ + (i : Nat)), x])) :=
      ⟨hT2, by show 2 ≤ sizeLine; decide, [.int (k₀ + (i : Nat)) tk, x'], .cons ⟨_, rfl⟩ (.cons ru .nil), ⟨_, hT2, rfl, _, rfl⟩⟩
    have I1 : Inv X pins σ (upd H s.heap.objs.size (.frz { cls := .type "tuple", data := .seq #[.int (k₀ + (i : Nat)) tk, x'] } (.tup [.int (k₀ + (i : Nat)), x]))) { s with heap := h'', toks := tk + 1 } :=
      I.turnedNew (ch := [e, it]) (fun b ob hb q => (sb.2 b (fun z => hb (by simp [z]))).trans (hk b ob (fun z => hb (by simp [z])) (fun z => hb (by simp [z])) q)) hf (Nat.le_refl _) new
    refine ⟨.ref s.heap.objs.size, _, I1, rfl, ⟨_, x, _, rfl, I.hok.fresh (Nat.le_refl _), rfl, rfl, fun ys hy => by rw [seqK_inj I hy hq]; exact hx⟩, ⟨⟨x', ?_⟩, hst'.1.at fun o q => (sb.2 it (Ne.symm hne)).trans q, hne⟩, fun b hb => ?_⟩
    · have e1 : k₀ + ((i + 1 : Nat) : Int) = k₀ + (i : Int) + 1 := by omega
      rw [e1]; exact he'
    · have hb' : b < s.heap.objs.size := by
        have e' : b = e ∨ b = it := by simpa using hb
        rcases e' with z | z
        · rw [z]; exact hel
        · rw [z]; exact hil
      rw [upd_ne (Nat.ne_of_lt hb')]
      exact (hf b hb).1
  done := by
    intro X hP hw hK hc i pins s σ H E I hf st hg
    subst hP hw hK
    obtain ⟨⟨old, he⟩, hit, hne⟩ := st
    obtain ⟨xs, hq, hx⟩ := hg
    obtain ⟨its, rv, p, hz⟩ := seqK I hq
    obtain ⟨f0, f1, f2, f3, f4, f5⟩ := hf it (by simp)
    have hl := rv.length
    have hn : i = its.toArray.size := by simp; omega
    refine wpAny_pyNext_enum_endD (drawsK κ (prog := X.prog) (w := X.w) (A := X.A.in1) (show X.A.in1.handled = none from I.ok.hd hc) it a hai its.toArray) he ⟨hn ▸ hit, p⟩ fun h' eb => ⟨rfl, I.turned (t' := s.toks) (fun b o hb q => eb b o hb q) f0 f1 f3 f4 f5⟩
  self := fun A i s Q E st h => let ⟨⟨_, he⟩, _⟩ := st; wpAny_pyIter_enum he h
theorem walk_enumK {κ : Kd} {K : PySem.W.Frag} {a : Addr} {xs : List V} {k₀ : Int} : Walk (ItE κ K a k₀) xs.length (fun H => SqK κ K H a xs) (YPairF (fun i => some (.int (k₀ + (i : Nat)))) (fun i => xs[i]?)) := by
  refine ⟨fun i _ hi q => ⟨xs, xs[i], q, by simp [hi]⟩, fun _ q => ⟨xs, q, rfl⟩, fun i H v H' _ q y => ?_⟩
  obtain ⟨T, x, o, h1, h2, h0, h3, h4⟩ := y
  exact ⟨T, .int (k₀ + (i : Nat)), x, o, h1, h2, h0, h3, rfl, h4 xs q⟩

/-! ### zip -/
def ItZ (κ κ' : Kd) (K : PySem.W.Frag) (a b : Addr) : It :=
  ⟨fun i H => ∃ (xs ys : List V) (x y : V), SqK κ K H a xs ∧ SqK κ' K H b ys ∧ xs[i]? = some x ∧ ys[i]? = some y,
    fun i H v H' => ∃ T x y o, v = .ref T ∧ H T = none ∧ Obj.dict o = none ∧ H' = upd H T (.frz o (.tup [x, y])) ∧ (∀ xs, SqK κ K H a xs → xs[i]? = some x) ∧ ∀ ys, SqK κ' K H b ys → ys[i]? = some y,
    fun i H => ∃ xs ys : List V, SqK κ K H a xs ∧ SqK κ' K H b ys ∧ i = min xs.length ys.length⟩
theorem turn_zipK {P : Program} {w : World} {K : PySem.W.Frag} {elts : List Expr} {kk : Nat} {tpos : Pos} {κ κ' : Kd} {a b z TI TO i1 i2 : Addr} (D : ZipSep2 z TI TO i1 i2 [i1, a] [i2, b]) (ha1 : a ≠ i1) (hb2 : b ≠ i2) :
    Turn P w K (.Tuple elts kk tpos) (ItZ κ κ' K a b) [z, TI, TO, i1, i2] z (fun i h => IsZip h z TI TO .none ∧ IsTupOf2 h TI (.ref i1) (.ref i2) ∧ (∃ x y, IsTupOf2 h TO x y) ∧ ItAt κ h i1 a i ∧ ItAt κ' h i2 b i) where
  mem := by simp
  obj := fun i h st c hc => by
    obtain ⟨hz, hTI, ⟨x, y, hTO⟩, h1, h2⟩ := st
    have e' : c = z ∨ c = TI ∨ c = TO ∨ c = i1 ∨ c = i2 := by simpa using hc
    rcases e' with q | q | q | q | q
    · rw [q]; exact ⟨_, hz, fun v q => nomatch q⟩
    · rw [q]; exact ⟨_, hTI, fun v q => nomatch q⟩
    · rw [q]; exact ⟨_, hTO, fun v q => nomatch q⟩
    · rw [q]; exact h1.ob
    · rw [q]; exact h2.ob
  keep := fun i h h' st k => by
    obtain ⟨hz, hTI, ⟨x, y, hTO⟩, h1, h2⟩ := st
    exact ⟨k z (by simp) _ hz, k TI (by simp) _ hTI, ⟨x, y, k TO (by simp) _ hTO⟩, h1.at fun o q => k i1 (by simp) o q, h2.at fun o q => k i2 (by simp) o q⟩
  item := by
    intro X hP hw hK hc i pins s σ H E I hf st hg
    subst hP hw hK
    obtain ⟨hz, hTI, ⟨x0, y0, hTO⟩, h1, h2⟩ := st
    obtain ⟨xs, ys, x, y, hqx, hqy, hx, hy⟩ := hg
    obtain ⟨its, rv, p, _⟩ := seqK I hqx
    obtain ⟨its2, rv2, p2, _⟩ := seqK I hqy
    obtain ⟨u, hu, ru⟩ := rv.get hx
    obtain ⟨u2, hu2, ru2⟩ := rv2.get hy
    have hzl : z < s.heap.objs.size := Heap.lt_size hz
    have hlt1 : i < its.toArray.size := by
      obtain ⟨h1, _⟩ := List.getElem?_eq_some_iff.mp hu
      simpa using h1
    have hlt2 : i < its2.toArray.size := by
      obtain ⟨h1, _⟩ := List.getElem?_eq_some_iff.mp hu2
      simpa using h1
    refine wpAny_pyNext_zipD2_item D (drawsK κ (prog := X.prog) (w := X.w) (A := X.A.in1) (show X.A.in1.handled = none from I.ok.hd hc) i1 a ha1 its.toArray)
      (drawsK κ' (prog := X.prog) (w := X.w) (A := X.A.in1) (show X.A.in1.handled = none from I.ok.hd hc) i2 b hb2 its2.toArray) hz hTI hTO ⟨h1, p⟩ ⟨h2, p2⟩ hlt1 hlt2 fun x1 x2 h' tk y1 y2 z' TO' h1' h2' hT hsz hk => ?_
    have ex : x1 = u := by
      have q : some u = some x1 := by simpa [hu] using y1
      exact (Option.some.inj q).symm
    have ey : x2 = u2 := by
      have q : some u2 = some x2 := by simpa [hu2] using y2
      exact (Option.some.inj q).symm
    subst ex ey
    refine ⟨_, rfl, wpAny_letOwnedTupleGo_zip (s := { s with heap := h', toks := tk }) z' fun h'' z'' sb => ?_⟩
    have hT2 : h''.get? s.heap.objs.size = some { cls := .type "tuple", data := .seq #[x1, x2] } := (sb.2 _ (Nat.ne_of_gt hzl)).trans hT
    have new : ObjOk X.prog X.w (upd H s.heap.objs.size (.frz { cls := .type "tuple", data := .seq #[x1, x2] } (.tup [x, y]))) h'' s.heap.objs.size (.frz { cls := .type "tuple", data := .seq #[x1, x2] } (.tup [x, y])) :=
      ⟨hT2, by show 2 ≤ sizeLine; decide, [x1, x2], .cons ru (.cons ru2 .nil), ⟨_, hT2, rfl, _, rfl⟩⟩
    have I1 : Inv X pins σ (upd H s.heap.objs.size (.frz { cls := .type "tuple", data := .seq #[x1, x2] } (.tup [x, y]))) { s with heap := h'', toks := tk } :=
      I.turnedNew (t' := tk) (ch := [z, TI, TO, i1, i2]) (fun c o hb q => (sb.2 c (fun q' => hb (by simp [q']))).trans (hk c o (fun q' => hb (by simp [q'])) (fun q' => hb (by simp [q'])) (fun q' => hb (by simp [q'])) (fun q' => hb (by simp [q'])) q)) hf (Nat.le_refl _) new
    refine ⟨.ref s.heap.objs.size, _, I1, rfl, ⟨_, x, y, _, rfl, I.hok.fresh (Nat.le_refl _), rfl, rfl, fun l hl => by rw [seqK_inj I hl hqx]; exact hx, fun l hl => by rw [seqK_inj I hl hqy]; exact hy⟩, ⟨z'', ?_, ⟨x1, x2, ?_⟩, ?_, ?_⟩, fun c hcm => ?_⟩
    · exact (sb.2 _ D.TIz).trans (hk _ _ D.TIz D.TITO D.TIi1 D.TIi2 hTI)
    · exact (sb.2 _ D.TOz).trans TO'
    · exact h1'.1.at fun o q => (sb.2 _ (fun e => D.zi1 e.symm)).trans q
    · exact h2'.1.at fun o q => (sb.2 _ (fun e => D.zi2 e.symm)).trans q
    · have hlt : c < s.heap.objs.size := by
        have e' : c = z ∨ c = TI ∨ c = TO ∨ c = i1 ∨ c = i2 := by simpa using hcm
        rcases e' with q | q | q | q | q
        · rw [q]; exact hzl
        · rw [q]; exact Heap.lt_size hTI
        · rw [q]; exact Heap.lt_size hTO
        · rw [q]; exact h1.lt
        · rw [q]; exact h2.lt
      rw [upd_ne (Nat.ne_of_lt hlt)]
      exact (hf c hcm).1
  done := by
    intro X hP hw hK hc i pins s σ H E I hf st hg
    subst hP hw hK
    obtain ⟨hz, hTI, ⟨x0, y0, hTO⟩, h1, h2⟩ := st
    obtain ⟨xs, ys, hqx, hqy, hend⟩ := hg
    obtain ⟨its, rv, p, _⟩ := seqK I hqx
    obtain ⟨its2, rv2, p2, _⟩ := seqK I hqy
    have l1 := rv.length
    have l2 := rv2.length
    have e1 : its.toArray.size = xs.length := by simp; omega
    have e2 : its2.toArray.size = ys.length := by simp; omega
    exact wpAny_pyNext_zipD2_end D (drawsK κ (prog := X.prog) (w := X.w) (A := X.A.in1) (show X.A.in1.handled = none from I.ok.hd hc) i1 a ha1 its.toArray)
      (drawsK κ' (prog := X.prog) (w := X.w) (A := X.A.in1) (show X.A.in1.handled = none from I.ok.hd hc) i2 b hb2 its2.toArray) hz hTI hTO ⟨h1, p⟩ ⟨h2, p2⟩ (by omega) (by omega) (by omega) fun h' tk hk => ⟨rfl, I.turnedL (t' := tk) (ch := [z, TI, TO, i1, i2]) (fun c o hb q =>
      hk c o (fun q' => hb (by simp [q'])) (fun q' => hb (by simp [q'])) (fun q' => hb (by simp [q'])) (fun q' => hb (by simp [q'])) q) hf⟩
  self := fun A i s Q E st h => wpAny_pyIter_zip st.1 h
theorem walk_zipK {κ κ' : Kd} {K : PySem.W.Frag} {a b : Addr} {xs ys : List V} {n : Nat} (hn : n = min xs.length ys.length) : Walk (ItZ κ κ' K a b) n (fun H => SqK κ K H a xs ∧ SqK κ' K H b ys) (YPairF (fun i => xs[i]?) (fun i => ys[i]?)) := by
  subst hn
  refine ⟨fun i _ hi q => ?_, fun _ q => ⟨xs, ys, q.1, q.2, rfl⟩, fun i H v H' _ q y => ?_⟩
  · have h1 : i < xs.length := by omega
    have h2 : i < ys.length := by omega
    exact ⟨xs, ys, xs[i], ys[i], q.1, q.2, by simp [h1], by simp [h2]⟩
  · obtain ⟨T, x, z, o, h1, h2, h0, h3, h4, h5⟩ := y
    exact ⟨T, x, z, o, h1, h2, h0, h3, h4 xs q.1, h5 ys q.2⟩

/-! ### what is walked: a list or a tuple itself -/
def ItS (κ : Kd) (K : PySem.W.Frag) (a : Addr) : It := match κ with | .L => Itl K a | .T => Itt K a
theorem walk_S {κ : Kd} {K : PySem.W.Frag} {a : Addr} {xs : List V} : Walk (ItS κ K a) xs.length (fun H => SqK κ K H a xs) (YAt xs) := by
  cases κ with
  | L => exact walk_list
  | T => exact walk_tup
def iS (K : PySem.W.Frag) (tl : TE) : TI := fun σ H R => tl σ H fun x H1 => ∃ κ a xs, x = .ref a ∧ SqK κ K H1 a xs ∧ R (ItS κ K a) H1
section
variable {X : Cx} {tg : Expr}
theorem pi_S {l : Expr} {tl : TE} (hl : PE X l tl) : PI X tg l (iS X.K tl) := by
  refine ⟨fun pins s σ H R I h => ?_⟩
  refine thn (hl.run pins s σ H _ I h) fun v s1 ⟨x, H1, I1, r1, q1⟩ => ?_
  obtain ⟨κ, a, xs, e, hq, q⟩ := q1
  subst e
  cases r1
  cases κ with
  | L =>
    obtain ⟨its, rv, p, hz⟩ := I1.list hq
    refine wpAny_pyIter_list p.isList ?_
    refine ⟨s1.heap.objs.size, [s1.heap.objs.size], _, _, H1, rfl, I1.kept (t' := s1.toks) fun b o e => Heap.get?_push_of_some _ e, turn_list a _, ⟨_, Heap.get?_push_size _ rfl, rfl, rfl⟩, fun b hb => ?_, q⟩
    have e : b = s1.heap.objs.size := by simpa using hb
    subst e
    exact I1.fpOk (Nat.le_refl _) (I1.hok.fresh (Nat.le_refl _))
  | T =>
    obtain ⟨its, rv, p, hz⟩ := I1.tuple hq
    refine wpAny_pyIter_tuple (show s1.heap.IsTuple a its.toArray from p) ?_
    refine ⟨s1.heap.objs.size, [s1.heap.objs.size], _, _, H1, rfl, I1.kept (t' := s1.toks) fun b o e => Heap.get?_push_of_some _ e, turn_tuple a _, ⟨_, Heap.get?_push_size _ rfl, rfl, rfl⟩, fun b hb => ?_, q⟩
    have e : b = s1.heap.objs.size := by simpa using hb
    subst e
    exact I1.fpOk (Nat.le_refl _) (I1.hok.fresh (Nat.le_refl _))
def iE (K : PySem.W.Frag) (ta : TA) : TI := fun σ H R => ta σ H fun vs H1 => ∃ κ a xs, vs = [.ref a] ∧ SqK κ K H1 a xs ∧ R (ItE κ K a 0) H1
theorem fresh2 {pins : List (Addr × Obj)} {σ : L2.St} {H1 : Hp} {s1 : Shared} (I1 : Inv X pins σ H1 s1) (b : Addr) (hle : s1.heap.objs.size ≤ b) : FpOk X pins H1 b := I1.fpOk hle (I1.hok.fresh hle)
/-- enumerate(x), enumerate(x, k) -/
theorem pi_E {e : Expr} {ta : TA} {p pos tpos : Pos} {elts : List Expr} {kk : Nat} (hg : Gl X "enumerate") (hm : X.mg "enumerate" = none) (ha : PA X [e] ta) (hs : starEach [e] X.env = [(false, eval e X.env)] := by rfl) :
    PI X (.Tuple elts kk tpos) (.Call (.Name "enumerate" p) [e] [] pos) (iE X.K ta) := by
  refine ⟨fun pins s σ H R I h => ?_⟩
  refine Call_ (ld_blt I hg hm boot_enumerate (PyProof.Rows.callWith_type1 (thn (ha.run pos pins s σ H _ I h) fun us s1 ⟨vs, H1, I1, r1, q1⟩ => ?_) hs rfl))
  obtain ⟨κ, a, xs, ex, hq, q⟩ := q1
  subst ex
  cases r1 with
  | cons r rr =>
    cases rr
    cases r
    obtain ⟨its, rv, p', hz⟩ := seqK I1 hq
    have hla := p'.lt
    refine enum_begins1 (beginsK κ a its.toArray) p' fun h' he hit hsz hk => wpAny_pyIter_enum he ?_
    have I2 : Inv X pins σ H1 { s1 with heap := h' } := I1.kept (t' := s1.toks) hk
    refine ⟨s1.heap.objs.size + 1, [s1.heap.objs.size + 1, s1.heap.objs.size], _, _, H1, rfl, I2, turn_enumK κ a (s1.heap.objs.size + 1) s1.heap.objs.size 0 (Nat.ne_of_lt hla) (Nat.ne_of_lt (Nat.lt_succ_of_lt hla)), ⟨⟨.none, he⟩, itAt_new hit, Nat.succ_ne_self _⟩, fun b hb => ?_, q⟩
    have e' : b = s1.heap.objs.size + 1 ∨ b = s1.heap.objs.size := by simpa using hb
    have hle : s1.heap.objs.size ≤ b := by
      rcases e' with z | z
      · rw [z]; exact Nat.le_add_right _ _
      · rw [z]; exact Nat.le_refl _
    exact I1.fpOk hle (I1.hok.fresh hle)
def iEk (K : PySem.W.Frag) (ta : TA) : TI := fun σ H R => ta σ H fun vs H1 => ∃ κ a xs k₀, vs = [.ref a, .int k₀] ∧ SqK κ K H1 a xs ∧ -(2 ^ 62) ≤ k₀ ∧ k₀ < 2 ^ 62 ∧ R (ItE κ K a k₀) H1
theorem pi_Ek {e e2 : Expr} {ta : TA} {p pos tpos : Pos} {elts : List Expr} {kk : Nat} (hg : Gl X "enumerate") (hm : X.mg "enumerate" = none) (ha : PA X [e, e2] ta)
    (hs : starEach [e, e2] X.env = (false, eval e X.env) :: starEach [e2] X.env := by rfl) (hpl : (backTo pos (starEach [e2] X.env)).any (·.1) = false := by rfl) :
    PI X (.Tuple elts kk tpos) (.Call (.Name "enumerate" p) [e, e2] [] pos) (iEk X.K ta) := by
  refine ⟨fun pins s σ H R I h => ?_⟩
  refine Call_ (ld_blt I hg hm boot_enumerate (PyProof.Rows.callWith_type1 (thn (ha.run pos pins s σ H _ I h) fun us s1 ⟨vs, H1, I1, r1, q1⟩ => ?_) hs hpl))
  obtain ⟨κ, a, xs, k₀, ex, hq, k1, k2, q⟩ := q1
  subst ex
  cases r1 with
  | cons r rr =>
   cases rr with
   | cons r' rr =>
    cases rr
    cases r
    obtain ⟨t, rfl⟩ := r'
    obtain ⟨its, rv, p', hz⟩ := seqK I1 hq
    have hla := p'.lt
    refine enum_begins (beginsK κ a its.toArray) p' (by omega) (by omega) fun h' he hit hsz hk => wpAny_pyIter_enum he ?_
    have I2 : Inv X pins σ H1 { s1 with heap := h' } := I1.kept (t' := s1.toks) hk
    refine ⟨s1.heap.objs.size + 1, [s1.heap.objs.size + 1, s1.heap.objs.size], _, _, H1, rfl, I2, turn_enumK κ a (s1.heap.objs.size + 1) s1.heap.objs.size k₀ (Nat.ne_of_lt hla) (Nat.ne_of_lt (Nat.lt_succ_of_lt hla)), ⟨⟨.none, by simpa using he⟩, itAt_new hit, Nat.succ_ne_self _⟩, fun b hb => ?_, q⟩
    have e' : b = s1.heap.objs.size + 1 ∨ b = s1.heap.objs.size := by simpa using hb
    have hle : s1.heap.objs.size ≤ b := by
      rcases e' with z | z
      · rw [z]; exact Nat.le_add_right _ _
      · rw [z]; exact Nat.le_refl _
    exact I1.fpOk hle (I1.hok.fresh hle)
/-- zip(x, y) -/
def iZ (K : PySem.W.Frag) (ta : TA) : TI := fun σ H R => ta σ H fun vs H1 => ∃ κ κ' a b xs ys, vs = [.ref a, .ref b] ∧ SqK κ K H1 a xs ∧ SqK κ' K H1 b ys ∧ R (ItZ κ κ' K a b) H1
theorem pi_Z {e e2 : Expr} {ta : TA} {p pos tpos : Pos} {elts : List Expr} {kk : Nat} (hg : Gl X "zip") (hm : X.mg "zip" = none) (ha : PA X [e, e2] ta)
    (hs : starEach [e, e2] X.env = (false, eval e X.env) :: starEach [e2] X.env := by rfl) (hpl : (backTo pos (starEach [e2] X.env)).any (·.1) = false := by rfl) :
    PI X (.Tuple elts kk tpos) (.Call (.Name "zip" p) [e, e2] [] pos) (iZ X.K ta) := by
  refine ⟨fun pins s σ H R I h => ?_⟩
  refine Call_ (ld_blt I hg hm PyProof.Rows.boot_zip (PyProof.Rows.callWith_type1 (thn (ha.run pos pins s σ H _ I h) fun us s1 ⟨vs, H1, I1, r1, q1⟩ => ?_) hs hpl))
  obtain ⟨κ, κ', a, b, xs, ys, ex, hqx, hqy, q⟩ := q1
  subst ex
  cases r1 with
  | cons r rr =>
    cases rr with
    | cons r' rr =>
      cases rr
      cases r
      cases r'
      obtain ⟨its, rv, p1, _⟩ := seqK I1 hqx
      obtain ⟨its2, rv2, p2, _⟩ := seqK I1 hqy
      have la := p1.lt
      have lb := p2.lt
      refine zip_begins2 (beginsK κ a its.toArray) (beginsK κ' b its2.toArray) p1 p2 fun h' hz hTI hTO h1 h2 hsz hk => wpAny_pyIter_zip hz ?_
      have I2 : Inv X pins σ H1 { s1 with heap := h' } := I1.kept (t' := s1.toks) hk
      refine ⟨s1.heap.objs.size + 4, [s1.heap.objs.size + 4, s1.heap.objs.size + 2, s1.heap.objs.size + 3, s1.heap.objs.size, s1.heap.objs.size + 1], _, _, H1, rfl, I2,
        turn_zipK (zip_sep2 (N := s1.heap.objs.size) (fp1 := [a]) (fp2 := [b]) (fun c hc => by rw [List.mem_singleton.mp hc]; exact la) (fun c hc => by rw [List.mem_singleton.mp hc]; exact lb)) (Nat.ne_of_lt la) (Nat.ne_of_lt (Nat.lt_succ_of_lt lb)), ⟨hz, hTI, ⟨_, _, hTO⟩, itAt_new h1, itAt_new h2⟩, fun c hcm => ?_, q⟩
      have e' : c = s1.heap.objs.size + 4 ∨ c = s1.heap.objs.size + 2 ∨ c = s1.heap.objs.size + 3 ∨ c = s1.heap.objs.size ∨ c = s1.heap.objs.size + 1 := by simpa using hcm
      have hle : s1.heap.objs.size ≤ c := by
        rcases e' with z | z | z | z | z
        · rw [z]; exact Nat.le_add_right _ _
        · rw [z]; exact Nat.le_add_right _ _
        · rw [z]; exact Nat.le_add_right _ _
        · rw [z]; exact Nat.le_refl _
        · rw [z]; exact Nat.le_add_right _ _
      exact I1.fpOk hle (I1.hok.fresh hle)
end

/-! ### plain tuples: what makes a tuple makes one without a dict of its own -/
section
variable {X : Cx} {pos : Pos}
/-- a tuple without a dict of its own -/
def PlT (K : PySem.W.Frag) (H : Hp) (a : Addr) (vs : List V) : Prop := (∃ o : Obj, H a = some (.frz o (.tup vs)) ∧ o.dict = none) ∨
  ∃ (o : Obj) (its : Array Value) (n : Nat), K.lookup a = some o ∧ o.cls = .type "tuple" ∧ o.dict = none ∧ o.data = .seq its n ∧ its.size ≤ sizeLine ∧ Vals vs its.toList
theorem PlT.sq {K : PySem.W.Frag} {H : Hp} {a : Addr} {vs : List V} (h : PlT K H a vs) : SqT K H a vs := by
  rcases h with ⟨o, h, _⟩ | ⟨o, its, n, hk, hc, _, hd, hz, r⟩
  · exact .inl (.inr ⟨o, h⟩)
  · exact .inr ⟨o, its, n, hk, hc, hd, hz, r⟩
theorem Inv_ptup {pins : List (Addr × Obj)} {σ : L2.St} {H : Hp} {s : Shared} {a : Addr} {vs : List V} (I : Inv X pins σ H s) (h : PlT X.K H a vs) : ∃ (o : Obj) (its : List Value) (n : Nat), Vals vs its ∧ s.heap.get? a = some o ∧ o.cls = .type "tuple" ∧ o.dict = none ∧ o.data = .seq its.toArray n ∧ vs.length ≤ sizeLine := by
  rcases h with ⟨o, h, hd⟩ | ⟨o, its, n, hk, hc, hdd, hd, hz, r⟩
  · obtain ⟨e, hz, its, r, ⟨o', e', hc, n, hdat⟩⟩ := I.hok a _ h
    rw [e] at e'; cases e'
    exact ⟨o, its, n, r, e, hc, hd, hdat, hz⟩
  · refine ⟨o, its.toList, n, r, I.kIn a o hk, hc, hdd, by simpa using hd, ?_⟩
    have e := r.length
    simp only [Array.length_toList] at e
    omega
/-- behind every new plain tuple -/
def NewT (H : Hp) (Q : VK) (vs : List V) : Prop := ∀ (p : Addr) (o : Obj), H p = none → o.dict = none → Q (.ref p) (upd H p (.frz o (.tup vs)))
theorem new_pt {pins : List (Addr × Obj)} {σ : L2.St} {H : Hp} {s : Shared} {vs : List V} {us : List Value} {Q : VK} {t' : Nat} (I : Inv X pins σ H s) (r : Vals vs us) (hz : vs.length ≤ sizeLine) (q : NewT H Q vs) :
    ∃ H', Inv X pins σ H' { s with heap := s.heap.push { cls := .type "tuple", data := .seq us.toArray }, toks := t' } ∧ Q (.ref s.heap.objs.size) H' :=
  ⟨_, I.laid (t' := t') (o := .frz { cls := .type "tuple", data := .seq us.toArray } (.tup vs)) (fun b ob q => Heap.get?_push_of_some _ q) (Nat.le_refl _) ⟨Heap.get?_push_size _ rfl, hz, us, r, IsTup.new _ _⟩, q _ _ (I.hok.fresh (Nat.le_refl _)) rfl⟩
def tTupF (t : TA) : TE := fun σ H Q => t σ H fun xs H1 => xs.length ≤ sizeLine ∧ NewT H1 Q xs
theorem pe_tupF {es : List Expr} {n : Nat} {t : TA} (h : PA X es t) : PE X (.Tuple es n pos) (tTupF t) := by
  refine ⟨fun pins s σ H Q I hq => ?_⟩
  refine wpAny_Tuple_spliced (thn (h.run pos pins s σ H _ I hq) fun us s1 ⟨xs, H1, I1, r, z, q⟩ => ⟨by rw [← r.length]; exact z, ?_⟩)
  obtain ⟨H', I', q'⟩ := new_pt (t' := s1.toks) I1 r z q
  exact ⟨.ref s1.heap.objs.size, H', I', rfl, q'⟩
theorem call_tuple_F : CallR X (.type "tuple") (fun xs H Q => ∃ p ys, xs = [.ref p] ∧ ((SqL X.K H p ys ∧ NewT H Q ys) ∨ (SqT X.K H p ys ∧ Q (.ref p) H))) := by
  intro pins s σ H xs us Q I r h
  obtain ⟨p, ys, rfl, h⟩ := h
  obtain ⟨u, rfl, rx⟩ := vals1 r
  cases rx
  rcases h with ⟨hq, q⟩ | ⟨hq, q⟩
  · obtain ⟨its, r', pl, hz⟩ := I.list hq
    have hlen := r'.length
    refine call_tuple_list pl.isList (fun h' kp => ?_) (by simp only [List.size_toArray] <;> omega)
    have I1 : Inv X pins σ H { s with heap := h' } := I.kept (t' := s.toks) kp
    obtain ⟨H', I', q'⟩ := new_pt (t' := s.toks) I1 r' hz q
    exact ⟨.ref h'.objs.size, H', I', rfl, q'⟩
  · obtain ⟨its, r', pl, hz⟩ := I.tuple hq
    exact call_tuple_same pl ⟨.ref p, H, I, rfl, q⟩
def rCatF (K : PySem.W.Frag) : R2 := fun x y H Q => ∃ a b xs ys, x = .ref a ∧ y = .ref b ∧ SqT K H a xs ∧ SqT K H b ys ∧ xs.length + ys.length ≤ sizeLine ∧
  (xs = [] → Q (.ref b) H) ∧ (xs ≠ [] → ys = [] → Q (.ref a) H) ∧ (xs ≠ [] → ys ≠ [] → NewT H Q (xs ++ ys))
theorem op_catF : OpR X (binaryOp .Add) (rCatF X.K) := by
  intro pins s σ H x y v u Q I rx ry h
  obtain ⟨a, b, xs, ys, rfl, rfl, ha, hb, hz, q0, q1, q2⟩ := h
  cases rx
  cases ry
  obtain ⟨its, r1, p1, _⟩ := I.tuple ha
  obtain ⟨its2, r2, p2, _⟩ := I.tuple hb
  by_cases hx : xs = []
  · subst hx
    cases r1
    exact cat_tup0 p1 p2 ⟨.ref b, H, I, rfl, q0 rfl⟩
  · refine HT.cat_tup p1 p2 (fun z => hx (r1.nil_iff.mp z)) (fun z => ⟨.ref a, H, I, rfl, q1 hx (r2.nil_iff.mp z)⟩) (fun z => ?_) (by rw [← r1.length, ← r2.length]; exact hz)
    obtain ⟨H', I', q'⟩ := new_pt (t' := s.toks) I (r1.append r2) (by rw [List.length_append]; exact hz) (q2 hx (fun w => z (r2.nil_iff.mpr w)))
    exact ⟨.ref s.heap.objs.size, H', I', rfl, q'⟩
def rSlF (K : PySem.W.Frag) : V → Option Int → Option Int → Hp → VK → Prop := fun x lo hi H Q => ∃ a xs, x = .ref a ∧ SqT K H a xs ∧
  (HT.sIx xs.length 0 lo = 0 ∧ HT.sIx xs.length xs.length hi = xs.length → Q (.ref a) H) ∧ (¬ (HT.sIx xs.length 0 lo = 0 ∧ HT.sIx xs.length xs.length hi = xs.length) → NewT H Q (cutV xs lo hi))
theorem sl_tupF : SlR X (rSlF X.K) := by
  intro pins s σ H x v vl vu lo hi sl Q I rx hs pl pu h
  obtain ⟨a, xs, rfl, hx, q1, q2⟩ := h
  cases rx
  obtain ⟨its, r, ht, hz⟩ := I.tuple hx
  have hlen : its.toArray.size = xs.length := by rw [List.size_toArray]; exact r.length.symm
  refine ⟨"tuple", _, PyProof.Rows.slot_tuple_getitem.lookup, ht.typeIs, ?_⟩
  by_cases hw : HT.sIx xs.length 0 lo = 0 ∧ HT.sIx xs.length xs.length hi = xs.length
  · exact getItem_tuple_whole ht hs pl pu (by rw [hlen]; exact hw) ⟨.ref a, H, I, rfl, q1 hw⟩
  · refine HT.getItem_tuple_cut ht hs pl pu (by rw [hlen]; exact hw) ?_ (by rw [hlen]; exact hz)
    rw [hlen]
    obtain ⟨H', I', q'⟩ := new_pt (t' := s.toks) I ((r.drop (HT.sIx xs.length 0 lo)).take (HT.sIx xs.length xs.length hi - HT.sIx xs.length 0 lo)) (Nat.le_trans (cutV_length xs lo hi) hz) (q2 hw)
    exact ⟨.ref s.heap.objs.size, H', I', rfl, q'⟩
def rRepF (K : PySem.W.Frag) : R2 := fun x y H Q => ∃ l k xs, x = .ref l ∧ y = .int k ∧ SqT K H l xs ∧ xs ≠ [] ∧ 2 ≤ k ∧ k ≤ 1000 ∧ xs.length ≤ 1000 ∧ NewT H Q (List.replicate k.toNat xs).flatten
theorem op_repF : OpR X (binaryOp .Mult) (rRepF X.K) := by
  intro pins s σ H x y v u Q I rx ry h
  obtain ⟨l, k, xs, rfl, rfl, hT, hne, h1, h2, hz, q⟩ := h
  cases rx
  obtain ⟨t, rfl⟩ := ry
  obtain ⟨its, r, ⟨⟨cls, dd, data, sl⟩, ho, hc, n, hd⟩, hs⟩ := I.tuple hT
  simp only at hc hd
  subst hc hd
  have hle : its.length = xs.length := r.length.symm
  have hn : its ≠ [] := fun e => hne (by
    rw [e] at hle
    exact List.eq_nil_of_length_eq_zero hle.symm)
  have hi : its.toArray.isEmpty = false := by
    cases its with
    | nil => exact absurd rfl hn
    | cons a b => rfl
  have hsz0 : its.toArray.size = xs.length := by rw [List.size_toArray, hle]
  have hm : ((its.toArray.size : Nat) : Int) * k ≤ 1000000 := by
    rw [hsz0]
    have a1 : ((xs.length : Nat) : Int) * k ≤ 1000 * k := Int.mul_le_mul_of_nonneg_right (by omega) (by omega)
    omega
  have xlen : (List.replicate k.toNat xs).flatten.length ≤ sizeLine := by
    rw [PyProof.Rows.lm_len_rep_flat, sizeLine_eq]
    have a1 : k.toNat * xs.length ≤ 1000 * 1000 := Nat.mul_le_mul (by omega) hz
    omega
  have flen : (List.replicate k.toNat its).flatten.length ≤ sizeLine := by
    rw [PyProof.Rows.lm_len_rep_flat, hle, sizeLine_eq]
    have a1 : k.toNat * xs.length ≤ 1000 * 1000 := Nat.mul_le_mul (by omega) hz
    omega
  have c0 : (decide (k < -(2 ^ 63)) || decide (k ≥ 2 ^ 63)) = false := by
    rw [decide_eq_false (by omega), decide_eq_false (by omega)] <;> rfl
  have c1 : (its.toArray.isEmpty || k == 1) = false := by
    rw [hi, Bool.false_or]
    exact beq_eq_false_iff_ne.mpr (by omega)
  have c2 : (decide (k ≤ 0) || its.toArray.isEmpty) = false := by
    rw [hi, Bool.or_false]
    exact decide_eq_false (by omega)
  have c4 : Builtin.Tuple.tupleTooMany (((its.toArray.size : Nat) : Int) * k) = false := by
    unfold Builtin.Tuple.tupleTooMany
    rw [sizeLine_eq]
    exact decide_eq_false (by omega)
  refine wpAny_binaryOp_repeat_ref (T := "tuple") (U := "int") (by decide) ⟨_, ho, rfl⟩ (fun s' => typeIs_int s' k t) noFill_tuple_mul F.fills_int_mul F.slot_int_rmul repeat_tuple F.slot_int_index.lookup
    (call_meets F.slot_int_rmul (typeIs_int s k t) F.entry_int_rmul (F.args_int_rmul_2 _ _) (int_rmul_tuple k t l its.toArray n dd sl)
      ⟨ho, rfl, ⟨_, ho, rfl⟩, call_meets F.slot_tuple_mul ⟨_, ho, rfl⟩ F.entry_tuple_mul (F.args_tuple_mul_2 _ _) (tuple_mulW l its.toArray n dd sl k t c0 c1 c2 (by omega) c4 (by rw [size_rep, List.size_toArray]; exact flen)) ⟨ho, ?_⟩⟩)
  rw [size_rep]
  obtain ⟨H', I', q'⟩ := new_pt (t' := s.toks) I (r.rep k.toNat) xlen q
  exact ⟨.ref s.heap.objs.size, H', I', rfl, q'⟩
end
end Y
set_option Elab.async false
set_option linter.all false
set_option maxRecDepth 100000
set_option maxHeartbeats 4000000
/-! the data layer: values as data, mutable things by their address in a ghost store -/
namespace Y
open PySem PySem.Spec PyProof.Rows L2

/-- data: tuples and lists that are never changed are values; raw: any other value, by itself -/
inductive D where
  | non | bl (b : Bool) | int (i : Int) | str (x : Str) | tup (xs : List D) | lst (xs : List D) | scr (xs : List D) | raw (v : V)
abbrev D.ptr (a : Addr) : D := .raw (.ref a)
/-- what is owned: it may be changed -/
inductive G where
  | lst (ds : List D) | dic (kvs : List (Key × D)) | ins (C dx : Addr) (ns : List Str) (ds : List D)
abbrev Gs := Addr → Option G
def gup (Γ : Gs) (a : Addr) (g : G) : Gs := fun b => if b = a then some g else Γ b
theorem gup_same {Γ : Gs} {a : Addr} {g : G} : gup Γ a g a = some g := by unfold gup; rw [if_pos rfl]
theorem gup_ne {Γ : Gs} {a b : Addr} {g : G} (h : b ≠ a) : gup Γ a g b = Γ b := by unfold gup; rw [if_neg h]
theorem gup_gup {Γ : Gs} {a : Addr} {g g' : G} : gup (gup Γ a g) a g' = gup Γ a g' := by
  funext b; unfold gup; split <;> rfl
theorem gup_id {Γ : Gs} {a : Addr} {g : G} (h : Γ a = some g) : gup Γ a g = Γ := by
  funext b; unfold gup; split
  · rename_i e; rw [e, h]
  · rfl
theorem gne {Γ : Gs} {a b : Addr} {g : G} (h : Γ a = some g) (h' : Γ b = none) : a ≠ b := by
  intro e; subst e; rw [h] at h'; cases h'

def KL (K : PySem.W.Frag) (a : Addr) (xs : List V) : Prop :=
  ∃ (o : Obj) (its : Array Value) (n : Nat), K.lookup a = some o ∧ o.cls = .type "list" ∧ o.dict = none ∧ o.data = .seq its n ∧ its.size ≤ sizeLine ∧ Vals xs its.toList

mutual
/-- v is the data d -/
inductive Rp (K : PySem.W.Frag) (N : Addr → Prop) (Γ : Gs) (H : Hp) : D → V → Prop
  | non : Rp K N Γ H .non .non
  | bl (b : Bool) : Rp K N Γ H (.bl b) (.bl b)
  | int (i : Int) : Rp K N Γ H (.int i) (.int i)
  | str (x : Str) : Rp K N Γ H (.str x) (.str x)
  | tup {a : Addr} {vs : List V} {ds : List D} : PlT K H a vs → RpL K N Γ H ds vs → Rp K N Γ H (.tup ds) (.ref a)
  | lst {a : Addr} {vs : List V} {ds : List D} : ¬ N a → Γ a = none → H a = some (.lst vs) → RpL K N Γ H ds vs → Rp K N Γ H (.lst ds) (.ref a)
  | scr {a : Addr} {vs : List V} {ds : List D} : ((∃ o, H a = some (.frz o (.lst vs))) ∨ KL K a vs) → RpL K N Γ H ds vs → Rp K N Γ H (.scr ds) (.ref a)
  | raw (v : V) : Rp K N Γ H (.raw v) v
inductive RpL (K : PySem.W.Frag) (N : Addr → Prop) (Γ : Gs) (H : Hp) : List D → List V → Prop
  | nil : RpL K N Γ H [] []
  | cons {d : D} {ds : List D} {v : V} {vs : List V} : Rp K N Γ H d v → RpL K N Γ H ds vs → RpL K N Γ H (d :: ds) (v :: vs)
end

def Imm : HO → Prop
  | .tup _ => True
  | .frz _ _ => True
  | _ => False
/-- what came: all that is not owned stands; what is owned behind it was owned ahead, or is new -/
structure Ext (Γ : Gs) (H : Hp) (Γ' : Gs) (H' : Hp) : Prop where
  keep : ∀ b o, H b = some o → (Γ b = none ∨ Imm o) → H' b = some o
  new : ∀ a, Γ' a ≠ none → Γ a ≠ none ∨ H a = none
theorem Ext.refl (Γ : Gs) (H : Hp) : Ext Γ H Γ H := ⟨fun _ _ e _ => e, fun _ h => .inl h⟩
theorem Ext.trans {Γ Γ1 Γ2 : Gs} {H H1 H2 : Hp} (x : Ext Γ H Γ1 H1) (y : Ext Γ1 H1 Γ2 H2) : Ext Γ H Γ2 H2 where
  keep := fun b o e h => by
    have e1 := x.keep b o e h
    refine y.keep b o e1 ?_
    rcases h with h | h
    · cases q : Γ1 b with
      | none => exact .inl rfl
      | some g =>
        rcases x.new b (by rw [q]; simp) with z | z
        · exact absurd h z
        · rw [e] at z; cases z
    · exact .inr h
  new := fun a h => by
    rcases y.new a h with z | z
    · exact x.new a z
    · cases q : H a with
      | none => exact .inr rfl
      | some o =>
        cases g : Γ a with
        | some _ => exact .inl (by simp)
        | none =>
          have e1 := x.keep a o q (.inl g)
          rw [e1] at z; cases z

mutual
theorem Rp.ext {K : PySem.W.Frag} {N : Addr → Prop} {Γ Γ' : Gs} {H H' : Hp} (x : Ext Γ H Γ' H') : ∀ {d : D} {v : V}, Rp K N Γ H d v → Rp K N Γ' H' d v
  | _, _, .non => .non
  | _, _, .bl b => .bl b
  | _, _, .int i => .int i
  | _, _, .str z => .str z
  | _, _, .raw v => .raw v
  | _, _, .tup h hs => by
    refine .tup ?_ (RpL.ext x hs)
    rcases h with ⟨o, h, hd⟩ | h
    · exact .inl ⟨o, x.keep _ _ h (.inr trivial), hd⟩
    · exact .inr h
  | _, _, .lst (a := a) n g h hs => by
    have g' : Γ' a = none := by
      cases q : Γ' a with
      | none => rfl
      | some _ =>
        rcases x.new a (by rw [q]; simp) with z | z
        · exact absurd g z
        · rw [h] at z; cases z
    exact .lst n g' (x.keep _ _ h (.inl g)) (RpL.ext x hs)
  | _, _, .scr h hs => by
    refine .scr ?_ (RpL.ext x hs)
    rcases h with ⟨o, h⟩ | h
    · exact .inl ⟨o, x.keep _ _ h (.inr trivial)⟩
    · exact .inr h
theorem RpL.ext {K : PySem.W.Frag} {N : Addr → Prop} {Γ Γ' : Gs} {H H' : Hp} (x : Ext Γ H Γ' H') : ∀ {ds : List D} {vs : List V}, RpL K N Γ H ds vs → RpL K N Γ' H' ds vs
  | _, _, .nil => .nil
  | _, _, .cons h hs => .cons (Rp.ext x h) (RpL.ext x hs)
end
section
variable {K : PySem.W.Frag} {N : Addr → Prop} {Γ Γ' : Gs} {H H' : Hp}
theorem RpL.length : ∀ {ds : List D} {vs : List V}, RpL K N Γ H ds vs → vs.length = ds.length
  | _, _, .nil => rfl
  | _, _, .cons _ h => by rw [List.length_cons, List.length_cons, h.length]
theorem RpL.get : ∀ {ds : List D} {vs : List V} {i : Nat} {d : D}, RpL K N Γ H ds vs → ds[i]? = some d → ∃ v, vs[i]? = some v ∧ Rp K N Γ H d v
  | _, _, _, _, .nil, e => by simp at e
  | _, _, 0, _, .cons h _, e => by simp at e; subst e; exact ⟨_, rfl, h⟩
  | _, _, i + 1, d, .cons _ h, e => by
    obtain ⟨v, h1, h2⟩ := h.get (i := i) (d := d) (by simpa using e)
    exact ⟨v, by simpa using h1, h2⟩
theorem RpL.get' : ∀ {ds : List D} {vs : List V} {i : Nat} {v : V}, RpL K N Γ H ds vs → vs[i]? = some v → ∃ d, ds[i]? = some d ∧ Rp K N Γ H d v
  | _, _, _, _, .nil, e => by simp at e
  | _, _, 0, _, .cons h _, e => by simp at e; subst e; exact ⟨_, rfl, h⟩
  | _, _, i + 1, d, .cons _ h, e => by
    obtain ⟨v, h1, h2⟩ := h.get' (i := i) (by simpa using e)
    exact ⟨v, by simpa using h1, h2⟩
theorem RpL.append : ∀ {ds es : List D} {vs ws : List V}, RpL K N Γ H ds vs → RpL K N Γ H es ws → RpL K N Γ H (ds ++ es) (vs ++ ws)
  | _, _, _, _, .nil, s => s
  | _, _, _, _, .cons h t, s => .cons h (RpL.append t s)
theorem RpL.one {d : D} {v : V} (h : Rp K N Γ H d v) : RpL K N Γ H [d] [v] := .cons h .nil
theorem RpL.take : ∀ {ds : List D} {vs : List V} (n : Nat), RpL K N Γ H ds vs → RpL K N Γ H (ds.take n) (vs.take n)
  | _, _, 0, _ => .nil
  | _, _, _ + 1, .nil => .nil
  | _, _, n + 1, .cons h t => .cons h (RpL.take n t)
theorem RpL.drop : ∀ {ds : List D} {vs : List V} (n : Nat), RpL K N Γ H ds vs → RpL K N Γ H (ds.drop n) (vs.drop n)
  | _, _, 0, h => h
  | _, _, _ + 1, .nil => .nil
  | _, _, n + 1, .cons _ t => RpL.drop n t
theorem RpL.reverse {ds : List D} {vs : List V} (h : RpL K N Γ H ds vs) : RpL K N Γ H ds.reverse vs.reverse := by
  induction ds generalizing vs with
  | nil => cases h; exact .nil
  | cons d ds ih =>
    cases h with
    | cons h t =>
      rw [List.reverse_cons, List.reverse_cons]
      exact (ih t).append (.one h)
theorem RpL.set {d : D} {v : V} (q : Rp K N Γ H d v) : ∀ {ds : List D} {vs : List V} (i : Nat), RpL K N Γ H ds vs → RpL K N Γ H (ds.set i d) (vs.set i v)
  | _, _, _, .nil => .nil
  | _, _, 0, .cons _ t => .cons q t
  | _, _, i + 1, .cons h t => .cons h (RpL.set q i t)
theorem RpL.rep {ds : List D} {vs : List V} (h : RpL K N Γ H ds vs) : ∀ k : Nat, RpL K N Γ H (List.replicate k ds).flatten (List.replicate k vs).flatten
  | 0 => .nil
  | k + 1 => by
    rw [List.replicate_succ, List.replicate_succ, List.flatten_cons, List.flatten_cons]
    exact h.append (h.rep k)
theorem RpL.split : ∀ {xs ys : List D} {vs : List V}, RpL K N Γ H (xs ++ ys) vs → ∃ us ws, vs = us ++ ws ∧ RpL K N Γ H xs us ∧ RpL K N Γ H ys ws
  | [], _, vs, h => ⟨[], vs, rfl, .nil, h⟩
  | _ :: _, _, _, .cons h t => by
    obtain ⟨us, ws, rfl, h1, h2⟩ := RpL.split t
    exact ⟨_ :: us, ws, rfl, .cons h h1, h2⟩
end
/-- pairs of a dict; attributes -/
inductive KvR (K : PySem.W.Frag) (N : Addr → Prop) (Γ : Gs) (H : Hp) {κ : Type} : List (κ × D) → List (κ × V) → Prop
  | nil : KvR K N Γ H [] []
  | cons {k : κ} {d : D} {v : V} {ds : List (κ × D)} {vs : List (κ × V)} : Rp K N Γ H d v → KvR K N Γ H ds vs → KvR K N Γ H ((k, d) :: ds) ((k, v) :: vs)
section
variable {K : PySem.W.Frag} {N : Addr → Prop} {Γ Γ' : Gs} {H H' : Hp} {κ : Type}
theorem KvR.ext (x : Ext Γ H Γ' H') : ∀ {ds : List (κ × D)} {vs : List (κ × V)}, KvR K N Γ H ds vs → KvR K N Γ' H' ds vs
  | _, _, .nil => .nil
  | _, _, .cons h t => .cons (h.ext x) (t.ext x)
theorem KvR.length : ∀ {ds : List (κ × D)} {vs : List (κ × V)}, KvR K N Γ H ds vs → vs.length = ds.length
  | _, _, .nil => rfl
  | _, _, .cons _ h => by rw [List.length_cons, List.length_cons, h.length]
theorem KvR.keys : ∀ {ds : List (κ × D)} {vs : List (κ × V)}, KvR K N Γ H ds vs → vs.map (·.1) = ds.map (·.1)
  | _, _, .nil => rfl
  | _, _, .cons _ h => by rw [List.map_cons, List.map_cons, h.keys]
theorem KvR.lookup [BEq κ] {k : κ} : ∀ {ds : List (κ × D)} {vs : List (κ × V)} , KvR K N Γ H ds vs → match ds.lookup k with | some d => ∃ v, vs.lookup k = some v ∧ Rp K N Γ H d v | none => vs.lookup k = none
  | _, _, .nil => rfl
  | _, _, .cons (k := k') (ds := ds) (vs := vs) h t => by
    rw [List.lookup_cons, List.lookup_cons]
    cases hb : k == k' with
    | true => exact ⟨_, rfl, h⟩
    | false => exact t.lookup
end
/-- an owned thing stands -/
def GOk (K : PySem.W.Frag) (N : Addr → Prop) (Γ : Gs) (H : Hp) (a : Addr) : G → Prop
  | .lst ds => ∃ vs, H a = some (.lst vs) ∧ RpL K N Γ H ds vs
  | .dic kvs => ∃ vs, H a = some (.dK vs) ∧ KvR K N Γ H kvs vs
  | .ins C dx ns ds => ∃ vs, H a = some (.ins C dx (ns.zip vs)) ∧ RpL K N Γ H ds vs
/-- all that is owned stands; N: what is hidden (an outer comprehension's list) -/
structure GsOk (K : PySem.W.Frag) (N : Addr → Prop) (Γ : Gs) (H : Hp) : Prop where
  ok : ∀ a g, Γ a = some g → GOk K N Γ H a g
  hid : ∀ a, N a → (∃ o, H a = some o ∧ ¬ Imm o) ∧ Γ a = none
section
variable {K : PySem.W.Frag} {N : Addr → Prop} {Γ Γ' : Gs} {H H' : Hp}
theorem GOk.ob {a : Addr} {g : G} (h : GOk K N Γ H a g) : ∃ o, H a = some o ∧ ¬ Imm o := by
  cases g with
  | lst ds => obtain ⟨vs, e, _⟩ := h; exact ⟨_, e, fun z => z⟩
  | dic ds => obtain ⟨vs, e, _⟩ := h; exact ⟨_, e, fun z => z⟩
  | ins C dx ns ds => obtain ⟨vs, e, _⟩ := h; exact ⟨_, e, fun z => z⟩
theorem GOk.mv {a : Addr} {g : G} (h : GOk K N Γ H a g) (x : Ext Γ H Γ' H') (e : H' a = H a) : GOk K N Γ' H' a g := by
  cases g with
  | lst ds => obtain ⟨vs, e1, r⟩ := h; exact ⟨vs, e.trans e1, r.ext x⟩
  | dic ds => obtain ⟨vs, e1, r⟩ := h; exact ⟨vs, e.trans e1, r.ext x⟩
  | ins C dx ns ds => obtain ⟨vs, e1, r⟩ := h; exact ⟨vs, e.trans e1, r.ext x⟩
theorem GsOk.none_of (ok : GsOk K N Γ H) {a : Addr} (h : H a = none) : Γ a = none := by
  cases q : Γ a with
  | none => rfl
  | some g => obtain ⟨o, e, _⟩ := (ok.ok a g q).ob; rw [h] at e; cases e
theorem GsOk.none_imm (ok : GsOk K N Γ H) {a : Addr} {o : HO} (h : H a = some o) (i : Imm o) : Γ a = none := by
  cases q : Γ a with
  | none => rfl
  | some g => obtain ⟨o', e, n⟩ := (ok.ok a g q).ob; rw [h] at e; cases e; exact absurd i n
/-- a new thing that is not owned -/
theorem Ext.laid {p : Addr} {o : HO} (np : H p = none) : Ext Γ H Γ (upd H p o) :=
  ⟨fun b o' e _ => by rw [upd_ne (ne_of_none e np)]; exact e, fun _ h => .inl h⟩
theorem GsOk.laid {p : Addr} {o : HO} (ok : GsOk K N Γ H) (np : H p = none) : GsOk K N Γ (upd H p o) := ⟨fun a g e => by
  have hp : a ≠ p := fun z => by rw [z, ok.none_of np] at e; cases e
  exact (ok.ok a g e).mv (Ext.laid np) (upd_ne hp), fun a n => by
  obtain ⟨⟨o', e, i⟩, q⟩ := ok.hid a n
  exact ⟨⟨o', by rw [upd_ne (ne_of_none e np)]; exact e, i⟩, q⟩⟩
/-- a new owned thing -/
theorem Ext.own {p : Addr} {o : HO} {g : G} (np : H p = none) : Ext Γ H (gup Γ p g) (upd H p o) :=
  ⟨fun b o' e _ => by rw [upd_ne (ne_of_none e np)]; exact e, fun a h => by
    by_cases e : a = p
    · subst e; exact .inr np
    · rw [gup_ne e] at h; exact .inl h⟩
theorem GsOk.own {p : Addr} {o : HO} {g : G} (ok : GsOk K N Γ H) (np : H p = none) (hg : GOk K N (gup Γ p g) (upd H p o) p g) : GsOk K N (gup Γ p g) (upd H p o) := ⟨fun a g' e => by
  by_cases hp : a = p
  · subst hp; rw [gup_same] at e; cases e; exact hg
  · rw [gup_ne hp] at e
    exact (ok.ok a g' e).mv (Ext.own np) (upd_ne hp), fun a n => by
  obtain ⟨⟨o', e, i⟩, q⟩ := ok.hid a n
  have hp := ne_of_none e np
  exact ⟨⟨o', by rw [upd_ne hp]; exact e, i⟩, by rw [gup_ne hp]; exact q⟩⟩
/-- an owned thing is changed -/
theorem Ext.write {p : Addr} {o : HO} {g g' : G} (ok : GsOk K N Γ H) (hp : Γ p = some g) : Ext Γ H (gup Γ p g') (upd H p o) :=
  ⟨fun b o' e h => by
    have hb : b ≠ p := fun z => by
      subst z
      rcases h with h | h
      · rw [hp] at h; cases h
      · rw [ok.none_imm e h] at hp; cases hp
    rw [upd_ne hb]; exact e, fun a h => by
    by_cases e : a = p
    · subst e; exact .inl (by rw [hp]; simp)
    · rw [gup_ne e] at h; exact .inl h⟩
theorem GsOk.write {p : Addr} {o : HO} {g g' : G} (ok : GsOk K N Γ H) (hp : Γ p = some g) (hg : GOk K N (gup Γ p g') (upd H p o) p g') : GsOk K N (gup Γ p g') (upd H p o) := ⟨fun a g'' e => by
  by_cases h : a = p
  · subst h; rw [gup_same] at e; cases e; exact hg
  · rw [gup_ne h] at e
    exact (ok.ok a g'' e).mv (Ext.write ok hp) (upd_ne h), fun a n => by
  obtain ⟨⟨o', e, i⟩, q⟩ := ok.hid a n
  have h : a ≠ p := fun z => by rw [z, hp] at q; cases q
  exact ⟨⟨o', by rw [upd_ne h]; exact e, i⟩, by rw [gup_ne h]; exact q⟩⟩
/-- fewer things are owned -/
def Sub (Γ' Γ : Gs) : Prop := ∀ a g, Γ' a = some g → Γ a = some g
theorem Sub.refl (Γ : Gs) : Sub Γ Γ := fun _ _ h => h
theorem Sub.trans {Γ1 Γ2 Γ3 : Gs} (x : Sub Γ1 Γ2) (y : Sub Γ2 Γ3) : Sub Γ1 Γ3 := fun a g h => y a g (x a g h)
theorem Sub.new {p : Addr} {g : G} (h : Γ p = none) : Sub Γ (gup Γ p g) := fun a g' e => by
  rw [gup_ne (gne e h)]; exact e
theorem Sub.up {p : Addr} {g : G} (h : Sub Γ' Γ) (n : Γ' p = none) : Sub Γ' (gup Γ p g) := fun a g' e => by
  rw [gup_ne (gne e n)]; exact h a g' e
theorem Ext.sub (h : Sub Γ' Γ) : Ext Γ H Γ' H := ⟨fun _ _ e _ => e, fun a n => .inl (by
  cases q : Γ' a with
  | none => exact absurd q n
  | some g => rw [h a g q]; simp)⟩
theorem GsOk.sub (ok : GsOk K N Γ H) (h : Sub Γ' Γ) : GsOk K N Γ' H := ⟨fun a g e => (ok.ok a g (h a g e)).mv (Ext.sub h) rfl, fun a n => by
  obtain ⟨e, q⟩ := ok.hid a n
  refine ⟨e, ?_⟩
  cases z : Γ' a with
  | none => rfl
  | some g => rw [h a g z] at q; cases q⟩
end

/-- a history: something that stands, whatever comes -/
structure Bd where
  P : Gs → Hp → Prop
  ext : ∀ {Γ H Γ' H'}, P Γ H → Ext Γ H Γ' H' → P Γ' H'
def Bd.top : Bd := ⟨fun _ _ => True, fun _ _ => trivial⟩
def Bd.from (Γ : Gs) (H : Hp) : Bd := ⟨fun Γ' H' => Ext Γ H Γ' H', fun x y => x.trans y⟩

abbrev Ds := List (Option D)
structure Rel (K : PySem.W.Frag) (B : Bd) (N : Addr → Prop) (ρ : Ds) (Γ : Gs) (σ : L2.St) (H : Hp) : Prop where
  len : σ.length = ρ.length
  env : ∀ (i : Nat) (d : D), ρ[i]? = some (some d) → ∃ v : V, σ[i]? = some (some v) ∧ Rp K N Γ H d v
  gs : GsOk K N Γ H
  his : B.P Γ H
theorem Rel.ext {K : PySem.W.Frag} {B : Bd} {N : Addr → Prop} {ρ : Ds} {Γ Γ' : Gs} {σ : L2.St} {H H' : Hp} (r : Rel K B N ρ Γ σ H) (x : Ext Γ H Γ' H') (g : GsOk K N Γ' H') : Rel K B N ρ Γ' σ H' :=
  ⟨r.len, fun i d e => let ⟨v, h1, h2⟩ := r.env i d e; ⟨v, h1, h2.ext x⟩, g, B.ext r.his x⟩
theorem Rel.set {K : PySem.W.Frag} {B : Bd} {N : Addr → Prop} {ρ : Ds} {Γ : Gs} {σ : L2.St} {H : Hp} (r : Rel K B N ρ Γ σ H) {d : D} {v : V} (h : Rp K N Γ H d v) (i : Nat) : Rel K B N (ρ.set i (some d)) Γ (σ.set i (some v)) H := by
  refine ⟨by rw [List.length_set, List.length_set]; exact r.len, fun j e hj => ?_, r.gs, r.his⟩
  by_cases hij : i = j
  · subst hij
    have hlt : i < ρ.length := by
      have q := (List.getElem?_eq_some_iff.mp hj).1
      rwa [List.length_set] at q
    rw [List.getElem?_set_self hlt] at hj
    cases hj
    exact ⟨v, List.getElem?_set_self (by rw [r.len]; exact hlt), h⟩
  · rw [List.getElem?_set_ne hij] at hj
    rw [List.getElem?_set_ne hij]
    exact r.env j e hj
def wipeD (ρ : Ds) : List Nat → Ds
  | [] => ρ
  | v :: vs => (wipeD ρ vs).set v none
theorem wipeD_len (ρ : Ds) : ∀ vs : List Nat, (wipeD ρ vs).length = ρ.length
  | [] => rfl
  | v :: vs => by unfold wipeD; rw [List.length_set, wipeD_len ρ vs]
theorem wipe_getD {ρ : Ds} {i : Nat} {d : D} : ∀ {vs : List Nat}, (wipeD ρ vs)[i]? = some (some d) → ρ[i]? = some (some d) ∧ i ∉ vs
  | [], h => ⟨h, by simp⟩
  | v :: vs, h => by
    unfold wipeD at h
    by_cases hi : v = i
    · subst hi
      by_cases hv : v < (wipeD ρ vs).length
      · rw [List.getElem?_set_self hv] at h; cases h
      · rw [List.getElem?_eq_none (by simpa using hv)] at h; cases h
    · rw [List.getElem?_set_ne hi] at h
      obtain ⟨h1, h2⟩ := wipe_getD h
      exact ⟨h1, by simp only [List.mem_cons, not_or]; exact ⟨fun e => hi e.symm, h2⟩⟩
theorem wipe_get_out {σ : L2.St} {i : Nat} : ∀ {vs : List Nat}, i ∉ vs → (wipe σ vs)[i]? = σ[i]?
  | [], _ => rfl
  | v :: vs, h => by
    unfold wipe
    simp only [List.mem_cons, not_or] at h
    rw [List.getElem?_set_ne (fun e => h.1 e.symm)]
    exact wipe_get_out h.2
theorem Rel.wipe {K : PySem.W.Frag} {B : Bd} {N : Addr → Prop} {ρ : Ds} {Γ : Gs} {σ : L2.St} {H : Hp} (r : Rel K B N ρ Γ σ H) (vs : List Nat) : Rel K B N (wipeD ρ vs) Γ (L2.wipe σ vs) H :=
  ⟨by rw [wipe_length, wipeD_len]; exact r.len, fun i d e => by
    obtain ⟨h1, h2⟩ := wipe_getD e
    rw [wipe_get_out h2]
    exact r.env i d h1, r.gs, r.his⟩

/-! ### readings over data, and what they are over the heap -/
abbrev DE := Ds → Gs → (D → Gs → Prop) → Prop
abbrev DT := Ds → Gs → (Bool → Gs → Prop) → Prop
abbrev DA := Ds → Gs → (List D → Gs → Prop) → Prop
structure DEnds where
  nx : Ds → Gs → Prop
  rt : D → Gs → Prop
  bk : Ds → Gs → Prop := fun _ _ => False
  ct : Ds → Gs → Prop := fun _ _ => False
abbrev DS := DEnds → Ds → Gs → Prop

/-- what is to follow a value -/
def Fin (K : PySem.W.Frag) (N : Addr → Prop) (Γ : Gs) (H : Hp) (Qd : D → Gs → Prop) (Q : VK) : Prop := ∀ v H' d Γ', Ext Γ H Γ' H' → GsOk K N Γ' H' → Rp K N Γ' H' d v → Qd d Γ' → Q v H'
def FinL (K : PySem.W.Frag) (N : Addr → Prop) (Γ : Gs) (H : Hp) (Qd : List D → Gs → Prop) (Q : List V → Hp → Prop) : Prop := ∀ vs H' ds Γ', Ext Γ H Γ' H' → GsOk K N Γ' H' → RpL K N Γ' H' ds vs → Qd ds Γ' → Q vs H'
def FinT (K : PySem.W.Frag) (N : Addr → Prop) (Γ : Gs) (H : Hp) (Qd : Bool → Gs → Prop) (Q : Bool → Hp → Prop) : Prop := ∀ b H' Γ', Ext Γ H Γ' H' → GsOk K N Γ' H' → Qd b Γ' → Q b H'
def liftE (K : PySem.W.Frag) (B : Bd) (t : DE) : TE := fun σ H Q => ∃ N ρ Γ Qd, Rel K B N ρ Γ σ H ∧ t ρ Γ Qd ∧ Fin K N Γ H Qd Q
def liftA (K : PySem.W.Frag) (B : Bd) (t : DA) : TA := fun σ H Q => ∃ N ρ Γ Qd, Rel K B N ρ Γ σ H ∧ t ρ Γ Qd ∧ FinL K N Γ H Qd Q
def liftT (K : PySem.W.Frag) (B : Bd) (t : DT) : TT := fun σ H Q => ∃ N ρ Γ Qd, Rel K B N ρ Γ σ H ∧ t ρ Γ Qd ∧ FinT K N Γ H Qd Q
def FinS (K : PySem.W.Frag) (B : Bd) (N : Addr → Prop) (Γ : Gs) (H : Hp) (Z : Ds → Gs → Prop) (M : L2.St → Hp → Prop) : Prop := ∀ σ' H' ρ' Γ', Ext Γ H Γ' H' → Rel K B N ρ' Γ' σ' H' → Z ρ' Γ' → M σ' H'
def liftS (K : PySem.W.Frag) (B : Bd) (t : DS) : TS := fun D σ H => ∃ N ρ Γ Dd, Rel K B N ρ Γ σ H ∧ t Dd ρ Γ ∧ FinS K B N Γ H Dd.nx D.nx ∧ Fin K N Γ H Dd.rt D.rt ∧ FinS K B N Γ H Dd.bk D.bk ∧ FinS K B N Γ H Dd.ct D.ct
section
variable {K : PySem.W.Frag} {B : Bd} {N : Addr → Prop} {Γ Γ' : Gs} {H H' : Hp}
theorem Fin.now {Qd : D → Gs → Prop} {Q : VK} (f : Fin K N Γ H Qd Q) (g : GsOk K N Γ H) {d : D} {v : V} (r : Rp K N Γ H d v) (q : Qd d Γ) : Q v H := f v H d Γ (Ext.refl Γ H) g r q
theorem Fin.mv {Qd : D → Gs → Prop} {Q : VK} (f : Fin K N Γ H Qd Q) (x : Ext Γ H Γ' H') : Fin K N Γ' H' Qd Q := fun v H2 d Γ2 y => f v H2 d Γ2 (x.trans y)
theorem FinL.now {Qd : List D → Gs → Prop} {Q : List V → Hp → Prop} (f : FinL K N Γ H Qd Q) (g : GsOk K N Γ H) {d : List D} {v : List V} (r : RpL K N Γ H d v) (q : Qd d Γ) : Q v H := f v H d Γ (Ext.refl Γ H) g r q
theorem FinL.mv {Qd : List D → Gs → Prop} {Q : List V → Hp → Prop} (f : FinL K N Γ H Qd Q) (x : Ext Γ H Γ' H') : FinL K N Γ' H' Qd Q := fun v H2 d Γ2 y => f v H2 d Γ2 (x.trans y)
theorem FinT.now {Qd : Bool → Gs → Prop} {Q : Bool → Hp → Prop} (f : FinT K N Γ H Qd Q) (g : GsOk K N Γ H) {b : Bool} (q : Qd b Γ) : Q b H := f b H Γ (Ext.refl Γ H) g q
theorem FinT.mv {Qd : Bool → Gs → Prop} {Q : Bool → Hp → Prop} (f : FinT K N Γ H Qd Q) (x : Ext Γ H Γ' H') : FinT K N Γ' H' Qd Q := fun v H2 Γ2 y => f v H2 Γ2 (x.trans y)
theorem FinS.mv {Z : Ds → Gs → Prop} {M : L2.St → Hp → Prop} (f : FinS K B N Γ H Z M) (x : Ext Γ H Γ' H') : FinS K B N Γ' H' Z M := fun σ2 H2 ρ2 Γ2 y => f σ2 H2 ρ2 Γ2 (x.trans y)
/-- a new tuple -/
theorem Fin.tup {Qd : D → Gs → Prop} {Q : VK} (f : Fin K N Γ H Qd Q) (g : GsOk K N Γ H) {ds : List D} {vs : List V} (r : RpL K N Γ H ds vs) (q : Qd (.tup ds) Γ) : NewT H Q vs := fun p o np od =>
  f _ _ _ _ (Ext.laid np) (g.laid np) (.tup (.inl ⟨o, upd_same, od⟩) (r.ext (Ext.laid np))) q
/-- a new list that will not be changed -/
theorem Fin.lst {Qd : D → Gs → Prop} {Q : VK} (f : Fin K N Γ H Qd Q) (g : GsOk K N Γ H) {ds : List D} {vs : List V} (r : RpL K N Γ H ds vs) (q : Qd (.lst ds) Γ) : ∀ p, H p = none → Q (.ref p) (upd H p (.lst vs)) := fun p np =>
  f _ _ _ _ (Ext.laid np) (g.laid np) (.lst (fun z => by obtain ⟨⟨o, e, _⟩, _⟩ := g.hid p z; rw [np] at e; cases e) (g.none_of np) upd_same (r.ext (Ext.laid np))) q
/-- a new list that is owned -/
theorem Fin.own {Qd : D → Gs → Prop} {Q : VK} (f : Fin K N Γ H Qd Q) (g : GsOk K N Γ H) {ds : List D} {vs : List V} (r : RpL K N Γ H ds vs) (q : ∀ p, Γ p = none → Qd (.ptr p) (gup Γ p (.lst ds))) : ∀ p, H p = none → Q (.ref p) (upd H p (.lst vs)) := fun p np =>
  f _ _ _ _ (Ext.own (g := .lst ds) np) (g.own (g := .lst ds) np ⟨vs, upd_same, r.ext (Ext.own np)⟩) (.raw _) (q p (g.none_of np))
end
/-- the items of a list or a tuple -/
def seqOf (Γ : Gs) : D → Option (List D)
  | .tup xs => some xs
  | .lst xs => some xs
  | .scr xs => some xs
  | .raw (.ref a) => match Γ a with | some (.lst xs) => some xs | _ => none
  | _ => none
/-- a list's items -/
def lstOf (Γ : Gs) : D → Option (List D)
  | .lst xs => some xs
  | .scr xs => some xs
  | .raw (.ref a) => match Γ a with | some (.lst xs) => some xs | _ => none
  | _ => none
/-- the items of a list that is known to the heap as a list -/
def lstOf' (Γ : Gs) : D → Option (List D)
  | .lst xs => some xs
  | .raw (.ref a) => match Γ a with | some (.lst xs) => some xs | _ => none
  | _ => none
section
variable {K : PySem.W.Frag} {N : Addr → Prop} {Γ : Gs} {H : Hp}
theorem seqOf_rp (ok : GsOk K N Γ H) {d : D} {v : V} {xs : List D} (r : Rp K N Γ H d v) (h : seqOf Γ d = some xs) : ∃ κ a vs, v = .ref a ∧ SqK κ K H a vs ∧ RpL K N Γ H xs vs := by
  cases r with
  | tup q t => cases h; exact ⟨.T, _, _, rfl, q.sq, t⟩
  | lst n g q t => cases h; exact ⟨.L, _, _, rfl, SqL.of q, t⟩
  | scr q t => cases h; exact ⟨.L, _, _, rfl, q.elim (fun z => .inl (.inr z)) .inr, t⟩
  | raw v =>
    cases v with
    | ref a =>
      simp only [seqOf] at h
      cases g : Γ a with
      | none => rw [g] at h; cases h
      | some u =>
        rw [g] at h
        cases u with
        | lst ds =>
          cases h
          obtain ⟨vs, e, t⟩ := ok.ok a _ g
          exact ⟨.L, a, vs, rfl, SqL.of e, t⟩
        | dic _ => cases h
        | ins _ _ _ _ => cases h
    | _ => cases h
  | non => cases h
  | bl _ => cases h
  | int _ => cases h
  | str _ => cases h
theorem lstOf_rp' (ok : GsOk K N Γ H) {d : D} {v : V} {xs : List D} (r : Rp K N Γ H d v) (h : lstOf' Γ d = some xs) : ∃ a vs, v = .ref a ∧ H a = some (.lst vs) ∧ RpL K N Γ H xs vs := by
  cases r with
  | tup q t => cases h
  | lst n g q t => cases h; exact ⟨_, _, rfl, q, t⟩
  | scr q t => cases h
  | raw v =>
    cases v with
    | ref a =>
      simp only [lstOf'] at h
      cases g : Γ a with
      | none => rw [g] at h; cases h
      | some u =>
        rw [g] at h
        cases u with
        | lst ds =>
          cases h
          obtain ⟨vs, e, t⟩ := ok.ok a _ g
          exact ⟨a, vs, rfl, e, t⟩
        | dic _ => cases h
        | ins _ _ _ _ => cases h
    | _ => cases h
  | non => cases h
  | bl _ => cases h
  | int _ => cases h
  | str _ => cases h
theorem lstOf_rp (ok : GsOk K N Γ H) {d : D} {v : V} {xs : List D} (r : Rp K N Γ H d v) (h : lstOf Γ d = some xs) : ∃ a vs, v = .ref a ∧ SqL K H a vs ∧ RpL K N Γ H xs vs := by
  cases d with
  | scr ds => cases h; cases r with | scr q t => exact ⟨_, _, rfl, q.elim (fun z => .inl (.inr z)) .inr, t⟩
  | raw u =>
    have h' : lstOf' Γ (.raw u) = some xs := by cases u <;> exact h
    obtain ⟨a, vs, e, q, t⟩ := lstOf_rp' ok r h'
    exact ⟨a, vs, e, SqL.of q, t⟩
  | _ =>
    obtain ⟨a, vs, e, q, t⟩ := lstOf_rp' ok r h
    exact ⟨a, vs, e, SqL.of q, t⟩
theorem sqK_len {X : Cx} {pins : List (Addr × Obj)} {σ : L2.St} {s : Shared} {κ : Kd} {a : Addr} {vs : List V} (I : Inv X pins σ H s) (h : SqK κ X.K H a vs) : vs.length ≤ sizeLine := by
  obtain ⟨_, _, _, h⟩ := seqK I h
  exact h
end

/-! ### judgements weakened -/
section
variable {X : Cx}
theorem PEi {e : Expr} {t t' : TE} (h : PE X e t) (i : ∀ σ H Q, t' σ H Q → t σ H Q) : PE X e t' := ⟨fun pins s σ H Q I w => h.run pins s σ H Q I (i σ H Q w)⟩
theorem PTi {e : Expr} {t t' : TT} (h : PT X e t) (i : ∀ σ H Q, t' σ H Q → t σ H Q) : PT X e t' := ⟨fun pins s σ H Q I w => h.run pins s σ H Q I (i σ H Q w)⟩
theorem PWi {e : Expr} {t t' : TT} (h : PW X e t) (i : ∀ σ H Q, t' σ H Q → t σ H Q) : PW X e t' := ⟨fun wh pins s σ H Q I w => h.run wh pins s σ H Q I (i σ H Q w)⟩
theorem PAi {e : List Expr} {t t' : TA} (h : PA X e t) (i : ∀ σ H Q, t' σ H Q → t σ H Q) : PA X e t' := ⟨fun pos pins s σ H Q I w => h.run pos pins s σ H Q I (i σ H Q w)⟩
theorem PSi {st : Stmt} {t t' : TS} (h : PS X st t) (i : ∀ D σ H, t' D σ H → t D σ H) : PS X st t' := ⟨fun pins s σ H D I w => h.run pins s σ H D I (i D σ H w)⟩
theorem PSsi {st : List Stmt} {t t' : TS} (h : PSs X st t) (i : ∀ D σ H, t' D σ H → t D σ H) : PSs X st t' := ⟨fun pins s σ H D I w => h.run pins s σ H D I (i D σ H w)⟩
end
end Y
set_option Elab.async false
set_option linter.all false
set_option maxRecDepth 100000
set_option maxHeartbeats 4000000
/-! the data layer's rules: expressions -/
namespace Y
open PySem PySem.Spec PyProof.Rows L2

section
variable {X : Cx} {B : Bd} {pos : Pos}
/-! ### names, constants -/
def dVar (i : Nat) : DE := fun ρ Γ Q => match ρ[i]? with | some (some d) => Q d Γ | _ => False
theorem dVar_lift (i : Nat) (σ : L2.St) (H : Hp) (Q : VK) (h : liftE X.K B (dVar i) σ H Q) : tVar i σ H Q := by
  obtain ⟨N, ρ, Γ, Qd, r, t, f⟩ := h
  unfold dVar at t
  split at t
  · rename_i d e
    obtain ⟨v, h1, h2⟩ := r.env i d e
    exact ⟨v, h1, f.now r.gs h2 t⟩
  · exact t.elim
theorem yv (i : Nat) {x : Str} {pos : Pos} (hN : X.N[i]? = some x := by rfl) (hv : Vis X.env.scope x := by first | exact Or.inl rfl | exact Or.inr (Or.inl rfl) | exact Or.inr (Or.inr rfl)) (hd : (x == ("__debug__" : Str)) = false := by decide)
    (hcd : (x == ("__classdict__" : Str)) = false := by decide) : PE X (.Name x pos) (liftE X.K B (dVar i)) := PEi (pe_var hN hv hd hcd) (dVar_lift i)
def dC (d : D) : DE := fun _ Γ Q => Q d Γ
theorem dC_lift {d : D} {v : V} (h : ∀ N Γ H, Rp X.K N Γ H d v) (σ : L2.St) (H : Hp) (Q : VK) (q : liftE X.K B (dC d) σ H Q) : tC v σ H Q := by
  obtain ⟨N, ρ, Γ, Qd, r, t, f⟩ := q
  exact f.now r.gs (h N Γ H) t
theorem ye_int {i : Int} {j : Nat} : PE X (.Constant (.int i) j pos) (liftE X.K B (dC (.int i))) := PEi pe_int (dC_lift fun _ _ _ => .int i)
theorem ye_bl {b : Bool} {j : Nat} : PE X (.Constant (.bool b) j pos) (liftE X.K B (dC (.bl b))) := PEi pe_bl (dC_lift fun _ _ _ => .bl b)
theorem ye_non {j : Nat} : PE X (.Constant .none j pos) (liftE X.K B (dC .non)) := PEi pe_non (dC_lift fun _ _ _ => .non)
theorem ye_str {x : Str} {j : Nat} : PE X (.Constant (.str x) j pos) (liftE X.K B (dC (.str x))) := PEi pe_str (dC_lift fun _ _ _ => .str x)
/-- a module's constant -/
def Cst (K : PySem.W.Frag) (mg : Str → Option Value) (x : Str) (d : D) : Prop := ∃ v u, mg x = some u ∧ RelV v u ∧ ∀ N Γ H, Rp K N Γ H d v
theorem ye_glob {x : Str} {d : D} (hg : Gl X x) (c : Cst X.K X.mg x d) (hd : (x == ("__debug__" : Str)) = false := by decide) : PE X (.Name x pos) (liftE X.K B (dC d)) := by
  obtain ⟨v, u, hm, r, h⟩ := c
  exact PEi (pe_glob hg hm r hd) (dC_lift h)

/-! ### operators -/
abbrev DR2 := D → D → Gs → (D → Gs → Prop) → Prop
def OpD (K : PySem.W.Frag) (r : DR2) (r' : R2) : Prop := ∀ (N : Addr → Prop) (Γ : Gs) (H : Hp) (x y : V) (dx dy : D) (Qd : D → Gs → Prop) (Q : VK), GsOk K N Γ H → Rp K N Γ H dx x → Rp K N Γ H dy y → r dx dy Γ Qd → Fin K N Γ H Qd Q → r' x y H Q
def dOp (r : DR2) (ta tb : DE) : DE := fun ρ Γ Q => ta ρ Γ fun x Γ1 => tb ρ Γ1 fun y Γ2 => r x y Γ2 Q
theorem dOp_lift {K : PySem.W.Frag} {r : DR2} {r' : R2} (o : OpD K r r') (ta tb : DE) (σ : L2.St) (H : Hp) (Q : VK) (h : liftE K B (dOp r ta tb) σ H Q) : tOp r' (liftE K B ta) (liftE K B tb) σ H Q := by
  obtain ⟨N, ρ, Γ, Qd, rel, t, f⟩ := h
  refine ⟨N, ρ, Γ, _, rel, t, fun x H1 d1 Γ1 x1 g1 r1 q1 => ⟨N, ρ, Γ1, _, rel.ext x1 g1, q1, fun y H2 d2 Γ2 x2 g2 r2 q2 => ?_⟩⟩
  exact o N Γ2 H2 x y d1 d2 Qd Q g2 (r1.ext x2) r2 q2 (f.mv (x1.trans x2))
theorem ye_op {op : Operator} {r : DR2} {r' : R2} {a b : Expr} {ta tb : DE} (ho : OpR X (binaryOp op) r') (o : OpD X.K r r') (ha : PE X a (liftE X.K B ta)) (hb : PE X b (liftE X.K B tb)) : PE X (.BinOp a op b pos) (liftE X.K B (dOp r ta tb)) :=
  PEi (pe_op ho ha hb) (dOp_lift o ta tb)
theorem OpR_or {f : Value → Value → Sem Value} {r r' : R2} (h : OpR X f r) (h' : OpR X f r') : OpR X f (fun x y H Q => r x y H Q ∨ r' x y H Q) := by
  intro pins s σ H x y v u Q I rx ry q
  rcases q with q | q
  · exact h pins s σ H x y v u Q I rx ry q
  · exact h' pins s σ H x y v u Q I rx ry q
/-- on ints -/
def d2I (C : Int → Int → Prop) (g : Int → Int → D) : DR2 := fun x y Γ Q => match x, y with | .int i, .int j => C i j ∧ Q (g i j) Γ | _, _ => False
theorem od_I {K : PySem.W.Frag} {C : Int → Int → Prop} {g : Int → Int → D} {g' : Int → Int → V} (hg : ∀ i j N Γ H, Rp K N Γ H (g i j) (g' i j)) : OpD K (d2I C g) (rI C g') := by
  intro N Γ H x y dx dy Qd Q ok rx ry h f
  unfold d2I at h
  split at h
  · cases rx; cases ry
    exact ⟨_, _, rfl, rfl, h.1, f.now ok (hg _ _ _ _ _) h.2⟩
  · exact h.elim
def d2I0 (g : Int → Int → D) : DR2 := fun x y Γ Q => match x, y with | .int i, .int j => Q (g i j) Γ | _, _ => False
theorem od_I0 {K : PySem.W.Frag} {g : Int → Int → D} {g' : Int → Int → V} (hg : ∀ i j N Γ H, Rp K N Γ H (g i j) (g' i j)) : OpD K (d2I0 g) (rI0 g') := by
  intro N Γ H x y dx dy Qd Q ok rx ry h f
  unfold d2I0 at h
  split at h
  · cases rx; cases ry
    exact ⟨_, _, rfl, rfl, f.now ok (hg _ _ _ _ _) h⟩
  · exact h.elim
/-- + : ints, tuples, lists -/
def rAddAll (K : PySem.W.Frag) : R2 := fun x y H Q => (rI0 (fun i j => .int (i + j)) x y H Q) ∨ (rCatF K x y H Q) ∨ (rCat x y H Q)
def dAdd : DR2 := fun x y Γ Q => match x, y with
  | .int i, .int j => Q (.int (i + j)) Γ
  | .tup xs, .tup ys => xs.length + ys.length ≤ sizeLine ∧ Q (.tup (xs ++ ys)) Γ
  | x, y => ∃ xs ys, lstOf' Γ x = some xs ∧ lstOf' Γ y = some ys ∧ xs.length + ys.length ≤ sizeLine ∧ Q (.lst (xs ++ ys)) Γ
theorem od_add {K : PySem.W.Frag} : OpD K dAdd (rAddAll K) := by
  intro N Γ H x y dx dy Qd Q ok rx ry h f
  unfold dAdd at h
  split at h
  · cases rx; cases ry
    exact .inl ⟨_, _, rfl, rfl, f.now ok (.int _) h⟩
  · cases rx with
    | tup hx tx =>
      cases ry with
      | tup hy ty =>
        refine .inr (.inl ⟨_, _, _, _, rfl, rfl, hx.sq, hy.sq, ?_, fun e => ?_, fun e1 e2 => ?_, fun e1 e2 => ?_⟩)
        · rw [tx.length, ty.length]; exact h.1
        · subst e; cases tx
          exact f.now ok (.tup hy ty) h.2
        · subst e2; cases ty
          exact f.now ok (.tup hx tx) (by simpa using h.2)
        · exact f.tup ok (tx.append ty) h.2
  · obtain ⟨xs, ys, h1, h2, hz, q⟩ := h
    obtain ⟨a, vs, rfl, ha, ra⟩ := lstOf_rp' ok rx h1
    obtain ⟨b, ws, rfl, hb, rb⟩ := lstOf_rp' ok ry h2
    refine .inr (.inr ⟨a, b, vs, ws, rfl, rfl, ha, hb, ?_, f.lst ok (ra.append rb) q⟩)
    rw [ra.length, rb.length]; exact hz
theorem ye_add {a b : Expr} {ta tb : DE} (ha : PE X a (liftE X.K B ta)) (hb : PE X b (liftE X.K B tb)) : PE X (.BinOp a .Add b pos) (liftE X.K B (dOp dAdd ta tb)) :=
  ye_op (OpR_or op_add (OpR_or op_catF op_cat)) od_add ha hb
abbrev dSub : DR2 := d2I0 fun i j => .int (i - j)
theorem ye_sub {a b : Expr} {ta tb : DE} (ha : PE X a (liftE X.K B ta)) (hb : PE X b (liftE X.K B tb)) : PE X (.BinOp a .Sub b pos) (liftE X.K B (dOp dSub ta tb)) :=
  ye_op op_sub (od_I0 fun _ _ _ _ _ => .int _) ha hb
/-- // by a positive divisor below 2 ^ 9000, % by a positive one -/
abbrev dDiv : DR2 := d2I CDivW fun i j => .int (i / j)
theorem ye_div {a b : Expr} {ta tb : DE} (ha : PE X a (liftE X.K B ta)) (hb : PE X b (liftE X.K B tb)) : PE X (.BinOp a .FloorDiv b pos) (liftE X.K B (dOp dDiv ta tb)) :=
  ye_op op_fdivW (od_I fun _ _ _ _ _ => .int _) ha hb
abbrev dMod : DR2 := d2I (fun _ j => 0 < j) fun i j => .int (i % j)
theorem ye_mod {a b : Expr} {ta tb : DE} (ha : PE X a (liftE X.K B ta)) (hb : PE X b (liftE X.K B tb)) : PE X (.BinOp a .Mod b pos) (liftE X.K B (dOp dMod ta tb)) :=
  ye_op op_mod (od_I fun _ _ _ _ _ => .int _) ha hb
abbrev dPow : DR2 := d2I CPow fun i j => .int (i ^ j.toNat)
theorem ye_pow {a b : Expr} {ta tb : DE} (ha : PE X a (liftE X.K B ta)) (hb : PE X b (liftE X.K B tb)) : PE X (.BinOp a .Pow b pos) (liftE X.K B (dOp dPow ta tb)) :=
  ye_op op_pow (od_I fun _ _ _ _ _ => .int _) ha hb
/-- * : ints; a list so many times; a tuple so many times -/
def MulOk (i j : Int) : Prop := CMul i j ∨ CMulW i j
theorem op_mulA {X : Cx} : OpR X (binaryOp .Mult) (rI MulOk fun i j => .int (i * j)) := opI fun _ _ _ _ _ _ _ hc q => mul_int q (hc.elim CMul.ok CMulW.ok)
def rMulAll (K : PySem.W.Frag) : R2 := fun x y H Q => (rI MulOk (fun i j => .int (i * j)) x y H Q) ∨ (rRep x y H Q) ∨ (rRepF K x y H Q)
def dMul : DR2 := fun x y Γ Q => match x, y with
  | .int i, .int j => MulOk i j ∧ Q (.int (i * j)) Γ
  | .tup xs, .int k => xs ≠ [] ∧ 2 ≤ k ∧ k ≤ 1000 ∧ xs.length ≤ 1000 ∧ Q (.tup (List.replicate k.toNat xs).flatten) Γ
  | x, .int k => ∃ xs, lstOf' Γ x = some xs ∧ -(2 ^ 63) ≤ k ∧ k < 2 ^ 63 ∧ xs.length * k.toNat ≤ sizeLine ∧ Q (.lst (List.replicate k.toNat xs).flatten) Γ
  | _, _ => False
theorem od_mul {K : PySem.W.Frag} : OpD K dMul (rMulAll K) := by
  intro N Γ H x y dx dy Qd Q ok rx ry h f
  unfold dMul at h
  split at h
  · cases rx; cases ry
    exact .inl ⟨_, _, rfl, rfl, h.1, f.now ok (.int _) h.2⟩
  · cases ry
    obtain ⟨h0, h1, h2, h3, q⟩ := h
    cases rx with
    | tup hx tx =>
      refine .inr (.inr ⟨_, _, _, rfl, rfl, hx.sq, ?_, h1, h2, ?_, f.tup ok (tx.rep _) q⟩)
      · intro e; subst e; cases tx; exact h0 rfl
      · rw [tx.length]; exact h3
  · cases ry
    obtain ⟨xs, h1, h2, h3, h4, q⟩ := h
    obtain ⟨a, vs, rfl, ha, ra⟩ := lstOf_rp' ok rx h1
    exact .inr (.inl ⟨a, _, vs, rfl, rfl, ha, h2, h3, by rw [ra.length]; exact h4, f.lst ok (ra.rep _) q⟩)
  · exact h.elim
theorem ye_mul {a b : Expr} {ta tb : DE} (ha : PE X a (liftE X.K B ta)) (hb : PE X b (liftE X.K B tb)) : PE X (.BinOp a .Mult b pos) (liftE X.K B (dOp dMul ta tb)) :=
  ye_op (OpR_or op_mulA (OpR_or op_rep op_repF)) od_mul ha hb
/-- -i -/
def dNeg (ta : DE) : DE := fun ρ Γ Q => ta ρ Γ fun x Γ1 => match x with | .int i => Q (.int (-i)) Γ1 | _ => False
theorem ye_neg {a : Expr} {ta : DE} (ha : PE X a (liftE X.K B ta)) : PE X (.UnaryOp .USub a pos) (liftE X.K B (dNeg ta)) := by
  refine PEi (pe_un un_neg ha) fun σ H Q h => ?_
  obtain ⟨N, ρ, Γ, Qd, rel, t, f⟩ := h
  refine ⟨N, ρ, Γ, _, rel, t, fun x H1 d1 Γ1 x1 g1 r1 q1 => ?_⟩
  split at q1
  · cases r1
    exact ⟨_, rfl, (f.mv x1).now g1 (.int _) q1⟩
  · exact q1.elim

/-! ### comparisons -/
theorem ye_cmp {op : CmpOp} {r : DR2} {r' : R2} {a b : Expr} {ta tb : DE} (ho : OpR X (compareOp op) r') (o : OpD X.K r r') (ha : PE X a (liftE X.K B ta)) (hb : PE X b (liftE X.K B tb)) (h1 : behindInMarks op b = false) :
    PE X (.Compare a [op] [b] pos) (liftE X.K B (dOp r ta tb)) := PEi (pe_cmpR ho ha hb h1) (dOp_lift o ta tb)
abbrev dLt : DR2 := d2I0 fun i j => .bl (decide (i < j))
abbrev dLe : DR2 := d2I0 fun i j => .bl (decide (i ≤ j))
abbrev dGt : DR2 := d2I0 fun i j => .bl (decide (j < i))
abbrev dGe : DR2 := d2I0 fun i j => .bl (decide (j ≤ i))

theorem ye_lt {a b : Expr} {ta tb : DE} (ha : PE X a (liftE X.K B ta)) (hb : PE X b (liftE X.K B tb)) : PE X (.Compare a [.Lt] [b] pos) (liftE X.K B (dOp dLt ta tb)) := ye_cmp op_lt (od_I0 fun _ _ _ _ _ => .bl _) ha hb (nomark _)
theorem ye_le {a b : Expr} {ta tb : DE} (ha : PE X a (liftE X.K B ta)) (hb : PE X b (liftE X.K B tb)) : PE X (.Compare a [.LtE] [b] pos) (liftE X.K B (dOp dLe ta tb)) := ye_cmp op_le (od_I0 fun _ _ _ _ _ => .bl _) ha hb (nomark _)
theorem ye_gt {a b : Expr} {ta tb : DE} (ha : PE X a (liftE X.K B ta)) (hb : PE X b (liftE X.K B tb)) : PE X (.Compare a [.Gt] [b] pos) (liftE X.K B (dOp dGt ta tb)) := ye_cmp op_gt (od_I0 fun _ _ _ _ _ => .bl _) ha hb (nomark _)
theorem ye_ge {a b : Expr} {ta tb : DE} (ha : PE X a (liftE X.K B ta)) (hb : PE X b (liftE X.K B tb)) : PE X (.Compare a [.GtE] [b] pos) (liftE X.K B (dOp dGe ta tb)) := ye_cmp op_ge (od_I0 fun _ _ _ _ _ => .bl _) ha hb (nomark _)
end

/-! ### == of data -/
mutual
/-- the data that == serves, nested at most so deep -/
def pyOk : Nat → D → Bool
  | _, .non => true
  | _, .bl _ => true
  | _, .int _ => true
  | _, .str x => PyData.strOk x
  | n + 1, .tup xs => pyOkL n xs
  | n + 1, .lst xs => pyOkL n xs
  | _, _ => false
def pyOkL : Nat → List D → Bool
  | _, [] => true
  | n, x :: xs => pyOk n x && pyOkL n xs
end
mutual
def toPy : D → PyData
  | .non => .none
  | .bl b => .bool b
  | .int i => .int i
  | .str x => .str x
  | .tup xs => .tuple (toPyL xs)
  | .lst xs => .list (toPyL xs)
  | _ => .none
def toPyL : List D → List PyData
  | [] => []
  | x :: xs => toPy x :: toPyL xs
end
mutual
/-- == -/
def eqD : D → D → Bool
  | .non, .non => true
  | .bl a, .bl b => a == b
  | .bl a, .int j => (if a then 1 else 0) == j
  | .int i, .bl b => i == (if b then 1 else 0)
  | .int i, .int j => i == j
  | .str x, .str y => x == y
  | .lst xs, .lst ys => eqDL xs ys
  | .tup xs, .tup ys => eqDL xs ys
  | _, _ => false
def eqDL : List D → List D → Bool
  | [], [] => true
  | x :: xs, y :: ys => eqD x y && eqDL xs ys
  | _, _ => false
end
mutual
theorem toPy_ok : ∀ (n : Nat) (d : D), pyOk n d = true → (toPy d).canLay0 = true ∧ (toPy d).depth ≤ n + 1
  | n, .non, _ => ⟨by simp [toPy, PyData.canLay0], by simp [toPy, PyData.depth]⟩
  | n, .bl _, _ => ⟨by simp [toPy, PyData.canLay0], by simp [toPy, PyData.depth]⟩
  | n, .int _, _ => ⟨by simp [toPy, PyData.canLay0], by simp [toPy, PyData.depth]⟩
  | n, .str x, h => ⟨by simpa [toPy, PyData.canLay0, pyOk] using h, by simp [toPy, PyData.depth]⟩
  | n + 1, .tup xs, h => by
    obtain ⟨h1, h2⟩ := toPyL_ok n xs (by simpa [pyOk] using h)
    exact ⟨by simpa [toPy, PyData.canLay0] using h1, by simp only [toPy, PyData.depth]; omega⟩
  | n + 1, .lst xs, h => by
    obtain ⟨h1, h2⟩ := toPyL_ok n xs (by simpa [pyOk] using h)
    exact ⟨by simpa [toPy, PyData.canLay0] using h1, by simp only [toPy, PyData.depth]; omega⟩
  | 0, .tup xs, h => by simp [pyOk] at h
  | 0, .lst xs, h => by simp [pyOk] at h
  | _, .scr xs, h => by simp [pyOk] at h
  | _, .raw _, h => by simp [pyOk] at h
theorem toPyL_ok : ∀ (n : Nat) (xs : List D), pyOkL n xs = true → PyData.canLayAll0 (toPyL xs) = true ∧ PyData.depthAll (toPyL xs) ≤ n + 1
  | n, [], _ => ⟨by simp [toPyL, PyData.canLayAll0], by simp [toPyL, PyData.depthAll]⟩
  | n, x :: xs, h => by
    simp only [pyOkL, Bool.and_eq_true] at h
    obtain ⟨h1, h2⟩ := toPy_ok n x h.1
    obtain ⟨h3, h4⟩ := toPyL_ok n xs h.2
    exact ⟨by simp [toPyL, PyData.canLayAll0, h1, h3], by simp only [toPyL, PyData.depthAll]; omega⟩
end
theorem toPy_shaped {d : D} (h : pyOk 60 d = true) : SeqAt.shaped (toPy d) = true := by
  obtain ⟨h1, h2⟩ := toPy_ok 60 d h
  unfold SeqAt.shaped
  rw [h1]
  simp
  omega
mutual
theorem eqv_toPy : ∀ (n : Nat) (x y : D), pyOk n x = true → pyOk n y = true → PyData.eqv (toPy x) (toPy y) = eqD x y
  | _, .non, y, _, h => by cases y <;> simp [toPy, PyData.eqv, eqD, pyOk] at h ⊢
  | _, .bl b, y, _, h => by cases y <;> simp [toPy, PyData.eqv, eqD, pyOk] at h ⊢
  | _, .int i, y, _, h => by cases y <;> simp [toPy, PyData.eqv, eqD, pyOk] at h ⊢
  | _, .str s, y, _, h => by cases y <;> simp [toPy, PyData.eqv, eqD, pyOk] at h ⊢
  | 0, .tup xs, y, h, _ => by simp [pyOk] at h
  | 0, .lst xs, y, h, _ => by simp [pyOk] at h
  | n + 1, .tup xs, y, h, h' => by
    cases y with
    | tup ys =>
      simp only [pyOk] at h h'
      simp only [toPy, PyData.eqv, eqD]
      exact eqvL_toPy n xs ys h h'
    | _ => simp [toPy, PyData.eqv, eqD, pyOk] at h' ⊢
  | n + 1, .lst xs, y, h, h' => by
    cases y with
    | lst ys =>
      simp only [pyOk] at h h'
      simp only [toPy, PyData.eqv, eqD]
      exact eqvL_toPy n xs ys h h'
    | _ => simp [toPy, PyData.eqv, eqD, pyOk] at h' ⊢
  | _, .scr xs, _, h, _ => by simp [pyOk] at h
  | _, .raw _, _, h, _ => by simp [pyOk] at h
theorem eqvL_toPy : ∀ (n : Nat) (xs ys : List D), pyOkL n xs = true → pyOkL n ys = true → PyData.eqvAll (toPyL xs) (toPyL ys) = eqDL xs ys
  | _, [], [], _, _ => by simp [toPyL, PyData.eqvAll, eqDL]
  | _, [], _ :: _, _, _ => by simp [toPyL, PyData.eqvAll, eqDL]
  | _, _ :: _, [], _, _ => by simp [toPyL, PyData.eqvAll, eqDL]
  | n, x :: xs, y :: ys, h, h' => by
    simp only [pyOkL, Bool.and_eq_true] at h h'
    simp only [toPyL, PyData.eqvAll, eqDL]
    rw [eqv_toPy n x y h.1 h'.1, eqvL_toPy n xs ys h.2 h'.2]
end
mutual
theorem eqD_refl : ∀ (n : Nat) (d : D), pyOk n d = true → eqD d d = true
  | _, .non, _ => by simp [eqD]
  | _, .bl _, _ => by simp [eqD]
  | _, .int _, _ => by simp [eqD]
  | _, .str _, _ => by simp [eqD]
  | 0, .tup xs, h => by simp [pyOk] at h
  | 0, .lst xs, h => by simp [pyOk] at h
  | n + 1, .tup xs, h => by simp only [eqD]; exact eqDL_refl n xs (by simpa [pyOk] using h)
  | n + 1, .lst xs, h => by simp only [eqD]; exact eqDL_refl n xs (by simpa [pyOk] using h)
  | _, .scr xs, h => by simp [pyOk] at h
  | _, .raw _, h => by simp [pyOk] at h
theorem eqDL_refl : ∀ (n : Nat) (xs : List D), pyOkL n xs = true → eqDL xs xs = true
  | _, [], _ => by simp [eqDL]
  | n, x :: xs, h => by
    simp only [pyOkL, Bool.and_eq_true] at h
    simp only [eqDL]
    rw [eqD_refl n x h.1, eqDL_refl n xs h.2]; rfl
end
theorem pyOkL_all {n : Nat} : ∀ {xs : List D}, (∀ x ∈ xs, pyOk n x = true) → pyOkL n xs = true
  | [], _ => by simp [pyOkL]
  | x :: xs, h => by
    simp only [pyOkL, Bool.and_eq_true]
    exact ⟨h x List.mem_cons_self, pyOkL_all fun y hy => h y (List.mem_cons_of_mem _ hy)⟩
mutual
theorem Rp.toDp {K : PySem.W.Frag} {N : Addr → Prop} {Γ : Gs} {H : Hp} : ∀ {n : Nat} {d : D} {v : V}, Rp K N Γ H d v → pyOk n d = true → Dp K H v (toPy d)
  | _, _, _, .non, _ => by simp only [toPy]; exact .non
  | _, _, _, .bl b, _ => by simp only [toPy]; exact .bl b
  | _, _, _, .int i, _ => by simp only [toPy]; exact .int i
  | _, _, _, .str x, _ => by simp only [toPy]; exact .str x
  | 0, _, _, .tup h hs, q => by simp [pyOk] at q
  | 0, _, _, .lst nn g h hs, q => by simp [pyOk] at q
  | n + 1, _, _, .tup h hs, q => by simp only [toPy]; exact .tup h.sq (RpL.toDp (n := n) hs (by simpa [pyOk] using q))
  | n + 1, _, _, .lst nn g h hs, q => by simp only [toPy]; exact .lst (SqL.of h) (RpL.toDp (n := n) hs (by simpa [pyOk] using q))
  | _, _, _, .scr h hs, q => by simp [pyOk] at q
  | _, _, _, .raw _, q => by simp [pyOk] at q
theorem RpL.toDp {K : PySem.W.Frag} {N : Addr → Prop} {Γ : Gs} {H : Hp} : ∀ {n : Nat} {ds : List D} {vs : List V}, RpL K N Γ H ds vs → pyOkL n ds = true → DpAll K H vs (toPyL ds)
  | _, _, _, .nil, _ => by simp only [toPyL]; exact .nil
  | n, _, _, .cons h hs, q => by
    simp only [pyOkL, Bool.and_eq_true] at q
    simp only [toPyL]
    exact .cons (Rp.toDp h q.1) (RpL.toDp hs q.2)
end
/-- an owned list as what it holds -/
def resD (Γ : Gs) : D → D
  | .raw (.ref a) => match Γ a with | some (.lst xs) => .lst xs | _ => .raw (.ref a)
  | d => d
theorem resD_dp {K : PySem.W.Frag} {N : Addr → Prop} {Γ : Gs} {H : Hp} (ok : GsOk K N Γ H) {n : Nat} {d : D} {v : V} (r : Rp K N Γ H d v) (h : pyOk n (resD Γ d) = true) : Dp K H v (toPy (resD Γ d)) := by
  cases d with
  | raw u =>
    cases u with
    | ref a =>
      cases r
      simp only [resD] at h ⊢
      cases g : Γ a with
      | none => rw [g] at h; simp [pyOk] at h
      | some u =>
        rw [g] at h
        cases u with
        | lst ds =>
          obtain ⟨vs, e, t⟩ := ok.ok a _ g
          cases n with
          | zero => simp [pyOk] at h
          | succ n => simp only [toPy]; exact .lst (SqL.of e) (t.toDp (n := n) (by simpa [pyOk] using h))
        | dic _ => simp [pyOk] at h
        | ins _ _ _ _ => simp [pyOk] at h
    | _ => simp [resD, pyOk] at h
  | _ => exact r.toDp h
section
variable {X : Cx} {B : Bd} {pos : Pos}
def dEq : DR2 := fun x y Γ Q => match x, y with
  | .int i, .int j => Q (.bl (decide (i = j))) Γ
  | .str i, .str j => Q (.bl (decide (i = j))) Γ
  | .bl i, .bl j => Q (.bl (decide (i = j))) Γ
  | x, y => pyOk 60 (resD Γ x) = true ∧ pyOk 60 (resD Γ y) = true ∧ Q (.bl (eqD (resD Γ x) (resD Γ y))) Γ
def dNe : DR2 := fun x y Γ Q => match x, y with
  | .int i, .int j => Q (.bl (!decide (i = j))) Γ
  | .str i, .str j => Q (.bl (!decide (i = j))) Γ
  | .bl i, .bl j => Q (.bl (!decide (i = j))) Γ
  | x, y => pyOk 60 (resD Γ x) = true ∧ pyOk 60 (resD Γ y) = true ∧ Q (.bl (!eqD (resD Γ x) (resD Γ y))) Γ
def rEqAll (K : PySem.W.Frag) : R2 := fun x y H Q => rEq x y H Q ∨ rEqD K x y H Q
def rNeAll (K : PySem.W.Frag) : R2 := fun x y H Q => rNe x y H Q ∨ rNeD K x y H Q
theorem od_eq {K : PySem.W.Frag} : OpD K dEq (rEqAll K) := by
  intro N Γ H x y dx dy Qd Q ok rx ry h f
  unfold dEq at h
  split at h
  · cases rx; cases ry
    exact .inl ⟨rfl, f.now ok (.bl _) (by rw [dec_int, ← Bool.beq_eq_decide_eq] at *; exact h)⟩
  · cases rx; cases ry
    exact .inl ⟨rfl, f.now ok (.bl _) (by rw [dec_str, ← Bool.beq_eq_decide_eq] at *; exact h)⟩
  · cases rx; cases ry
    exact .inl ⟨rfl, f.now ok (.bl _) (by rw [dec_bl, ← Bool.beq_eq_decide_eq] at *; exact h)⟩
  · obtain ⟨h1, h2, q⟩ := h
    refine .inr ⟨_, _, resD_dp ok rx h1, resD_dp ok ry h2, toPy_shaped h1, toPy_shaped h2, f.now ok (.bl _) ?_⟩
    rw [eqv_toPy 60 _ _ h1 h2]; exact q
theorem od_ne {K : PySem.W.Frag} : OpD K dNe (rNeAll K) := by
  intro N Γ H x y dx dy Qd Q ok rx ry h f
  unfold dNe at h
  split at h
  · cases rx; cases ry
    exact .inl ⟨rfl, f.now ok (.bl _) (by rw [dec_int, ← Bool.beq_eq_decide_eq] at *; exact h)⟩
  · cases rx; cases ry
    exact .inl ⟨rfl, f.now ok (.bl _) (by rw [dec_str, ← Bool.beq_eq_decide_eq] at *; exact h)⟩
  · cases rx; cases ry
    exact .inl ⟨rfl, f.now ok (.bl _) (by rw [dec_bl, ← Bool.beq_eq_decide_eq] at *; exact h)⟩
  · obtain ⟨h1, h2, q⟩ := h
    refine .inr ⟨_, _, resD_dp ok rx h1, resD_dp ok ry h2, toPy_shaped h1, toPy_shaped h2, f.now ok (.bl _) ?_⟩
    rw [eqv_toPy 60 _ _ h1 h2]; exact q
theorem ye_eq {k : Nat} {a b : Expr} {ta tb : DE} (hr : Room k X.A) (ha : PE X a (liftE X.K B ta)) (hb : PE X b (liftE X.K B tb)) : PE X (.Compare a [.Eq] [b] pos) (liftE X.K B (dOp dEq ta tb)) :=
  ye_cmp (OpR_or op_eq (op_eqD hr.units)) od_eq ha hb (nomark _)
theorem ye_ne {k : Nat} {a b : Expr} {ta tb : DE} (hr : Room k X.A) (ha : PE X a (liftE X.K B ta)) (hb : PE X b (liftE X.K B tb)) : PE X (.Compare a [.NotEq] [b] pos) (liftE X.K B (dOp dNe ta tb)) :=
  ye_cmp (OpR_or op_ne (op_neD hr.units)) od_ne ha hb (nomark _)
/-! ### is -/
def isNon : D → Bool
  | .non => true
  | _ => false
def dIs : DR2 := fun x y Γ Q => match y with
  | .non => (∀ v, x ≠ .raw v) ∧ Q (.bl (isNon x)) Γ
  | .bl b => match x with | .bl a => Q (.bl (decide (a = b))) Γ | _ => False
  | _ => False
def dIsNot : DR2 := fun x y Γ Q => match y with
  | .non => (∀ v, x ≠ .raw v) ∧ Q (.bl (!isNon x)) Γ
  | .bl b => match x with | .bl a => Q (.bl (!decide (a = b))) Γ | _ => False
  | _ => False
theorem isNon_rp {K : PySem.W.Frag} {N : Addr → Prop} {Γ : Gs} {H : Hp} {d : D} {v : V} (r : Rp K N Γ H d v) (h : ∀ u, d ≠ .raw u) : decide (v = .non) = isNon d := by
  cases r <;> first | rfl | (exact absurd rfl (h _)) | (simp [isNon])
theorem ye_is {a b : Expr} {ta tb : DE} (ha : PE X a (liftE X.K B ta)) (hb : PE X b (liftE X.K B tb)) : PE X (.Compare a [.Is] [b] pos) (liftE X.K B (dOp dIs ta tb)) := by
  refine ye_cmp (OpR_or op_isN op_isBl) (fun N Γ H x y dx dy Qd Q ok rx ry h f => ?_) ha hb (nomark _)
  unfold dIs at h
  split at h
  · cases ry
    refine .inl ⟨rfl, f.now ok (.bl _) ?_⟩
    rw [isNon_rp rx h.1]; exact h.2
  · cases ry
    split at h
    · cases rx
      exact .inr ⟨_, _, rfl, rfl, f.now ok (.bl _) h⟩
    · exact h.elim
  · exact h.elim
theorem ye_isnot {a b : Expr} {ta tb : DE} (ha : PE X a (liftE X.K B ta)) (hb : PE X b (liftE X.K B tb)) : PE X (.Compare a [.IsNot] [b] pos) (liftE X.K B (dOp dIsNot ta tb)) := by
  refine ye_cmp (OpR_or op_notN op_notBl) (fun N Γ H x y dx dy Qd Q ok rx ry h f => ?_) ha hb (nomark _)
  unfold dIsNot at h
  split at h
  · cases ry
    refine .inl ⟨rfl, f.now ok (.bl _) ?_⟩
    rw [isNon_rp rx h.1]; exact h.2
  · cases ry
    split at h
    · cases rx
      exact .inr ⟨_, _, rfl, rfl, f.now ok (.bl _) h⟩
    · exact h.elim
  · exact h.elim
end
end Y
set_option Elab.async false
set_option linter.all false
set_option maxRecDepth 100000
set_option maxHeartbeats 4000000
/-! the data layer's rules: tests, displays, subscripts, calls -/
namespace Y
open PySem PySem.Spec PyProof.Rows L2

section
variable {X : Cx} {B : Bd} {pos : Pos}
/-! ### tests -/
def dTB (t : DE) : DT := fun ρ Γ Q => t ρ Γ fun d Γ1 => match d with | .bl b => Q b Γ1 | _ => False
theorem dTB_lift {K : PySem.W.Frag} (t : DE) (σ : L2.St) (H : Hp) (Q : Bool → Hp → Prop) (h : liftT K B (dTB t) σ H Q) : liftE K B t σ H (fun x H1 => ∃ c, x = .bl c ∧ Q c H1) := by
  obtain ⟨N, ρ, Γ, Qd, rel, q, f⟩ := h
  refine ⟨N, ρ, Γ, _, rel, q, fun x H1 d1 Γ1 x1 g1 r1 q1 => ?_⟩
  split at q1
  · cases r1
    exact ⟨_, rfl, f _ _ _ x1 g1 q1⟩
  · exact q1.elim
theorem yt_val {e : Expr} {t : DE} (h : PE X e (liftE X.K B t)) (he : ∀ whole, isTrue e X.env whole = (do let v ← whole; standAt e.pos; holding [v] (truthy v)) := by intro _; rfl) : PT X e (liftT X.K B (dTB t)) :=
  PTi (pt_val h he) (dTB_lift t)
theorem yt_cmp {op : CmpOp} {r : DR2} {r' : R2} {a b : Expr} {ta tb : DE} (ho : OpR X (compareOp op) r') (o : OpD X.K r r') (ha : PE X a (liftE X.K B ta)) (hb : PE X b (liftE X.K B tb)) (h1 : behindInMarks op b = false) :
    PT X (.Compare a [op] [b] pos) (liftT X.K B (dTB (dOp r ta tb))) :=
  PTi (pt_cmpR ho ha hb h1) fun σ H Q h => dOp_lift o ta tb σ H _ (dTB_lift _ σ H Q h)
theorem yt_lt {a b : Expr} {ta tb : DE} (ha : PE X a (liftE X.K B ta)) (hb : PE X b (liftE X.K B tb)) : PT X (.Compare a [.Lt] [b] pos) (liftT X.K B (dTB (dOp dLt ta tb))) := yt_cmp op_lt (od_I0 fun _ _ _ _ _ => .bl _) ha hb (nomark _)
theorem yt_le {a b : Expr} {ta tb : DE} (ha : PE X a (liftE X.K B ta)) (hb : PE X b (liftE X.K B tb)) : PT X (.Compare a [.LtE] [b] pos) (liftT X.K B (dTB (dOp dLe ta tb))) := yt_cmp op_le (od_I0 fun _ _ _ _ _ => .bl _) ha hb (nomark _)
theorem yt_gt {a b : Expr} {ta tb : DE} (ha : PE X a (liftE X.K B ta)) (hb : PE X b (liftE X.K B tb)) : PT X (.Compare a [.Gt] [b] pos) (liftT X.K B (dTB (dOp dGt ta tb))) := yt_cmp op_gt (od_I0 fun _ _ _ _ _ => .bl _) ha hb (nomark _)
theorem yt_ge {a b : Expr} {ta tb : DE} (ha : PE X a (liftE X.K B ta)) (hb : PE X b (liftE X.K B tb)) : PT X (.Compare a [.GtE] [b] pos) (liftT X.K B (dTB (dOp dGe ta tb))) := yt_cmp op_ge (od_I0 fun _ _ _ _ _ => .bl _) ha hb (nomark _)
theorem yt_eq {k : Nat} {a b : Expr} {ta tb : DE} (hr : Room k X.A) (ha : PE X a (liftE X.K B ta)) (hb : PE X b (liftE X.K B tb)) : PT X (.Compare a [.Eq] [b] pos) (liftT X.K B (dTB (dOp dEq ta tb))) :=
  yt_cmp (OpR_or op_eq (op_eqD hr.units)) od_eq ha hb (nomark _)
theorem yt_ne {k : Nat} {a b : Expr} {ta tb : DE} (hr : Room k X.A) (ha : PE X a (liftE X.K B ta)) (hb : PE X b (liftE X.K B tb)) : PT X (.Compare a [.NotEq] [b] pos) (liftT X.K B (dTB (dOp dNe ta tb))) :=
  yt_cmp (OpR_or op_ne (op_neD hr.units)) od_ne ha hb (nomark _)
def rIsAll : R2 := fun x y H Q => (y = .non ∧ Q (.bl (decide (x = .non))) H) ∨ rIsB x y H Q
def rIsNotAll : R2 := fun x y H Q => (y = .non ∧ Q (.bl (!decide (x = .non))) H) ∨ rNotB x y H Q
theorem od_is {K : PySem.W.Frag} : OpD K dIs rIsAll := by
  intro N Γ H x y dx dy Qd Q ok rx ry h f
  unfold dIs at h
  split at h
  · cases ry
    refine .inl ⟨rfl, f.now ok (.bl _) ?_⟩
    rw [isNon_rp rx h.1]; exact h.2
  · cases ry
    split at h
    · cases rx
      exact .inr ⟨_, _, rfl, rfl, f.now ok (.bl _) h⟩
    · exact h.elim
  · exact h.elim
theorem od_isnot {K : PySem.W.Frag} : OpD K dIsNot rIsNotAll := by
  intro N Γ H x y dx dy Qd Q ok rx ry h f
  unfold dIsNot at h
  split at h
  · cases ry
    refine .inl ⟨rfl, f.now ok (.bl _) ?_⟩
    rw [isNon_rp rx h.1]; exact h.2
  · cases ry
    split at h
    · cases rx
      exact .inr ⟨_, _, rfl, rfl, f.now ok (.bl _) h⟩
    · exact h.elim
  · exact h.elim
theorem yt_is {a b : Expr} {ta tb : DE} (ha : PE X a (liftE X.K B ta)) (hb : PE X b (liftE X.K B tb)) : PT X (.Compare a [.Is] [b] pos) (liftT X.K B (dTB (dOp dIs ta tb))) :=
  yt_cmp (OpR_or op_isN op_isBl) od_is ha hb (nomark _)
theorem yt_isnot {a b : Expr} {ta tb : DE} (ha : PE X a (liftE X.K B ta)) (hb : PE X b (liftE X.K B tb)) : PT X (.Compare a [.IsNot] [b] pos) (liftT X.K B (dTB (dOp dIsNot ta tb))) :=
  yt_cmp (OpR_or op_notN op_notBl) od_isnot ha hb (nomark _)
/-- a op b op c -/
def dChain (r r' : DR2) (ta tb tc : DE) : DE := fun ρ Γ Q => ta ρ Γ fun x Γ1 => tb ρ Γ1 fun y Γ2 => r x y Γ2 fun z Γ3 => match z with
  | .bl k => if k = true then tc ρ Γ3 fun w Γ4 => r' y w Γ4 Q else Q (.bl false) Γ3
  | _ => False
theorem dChain_lift {K : PySem.W.Frag} {r r2 : DR2} {r' r2' : R2} (o : OpD K r r') (o2 : OpD K r2 r2') (ta tb tc : DE) (σ : L2.St) (H : Hp) (Q : VK) (h : liftE K B (dChain r r2 ta tb tc) σ H Q) : tChain r' r2' (liftE K B ta) (liftE K B tb) (liftE K B tc) σ H Q := by
  obtain ⟨N, ρ, Γ, Qd, rel, t, f⟩ := h
  refine ⟨N, ρ, Γ, _, rel, t, fun x H1 d1 Γ1 x1 g1 r1 q1 => ⟨N, ρ, Γ1, _, rel.ext x1 g1, q1, fun y H2 d2 Γ2 x2 g2 r2 q2 => ?_⟩⟩
  refine o N Γ2 H2 x y d1 d2 _ _ g2 (r1.ext x2) r2 q2 fun z H3 d3 Γ3 x3 g3 r3 q3 => ?_
  split at q3
  · rename_i k
    cases r3
    refine ⟨k, rfl, ?_⟩
    cases k with
    | false => exact iteF ((f.mv ((x1.trans x2).trans x3)).now g3 (.bl false) (by simpa using q3))
    | true =>
      refine iteT ⟨N, ρ, Γ3, _, rel.ext ((x1.trans x2).trans x3) g3, by simpa using q3, fun w H4 d4 Γ4 x4 g4 r4 q4 => ?_⟩
      exact o2 N Γ4 H4 y w d2 d4 Qd Q g4 (r2.ext (x3.trans x4)) r4 q4 (f.mv (((x1.trans x2).trans x3).trans x4))
  · exact q3.elim
theorem ye_chain {op op' : CmpOp} {r r2 : DR2} {r' r2' : R2} {a b c : Expr} {ta tb tc : DE} (ho : OpR X (compareOp op) r') (ho' : OpR X (compareOp op') r2') (o : OpD X.K r r') (o2 : OpD X.K r2 r2') (ha : PE X a (liftE X.K B ta)) (hb : PE X b (liftE X.K B tb)) (hc : PE X c (liftE X.K B tc))
    (hm : lastMarks [op, op'] [b, c] = false := by with_unfolding_all rfl) : PE X (.Compare a [op, op'] [b, c] pos) (liftE X.K B (dChain r r2 ta tb tc)) := PEi (pe_chain ho ho' ha hb hc hm) (dChain_lift o o2 ta tb tc)
theorem yt_chain {op op' : CmpOp} {r r2 : DR2} {r' r2' : R2} {a b c : Expr} {ta tb tc : DE} (ho : OpR X (compareOp op) r') (ho' : OpR X (compareOp op') r2') (o : OpD X.K r r') (o2 : OpD X.K r2 r2') (ha : PE X a (liftE X.K B ta)) (hb : PE X b (liftE X.K B tb)) (hc : PE X c (liftE X.K B tc))
    (hm : lastMarks [op, op'] [b, c] = false := by with_unfolding_all rfl) : PT X (.Compare a [op, op'] [b, c] pos) (liftT X.K B (dTB (dChain r r2 ta tb tc))) := PTi (pt_chain ho ho' ha hb hc hm) fun σ H Q h => dChain_lift o o2 ta tb tc σ H _ (dTB_lift _ σ H Q h)
theorem ye_lele {a b c : Expr} {ta tb tc : DE} (ha : PE X a (liftE X.K B ta)) (hb : PE X b (liftE X.K B tb)) (hc : PE X c (liftE X.K B tc)) (hm : lastMarks [.LtE, .LtE] [b, c] = false := by with_unfolding_all rfl) : PE X (.Compare a [.LtE, .LtE] [b, c] pos) (liftE X.K B (dChain dLe dLe ta tb tc)) :=
  ye_chain op_le op_le (od_I0 fun _ _ _ _ _ => .bl _) (od_I0 fun _ _ _ _ _ => .bl _) ha hb hc hm
theorem yt_lele {a b c : Expr} {ta tb tc : DE} (ha : PE X a (liftE X.K B ta)) (hb : PE X b (liftE X.K B tb)) (hc : PE X c (liftE X.K B tc)) (hm : lastMarks [.LtE, .LtE] [b, c] = false := by with_unfolding_all rfl) : PT X (.Compare a [.LtE, .LtE] [b, c] pos) (liftT X.K B (dTB (dChain dLe dLe ta tb tc))) :=
  yt_chain op_le op_le (od_I0 fun _ _ _ _ _ => .bl _) (od_I0 fun _ _ _ _ _ => .bl _) ha hb hc hm
/-- and, or, not -/
def dAndT (t u : DT) : DT := fun ρ Γ Q => t ρ Γ fun c Γ1 => if c = true then u ρ Γ1 Q else Q false Γ1
def dOrT (t u : DT) : DT := fun ρ Γ Q => t ρ Γ fun c Γ1 => if c = true then Q true Γ1 else u ρ Γ1 Q
def dNotT (t : DT) : DT := fun ρ Γ Q => t ρ Γ fun c Γ1 => Q (!c) Γ1
theorem yw_and1 {a : Expr} {t : DT} (h : PT X a (liftT X.K B t)) : PW X (.BoolOp .And [a] pos) (liftT X.K B t) := pw_and1 h
theorem yw_or1 {a : Expr} {t : DT} (h : PT X a (liftT X.K B t)) : PW X (.BoolOp .Or [a] pos) (liftT X.K B t) := pw_or1 h
theorem yw_and {a b : Expr} {rest : List Expr} {t u : DT} (ha : PT X a (liftT X.K B t)) (hb : PW X (.BoolOp .And (b :: rest) pos) (liftT X.K B u)) : PW X (.BoolOp .And (a :: b :: rest) pos) (liftT X.K B (dAndT t u)) := by
  refine PWi (pw_and ha hb) fun σ H Q h => ?_
  obtain ⟨N, ρ, Γ, Qd, rel, q, f⟩ := h
  refine ⟨N, ρ, Γ, _, rel, q, fun c H1 Γ1 x1 g1 q1 => ?_⟩
  cases c with
  | true => exact iteT ⟨N, ρ, Γ1, _, rel.ext x1 g1, by simpa using q1, f.mv x1⟩
  | false => exact iteF ((f.mv x1).now g1 (by simpa using q1))
theorem yw_or {a b : Expr} {rest : List Expr} {t u : DT} (ha : PT X a (liftT X.K B t)) (hb : PW X (.BoolOp .Or (b :: rest) pos) (liftT X.K B u)) : PW X (.BoolOp .Or (a :: b :: rest) pos) (liftT X.K B (dOrT t u)) := by
  refine PWi (pw_or ha hb) fun σ H Q h => ?_
  obtain ⟨N, ρ, Γ, Qd, rel, q, f⟩ := h
  refine ⟨N, ρ, Γ, _, rel, q, fun c H1 Γ1 x1 g1 q1 => ?_⟩
  cases c with
  | true => exact iteT ((f.mv x1).now g1 (by simpa using q1))
  | false => exact iteF ⟨N, ρ, Γ1, _, rel.ext x1 g1, by simpa using q1, f.mv x1⟩
theorem yt_not {a : Expr} {t : DT} (ha : PT X a (liftT X.K B t)) : PT X (.UnaryOp .Not a pos) (liftT X.K B (dNotT t)) := by
  refine PTi (pt_not ha) fun σ H Q h => ?_
  obtain ⟨N, ρ, Γ, Qd, rel, q, f⟩ := h
  exact ⟨N, ρ, Γ, _, rel, q, fun c H1 Γ1 x1 g1 q1 => f _ _ _ x1 g1 q1⟩
/-- as values, of truth values -/
def dAndV (t u : DE) : DE := fun ρ Γ Q => t ρ Γ fun d Γ1 => match d with | .bl c => if c = true then u ρ Γ1 Q else Q (.bl false) Γ1 | _ => False
def dOrV (t u : DE) : DE := fun ρ Γ Q => t ρ Γ fun d Γ1 => match d with | .bl c => if c = true then Q (.bl true) Γ1 else u ρ Γ1 Q | _ => False
def dNotV (t : DE) : DE := fun ρ Γ Q => t ρ Γ fun d Γ1 => match d with | .bl c => Q (.bl (!c)) Γ1 | _ => False
theorem ye_one {op : BoolOp} {a : Expr} {t : DE} (h : PE X a (liftE X.K B t)) : PE X (.BoolOp op [a] pos) (liftE X.K B t) := pe_one h
theorem ye_and {a b : Expr} {rest : List Expr} {t u : DE} (ha : PE X a (liftE X.K B t)) (hb : PE X (.BoolOp .And (b :: rest) pos) (liftE X.K B u)) : PE X (.BoolOp .And (a :: b :: rest) pos) (liftE X.K B (dAndV t u)) := by
  refine PEi (pe_and ha hb) fun σ H Q h => ?_
  obtain ⟨N, ρ, Γ, Qd, rel, q, f⟩ := h
  refine ⟨N, ρ, Γ, _, rel, q, fun v H1 d1 Γ1 x1 g1 r1 q1 => ?_⟩
  split at q1
  · rename_i c
    cases r1
    refine ⟨c, rfl, ?_⟩
    cases c with
    | true => exact iteT ⟨N, ρ, Γ1, _, rel.ext x1 g1, by simpa using q1, f.mv x1⟩
    | false => exact iteF ((f.mv x1).now g1 (.bl false) (by simpa using q1))
  · exact q1.elim
theorem ye_or {a b : Expr} {rest : List Expr} {t u : DE} (ha : PE X a (liftE X.K B t)) (hb : PE X (.BoolOp .Or (b :: rest) pos) (liftE X.K B u)) : PE X (.BoolOp .Or (a :: b :: rest) pos) (liftE X.K B (dOrV t u)) := by
  refine PEi (pe_or ha hb) fun σ H Q h => ?_
  obtain ⟨N, ρ, Γ, Qd, rel, q, f⟩ := h
  refine ⟨N, ρ, Γ, _, rel, q, fun v H1 d1 Γ1 x1 g1 r1 q1 => ?_⟩
  split at q1
  · rename_i c
    cases r1
    refine ⟨c, rfl, ?_⟩
    cases c with
    | true => exact iteT ((f.mv x1).now g1 (.bl true) (by simpa using q1))
    | false => exact iteF ⟨N, ρ, Γ1, _, rel.ext x1 g1, by simpa using q1, f.mv x1⟩
  · exact q1.elim
theorem ye_not {a : Expr} {t : DE} (ha : PE X a (liftE X.K B t)) : PE X (.UnaryOp .Not a pos) (liftE X.K B (dNotV t)) := by
  refine PEi (pe_not ha) fun σ H Q h => ?_
  obtain ⟨N, ρ, Γ, Qd, rel, q, f⟩ := h
  refine ⟨N, ρ, Γ, _, rel, q, fun v H1 d1 Γ1 x1 g1 r1 q1 => ?_⟩
  split at q1
  · cases r1
    exact ⟨_, rfl, (f.mv x1).now g1 (.bl _) q1⟩
  · exact q1.elim
/-- a if t else b -/
def dIf (t : DT) (ta tb : DE) : DE := fun ρ Γ Q => t ρ Γ fun c Γ1 => if c = true then ta ρ Γ1 Q else tb ρ Γ1 Q
theorem ye_if {c a b : Expr} {t : DT} {ta tb : DE} (hc : PT X c (liftT X.K B t)) (ha : PE X a (liftE X.K B ta)) (hb : PE X b (liftE X.K B tb)) : PE X (.IfExp c a b pos) (liftE X.K B (dIf t ta tb)) := by
  refine PEi (pe_ifExp hc ha hb) fun σ H Q h => ?_
  obtain ⟨N, ρ, Γ, Qd, rel, q, f⟩ := h
  refine ⟨N, ρ, Γ, _, rel, q, fun c H1 Γ1 x1 g1 q1 => ?_⟩
  cases c with
  | true => exact iteT ⟨N, ρ, Γ1, _, rel.ext x1 g1, by simpa using q1, f.mv x1⟩
  | false => exact iteF ⟨N, ρ, Γ1, _, rel.ext x1 g1, by simpa using q1, f.mv x1⟩

/-! ### arguments, displays -/
def dNil : DA := fun _ Γ Q => Q [] Γ
def dCons (t : DE) (u : DA) : DA := fun ρ Γ Q => t ρ Γ fun x Γ1 => u ρ Γ1 fun xs Γ2 => Q (x :: xs) Γ2
theorem ya_nil : PA X [] (liftA X.K B dNil) := PAi pa_nil fun σ H Q h => by
  obtain ⟨N, ρ, Γ, Qd, rel, q, f⟩ := h
  exact f.now rel.gs .nil q
theorem ya_cons {e : Expr} {es : List Expr} {t : DE} {u : DA} (ha : PE X e (liftE X.K B t)) (hr : PA X es (liftA X.K B u)) (hs : starEach (e :: es) X.env = (false, eval e X.env) :: starEach es X.env := by rfl) : PA X (e :: es) (liftA X.K B (dCons t u)) := by
  refine PAi (pa_cons ha hr hs) fun σ H Q h => ?_
  obtain ⟨N, ρ, Γ, Qd, rel, q, f⟩ := h
  exact ⟨N, ρ, Γ, _, rel, q, fun v H1 d1 Γ1 x1 g1 r1 q1 => ⟨N, ρ, Γ1, _, rel.ext x1 g1, q1, fun vs H2 ds Γ2 x2 g2 r2 q2 => f _ _ _ _ (x1.trans x2) g2 (.cons (r1.ext x2) r2) q2⟩⟩
def dTup (t : DA) : DE := fun ρ Γ Q => t ρ Γ fun xs Γ1 => Q (.tup xs) Γ1
def dLst (t : DA) : DE := fun ρ Γ Q => t ρ Γ fun xs Γ1 => Q (.lst xs) Γ1
def dLstO (t : DA) : DE := fun ρ Γ Q => t ρ Γ fun xs Γ1 => ∀ p, Γ1 p = none → Q (.ptr p) (gup Γ1 p (.lst xs))
/-- how many a display writes -/
def fewEs (es : List Expr) : Bool := decide (es.length ≤ 1000)
theorem vals_few {K : PySem.W.Frag} {N : Addr → Prop} {Γ : Gs} {H : Hp} {ds : List D} {vs : List V} (r : RpL K N Γ H ds vs) (h : ds.length ≤ 1000) : vs.length ≤ sizeLine := by
  rw [r.length]; exact Nat.le_of_lt (small1000 h)
/-- a display's items are as many as its expressions -/
theorem PA_len {es : List Expr} {t : TA} (h : PA X es t) : PA X es t := h
def dTup' (t : DA) : DE := fun ρ Γ Q => t ρ Γ fun xs Γ1 => xs.length ≤ 1000 ∧ Q (.tup xs) Γ1
theorem ye_tup {es : List Expr} {n : Nat} {t : DA} (h : PA X es (liftA X.K B t)) : PE X (.Tuple es n pos) (liftE X.K B (dTup' t)) := by
  refine PEi (pe_tupF h) fun σ H Q q => ?_
  obtain ⟨N, ρ, Γ, Qd, rel, q, f⟩ := q
  exact ⟨N, ρ, Γ, _, rel, q, fun vs H1 ds Γ1 x1 g1 r1 q1 => ⟨vals_few r1 q1.1, (f.mv x1).tup g1 r1 q1.2⟩⟩
def dLst' (t : DA) : DE := fun ρ Γ Q => t ρ Γ fun xs Γ1 => xs.length ≤ 1000 ∧ Q (.lst xs) Γ1
theorem ye_lst {es : List Expr} {t : DA} (h : PA X es (liftA X.K B t)) : PE X (.List es pos) (liftE X.K B (dLst' t)) := by
  refine PEi (pe_lst h) fun σ H Q q => ?_
  obtain ⟨N, ρ, Γ, Qd, rel, q, f⟩ := q
  exact ⟨N, ρ, Γ, _, rel, q, fun vs H1 ds Γ1 x1 g1 r1 q1 => ⟨vals_few r1 q1.1, (f.mv x1).lst g1 r1 q1.2⟩⟩
def dLstO' (t : DA) : DE := fun ρ Γ Q => t ρ Γ fun xs Γ1 => xs.length ≤ 1000 ∧ ∀ p, Γ1 p = none → Q (.ptr p) (gup Γ1 p (.lst xs))
theorem ye_lstO {es : List Expr} {t : DA} (h : PA X es (liftA X.K B t)) : PE X (.List es pos) (liftE X.K B (dLstO' t)) := by
  refine PEi (pe_lst h) fun σ H Q q => ?_
  obtain ⟨N, ρ, Γ, Qd, rel, q, f⟩ := q
  exact ⟨N, ρ, Γ, _, rel, q, fun vs H1 ds Γ1 x1 g1 r1 q1 => ⟨vals_few r1 q1.1, (f.mv x1).own g1 r1 q1.2⟩⟩

/-! ### subscripts -/
theorem atI_rp {K : PySem.W.Frag} {N : Addr → Prop} {Γ : Gs} {H : Hp} {ds : List D} {vs : List V} (r : RpL K N Γ H ds vs) {i : Int} {d : D} (h : atI ds i = some d) : ∃ v, atI vs i = some v ∧ Rp K N Γ H d v := by
  unfold atI at h ⊢
  rw [r.length]
  cases e : ixN ds.length i with
  | none => rw [e] at h; cases h
  | some j =>
    rw [e] at h
    exact r.get h
def dIx : DR2 := fun x y Γ Q => match y with
  | .int i => match seqOf Γ x with
    | some xs => match atI xs i with
      | some d => Q d Γ
      | none => False
    | none => False
  | _ => False
theorem od_ix {K : PySem.W.Frag} : OpD K dIx (fun x y H Q => rIxL K x y H Q ∨ rIxT K x y H Q) := by
  intro N Γ H x y dx dy Qd Q ok rx ry h f
  unfold dIx at h
  split at h
  · cases ry
    split at h
    · rename_i xs e
      split at h
      · rename_i d e2
        obtain ⟨κ, a, vs, rfl, q, r⟩ := seqOf_rp ok rx e
        obtain ⟨v, h1, h2⟩ := atI_rp r e2
        cases κ with
        | L => exact .inl ⟨a, vs, _, v, rfl, rfl, q, h1, f.now ok h2 h⟩
        | T => exact .inr ⟨a, vs, _, v, rfl, rfl, q, h1, f.now ok h2 h⟩
      · exact h.elim
    · exact h.elim
  · exact h.elim
theorem ye_ix {a b : Expr} {ta tb : DE} (ha : PE X a (liftE X.K B ta)) (hb : PE X b (liftE X.K B tb)) (hs : PlainIx b := by intro _ _; rfl) : PE X (.Subscript a b pos) (liftE X.K B (dOp dIx ta tb)) :=
  PEi (pe_ix (ix_list.or ix_tup) ha hb hs) (dOp_lift od_ix ta tb)
/-- the items of xs[lo:hi] -/
def cutD (xs : List D) (lo hi : Option Int) : List D := (xs.drop (HT.sIx xs.length 0 lo)).take (HT.sIx xs.length xs.length hi - HT.sIx xs.length 0 lo)
abbrev DO := Ds → Gs → (Option Int → Gs → Prop) → Prop
def liftO (K : PySem.W.Frag) (B : Bd) (t : DO) : TO := fun σ H Q => ∃ N ρ Γ Qd, Rel K B N ρ Γ σ H ∧ t ρ Γ Qd ∧ ∀ o H' Γ', Ext Γ H Γ' H' → GsOk K N Γ' H' → Qd o Γ' → Q o H'
def dNoP : DO := fun _ Γ Q => Q none Γ
def dPart (t : DE) : DO := fun ρ Γ Q => t ρ Γ fun x Γ1 => match x with | .int i => Q (some i) Γ1 | _ => False
theorem POi {e : Option Expr} {t t' : TO} (h : PO X e t) (i : ∀ σ H Q, t' σ H Q → t σ H Q) : PO X e t' := ⟨fun pins s σ H Q I w => h.run pins s σ H Q I (i σ H Q w)⟩
theorem yo_none : PO X none (liftO X.K B dNoP) := POi po_none fun σ H Q h => by
  obtain ⟨N, ρ, Γ, Qd, rel, q, f⟩ := h
  exact f _ _ _ (Ext.refl _ _) rel.gs q
theorem yo_some {e : Expr} {t : DE} (h : PE X e (liftE X.K B t)) : PO X (some e) (liftO X.K B (dPart t)) := POi (po_some h) fun σ H Q h => by
  obtain ⟨N, ρ, Γ, Qd, rel, q, f⟩ := h
  refine ⟨N, ρ, Γ, _, rel, q, fun v H1 d1 Γ1 x1 g1 r1 q1 => ?_⟩
  split at q1
  · cases r1
    exact ⟨_, rfl, f _ _ _ x1 g1 q1⟩
  · exact q1.elim
theorem cut_rp {K : PySem.W.Frag} {N : Addr → Prop} {Γ : Gs} {H : Hp} {ds : List D} {vs : List V} (r : RpL K N Γ H ds vs) (lo hi : Option Int) : RpL K N Γ H (cutD ds lo hi) (cutV vs lo hi) := by
  unfold cutD cutV
  rw [r.length]
  exact (r.drop _).take _
/-- a slice of a tuple is a tuple, of a list a new list -/
def sliceD (Γ : Gs) (x : D) (lo hi : Option Int) (Q : D → Gs → Prop) : Prop := match x with
  | .tup xs => Q (.tup (cutD xs lo hi)) Γ
  | x => match lstOf Γ x with
    | some xs => Q (.lst (cutD xs lo hi)) Γ
    | none => False
def dSl (te : DE) (tl th : DO) : DE := fun ρ Γ Q => te ρ Γ fun x Γ1 => tl ρ Γ1 fun l Γ2 => th ρ Γ2 fun u Γ3 => sliceD Γ3 x l u Q
theorem cutD_whole {xs : List D} {lo hi : Option Int} (h : HT.sIx xs.length 0 lo = 0 ∧ HT.sIx xs.length xs.length hi = xs.length) : cutD xs lo hi = xs := by
  unfold cutD
  rw [h.1, h.2]
  simp
theorem ye_sl {e : Expr} {lo hi : Option Expr} {te : DE} {tl th : DO} {p2 : Pos} (he : PE X e (liftE X.K B te)) (hl : PO X lo (liftO X.K B tl)) (hh : PO X hi (liftO X.K B th)) : PE X (.Subscript e (.Slice lo hi none p2) pos) (liftE X.K B (dSl te tl th)) := by
  refine PEi (pe_slice (sl_tupF.or sl_list) he hl hh) fun σ H Q h => ?_
  obtain ⟨N, ρ, Γ, Qd, rel, q, f⟩ := h
  refine ⟨N, ρ, Γ, _, rel, q, fun v H1 d1 Γ1 x1 g1 r1 q1 => ⟨N, ρ, Γ1, _, rel.ext x1 g1, q1, fun l H2 Γ2 x2 g2 q2 => ⟨N, ρ, Γ2, _, rel.ext (x1.trans x2) g2, q2, fun u H3 Γ3 x3 g3 q3 => ?_⟩⟩⟩
  have f3 := f.mv ((x1.trans x2).trans x3)
  have r3 := r1.ext (x2.trans x3)
  unfold sliceD at q3
  split at q3
  · rename_i xs
    cases r3 with
    | tup hx tx =>
      refine .inl ⟨_, _, rfl, hx.sq, fun z => ?_, fun z => ?_⟩
      · rw [tx.length] at z
        rw [cutD_whole z] at q3
        exact f3.now g3 (.tup hx tx) q3
      · exact f3.tup g3 (cut_rp tx l u) q3
  · split at q3
    · rename_i xs e
      obtain ⟨a, vs, rfl, hq, rr⟩ := lstOf_rp g3 r3 e
      exact .inr ⟨a, vs, rfl, hq, f3.lst g3 (cut_rp rr l u) q3⟩
    · exact q3.elim

/-! ### calls of built-ins -/
abbrev DR := List D → Gs → (D → Gs → Prop) → Prop
def CallD (K : PySem.W.Frag) (r : DR) (r' : List V → Hp → VK → Prop) : Prop := ∀ (N : Addr → Prop) (Γ : Gs) (H : Hp) (vs : List V) (ds : List D) (Qd : D → Gs → Prop) (Q : VK), GsOk K N Γ H → RpL K N Γ H ds vs → r ds Γ Qd → Fin K N Γ H Qd Q → r' vs H Q
def dCB (r : DR) (t : DA) : DE := fun ρ Γ Q => t ρ Γ fun ds Γ1 => r ds Γ1 Q
theorem dCB_lift {K : PySem.W.Frag} {r : DR} {r' : List V → Hp → VK → Prop} (c : CallD K r r') (t : DA) (σ : L2.St) (H : Hp) (Q : VK) (h : liftE K B (dCB r t) σ H Q) : tCB r' (liftA K B t) σ H Q := by
  obtain ⟨N, ρ, Γ, Qd, rel, q, f⟩ := h
  exact ⟨N, ρ, Γ, _, rel, q, fun vs H1 ds Γ1 x1 g1 r1 q1 => c N Γ1 H1 vs ds Qd Q g1 r1 q1 (f.mv x1)⟩
section
variable {x : Str} {p : Pos} {e : Expr} {es : List Expr} {t : DA} {id T : String} {r : DR} {r' : List V → Hp → VK → Prop}
theorem ye_callB (hc : CallR X (.builtin id) r') (c : CallD X.K r r') (hg : Gl X x) (hm : X.mg x = none) (hv : bootBuiltins x = some (.builtin id)) (ha : PA X (e :: es) (liftA X.K B t)) (hn : x ≠ "__name__" := by decide) (hdb : (x == ("__debug__" : Str)) = false := by decide)
    (he : starEach (e :: es) X.env = (false, eval e X.env) :: starEach es X.env := by rfl) (hpl : (backTo pos (starEach es X.env)).any (·.1) = false := by rfl) : PE X (.Call (.Name x p) (e :: es) [] pos) (liftE X.K B (dCB r t)) :=
  PEi (pe_callB hc hg hm hv ha hn hdb he hpl) (dCB_lift c t)
theorem ye_callTy (hc : CallR X (.type T) r') (c : CallD X.K r r') (hg : Gl X x) (hm : X.mg x = none) (hv : bootBuiltins x = some (.type T)) (ha : PA X (e :: es) (liftA X.K B t)) (hn : x ≠ "__name__" := by decide) (hdb : (x == ("__debug__" : Str)) = false := by decide)
    (he : starEach (e :: es) X.env = (false, eval e X.env) :: starEach es X.env := by rfl) (hpl : (backTo pos (starEach es X.env)).any (·.1) = false := by rfl) : PE X (.Call (.Name x p) (e :: es) [] pos) (liftE X.K B (dCB r t)) :=
  PEi (pe_callTy hc hg hm hv ha hn hdb he hpl) (dCB_lift c t)
end
theorem RpL.inv1 {K : PySem.W.Frag} {N : Addr → Prop} {Γ : Gs} {H : Hp} {d : D} {vs : List V} (h : RpL K N Γ H [d] vs) : ∃ v, vs = [v] ∧ Rp K N Γ H d v := by
  cases h with | cons h t => cases t; exact ⟨_, rfl, h⟩
theorem RpL.inv2 {K : PySem.W.Frag} {N : Addr → Prop} {Γ : Gs} {H : Hp} {d e : D} {vs : List V} (h : RpL K N Γ H [d, e] vs) : ∃ v w, vs = [v, w] ∧ Rp K N Γ H d v ∧ Rp K N Γ H e w := by
  cases h with | cons h t => obtain ⟨w, rfl, q⟩ := t.inv1; exact ⟨_, _, rfl, h, q⟩
/-- len -/
def dLen : DR := fun ds Γ Q => match ds with
  | [d] => match seqOf Γ d with
    | some xs => Q (.int xs.length) Γ
    | none => False
  | _ => False
theorem cd_len {K : PySem.W.Frag} : CallD K dLen (fun xs H Q => ∃ x n, xs = [x] ∧ LenV K x H n ∧ Q (.int n) H) := by
  intro N Γ H vs ds Qd Q ok r h f
  unfold dLen at h
  split at h
  · obtain ⟨v, rfl, rv⟩ := r.inv1
    split at h
    · rename_i xs e
      obtain ⟨κ, a, us, rfl, q, rr⟩ := seqOf_rp ok rv e
      refine ⟨_, us.length, rfl, ?_, f.now ok (by rw [rr.length]; exact .int _) h⟩
      cases κ with
      | L => exact .inl ⟨us, q, rfl⟩
      | T => exact .inr ⟨us, q, rfl⟩
    · exact h.elim
  · exact h.elim
def dAbs : DR := fun ds Γ Q => match ds with | [.int i] => Q (.int (i.natAbs : Int)) Γ | _ => False
theorem cd_abs {K : PySem.W.Frag} : CallD K dAbs (fun xs H Q => ∃ i, xs = [.int i] ∧ Q (.int (if i < 0 then -i else i)) H) := by
  intro N Γ H vs ds Qd Q ok r h f
  unfold dAbs at h
  split at h
  · obtain ⟨v, rfl, rv⟩ := r.inv1
    rename_i i
    cases rv
    refine ⟨i, rfl, f.now ok ?_ h⟩
    have e : (if i < 0 then -i else i) = (i.natAbs : Int) := by
      split <;> omega
    rw [e]; exact .int _
  · exact h.elim
def dInt : DR := fun ds Γ Q => match ds with | [.int i] => Q (.int i) Γ | [.bl k] => Q (.int (if k then 1 else 0)) Γ | _ => False
theorem cd_int {K : PySem.W.Frag} : CallD K dInt (fun xs H Q => (∃ i, xs = [.int i] ∧ Q (.int i) H) ∨ ∃ k, xs = [.bl k] ∧ Q (.int (if k then 1 else 0)) H) := by
  intro N Γ H vs ds Qd Q ok r h f
  unfold dInt at h
  split at h
  · obtain ⟨v, rfl, rv⟩ := r.inv1
    cases rv
    exact .inl ⟨_, rfl, f.now ok (.int _) h⟩
  · obtain ⟨v, rfl, rv⟩ := r.inv1
    cases rv
    exact .inr ⟨_, rfl, f.now ok (.int _) h⟩
  · exact h.elim
def dMax2 : DR := fun ds Γ Q => match ds with | [.int i, .int j] => Q (.int (max i j)) Γ | _ => False
theorem cd_max2 {K : PySem.W.Frag} : CallD K dMax2 (fun xs H Q => ∃ i j, xs = [.int i, .int j] ∧ Q (.int (if j > i then j else i)) H) := by
  intro N Γ H vs ds Qd Q ok r h f
  unfold dMax2 at h
  split at h
  · obtain ⟨v, w, rfl, rv, rw_⟩ := r.inv2
    rename_i i j
    cases rv; cases rw_
    refine ⟨i, j, rfl, f.now ok ?_ h⟩
    have e : (if j > i then j else i) = max i j := by
      split <;> omega
    rw [e]; exact .int _
  · exact h.elim
/-- tuple(x), list(x) -/
def dTupOf : DR := fun ds Γ Q => match ds with
  | [d] => match seqOf Γ d with
    | some xs => Q (.tup xs) Γ
    | none => False
  | _ => False
theorem cd_tupOf {K : PySem.W.Frag} : CallD K dTupOf (fun xs H Q => ∃ p ys, xs = [.ref p] ∧ ((SqL K H p ys ∧ NewT H Q ys) ∨ (SqT K H p ys ∧ Q (.ref p) H))) := by
  intro N Γ H vs ds Qd Q ok r h f
  unfold dTupOf at h
  split at h
  · rename_i d
    obtain ⟨v, rfl, rv⟩ := r.inv1
    split at h
    · rename_i xs e
      by_cases hd : ∃ ys, d = .tup ys
      · obtain ⟨ys, rfl⟩ := hd
        cases e
        cases rv with
        | tup hx tx => exact ⟨_, _, rfl, .inr ⟨hx.sq, f.now ok (.tup hx tx) h⟩⟩
      · have hl : lstOf Γ d = some xs := by
          cases d with
          | tup ys => exact absurd ⟨ys, rfl⟩ hd
          | raw u => cases u <;> exact e
          | _ => exact e
        obtain ⟨a, us, rfl, q, rr⟩ := lstOf_rp ok rv hl
        exact ⟨a, us, rfl, .inl ⟨q, f.tup ok rr h⟩⟩
    · exact h.elim
  · exact h.elim
def dListOf : DR := fun ds Γ Q => match ds with
  | [d] => match seqOf Γ d with
    | some xs => Q (.lst xs) Γ
    | none => False
  | _ => False
def dListOfO : DR := fun ds Γ Q => match ds with
  | [d] => match seqOf Γ d with
    | some xs => ∀ p, Γ p = none → Q (.ptr p) (gup Γ p (.lst xs))
    | none => False
  | _ => False
abbrev rListOf (K : PySem.W.Frag) : List V → Hp → VK → Prop := fun xs H Q => ∃ p ys, xs = [.ref p] ∧ (SqL K H p ys ∨ SqT K H p ys) ∧ ∀ l, H l = none → Q (.ref l) (upd H l (.lst ys))
theorem cd_listOf {K : PySem.W.Frag} : CallD K dListOf (rListOf K) := by
  intro N Γ H vs ds Qd Q ok r h f
  unfold dListOf at h
  split at h
  · obtain ⟨v, rfl, rv⟩ := r.inv1
    split at h
    · rename_i xs e
      obtain ⟨κ, a, us, rfl, q, rr⟩ := seqOf_rp ok rv e
      exact ⟨a, us, rfl, by cases κ; exact .inl q; exact .inr q, f.lst ok rr h⟩
    · exact h.elim
  · exact h.elim
theorem cd_listOfO {K : PySem.W.Frag} : CallD K dListOfO (rListOf K) := by
  intro N Γ H vs ds Qd Q ok r h f
  unfold dListOfO at h
  split at h
  · obtain ⟨v, rfl, rv⟩ := r.inv1
    split at h
    · rename_i xs e
      obtain ⟨κ, a, us, rfl, q, rr⟩ := seqOf_rp ok rv e
      exact ⟨a, us, rfl, by cases κ; exact .inl q; exact .inr q, f.own ok rr h⟩
    · exact h.elim
  · exact h.elim
/-- all, any of a list of truth values -/
def blsOf : List D → Option (List Bool)
  | [] => some []
  | .bl b :: r => match blsOf r with | some bs => some (b :: bs) | none => none
  | _ :: _ => none
theorem blsOf_map (bs : List Bool) : blsOf (bs.map D.bl) = some bs := by
  induction bs with
  | nil => rfl
  | cons b bs ih => simp only [List.map_cons, blsOf, ih]
theorem blsOf_rp {K : PySem.W.Frag} {N : Addr → Prop} {Γ : Gs} {H : Hp} : ∀ {ds : List D} {vs : List V} {bs : List Bool}, RpL K N Γ H ds vs → blsOf ds = some bs → vs = bs.map V.bl
  | [], _, _, .nil, h => by cases h; rfl
  | d :: ds, _, bs, .cons h1 h2, h => by
    cases d with
    | bl b =>
      simp only [blsOf] at h
      split at h
      · rename_i bs' e
        cases h
        cases h1
        rw [blsOf_rp h2 e]; rfl
      · cases h
    | _ => simp [blsOf] at h
def dAll : DR := fun ds Γ Q => match ds with
  | [d] => match lstOf Γ d with
    | some xs => match blsOf xs with
      | some bs => Q (.bl (bs.all id)) Γ
      | none => False
    | none => False
  | _ => False
def dAny : DR := fun ds Γ Q => match ds with
  | [d] => match lstOf Γ d with
    | some xs => match blsOf xs with
      | some bs => Q (.bl (bs.any id)) Γ
      | none => False
    | none => False
  | _ => False
theorem cd_all {K : PySem.W.Frag} : CallD K dAll (rAll K) := by
  intro N Γ H vs ds Qd Q ok r h f
  unfold dAll at h
  split at h
  · obtain ⟨v, rfl, rv⟩ := r.inv1
    split at h
    · rename_i xs e
      split at h
      · rename_i bs e2
        obtain ⟨a, us, rfl, q, rr⟩ := lstOf_rp ok rv e
        have e3 := blsOf_rp rr e2
        subst e3
        exact ⟨a, bs, rfl, q, f.now ok (.bl _) h⟩
      · exact h.elim
    · exact h.elim
  · exact h.elim
theorem cd_any {K : PySem.W.Frag} : CallD K dAny (rAny K) := by
  intro N Γ H vs ds Qd Q ok r h f
  unfold dAny at h
  split at h
  · obtain ⟨v, rfl, rv⟩ := r.inv1
    split at h
    · rename_i xs e
      split at h
      · rename_i bs e2
        obtain ⟨a, us, rfl, q, rr⟩ := lstOf_rp ok rv e
        have e3 := blsOf_rp rr e2
        subst e3
        exact ⟨a, bs, rfl, q, f.now ok (.bl _) h⟩
      · exact h.elim
    · exact h.elim
  · exact h.elim
/-! ### isinstance(x, T), T a built-in type -/
inductive Ty | non | bl | int | str | tup | lst | dct
def Ty.name : Ty → String
  | .non => "NoneType" | .bl => "bool" | .int => "int" | .str => "str" | .tup => "tuple" | .lst => "list" | .dct => "dict"
def isT : Ty → Ty → Bool
  | .non, .non => true | .bl, .bl => true | .bl, .int => true | .int, .int => true | .str, .str => true | .tup, .tup => true | .lst, .lst => true | .dct, .dct => true
  | _, _ => false
def tyD (Γ : Gs) : D → Option Ty
  | .non => some .non | .bl _ => some .bl | .int _ => some .int | .str _ => some .str | .tup _ => some .tup | .lst _ => some .lst
  | .scr _ => some .lst
  | .raw (.ref a) => match Γ a with | some (.lst _) => some .lst | some (.dic _) => some .dct | _ => none
  | _ => none
theorem kitB_isT : ∀ a b : Ty, b ≠ .non → kitB a.name b.name = some (isT a b) := by
  intro a b hb
  cases b with
  | non => exact absurd rfl hb
  | bl => cases a <;> decide +kernel
  | int => cases a <;> decide +kernel
  | str => cases a <;> decide +kernel
  | tup => cases a <;> decide +kernel
  | lst => cases a <;> decide +kernel
  | dct => cases a <;> decide +kernel
theorem tyD_rp {K : PySem.W.Frag} {N : Addr → Prop} {Γ : Gs} {H : Hp} (ok : GsOk K N Γ H) {d : D} {v : V} {t : Ty} (r : Rp K N Γ H d v) (h : tyD Γ d = some t) : TyX K H v (.type t.name) := by
  cases r with
  | non => cases h; exact .base .non
  | bl b => cases h; exact .base (.bl b)
  | int i => cases h; exact .base (.int i)
  | str x => cases h; exact .base (.str x)
  | tup hx tx =>
    cases h
    rcases hx with ⟨o, hx, _⟩ | ⟨o, its, n, hk, hc, _⟩
    · exact .fTuple hx
    · exact .kTuple hk hc
  | lst nn g hx tx => cases h; exact .base (.lst hx)
  | scr hx tx =>
    cases h
    rcases hx with ⟨o, hx⟩ | ⟨o, its, n, hk, hc, _⟩
    · exact .base (.frz hx)
    · exact .kList hk hc
  | raw v =>
    cases v with
    | ref a =>
      simp only [tyD] at h
      cases g : Γ a with
      | none => rw [g] at h; cases h
      | some u =>
        rw [g] at h
        cases u with
        | lst ds => cases h; obtain ⟨vs, e, _⟩ := ok.ok a _ g; exact .base (.lst e)
        | dic ds => cases h; obtain ⟨vs, e, _⟩ := ok.ok a _ g; exact .base (.dK e)
        | ins _ _ _ _ => cases h
    | _ => cases h
def dIsi (T : Ty) (t : DE) : DE := fun ρ Γ Q => t ρ Γ fun d Γ1 => match tyD Γ1 d with | some a => Q (.bl (isT a T)) Γ1 | none => False
theorem ye_isi {T : Ty} {x n : Str} {p p2 : Pos} {a : Expr} {ta : DE} (hT : T ≠ .non) (hg : Gl X x) (hm : X.mg x = none) (hv : bootBuiltins x = some (.builtin "isinstance")) (ha : PE X a (liftE X.K B ta))
    (hg2 : Gl X n) (hm2 : X.mg n = none) (hv2 : bootBuiltins n = some (.type T.name)) (hn2 : n ≠ "__name__" := by decide) (hd2 : (n == ("__debug__" : Str)) = false := by decide)
    (hn : x ≠ "__name__" := by decide) (hdb : (x == ("__debug__" : Str)) = false := by decide)
    (hs1 : starEach [.Name n p2] X.env = (false, eval (.Name n p2) X.env) :: starEach [] X.env := by rfl)
    (he : starEach [a, .Name n p2] X.env = (false, eval a X.env) :: starEach [.Name n p2] X.env := by rfl) (hpl : (backTo pos (starEach [.Name n p2] X.env)).any (·.1) = false := by rfl) :
    PE X (.Call (.Name x p) [a, .Name n p2] [] pos) (liftE X.K B (dIsi T ta)) := by
  refine PEi (pe_callB call_isi hg hm hv (pa_cons ha (pa_cons (pe_bltn (v := .ty T.name) hg2 hm2 hv2 (by rfl) hn2 hd2) pa_nil hs1) he) hn hdb he hpl) fun σ H Q h => ?_
  obtain ⟨N, ρ, Γ, Qd, rel, q, f⟩ := h
  refine ⟨N, ρ, Γ, _, rel, q, fun v H1 d1 Γ1 x1 g1 r1 q1 => ?_⟩
  split at q1
  · rename_i a e
    exact ⟨v, .ty T.name, .type a.name, .type T.name, isT a T, rfl, .ty _, tyD_rp g1 r1 e, kit_ty (kitB_isT a T hT), (f.mv x1).now g1 (.bl _) q1⟩
  · exact q1.elim
end
end Y
set_option Elab.async false
set_option linter.all false
set_option maxRecDepth 100000
set_option maxHeartbeats 4000000
/-! the data layer's rules: statements, targets, loops, comprehensions -/
namespace Y
open PySem PySem.Spec PyProof.Rows L2

section
variable {X : Cx} {B : Bd} {pos : Pos}
/-! ### blocks -/
def dNext : DS := fun D ρ Γ => D.nx ρ Γ
def dSeq (t u : DS) : DS := fun D ρ Γ => t { D with nx := u D } ρ Γ
theorem ys_nil : PSs X [] (liftS X.K B dNext) := PSsi pss_nil fun D σ H h => by
  obtain ⟨N, ρ, Γ, Dd, rel, q, f1, f2, f3, f4⟩ := h
  exact f1 _ _ _ _ (Ext.refl _ _) rel q
theorem ys_cons {st : Stmt} {rest : List Stmt} {t u : DS} (h1 : PS X st (liftS X.K B t)) (h2 : PSs X rest (liftS X.K B u)) : PSs X (st :: rest) (liftS X.K B (dSeq t u)) := by
  refine PSsi (pss_cons h1 h2) fun D σ H h => ?_
  obtain ⟨N, ρ, Γ, Dd, rel, q, f1, f2, f3, f4⟩ := h
  exact ⟨N, ρ, Γ, { Dd with nx := u Dd }, rel, q, fun σ' H' ρ' Γ' x r n => ⟨N, ρ', Γ', Dd, r, n, f1.mv x, f2.mv x, f3.mv x, f4.mv x⟩, f2, f3, f4⟩
theorem ys_one {st : Stmt} {t : DS} (h : PS X st (liftS X.K B t)) : PSs X [st] (liftS X.K B t) := pss_one h
def dPass : DS := fun D ρ Γ => D.nx ρ Γ
def dBreak : DS := fun D ρ Γ => D.bk ρ Γ
def dCont : DS := fun D ρ Γ => D.ct ρ Γ
theorem ys_pass : PS X (.Pass pos) (liftS X.K B dPass) := PSi ps_pass fun D σ H h => by
  obtain ⟨N, ρ, Γ, Dd, rel, q, f1, f2, f3, f4⟩ := h
  exact f1 _ _ _ _ (Ext.refl _ _) rel q
theorem ys_break : PS X (.Break pos) (liftS X.K B dBreak) := PSi ps_break fun D σ H h => by
  obtain ⟨N, ρ, Γ, Dd, rel, q, f1, f2, f3, f4⟩ := h
  exact f3 _ _ _ _ (Ext.refl _ _) rel q
theorem ys_continue : PS X (.Continue pos) (liftS X.K B dCont) := PSi ps_continue fun D σ H h => by
  obtain ⟨N, ρ, Γ, Dd, rel, q, f1, f2, f3, f4⟩ := h
  exact f4 _ _ _ _ (Ext.refl _ _) rel q
/-- code that is never come to -/
def dNever : DS := fun _ _ _ => False
theorem ys_never {st : Stmt} : PS X st (liftS X.K B dNever) := PSi ps_never fun D σ H h => by
  obtain ⟨N, ρ, Γ, Dd, rel, q, f1, f2, f3, f4⟩ := h
  exact q
def dDrop (t : DE) : DS := fun D ρ Γ => t ρ Γ fun _ Γ1 => D.nx ρ Γ1
theorem ys_expr {e : Expr} {t : DE} (he : PE X e (liftE X.K B t)) (hs : swapsWith e none pos.line X.env = pure false := by rfl) : PS X (.Expr e pos) (liftS X.K B (dDrop t)) := by
  refine PSi (ps_expr he hs) fun D σ H h => ?_
  obtain ⟨N, ρ, Γ, Dd, rel, q, f1, f2, f3, f4⟩ := h
  exact ⟨N, ρ, Γ, _, rel, q, fun v H1 d1 Γ1 x1 g1 r1 q1 => f1 _ _ _ _ x1 (rel.ext x1 g1) q1⟩
def dRet (t : DE) : DS := fun D ρ Γ => t ρ Γ D.rt
theorem ys_ret {e : Expr} {t : DE} (he : PE X e (liftE X.K B t)) : PS X (.Return (some e) pos) (liftS X.K B (dRet t)) := by
  refine PSi (ps_ret he) fun D σ H h => ?_
  obtain ⟨N, ρ, Γ, Dd, rel, q, f1, f2, f3, f4⟩ := h
  exact ⟨N, ρ, Γ, _, rel, q, f2⟩
/-- return of an owned list: it is no more owned -/
def dRetF (t : DE) : DS := fun D ρ Γ => t ρ Γ fun d Γ1 => match d with
  | .raw (.ref a) => match Γ1 a with
    | some (.lst ds) => ∃ Γ2, Sub Γ2 Γ1 ∧ Γ2 a = none ∧ D.rt (.lst ds) Γ2
    | _ => False
  | _ => False
theorem ys_retF {e : Expr} {t : DE} (he : PE X e (liftE X.K B t)) : PS X (.Return (some e) pos) (liftS X.K B (dRetF t)) := by
  refine PSi (ps_ret he) fun D σ H h => ?_
  obtain ⟨N, ρ, Γ, Dd, rel, q, f1, f2, f3, f4⟩ := h
  refine ⟨N, ρ, Γ, _, rel, q, fun v H1 d1 Γ1 x1 g1 r1 q1 => ?_⟩
  split at q1
  · rename_i a
    split at q1
    · rename_i ds e
      cases r1
      obtain ⟨Γ2, s, n2, q2⟩ := q1
      obtain ⟨vs, hv, rv⟩ := g1.ok a _ e
      have nN : ¬ N a := fun z => by
        have z2 := (g1.hid a z).2
        rw [e] at z2; cases z2
      exact f2 _ _ _ _ (x1.trans (Ext.sub s)) (g1.sub s) (.lst nN n2 hv (rv.ext (Ext.sub s))) q2
    · exact q1.elim
  · exact q1.elim
def dRetN : DS := fun D _ Γ => D.rt .non Γ
theorem ys_retN : PS X (.Return none pos) (liftS X.K B dRetN) := PSi ps_retN fun D σ H h => by
  obtain ⟨N, ρ, Γ, Dd, rel, q, f1, f2, f3, f4⟩ := h
  exact f2.now rel.gs .non q
def dIfS (c : DT) (t u : DS) : DS := fun D ρ Γ => c ρ Γ fun b Γ1 => if b = true then t D ρ Γ1 else u D ρ Γ1
theorem ys_if {c : Expr} {a b : List Stmt} {tc : DT} {t u : DS} (hc : PT X c (liftT X.K B tc)) (ha : PSs X a (liftS X.K B t)) (hb : PSs X b (liftS X.K B u)) : PS X (.If c a b pos) (liftS X.K B (dIfS tc t u)) := by
  refine PSi (ps_if hc ha hb) fun D σ H h => ?_
  obtain ⟨N, ρ, Γ, Dd, rel, q, f1, f2, f3, f4⟩ := h
  refine ⟨N, ρ, Γ, _, rel, q, fun b H1 Γ1 x1 g1 q1 => ?_⟩
  cases b with
  | true => exact iteT ⟨N, ρ, Γ1, Dd, rel.ext x1 g1, by simpa using q1, f1.mv x1, f2.mv x1, f3.mv x1, f4.mv x1⟩
  | false => exact iteF ⟨N, ρ, Γ1, Dd, rel.ext x1 g1, by simpa using q1, f1.mv x1, f2.mv x1, f3.mv x1, f4.mv x1⟩

/-! ### targets -/
abbrev DG := D → Ds → Gs → (Ds → Gs → Prop) → Prop
abbrev DGs := List D → Ds → Gs → (Ds → Gs → Prop) → Prop
/-- but for these slots nothing is changed -/
def Same' (vs : List Nat) (σ σ' : L2.St) : Prop := σ'.length = σ.length ∧ ∀ i, i ∉ vs → σ'[i]? = σ[i]?
def liftG (K : PySem.W.Frag) (B : Bd) (vs : List Nat) (g : DG) : TG := fun v σ H Q => ∃ N ρ Γ d Qd, Rel K B N ρ Γ σ H ∧ Rp K N Γ H d v ∧ g d ρ Γ Qd ∧ ∀ σ' ρ' H' Γ', Ext Γ H Γ' H' → Rel K B N ρ' Γ' σ' H' → Same' vs σ σ' → Qd ρ' Γ' → Q σ' H'
def liftGs (K : PySem.W.Frag) (B : Bd) (vs : List Nat) (g : DGs) : TGs := fun us σ H Q => ∃ N ρ Γ ds Qd, Rel K B N ρ Γ σ H ∧ RpL K N Γ H ds us ∧ g ds ρ Γ Qd ∧ ∀ σ' ρ' H' Γ', Ext Γ H Γ' H' → Rel K B N ρ' Γ' σ' H' → Same' vs σ σ' → Qd ρ' Γ' → Q σ' H'
theorem PGi {e : Expr} {t t' : TG} (h : PG X e t) (i : ∀ v σ H Q, t' v σ H Q → t v σ H Q) : PG X e t' := ⟨fun pins s σ H v u Q I r w => h.run pins s σ H v u Q I r (i v σ H Q w)⟩
theorem PGsi {e : List Expr} {t t' : TGs} (h : PGs X e t) (i : ∀ v σ H Q, t' v σ H Q → t v σ H Q) : PGs X e t' := ⟨fun pins s σ H v u Q I r w => h.run pins s σ H v u Q I r (i v σ H Q w)⟩
def dgName (i : Nat) : DG := fun d ρ Γ Q => Q (ρ.set i (some d)) Γ
theorem yg_name {i : Nat} {x : Str} (hN : X.N.Nodup) (hi : X.N[i]? = some x := by rfl) (hx : Loc X.env.scope x := by first | exact Or.inl rfl | exact Or.inr rfl) (hf : X.fn x = true ∨ X.env.scope.names.lookup x = some .local := by first | exact .inl rfl | exact .inr rfl | assumption) : PG X (.Name x pos) (liftG X.K B [i] (dgName i)) := by
  refine PGi (pg_name hN hi hx hf) fun v σ H Q h => ?_
  obtain ⟨N, ρ, Γ, d, Qd, rel, r, q, f⟩ := h
  exact f _ _ _ _ (Ext.refl _ _) (rel.set r i) ⟨by rw [List.length_set], fun j hj => List.getElem?_set_ne (fun e => hj (by simp [e]))⟩ q
def dgNil : DGs := fun ds ρ Γ Q => match ds with | [] => Q ρ Γ | _ => False
def dgCons (g : DG) (h : DGs) : DGs := fun ds ρ Γ Q => match ds with | d :: r => g d ρ Γ fun ρ' Γ' => h r ρ' Γ' Q | _ => False
theorem ygs_nil : PGs X [] (liftGs X.K B [] dgNil) := PGsi pgs_nil fun v σ H Q h => by
  obtain ⟨N, ρ, Γ, ds, Qd, rel, r, q, f⟩ := h
  unfold dgNil at q
  split at q
  · cases r
    exact ⟨rfl, f _ _ _ _ (Ext.refl _ _) rel ⟨rfl, fun _ _ => rfl⟩ q⟩
  · exact q.elim
theorem ygs_cons {e : Expr} {es : List Expr} {vs ws : List Nat} {t : DG} {u : DGs} (h1 : PG X e (liftG X.K B vs t)) (h2 : PGs X es (liftGs X.K B ws u)) (hs : (assignEach (e :: es) X.env).map (·.2) = assign e X.env :: (assignEach es X.env).map (·.2) := by rfl) :
    PGs X (e :: es) (liftGs X.K B (vs ++ ws) (dgCons t u)) := by
  refine PGsi (pgs_cons h1 h2 hs) fun v σ H Q h => ?_
  obtain ⟨N, ρ, Γ, ds, Qd, rel, r, q, f⟩ := h
  unfold dgCons at q
  split at q
  · cases r with
    | cons r1 r2 =>
      refine ⟨_, _, rfl, ⟨N, ρ, Γ, _, _, rel, r1, q, fun σ' ρ' H' Γ' x rel' sm q' => ⟨N, ρ', Γ', _, _, rel', r2.ext x, q', fun σ2 ρ2 H2 Γ2 x2 rel2 sm2 q2 => ?_⟩⟩⟩
      refine f _ _ _ _ (x.trans x2) rel2 ⟨sm2.1.trans sm.1, fun i hi => ?_⟩ q2
      simp only [List.mem_append, not_or] at hi
      exact (sm2.2 i hi.2).trans (sm.2 i hi.1)
  · exact q.elim
def dgTup (n : Nat) (g : DGs) : DG := fun d ρ Γ Q => match d with | .tup ds => ds.length = n ∧ g ds ρ Γ Q | _ => False
theorem yg_tup {es : List Expr} {k : Nat} {vs : List Nat} {t : DGs} {n : Nat} (hc : X.calm = true) (h : PGs X es (liftGs X.K B vs t))
    (hn : (assignEach es X.env).length = n := by rfl) (hst : (assignEach es X.env).findIdx? (·.1) = none := by rfl) : PG X (.Tuple es k pos) (liftG X.K B vs (dgTup n t)) := by
  refine PGi (pg_tup hc h hn hst) fun v σ H Q h => ?_
  obtain ⟨N, ρ, Γ, d, Qd, rel, r, q, f⟩ := h
  unfold dgTup at q
  split at q
  · cases r with
    | tup hx tx => exact ⟨_, _, rfl, hx.sq, by rw [tx.length]; exact q.1, N, ρ, Γ, _, _, rel, tx, q.2, f⟩
  · exact q.elim
/-- o[i] = v -/
def dSetItem (o i v : D) (Γ : Gs) (Q : Gs → Prop) : Prop := match o, i with
  | .raw (.ref a), .int k => match Γ a with
    | some (.lst ds) => match ixN ds.length k with
      | some j => Q (gup Γ a (.lst (ds.set j v)))
      | none => False
    | _ => False
  | _, _ => False
def dgSub (to ti : DE) : DG := fun v ρ Γ Q => to ρ Γ fun o Γ1 => ti ρ Γ1 fun i Γ2 => dSetItem o i v Γ2 fun Γ3 => Q ρ Γ3
theorem yg_sub {o i : Expr} {to ti : DE} (ho : PE X o (liftE X.K B to)) (hi : PE X i (liftE X.K B ti))
    (ha : ∀ v, assign (.Subscript o i pos) X.env v = (do
      let ov ← holding [v] (eval o X.env)
      let iv ← holding [v, ov] (eval i X.env)
      standAt pos
      holding [v, ov, iv] (setItem ov iv v)
      release [v, ov, iv] []) := by intro _; rfl) : PG X (.Subscript o i pos) (liftG X.K B [] (dgSub to ti)) := by
  refine PGi (pg_sub ho hi set_list ha) fun v σ H Q h => ?_
  obtain ⟨N, ρ, Γ, d, Qd, rel, r, q, f⟩ := h
  refine ⟨N, ρ, Γ, _, rel, q, fun vo H1 d1 Γ1 x1 g1 r1 q1 => ⟨N, ρ, Γ1, _, rel.ext x1 g1, q1, fun vi H2 d2 Γ2 x2 g2 r2 q2 => ?_⟩⟩
  unfold dSetItem at q2
  split at q2
  · rename_i a k
    split at q2
    · rename_i ds e
      split at q2
      · rename_i j ej
        cases r2
        cases r1
        obtain ⟨us, hu, ru⟩ := g2.ok a _ e
        have w := Ext.write (o := .lst (us.set j v)) (g' := .lst (ds.set j d)) g2 e
        refine ⟨a, us, k, j, rfl, rfl, hu, by rw [ru.length]; exact ej, ?_⟩
        exact f _ _ _ _ ((x1.trans x2).trans w) ((rel.ext (x1.trans x2) g2).ext w (g2.write e ⟨_, upd_same, (ru.set (r.ext (x1.trans x2)) j).ext w⟩)) ⟨rfl, fun _ _ => rfl⟩ q2
      · exact q2.elim
    · exact q2.elim
  · exact q2.elim

/-! ### assignments -/
def dSet (i : Nat) (t : DE) : DS := fun D ρ Γ => t ρ Γ fun d Γ1 => D.nx (ρ.set i (some d)) Γ1
theorem ys_set {i : Nat} {x : Str} {e : Expr} {t : DE} {pos' : Pos} (hN : X.N.Nodup) (he : PE X e (liftE X.K B t)) (hi : X.N[i]? = some x := by rfl) (hx : Loc X.env.scope x := by first | exact Or.inl rfl | exact Or.inr rfl) (hs : swapsWith e (some (.Name x pos')) pos.line X.env = pure false := by rfl) (hf : X.fn x = true ∨ X.env.scope.names.lookup x = some .local := by first | exact .inl rfl | exact .inr rfl | assumption) :
    PS X (.Assign [.Name x pos'] e pos) (liftS X.K B (dSet i t)) := by
  refine PSi (ps_set hN hi hx he hs hf) fun D σ H h => ?_
  obtain ⟨N, ρ, Γ, Dd, rel, q, f1, f2, f3, f4⟩ := h
  exact ⟨N, ρ, Γ, _, rel, q, fun v H1 d1 Γ1 x1 g1 r1 q1 => f1 _ _ _ _ x1 ((rel.ext x1 g1).set r1 i) q1⟩
def dAsg (t : DE) (g : DG) : DS := fun D ρ Γ => t ρ Γ fun d Γ1 => g d ρ Γ1 D.nx
theorem ys_asg {tg e : Expr} {t : DE} {vs : List Nat} {g : DG} (he : PE X e (liftE X.K B t)) (hg : PG X tg (liftG X.K B vs g)) (hs : swapsWithSole [tg] e pos.line X.env = pure false := by rfl) (hw : swappedStores [tg] e X.env = pure none := by rfl)
    (h1 : (assignEach [tg] X.env).map (·.2) = [assign tg X.env] := by rfl) : PS X (.Assign [tg] e pos) (liftS X.K B (dAsg t g)) := by
  refine PSi (ps_asg he hg hs hw h1) fun D σ H h => ?_
  obtain ⟨N, ρ, Γ, Dd, rel, q, f1, f2, f3, f4⟩ := h
  exact ⟨N, ρ, Γ, _, rel, q, fun v H1 d1 Γ1 x1 g1 r1 q1 => ⟨N, ρ, Γ1, d1, _, rel.ext x1 g1, r1, q1, fun σ' ρ' H' Γ' x' rel' _ q' => f1 _ _ _ _ (x1.trans x') rel' q'⟩⟩
def dPar (i j : Nat) (ta : DA) : DS := fun D ρ Γ => ta ρ Γ fun ds Γ1 => match ds with | [d, e] => D.nx ((ρ.set i (some d)).set j (some e)) Γ1 | _ => False
theorem ys_par {i j : Nat} {x y : Str} {a b : Expr} {ta : DA} {px py pt : Pos} {kt k2 pt2} (hc : X.calm = true) (hN : X.N.Nodup) (ha : PA X [a, b] (liftA X.K B ta)) (hi : X.N[i]? = some x := by rfl) (hj : X.N[j]? = some y := by rfl) (hij : i ≠ j := by decide)
    (hx : X.env.scope.names.lookup x = some .local := by rfl) (hy : X.env.scope.names.lookup y = some .local := by rfl)
    (hw : swappedStores [.Tuple [.Name x px, .Name y py] kt pt] (.Tuple [a, b] k2 pt2) X.env = pure (some [x, y]) := by rfl)
    (hs : swapsWithSole [.Tuple [.Name x px, .Name y py] kt pt] (.Tuple [a, b] k2 pt2) pos.line X.env = pure false := by rfl) :
    PS X (.Assign [.Tuple [.Name x px, .Name y py] kt pt] (.Tuple [a, b] k2 pt2) pos) (liftS X.K B (dPar i j ta)) := by
  refine PSi (ps_par hc hN hi hj hij hx hy ha hw hs) fun D σ H h => ?_
  obtain ⟨N, ρ, Γ, Dd, rel, q, f1, f2, f3, f4⟩ := h
  refine ⟨N, ρ, Γ, _, rel, q, fun vs H1 ds Γ1 x1 g1 r1 q1 => ?_⟩
  split at q1
  · obtain ⟨v, w, rfl, rv, rw_⟩ := r1.inv2
    exact ⟨v, w, rfl, f1 _ _ _ _ x1 (((rel.ext x1 g1).set rv i).set rw_ j) q1⟩
  · exact q1.elim
def dPar3 (i j l : Nat) (ta : DA) : DS := fun D ρ Γ => ta ρ Γ fun ds Γ1 => match ds with | [d, e, f] => D.nx (((ρ.set i (some d)).set j (some e)).set l (some f)) Γ1 | _ => False
theorem ys_par3 {i j l : Nat} {x y z : Str} {a b c : Expr} {ta : DA} {px py pz pt : Pos} {kt k2 pt2} (hc : X.calm = true) (hN : X.N.Nodup) (ha : PA X [a, b, c] (liftA X.K B ta)) (hi : X.N[i]? = some x := by rfl) (hj : X.N[j]? = some y := by rfl) (hl : X.N[l]? = some z := by rfl) (hij : i ≠ j := by decide) (hil : i ≠ l := by decide) (hjl : j ≠ l := by decide)
    (hx : X.env.scope.names.lookup x = some .local := by rfl) (hy : X.env.scope.names.lookup y = some .local := by rfl) (hz : X.env.scope.names.lookup z = some .local := by rfl)
    (hw : swappedStores [.Tuple [.Name x px, .Name y py, .Name z pz] kt pt] (.Tuple [a, b, c] k2 pt2) X.env = pure (some [x, y, z]) := by rfl)
    (hs : swapsWithSole [.Tuple [.Name x px, .Name y py, .Name z pz] kt pt] (.Tuple [a, b, c] k2 pt2) pos.line X.env = pure false := by rfl) :
    PS X (.Assign [.Tuple [.Name x px, .Name y py, .Name z pz] kt pt] (.Tuple [a, b, c] k2 pt2) pos) (liftS X.K B (dPar3 i j l ta)) := by
  refine PSi (ps_par3 hc hN hi hj hl hij hil hjl hx hy hz ha hw hs) fun D σ H h => ?_
  obtain ⟨N, ρ, Γ, Dd, rel, q, f1, f2, f3, f4⟩ := h
  refine ⟨N, ρ, Γ, _, rel, q, fun vs H1 ds Γ1 x1 g1 r1 q1 => ?_⟩
  split at q1
  · cases r1 with
    | cons r1 t =>
      obtain ⟨v, w, rfl, rv, rw_⟩ := t.inv2
      exact ⟨_, v, w, rfl, f1 _ _ _ _ x1 ((((rel.ext x1 g1).set r1 i).set rv j).set rw_ l) q1⟩
  · exact q1.elim
/-- name op= e: by a rule of the operator at work -/
def IpD (K : PySem.W.Frag) (r : DR2) (r' : TIp) : Prop := ∀ (N : Addr → Prop) (Γ : Gs) (H : Hp) (x y : V) (dx dy : D) (Qd : D → Gs → Prop) (Q : VK), GsOk K N Γ H → Rp K N Γ H dx x → Rp K N Γ H dy y → r dx dy Γ Qd → Fin K N Γ H Qd Q → r' x y H Q
def dAug (i : Nat) (r : DR2) (t : DE) : DS := fun D ρ Γ => match ρ[i]? with | some (some x) => t ρ Γ fun y Γ1 => r x y Γ1 fun z Γ2 => D.nx (ρ.set i (some z)) Γ2 | _ => False
theorem ys_aug {i : Nat} {x : Str} {e : Expr} {t : DE} {op : Operator} {r : DR2} {r' : TIp} {pos' : Pos} (hN : X.N.Nodup) (he : PE X e (liftE X.K B t)) (ho : PIp X op r') (o : IpD X.K r r') (hi : X.N[i]? = some x := by rfl) (hx : Loc X.env.scope x := by first | exact Or.inl rfl | exact Or.inr rfl) (hf : X.fn x = true ∨ X.env.scope.names.lookup x = some .local := by first | exact .inl rfl | exact .inr rfl | assumption) :
    PS X (.AugAssign (.Name x pos') op e pos) (liftS X.K B (dAug i r t)) := by
  refine PSi (ps_aug hN hi hx he ho hf) fun D σ H h => ?_
  obtain ⟨N, ρ, Γ, Dd, rel, q, f1, f2, f3, f4⟩ := h
  unfold dAug at q
  split at q
  · rename_i d e
    obtain ⟨v, h1, h2⟩ := rel.env i d e
    refine ⟨v, h1, N, ρ, Γ, _, rel, q, fun w H1 d1 Γ1 x1 g1 r1 q1 => ?_⟩
    exact o N Γ1 H1 v w d d1 _ _ g1 (h2.ext x1) r1 q1 fun z H2 d2 Γ2 x2 g2 r2 q2 => f1 _ _ _ _ (x1.trans x2) (((rel.ext x1 g1).ext x2 g2).set r2 i) q2
  · exact q.elim
theorem ip_I0 {K : PySem.W.Frag} {g : Int → Int → Int} : IpD K (d2I0 fun i j => .int (g i j)) (ipI g) := by
  intro N Γ H x y dx dy Qd Q ok rx ry h f
  unfold d2I0 at h
  split at h
  · cases rx; cases ry
    exact ⟨_, _, rfl, rfl, f.now ok (.int _) h⟩
  · exact h.elim
theorem ys_augAdd {i : Nat} {x : Str} {e : Expr} {t : DE} {pos' : Pos} (hN : X.N.Nodup) (he : PE X e (liftE X.K B t)) (hi : X.N[i]? = some x := by rfl) (hx : Loc X.env.scope x := by first | exact Or.inl rfl | exact Or.inr rfl) (hf : X.fn x = true ∨ X.env.scope.names.lookup x = some .local := by first | exact .inl rfl | exact .inr rfl | assumption) :
    PS X (.AugAssign (.Name x pos') .Add e pos) (liftS X.K B (dAug i (d2I0 fun i j => .int (i + j)) t)) := ys_aug hN he ip_add ip_I0 hi hx hf

/-! ### while -/
def dWhile (c : DT) (b : DS) : DS := fun D ρ Γ => ∃ W : Nat → Ds → Gs → Prop, (∃ m, W m ρ Γ) ∧ ∀ m ρ Γ, W m ρ Γ →
  c ρ Γ fun k Γ1 => if k = true then b { D with nx := fun ρ' Γ' => ∃ m', m' < m ∧ W m' ρ' Γ', ct := fun ρ' Γ' => ∃ m', m' < m ∧ W m' ρ' Γ', bk := D.nx } ρ Γ1 else D.nx ρ Γ1
theorem ys_while {c : Expr} {body : List Stmt} {tc : DT} {tb : DS} (hp : PassesOwn (model X.prog X.w) X.A X.env X.xe) (hc : PT X c (liftT X.K B tc)) (hb : PSs X body (liftS X.K B tb)) : PS X (.While c body [] pos) (liftS X.K B (dWhile tc tb)) := by
  refine PSi (ps_while hp hc hb) fun D σ H h => ?_
  obtain ⟨N, ρ, Γ, Dd, rel, ⟨W, ⟨m0, w0⟩, turn⟩, f1, f2, f3, f4⟩ := h
  refine ⟨fun m σ' H' => ∃ ρ' Γ', Ext Γ H Γ' H' ∧ Rel X.K B N ρ' Γ' σ' H' ∧ W m ρ' Γ', ⟨m0, ρ, Γ, Ext.refl _ _, rel, w0⟩, ?_⟩
  rintro m σ1 H1 ⟨ρ1, Γ1, x1, rel1, w1⟩
  refine ⟨N, ρ1, Γ1, _, rel1, turn m ρ1 Γ1 w1, fun k H2 Γ2 x2 g2 q2 => ?_⟩
  cases k with
  | false => exact iteF (f1 _ _ _ _ (x1.trans x2) (rel1.ext x2 g2) (by simpa using q2))
  | true =>
    refine iteT ⟨fun σ' H' => ∃ m', m' < m ∧ ∃ ρ' Γ', Ext Γ H Γ' H' ∧ Rel X.K B N ρ' Γ' σ' H' ∧ W m' ρ' Γ', fun σ' H' z => z, ?_⟩
    refine ⟨N, ρ1, Γ2, { Dd with nx := fun ρ' Γ' => ∃ m', m' < m ∧ W m' ρ' Γ', ct := fun ρ' Γ' => ∃ m', m' < m ∧ W m' ρ' Γ', bk := Dd.nx }, rel1.ext x2 g2, by simpa using q2, ?_, f2.mv (x1.trans x2), f1.mv (x1.trans x2), ?_⟩
    · exact fun σ' H' ρ' Γ' x' rel' ⟨m', lt, w'⟩ => ⟨m', lt, ρ', Γ', (x1.trans x2).trans x', rel', w'⟩
    · exact fun σ' H' ρ' Γ' x' rel' ⟨m', lt, w'⟩ => ⟨m', lt, ρ', Γ', (x1.trans x2).trans x', rel', w'⟩

/-! ### what is walked -/
/-- an owned list that is walked must stay as it is -/
abbrev Src := Option (Addr × List D)
def srcOk (s : Src) (Γ : Gs) : Prop := match s with | none => True | some (a, ds) => Γ a = some (.lst ds)
/-- with the source as it must be -/
def withS (s : Src) (Γ : Gs) (P : Prop) : Prop := match s with | none => P | some (a, ds) => Γ a = some (.lst ds) ∧ P
theorem withS.of {s : Src} {Γ : Gs} {P : Prop} (h : withS s Γ P) : srcOk s Γ ∧ P := by
  cases s with
  | none => exact ⟨trivial, h⟩
  | some p => exact h
def srcOf : D → List D → Src
  | .raw (.ref a), ds => some (a, ds)
  | _, _ => none
structure ItD (K : PySem.W.Frag) (N : Addr → Prop) (J : It) (items : List D) (s : Src) (Γ0 : Gs) (H0 : Hp) : Prop where
  go : ∀ N' i Γ H, (∀ a, N a → N' a) → Ext Γ0 H0 Γ H → GsOk K N' Γ H → srcOk s Γ → i < items.length → J.go i H
  stop : ∀ N' Γ H, (∀ a, N a → N' a) → Ext Γ0 H0 Γ H → GsOk K N' Γ H → srcOk s Γ → J.stop items.length H
  yld : ∀ N' i Γ H x H' d, (∀ a, N' a → N a ∨ H0 a = none) → Ext Γ0 H0 Γ H → GsOk K N' Γ H → srcOk s Γ → items[i]? = some d → J.yld i H x H' → Ext Γ H Γ H' ∧ GsOk K N' Γ H' ∧ Rp K N' Γ H' d x
end
mutual
theorem Rp.hide {K : PySem.W.Frag} {N N' : Addr → Prop} {Γ : Gs} {H : Hp} (hN : ∀ a, N' a → N a ∨ H a = none) : ∀ {d : D} {v : V}, Rp K N Γ H d v → Rp K N' Γ H d v
  | _, _, .non => .non
  | _, _, .bl b => .bl b
  | _, _, .int i => .int i
  | _, _, .str z => .str z
  | _, _, .raw v => .raw v
  | _, _, .tup h hs => .tup h (RpL.hide hN hs)
  | _, _, .lst n g h hs => .lst (fun z => (hN _ z).elim n fun e => by rw [h] at e; cases e) g h (RpL.hide hN hs)
  | _, _, .scr h hs => .scr h (RpL.hide hN hs)
theorem RpL.hide {K : PySem.W.Frag} {N N' : Addr → Prop} {Γ : Gs} {H : Hp} (hN : ∀ a, N' a → N a ∨ H a = none) : ∀ {ds : List D} {vs : List V}, RpL K N Γ H ds vs → RpL K N' Γ H ds vs
  | _, _, .nil => .nil
  | _, _, .cons h t => .cons (Rp.hide hN h) (RpL.hide hN t)
end
section
variable {K : PySem.W.Frag} {N N' : Addr → Prop} {Γ Γ0 : Gs} {H H0 : Hp}
/-- a walked source, wherever it is walked -/
theorem src_at {d : D} {v : V} {xs : List D} (ok : GsOk K N Γ0 H0) (r : Rp K N Γ0 H0 d v) (e : seqOf Γ0 d = some xs) : ∃ κ a, v = .ref a ∧ ∃ vs0, SqK κ K H0 a vs0 ∧
    ∀ Γ H, Ext Γ0 H0 Γ H → (∃ N', GsOk K N' Γ H) → srcOk (srcOf d xs) Γ → ∃ vs, SqK κ K H a vs ∧ vs.length = xs.length ∧ ∀ N', (∀ a, N' a → N a ∨ H0 a = none) → GsOk K N' Γ H → RpL K N' Γ H xs vs := by
  cases r with
  | tup q t =>
    cases e
    refine ⟨.T, _, rfl, _, q.sq, fun Γ H x _ _ => ⟨_, ?_, t.length, fun N' hN _ => (RpL.hide hN t).ext x⟩⟩
    rcases q with ⟨o, h, _⟩ | h
    · exact .inl (.inr ⟨o, x.keep _ _ h (.inr trivial)⟩)
    · exact (PlT.sq (.inr h))
  | lst nn g q t =>
    cases e
    exact ⟨.L, _, rfl, _, SqL.of q, fun Γ H x _ _ => ⟨_, SqL.of (x.keep _ _ q (.inl g)), t.length, fun N' hN _ => (RpL.hide hN t).ext x⟩⟩
  | scr q t =>
    cases e
    refine ⟨.L, _, rfl, _, q.elim (fun z => .inl (.inr z)) .inr, fun Γ H x _ _ => ⟨_, ?_, t.length, fun N' hN _ => (RpL.hide hN t).ext x⟩⟩
    rcases q with ⟨o, q⟩ | q
    · exact .inl (.inr ⟨o, x.keep _ _ q (.inr trivial)⟩)
    · exact .inr q
  | raw v =>
    cases v with
    | ref a =>
      have e' : Γ0 a = some (.lst xs) := by
        simp only [seqOf] at e
        cases g : Γ0 a with
        | none => rw [g] at e; cases e
        | some u =>
          rw [g] at e
          cases u with
          | lst ds => cases e; rfl
          | dic _ => cases e
          | ins _ _ _ _ => cases e
      obtain ⟨vs0, h0, t0⟩ := ok.ok a _ e'
      refine ⟨.L, a, rfl, vs0, SqL.of h0, fun Γ H x ⟨N1, g1⟩ s => ?_⟩
      have s' : Γ a = some (.lst xs) := s
      obtain ⟨vs, h, t⟩ := g1.ok a _ s'
      refine ⟨vs, SqL.of h, t.length, fun N' _ g => ?_⟩
      obtain ⟨vs', h', t'⟩ := g.ok a _ s'
      rw [h] at h'; cases h'
      exact t'
    | _ => cases e
  | non => cases e
  | bl _ => cases e
  | int _ => cases e
  | str _ => cases e
def enumD : Int → List D → List D
  | _, [] => []
  | k, x :: xs => .tup [.int k, x] :: enumD (k + 1) xs
theorem enumD_len : ∀ (k : Int) (xs : List D), (enumD k xs).length = xs.length
  | _, [] => rfl
  | k, x :: xs => by simp only [enumD, List.length_cons, enumD_len (k + 1) xs]
theorem enumD_get : ∀ (k : Int) (xs : List D) (i : Nat), (enumD k xs)[i]? = xs[i]?.map fun x => .tup [.int (k + i), x]
  | _, [], i => by simp [enumD]
  | k, x :: xs, 0 => by simp [enumD]
  | k, x :: xs, i + 1 => by
    simp only [enumD, List.getElem?_cons_succ]
    rw [enumD_get (k + 1) xs i]
    have e : k + 1 + (i : Int) = k + ((i + 1 : Nat) : Int) := by omega
    rw [e]
def zipD (xs ys : List D) : List D := List.zipWith (fun x y => .tup [x, y]) xs ys
def rangeD (lo : Int) (n : Nat) : List D := (List.range n).map fun (i : Nat) => .int (lo + (i : Int))
end
end Y
set_option Elab.async false
set_option linter.all false
set_option maxRecDepth 100000
set_option maxHeartbeats 4000000
/-! the data layer's rules: what is walked, for, comprehensions, calls of defs, classes -/
namespace Y
open PySem PySem.Spec PyProof.Rows L2
section
variable {X : Cx} {B : Bd} {pos : Pos} {tg : Expr}
/-! ### what is walked -/
abbrev DI := Ds → Gs → (List D → Src → Gs → Prop) → Prop
def liftI (K : PySem.W.Frag) (B : Bd) (t : DI) : TI := fun σ H R => ∃ N ρ Γ Qd, Rel K B N ρ Γ σ H ∧ t ρ Γ Qd ∧ ∀ J H' items s Γ', Ext Γ H Γ' H' → GsOk K N Γ' H' → ItD K N J items s Γ' H' → srcOk s Γ' → Qd items s Γ' → R J H'
theorem PIi {it : Expr} {t t' : TI} (h : PI X tg it t) (i : ∀ σ H R, t' σ H R → t σ H R) : PI X tg it t' := ⟨fun pins s σ H R I w => h.run pins s σ H R I (i σ H R w)⟩
theorem srcOk_now {K : PySem.W.Frag} {N : Addr → Prop} {Γ : Gs} {H : Hp} {d : D} {v : V} {xs : List D} (r : Rp K N Γ H d v) (e : seqOf Γ d = some xs) : srcOk (srcOf d xs) Γ := by
  cases d with
  | raw u =>
    cases u with
    | ref a =>
      simp only [seqOf] at e
      show Γ a = some (.lst xs)
      cases g : Γ a with
      | none => rw [g] at e; cases e
      | some u =>
        rw [g] at e
        cases u with
        | lst ds => cases e; rfl
        | dic _ => cases e
        | ins _ _ _ _ => cases e
    | _ => trivial
  | _ => trivial
/-- the thing itself -/
def dISeq (te : DE) : DI := fun ρ Γ Q => te ρ Γ fun d Γ1 => match seqOf Γ1 d with
  | some xs => Q xs (srcOf d xs) Γ1
  | none => False
theorem yi_seq {e : Expr} {te : DE} (he : PE X e (liftE X.K B te)) : PI X tg e (liftI X.K B (dISeq te)) := by
  refine PIi (pi_S he) fun σ H R h => ?_
  obtain ⟨N, ρ, Γ, Qd, rel, q, f⟩ := h
  refine ⟨N, ρ, Γ, _, rel, q, fun v H1 d1 Γ1 x1 g1 r1 q1 => ?_⟩
  split at q1
  · rename_i xs e
    obtain ⟨κ, a, rfl, vs0, h0, at_⟩ := src_at g1 r1 e
    refine ⟨κ, a, vs0, rfl, h0, f _ _ _ _ _ x1 g1 ?_ (srcOk_now r1 e) q1⟩
    refine ⟨fun N' i Γ' H' hN x g s hi => ?_, fun N' Γ' H' hN x g s => ?_, fun N' i Γ' H' y H2 d hN x g s hd hy => ?_⟩
    · obtain ⟨vs, hq, hl, _⟩ := at_ Γ' H' x ⟨N', g⟩ s
      exact (walk_S (xs := vs)).goes i H' (by rw [hl]; exact hi) hq
    · obtain ⟨vs, hq, hl, _⟩ := at_ Γ' H' x ⟨N', g⟩ s
      rw [← hl]; exact walk_S.stops H' hq
    · obtain ⟨vs, hq, hl, hr⟩ := at_ Γ' H' x ⟨N', g⟩ s
      have hi : i < vs.length := by rw [hl]; exact (List.getElem?_eq_some_iff.mp hd).1
      obtain ⟨rfl, hv⟩ := walk_S.yields i H' y H2 hi hq hy
      obtain ⟨v, e1, e2⟩ := (hr N' hN g).get hd
      rw [hv] at e1; cases e1
      exact ⟨Ext.refl _ _, g, e2⟩
  · exact q1.elim
/-- enumerate(x) -/
def dIEnum (te : DA) : DI := fun ρ Γ Q => te ρ Γ fun ds Γ1 => match ds with
  | [d] => match seqOf Γ1 d with
    | some xs => Q (enumD 0 xs) (srcOf d xs) Γ1
    | none => False
  | _ => False
theorem enum_it {K : PySem.W.Frag} {N : Addr → Prop} {Γ1 : Gs} {H1 : Hp} {d : D} {v : V} {xs : List D} (k : Int) (g1 : GsOk K N Γ1 H1) (r1 : Rp K N Γ1 H1 d v) (e : seqOf Γ1 d = some xs) :
    ∃ κ a, v = .ref a ∧ ∃ vs0, SqK κ K H1 a vs0 ∧ ItD K N (ItE κ K a k) (enumD k xs) (srcOf d xs) Γ1 H1 := by
  obtain ⟨κ, a, rfl, vs0, h0, at_⟩ := src_at g1 r1 e
  refine ⟨κ, a, rfl, vs0, h0, ?_⟩
  refine ⟨fun N' i Γ' H' hN x g s hi => ?_, fun N' Γ' H' hN x g s => ?_, fun N' i Γ' H' y H2 d hN x g s hd hy => ?_⟩
  · obtain ⟨vs, hq, hl, _⟩ := at_ Γ' H' x ⟨N', g⟩ s
    exact (walk_enumK (xs := vs)).goes i H' (by rw [hl]; rw [enumD_len] at hi; exact hi) hq
  · obtain ⟨vs, hq, hl, _⟩ := at_ Γ' H' x ⟨N', g⟩ s
    rw [enumD_len, ← hl]; exact walk_enumK.stops H' hq
  · obtain ⟨vs, hq, hl, hr⟩ := at_ Γ' H' x ⟨N', g⟩ s
    have hi : i < vs.length := by rw [hl]; have := (List.getElem?_eq_some_iff.mp hd).1; rw [enumD_len] at this; exact this
    obtain ⟨T, z, w, o, rfl, nT, od, rfl, ez, ew⟩ := walk_enumK.yields i H' y H2 hi hq hy
    cases ez
    obtain ⟨d', ed, rd⟩ := (hr N' hN g).get' (show vs[i]? = some w from ew)
    rw [enumD_get, ed] at hd
    cases hd
    exact ⟨Ext.laid nT, g.laid nT, .tup (.inl ⟨o, upd_same, od⟩) (.cons (.int _) (.one (rd.ext (Ext.laid nT))))⟩
theorem yi_enum {e : Expr} {te : DA} {p tpos : Pos} {elts : List Expr} {kk : Nat} (hg : Gl X "enumerate") (hm : X.mg "enumerate" = none) (ha : PA X [e] (liftA X.K B te)) (hs : starEach [e] X.env = [(false, eval e X.env)] := by rfl) :
    PI X (.Tuple elts kk tpos) (.Call (.Name "enumerate" p) [e] [] pos) (liftI X.K B (dIEnum te)) := by
  refine PIi (pi_E hg hm ha hs) fun σ H R h => ?_
  obtain ⟨N, ρ, Γ, Qd, rel, q, f⟩ := h
  refine ⟨N, ρ, Γ, _, rel, q, fun vs H1 ds Γ1 x1 g1 r1 q1 => ?_⟩
  split at q1
  · rename_i d
    split at q1
    · rename_i xs e
      obtain ⟨v, rfl, rv⟩ := r1.inv1
      obtain ⟨κ, a, rfl, vs0, h0, it⟩ := enum_it 0 g1 rv e
      exact ⟨κ, a, vs0, rfl, h0, f _ _ _ _ _ x1 g1 it (srcOk_now rv e) q1⟩
    · exact q1.elim
  · exact q1.elim
def dIEnumK (te : DA) : DI := fun ρ Γ Q => te ρ Γ fun ds Γ1 => match ds with
  | [d, .int k] => match seqOf Γ1 d with
    | some xs => (-(2 ^ 62) ≤ k ∧ k < 2 ^ 62) ∧ Q (enumD k xs) (srcOf d xs) Γ1
    | none => False
  | _ => False
theorem yi_enumK {e e2 : Expr} {te : DA} {p tpos : Pos} {elts : List Expr} {kk : Nat} (hg : Gl X "enumerate") (hm : X.mg "enumerate" = none) (ha : PA X [e, e2] (liftA X.K B te))
    (hs : starEach [e, e2] X.env = (false, eval e X.env) :: starEach [e2] X.env := by rfl) (hpl : (backTo pos (starEach [e2] X.env)).any (·.1) = false := by rfl) :
    PI X (.Tuple elts kk tpos) (.Call (.Name "enumerate" p) [e, e2] [] pos) (liftI X.K B (dIEnumK te)) := by
  refine PIi (pi_Ek hg hm ha hs hpl) fun σ H R h => ?_
  obtain ⟨N, ρ, Γ, Qd, rel, q, f⟩ := h
  refine ⟨N, ρ, Γ, _, rel, q, fun vs H1 ds Γ1 x1 g1 r1 q1 => ?_⟩
  split at q1
  · rename_i d k
    split at q1
    · rename_i xs e
      obtain ⟨v, w, rfl, rv, rw_⟩ := r1.inv2
      cases rw_
      obtain ⟨κ, a, rfl, vs0, h0, it⟩ := enum_it k g1 rv e
      exact ⟨κ, a, vs0, k, rfl, h0, q1.1.1, q1.1.2, f _ _ _ _ _ x1 g1 it (srcOk_now rv e) q1.2⟩
    · exact q1.elim
  · exact q1.elim
/-- zip(x, y): one of the two at most is owned -/
def dIZip (te : DA) : DI := fun ρ Γ Q => te ρ Γ fun ds Γ1 => match ds with
  | [d, d'] => match seqOf Γ1 d, seqOf Γ1 d' with
    | some xs, some ys => (srcOf d xs = none ∨ srcOf d' ys = none) ∧ Q (zipD xs ys) ((srcOf d xs).or (srcOf d' ys)) Γ1
    | _, _ => False
  | _ => False
theorem zipD_get (xs ys : List D) (i : Nat) (d : D) (h : (zipD xs ys)[i]? = some d) : ∃ x y, xs[i]? = some x ∧ ys[i]? = some y ∧ d = .tup [x, y] := by
  unfold zipD at h
  rw [List.getElem?_zipWith] at h
  cases e1 : xs[i]? with
  | none => rw [e1] at h; simp at h
  | some x =>
    cases e2 : ys[i]? with
    | none => rw [e1, e2] at h; simp at h
    | some y => rw [e1, e2] at h; simp at h; exact ⟨x, y, rfl, rfl, h.symm⟩
theorem yi_zip {e e2 : Expr} {te : DA} {p tpos : Pos} {elts : List Expr} {kk : Nat} (hg : Gl X "zip") (hm : X.mg "zip" = none) (ha : PA X [e, e2] (liftA X.K B te))
    (hs : starEach [e, e2] X.env = (false, eval e X.env) :: starEach [e2] X.env := by rfl) (hpl : (backTo pos (starEach [e2] X.env)).any (·.1) = false := by rfl) :
    PI X (.Tuple elts kk tpos) (.Call (.Name "zip" p) [e, e2] [] pos) (liftI X.K B (dIZip te)) := by
  refine PIi (pi_Z hg hm ha hs hpl) fun σ H R h => ?_
  obtain ⟨N, ρ, Γ, Qd, rel, q, f⟩ := h
  refine ⟨N, ρ, Γ, _, rel, q, fun vs H1 ds Γ1 x1 g1 r1 q1 => ?_⟩
  split at q1
  · rename_i d d'
    split at q1
    · rename_i xs ys e1 e2
      obtain ⟨v, w, rfl, rv, rw_⟩ := r1.inv2
      obtain ⟨κ, a, rfl, vs0, h0, at_⟩ := src_at g1 rv e1
      obtain ⟨κ', b, rfl, ws0, k0, bt_⟩ := src_at g1 rw_ e2
      have so : ∀ Γ, srcOk ((srcOf d xs).or (srcOf d' ys)) Γ → srcOk (srcOf d xs) Γ ∧ srcOk (srcOf d' ys) Γ := by
        intro Γ s
        rcases q1.1 with z | z
        · rw [z] at s ⊢
          exact ⟨trivial, s⟩
        · rw [z] at s ⊢
          cases q : srcOf d xs with
          | none => exact ⟨trivial, trivial⟩
          | some p => rw [q] at s; exact ⟨s, trivial⟩
      have sn : srcOk ((srcOf d xs).or (srcOf d' ys)) Γ1 := by
        cases q : srcOf d xs with
        | none => exact srcOk_now rw_ e2
        | some p => rw [← q]; have := srcOk_now rv e1; rw [q] at this ⊢; exact this
      refine ⟨κ, κ', a, b, vs0, ws0, rfl, h0, k0, f _ _ _ _ _ x1 g1 ?_ sn q1.2⟩
      have zl : (zipD xs ys).length = min xs.length ys.length := by unfold zipD; simp
      refine ⟨fun N' i Γ' H' hN x g s hi => ?_, fun N' Γ' H' hN x g s => ?_, fun N' i Γ' H' y H2 d hN x g s hd hy => ?_⟩
      · obtain ⟨us, hq, hl, _⟩ := at_ Γ' H' x ⟨N', g⟩ (so _ s).1
        obtain ⟨us', hq', hl', _⟩ := bt_ Γ' H' x ⟨N', g⟩ (so _ s).2
        exact (walk_zipK (xs := us) (ys := us') rfl).goes i H' (by rw [hl, hl', ← zl]; exact hi) ⟨hq, hq'⟩
      · obtain ⟨us, hq, hl, _⟩ := at_ Γ' H' x ⟨N', g⟩ (so _ s).1
        obtain ⟨us', hq', hl', _⟩ := bt_ Γ' H' x ⟨N', g⟩ (so _ s).2
        rw [zl, ← hl, ← hl']
        exact (walk_zipK (xs := us) (ys := us') rfl).stops H' ⟨hq, hq'⟩
      · obtain ⟨us, hq, hl, hr⟩ := at_ Γ' H' x ⟨N', g⟩ (so _ s).1
        obtain ⟨us', hq', hl', hr'⟩ := bt_ Γ' H' x ⟨N', g⟩ (so _ s).2
        have hi : i < min us.length us'.length := by rw [hl, hl', ← zl]; exact (List.getElem?_eq_some_iff.mp hd).1
        obtain ⟨T, z, w, o, rfl, nT, od, rfl, ez, ew⟩ := (walk_zipK (xs := us) (ys := us') rfl).yields i H' y H2 hi ⟨hq, hq'⟩ hy
        obtain ⟨x', y', ex, ey, rfl⟩ := zipD_get _ _ _ _ hd
        obtain ⟨v1, f1, p1⟩ := (hr N' hN g).get ex
        obtain ⟨v2, f2, p2⟩ := (hr' N' hN g).get ey
        have e1 := Option.some.inj (ez.symm.trans f1)
        have e2 := Option.some.inj (ew.symm.trans f2)
        subst e1 e2
        exact ⟨Ext.laid nT, g.laid nT, .tup (.inl ⟨o, upd_same, od⟩) (.cons (p1.ext (Ext.laid nT)) (.one (p2.ext (Ext.laid nT))))⟩
    · exact q1.elim
  · exact q1.elim
/-- range(n), range(a, b) -/
theorem range_it {K : PySem.W.Frag} {N : Addr → Prop} {Γ1 : Gs} {H1 : Hp} (lo : Int) (n : Nat) : ItD K N (Itr lo n) (rangeD lo n) none Γ1 H1 := by
  have zl : (rangeD lo n).length = n := by unfold rangeD; simp
  refine ⟨fun N' i Γ' H' hN x g s hi => by rw [zl] at hi; exact hi, fun N' Γ' H' hN x g s => by rw [zl]; exact Nat.le_refl _, fun N' i Γ' H' y H2 d hN x g s hd hy => ?_⟩
  obtain ⟨rfl, rfl⟩ := hy
  have hi := (List.getElem?_eq_some_iff.mp hd).1
  rw [zl] at hi
  have e : (rangeD lo n)[i]? = some (.int (lo + (i : Int))) := by
    unfold rangeD
    rw [List.getElem?_map, List.getElem?_range hi]; rfl
  rw [e] at hd; cases hd
  exact ⟨Ext.refl _ _, g, .int _⟩
def dIRange1 (te : DA) : DI := fun ρ Γ Q => te ρ Γ fun ds Γ1 => match ds with
  | [.int n] => (-(2 ^ 62) ≤ n ∧ n < 2 ^ 62) ∧ Q (rangeD 0 n.toNat) none Γ1
  | _ => False
theorem yi_range1 {e : Expr} {te : DA} {p : Pos} (hg : Gl X "range") (hm : X.mg "range" = none) (ha : PA X [e] (liftA X.K B te)) (hs : starEach [e] X.env = [(false, eval e X.env)] := by rfl) : PI X tg (.Call (.Name "range" p) [e] [] pos) (liftI X.K B (dIRange1 te)) := by
  refine PIi (pi_range1 hg hm ha hs) fun σ H R h => ?_
  obtain ⟨N, ρ, Γ, Qd, rel, q, f⟩ := h
  refine ⟨N, ρ, Γ, _, rel, q, fun vs H1 ds Γ1 x1 g1 r1 q1 => ?_⟩
  split at q1
  · obtain ⟨v, rfl, rv⟩ := r1.inv1
    cases rv
    exact ⟨_, rfl, q1.1.1, q1.1.2, f _ _ _ _ _ x1 g1 (range_it 0 _) trivial q1.2⟩
  · exact q1.elim
def dIRange2 (te : DA) : DI := fun ρ Γ Q => te ρ Γ fun ds Γ1 => match ds with
  | [.int a, .int b] => (-(2 ^ 62) ≤ a ∧ a < 2 ^ 62 ∧ -(2 ^ 62) ≤ b ∧ b < 2 ^ 62) ∧ Q (rangeD a (b - a).toNat) none Γ1
  | _ => False
theorem yi_range2 {e e2 : Expr} {te : DA} {p : Pos} (hg : Gl X "range") (hm : X.mg "range" = none) (ha : PA X [e, e2] (liftA X.K B te)) (hs : starEach [e, e2] X.env = [(false, eval e X.env), (false, eval e2 X.env)] := by rfl) (hs2 : starEach [e2] X.env = [(false, eval e2 X.env)] := by rfl) : PI X tg (.Call (.Name "range" p) [e, e2] [] pos) (liftI X.K B (dIRange2 te)) := by
  refine PIi (pi_range2 hg hm ha hs hs2) fun σ H R h => ?_
  obtain ⟨N, ρ, Γ, Qd, rel, q, f⟩ := h
  refine ⟨N, ρ, Γ, _, rel, q, fun vs H1 ds Γ1 x1 g1 r1 q1 => ?_⟩
  split at q1
  · obtain ⟨v, w, rfl, rv, rw_⟩ := r1.inv2
    cases rv
    cases rw_
    exact ⟨_, _, rfl, q1.1, f _ _ _ _ _ x1 g1 (range_it _ _) trivial q1.2⟩
  · exact q1.elim

/-! ### for -/
def forRun (s : Src) (g : DG) (b : DS) (D : DEnds) : List Y.D → Ds → Gs → Prop
  | [], ρ, Γ => D.nx ρ Γ
  | x :: xs, ρ, Γ => g x ρ Γ fun ρ1 Γ1 => b { D with nx := fun ρ2 Γ2 => withS s Γ2 (forRun s g b D xs ρ2 Γ2), ct := fun ρ2 Γ2 => withS s Γ2 (forRun s g b D xs ρ2 Γ2), bk := D.nx } ρ1 Γ1
def dFor (di : DI) (g : DG) (b : DS) : DS := fun D ρ Γ => di ρ Γ fun items s Γ1 => forRun s g b D items ρ Γ1
theorem ys_for {iter : Expr} {body : List Stmt} {di : DI} {vs : List Nat} {g : DG} {tb : DS} (hp : PassesOwn (model X.prog X.w) X.A X.env X.xe) (hc : X.calm = true) (hi : PI X tg iter (liftI X.K B di)) (hg : PG X tg (liftG X.K B vs g)) (hb : PSs X body (liftS X.K B tb))
    (hs : ∀ x, foldedSetIterable iter X.env x = pure x := by intro _; rfl) : PS X (.For tg iter body [] pos) (liftS X.K B (dFor di g tb)) := by
  refine PSi (ps_for hp hc hi hg hb hs) fun D σ H h => ?_
  obtain ⟨N, ρ, Γ, Dd, rel, q, f1, f2, f3, f4⟩ := h
  refine ⟨N, ρ, Γ, _, rel, q, fun J H1 items s Γ1 x1 g1 it so q1 => ?_⟩
  refine ⟨fun i m σ' H' => ∃ ρ' Γ', m = items.length - i ∧ i ≤ items.length ∧ Ext Γ1 H1 Γ' H' ∧ Rel X.K B N ρ' Γ' σ' H' ∧ srcOk s Γ' ∧ forRun s g tb Dd (items.drop i) ρ' Γ',
    ⟨items.length, ρ, Γ1, rfl, Nat.zero_le _, Ext.refl _ _, rel.ext x1 g1, so, q1⟩, ?_⟩
  rintro i m σ2 H2 ⟨ρ2, Γ2, rfl, hi, x2, rel2, so2, q2⟩
  by_cases hlt : i < items.length
  · refine .inr ⟨it.go N i Γ2 H2 (fun _ z => z) x2 rel2.gs so2 hlt, fun σ' H' => ∃ ρ' Γ', Ext Γ1 H1 Γ' H' ∧ Rel X.K B N ρ' Γ' σ' H' ∧ withS s Γ' (forRun s g tb Dd (items.drop (i + 1)) ρ' Γ'), ?_, ?_⟩
    · rintro σ' H' ⟨ρ', Γ', x', rel', w'⟩
      obtain ⟨so', q'⟩ := w'.of
      exact ⟨items.length - (i + 1), by omega, ρ', Γ', rfl, hlt, x', rel', so', q'⟩
    · intro v H3 hy
      have hd : items[i]? = some items[i] := List.getElem?_eq_getElem hlt
      obtain ⟨x3, g3, r3⟩ := it.yld N i Γ2 H2 v H3 items[i] (fun _ z => .inl z) x2 rel2.gs so2 hd hy
      rw [List.drop_eq_getElem_cons hlt] at q2
      refine ⟨N, ρ2, Γ2, items[i], _, rel2.ext x3 g3, r3, q2, fun σ4 ρ4 H4 Γ4 x4 rel4 _ q4 => ?_⟩
      have xx := (x2.trans x3).trans x4
      refine ⟨N, ρ4, Γ4, _, rel4, q4, ?_, f2.mv (x1.trans xx), f1.mv (x1.trans xx), ?_⟩
      · exact fun σ' H' ρ' Γ' x' rel' w' => ⟨ρ', Γ', xx.trans x', rel', w'⟩
      · exact fun σ' H' ρ' Γ' x' rel' w' => ⟨ρ', Γ', xx.trans x', rel', w'⟩
  · have e : i = items.length := by omega
    subst e
    rw [List.drop_length] at q2
    exact .inl ⟨it.stop N Γ2 H2 (fun _ z => z) x2 rel2.gs so2, f1 _ _ _ _ (x1.trans x2) rel2 q2⟩

/-! ### comprehensions -/
def lcRun (s : Src) (g : DG) (tt : DT) (te : DE) (ρ : Ds) (Q : List Y.D → Gs → Prop) : List Y.D → List Y.D → Gs → Prop
  | [], acc, Γ => Q acc Γ
  | x :: xs, acc, Γ => g x ρ Γ fun ρ1 Γ1 => tt ρ1 Γ1 fun b Γ2 => if b = true then te ρ1 Γ2 fun y Γ3 => withS s Γ3 (lcRun s g tt te ρ Q xs (acc ++ [y]) Γ3) else withS s Γ2 (lcRun s g tt te ρ Q xs acc Γ2)
/-- a list that will not be changed; one that is owned -/
def dLc (di : DI) (g : DG) (tt : DT) (te : DE) (vs : List Nat) : DE := fun ρ Γ Q => di ρ Γ fun items s Γ1 => items.length ≤ sizeLine ∧ lcRun s g tt te (wipeD ρ vs) (fun acc Γ2 => Q (.lst acc) Γ2) items [] Γ1
def dLcO (di : DI) (g : DG) (tt : DT) (te : DE) (vs : List Nat) : DE := fun ρ Γ Q => di ρ Γ fun items s Γ1 => items.length ≤ sizeLine ∧ lcRun s g tt te (wipeD ρ vs) (fun acc Γ2 => ∀ p, Γ2 p = none → Q (.ptr p) (gup Γ2 p (.lst acc))) items [] Γ1
theorem wipe_same {σ σ' : L2.St} {vs ws : List Nat} (h : Same' ws (L2.wipe σ vs) σ') (hw : ∀ i, i ∈ ws → i ∈ vs) : L2.wipe σ' vs = L2.wipe σ vs := by
  have wl : ∀ (τ : L2.St) (us : List Nat) (i : Nat), i ∈ us → i < τ.length → (L2.wipe τ us)[i]? = some none := by
    intro τ us
    induction us with
    | nil => intro i h; cases h
    | cons u us ih =>
      intro i hm hl
      unfold L2.wipe
      by_cases e : u = i
      · subst e
        exact List.getElem?_set_self (by rw [wipe_length]; exact hl)
      · rw [List.getElem?_set_ne e]
        exact ih i (by rcases List.mem_cons.mp hm with z | z; exact absurd z.symm e; exact z) hl
  have hlen : σ'.length = σ.length := h.1.trans (wipe_length σ vs)
  refine List.ext_getElem? fun i => ?_
  by_cases hm : i ∈ vs
  · by_cases hl : i < σ.length
    · rw [wl σ' vs i hm (by rw [hlen]; exact hl), wl σ vs i hm hl]
    · rw [List.getElem?_eq_none (by rw [wipe_length, hlen]; omega), List.getElem?_eq_none (by rw [wipe_length]; omega)]
  · rw [wipe_get_out hm, h.2 i (fun z => hm (hw i z))]
end
/-! what is hidden changes: nobody sees it -/
mutual
theorem Rp.over {K : PySem.W.Frag} {N : Addr → Prop} {Γ : Gs} {H H' : Hp} {L : Addr} (hN : N L) (hL : ∀ o, H L = some o → ¬ Imm o) (hk : ∀ b o, b ≠ L → H b = some o → H' b = some o) : ∀ {d : D} {v : V}, Rp K N Γ H d v → Rp K N Γ H' d v
  | _, _, .non => .non
  | _, _, .bl b => .bl b
  | _, _, .int i => .int i
  | _, _, .str z => .str z
  | _, _, .raw v => .raw v
  | _, _, .tup (vs := vs) h hs => by
    refine .tup ?_ (RpL.over hN hL hk hs)
    rcases h with ⟨o, h, od⟩ | h
    · exact .inl ⟨o, hk _ _ (fun e => hL (.frz o (.tup vs)) (e ▸ h) (show Imm (.frz o (.tup vs)) from trivial)) h, od⟩
    · exact .inr h
  | _, _, .lst n g h hs => .lst n g (hk _ _ (fun e => n (e ▸ hN)) h) (RpL.over hN hL hk hs)
  | _, _, .scr (vs := vs) h hs => by
    refine .scr ?_ (RpL.over hN hL hk hs)
    rcases h with ⟨o, h⟩ | h
    · exact .inl ⟨o, hk _ _ (fun e => hL (.frz o (.lst vs)) (e ▸ h) (show Imm (.frz o (.lst vs)) from trivial)) h⟩
    · exact .inr h
theorem RpL.over {K : PySem.W.Frag} {N : Addr → Prop} {Γ : Gs} {H H' : Hp} {L : Addr} (hN : N L) (hL : ∀ o, H L = some o → ¬ Imm o) (hk : ∀ b o, b ≠ L → H b = some o → H' b = some o) : ∀ {ds : List D} {vs : List V}, RpL K N Γ H ds vs → RpL K N Γ H' ds vs
  | _, _, .nil => .nil
  | _, _, .cons h t => .cons (Rp.over hN hL hk h) (RpL.over hN hL hk t)
end
/-! what was hidden is seen again -/
mutual
theorem Rp.show {K : PySem.W.Frag} {N : Addr → Prop} {Γ Γ' : Gs} {H : Hp} {L : Addr} (hk : ∀ b, b ≠ L → Γ b = none → Γ' b = none) : ∀ {d : D} {v : V}, Rp K (fun a => a = L ∨ N a) Γ H d v → Rp K N Γ' H d v
  | _, _, .non => .non
  | _, _, .bl b => .bl b
  | _, _, .int i => .int i
  | _, _, .str z => .str z
  | _, _, .raw v => .raw v
  | _, _, .tup h hs => .tup h (RpL.show hk hs)
  | _, _, .lst n g h hs => .lst (fun z => n (.inr z)) (hk _ (fun z => n (.inl z)) g) h (RpL.show hk hs)
  | _, _, .scr h hs => .scr h (RpL.show hk hs)
theorem RpL.show {K : PySem.W.Frag} {N : Addr → Prop} {Γ Γ' : Gs} {H : Hp} {L : Addr} (hk : ∀ b, b ≠ L → Γ b = none → Γ' b = none) : ∀ {ds : List D} {vs : List V}, RpL K (fun a => a = L ∨ N a) Γ H ds vs → RpL K N Γ' H ds vs
  | _, _, .nil => .nil
  | _, _, .cons h t => .cons (Rp.show hk h) (RpL.show hk t)
end
section
variable {K : PySem.W.Frag} {N : Addr → Prop} {Γ Γ' : Gs} {H H' : Hp} {κ : Type}
theorem KvR.over {L : Addr} (hN : N L) (hL : ∀ o, H L = some o → ¬ Imm o) (hk : ∀ b o, b ≠ L → H b = some o → H' b = some o) : ∀ {ds : List (κ × D)} {vs : List (κ × V)}, KvR K N Γ H ds vs → KvR K N Γ H' ds vs
  | _, _, .nil => .nil
  | _, _, .cons h t => .cons (h.over hN hL hk) (t.over hN hL hk)
theorem KvR.show {L : Addr} (hk : ∀ b, b ≠ L → Γ b = none → Γ' b = none) : ∀ {ds : List (κ × D)} {vs : List (κ × V)}, KvR K (fun a => a = L ∨ N a) Γ H ds vs → KvR K N Γ' H ds vs
  | _, _, .nil => .nil
  | _, _, .cons h t => .cons (h.show hk) (t.show hk)
theorem KvR.hide {N' : Addr → Prop} (hN : ∀ a, N' a → N a ∨ H a = none) : ∀ {ds : List (κ × D)} {vs : List (κ × V)}, KvR K N Γ H ds vs → KvR K N' Γ H ds vs
  | _, _, .nil => .nil
  | _, _, .cons h t => .cons (h.hide hN) (t.hide hN)
theorem GOk.over {L a : Addr} {g : G} (ha : a ≠ L) (hN : N L) (hL : ∀ o, H L = some o → ¬ Imm o) (hk : ∀ b o, b ≠ L → H b = some o → H' b = some o) (h : GOk K N Γ H a g) : GOk K N Γ H' a g := by
  cases g with
  | lst ds => obtain ⟨vs, e, r⟩ := h; exact ⟨vs, hk _ _ ha e, r.over hN hL hk⟩
  | dic ds => obtain ⟨vs, e, r⟩ := h; exact ⟨vs, hk _ _ ha e, r.over hN hL hk⟩
  | ins C dx ns ds => obtain ⟨vs, e, r⟩ := h; exact ⟨vs, hk _ _ ha e, r.over hN hL hk⟩
theorem GOk.show {L a : Addr} {g : G} (hk : ∀ b, b ≠ L → Γ b = none → Γ' b = none) (h : GOk K (fun a => a = L ∨ N a) Γ H a g) : GOk K N Γ' H a g := by
  cases g with
  | lst ds => obtain ⟨vs, e, r⟩ := h; exact ⟨vs, e, r.show hk⟩
  | dic ds => obtain ⟨vs, e, r⟩ := h; exact ⟨vs, e, r.show hk⟩
  | ins C dx ns ds => obtain ⟨vs, e, r⟩ := h; exact ⟨vs, e, r.show hk⟩
theorem GOk.hide {N' : Addr → Prop} {a : Addr} {g : G} (hN : ∀ a, N' a → N a ∨ H a = none) (h : GOk K N Γ H a g) : GOk K N' Γ H a g := by
  cases g with
  | lst ds => obtain ⟨vs, e, r⟩ := h; exact ⟨vs, e, r.hide hN⟩
  | dic ds => obtain ⟨vs, e, r⟩ := h; exact ⟨vs, e, r.hide hN⟩
  | ins C dx ns ds => obtain ⟨vs, e, r⟩ := h; exact ⟨vs, e, r.hide hN⟩
theorem GsOk.show {L : Addr} (ok : GsOk K (fun a => a = L ∨ N a) Γ H) (hk : ∀ b, b ≠ L → Γ b = none → Γ' b = none) (hs : ∀ a g, Γ' a = some g → Γ a = some g ∨ GOk K N Γ' H a g) (hn : ¬ N L) : GsOk K N Γ' H :=
  ⟨fun a g e => (hs a g e).elim (fun z => (ok.ok a g z).show hk) id, fun a n => by
    obtain ⟨z, q⟩ := ok.hid a (.inr n)
    exact ⟨z, hk a (fun e => hn (e ▸ n)) q⟩⟩
end
section
variable {X : Cx} {B : Bd} {pos : Pos} {tg : Expr}
/-- the reading of a comprehension, told by what its loop owes -/
theorem lc_lift {di : DI} {g : DG} {tt : DT} {te : DE} {vs ws : List Nat} {K : PySem.W.Frag} (hw : ∀ i, i ∈ ws → i ∈ vs) {N : Addr → Prop} {ρ : Ds} {Γ : Gs} {σ : L2.St} {H : Hp} {Q : VK} {Qd : List Y.D → Gs → Prop}
    (rel : Rel K B N ρ Γ σ H) (q : di ρ Γ fun items s Γ1 => items.length ≤ sizeLine ∧ lcRun s g tt te (wipeD ρ vs) Qd items [] Γ1)
    (f : ∀ L Γ1 H1 H' acc us Γ', Ext Γ H Γ1 H1 → H1 L = none → ¬ N L → Ext Γ1 H1 Γ' H' → GsOk K (fun a => a = L ∨ N a) Γ' H' → H' L = some (.lst us) → RpL K (fun a => a = L ∨ N a) Γ' H' acc us → Qd acc Γ' → Q (.ref L) H') :
    tLc (liftI K B di) (liftG K B ws g) (liftT K B tt) (liftE K B te) vs σ H Q := by
  refine ⟨N, ρ, Γ, _, rel, q, fun J H1 items s Γ1 x1 g1 it so q1 => fun L nL => ?_⟩
  obtain ⟨hz, q1⟩ := q1
  have nN : ¬ N L := fun z => by obtain ⟨⟨o, e, _⟩, _⟩ := g1.hid L z; rw [nL] at e; cases e
  have nΓ : Γ1 L = none := g1.none_of nL
  have hN' : ∀ a, (a = L ∨ N a) → N a ∨ H1 a = none := fun a h => h.elim (fun e => .inr (by rw [e]; exact nL)) .inl
  have xL : ∀ us, Ext Γ1 H1 Γ1 (upd H1 L (.lst us)) := fun us => Ext.laid nL
  have g0 : GsOk K (fun a => a = L ∨ N a) Γ1 (upd H1 L (.lst [])) := ⟨fun a gg e => (((g1.ok a gg e).hide hN').mv (xL []) (upd_ne (fun z => by rw [z, nΓ] at e; cases e))), fun a n => by
    by_cases e : a = L
    · subst e
      exact ⟨⟨_, upd_same, fun z => z⟩, nΓ⟩
    · obtain ⟨⟨o, eo, im⟩, qq⟩ := g1.hid a (n.elim (fun z => absurd z e) id)
      exact ⟨⟨o, by rw [upd_ne e]; exact eo, im⟩, qq⟩⟩
  have rel1 := (rel.ext x1 g1).wipe vs
  have relOf : ∀ Γ' H', Ext Γ1 H1 Γ' H' → GsOk K (fun a => a = L ∨ N a) Γ' H' → Rel K B (fun a => a = L ∨ N a) (wipeD ρ vs) Γ' (L2.wipe σ vs) H' := fun Γ' H' x gg =>
    ⟨rel1.len, fun i d e => let ⟨v, h1, h2⟩ := rel1.env i d e; ⟨v, h1, (h2.hide hN').ext x⟩, gg, B.ext rel1.his x⟩
  refine ⟨fun i m H' => ∃ Γ' acc us, m = items.length - i ∧ i ≤ items.length ∧ acc.length ≤ i ∧ Ext Γ1 H1 Γ' H' ∧ GsOk K (fun a => a = L ∨ N a) Γ' H' ∧ H' L = some (.lst us) ∧ RpL K (fun a => a = L ∨ N a) Γ' H' acc us ∧ srcOk s Γ' ∧ lcRun s g tt te (wipeD ρ vs) Qd (items.drop i) acc Γ',
    ⟨items.length, Γ1, [], [], rfl, Nat.zero_le _, Nat.le_refl _, xL [], g0, upd_same, .nil, so, q1⟩, ?_⟩
  rintro i m H2 ⟨Γ2, acc, us, rfl, hi, ha, x2, g2, hL, racc, so2, q2⟩
  by_cases hlt : i < items.length
  · refine .inr ⟨it.go _ i Γ2 H2 (fun _ z => .inr z) x2 g2 so2 hlt, fun H' => ∃ m', m' < items.length - i ∧ ∃ Γ' acc us, m' = items.length - (i + 1) ∧ i + 1 ≤ items.length ∧ acc.length ≤ i + 1 ∧ Ext Γ1 H1 Γ' H' ∧ GsOk K (fun a => a = L ∨ N a) Γ' H' ∧ H' L = some (.lst us) ∧ RpL K (fun a => a = L ∨ N a) Γ' H' acc us ∧ srcOk s Γ' ∧ lcRun s g tt te (wipeD ρ vs) Qd (items.drop (i + 1)) acc Γ', fun H' z => z, ?_⟩
    intro v H3 hy
    have hd : items[i]? = some items[i] := List.getElem?_eq_getElem hlt
    obtain ⟨x3, g3, r3⟩ := it.yld _ i Γ2 H2 v H3 items[i] hN' x2 g2 so2 hd hy
    rw [List.drop_eq_getElem_cons hlt] at q2
    refine ⟨_, _, Γ2, items[i], _, relOf Γ2 H3 (x2.trans x3) g3, r3, q2, fun σ4 ρ4 H4 Γ4 x4 rel4 sm q4 => ⟨wipe_same sm hw, ?_⟩⟩
    refine ⟨_, ρ4, Γ4, _, rel4, q4, fun b H5 Γ5 x5 g5 q5 => ?_⟩
    have lt' : items.length - (i + 1) < items.length - i := by omega
    -- the list stands as it was
    have keepL : ∀ {Γ' H'}, Ext Γ2 H2 Γ' H' → H' L = some (.lst us) := fun x => x.keep L _ hL (.inl (g2.hid L (.inl rfl)).2)
    cases b with
    | false =>
      refine iteF ?_
      obtain ⟨so5, q6⟩ := (show withS s Γ5 _ by simpa using q5).of
      have xx := (x3.trans x4).trans x5
      exact ⟨_, lt', Γ5, acc, us, rfl, hlt, by omega, x2.trans xx, g5, keepL xx, racc.ext xx, so5, q6⟩
    | true =>
      refine iteT ⟨_, ρ4, Γ5, _, rel4.ext x5 g5, by simpa using q5, fun y H6 dy Γ6 x6 g6 ry q6 => ?_⟩
      obtain ⟨so6, q7⟩ := withS.of q6
      have xx := ((x3.trans x4).trans x5).trans x6
      have hL6 := keepL xx
      have n6 : Γ6 L = none := (g6.hid L (.inl rfl)).2
      have hNL : (fun a => a = L ∨ N a) L := .inl rfl
      have im : ∀ o, H6 L = some o → ¬ Imm o := fun o e => by rw [hL6] at e; cases e; exact fun z => z
      have kp : ∀ b o, b ≠ L → H6 b = some o → (upd H6 L (.lst (us ++ [y]))) b = some o := fun b o hb e => by rw [upd_ne hb]; exact e
      refine ⟨us, hL6, ?_, items.length - (i + 1), lt', Γ6, acc ++ [dy], us ++ [y], rfl, hlt, by rw [List.length_append, List.length_singleton]; omega, ?_, ?_, upd_same, ((racc.ext xx).over hNL im kp).append (.one (ry.over hNL im kp)), so6, q7⟩
      · rw [racc.length]; omega
      · have xa := x2.trans xx
        exact ⟨fun b o e h => by rw [upd_ne (ne_of_none e nL)]; exact xa.keep b o e h, xa.new⟩
      · refine ⟨fun a gg e => (g6.ok a gg e).over (fun z => by rw [z, n6] at e; cases e) hNL im kp, fun a n => ?_⟩
        by_cases e : a = L
        · subst e; exact ⟨⟨_, upd_same, fun z => z⟩, n6⟩
        · obtain ⟨⟨o, eo, imo⟩, qq⟩ := g6.hid a n
          exact ⟨⟨o, by rw [upd_ne e]; exact eo, imo⟩, qq⟩
  · have e : i = items.length := by omega
    subst e
    rw [List.drop_length] at q2
    exact .inl ⟨it.stop _ Γ2 H2 (fun _ z => .inr z) x2 g2 so2, f L Γ1 H1 H2 acc us Γ2 x1 nL nN x2 g2 hL racc q2⟩
theorem lc_frozen {di : DI} {g : DG} {tt : DT} {te : DE} {vs ws : List Nat} {K : PySem.W.Frag} (hw : ∀ i, i ∈ ws → i ∈ vs) (σ : L2.St) (H : Hp) (Q : VK) (h : liftE K B (dLc di g tt te vs) σ H Q) : tLc (liftI K B di) (liftG K B ws g) (liftT K B tt) (liftE K B te) vs σ H Q := by
  obtain ⟨N, ρ, Γ, Qd, rel, q, f⟩ := h
  refine lc_lift hw rel q fun L Γ1 H1 H' acc us Γ' x1 nL nN x g hL r qd => ?_
  have nΓ : Γ' L = none := (g.hid L (.inl rfl)).2
  exact f _ _ _ _ (x1.trans x) (g.show (fun _ _ z => z) (fun _ _ z => .inl z) nN) (.lst nN nΓ hL (r.show fun _ _ z => z)) qd
theorem lc_owned {di : DI} {g : DG} {tt : DT} {te : DE} {vs ws : List Nat} {K : PySem.W.Frag} (hw : ∀ i, i ∈ ws → i ∈ vs) (σ : L2.St) (H : Hp) (Q : VK) (h : liftE K B (dLcO di g tt te vs) σ H Q) : tLc (liftI K B di) (liftG K B ws g) (liftT K B tt) (liftE K B te) vs σ H Q := by
  obtain ⟨N, ρ, Γ, Qd, rel, q, f⟩ := h
  refine lc_lift hw rel q fun L Γ1 H1 H' acc us Γ' x1 nL nN x g hL r qd => ?_
  have nΓ : Γ' L = none := (g.hid L (.inl rfl)).2
  have sh : ∀ b, b ≠ L → Γ' b = none → gup Γ' L (.lst acc) b = none := fun b hb z => by rw [gup_ne hb]; exact z
  have x' : Ext Γ1 H1 (gup Γ' L (.lst acc)) H' := ⟨x.keep, fun a n => by
    by_cases e : a = L
    · subst e; exact .inr nL
    · rw [gup_ne e] at n; exact x.new a n⟩
  refine f _ _ _ _ (x1.trans x') (g.show sh (fun a gg e => ?_) nN) (.raw _) (qd L nΓ)
  by_cases h : a = L
  · subst h
    rw [gup_same] at e; cases e
    exact .inr ⟨us, hL, r.show sh⟩
  · rw [gup_ne h] at e; exact .inl e
/-- tests of a comprehension -/
theorem yts_nil : PTs X [] (liftT X.K B (fun _ Γ Q => Q true Γ)) := ⟨fun pins s σ H Q I h => by
  obtain ⟨N, ρ, Γ, Qd, rel, q, f⟩ := h
  exact wpAny_tests_nil ⟨H, I, f.now rel.gs q⟩⟩
def dYes : DT := fun _ Γ Q => Q true Γ
theorem yts_one {c : Expr} {t : DT} (h : PT X c (liftT X.K B t)) : PTs X [c] (liftT X.K B t) := pts_one h
end
end Y
set_option Elab.async false
set_option linter.all false
set_option maxRecDepth 100000
set_option maxHeartbeats 4000000
/-! the data layer's rules: list comprehensions, calls of defs, classes, methods of lists -/
namespace Y
open PySem PySem.Spec PyProof.Rows L2
section
variable {X : Cx} {B : Bd} {pos : Pos}
theorem ye_lc {elt tg iter : Expr} {ifs : List Expr} {scope : Scope} {own : List (Str × Nat)} {ws : List Nat} {di : DI} {g : DG} {tt : DT} {te : DE} (hc : X.calm = true) (hN : X.N.Nodup) (hi : PI X tg iter (liftI X.K B di)) (ok : BlkOk X.N X.env.scope scope own)
    (hg : ∀ (s : Shared) (H : Hp) (C : Addr) (cl : List (Str × Addr)) (fp : List Addr), PG (X.blk s H scope (compEnvC scope cl C X.env) fp) tg (liftG X.K B ws g))
    (ht : ∀ (s : Shared) (H : Hp) (C : Addr) (cl : List (Str × Addr)) (fp : List Addr), PTs (X.blk s H scope (compEnvC scope cl C X.env) fp) ifs (liftT X.K B tt))
    (he : ∀ (s : Shared) (H : Hp) (C : Addr) (cl : List (Str × Addr)) (fp : List Addr), PE (X.blk s H scope (compEnvC scope cl C X.env) fp) elt (liftE X.K B te))
    (hw : ∀ i, i ∈ ws → i ∈ own.map (·.2) := by decide) (hs : ∀ x, foldedSetIterable iter X.env x = pure x := by intro _; rfl) :
    PE X (.ListComp elt [⟨tg, iter, ifs, 0⟩] scope pos) (liftE X.K B (dLc di g tt te (own.map (·.2)))) := PEi (pe_lc hc hN hi ok hg ht he hs) (lc_frozen hw)
theorem ye_lcO {elt tg iter : Expr} {ifs : List Expr} {scope : Scope} {own : List (Str × Nat)} {ws : List Nat} {di : DI} {g : DG} {tt : DT} {te : DE} (hc : X.calm = true) (hN : X.N.Nodup) (hi : PI X tg iter (liftI X.K B di)) (ok : BlkOk X.N X.env.scope scope own)
    (hg : ∀ (s : Shared) (H : Hp) (C : Addr) (cl : List (Str × Addr)) (fp : List Addr), PG (X.blk s H scope (compEnvC scope cl C X.env) fp) tg (liftG X.K B ws g))
    (ht : ∀ (s : Shared) (H : Hp) (C : Addr) (cl : List (Str × Addr)) (fp : List Addr), PTs (X.blk s H scope (compEnvC scope cl C X.env) fp) ifs (liftT X.K B tt))
    (he : ∀ (s : Shared) (H : Hp) (C : Addr) (cl : List (Str × Addr)) (fp : List Addr), PE (X.blk s H scope (compEnvC scope cl C X.env) fp) elt (liftE X.K B te))
    (hw : ∀ i, i ∈ ws → i ∈ own.map (·.2) := by decide) (hs : ∀ x, foldedSetIterable iter X.env x = pure x := by intro _; rfl) :
    PE X (.ListComp elt [⟨tg, iter, ifs, 0⟩] scope pos) (liftE X.K B (dLcO di g tt te (own.map (·.2)))) := PEi (pe_lc hc hN hi ok hg ht he hs) (lc_owned hw)
/-- name = [..] on one line, the name a local -/
theorem ys_setLc {i : Nat} {y : Str} {py spos : Pos} {elt tg iter : Expr} {ifs : List Expr} {scope : Scope} {own : List (Str × Nat)} {ws : List Nat} {di : DI} {g : DG} {tt : DT} {te : DE} (hc : X.calm = true) (hN : X.N.Nodup) (hi : PI X tg iter (liftI X.K B di)) (ok : BlkOk X.N X.env.scope scope own)
    (hg : ∀ (s : Shared) (H : Hp) (C : Addr) (cl : List (Str × Addr)) (fp : List Addr), PG (X.blk s H scope (compEnvC scope cl C X.env) fp) tg (liftG X.K B ws g))
    (ht : ∀ (s : Shared) (H : Hp) (C : Addr) (cl : List (Str × Addr)) (fp : List Addr), PTs (X.blk s H scope (compEnvC scope cl C X.env) fp) ifs (liftT X.K B tt))
    (he : ∀ (s : Shared) (H : Hp) (C : Addr) (cl : List (Str × Addr)) (fp : List Addr), PE (X.blk s H scope (compEnvC scope cl C X.env) fp) elt (liftE X.K B te))
    (hy : X.N[i]? = some y := by rfl) (hyl : X.env.scope.names.lookup y = some .local := by rfl)
    (hsw : swapsWith (.ListComp elt [⟨tg, iter, ifs, 0⟩] scope pos) (some (.Name y py)) spos.line X.env = pure true := by exact sw_true rfl rfl rfl (by decide +kernel))
    (hw : ∀ i, i ∈ ws → i ∈ own.map (·.2) := by decide) (hs : ∀ x, foldedSetIterable iter X.env x = pure x := by intro _; rfl) :
    PS X (.Assign [.Name y py] (.ListComp elt [⟨tg, iter, ifs, 0⟩] scope pos) spos) (liftS X.K B (dSet i (dLc di g tt te (own.map (·.2))))) := by
  refine PSi (L2.ps_setLc hc hN hy hyl hsw hi ok hg ht he hs) fun D σ H h => ?_
  obtain ⟨N, ρ, Γ, Dd, rel, q, f1, f2, f3, f4⟩ := h
  exact lc_frozen hw σ H _ ⟨N, ρ, Γ, _, rel, q, fun v H1 d1 Γ1 x1 g1 r1 q1 => f1 _ _ _ _ x1 ((rel.ext x1 g1).set r1 i) q1⟩
theorem ys_setLcO {i : Nat} {y : Str} {py spos : Pos} {elt tg iter : Expr} {ifs : List Expr} {scope : Scope} {own : List (Str × Nat)} {ws : List Nat} {di : DI} {g : DG} {tt : DT} {te : DE} (hc : X.calm = true) (hN : X.N.Nodup) (hi : PI X tg iter (liftI X.K B di)) (ok : BlkOk X.N X.env.scope scope own)
    (hg : ∀ (s : Shared) (H : Hp) (C : Addr) (cl : List (Str × Addr)) (fp : List Addr), PG (X.blk s H scope (compEnvC scope cl C X.env) fp) tg (liftG X.K B ws g))
    (ht : ∀ (s : Shared) (H : Hp) (C : Addr) (cl : List (Str × Addr)) (fp : List Addr), PTs (X.blk s H scope (compEnvC scope cl C X.env) fp) ifs (liftT X.K B tt))
    (he : ∀ (s : Shared) (H : Hp) (C : Addr) (cl : List (Str × Addr)) (fp : List Addr), PE (X.blk s H scope (compEnvC scope cl C X.env) fp) elt (liftE X.K B te))
    (hy : X.N[i]? = some y := by rfl) (hyl : X.env.scope.names.lookup y = some .local := by rfl)
    (hsw : swapsWith (.ListComp elt [⟨tg, iter, ifs, 0⟩] scope pos) (some (.Name y py)) spos.line X.env = pure true := by exact sw_true rfl rfl rfl (by decide +kernel))
    (hw : ∀ i, i ∈ ws → i ∈ own.map (·.2) := by decide) (hs : ∀ x, foldedSetIterable iter X.env x = pure x := by intro _; rfl) :
    PS X (.Assign [.Name y py] (.ListComp elt [⟨tg, iter, ifs, 0⟩] scope pos) spos) (liftS X.K B (dSet i (dLcO di g tt te (own.map (·.2))))) := by
  refine PSi (L2.ps_setLc hc hN hy hyl hsw hi ok hg ht he hs) fun D σ H h => ?_
  obtain ⟨N, ρ, Γ, Dd, rel, q, f1, f2, f3, f4⟩ := h
  exact lc_owned hw σ H _ ⟨N, ρ, Γ, _, rel, q, fun v H1 d1 Γ1 x1 g1 r1 q1 => f1 _ _ _ _ x1 ((rel.ext x1 g1).set r1 i) q1⟩
/-! ### methods of lists -/
/-- the receiver is an owned list; then the arguments; then what is done with what it holds -/
def dLm (to : DE) (t : DA) (r : Addr → List D → List D → Gs → (D → Gs → Prop) → Prop) : DE := fun ρ Γ Q => to ρ Γ fun d Γ1 => match d with
  | .raw (.ref a) => match Γ1 a with
    | some (.lst _) => t ρ Γ1 fun es Γ2 => match Γ2 a with
      | some (.lst ds) => r a ds es Γ2 Q
      | _ => False
    | _ => False
  | _ => False
def LmD (K : PySem.W.Frag) (r : Addr → List D → List D → Gs → (D → Gs → Prop) → Prop) (r' : V → List V → Hp → VK → Prop) : Prop :=
  ∀ (N : Addr → Prop) (Γ : Gs) (H : Hp) (a : Addr) (ds es : List D) (us vs : List V) (Qd : D → Gs → Prop) (Q : VK), GsOk K N Γ H → Γ a = some (.lst ds) → H a = some (.lst us) → RpL K N Γ H ds us → RpL K N Γ H es vs → r a ds es Γ Qd → Fin K N Γ H Qd Q → r' (.ref a) vs H Q
theorem dLm_lift {K : PySem.W.Frag} {r : Addr → List D → List D → Gs → (D → Gs → Prop) → Prop} {r' : V → List V → Hp → VK → Prop} (o : LmD K r r') (to : DE) (t : DA) (σ : L2.St) (H : Hp) (Q : VK) (h : liftE K B (dLm to t r) σ H Q) : tBM K "list" r' (liftE K B to) (liftA K B t) σ H Q := by
  obtain ⟨N, ρ, Γ, Qd, rel, q, f⟩ := h
  refine ⟨N, ρ, Γ, _, rel, q, fun v H1 d1 Γ1 x1 g1 r1 q1 => ?_⟩
  split at q1
  · rename_i a
    split at q1
    · rename_i ds0 e0
      cases r1
      obtain ⟨us0, h0, t0⟩ := g1.ok a _ e0
      refine ⟨.inl ⟨rfl, us0, SqL.of h0⟩, N, ρ, Γ1, _, rel.ext x1 g1, q1, fun vs H2 es Γ2 x2 g2 r2 q2 => ?_⟩
      split at q2
      · rename_i ds e
        obtain ⟨us, h, t⟩ := g2.ok a _ e
        exact o N Γ2 H2 a ds es us vs Qd Q g2 e h t r2 q2 (f.mv (x1.trans x2))
      · exact q2.elim
    · exact q1.elim
  · exact q1.elim
theorem dLm_lift0 {K : PySem.W.Frag} {r : Addr → List D → List D → Gs → (D → Gs → Prop) → Prop} {r' : V → List V → Hp → VK → Prop} (o : LmD K r r') (to : DE) (σ : L2.St) (H : Hp) (Q : VK) (h : liftE K B (dLm to dNil r) σ H Q) : tBM0 K "list" r' (liftE K B to) σ H Q := by
  obtain ⟨N, ρ, Γ, Qd, rel, q, f⟩ := h
  refine ⟨N, ρ, Γ, _, rel, q, fun v H1 d1 Γ1 x1 g1 r1 q1 => ?_⟩
  split at q1
  · rename_i a
    split at q1
    · rename_i ds0 e0
      cases r1
      obtain ⟨us0, h0, t0⟩ := g1.ok a _ e0
      refine ⟨.inl ⟨rfl, us0, SqL.of h0⟩, ?_⟩
      have q2 : (match Γ1 a with | some (.lst ds) => r a ds [] Γ1 Qd | _ => False) := q1
      rw [e0] at q2
      exact o N Γ1 H1 a ds0 [] us0 [] Qd Q g1 e0 h0 t0 .nil q2 (f.mv x1)
    · exact q1.elim
  · exact q1.elim
theorem Fin.up {K : PySem.W.Frag} {N : Addr → Prop} {Γ : Gs} {H : Hp} {Qd : D → Gs → Prop} {Q : VK} (f : Fin K N Γ H Qd Q) (g : GsOk K N Γ H) {a : Addr} {ds es : List D} {ws : List V} {d : D} {v : V} (e : Γ a = some (.lst ds)) (r : RpL K N Γ H es ws) (rv : Rp K N Γ H d v) (q : Qd d (gup Γ a (.lst es))) : Q v (upd H a (.lst ws)) := by
  have w := Ext.write (o := .lst ws) (g' := .lst es) g e
  exact f _ _ _ _ w (g.write e ⟨_, upd_same, r.ext w⟩) (rv.ext w) q
/-- xs.append(e) -/
def rAppD (a : Addr) (ds es : List D) (Γ : Gs) (Q : D → Gs → Prop) : Prop := match es with
  | [e] => ds.length < sizeLine ∧ Q .non (gup Γ a (.lst (ds ++ [e])))
  | _ => False
theorem lm_append {K : PySem.W.Frag} : LmD K rAppD rAppend := by
  intro N Γ H a ds es us vs Qd Q g e h t r2 q f
  unfold rAppD at q
  split at q
  · obtain ⟨v, rfl, rv⟩ := r2.inv1
    exact ⟨a, us, v, rfl, rfl, h, by rw [t.length]; exact q.1, f.up g e (t.append (.one rv)) .non q.2⟩
  · exact q.elim
theorem ye_append {o e : Expr} {apos cpos : Pos} {to : DE} {t : DA} (ho : PE X o (liftE X.K B to)) (ha : PA X [e] (liftA X.K B t))
    (hbase : attributeBase o "append" X.env (eval o X.env) = eval o X.env := by rfl)
    (hfew : ((backTo cpos (starEach [e] X.env)).all (fun x => !x.1) && (backToKw cpos (keywordEach [] X.env)).all (fun x => x.1.isSome)
      && decide (([e] : List Expr).length + ([] : List Keyword).length + (if ([] : List Keyword).isEmpty then 0 else 1) < 30)) = true := by rfl)
    (hline : (apos.endLine == cpos.line) = true := by rfl) (hs : starEach [e] X.env = (false, eval e X.env) :: starEach [] X.env := by rfl) (hplain : (backTo cpos (starEach [] X.env)).any (·.1) = false := by rfl) :
    PE X (.Call (.Attribute o "append" apos) [e] [] cpos) (liftE X.K B (dLm to t rAppD)) :=
  PEi (pe_bm PySem.F.plainAttrs_list PySem.F.slot_list_append PySem.F.type_list_append mt_append ho ha hbase hfew hline hs hplain) (dLm_lift lm_append to t)
/-- xs.extend(ys), ys another list -/
def rExtD (a : Addr) (ds es : List D) (Γ : Gs) (Q : D → Gs → Prop) : Prop := match es with
  | [e] => match lstOf' Γ e with
    | some xs => ds.length + xs.length ≤ sizeLine ∧ Q .non (gup Γ a (.lst (ds ++ xs)))
    | none => False
  | _ => False
theorem lm_extend {K : PySem.W.Frag} : LmD K rExtD rExtend := by
  intro N Γ H a ds es us vs Qd Q g e h t r2 q f
  unfold rExtD at q
  split at q
  · obtain ⟨v, rfl, rv⟩ := r2.inv1
    split at q
    · rename_i xs e2
      obtain ⟨b, ws, rfl, hb, rb⟩ := lstOf_rp' g rv e2
      exact ⟨a, b, us, ws, rfl, rfl, h, hb, by rw [t.length, rb.length]; exact q.1, f.up g e (t.append rb) .non q.2⟩
    · exact q.elim
  · exact q.elim
theorem ye_extend {o e : Expr} {apos cpos : Pos} {to : DE} {t : DA} (ho : PE X o (liftE X.K B to)) (ha : PA X [e] (liftA X.K B t))
    (hbase : attributeBase o "extend" X.env (eval o X.env) = eval o X.env := by rfl)
    (hfew : ((backTo cpos (starEach [e] X.env)).all (fun x => !x.1) && (backToKw cpos (keywordEach [] X.env)).all (fun x => x.1.isSome)
      && decide (([e] : List Expr).length + ([] : List Keyword).length + (if ([] : List Keyword).isEmpty then 0 else 1) < 30)) = true := by rfl)
    (hline : (apos.endLine == cpos.line) = true := by rfl) (hs : starEach [e] X.env = (false, eval e X.env) :: starEach [] X.env := by rfl) (hplain : (backTo cpos (starEach [] X.env)).any (·.1) = false := by rfl) :
    PE X (.Call (.Attribute o "extend" apos) [e] [] cpos) (liftE X.K B (dLm to t rExtD)) :=
  PEi (pe_bm PySem.F.plainAttrs_list PySem.F.slot_list_extend PySem.F.type_list_extend mt_extend ho ha hbase hfew hline hs hplain) (dLm_lift lm_extend to t)
/-- xs.pop() -/
def rPopD (a : Addr) (ds es : List D) (Γ : Gs) (Q : D → Gs → Prop) : Prop := match es, ds[ds.length - 1]? with
  | [], some d => Q d (gup Γ a (.lst ds.dropLast))
  | _, _ => False
theorem lm_pop {K : PySem.W.Frag} : LmD K rPopD rPop := by
  intro N Γ H a ds es us vs Qd Q g e h t r2 q f
  unfold rPopD at q
  split at q
  · rename_i d e2
    cases r2
    obtain ⟨v, hv, rv⟩ := t.get e2
    have rd : RpL K N Γ H ds.dropLast us.dropLast := by
      rw [List.dropLast_eq_take, List.dropLast_eq_take, t.length]
      exact t.take _
    exact ⟨a, us, v, rfl, rfl, h, by rw [t.length]; exact hv, f.up g e rd rv q⟩
  · exact q.elim
theorem ye_pop {o : Expr} {apos cpos : Pos} {to : DE} (ho : PE X o (liftE X.K B to)) (hbase : attributeBase o "pop" X.env (eval o X.env) = eval o X.env := by rfl) (hline : (apos.endLine == cpos.line) = true := by rfl) :
    PE X (.Call (.Attribute o "pop" apos) [] [] cpos) (liftE X.K B (dLm to dNil rPopD)) :=
  PEi (pe_bm0 PySem.F.plainAttrs_list PySem.F.slot_list_pop PySem.F.type_list_pop mt_pop ho hbase hline) (dLm_lift0 lm_pop to)

/-! ### calls of defs -/
abbrev DSp := List D → Gs → (D → Gs → Prop) → (Value → Gs → Prop) → Prop
def liftSp (K : PySem.W.Frag) (dsp : DSp) : Sp := fun vs H Q E => ∃ N ds Γ Qd Ed, RpL K N Γ H ds vs ∧ GsOk K N Γ H ∧ dsp ds Γ Qd Ed ∧ Fin K N Γ H Qd Q ∧ ∀ C od H' Γ', Ext Γ H Γ' H' → GsOk K N Γ' H' → Ed C Γ' → E C od H'
def E0d : Value → Gs → Prop := fun _ _ => False
def dCall (dsp : DSp) (t : DA) : DE := fun ρ Γ Q => t ρ Γ fun ds Γ1 => dsp ds Γ1 Q E0d
/-- a def that stands at the module's name x and keeps a promise; nothing leaves it -/
structure Def (P : Program) (w : World) (K : PySem.W.Frag) (mg : Str → Option Value) (base : Heap) (k : Nat) (x : Str) (dsp : DSp) : Prop where
  ex : ∃ f fd ps, FnOk P w K mg base CX0 k f fd ps (liftSp K dsp) ∧ mg x = some (.ref f) ∧ PySem.W.keepIn K (.ref f) = true ∧ Binds K fd ps []
theorem Def.mono {P : Program} {w : World} {K : PySem.W.Frag} {mg : Str → Option Value} {base : Heap} {j k : Nat} {x : Str} {dsp : DSp} (F : Def P w K mg base j x dsp) (h : j ≤ k) : Def P w K mg base k x dsp := by
  obtain ⟨f, fd, ps, F, r⟩ := F.ex
  exact ⟨f, fd, ps, F.mono h, r⟩
theorem dCall_lift {K : PySem.W.Frag} (dsp : DSp) (t : DA) (σ : L2.St) (H : Hp) (Q : VK) (h : liftE K B (dCall dsp t) σ H Q) : tCall (liftSp K dsp) [] E0 (liftA K B t) σ H Q := by
  obtain ⟨N, ρ, Γ, Qd, rel, q, f⟩ := h
  refine ⟨N, ρ, Γ, _, rel, q, fun vs H1 ds Γ1 x1 g1 r1 q1 => ?_⟩
  show liftSp K dsp (vs ++ []) H1 Q E0
  rw [List.append_nil]
  exact ⟨N, ds, Γ1, Qd, E0d, r1, g1, q1, f.mv x1, fun _ _ _ _ _ _ z => z.elim⟩
theorem ye_call {x : Str} {p : Pos} {e : Expr} {es : List Expr} {k j : Nat} {dsp : DSp} {t : DA} (F : Def X.prog X.w X.K X.mg X.base k x dsp) (hr : Room j X.A) (ha : PA X (e :: es) (liftA X.K B t)) (hk : k ≤ j := by decide) (hg : Gl X x := by rfl)
    (hdb : (x == ("__debug__" : Str)) = false := by decide) (he : starEach (e :: es) X.env = (false, eval e X.env) :: starEach es X.env := by rfl) (hpl : (backTo pos (starEach es X.env)).any (·.1) = false := by rfl) :
    PE X (.Call (.Name x p) (e :: es) [] pos) (liftE X.K B (dCall dsp t)) := by
  obtain ⟨f, fd, ps, F, hm, kp, b⟩ := F.ex
  exact PEi (pe_call F (hr.mono hk) hg hm kp b .nil pass0 ha hdb he hpl) (dCall_lift dsp t)
theorem ye_call0 {x : Str} {p : Pos} {k j : Nat} {dsp : DSp} (F : Def X.prog X.w X.K X.mg X.base k x dsp) (hr : Room j X.A) (hk : k ≤ j := by decide) (hg : Gl X x := by rfl) (hdb : (x == ("__debug__" : Str)) = false := by decide) :
    PE X (.Call (.Name x p) [] [] pos) (liftE X.K B (dCall dsp dNil)) := by
  obtain ⟨f, fd, ps, F, hm, kp, b⟩ := F.ex
  refine PEi (pe_call0 F (hr.mono hk) hg hm kp b .nil pass0 hdb) fun σ H Q h => ?_
  obtain ⟨N, ρ, Γ, Qd, rel, q, f⟩ := h
  exact ⟨N, [], Γ, Qd, E0d, .nil, rel.gs, q, f, fun _ _ _ _ _ _ z => z.elim⟩

/-! ### classes -/
/-- what a class must have: its attributes by name, none of them of the class itself -/
structure Kls (K : PySem.W.Frag) (C : Addr) (ns : List Str) : Prop where
  cl : Cls K C
  no : ∀ f, f ∈ ns → NoAttr K C f
  nd : ns.Nodup
theorem zip_lookup {f : Str} : ∀ {ns : List Str} {vs : List V} {j : Nat}, ns.Nodup → ns[j]? = some f → (ns.zip vs).lookup f = vs[j]?
  | [], _, _, _, h => by simp at h
  | n :: ns, [], j, _, _ => by simp
  | n :: ns, v :: vs, 0, _, h => by
    simp at h; subst h
    simp [List.zip_cons_cons, List.lookup_cons]
  | n :: ns, v :: vs, j + 1, nd, h => by
    have h' : ns[j]? = some f := by simpa using h
    have hne : (f == n) = false := beq_eq_false_iff_ne.mpr fun e => (List.nodup_cons.mp nd).1 (e ▸ List.mem_of_getElem? h')
    rw [List.zip_cons_cons, List.lookup_cons, hne]
    simpa using zip_lookup (List.nodup_cons.mp nd).2 h'
theorem zip_lookup_none {f : Str} : ∀ {ns : List Str} {vs : List V}, f ∉ ns → (ns.zip vs).lookup f = none
  | [], _, _ => by simp
  | n :: ns, [], _ => by simp
  | n :: ns, v :: vs, h => by
    simp only [List.mem_cons, not_or] at h
    have hne : (f == n) = false := beq_eq_false_iff_ne.mpr h.1
    rw [List.zip_cons_cons, List.lookup_cons, hne]
    exact zip_lookup_none h.2
/-- attribute j is set, or made -/
def putAt {α : Type} (j : Nat) (y : α) (vs : List α) : List α := if j < vs.length then vs.set j y else vs ++ [y]
theorem putF_zip {f : Str} {y : V} : ∀ {ns : List Str} {vs : List V} {j : Nat}, ns.Nodup → ns[j]? = some f → j ≤ vs.length → putF f y (ns.zip vs) = ns.zip (putAt j y vs)
  | [], _, _, _, h, _ => by simp at h
  | n :: ns, [], j, _, h, hj => by
    have e : j = 0 := by simpa using hj
    subst e
    simp at h; subst h
    simp [putF, putAt]
  | n :: ns, v :: vs, 0, _, h, _ => by
    simp at h; subst h
    simp [putF, putAt]
  | n :: ns, v :: vs, j + 1, nd, h, hj => by
    have h' : ns[j]? = some f := by simpa using h
    have hne : ¬ n = f := fun e => (List.nodup_cons.mp nd).1 (e ▸ List.mem_of_getElem? h')
    have ih := putF_zip (y := y) (vs := vs) (List.nodup_cons.mp nd).2 h' (by simpa using hj)
    rw [List.zip_cons_cons]
    show (if n = f then _ else (n, v) :: putF f y (ns.zip vs)) = _
    rw [if_neg hne, ih]
    unfold putAt
    by_cases hl : j < vs.length
    · rw [if_pos hl, if_pos (by simpa using hl)]
      simp
    · rw [if_neg hl, if_neg (by simpa using hl)]
      simp
theorem RpL.putAt {K : PySem.W.Frag} {N : Addr → Prop} {Γ : Gs} {H : Hp} {ds : List D} {vs : List V} {d : D} {v : V} (r : RpL K N Γ H ds vs) (q : Rp K N Γ H d v) (j : Nat) : RpL K N Γ H (Y.putAt j d ds) (Y.putAt j v vs) := by
  unfold Y.putAt
  rw [r.length]
  by_cases h : j < ds.length
  · rw [if_pos h, if_pos h]; exact r.set q j
  · rw [if_neg h, if_neg h]; exact r.append (.one q)
def dFld (C : Addr) (ns : List Str) (j : Nat) (te : DE) : DE := fun ρ Γ Q => te ρ Γ fun d Γ1 => match d with
  | .raw (.ref a) => match Γ1 a with
    | some (.ins C' _ ns' ds) => (C' = C ∧ ns' = ns) ∧ match ds[j]? with
      | some v => Q v Γ1
      | none => False
    | _ => False
  | _ => False
theorem ye_fld {e : Expr} {f : Str} {te : DE} {C : Addr} {ns : List Str} {j : Nat} (T : Kls X.K C ns) (he : PE X e (liftE X.K B te)) (hj : ns[j]? = some f := by rfl) (hb : attributeBase e f X.env (eval e X.env) = eval e X.env := by rfl) : PE X (.Attribute e f pos) (liftE X.K B (dFld C ns j te)) := by
  refine PEi (pe_fld he hb) fun σ H Q h => ?_
  obtain ⟨N, ρ, Γ, Qd, rel, q, f⟩ := h
  refine ⟨N, ρ, Γ, _, rel, q, fun v H1 d1 Γ1 x1 g1 r1 q1 => ?_⟩
  split at q1
  · rename_i a
    split at q1
    · rename_i C' dx ns' ds e
      obtain ⟨⟨rfl, rfl⟩, q1⟩ := q1
      split at q1
      · rename_i d ed
        cases r1
        obtain ⟨vs, hv, rv⟩ := g1.ok a _ e
        obtain ⟨v, e1, e2⟩ := rv.get ed
        exact ⟨a, C', dx, _, v, rfl, hv, T.cl, T.no _ (List.mem_of_getElem? hj), (zip_lookup T.nd hj).trans e1, (f.mv x1).now g1 e2 q1⟩
      · exact q1.elim
    · exact q1.elim
  · exact q1.elim
/-- the object's owned attributes are changed -/
theorem ins_write {K : PySem.W.Frag} {B : Bd} {N : Addr → Prop} {ρ : Ds} {Γ : Gs} {σ : L2.St} {H : Hp} {a C dx : Addr} {ns : List Str} {ds es : List D} {ws : List V} (rel : Rel K B N ρ Γ σ H) (e : Γ a = some (.ins C dx ns ds)) (r : RpL K N Γ H es ws) :
    Ext Γ H (gup Γ a (.ins C dx ns es)) (upd H a (.ins C dx (ns.zip ws))) ∧ Rel K B N ρ (gup Γ a (.ins C dx ns es)) σ (upd H a (.ins C dx (ns.zip ws))) := by
  have w := Ext.write (o := .ins C dx (ns.zip ws)) (g' := .ins C dx ns es) rel.gs e
  exact ⟨w, rel.ext w (rel.gs.write e ⟨_, upd_same, r.ext w⟩)⟩
def dFldSet (C : Addr) (ns : List Str) (j : Nat) (to tv : DE) : DS := fun D ρ Γ => tv ρ Γ fun y Γ1 => to ρ Γ1 fun d Γ2 => match d with
  | .raw (.ref a) => match Γ2 a with
    | some (.ins C' dx ns' ds) => (C' = C ∧ ns' = ns ∧ j ≤ ds.length ∧ ds.length < 1000) ∧ D.nx ρ (gup Γ2 a (.ins C' dx ns' (putAt j y ds)))
    | _ => False
  | _ => False
theorem ys_fld {o value : Expr} {f : Str} {pos' : Pos} {to tv : DE} {C : Addr} {ns : List Str} {j : Nat} (T : Kls X.K C ns) (ho : PE X o (liftE X.K B to)) (hv : PE X value (liftE X.K B tv)) (hj : ns[j]? = some f := by rfl) (hs : swapsWith value (some (.Attribute o f pos')) pos.line X.env = pure false := by rfl) :
    PS X (.Assign [.Attribute o f pos'] value pos) (liftS X.K B (dFldSet C ns j to tv)) := by
  refine PSi (ps_fld ho hv hs) fun D σ H h => ?_
  obtain ⟨N, ρ, Γ, Dd, rel, q, f1, f2, f3, f4⟩ := h
  refine ⟨N, ρ, Γ, _, rel, q, fun y H1 dy Γ1 x1 g1 ry q1 => ⟨N, ρ, Γ1, _, rel.ext x1 g1, q1, fun v H2 d2 Γ2 x2 g2 r2 q2 => ?_⟩⟩
  split at q2
  · rename_i a
    split at q2
    · rename_i C' dx ns' ds e
      obtain ⟨⟨rfl, rfl, hl, hz⟩, q2⟩ := q2
      cases r2
      obtain ⟨vs, hv, rv⟩ := g2.ok a _ e
      have rel2 := (rel.ext (x1.trans x2) g2)
      obtain ⟨w, rel3⟩ := ins_write rel2 e (rv.putAt (ry.ext x2) j)
      refine ⟨a, C', dx, _, rfl, hv, T.cl, T.no _ (List.mem_of_getElem? hj), ?_, ?_⟩
      · rw [List.length_zip, rv.length]; omega
      · rw [putF_zip T.nd hj (by rw [rv.length]; exact hl)]
        exact f1 _ _ _ _ ((x1.trans x2).trans w) rel3 q2
    · exact q2.elim
  · exact q2.elim
/-- o.f += e, of ints -/
def dFldAdd (C : Addr) (ns : List Str) (j : Nat) (to tv : DE) : DS := fun D ρ Γ => to ρ Γ fun d Γ1 => match d with
  | .raw (.ref a) => match Γ1 a with
    | some (.ins C' _ ns' ds) => (C' = C ∧ ns' = ns) ∧ match ds[j]? with
      | some (.int i) => tv ρ Γ1 fun y Γ2 => match y with
        | .int k => match Γ2 a with
          | some (.ins C'' dx ns'' es) => (C'' = C ∧ ns'' = ns ∧ j ≤ es.length ∧ es.length < 1000) ∧ D.nx ρ (gup Γ2 a (.ins C'' dx ns'' (putAt j (.int (i + k)) es)))
          | _ => False
        | _ => False
      | _ => False
    | _ => False
  | _ => False
theorem ys_fldAdd {o value : Expr} {f : Str} {tpos : Pos} {to tv : DE} {C : Addr} {ns : List Str} {j : Nat} (T : Kls X.K C ns) (ho : PE X o (liftE X.K B to)) (hv : PE X value (liftE X.K B tv)) (hj : ns[j]? = some f := by rfl) :
    PS X (.AugAssign (.Attribute o f tpos) .Add value pos) (liftS X.K B (dFldAdd C ns j to tv)) := by
  refine PSi (ps_fldaug ho hv in_add) fun D σ H h => ?_
  obtain ⟨N, ρ, Γ, Dd, rel, q, f1, f2, f3, f4⟩ := h
  refine ⟨N, ρ, Γ, _, rel, q, fun v H1 d1 Γ1 x1 g1 r1 q1 => ?_⟩
  split at q1
  · rename_i a
    split at q1
    · rename_i C' dx ns' ds e
      obtain ⟨⟨rfl, rfl⟩, q1⟩ := q1
      split at q1
      · rename_i i ed
        cases r1
        obtain ⟨vs, hv, rv⟩ := g1.ok a _ e
        obtain ⟨v, e1, e2⟩ := rv.get ed
        cases e2
        refine ⟨a, C', dx, _, _, rfl, hv, T.cl, T.no _ (List.mem_of_getElem? hj), (zip_lookup T.nd hj).trans e1, N, ρ, Γ1, _, rel.ext x1 g1, q1, fun y H2 dy Γ2 x2 g2 ry q2 => ?_⟩
        split at q2
        · rename_i k
          split at q2
          · rename_i C'' dx' ns'' es e'
            obtain ⟨⟨rfl, rfl, hl, hz⟩, q2⟩ := q2
            cases ry
            obtain ⟨ws, hw, rw_⟩ := g2.ok a _ e'
            obtain ⟨w, rel3⟩ := ins_write (rel.ext (x1.trans x2) g2) e' (rw_.putAt (.int (i + k)) j)
            refine ⟨i, k, rfl, rfl, dx', _, hw, ?_, ?_⟩
            · rw [List.length_zip, rw_.length]; omega
            · rw [putF_zip T.nd hj (by rw [rw_.length]; exact hl)]
              exact f1 _ _ _ _ ((x1.trans x2).trans w) rel3 q2
          · exact q2.elim
        · exact q2.elim
      · exact q1.elim
    · exact q1.elim
  · exact q1.elim
/-- a method that keeps a promise; nothing leaves it -/
structure MDef (P : Program) (w : World) (K : PySem.W.Frag) (mg : Str → Option Value) (base : Heap) (k : Nat) (C : Addr) (m : Str) (dsp : DSp) : Prop where
  ex : ∃ f fd ps, FnOk P w K mg base CX0 k f fd ps (liftSp K dsp) ∧ Meth K C m f ∧ Binds K fd ps []
def dMeth (C : Addr) (ns : List Str) (dsp : DSp) (to : DE) (t : DA) : DE := fun ρ Γ Q => to ρ Γ fun d Γ1 => match d with
  | .raw (.ref a) => match Γ1 a with
    | some (.ins C' _ ns' _) => (C' = C ∧ ns' = ns) ∧ t ρ Γ1 fun ds Γ2 => dsp (.raw (.ref a) :: ds) Γ2 Q E0d
    | _ => False
  | _ => False
theorem dMeth_lift {K : PySem.W.Frag} {C : Addr} {ns : List Str} {m : Str} (hm : m ∉ ns) (dsp : DSp) (to : DE) (t : DA) (σ : L2.St) (H : Hp) (Q : VK) (h : liftE K B (dMeth C ns dsp to t) σ H Q) : tMeth C m (liftSp K dsp) [] E0 (liftE K B to) (liftA K B t) σ H Q := by
  obtain ⟨N, ρ, Γ, Qd, rel, q, f⟩ := h
  refine ⟨N, ρ, Γ, _, rel, q, fun v H1 d1 Γ1 x1 g1 r1 q1 => ?_⟩
  split at q1
  · rename_i a
    split at q1
    · rename_i C' dx ns' ds e
      obtain ⟨⟨rfl, rfl⟩, q1⟩ := q1
      cases r1
      obtain ⟨vs, hv, rv⟩ := g1.ok a _ e
      refine ⟨a, dx, _, rfl, hv, zip_lookup_none hm, N, ρ, Γ1, _, rel.ext x1 g1, q1, fun us H2 es Γ2 x2 g2 r2 q2 => ?_⟩
      show liftSp K dsp (V.ref a :: (us ++ [])) H2 Q E0
      rw [List.append_nil]
      exact ⟨N, _, Γ2, Qd, E0d, .cons (.raw _) r2, g2, q2, f.mv (x1.trans x2), fun _ _ _ _ _ _ z => z.elim⟩
    · exact q1.elim
  · exact q1.elim
theorem ye_meth {pl : Sem Bool} {o e : Expr} {es : List Expr} {m : Str} {apos : Pos} {k j : Nat} {C : Addr} {ns : List Str} {dsp : DSp} {to : DE} {t : DA} (T : Kls X.K C ns) (F : MDef X.prog X.w X.K X.mg X.base k C m dsp) (hr : Room j X.A) (ho : PE X o (liftE X.K B to)) (ha : PA X (e :: es) (liftA X.K B t)) (hm : m ∉ ns := by decide +kernel) (hk : k ≤ j := by decide)
    (hst : starEach (e :: es) X.env = (false, eval e X.env) :: starEach es X.env := by rfl) (hpl : (backTo pos (starEach es X.env)).any (·.1) = false := by rfl)
    (ht : eval (.Call (.Attribute o m apos) (e :: es) [] pos) X.env = (do
      let ov ← eval o X.env
      standAt apos.atName
      let (f, first) ← holding [ov] (getMethod ov m pl)
      callWith pos f first (backTo pos (starEach (e :: es) X.env)) (backToKw pos (keywordEach [] X.env))) := by rfl) :
    PE X (.Call (.Attribute o m apos) (e :: es) [] pos) (liftE X.K B (dMeth C ns dsp to t)) := by
  obtain ⟨f, fd, ps, F, M, b⟩ := F.ex
  exact PEi (pe_meth ho T.cl M F (hr.mono hk) b .nil pass0 ha hst hpl ht) (dMeth_lift hm dsp to t)
theorem ye_meth0 {pl : Sem Bool} {o : Expr} {m : Str} {apos : Pos} {k j : Nat} {C : Addr} {ns : List Str} {dsp : DSp} {to : DE} (T : Kls X.K C ns) (F : MDef X.prog X.w X.K X.mg X.base k C m dsp) (hr : Room j X.A) (ho : PE X o (liftE X.K B to)) (hm : m ∉ ns := by decide +kernel) (hk : k ≤ j := by decide)
    (ht : eval (.Call (.Attribute o m apos) [] [] pos) X.env = (do
      let ov ← eval o X.env
      standAt apos.atName
      let (f, first) ← holding [ov] (getMethod ov m pl)
      callWith pos f first (backTo pos (starEach [] X.env)) (backToKw pos (keywordEach [] X.env))) := by rfl) :
    PE X (.Call (.Attribute o m apos) [] [] pos) (liftE X.K B (dMeth C ns dsp to dNil)) := by
  obtain ⟨f, fd, ps, F, M, b⟩ := F.ex
  refine PEi (pe_meth0 ho T.cl M F (hr.mono hk) b .nil pass0 ht) fun σ H Q h => ?_
  obtain ⟨N, ρ, Γ, Qd, rel, q, f⟩ := h
  refine ⟨N, ρ, Γ, _, rel, q, fun v H1 d1 Γ1 x1 g1 r1 q1 => ?_⟩
  split at q1
  · rename_i a
    split at q1
    · rename_i C' dx ns' ds e
      obtain ⟨⟨rfl, rfl⟩, q1⟩ := q1
      cases r1
      obtain ⟨vs, hv, rv⟩ := g1.ok a _ e
      exact ⟨a, dx, _, rfl, hv, zip_lookup_none hm, N, _, Γ1, Qd, E0d, .cons (.raw _) .nil, g1, q1, f.mv x1, fun _ _ _ _ _ _ z => z.elim⟩
    · exact q1.elim
  · exact q1.elim
/-- C(..): a new object, then its __init__ -/
def dMake (C : Addr) (ns : List Str) (dsp : DSp) (t : DA) : DE := fun ρ Γ Q => t ρ Γ fun ds Γ1 => ∀ x dx, Γ1 x = none → dsp (.raw (.ref x) :: ds) (gup Γ1 x (.ins C dx ns [])) (fun d Γ2 => d = .non ∧ Q (.raw (.ref x)) Γ2) E0d
structure KMake (P : Program) (w : World) (K : PySem.W.Frag) (mg : Str → Option Value) (base : Heap) (k : Nat) (x : Str) (C : Addr) (dsp : DSp) : Prop where
  ex : ∃ f fd ps, FnOk P w K mg base CX0 k f fd ps (liftSp K dsp) ∧ mg x = some (.ref C) ∧ Mk K C f ∧ Binds K fd ps []
theorem dMake_lift {K : PySem.W.Frag} {C : Addr} (ns : List Str) (dsp : DSp) (t : DA) (σ : L2.St) (H : Hp) (Q : VK) (h : liftE K B (dMake C ns dsp t) σ H Q) : tMake C (liftSp K dsp) [] E0 (liftA K B t) σ H Q := by
  obtain ⟨N, ρ, Γ, Qd, rel, q, f⟩ := h
  refine ⟨N, ρ, Γ, _, rel, q, fun vs H1 ds Γ1 x1 g1 r1 q1 => fun x dx nx nd ne => ?_⟩
  rw [List.append_nil]
  have nx' : (upd H1 dx (.own x)) x = none := by rw [upd_ne (fun e => ne e.symm)]; exact nx
  have xa : Ext Γ1 H1 Γ1 (upd H1 dx (.own x)) := Ext.laid nd
  have xb : Ext Γ1 (upd H1 dx (.own x)) (gup Γ1 x (.ins C dx ns [])) (upd (upd H1 dx (.own x)) x (.ins C dx [])) := Ext.own nx'
  have xx := xa.trans xb
  have g2 : GsOk K N (gup Γ1 x (.ins C dx ns [])) (upd (upd H1 dx (.own x)) x (.ins C dx [])) := (g1.laid nd).own nx' ⟨[], by rw [upd_same]; simp, .nil⟩
  refine ⟨N, _, _, _, E0d, .cons (.raw _) (r1.ext xx), g2, q1 x dx (g1.none_of nx), fun v H' d Γ' x' g' r' q' => ?_, fun _ _ _ _ _ _ z => z.elim⟩
  obtain ⟨rfl, q'⟩ := q'
  cases r'
  exact ⟨rfl, f _ _ _ _ ((x1.trans xx).trans x') g' (.raw _) q'⟩
theorem ye_make {x : Str} {p : Pos} {e : Expr} {es : List Expr} {k j : Nat} {C : Addr} {ns : List Str} {dsp : DSp} {t : DA} (F : KMake X.prog X.w X.K X.mg X.base k x C dsp) (hr : Room j X.A) (ha : PA X (e :: es) (liftA X.K B t)) (hk : k + 1 ≤ j := by decide) (hg : Gl X x := by rfl)
    (hdb : (x == ("__debug__" : Str)) = false := by decide) (he : starEach (e :: es) X.env = (false, eval e X.env) :: starEach es X.env := by rfl) (hpl : (backTo pos (starEach es X.env)).any (·.1) = false := by rfl) :
    PE X (.Call (.Name x p) (e :: es) [] pos) (liftE X.K B (dMake C ns dsp t)) := by
  obtain ⟨f, fd, ps, F, hm, M, b⟩ := F.ex
  exact PEi (pe_make M F (hr.mono hk) hg hm b .nil pass0 ha hdb he hpl) (dMake_lift ns dsp t)
end

/-! ### a def's body keeps its promise -/
def startD : List Str → List D → Ds
  | [], _ => []
  | _ :: N, [] => none :: startD N []
  | _ :: N, d :: ds => some d :: startD N ds
/-- what is wanted at a body's end: what was owned for a while may be let go -/
def endD (Qd : D → Gs → Prop) : DEnds := { nx := fun _ Γ' => ∃ Γ2, Sub Γ2 Γ' ∧ Qd .non Γ2, rt := fun d Γ' => ∃ Γ2, Sub Γ2 Γ' ∧ Qd d Γ2 }
theorem startD_len : ∀ (N : List Str) (ds : List D), (startD N ds).length = N.length
  | [], _ => rfl
  | _ :: N, [] => by simp only [startD, List.length_cons, startD_len N []]
  | _ :: N, _ :: ds => by simp only [startD, List.length_cons, startD_len N ds]
theorem startD_get : ∀ (N : List Str) (ds : List D) (i : Nat) (d : D), (startD N ds)[i]? = some (some d) → ds[i]? = some d
  | [], _, i, d, h => by simp [startD] at h
  | _ :: N, [], 0, d, h => by simp [startD] at h
  | _ :: N, [], i + 1, d, h => by
    simp only [startD, List.getElem?_cons_succ] at h
    have := startD_get N [] i d h
    simp at this
  | _ :: N, _ :: ds, 0, d, h => by simpa [startD] using h
  | _ :: N, _ :: ds, i + 1, d, h => by
    simp only [startD, List.getElem?_cons_succ] at h ⊢
    exact startD_get N ds i d h
theorem rel_start {K : PySem.W.Frag} {N : Addr → Prop} {Γ : Gs} {H : Hp} {ds : List D} {vs : List V} (NN : List Str) (hl : ds.length ≤ NN.length) (r : RpL K N Γ H ds vs) (g : GsOk K N Γ H) : Rel K Bd.top N (startD NN ds) Γ (L2.start NN vs) H := by
  refine ⟨?_, fun i d e => ?_, g, trivial⟩
  · rw [startD_len]
    unfold L2.start
    simp only [List.length_append, List.length_map, List.length_replicate, r.length]
    omega
  · obtain ⟨v, h1, h2⟩ := r.get (startD_get _ _ _ _ e)
    refine ⟨v, ?_, h2⟩
    unfold L2.start
    have hi : i < vs.length := (List.getElem?_eq_some_iff.mp h1).1
    rw [List.getElem?_append_left (by simpa using hi), List.getElem?_map, h1]; rfl
section
variable {P : Program} {w : World} {K : PySem.W.Frag} {mg : Str → Option Value} {base : Heap}
/-- a def stands at the module's name x -/
structure At (K : PySem.W.Frag) (mg : Str → Option Value) (x : Str) (st : Stmt) (ps : List Str) : Prop where
  ex : ∃ f fd, Fun K x x st f fd ∧ mg x = some (.ref f) ∧ Binds K fd ps []
theorem fnOk_mk {x qual : Str} {st : Stmt} {f : Addr} {fd : FuncData} {N ps : List Str} {k : Nat} {dsp : DSp} (F : Fun K x qual st f fd) (S : FnScope N ps (defScope st)) (len : ∀ ds Γ Q E, dsp ds Γ Q E → ds.length = ps.length)
    (hbody : ∀ (f : Addr) (cdv : Value) (A : Around) (outer : List Env) (s : Shared) (H : Hp) (E : XK) (ds : List D) (Γ : Gs) (Qd : D → Gs → Prop) (Ed : Value → Gs → Prop), Room k (A.deeper (envOfC qual (defScope st) s.heap.objs.size f cdv)) → dsp ds Γ Qd Ed →
      ∃ t : DS, PSs (cxOf CX0 P w K mg base N qual (defScope st) f cdv A outer s H E).nox (defBody st) (liftS K Bd.top t) ∧ t (endD Qd) (startD N ds) Γ) : FnOk P w K mg base CX0 (k + 1) f fd ps (liftSp K dsp) := by
  refine F.ok S (fun vs H Q E h => ?_) (fun cdv A outer s H vs Q E hr h => ?_)
  · obtain ⟨NN, ds, Γ, Qd, Ed, r, g, h, _⟩ := h
    rw [r.length]; exact len _ _ _ _ h
  · obtain ⟨NN, ds, Γ, Qd, Ed, r, g, h, fin, _⟩ := h
    obtain ⟨t, hp, ht⟩ := hbody f cdv A outer s H E ds Γ Qd Ed hr h
    have hl : ds.length ≤ N.length := by
      rw [len _ _ _ _ h, ← congrArg List.length S.pre, List.length_take]
      omega
    refine ⟨_, hp, NN, startD N ds, Γ, endD Qd, rel_start N hl r g, ht, ?_, ?_, fun _ _ _ _ _ _ z => z, fun _ _ _ _ _ _ z => z⟩
    · rintro σ' H' ρ' Γ' x rel' ⟨Γ2, sb, q⟩
      exact fin _ _ _ _ (x.trans (Ext.sub sb)) (rel'.gs.sub sb) .non q
    · rintro v H' d Γ' x g' r' ⟨Γ2, sb, q⟩
      exact fin _ _ _ _ (x.trans (Ext.sub sb)) (g'.sub sb) (r'.ext (Ext.sub sb)) q
theorem Def.mk' {x : Str} {st : Stmt} {N ps : List Str} {k : Nat} {dsp : DSp} (A : At K mg x st ps) (S : FnScope N ps (defScope st)) (len : ∀ ds Γ Q E, dsp ds Γ Q E → ds.length = ps.length)
    (hbody : ∀ (f : Addr) (cdv : Value) (A : Around) (outer : List Env) (s : Shared) (H : Hp) (E : XK) (ds : List D) (Γ : Gs) (Qd : D → Gs → Prop) (Ed : Value → Gs → Prop), Room k (A.deeper (envOfC x (defScope st) s.heap.objs.size f cdv)) → dsp ds Γ Qd Ed →
      ∃ t : DS, PSs (cxOf CX0 P w K mg base N x (defScope st) f cdv A outer s H E).nox (defBody st) (liftS K Bd.top t) ∧ t (endD Qd) (startD N ds) Γ) : Def P w K mg base (k + 1) x dsp := by
  obtain ⟨f, fd, F, hm, b⟩ := A.ex
  exact ⟨f, fd, ps, fnOk_mk F S len hbody, hm, F.kp, b⟩
/-- a method stands -/
structure AtM (K : PySem.W.Frag) (C : Addr) (m qual : Str) (st : Stmt) (ps : List Str) : Prop where
  ex : ∃ f fd, Fun K m qual st f fd ∧ Meth K C m f ∧ Binds K fd ps []
theorem MDef.mk' {m qual : Str} {C : Addr} {st : Stmt} {N ps : List Str} {k : Nat} {dsp : DSp} (A : AtM K C m qual st ps) (S : FnScope N ps (defScope st)) (len : ∀ ds Γ Q E, dsp ds Γ Q E → ds.length = ps.length)
    (hbody : ∀ (f : Addr) (cdv : Value) (A : Around) (outer : List Env) (s : Shared) (H : Hp) (E : XK) (ds : List D) (Γ : Gs) (Qd : D → Gs → Prop) (Ed : Value → Gs → Prop), Room k (A.deeper (envOfC qual (defScope st) s.heap.objs.size f cdv)) → dsp ds Γ Qd Ed →
      ∃ t : DS, PSs (cxOf CX0 P w K mg base N qual (defScope st) f cdv A outer s H E).nox (defBody st) (liftS K Bd.top t) ∧ t (endD Qd) (startD N ds) Γ) : MDef P w K mg base (k + 1) C m dsp := by
  obtain ⟨f, fd, F, hm, b⟩ := A.ex
  exact ⟨f, fd, ps, fnOk_mk F S len hbody, hm, b⟩
/-- a class stands, with its __init__ -/
structure AtC (K : PySem.W.Frag) (mg : Str → Option Value) (x : Str) (C : Addr) (qual : Str) (st : Stmt) (ps : List Str) : Prop where
  ex : ∃ f fd, Fun K "__init__" qual st f fd ∧ mg x = some (.ref C) ∧ Mk K C f ∧ Binds K fd ps []
theorem KMake.mk' {x qual : Str} {C : Addr} {st : Stmt} {N ps : List Str} {k : Nat} {dsp : DSp} (A : AtC K mg x C qual st ps) (S : FnScope N ps (defScope st)) (len : ∀ ds Γ Q E, dsp ds Γ Q E → ds.length = ps.length)
    (hbody : ∀ (f : Addr) (cdv : Value) (A : Around) (outer : List Env) (s : Shared) (H : Hp) (E : XK) (ds : List D) (Γ : Gs) (Qd : D → Gs → Prop) (Ed : Value → Gs → Prop), Room k (A.deeper (envOfC qual (defScope st) s.heap.objs.size f cdv)) → dsp ds Γ Qd Ed →
      ∃ t : DS, PSs (cxOf CX0 P w K mg base N qual (defScope st) f cdv A outer s H E).nox (defBody st) (liftS K Bd.top t) ∧ t (endD Qd) (startD N ds) Γ) : KMake P w K mg base (k + 1) x C dsp := by
  obtain ⟨f, fd, F, hm, M, b⟩ := A.ex
  exact ⟨f, fd, ps, fnOk_mk F S len hbody, hm, M, b⟩
end
end Y
set_option Elab.async false
set_option linter.all false
set_option maxRecDepth 100000
set_option maxHeartbeats 4000000
/-! the data layer: what the readings come to, by form -/
namespace Y
open PySem PySem.Spec PyProof.Rows L2
section
variable {Γ : Gs} {Q : D → Gs → Prop} {xs ys : List D} {i j : Int} {a b : Bool} {s t : Str} {d e x y : D}
theorem seqOf_tup : seqOf Γ (.tup xs) = some xs := rfl
theorem seqOf_lst : seqOf Γ (.lst xs) = some xs := rfl
theorem seqOf_scr : seqOf Γ (.scr xs) = some xs := rfl
theorem lstOf_lst : lstOf Γ (.lst xs) = some xs := rfl
theorem lstOf_scr : lstOf Γ (.scr xs) = some xs := rfl
theorem lstOf'_lst : lstOf' Γ (.lst xs) = some xs := rfl
theorem seqOf_ptr {p : Addr} (h : Γ p = some (.lst xs)) : seqOf Γ (.raw (.ref p)) = some xs := by simp only [seqOf, h]
theorem lstOf_ptr {p : Addr} (h : Γ p = some (.lst xs)) : lstOf Γ (.raw (.ref p)) = some xs := by simp only [lstOf, h]
theorem lstOf'_ptr {p : Addr} (h : Γ p = some (.lst xs)) : lstOf' Γ (.raw (.ref p)) = some xs := by simp only [lstOf', h]
theorem seqOf_non : seqOf Γ .non = none := rfl
theorem seqOf_int : seqOf Γ (.int i) = none := rfl
theorem seqOf_bl : seqOf Γ (.bl a) = none := rfl
theorem tyD_tup : tyD Γ (.tup xs) = some .tup := rfl
theorem tyD_lst : tyD Γ (.lst xs) = some .lst := rfl
theorem tyD_int : tyD Γ (.int i) = some .int := rfl
theorem tyD_bl : tyD Γ (.bl a) = some .bl := rfl
theorem tyD_str : tyD Γ (.str s) = some .str := rfl
theorem tyD_non : tyD Γ .non = some .non := rfl
theorem tyD_ptr {p : Addr} (h : Γ p = some (.lst xs)) : tyD Γ (.raw (.ref p)) = some .lst := by simp only [tyD, h]
theorem dAdd_ii : dAdd (.int i) (.int j) Γ Q = Q (.int (i + j)) Γ := rfl
theorem dAdd_tt : dAdd (.tup xs) (.tup ys) Γ Q = (xs.length + ys.length ≤ sizeLine ∧ Q (.tup (xs ++ ys)) Γ) := rfl
theorem dAdd_ll : dAdd (.lst xs) (.lst ys) Γ Q = (∃ us vs, lstOf' Γ (.lst xs) = some us ∧ lstOf' Γ (.lst ys) = some vs ∧ us.length + vs.length ≤ sizeLine ∧ Q (.lst (us ++ vs)) Γ) := rfl
theorem dMul_ii : dMul (.int i) (.int j) Γ Q = (MulOk i j ∧ Q (.int (i * j)) Γ) := rfl
theorem dMul_ti : dMul (.tup xs) (.int j) Γ Q = (xs ≠ [] ∧ 2 ≤ j ∧ j ≤ 1000 ∧ xs.length ≤ 1000 ∧ Q (.tup (List.replicate j.toNat xs).flatten) Γ) := rfl
theorem d2I_ii {C : Int → Int → Prop} {g : Int → Int → D} : d2I C g (.int i) (.int j) Γ Q = (C i j ∧ Q (g i j) Γ) := rfl
theorem d2I0_ii {g : Int → Int → D} : d2I0 g (.int i) (.int j) Γ Q = Q (g i j) Γ := rfl
theorem dEq_ii : dEq (.int i) (.int j) Γ Q = Q (.bl (decide (i = j))) Γ := rfl
theorem dEq_ss : dEq (.str s) (.str t) Γ Q = Q (.bl (decide (s = t))) Γ := rfl
theorem dEq_bb : dEq (.bl a) (.bl b) Γ Q = Q (.bl (decide (a = b))) Γ := rfl
theorem dNe_ii : dNe (.int i) (.int j) Γ Q = Q (.bl (!decide (i = j))) Γ := rfl
theorem dNe_ss : dNe (.str s) (.str t) Γ Q = Q (.bl (!decide (s = t))) Γ := rfl
theorem dNe_bb : dNe (.bl a) (.bl b) Γ Q = Q (.bl (!decide (a = b))) Γ := rfl
theorem dEq_of (hx : pyOk 60 (resD Γ x) = true) (hy : pyOk 60 (resD Γ y) = true) (q : Q (.bl (eqD (resD Γ x) (resD Γ y))) Γ) : dEq x y Γ Q := by
  unfold dEq
  split
  · simp only [resD, eqD] at q
    rw [← Bool.beq_eq_decide_eq]; exact q
  · simp only [resD, eqD] at q
    rw [← Bool.beq_eq_decide_eq]; exact q
  · simp only [resD, eqD] at q
    rw [← Bool.beq_eq_decide_eq]; exact q
  · exact ⟨hx, hy, q⟩
theorem dNe_of (hx : pyOk 60 (resD Γ x) = true) (hy : pyOk 60 (resD Γ y) = true) (q : Q (.bl (!eqD (resD Γ x) (resD Γ y))) Γ) : dNe x y Γ Q := by
  unfold dNe
  split
  · simp only [resD, eqD] at q
    rw [← Bool.beq_eq_decide_eq]; exact q
  · simp only [resD, eqD] at q
    rw [← Bool.beq_eq_decide_eq]; exact q
  · simp only [resD, eqD] at q
    rw [← Bool.beq_eq_decide_eq]; exact q
  · exact ⟨hx, hy, q⟩
theorem resD_tup : resD Γ (.tup xs) = .tup xs := rfl
theorem resD_lst : resD Γ (.lst xs) = .lst xs := rfl
theorem resD_int : resD Γ (.int i) = .int i := rfl
theorem resD_bl : resD Γ (.bl a) = .bl a := rfl
theorem resD_non : resD Γ .non = .non := rfl
theorem resD_str : resD Γ (.str s) = .str s := rfl
theorem resD_ptr {p : Addr} (h : Γ p = some (.lst xs)) : resD Γ (.raw (.ref p)) = .lst xs := by simp only [resD, h]
theorem isNon_non : isNon .non = true := rfl
theorem isNon_int : isNon (.int i) = false := rfl
theorem isNon_bl : isNon (.bl a) = false := rfl
theorem isNon_tup : isNon (.tup xs) = false := rfl
theorem isNon_lst : isNon (.lst xs) = false := rfl
theorem atI_0 {α : Type} {x : α} {xs : List α} : atI (x :: xs) 0 = some x := by
  have := atI_nat (xs := x :: xs) (j := 0) (v := x) rfl
  simpa using this
theorem atI_1 {α : Type} {x y : α} {xs : List α} : atI (x :: y :: xs) 1 = some y := by
  have := atI_nat (xs := x :: y :: xs) (j := 1) (v := y) rfl
  simpa using this
theorem atI_2 {α : Type} {x y z : α} {xs : List α} : atI (x :: y :: z :: xs) 2 = some z := by
  have := atI_nat (xs := x :: y :: z :: xs) (j := 2) (v := z) rfl
  simpa using this
theorem atI_3 {α : Type} {x y z u : α} {xs : List α} : atI (x :: y :: z :: u :: xs) 3 = some u := by
  have := atI_nat (xs := x :: y :: z :: u :: xs) (j := 3) (v := u) rfl
  simpa using this
theorem atI_4 {α : Type} {x y z u v : α} {xs : List α} : atI (x :: y :: z :: u :: v :: xs) 4 = some v := by
  have := atI_nat (xs := x :: y :: z :: u :: v :: xs) (j := 4) (v := v) rfl
  simpa using this
theorem atI_at {α : Type} {xs : List α} {i : Int} {n : Nat} {x : α} (e : i = (n : Int)) (h : xs[n]? = some x) : atI xs i = some x := by
  subst e; exact atI_nat h
theorem lines {n : Nat} (h : n ≤ 16777216) : n ≤ sizeLine := by rw [sizeLine_eq]; exact h
theorem linel {n : Nat} (h : n < 16777216) : n < sizeLine := by rw [sizeLine_eq]; exact h
theorem fin0 {Qd : D → Gs → Prop} (q : Qd d Γ) : ∃ Γ2, Sub Γ2 Γ ∧ Qd d Γ2 := ⟨Γ, Sub.refl Γ, q⟩
theorem div_ok {i j : Int} {n : Nat} (h : 0 < j) (hb : j < 2 ^ n) (hn : n ≤ 9000) (h0 : 0 < n := by decide) : CDivW i j := wide_div (b := n) h (by
  have e : (j.natAbs : Int) = j := Int.natAbs_of_nonneg (by omega)
  have : (j.natAbs : Int) < ((2 ^ n : Nat) : Int) := by rw [e]; simpa using hb
  exact Int.ofNat_lt.mp this) h0 hn
theorem mul_ok {i j : Int} {n m : Nat} (hi : i.natAbs < 2 ^ n) (hj : j.natAbs < 2 ^ m) (hn : 0 < n) (hm : 0 < m) (h : n + m ≤ 1000000) : MulOk i j := .inr (wide_mul hi hj hn hm h)
theorem mul_l {i j : Int} (h : i.natAbs < 2 ^ 63) : MulOk i j := .inl (.inl (by omega))
theorem mul_r {i j : Int} (h : j.natAbs < 2 ^ 63) : MulOk i j := .inl (.inr (by omega))
theorem pts_yes {X : Cx} {B : Bd} : PTs X [] (liftT X.K B dYes) := yts_nil
end
end Y
set_option Elab.async false
set_option linter.all false
set_option maxRecDepth 100000
set_option maxHeartbeats 4000000
/-! the data layer: loops and comprehensions by what holds between their turns; an owned list by repetition -/
namespace Y
open PySem PySem.Spec PyProof.Rows L2
section
variable {α : Type} {g : DG} {b : DS} {D0 : DEnds} {tt : DT} {te : DE} {ρ : Ds} {Γ : Gs} {Q : List D → Gs → Prop}
/-- a for over the data of ys: S by what is left -/
theorem forRun_ind (e : α → D) (S : List α → Ds → Gs → Prop) (ys : List α) (h0 : S ys ρ Γ)
    (step : ∀ y r ρ Γ (R : Ds → Gs → Prop), S (y :: r) ρ Γ → (∀ ρ' Γ', S r ρ' Γ' → R ρ' Γ') → g (e y) ρ Γ fun ρ1 Γ1 => b { D0 with nx := R, ct := R, bk := D0.nx } ρ1 Γ1)
    (fin : ∀ ρ Γ, S [] ρ Γ → D0.nx ρ Γ) : forRun none g b D0 (ys.map e) ρ Γ := by
  induction ys generalizing ρ Γ with
  | nil => exact fin ρ Γ h0
  | cons y r ih => exact step y r ρ Γ _ h0 fun ρ' Γ' h => ih h
theorem lcRun_ind (e : α → D) (S : List α → List D → Gs → Prop) : ∀ (ys : List α) (acc : List D) (Γ : Gs), S ys acc Γ →
    (∀ y r acc Γ (R : List D → Gs → Prop), S (y :: r) acc Γ → (∀ acc' Γ', S r acc' Γ' → R acc' Γ') → g (e y) ρ Γ fun ρ1 Γ1 => tt ρ1 Γ1 fun k Γ2 => if k = true then te ρ1 Γ2 fun z Γ3 => R (acc ++ [z]) Γ3 else R acc Γ2) →
    (∀ acc Γ, S [] acc Γ → Q acc Γ) → lcRun none g tt te ρ Q (ys.map e) acc Γ
  | [], acc, Γ, h0, step, fin => fin acc Γ h0
  | y :: r, acc, Γ, h0, step, fin => step y r acc Γ _ h0 fun acc' Γ' h => lcRun_ind e S r acc' Γ' h step fin
/-- every element has its value, nothing is changed -/
theorem lcRun_map (e f : α → D) (ys : List α)
    (step : ∀ y (R : D → Gs → Prop) (R' : Gs → Prop), y ∈ ys → R (f y) Γ → g (e y) ρ Γ fun ρ1 Γ1 => tt ρ1 Γ1 fun k Γ2 => if k = true then te ρ1 Γ2 R else R' Γ2)
    (fin : Q (ys.map f) Γ) : lcRun none g tt te ρ Q (ys.map e) [] Γ := by
  have key : ∀ (zs : List α) (acc : List D), (∀ z, z ∈ zs → z ∈ ys) → Q (acc ++ zs.map f) Γ → lcRun none g tt te ρ Q (zs.map e) acc Γ := by
    intro zs
    induction zs with
    | nil => intro acc _ q; show Q acc Γ; simpa using q
    | cons z r ih =>
      intro acc hz q
      refine step z _ _ (hz z List.mem_cons_self) ?_
      exact ih (acc ++ [f z]) (fun u hu => hz u (List.mem_cons_of_mem _ hu)) (by simpa using q)
  exact key ys [] (fun _ h => h) (by simpa using fin)
/-- some of the elements, each with its value -/
theorem lcRun_filter (e f : α → D) (p : α → Bool) (ys : List α)
    (step : ∀ y (R : D → Gs → Prop) (R' : Gs → Prop), y ∈ ys → (p y = true → R (f y) Γ) → (p y = false → R' Γ) → g (e y) ρ Γ fun ρ1 Γ1 => tt ρ1 Γ1 fun k Γ2 => if k = true then te ρ1 Γ2 R else R' Γ2)
    (fin : Q ((ys.filter p).map f) Γ) : lcRun none g tt te ρ Q (ys.map e) [] Γ := by
  have key : ∀ (zs : List α) (acc : List D), (∀ z, z ∈ zs → z ∈ ys) → Q (acc ++ (zs.filter p).map f) Γ → lcRun none g tt te ρ Q (zs.map e) acc Γ := by
    intro zs
    induction zs with
    | nil => intro acc _ q; show Q acc Γ; simpa using q
    | cons z r ih =>
      intro acc hz q
      refine step z _ _ (hz z List.mem_cons_self) (fun hp => ?_) (fun hp => ?_)
      · exact ih (acc ++ [f z]) (fun u hu => hz u (List.mem_cons_of_mem _ hu)) (by simpa [List.filter_cons, hp] using q)
      · exact ih acc (fun u hu => hz u (List.mem_cons_of_mem _ hu)) (by simpa [List.filter_cons, hp] using q)
  exact key ys [] (fun _ h => h) (by simpa using fin)
theorem enumD_map (e : α → D) : ∀ (k : Int) (ys : List α), enumD k (ys.map e) = (ys.zipIdx).map fun p => .tup [.int (k + (p.2 : Nat)), e p.1] := by
  have key : ∀ (ys : List α) (k : Int) (n : Nat), enumD (k + (n : Int)) (ys.map e) = (ys.zipIdx n).map fun p => .tup [.int (k + (p.2 : Nat)), e p.1] := by
    intro ys
    induction ys with
    | nil => intro k n; rfl
    | cons y r ih =>
      intro k n
      simp only [List.map_cons, enumD, List.zipIdx_cons]
      have h := ih k (n + 1)
      have e1 : k + ((n + 1 : Nat) : Int) = k + (n : Int) + 1 := by omega
      rw [e1] at h
      rw [h]
  intro k ys
  have := key ys k 0
  simpa using this
theorem zipD_map {β : Type} (e : α → D) (f : β → D) (xs : List α) (ys : List β) : zipD (xs.map e) (ys.map f) = (xs.zip ys).map fun p => .tup [e p.1, f p.2] := by
  unfold zipD
  induction xs generalizing ys with
  | nil => simp
  | cons x r ih =>
    cases ys with
    | nil => simp
    | cons y s => simp [ih s]
theorem rangeD_map (lo : Int) (n : Nat) : rangeD lo n = (List.range n).map fun (i : Nat) => D.int (lo + (i : Int)) := rfl
end
section
variable {X : Cx} {B : Bd} {pos : Pos}
/-- [x] * n as an owned list -/
def dRepO : DR2 := fun x y Γ Q => match y with
  | .int k => match lstOf' Γ x with
    | some xs => (-(2 ^ 63) ≤ k ∧ k < 2 ^ 63 ∧ xs.length * k.toNat ≤ sizeLine) ∧ ∀ p, Γ p = none → Q (.raw (.ref p)) (gup Γ p (.lst (List.replicate k.toNat xs).flatten))
    | none => False
  | _ => False
theorem od_repO {K : PySem.W.Frag} : OpD K dRepO rRep := by
  intro N Γ H x y dx dy Qd Q ok rx ry h f
  unfold dRepO at h
  split at h
  · split at h
    · rename_i k xs e
      cases ry
      obtain ⟨a, vs, rfl, ha, ra⟩ := lstOf_rp' ok rx e
      exact ⟨a, _, vs, rfl, rfl, ha, h.1.1, h.1.2.1, by rw [ra.length]; exact h.1.2.2, f.own ok (ra.rep _) h.2⟩
    · exact h.elim
  · exact h.elim
theorem ye_repO {a b : Expr} {ta tb : DE} (ha : PE X a (liftE X.K B ta)) (hb : PE X b (liftE X.K B tb)) : PE X (.BinOp a .Mult b pos) (liftE X.K B (dOp dRepO ta tb)) :=
  ye_op op_rep od_repO ha hb
def dCatO : DR2 := fun x y Γ Q => match lstOf' Γ x, lstOf' Γ y with
  | some xs, some ys => xs.length + ys.length ≤ sizeLine ∧ ∀ p, Γ p = none → Q (.raw (.ref p)) (gup Γ p (.lst (xs ++ ys)))
  | _, _ => False
theorem od_catO {K : PySem.W.Frag} : OpD K dCatO rCat := by
  intro N Γ H x y dx dy Qd Q ok rx ry h f
  unfold dCatO at h
  split at h
  · rename_i xs ys e1 e2
    obtain ⟨a, vs, rfl, ha, ra⟩ := lstOf_rp' ok rx e1
    obtain ⟨b, ws, rfl, hb, rb⟩ := lstOf_rp' ok ry e2
    exact ⟨a, b, vs, ws, rfl, rfl, ha, hb, by rw [ra.length, rb.length]; exact h.1, f.own ok (ra.append rb) h.2⟩
  · exact h.elim
theorem ye_catO {a b : Expr} {ta tb : DE} (ha : PE X a (liftE X.K B ta)) (hb : PE X b (liftE X.K B tb)) : PE X (.BinOp a .Add b pos) (liftE X.K B (dOp dCatO ta tb)) :=
  ye_op op_cat od_catO ha hb
end
end Y
set_option Elab.async false
set_option linter.all false
set_option maxRecDepth 100000
set_option maxHeartbeats 4000000
/-! the data layer: dicts -/
namespace Y
open PySem PySem.Spec PyProof.Rows L2
section
variable {X : Cx}
theorem pairs_ofT {pins : List (Addr × Obj)} {σ : L2.St} {H : Hp} {s : Shared} (I : Inv X pins σ H s) : ∀ {ps : List Addr} {kvs : List (Key × V)}, Paired (fun p kv => SqT X.K H p [kV kv.1, kv.2]) ps kvs →
    ∃ (prs : List (Key × Value)) (vps : List (Value × Value)), KV kvs prs ∧ prs.length = ps.length ∧ vps.length = ps.length ∧
      ∀ (j : Nat) (k v : Value), vps[j]? = some (k, v) → ∃ (b : Addr) (key : Key), ps[j]? = some b ∧ s.heap.IsTuple b #[k, v] ∧ prs[j]? = some (key, v) ∧ (mixKind X.prog X.w).is key k = true
  | _, _, .nil => ⟨[], [], .nil, rfl, rfl, fun j k v e => by simp at e⟩
  | _, _, .cons (a := p) (b := kv) h t => by
    obtain ⟨prs, vps, r, hl, hl2, hp⟩ := pairs_ofT I t
    obtain ⟨its, rv, ht, _⟩ := I.tuple h
    obtain ⟨u, y, ei, ru, ry⟩ := vals2 rv
    subst ei
    refine ⟨(kv.1, y) :: prs, (u, y) :: vps, .cons ⟨rfl, ry⟩ r, by rw [List.length_cons, List.length_cons, hl], by rw [List.length_cons, List.length_cons, hl2], fun j k v e => ?_⟩
    cases j with
    | zero =>
      have e' : (u, y) = (k, v) := Option.some.inj e
      cases e'
      exact ⟨p, kv.1, rfl, ht, rfl, kV_is (P := X.prog) (w := X.w) ru⟩
    | succ j =>
      obtain ⟨b, key, e1, e2, e3, e4⟩ := hp j k v (by simpa using e)
      exact ⟨b, key, by simpa using e1, e2, by simpa using e3, e4⟩
/-- dict(t) of a plain tuple of pairs (key, value) -/
def rDictT (K : PySem.W.Frag) : List V → Hp → VK → Prop := fun xs H Q => ∃ (a : Addr) (ps : List Addr) (kvs : List (Key × V)), xs = [.ref a] ∧ PlT K H a (ps.map V.ref) ∧ Paired (fun p kv => SqT K H p [kV kv.1, kv.2]) ps kvs ∧
    ∀ p, H p = none → Q (.ref p) (upd H p (.dK (mergeK [] kvs)))
theorem call_dictT (hcalm : X.calm = true) : CallR X (.type "dict") (rDictT X.K) := by
  intro pins s σ H xs us Q I r q
  obtain ⟨a, ps, kvs, ex, hq, hp, q⟩ := q
  subst ex
  obtain ⟨u, eu, rx⟩ := vals1 r
  subst eu
  cases rx
  obtain ⟨o, its, n, rv, ho, hc, hd, hdat, hz⟩ := Inv_ptup I hq
  have ei := refs_at rv
  subst ei
  rw [List.length_map] at hz
  obtain ⟨prs, vps, rel, hl, hl2, hpr⟩ := pairs_ofT I hp
  have hit : PySem.PairItems s.heap (ps.map Value.ref).toArray (fun j => (ps[j]?).getD 0) vps := by
    refine ⟨by simp [hl2], fun j k v e => ?_⟩
    obtain ⟨b, key, e1, e2, e3, e4⟩ := hpr j k v e
    refine ⟨by simp [e1], .inl ?_⟩
    show s.heap.IsTuple ((ps[j]?).getD 0) #[k, v]
    rw [e1]; exact e2
  refine PySem.call_dict_pairs (knd := mixKind X.prog X.w) (kvs := prs) (PySem.PairArg.tuple a (ps.map Value.ref).toArray (fun j => (ps[j]?).getD 0) vps) (I.ok.hd hcalm) ⟨⟨o, n, ho, hc, hd, hdat⟩, hit⟩ ⟨by rw [hl, hl2], fun i key v e => ?_⟩ (by rw [hl2]; exact hz) fun h' tk hd' hk => ?_
  · obtain ⟨b, k, e1, e2, e3, e4⟩ := hpr i key v e
    exact ⟨k, e3, e4⟩
  · have hm : (s.heap.objs.size == sysModules) = false := beq_eq_false_iff_ne.mpr (Nat.ne_of_gt I.big)
    have hlen : (mergeK [] kvs).length ≤ sizeLine := by
      refine Nat.le_trans (length_mergeK kvs []) ?_
      rw [List.length_nil, Nat.zero_add, rel.length, hl]
      exact hz
    exact ⟨.ref s.heap.objs.size, upd H s.heap.objs.size (.dK (mergeK [] kvs)), I.laid (t' := tk) (fun b o e => hk b o (by simp) e) (Nat.le_refl _) (show ObjOk X.prog X.w _ _ _ (.dK (mergeK [] kvs)) from ⟨hlen, hm, merged [] prs, KV.merge rel .nil, hd'⟩), rfl, q _ (I.hok.fresh (Nat.le_refl _))⟩
end
/-! ### dicts as data -/
def getK (kvs : List (Key × D)) (k : Key) : Option D := (kvs.find? fun kv => decide (kv.1 = k)).map (·.2)
def putKD (kvs : List (Key × D)) (k : Key) (d : D) : List (Key × D) :=
  if (kvs.any fun kv => decide (kv.1 = k)) = true then kvs.map (fun kv => if kv.1 = k then (kv.1, d) else kv) else kvs ++ [(k, d)]
def mergeD (kvs more : List (Key × D)) : List (Key × D) := more.foldl (fun acc kv => putKD acc kv.1 kv.2) kvs
def keyD : Key → D
  | .inl i => .int i
  | .inr x => .str x
/-- a key as data -/
def asKey : D → Option Key
  | .int i => some (.inl i)
  | .str x => some (.inr x)
  | _ => none
section
variable {K : PySem.W.Frag} {N : Addr → Prop} {Γ : Gs} {H : Hp}
theorem asKey_rp {d : D} {v : V} {k : Key} (r : Rp K N Γ H d v) (h : asKey d = some k) : v = kV k := by
  cases r <;> cases h <;> rfl
theorem KvR.get : ∀ {ds : List (Key × D)} {vs : List (Key × V)} (_ : KvR K N Γ H ds vs) (k : Key), match getK ds k with | some d => ∃ v, valV vs k = some v ∧ Rp K N Γ H d v | none => valV vs k = none
  | _, _, .nil, k => rfl
  | _, _, .cons (k := k') (d := d) (v := v) (ds := ds) (vs := vs) h t, k => by
    by_cases e : k' = k
    · have e1 : getK ((k', d) :: ds) k = some d := by simp [getK, List.find?_cons, e]
      rw [e1]
      exact ⟨v, valV_pos e, h⟩
    · have e1 : getK ((k', d) :: ds) k = getK ds k := by simp [getK, List.find?_cons, e]
      rw [e1]
      have := t.get k
      have e2 : valV ((k', v) :: vs) k = valV vs k := valV_neg e
      rw [e2]
      exact this
theorem KvR.anyk : ∀ {ds : List (Key × D)} {vs : List (Key × V)} (_ : KvR K N Γ H ds vs) (k : Key), (vs.any fun kv => decide (kv.1 = k)) = (ds.any fun kv => decide (kv.1 = k))
  | _, _, .nil, k => rfl
  | _, _, .cons h t, k => by rw [List.any_cons, List.any_cons, t.anyk k]
theorem KvR.append : ∀ {ds es : List (Key × D)} {vs ws : List (Key × V)}, KvR K N Γ H ds vs → KvR K N Γ H es ws → KvR K N Γ H (ds ++ es) (vs ++ ws)
  | _, _, _, _, .nil, s => s
  | _, _, _, _, .cons h t, s => .cons h (KvR.append t s)
theorem KvR.repl {k : Key} {d : D} {v : V} (q : Rp K N Γ H d v) : ∀ {ds : List (Key × D)} {vs : List (Key × V)}, KvR K N Γ H ds vs → KvR K N Γ H (ds.map fun kv => if kv.1 = k then (kv.1, d) else kv) (vs.map fun kv => if kv.1 = k then (kv.1, v) else kv)
  | _, _, .nil => .nil
  | _, _, .cons (k := k') h t => by
    rw [List.map_cons, List.map_cons]
    by_cases e : k' = k
    · rw [if_pos e, if_pos e]; exact .cons q (t.repl q)
    · rw [if_neg e, if_neg e]; exact .cons h (t.repl q)
theorem KvR.put {k : Key} {d : D} {v : V} (q : Rp K N Γ H d v) {ds : List (Key × D)} {vs : List (Key × V)} (r : KvR K N Γ H ds vs) : KvR K N Γ H (putKD ds k d) (putK vs k v) := by
  unfold putKD putK
  rw [r.anyk k]
  by_cases h : (ds.any fun kv => decide (kv.1 = k)) = true
  · rw [if_pos h, if_pos h]; exact r.repl q
  · rw [if_neg h, if_neg h]; exact r.append (.cons q .nil)
theorem KvR.merge : ∀ {more : List (Key × D)} {ms : List (Key × V)} {ds : List (Key × D)} {vs : List (Key × V)}, KvR K N Γ H more ms → KvR K N Γ H ds vs → KvR K N Γ H (mergeD ds more) (mergeK vs ms)
  | _, _, _, _, .nil, s => s
  | _, _, _, _, .cons (k := k) h t, s => by
    have q : KvR K N Γ H (mergeD (putKD _ k _) _) (mergeK (putK _ k _) _) := KvR.merge t (s.put (k := k) h)
    exact q
theorem Fin.dic {Qd : D → Gs → Prop} {Q : VK} (f : Fin K N Γ H Qd Q) (g : GsOk K N Γ H) {ds : List (Key × D)} {vs : List (Key × V)} (r : KvR K N Γ H ds vs) (q : ∀ p, Γ p = none → Qd (.ptr p) (gup Γ p (.dic ds))) : ∀ p, H p = none → Q (.ref p) (upd H p (.dK vs)) := fun p np =>
  f _ _ _ _ (Ext.own (g := .dic ds) np) (g.own (g := .dic ds) np ⟨vs, upd_same, r.ext (Ext.own np)⟩) (.raw _) (q p (g.none_of np))
/-- the pairs of a tuple -/
def kvsD : List D → Option (List (Key × D))
  | [] => some []
  | .tup [k, d] :: r => match asKey k, kvsD r with | some k', some kvs => some ((k', d) :: kvs) | _, _ => none
  | _ :: _ => none
theorem kvsD_rp : ∀ {ds : List D} {vs : List V} {kvs : List (Key × D)}, RpL K N Γ H ds vs → kvsD ds = some kvs → ∃ (ps : List Addr) (us : List (Key × V)), vs = ps.map V.ref ∧ Paired (fun p kv => SqT K H p [kV kv.1, kv.2]) ps us ∧ KvR K N Γ H kvs us
  | [], _, _, .nil, h => by cases h; exact ⟨[], [], rfl, .nil, .nil⟩
  | d :: ds, _, kvs, .cons h1 h2, h => by
    unfold kvsD at h
    split at h
    · rename_i e; cases e
    · rename_i k d' r e
      cases e
      split at h
      · rename_i k' kvs' e1 e2
        cases h
        cases h1 with
        | tup hx tx =>
          obtain ⟨v, w, rfl, rv, rw_⟩ := tx.inv2
          have ev := asKey_rp rv e1
          subst ev
          obtain ⟨ps, us, rfl, hp, hk⟩ := kvsD_rp h2 e2
          exact ⟨_ :: ps, (k', w) :: us, rfl, .cons hx.sq hp, .cons rw_ hk⟩
      · cases h
    · cases h
/-- an owned dict -/
def dicOf (Γ : Gs) : D → Option (List (Key × D))
  | .raw (.ref a) => match Γ a with | some (.dic kvs) => some kvs | _ => none
  | _ => none
theorem dicOf_rp (ok : GsOk K N Γ H) {d : D} {v : V} {kvs : List (Key × D)} (r : Rp K N Γ H d v) (h : dicOf Γ d = some kvs) : ∃ a vs, d = .raw (.ref a) ∧ v = .ref a ∧ Γ a = some (.dic kvs) ∧ H a = some (.dK vs) ∧ KvR K N Γ H kvs vs := by
  cases d with
  | raw u =>
    cases u with
    | ref a =>
      simp only [dicOf] at h
      cases g : Γ a with
      | none => rw [g] at h; cases h
      | some u =>
        rw [g] at h
        cases u with
        | dic ds =>
          cases h
          cases r
          obtain ⟨vs, e, t⟩ := ok.ok a _ g
          exact ⟨a, vs, rfl, rfl, g, e, t⟩
        | lst _ => cases h
        | ins _ _ _ _ => cases h
    | _ => cases h
  | _ => cases h
end
section
variable {X : Cx} {B : Bd} {pos : Pos}
/-- dict(t), t a tuple of pairs -/
def dDictT : DR := fun ds Γ Q => match ds with
  | [.tup ps] => match kvsD ps with
    | some kvs => ∀ p, Γ p = none → Q (.ptr p) (gup Γ p (.dic (mergeD [] kvs)))
    | none => False
  | _ => False
theorem cd_dictT {K : PySem.W.Frag} : CallD K dDictT (rDictT K) := by
  intro N Γ H vs ds Qd Q ok r h f
  unfold dDictT at h
  split at h
  · obtain ⟨v, rfl, rv⟩ := r.inv1
    split at h
    · rename_i kvs e
      cases rv with
      | tup hx tx =>
        obtain ⟨ps, us, rfl, hp, hk⟩ := kvsD_rp tx e
        exact ⟨_, ps, us, rfl, hx, hp, f.dic ok (KvR.merge hk .nil) h⟩
    · exact h.elim
  · exact h.elim
/-- {} -/
def dDictO : DE := fun _ Γ Q => ∀ p, Γ p = none → Q (.ptr p) (gup Γ p (.dic []))
theorem ye_dictO : PE X (.Dict [] [] pos) (liftE X.K B dDictO) := by
  refine PEi pe_dnewK fun σ H Q h => ?_
  obtain ⟨N, ρ, Γ, Qd, rel, q, f⟩ := h
  exact f.dic rel.gs .nil q
/-- d.get(k, x) -/
def dGet2 (td tk tx : DE) : DE := fun ρ Γ Q => td ρ Γ fun d Γ1 => match dicOf Γ1 d with
  | some _ => tk ρ Γ1 fun k Γ2 => tx ρ Γ2 fun x Γ3 => match asKey k, dicOf Γ3 d with
    | some k', some kvs => Q ((getK kvs k').getD x) Γ3
    | _, _ => False
  | none => False
theorem ye_get2 {kk : Nat} {o e f : Expr} {apos cpos : Pos} {to te tf : DE} (hr : Room kk X.A) (ho : PE X o (liftE X.K B to)) (he : PE X e (liftE X.K B te)) (hf : PE X f (liftE X.K B tf))
    (hbase : attributeBase o "get" X.env (eval o X.env) = eval o X.env := by rfl)
    (hfew : ((backTo cpos (starEach [e, f] X.env)).all (fun x => !x.1) && (backToKw cpos (keywordEach [] X.env)).all (fun x => x.1.isSome)
      && decide (([e, f] : List Expr).length + ([] : List Keyword).length + (if ([] : List Keyword).isEmpty then 0 else 1) < 30)) = true := by rfl)
    (hline : (apos.endLine == cpos.line) = true := by rfl) (hs : backTo cpos (starEach [e, f] X.env) = [(false, eval e X.env), (false, eval f X.env)] := by rfl) :
    PE X (.Call (.Attribute o "get" apos) [e, f] [] cpos) (liftE X.K B (dGet2 to te tf)) := by
  refine PEi (pe_dget2 (by have := hr.units; omega) ho he hf ⟨hbase, hfew, hline, hs⟩) fun σ H Q h => ?_
  obtain ⟨N, ρ, Γ, Qd, rel, q, f⟩ := h
  refine ⟨N, ρ, Γ, _, rel, q, fun v H1 d1 Γ1 x1 g1 r1 q1 => ?_⟩
  split at q1
  · rename_i kvs0 e0
    obtain ⟨a, vs0, rfl, rfl, _, h0, _⟩ := dicOf_rp g1 r1 e0
    refine ⟨a, rfl, .inl ⟨vs0, .inl h0⟩, N, ρ, Γ1, _, rel.ext x1 g1, q1, fun y H2 d2 Γ2 x2 g2 r2 q2 => ⟨N, ρ, Γ2, _, rel.ext (x1.trans x2) g2, q2, fun z H3 d3 Γ3 x3 g3 r3 q3 => ?_⟩⟩
    split at q3
    · rename_i k' kvs ek ekv
      have ev := asKey_rp (r2.ext x3) ek
      subst ev
      obtain ⟨a', vs, e1, e2, _, h3, hkv⟩ := dicOf_rp g3 ((Rp.raw (K := X.K) (N := N) (Γ := Γ3) (H := H3) (.ref a))) ekv
      cases e1
      refine ⟨_, DGet.k h3, ?_⟩
      have hg := hkv.get k'
      split at hg
      · rename_i d eg
        obtain ⟨v, ev, rv⟩ := hg
        rw [ev]
        rw [eg] at q3
        exact (f.mv ((x1.trans x2).trans x3)).now g3 rv q3
      · rename_i eg
        rw [hg]
        rw [eg] at q3
        exact (f.mv ((x1.trans x2).trans x3)).now g3 r3 q3
    · exact q3.elim
  · exact q1.elim
end
end Y
set_option Elab.async false
set_option linter.all false
set_option maxRecDepth 100000
set_option maxHeartbeats 4000000
/-! the data layer: what the top has left -/
namespace Y
open PySem PySem.Spec PyProof.Rows L2
section
variable {K : PySem.W.Frag} {h : Heap} {mg : Str → Option Value}
theorem at_mk {f : Addr} {x : Str} {st : Stmt} {ps : List Str} {oc : Value} {od an : Option Addr} {osl : Array (Option Value)} {kV doc pm cdv ct : Value} (X : K.In h) (G : h.Ns mainGlobals mg)
    (a : PySem.W.nsIn K mainGlobals x = some (some (.ref f))) (l : K.lookup f = some ⟨oc, od, .func (PySem.W.fnOf x x (defArgs st) (defBody st) (defScope st) .none kV doc pm an cdv ct), osl⟩) (c : PySem.W.codeIn K cdv x = true) (k : PySem.W.keepIn K (.ref f) = true)
    (hb : ∀ (kV doc pm : Value) (an : Option Addr) (cdv ct : Value) (us : List Value), us.length = ps.length → bindArgs (PySem.W.fnOf x x (defArgs st) (defBody st) (defScope st) .none kV doc pm an cdv ct) ⟨us, []⟩ = pure (ps.zip us)) : At K mg x st ps :=
  ⟨f, _, fun_mk l c k, PySem.W.mg_of X G a, (fun_mk l c k).binds hb⟩
theorem atM_mk {f C : Addr} {m qual : Str} {st : Stmt} {ps : List Str} {oc : Value} {od an : Option Addr} {osl : Array (Option Value)} {kV doc pm cdv ct : Value}
    (a : PySem.W.findIn K (.ref C) m = some (some (.ref f))) (i : PySem.W.isFn K (.ref f) = true) (l : K.lookup f = some ⟨oc, od, .func (PySem.W.fnOf m qual (defArgs st) (defBody st) (defScope st) .none kV doc pm an cdv ct), osl⟩) (c : PySem.W.codeIn K cdv qual = true) (k : PySem.W.keepIn K (.ref f) = true)
    (hb : ∀ (kV doc pm : Value) (an : Option Addr) (cdv ct : Value) (us : List Value), us.length = ps.length → bindArgs (PySem.W.fnOf m qual (defArgs st) (defBody st) (defScope st) .none kV doc pm an cdv ct) ⟨us, []⟩ = pure (ps.zip us)) : AtM K C m qual st ps :=
  ⟨f, _, fun_mk l c k, ⟨a, i, k⟩, (fun_mk l c k).binds hb⟩
theorem atC_mk {f C : Addr} {x qual : Str} {st : Stmt} {ps : List Str} {oc : Value} {od an : Option Addr} {osl : Array (Option Value)} {kV doc pm cdv ct : Value} (X : K.In h) (G : h.Ns mainGlobals mg)
    (aC : PySem.W.nsIn K mainGlobals x = some (some (.ref C))) (mk : PySem.W.makesIn K C = true) (kc : PySem.W.keepIn K (.ref C) = true)
    (a : PySem.W.findIn K (.ref C) "__init__" = some (some (.ref f))) (i : PySem.W.isFn K (.ref f) = true) (l : K.lookup f = some ⟨oc, od, .func (PySem.W.fnOf "__init__" qual (defArgs st) (defBody st) (defScope st) .none kV doc pm an cdv ct), osl⟩) (c : PySem.W.codeIn K cdv qual = true) (k : PySem.W.keepIn K (.ref f) = true)
    (hb : ∀ (kV doc pm : Value) (an : Option Addr) (cdv ct : Value) (us : List Value), us.length = ps.length → bindArgs (PySem.W.fnOf "__init__" qual (defArgs st) (defBody st) (defScope st) .none kV doc pm an cdv ct) ⟨us, []⟩ = pure (ps.zip us)) : AtC K mg x C qual st ps :=
  ⟨f, _, fun_mk l c k, PySem.W.mg_of X G aC, ⟨mk, a, i, kc⟩, (fun_mk l c k).binds hb⟩
/-- none of these names is of the class -/
def noAll (K : PySem.W.Frag) (C : Addr) : List Str → Prop
  | [] => True
  | f :: r => PySem.W.findIn K (.ref C) f = some none ∧ noAll K C r
theorem noAll_nil {C : Addr} : noAll K C [] := trivial
theorem noAll_cons {C : Addr} {f : Str} {r : List Str} (h : PySem.W.findIn K (.ref C) f = some none) (t : noAll K C r) : noAll K C (f :: r) := ⟨h, t⟩
theorem noAll_mem {C : Addr} : ∀ {ns : List Str}, noAll K C ns → ∀ f, f ∈ ns → NoAttr K C f
  | [], _, f, h => nomatch h
  | _ :: _, hs, f, h => (List.mem_cons.mp h).elim (fun e => e ▸ hs.1) fun z => noAll_mem hs.2 f z
theorem kls_mk {C : Addr} {ns : List Str} (pg : PySem.W.plainGet K C Str.empty = true) (hd : PySem.W.hasDictIn K C = true) (po : PySem.W.plainOver K C = true) (sa : PySem.W.findIn K (.ref C) "__setattr__" = some (some (.builtin "object.__setattr__")))
    (no : noAll K C ns) (nd : ns.Nodup) : Kls K C ns :=
  ⟨⟨pg, hd, po, sa⟩, noAll_mem no, nd⟩
/-- a value of the module that is data -/
inductive CV (K : PySem.W.Frag) : D → Value → Prop
  | int {i : Int} {t : Tok} : CV K (.int i) (.int i t)
  | str {x : Str} {t : Tok} : CV K (.str x) (.str x t)
  | tup {a : Addr} {ds : List D} {o : Obj} {us : List Value} : K.lookup a = some o → o.cls = .type "tuple" → o.dict = none → (∃ n, o.data = .seq us.toArray n) → us.length ≤ sizeLine → (∀ (i : Nat) (d : D) (u : Value), ds[i]? = some d → us[i]? = some u → CV K d u) → ds.length = us.length → CV K (.tup ds) (.ref a)
theorem CV.t0 {a : Addr} {n : Nat} {sl : Array (Option Value)} (l : K.lookup a = some ⟨.type "tuple", none, .seq #[] n, sl⟩) : CV K (.tup []) (.ref a) :=
  .tup (us := []) l rfl rfl ⟨n, rfl⟩ (by decide) (fun i d u e _ => by simp at e) rfl
theorem CV.t1 {a : Addr} {n : Nat} {sl : Array (Option Value)} {d : D} {u : Value} (l : K.lookup a = some ⟨.type "tuple", none, .seq #[u] n, sl⟩) (h : CV K d u) : CV K (.tup [d]) (.ref a) :=
  .tup (us := [u]) l rfl rfl ⟨n, rfl⟩ (lines (by show 1 ≤ 16777216; omega)) (fun i d' u' e e' => by
    match i with
    | 0 => simp at e e'; subst e e'; exact h
    | i + 1 => simp at e) rfl
theorem CV.t2 {a : Addr} {n : Nat} {sl : Array (Option Value)} {d e : D} {u v : Value} (l : K.lookup a = some ⟨.type "tuple", none, .seq #[u, v] n, sl⟩) (h : CV K d u) (k : CV K e v) : CV K (.tup [d, e]) (.ref a) :=
  .tup (us := [u, v]) l rfl rfl ⟨n, rfl⟩ (lines (by show 2 ≤ 16777216; omega)) (fun i d' u' e e' => by
    match i with
    | 0 => simp at e e'; subst e e'; exact h
    | 1 => simp at e e'; subst e e'; exact k
    | i + 2 => simp at e) rfl
theorem CV.t3 {a : Addr} {n : Nat} {sl : Array (Option Value)} {d e f : D} {u v w : Value} (l : K.lookup a = some ⟨.type "tuple", none, .seq #[u, v, w] n, sl⟩) (h : CV K d u) (k : CV K e v) (m : CV K f w) : CV K (.tup [d, e, f]) (.ref a) :=
  .tup (us := [u, v, w]) l rfl rfl ⟨n, rfl⟩ (lines (by show 3 ≤ 16777216; omega)) (fun i d' u' e e' => by
    match i with
    | 0 => simp at e e'; subst e e'; exact h
    | 1 => simp at e e'; subst e e'; exact k
    | 2 => simp at e e'; subst e e'; exact m
    | i + 3 => simp at e) rfl
theorem CV.rp {d : D} {u : Value} (h : CV K d u) : ∃ v, RelV v u ∧ ∀ N Γ H, Rp K N Γ H d v := by
  induction h with
  | int => exact ⟨.int _, ⟨_, rfl⟩, fun _ _ _ => .int _⟩
  | str => exact ⟨.str _, ⟨_, rfl⟩, fun _ _ _ => .str _⟩
  | @tup a ds o us l hc hd hdat hz hi hl ih =>
    refine ⟨.ref a, rfl, fun N Γ H => ?_⟩
    have key : ∀ (es : List D) (ws : List Value), (∀ (i : Nat) (d : D) (u : Value), es[i]? = some d → ws[i]? = some u → ∃ v, RelV v u ∧ ∀ N Γ H, Rp K N Γ H d v) → es.length = ws.length → ∃ vs, Vals vs ws ∧ ∀ N Γ H, RpL K N Γ H es vs := by
      intro es
      induction es with
      | nil =>
        intro ws _ hl
        have : ws = [] := List.eq_nil_of_length_eq_zero hl.symm
        subst this
        exact ⟨[], .nil, fun _ _ _ => .nil⟩
      | cons e es ihe =>
        intro ws hs hl
        cases ws with
        | nil => simp at hl
        | cons w ws =>
          obtain ⟨v, r, hv⟩ := hs 0 e w rfl rfl
          obtain ⟨vs, rs, hvs⟩ := ihe ws (fun i d u e1 e2 => hs (i + 1) d u (by simpa using e1) (by simpa using e2)) (by simpa using hl)
          exact ⟨v :: vs, .cons r rs, fun N Γ H => .cons (hv N Γ H) (hvs N Γ H)⟩
    obtain ⟨vs, r, hr⟩ := key ds us (fun i d u e1 e2 => ih i d u e1 e2) hl
    obtain ⟨n, hdat⟩ := hdat
    exact .tup (.inr ⟨o, us.toArray, n, l, hc, hd, hdat, by simpa using hz, by simpa using r⟩) (hr N Γ H)
theorem cst_mk {x : Str} {u : Value} {d : D} (X : K.In h) (G : h.Ns mainGlobals mg) (a : PySem.W.nsIn K mainGlobals x = some (some u)) (c : CV K d u) : Cst K mg x d := by
  obtain ⟨v, r, hv⟩ := c.rp
  exact ⟨v, u, PySem.W.mg_of X G a, r, hv⟩
end
end Y
namespace Y
open PySem PySem.Spec PyProof.Rows L2
theorem ints_rp {K : PySem.W.Frag} {N : Addr → Prop} {Γ : Gs} {H : Hp} : ∀ ns : List Int, RpL K N Γ H (ns.map D.int) (ns.map V.int)
  | [] => .nil
  | n :: ns => .cons (.int n) (ints_rp ns)
theorem law_start {dsp : DSp} (K : PySem.W.Frag) (H : Hp) (a : Addr) (ns : List Int) (hO : Only H) (hS : SqL K H a (ns.map V.int)) (h : ∀ Γ, dsp [.scr (ns.map .int)] Γ (fun d _ => d = .bl true) E0d) :
    liftSp K dsp [.ref a] H (fun v _ => v = .bl true) fun _ _ _ => False := by
  refine ⟨fun _ => False, [.scr (ns.map .int)], fun _ => none, _, _, .cons (.scr ?_ (ints_rp ns)) .nil, ⟨fun _ _ e => (nomatch e), fun _ e => e.elim⟩, h _, fun v H' d Γ' x g r q => ?_, fun _ _ _ _ _ _ e => e⟩
  · rcases hS with (hS | ⟨o, hS⟩) | hS
    · rcases hO a with z | ⟨o, xs, z⟩
      · rw [z] at hS; cases hS
      · rw [z] at hS; cases hS
    · exact .inl ⟨o, hS⟩
    · exact .inr hS
  · subst q; cases r; rfl
end Y
namespace Y
open PySem PySem.Spec PyProof.Rows L2
theorem srcOf_tup {xs ys : List D} : srcOf (.tup xs) ys = none := rfl
theorem srcOf_lst {xs ys : List D} : srcOf (.lst xs) ys = none := rfl
theorem srcOf_scr {xs ys : List D} : srcOf (.scr xs) ys = none := rfl
theorem srcOf_ptr {a : Addr} {ys : List D} : srcOf (.raw (.ref a)) ys = some (a, ys) := rfl
/-- all of a list of truth values -/
theorem lc_all {g : DG} {te : DE} {ρ : Ds} {Γ : Gs} {Q : List D → Gs → Prop} (f : D → Bool) (xs : List D) (step : ∀ x (R : D → Gs → Prop), x ∈ xs → R (.bl (f x)) Γ → g x ρ Γ fun ρ1 Γ1 => te ρ1 Γ1 R) (fin : Q ((xs.map f).map D.bl) Γ) :
    lcRun none g dYes te ρ Q xs [] Γ := by
  have h := lcRun_map (Q := Q) (Γ := Γ) (ρ := ρ) (g := g) (tt := dYes) (te := te) (fun x => x) (fun x => .bl (f x)) xs (fun y R R' hy r => by
    simp only [dYes]
    exact step y R hy r) (by rw [List.map_map] at fin; exact fin)
  simpa using h
theorem all_map {α : Type} (f : α → Bool) (xs : List α) : (xs.map f).all id = xs.all f := by
  rw [List.all_map]; rfl
end Y
namespace Y
open PySem PySem.Spec PyProof.Rows L2
theorem ixN_at {n j : Nat} (hj : j < n) : ixN n (j : Int) = some j := by
  unfold ixN
  rw [if_pos (by omega), if_pos (by omega), Int.toNat_natCast]
end Y
namespace Y
open PySem PySem.Spec PyProof.Rows L2
theorem dicOf_ptr {Γ : Gs} {a : Addr} {kvs : List (Key × D)} (h : Γ a = some (.dic kvs)) : dicOf Γ (.raw (.ref a)) = some kvs := by
  simp only [dicOf, h]
end Y
namespace Y
open PySem PySem.Spec PyProof.Rows L2
/-- two statements, told by what holds between them -/
theorem dSeq_mk {t u : DS} {D : DEnds} {ρ : Ds} {Γ : Gs} (R : Ds → Gs → Prop) (h1 : ∀ Z : DEnds, (∀ ρ Γ, R ρ Γ → Z.nx ρ Γ) → Z.rt = D.rt → Z.bk = D.bk → Z.ct = D.ct → t Z ρ Γ) (h2 : ∀ ρ Γ, R ρ Γ → u D ρ Γ) : dSeq t u D ρ Γ :=
  h1 { D with nx := u D } h2 rfl rfl rfl
/-- all that was owned but h is as it was -/
def Keep (h : Addr) (Γ Γ' : Gs) : Prop := ∀ a g, a ≠ h → Γ a = some g → Γ' a = some g
theorem Keep.refl (h : Addr) (Γ : Gs) : Keep h Γ Γ := fun _ _ _ e => e
theorem Keep.trans {h : Addr} {Γ Γ1 Γ2 : Gs} (x : Keep h Γ Γ1) (y : Keep h Γ1 Γ2) : Keep h Γ Γ2 := fun a g n e => y a g n (x a g n e)
theorem Keep.write {h : Addr} {Γ Γ' : Gs} {g : G} (x : Keep h Γ Γ') : Keep h Γ (gup Γ' h g) := fun a g' n e => by rw [gup_ne n]; exact x a g' n e
theorem Keep.new {h p : Addr} {Γ Γ' : Gs} {g : G} (x : Keep h Γ Γ') (n : Γ' p = none) : Keep h Γ (gup Γ' p g) := fun a g' ne e => by
  have e1 := x a g' ne e
  rw [gup_ne (gne e1 n)]; exact e1
theorem Keep.up {h p : Addr} {Γ Γ' : Gs} {g : G} (x : Keep h Γ Γ') (n : Γ p = none) : Keep h Γ (gup Γ' p g) := fun a g' ne e => by
  rw [gup_ne (gne e n)]; exact x a g' ne e
theorem cutD_all {f : Int → D} {ns : List Int} {k : Nat} (h : ns.length ≤ k) : cutD (ns.map f) none (some (k : Int)) = ns.map f := by
  refine cutD_whole ⟨HT.sIx_none _ _, ?_⟩
  rw [HT.sIx_nat, List.length_map]
  omega
end Y
namespace Y
open PySem PySem.Spec PyProof.Rows L2
theorem cutD_63 {f : Int → D} {ns : List Int} (h : ns.length ≤ 63) : cutD (ns.map f) none (some 63) = ns.map f := cutD_all (k := 63) h
theorem seqOf_gup {Γ : Gs} {h : Addr} {xs : List D} : seqOf (gup Γ h (.lst xs)) (.raw (.ref h)) = some xs := seqOf_ptr gup_same
theorem lstOf_gup {Γ : Gs} {h : Addr} {xs : List D} : lstOf (gup Γ h (.lst xs)) (.raw (.ref h)) = some xs := lstOf_ptr gup_same
theorem ixN_50 : ixN 5 0 = some 0 := rfl
theorem ixN_51 : ixN 5 1 = some 1 := rfl
theorem ixN_52 : ixN 5 2 = some 2 := rfl
theorem ixN_53 : ixN 5 3 = some 3 := rfl
theorem ixN_54 : ixN 5 4 = some 4 := rfl
end Y
namespace Y
open PySem PySem.Spec PyProof.Rows L2
/-- a statement, the rest behind it out of sight -/
theorem dSeq_cut {t u : DS} {D : DEnds} {ρ : Ds} {Γ : Gs} (h : ∀ Z : DEnds, (∀ ρ Γ, u D ρ Γ → Z.nx ρ Γ) → Z.rt = D.rt → t Z ρ Γ) : dSeq t u D ρ Γ :=
  h { D with nx := u D } (fun _ _ x => x) rfl
end Y
set_option Elab.async false
set_option linter.all false
set_option maxRecDepth 100000
set_option maxHeartbeats 4000000
/-! fractions, plainly -/
namespace Z
open PySem PySem.Spec PyProof.Rows L2 Y
abbrev Fr := Int × Int
def dF (x : Fr) : D := .tup [.int x.1, .int x.2]
def gcdI (x y : Int) : Int := (Int.gcd x y : Nat)
theorem gcdI_pos {t b : Int} (h : 0 < b) : 0 < gcdI t b := by
  unfold gcdI
  have := Int.gcd_pos_of_ne_zero_right t (show b ≠ 0 by omega)
  omega
theorem gcdI_zero (a : Int) (h : 0 ≤ a) : gcdI a 0 = a := by unfold gcdI; rw [Int.gcd_zero_right]; omega
theorem gcdI_abs (t b : Int) : gcdI (t.natAbs : Int) b = gcdI t b := by unfold gcdI Int.gcd; simp
theorem gcdI_abs2 (t b : Int) : gcdI t (b.natAbs : Int) = gcdI t b := by unfold gcdI Int.gcd; simp
theorem gcdI_dvd1 (t b : Int) : gcdI t b ∣ t := Int.gcd_dvd_left t b
theorem gcdI_dvd2 (t b : Int) : gcdI t b ∣ b := Int.gcd_dvd_right t b
theorem gcdI_step2 {a b k : Int} : gcdI b (a - b * k) = gcdI a b := by
  unfold gcdI
  rw [Int.gcd_sub_mul_left_right, Int.gcd_comm]
theorem gcdI_step {a b : Int} : gcdI b (a % b) = gcdI a b := by
  rw [Int.emod_def]; exact gcdI_step2
theorem gcdI_le {t b : Int} (h : 0 < b) : gcdI t b ≤ b := by
  have := Int.le_of_dvd h (gcdI_dvd2 t b)
  exact this
structure FrOk (x : Fr) : Prop where
  pos : 0 < x.2
  low : gcdI x.1 x.2 = 1
def mk (t b : Int) : Fr := (t / gcdI t b, b / gcdI t b)
theorem mk_ok (t : Int) {b : Int} (h : 0 < b) : FrOk (mk t b) := by
  have hg := gcdI_pos (t := t) h
  constructor
  · show 0 < b / gcdI t b
    exact Int.ediv_pos_of_pos_of_dvd h (by omega) (gcdI_dvd2 t b)
  · show gcdI (t / gcdI t b) (b / gcdI t b) = 1
    unfold gcdI
    have h1 := Int.gcd_ediv_gcd_ediv_gcd (i := t) (j := b) (by have := hg; unfold gcdI at this; omega)
    exact congrArg Int.ofNat h1
/-- of at most so many bits -/
def Sm (n : Nat) (x : Fr) : Prop := x.1.natAbs < 2 ^ n ∧ x.2.natAbs < 2 ^ n
theorem Sm.mono {n m : Nat} {x : Fr} (h : Sm n x) (l : n ≤ m) : Sm m x :=
  ⟨Nat.lt_of_lt_of_le h.1 (Nat.pow_le_pow_right (by decide) l), Nat.lt_of_lt_of_le h.2 (Nat.pow_le_pow_right (by decide) l)⟩
theorem natAbs_ediv_le (t g : Int) (h : 0 < g) (d : g ∣ t) : (t / g).natAbs ≤ t.natAbs := by
  obtain ⟨k, rfl⟩ := d
  rw [Int.mul_ediv_cancel_left k (by omega), Int.natAbs_mul]
  exact Nat.le_mul_of_pos_left _ (by omega)
theorem mk_sm {n : Nat} {t b : Int} (h : 0 < b) (ht : t.natAbs < 2 ^ n) (hb : b.natAbs < 2 ^ n) : Sm n (mk t b) := by
  have hg := gcdI_pos (t := t) h
  exact ⟨Nat.lt_of_le_of_lt (natAbs_ediv_le t _ hg (gcdI_dvd1 t b)) ht, Nat.lt_of_le_of_lt (natAbs_ediv_le b _ hg (gcdI_dvd2 t b)) hb⟩
def plus (x y : Fr) : Fr := mk (x.1 * y.2 + y.1 * x.2) (x.2 * y.2)
def times (x y : Fr) : Fr := mk (x.1 * y.1) (x.2 * y.2)
def neg (x : Fr) : Fr := (0 - x.1, x.2)
theorem plus_ok {x y : Fr} (hx : 0 < x.2) (hy : 0 < y.2) : FrOk (plus x y) := mk_ok _ (Int.mul_pos hx hy)
theorem times_ok {x y : Fr} (hx : 0 < x.2) (hy : 0 < y.2) : FrOk (times x y) := mk_ok _ (Int.mul_pos hx hy)
theorem neg_ok {x : Fr} (h : FrOk x) : FrOk (neg x) := ⟨h.pos, by
  show gcdI (0 - x.1) x.2 = 1
  have : gcdI (0 - x.1) x.2 = gcdI x.1 x.2 := by
    rw [← gcdI_abs, ← gcdI_abs x.1]
    have : (0 - x.1).natAbs = x.1.natAbs := by omega
    rw [this]
  rw [this]; exact h.low⟩
theorem natAbs_mul_lt {n m : Nat} {a b : Int} (ha : a.natAbs < 2 ^ n) (hb : b.natAbs < 2 ^ m) : (a * b).natAbs < 2 ^ (n + m) := wide_lt ha hb
theorem plus_nums {n m : Nat} {x y : Fr} (hx : Sm n x) (hy : Sm m y) : (x.1 * y.2 + y.1 * x.2).natAbs < 2 ^ (n + m + 1) ∧ (x.2 * y.2).natAbs < 2 ^ (n + m) := by
  have h1 := natAbs_mul_lt hx.1 hy.2
  have h2 := natAbs_mul_lt hy.1 hx.2
  have h3 := natAbs_mul_lt hx.2 hy.2
  refine ⟨?_, h3⟩
  have h4 := Int.natAbs_add_le (x.1 * y.2) (y.1 * x.2)
  rw [Nat.add_comm m n] at h2
  rw [Nat.pow_succ]
  omega
theorem plus_sm {n m : Nat} {x y : Fr} (hx : Sm n x) (hy : Sm m y) (px : 0 < x.2) (py : 0 < y.2) : Sm (n + m + 1) (plus x y) := by
  obtain ⟨h1, h2⟩ := plus_nums hx hy
  exact mk_sm (Int.mul_pos px py) h1 (Nat.lt_of_lt_of_le h2 (Nat.pow_le_pow_right (by decide) (by omega)))
theorem times_sm {n m : Nat} {x y : Fr} (hx : Sm n x) (hy : Sm m y) (px : 0 < x.2) (py : 0 < y.2) : Sm (n + m) (times x y) :=
  mk_sm (Int.mul_pos px py) (natAbs_mul_lt hx.1 hy.1) (natAbs_mul_lt hx.2 hy.2)
theorem neg_sm {n : Nat} {x : Fr} (hx : Sm n x) : Sm n (neg x) := ⟨by show (0 - x.1).natAbs < _; have := hx.1; omega, hx.2⟩
theorem frok_zero {x : Fr} (h : FrOk x) (z : x.1 = 0) : x = (0, 1) := by
  obtain ⟨a, b⟩ := x
  have h1 := h.low
  simp only at z h1
  subst z
  have : gcdI 0 b = b := by unfold gcdI; rw [Int.gcd_zero_left]; have := h.pos; simp only at this; omega
  rw [this] at h1
  rw [h1]
/-! ### as data -/
section
variable {Γ : Gs} {x y : Fr}
theorem seqOf_dF : seqOf Γ (dF x) = some [.int x.1, .int x.2] := rfl
theorem tyD_dF : tyD Γ (dF x) = some .tup := rfl
theorem pyOk_dF {n : Nat} : pyOk (n + 1) (dF x) = true := by simp [dF, pyOk, pyOkL]
theorem resD_dF : resD Γ (dF x) = dF x := rfl
theorem eqD_dF : eqD (dF x) (dF y) = decide (x = y) := by
  obtain ⟨a, b⟩ := x
  obtain ⟨c, d⟩ := y
  simp only [dF, eqD, eqDL, Bool.and_true, Prod.mk.injEq]
  rw [Bool.eq_iff_iff]; simp
theorem dF_eq (t b : Int) : D.tup [.int t, .int b] = dF (t, b) := rfl
end
end Z
set_option Elab.async false
set_option linter.all false
set_option maxRecDepth 100000
set_option maxHeartbeats 4000000
/-! sums and marked points, plainly -/
namespace Z
open PySem PySem.Spec PyProof.Rows L2 Y
abbrev Sm' := List Fr × Fr
def nzP (k : Nat) : List Fr → List (Nat × Fr)
  | [] => []
  | f :: r => if f.1 ≠ 0 then (k, f) :: nzP (k + 1) r else nzP (k + 1) r
def dP (p : Nat × Fr) : D := .tup [.int p.1, dF p.2]
def dS (s : Sm') : D := .tup [.tup ((nzP 0 s.1).map dP), dF s.2]
abbrev Mk' := List Fr × Bool
def dM (m : Mk') : D := .tup [.tup (m.1.map dF), .bl m.2]
/-- m factors, all of at most n bits -/
structure SOk (n m : Nat) (s : Sm') : Prop where
  len : s.1.length = m
  fok : ∀ f, f ∈ s.1 → FrOk f
  fsm : ∀ f, f ∈ s.1 → Sm n f
  cok : FrOk s.2
  csm : Sm n s.2
structure MOk (m : Nat) (x : Mk') : Prop where
  len : x.1.length = m
  fok : ∀ f, f ∈ x.1 → FrOk f
  fsm : ∀ f, f ∈ x.1 → Sm 4 f
theorem SOk.mono {n n' m : Nat} {s : Sm'} (h : SOk n m s) (l : n ≤ n') : SOk n' m s := ⟨h.len, h.fok, fun f hf => (h.fsm f hf).mono l, h.cok, h.csm.mono l⟩
theorem nzP_get : ∀ (k : Nat) (fs : List Fr) (p : Nat × Fr), p ∈ nzP k fs → k ≤ p.1 ∧ fs[p.1 - k]? = some p.2 ∧ p.2.1 ≠ 0
  | _, [], _, h => by cases h
  | k, f :: r, p, h => by
    unfold nzP at h
    split at h
    · rename_i hf
      rcases List.mem_cons.mp h with e | h
      · subst e; simp [hf]
      · obtain ⟨h1, h2, h3⟩ := nzP_get (k + 1) r p h
        refine ⟨by omega, ?_, h3⟩
        have e : p.1 - k = (p.1 - (k + 1)) + 1 := by omega
        rw [e, List.getElem?_cons_succ]; exact h2
    · obtain ⟨h1, h2, h3⟩ := nzP_get (k + 1) r p h
      refine ⟨by omega, ?_, h3⟩
      have e : p.1 - k = (p.1 - (k + 1)) + 1 := by omega
      rw [e, List.getElem?_cons_succ]; exact h2
theorem nzP_mem {fs : List Fr} {p : Nat × Fr} (h : p ∈ nzP 0 fs) : fs[p.1]? = some p.2 ∧ p.2 ∈ fs ∧ p.2.1 ≠ 0 ∧ p.1 < fs.length := by
  obtain ⟨_, h2, h3⟩ := nzP_get 0 fs p h
  rw [Nat.sub_zero] at h2
  exact ⟨h2, List.mem_of_getElem? h2, h3, (List.getElem?_eq_some_iff.mp h2).1⟩
theorem nzP_len : ∀ (k : Nat) (fs : List Fr), (nzP k fs).length ≤ fs.length
  | _, [] => Nat.le_refl _
  | k, f :: r => by
    unfold nzP
    split
    · have := nzP_len (k + 1) r; simp only [List.length_cons]; omega
    · have := nzP_len (k + 1) r; simp only [List.length_cons]; omega
theorem nzP_zip (fs : List Fr) : ∀ k, ((fs.zipIdx k).filter fun p => decide (p.1.1 ≠ 0)).map (fun p => dP (p.2, p.1)) = (nzP k fs).map dP := by
  induction fs with
  | nil => intro k; rfl
  | cons f r ih =>
    intro k
    rw [List.zipIdx_cons, List.filter_cons]
    unfold nzP
    by_cases h : f.1 ≠ 0
    · rw [if_pos (show decide ((f, k).1.1 ≠ 0) = true from decide_eq_true h), if_pos h, List.map_cons, List.map_cons, ih (k + 1)]
    · rw [if_neg (show ¬ decide ((f, k).1.1 ≠ 0) = true from fun z => h (of_decide_eq_true z)), if_neg h, ih (k + 1)]
/-- the factors filled in -/
def fill (ps : List (Nat × Fr)) (gs : List Fr) : List Fr := ps.foldl (fun g p => g.set p.1 p.2) gs
theorem fill_nz : ∀ (fs pre : List Fr), (∀ f, f ∈ fs → FrOk f) → fill (nzP pre.length fs) (pre ++ List.replicate fs.length (0, 1)) = pre ++ fs
  | [], pre, _ => by simp [nzP, fill]
  | f :: r, pre, h => by
    have ih := fill_nz r (pre ++ [f]) fun g hg => h g (List.mem_cons_of_mem _ hg)
    rw [List.length_append, List.length_singleton, List.append_assoc, List.append_assoc] at ih
    unfold nzP
    rw [List.length_cons, List.replicate_succ]
    by_cases hz : f.1 ≠ 0
    · rw [if_pos hz]
      unfold fill
      rw [List.foldl_cons]
      have e : (pre ++ (0, 1) :: List.replicate r.length ((0, 1) : Fr)).set pre.length f = pre ++ f :: List.replicate r.length (0, 1) := by
        rw [List.set_append_right _ _ (Nat.le_refl _), Nat.sub_self, List.set_cons_zero]
      rw [e]
      exact ih
    · rw [if_neg hz]
      have e : f = (0, 1) := frok_zero (h f List.mem_cons_self) (by simpa using hz)
      subst e
      exact ih
theorem fill_start {fs : List Fr} (h : ∀ f, f ∈ fs → FrOk f) : fill (nzP 0 fs) (List.replicate fs.length (0, 1)) = fs := by
  have := fill_nz fs [] h
  simpa using this
/-! ### worth -/
def worthP (vs : List Fr) : List (Nat × Fr) → Fr → Fr
  | [], a => a
  | p :: r, a => worthP vs r (plus a (times p.2 (vs.getD p.1 (0, 1))))
def worth (vs : List Fr) (s : Sm') : Fr := worthP vs (nzP 0 s.1) s.2
theorem worthP_ok (vs : List Fr) (hv : ∀ v, v ∈ vs → FrOk v) : ∀ (ps : List (Nat × Fr)) (a : Fr), FrOk a → (∀ p, p ∈ ps → FrOk p.2 ∧ p.1 < vs.length) → FrOk (worthP vs ps a)
  | [], a, ha, _ => ha
  | p :: r, a, ha, hp => worthP_ok vs hv r _ (plus_ok ha.pos (times_ok (hp p List.mem_cons_self).1.pos (by
      have hl := (hp p List.mem_cons_self).2
      rw [List.getD_eq_getElem?_getD, List.getElem?_eq_getElem hl]
      exact (hv _ (List.getElem_mem hl)).pos)).pos) fun q hq => hp q (List.mem_cons_of_mem _ hq)
def rightB (s : Sm') (x : Mk') : Bool := if x.2 = true then decide (0 < (worth x.1 s).1) else decide ((worth x.1 s).1 < 0)
def byOf (b : Bool) : Fr := if b = true then (1, 1) else (-1, 1)
def slip (s : Sm') (x : Mk') : Sm' := (List.zipWith (fun a y => plus a (times (byOf x.2) y)) s.1 x.1, plus s.2 (byOf x.2))
theorem byOf_ok (b : Bool) : FrOk (byOf b) := by cases b <;> exact ⟨by decide, by decide⟩
theorem byOf_sm (b : Bool) : Sm 1 (byOf b) := by cases b <;> exact ⟨by decide, by decide⟩
theorem slip_ok {n m : Nat} {s : Sm'} {x : Mk'} (h : SOk n m s) (hx : MOk m x) : SOk (n + 6) m (slip s x) := by
  have key : ∀ f, f ∈ (slip s x).1 → FrOk f ∧ Sm (n + 6) f := by
    intro f hf
    unfold slip at hf
    simp only at hf
    obtain ⟨i, hi, rfl⟩ := List.mem_iff_getElem.mp hf
    rw [List.getElem_zipWith]
    rw [List.length_zipWith] at hi
    have h1 : i < s.1.length := by omega
    have h2 : i < x.1.length := by omega
    have a1 := h.fok _ (List.getElem_mem h1)
    have a2 := h.fsm _ (List.getElem_mem h1)
    have b1 := hx.fok _ (List.getElem_mem h2)
    have b2 := hx.fsm _ (List.getElem_mem h2)
    have t1 := times_ok (byOf_ok x.2).pos b1.pos
    have t2 := times_sm (byOf_sm x.2) b2 (byOf_ok x.2).pos b1.pos
    exact ⟨plus_ok a1.pos t1.pos, (plus_sm a2 t2 a1.pos t1.pos).mono (by omega)⟩
  refine ⟨?_, fun f hf => (key f hf).1, fun f hf => (key f hf).2, plus_ok h.cok.pos (byOf_ok x.2).pos, (plus_sm h.csm (byOf_sm x.2) h.cok.pos (byOf_ok x.2).pos).mono (by omega)⟩
  show (List.zipWith _ _ _).length = m
  rw [List.length_zipWith, h.len, hx.len]; omega
end Z
namespace Z
open PySem PySem.Spec PyProof.Rows L2 Y
/-! ### the factors as a dict -/
def kvP (p : Nat × Fr) : Key × D := (.inl (p.1 : Int), dF p.2)
theorem kvsOf_nz : ∀ ps : List (Nat × Fr), kvsD (ps.map dP) = some (ps.map kvP)
  | [] => rfl
  | p :: ps => by
    simp only [List.map_cons, dP, kvsD, asKey, kvsOf_nz ps]
    rfl
theorem putKD_new {kvs : List (Key × D)} {k : Key} {d : D} (h : ∀ kv, kv ∈ kvs → kv.1 ≠ k) : putKD kvs k d = kvs ++ [(k, d)] := by
  unfold putKD
  rw [if_neg]
  intro z
  obtain ⟨kv, hm, e⟩ := List.any_eq_true.mp z
  exact h kv hm (of_decide_eq_true e)
theorem mergeD_nz : ∀ (fs : List Fr) (k : Nat) (acc : List (Key × D)), (∀ kv, kv ∈ acc → ∃ j : Nat, kv.1 = .inl (j : Int) ∧ j < k) → mergeD acc ((nzP k fs).map kvP) = acc ++ (nzP k fs).map kvP
  | [], k, acc, _ => by simp [nzP, mergeD]
  | f :: r, k, acc, h => by
    unfold nzP
    by_cases hz : f.1 ≠ 0
    · rw [if_pos hz, List.map_cons]
      unfold mergeD
      rw [List.foldl_cons]
      have e : putKD acc (kvP (k, f)).1 (kvP (k, f)).2 = acc ++ [kvP (k, f)] := putKD_new fun kv hm e => by
        obtain ⟨j, e1, e2⟩ := h kv hm
        rw [e1] at e
        have e3 : ((j : Nat) : Int) = (k : Nat) := Sum.inl.inj e
        omega
      rw [e]
      have ih := mergeD_nz r (k + 1) (acc ++ [kvP (k, f)]) fun kv hm => by
        rcases List.mem_append.mp hm with hm | hm
        · obtain ⟨j, e1, e2⟩ := h kv hm; exact ⟨j, e1, by omega⟩
        · rw [List.mem_singleton.mp hm]; exact ⟨k, rfl, by omega⟩
      unfold mergeD at ih
      rw [ih, List.append_assoc]; rfl
    · rw [if_neg hz]
      exact mergeD_nz r (k + 1) acc fun kv hm => by obtain ⟨j, e1, e2⟩ := h kv hm; exact ⟨j, e1, by omega⟩
theorem getK_nz : ∀ (fs : List Fr) (k i : Nat), (∀ f, f ∈ fs → FrOk f) → i < fs.length → (getK ((nzP k fs).map kvP) (.inl ((k + i : Nat) : Int))).getD (dF (0, 1)) = dF (fs.getD i (0, 1))
  | [], _, _, _, h => by simp at h
  | f :: r, k, i, hf, h => by
    have low : getK ((nzP (k + 1) r).map kvP) (.inl ((k : Nat) : Int)) = none := by
      unfold getK
      rw [Option.map_eq_none_iff, List.find?_eq_none]
      intro kv hm e
      obtain ⟨p, hp, rfl⟩ := List.mem_map.mp hm
      obtain ⟨h1, _, _⟩ := nzP_get _ _ _ hp
      have e3 : ((p.1 : Nat) : Int) = (k : Nat) := Sum.inl.inj (of_decide_eq_true e)
      omega
    unfold nzP
    cases i with
    | zero =>
      by_cases hz : f.1 ≠ 0
      · rw [if_pos hz, List.map_cons]
        simp [getK, kvP]
      · rw [if_neg hz, show ((k + 0 : Nat) : Int) = (k : Nat) from rfl, low]
        have e : f = (0, 1) := frok_zero (hf f List.mem_cons_self) (by simpa using hz)
        subst e; rfl
    | succ i =>
      have ih := getK_nz r (k + 1) i (fun g hg => hf g (List.mem_cons_of_mem _ hg)) (by simpa using h)
      have e : k + (i + 1) = k + 1 + i := by omega
      rw [e, List.getD_cons_succ, ← ih]
      by_cases hz : f.1 ≠ 0
      · rw [if_pos hz, List.map_cons]
        have hne : ¬ (kvP (k, f)).1 = .inl ((k + 1 + i : Nat) : Int) := fun z => by
          have e3 : ((k : Nat) : Int) = ((k + 1 + i : Nat) : Int) := Sum.inl.inj z
          omega
        unfold getK
        rw [List.find?_cons, show decide ((kvP (k, f)).1 = .inl ((k + 1 + i : Nat) : Int)) = false from decide_eq_false hne]
      · rw [if_neg hz]
theorem map_zip_with (g : Fr → Fr → Fr) : ∀ (xs ys : List Fr), (xs.zip ys).map (fun p => dF (g p.1 p.2)) = (List.zipWith g xs ys).map dF
  | [], _ => by simp
  | _ :: _, [] => by simp
  | x :: xs, y :: ys => by simp [map_zip_with g xs ys]
theorem map_zipIdx_with (g : Fr → Fr → Fr) (fs pt : List Fr) (h : fs.length = pt.length) : (pt.zipIdx).map (fun p => dF (g (fs.getD p.2 (0, 1)) p.1)) = (List.zipWith g fs pt).map dF := by
  apply List.ext_getElem
  · simp [h]
  · intro i h1 h2
    simp only [List.length_map, List.length_zipIdx] at h1
    have h3 : i < fs.length := by omega
    simp [List.getElem?_eq_getElem h3]
end Z
namespace Z
open PySem PySem.Spec PyProof.Rows L2 Y
theorem seqOf_dS {Γ : Gs} {s : Sm'} : seqOf Γ (dS s) = some [.tup ((nzP 0 s.1).map dP), dF s.2] := rfl
theorem seqOf_dM {Γ : Gs} {x : Mk'} : seqOf Γ (dM x) = some [.tup (x.1.map dF), .bl x.2] := rfl
theorem seqOf_dP {Γ : Gs} {p : Nat × Fr} : seqOf Γ (dP p) = some [.int p.1, dF p.2] := rfl
end Z
namespace Z
open PySem PySem.Spec PyProof.Rows L2 Y
theorem nzP_pw : ∀ (fs : List Fr) (k : Nat), (nzP k fs).Pairwise fun p q => p.1 < q.1
  | [], _ => .nil
  | f :: r, k => by
    unfold nzP
    split
    · refine .cons (fun q hq => ?_) (nzP_pw r (k + 1))
      have := (nzP_get (k + 1) r q hq).1
      show k < q.1
      omega
    · exact nzP_pw r (k + 1)
theorem zip_tail_pw {α : Type} {R : α → α → Prop} : ∀ {xs : List α}, xs.Pairwise R → ∀ p, p ∈ xs.zip (xs.drop 1) → R p.1 p.2
  | [], _, p, h => by simp at h
  | [x], _, p, h => by simp at h
  | x :: y :: r, h, p, hp => by
    rw [List.drop_one, List.tail_cons, List.zip_cons_cons] at hp
    rcases List.mem_cons.mp hp with e | hp
    · subst e
      exact (List.pairwise_cons.mp h).1 y List.mem_cons_self
    · exact zip_tail_pw (List.pairwise_cons.mp h).2 p (by simpa using hp)
/-- marked points as they are drawn -/
structure GM (m : Nat) (xs : List Mk') : Prop where
  m1 : 1 ≤ m
  m3 : m ≤ 3
  l1 : 1 ≤ xs.length
  l5 : xs.length ≤ 5
  ok : ∀ x, x ∈ xs → MOk m x
abbrev dMs (xs : List Mk') : D := .tup (xs.map dM)
theorem cutD_1 {xs : List D} : Y.cutD xs (some 1) none = xs.drop 1 := by
  unfold Y.cutD
  have e : HT.sIx xs.length 0 (some (1 : Int)) = min 1 xs.length := HT.sIx_nat _ _ 1
  rw [e, HT.sIx_none]
  cases xs with
  | nil => simp
  | cons x r => simp
end Z
namespace Z
open PySem PySem.Spec PyProof.Rows L2 Y
theorem tyD_dS {Γ : Gs} {s : Sm'} : tyD Γ (dS s) = some .tup := rfl
theorem tyD_dM {Γ : Gs} {x : Mk'} : tyD Γ (dM x) = some .tup := rfl
theorem tyD_dP {Γ : Gs} {p : Nat × Fr} : tyD Γ (dP p) = some .tup := rfl
end Z
set_option Elab.async false
set_option linter.all false
set_option maxRecDepth 100000
set_option maxHeartbeats 4000000
/-! slips, plainly -/
namespace Z
open PySem PySem.Spec PyProof.Rows L2 Y
/-- slips under way: the sum, how many looks, how many right ones in a row, the row, the looks at the last slip -/
structure SS where
  s : Sm'
  looks : Nat
  good : Nat
  row : List Nat
  last : Nat
def atM (xs : List Mk') (st : SS) : Mk' := xs.getD (st.looks % xs.length) ([], true)
def okB (xs : List Mk') (st : SS) : Bool := rightB st.s (atM xs st)
def stepS (xs : List Mk') (st : SS) : SS :=
  if okB xs st = true then ⟨st.s, st.looks + 1, st.good + 1, st.row, st.last⟩
  else ⟨slip st.s (atM xs st), st.looks + 1, 0, st.row ++ [st.looks % xs.length], st.looks + 1⟩
def startS (m : Nat) : SS := ⟨(List.replicate m (0, 1), (0, 1)), 0, 0, [], 0⟩
def stopS (xs : List Mk') (most : Nat) (st : SS) : Prop := st.good = xs.length ∨ (okB xs st = false ∧ st.row.length = most)
structure SInv (m : Nat) (xs : List Mk') (most : Nat) (st : SS) : Prop where
  sok : SOk (1 + 6 * st.row.length) m st.s
  row : st.row.length ≤ most
  good : st.good ≤ xs.length
  looks : st.looks = st.last + st.good
  ent : ∀ i, i ∈ st.row → i < xs.length
theorem dS_start (m : Nat) : dS (startS m).s = .tup [.tup [], .tup [.int 0, .int 1]] := by
  have e : ∀ k n, nzP k (List.replicate n ((0, 1) : Fr)) = [] := by
    intro k n
    induction n generalizing k with
    | zero => rfl
    | succ n ih => rw [List.replicate_succ]; unfold nzP; rw [if_neg (by simp)]; exact ih _
  unfold dS startS
  simp only [e]
  rfl
theorem atM_mem {m : Nat} {xs : List Mk'} (hg : GM m xs) (st : SS) : xs[st.looks % xs.length]? = some (atM xs st) ∧ atM xs st ∈ xs ∧ st.looks % xs.length < xs.length := by
  have l1 := hg.l1
  have h : st.looks % xs.length < xs.length := Nat.mod_lt _ (by omega)
  have e : xs[st.looks % xs.length]? = some (atM xs st) := by
    unfold atM
    rw [List.getD_eq_getElem?_getD, List.getElem?_eq_getElem h]; rfl
  exact ⟨e, List.mem_of_getElem? e, h⟩
theorem fz_ok : FrOk (0, 1) := ⟨by decide, by decide⟩
theorem fz_sm : Sm 1 (0, 1) := ⟨by decide, by decide⟩
theorem inv_start {m most : Nat} {xs : List Mk'} : SInv m xs most (startS m) := by
  refine ⟨⟨by simp [startS], fun f hf => ?_, fun f hf => ?_, fz_ok, fz_sm⟩, Nat.zero_le _, Nat.zero_le _, rfl, fun _ h => by simp [startS] at h⟩
  · have e := (List.mem_replicate.mp hf).2
    subst e; exact fz_ok
  · have e := (List.mem_replicate.mp hf).2
    subst e; exact fz_sm
theorem inv_step {m most : Nat} {xs : List Mk'} {st : SS} (hg : GM m xs) (h : SInv m xs most st) (ns : ¬ stopS xs most st) : SInv m xs most (stepS xs st) := by
  have n1 : st.good ≠ xs.length := fun e => ns (.inl e)
  have hgood := h.good
  have hrow := h.row
  have hlooks := h.looks
  unfold stepS
  split
  · exact ⟨h.sok, h.row, by simp only; omega, by simp only; omega, h.ent⟩
  · rename_i hb
    have hb' : okB xs st = false := by simpa using hb
    have n2 : st.row.length ≠ most := fun e => ns (.inr ⟨hb', e⟩)
    obtain ⟨_, h2, h3⟩ := atM_mem hg st
    refine ⟨?_, by simp only [List.length_append, List.length_singleton]; omega, Nat.zero_le _, rfl, fun i hi => ?_⟩
    · have := slip_ok h.sok (hg.ok _ h2)
      simp only [List.length_append, List.length_singleton]
      have e : 1 + 6 * (st.row.length + 1) = 1 + 6 * st.row.length + 6 := by omega
      rw [e]; exact this
    · rcases List.mem_append.mp hi with hi | hi
      · exact h.ent i hi
      · rw [List.mem_singleton.mp hi]; exact h3
/-- how far it is to the end -/
def msS (xs : List Mk') (most : Nat) (st : SS) : Nat := (most - st.row.length) * (xs.length + 1) + (xs.length - st.good)
theorem ms_step {m most : Nat} {xs : List Mk'} {st : SS} (h : SInv m xs most st) (ns : ¬ stopS xs most st) : msS xs most (stepS xs st) < msS xs most st := by
  have n1 : st.good ≠ xs.length := fun e => ns (.inl e)
  have hgood := h.good
  have hrow := h.row
  unfold stepS msS
  split
  · simp only; omega
  · rename_i hb
    have hb' : okB xs st = false := by simpa using hb
    have n2 : st.row.length ≠ most := fun e => ns (.inr ⟨hb', e⟩)
    simp only [List.length_append, List.length_singleton]
    have e : most - st.row.length = (most - (st.row.length + 1)) + 1 := by omega
    rw [e, Nat.add_mul]
    omega
/-- it ends in F -/
inductive Run (xs : List Mk') (most : Nat) : SS → SS → Prop
  | done {st : SS} : stopS xs most st → Run xs most st st
  | go {st F : SS} : ¬ stopS xs most st → Run xs most (stepS xs st) F → Run xs most st F
theorem run_ex {m most : Nat} {xs : List Mk'} (hg : GM m xs) : ∀ (n : Nat) (st : SS), msS xs most st ≤ n → SInv m xs most st → ∃ F, Run xs most st F ∧ SInv m xs most F
  | 0, st, hn, h => by
    by_cases hs : stopS xs most st
    · exact ⟨st, .done hs, h⟩
    · have := ms_step h hs; omega
  | n + 1, st, hn, h => by
    by_cases hs : stopS xs most st
    · exact ⟨st, .done hs, h⟩
    · obtain ⟨F, r, hF⟩ := run_ex hg n (stepS xs st) (by have := ms_step h hs; omega) (inv_step hg h hs)
      exact ⟨F, .go hs r, hF⟩
theorem Run.stop {xs : List Mk'} {most : Nat} {st F : SS} (r : Run xs most st F) : stopS xs most F := by
  induction r with
  | done h => exact h
  | go _ _ ih => exact ih
theorem Run.at_stop {xs : List Mk'} {most : Nat} {st F : SS} (r : Run xs most st F) (h : stopS xs most st) : F = st := by
  cases r with
  | done _ => rfl
  | go n _ => exact absurd h n
theorem Run.next {xs : List Mk'} {most : Nat} {st F : SS} (r : Run xs most st F) (h : ¬ stopS xs most st) : Run xs most (stepS xs st) F := by
  cases r with
  | done n => exact absurd n h
  | go _ r => exact r
theorem row_step (xs : List Mk') (st : SS) : st.row <+: (stepS xs st).row ∧ (stepS xs st).row.length ≤ st.row.length + 1 := by
  unfold stepS
  split
  · exact ⟨List.prefix_rfl, by simp only; omega⟩
  · exact ⟨List.prefix_append _ _, by simp⟩
theorem Run.row {xs : List Mk'} {most : Nat} {st F : SS} (r : Run xs most st F) : st.row <+: F.row := by
  induction r with
  | done h => exact List.prefix_rfl
  | go _ _ ih => exact (row_step xs _).1.trans ih
end Z
namespace Z
open PySem PySem.Spec PyProof.Rows L2 Y
def dIs' (ns : List Nat) : List D := ns.map fun (n : Nat) => D.int (n : Int)
theorem dIs_len (a : List Nat) : (dIs' a).length = a.length := by simp [dIs']
theorem eqDL_ints : ∀ a b : List Nat, eqDL (dIs' a) (dIs' b) = decide (a = b)
  | [], [] => by simp [dIs', eqDL]
  | [], _ :: _ => by simp [dIs', eqDL]
  | _ :: _, [] => by simp [dIs', eqDL]
  | x :: a, y :: b => by
    have ih := eqDL_ints a b
    unfold dIs' at ih ⊢
    simp only [List.map_cons, eqDL, eqD, ih]
    by_cases h1 : x = y
    · subst h1; simp
    · have h2 : ¬ (x : Int) = (y : Int) := by omega
      simp [h1, h2]
theorem pyOkL_ints {n : Nat} (a : List Nat) : pyOkL n (dIs' a) = true := pyOkL_all fun x hx => by
  obtain ⟨i, _, rfl⟩ := List.mem_map.mp hx
  simp [pyOk]
theorem cutD_take (R : List Nat) (k : Nat) : Y.cutD (dIs' R) none (some (k : Int)) = dIs' (R.take k) := by
  unfold Y.cutD
  rw [HT.sIx_none, HT.sIx_nat, dIs_len]
  unfold dIs'
  rw [List.drop_zero, Nat.sub_zero, List.map_take]
  by_cases h : k ≤ R.length
  · rw [Nat.min_eq_left h]
  · rw [Nat.min_eq_right (by omega), List.take_of_length_le (by simp), List.take_of_length_le (by simp; omega)]
end Z
namespace Z
open PySem PySem.Spec PyProof.Rows L2 Y
theorem cutD_from (R : List Nat) (k : Nat) : Y.cutD (dIs' R) (some ((k : Int) + 1)) none = dIs' (R.drop (k + 1)) := by
  unfold Y.cutD
  rw [show ((k : Int) + 1) = ((k + 1 : Nat) : Int) by omega, HT.sIx_none, HT.sIx_nat, dIs_len]
  unfold dIs'
  rw [List.map_drop]
  by_cases h : k + 1 ≤ R.length
  · rw [Nat.min_eq_left h, List.take_of_length_le (by simp)]
  · rw [Nat.min_eq_right (by omega), Nat.sub_self, List.take_zero, List.drop_eq_nil_of_le (by simp; omega)]
end Z
set_option Elab.async false
set_option linter.all false
set_option maxRecDepth 100000
set_option maxHeartbeats 4000000
set_option exponentiation.threshold 20000
namespace Z
open PySem PySem.Spec PyProof.Rows L2 Y
local macro_rules | `(tactic| walk_at "dd") => `(tactic| simp only [seqOf_dF, seqOf_dS, seqOf_dM, seqOf_dP, tyD_dF, tyD_dM, tyD_dS, tyD_dP, resD_dF, dVar, dC, dOp, dAdd_ii, dAdd_tt, dAdd_ll, d2I_ii, d2I0_ii, dMul_ii, dMul_ti, dNeg, dEq_ii, dEq_ss, dEq_bb, dNe_ii, dNe_ss, dNe_bb, dIs, dIsNot, isNon_non, isNon_int, isNon_bl, isNon_tup, isNon_lst, dTB, dChain, dAndT, dOrT, dNotT, dAndV, dOrV, dNotV, dIf, dNil, dCons, dTup', dLst', dLstO', dIx, dNoP, dPart, sliceD, dSl, dCB, dLen, dAbs, dInt, dMax2, dTupOf, dListOf, dListOfO, dAll, dAny, dIsi, dNext, dSeq, dPass, dNever, dDrop, dRet, dRetF, dRetN, dIfS, dgName, dgNil, dgCons, dgTup, dgSub, dSetItem, dSet, dAsg, dPar, dPar3, dAug, dISeq, dIEnum, dIEnumK, dIZip, dIRange1, dIRange2, dFor, dLc, dLcO, dLm, rAppD, rExtD, rPopD, dCall, dFld, dFldSet, dFldAdd, dMeth, dMake, Y.putAt, Nat.lt_irrefl, List.cons_append, dDictT, dDictO, dGet2, asKey, dYes, startD, endD, wipeD, seqOf_gup, lstOf_gup, gup_same, gup_gup, ixN_50, ixN_51, ixN_52, ixN_53, ixN_54, List.length_map, srcOf_tup, srcOf_lst, srcOf_scr, srcOf_ptr, blsOf_map, all_map, seqOf_tup, seqOf_lst, seqOf_scr, lstOf_lst, lstOf_scr, lstOf'_lst, tyD_tup, tyD_lst, tyD_int, tyD_bl, tyD_str, tyD_non, isT, atI_0, atI_1, atI_2, atI_3, atI_4, List.getElem?_cons_zero, List.getElem?_cons_succ, List.set_cons_zero, List.set_cons_succ, List.map_cons, List.map_nil, List.length_cons, List.length_nil, List.nil_append, reduceCtorEq, if_true, if_false, Bool.false_eq_true, ne_eq, not_false_eq_true, not_true_eq_false, true_and, and_true, forall_const, implies_true, Bool.not_true, Bool.not_false, Nat.reduceAdd, Nat.reduceLT, Nat.reduceLeDiff, Nat.zero_le, Nat.le_refl, Nat.lt_irrefl, Nat.reduceLeDiff, Int.reduceNeg])


def topS (i : Nat) : Stmt := PySem.Challenge.pw_cutsumsways_k68_whole_slips_round_and_ro.main.body.getD i (.Pass ⟨0, 0, 0, 0⟩)
abbrev s_is_integer : Stmt := topS 8
abbrev s_is_within : Stmt := topS 9
abbrev s_is_tuple_of : Stmt := topS 10
abbrev s_common : Stmt := topS 11
abbrev s_is_fraction : Stmt := topS 12
abbrev s_made : Stmt := topS 13
abbrev s_raw_plus : Stmt := topS 14
abbrev s_raw_times : Stmt := topS 15
abbrev s_raw_minus : Stmt := topS 16
abbrev s_are_values : Stmt := topS 17
abbrev s_is_pair_of : Stmt := topS 19
abbrev s_raw_is_sum : Stmt := topS 20
abbrev s_raw_worth : Stmt := topS 21
abbrev s_raw_by_factors : Stmt := topS 22
abbrev s_raw_factors : Stmt := topS 23
abbrev s_is_marked_pair : Stmt := topS 31
abbrev s_are_marked : Stmt := topS 32
abbrev s_check_marked : Stmt := topS 33
abbrev s_check_marked_sum : Stmt := topS 34
abbrev s_is_right : Stmt := topS 35
abbrev s_wrong_ones : Stmt := topS 36
abbrev s_raw_slipped : Stmt := topS 37
abbrev s_slipped : Stmt := topS 38
abbrev s_Slips_init : Stmt := inClass (topS 39) 0
abbrev s_Slips_is_over : Stmt := inClass (topS 39) 1
abbrev s_Slips_will_slip : Stmt := inClass (topS 39) 2
abbrev s_Slips_look : Stmt := inClass (topS 39) 3
abbrev s_slips_till : Stmt := topS 40
abbrev s_check_most : Stmt := topS 41
abbrev s_slips_told : Stmt := topS 42
abbrev s_is_slips : Stmt := topS 43
abbrev s_rounds_of : Stmt := topS 44
abbrev s_law_hand : Stmt := topS 46
abbrev s_law_draw : Stmt := topS 47
abbrev s_law_any : Stmt := topS 48
abbrev s_law_made : Stmt := topS 49
abbrev s_law_plus : Stmt := topS 50
abbrev s_law_times : Stmt := topS 51
abbrev s_law_worth : Stmt := topS 52
abbrev s_law_number : Stmt := topS 53
abbrev s_law_as_sum : Stmt := topS 54
abbrev s_law_drawn_sum : Stmt := topS 55
abbrev s_law_right : Stmt := topS 56
abbrev s_law_slipped : Stmt := topS 57
abbrev s_law_marked : Stmt := topS 58
abbrev s_law_slips : Stmt := topS 59
abbrev s_law : Stmt := topS 60
theorem sc_is_integer : FnScope ["thing"] ["thing"] (defScope s_is_integer) := ⟨rfl, rfl, rfl, by decide +kernel, rfl, by decide +kernel, by decide +kernel⟩
theorem sc_is_within : FnScope ["thing", "low", "high"] ["thing", "low", "high"] (defScope s_is_within) := ⟨rfl, rfl, rfl, by decide +kernel, rfl, by decide +kernel, by decide +kernel⟩
theorem sc_is_tuple_of : FnScope ["thing", "size"] ["thing", "size"] (defScope s_is_tuple_of) := ⟨rfl, rfl, rfl, by decide +kernel, rfl, by decide +kernel, by decide +kernel⟩
theorem sc_common : FnScope ["x", "y"] ["x", "y"] (defScope s_common) := ⟨rfl, rfl, rfl, by decide +kernel, rfl, by decide +kernel, by decide +kernel⟩
theorem sc_is_fraction : FnScope ["thing"] ["thing"] (defScope s_is_fraction) := ⟨rfl, rfl, rfl, by decide +kernel, rfl, by decide +kernel, by decide +kernel⟩
theorem sc_made : FnScope ["top", "bottom", "low"] ["top", "bottom"] (defScope s_made) := ⟨rfl, rfl, rfl, by decide +kernel, rfl, by decide +kernel, by decide +kernel⟩
theorem sc_raw_plus : FnScope ["x", "y"] ["x", "y"] (defScope s_raw_plus) := ⟨rfl, rfl, rfl, by decide +kernel, rfl, by decide +kernel, by decide +kernel⟩
theorem sc_raw_times : FnScope ["x", "y"] ["x", "y"] (defScope s_raw_times) := ⟨rfl, rfl, rfl, by decide +kernel, rfl, by decide +kernel, by decide +kernel⟩
theorem sc_raw_minus : FnScope ["x"] ["x"] (defScope s_raw_minus) := ⟨rfl, rfl, rfl, by decide +kernel, rfl, by decide +kernel, by decide +kernel⟩
theorem sc_are_values : FnScope ["thing", "one"] ["thing"] (defScope s_are_values) := ⟨rfl, rfl, rfl, by decide +kernel, rfl, by decide +kernel, by decide +kernel⟩
theorem sc_is_pair_of : FnScope ["many", "thing"] ["many", "thing"] (defScope s_is_pair_of) := ⟨rfl, rfl, rfl, by decide +kernel, rfl, by decide +kernel, by decide +kernel⟩
theorem sc_raw_is_sum : FnScope ["many", "thing", "one", "other", "pair"] ["many", "thing"] (defScope s_raw_is_sum) := ⟨rfl, rfl, rfl, by decide +kernel, rfl, by decide +kernel, by decide +kernel⟩
theorem sc_raw_worth : FnScope ["values", "one", "found", "source", "factor"] ["values", "one"] (defScope s_raw_worth) := ⟨rfl, rfl, rfl, by decide +kernel, rfl, by decide +kernel, by decide +kernel⟩
theorem sc_raw_by_factors : FnScope ["factors", "constant", "at", "factor"] ["factors", "constant"] (defScope s_raw_by_factors) := ⟨rfl, rfl, rfl, by decide +kernel, rfl, by decide +kernel, by decide +kernel⟩
theorem sc_raw_factors : FnScope ["many", "one", "found", "source", "factor"] ["many", "one"] (defScope s_raw_factors) := ⟨rfl, rfl, rfl, by decide +kernel, rfl, by decide +kernel, by decide +kernel⟩
theorem sc_is_marked_pair : FnScope ["thing"] ["thing"] (defScope s_is_marked_pair) := ⟨rfl, rfl, rfl, by decide +kernel, rfl, by decide +kernel, by decide +kernel⟩
theorem sc_are_marked : FnScope ["thing", "one"] ["thing"] (defScope s_are_marked) := ⟨rfl, rfl, rfl, by decide +kernel, rfl, by decide +kernel, by decide +kernel⟩
theorem sc_check_marked : FnScope ["marked"] ["marked"] (defScope s_check_marked) := ⟨rfl, rfl, rfl, by decide +kernel, rfl, by decide +kernel, by decide +kernel⟩
theorem sc_check_marked_sum : FnScope ["marked", "told"] ["marked", "told"] (defScope s_check_marked_sum) := ⟨rfl, rfl, rfl, by decide +kernel, rfl, by decide +kernel, by decide +kernel⟩
theorem sc_is_right : FnScope ["told", "one", "worth"] ["told", "one"] (defScope s_is_right) := ⟨rfl, rfl, rfl, by decide +kernel, rfl, by decide +kernel, by decide +kernel⟩
theorem sc_wrong_ones : FnScope ["marked", "told", "number", "one"] ["marked", "told"] (defScope s_wrong_ones) := ⟨rfl, rfl, rfl, by decide +kernel, rfl, by decide +kernel, by decide +kernel⟩
theorem sc_raw_slipped : FnScope ["told", "one", "point", "flag", "by", "factors", "x", "y"] ["told", "one"] (defScope s_raw_slipped) := ⟨rfl, rfl, rfl, by decide +kernel, rfl, by decide +kernel, by decide +kernel⟩
theorem sc_slipped : FnScope ["marked", "told", "number"] ["marked", "told", "number"] (defScope s_slipped) := ⟨rfl, rfl, rfl, by decide +kernel, rfl, by decide +kernel, by decide +kernel⟩
theorem sc_Slips_init : FnScope ["self", "marked"] ["self", "marked"] (defScope s_Slips_init) := ⟨rfl, rfl, rfl, by decide +kernel, rfl, by decide +kernel, by decide +kernel⟩
theorem sc_Slips_is_over : FnScope ["self"] ["self"] (defScope s_Slips_is_over) := ⟨rfl, rfl, rfl, by decide +kernel, rfl, by decide +kernel, by decide +kernel⟩
theorem sc_Slips_will_slip : FnScope ["self"] ["self"] (defScope s_Slips_will_slip) := ⟨rfl, rfl, rfl, by decide +kernel, rfl, by decide +kernel, by decide +kernel⟩
theorem sc_Slips_look : FnScope ["self"] ["self"] (defScope s_Slips_look) := ⟨rfl, rfl, rfl, by decide +kernel, rfl, by decide +kernel, by decide +kernel⟩
theorem sc_slips_till : FnScope ["marked", "most", "slips"] ["marked", "most"] (defScope s_slips_till) := ⟨rfl, rfl, rfl, by decide +kernel, rfl, by decide +kernel, by decide +kernel⟩
theorem sc_check_most : FnScope ["marked", "most"] ["marked", "most"] (defScope s_check_most) := ⟨rfl, rfl, rfl, by decide +kernel, rfl, by decide +kernel, by decide +kernel⟩
theorem sc_slips_told : FnScope ["marked", "most", "slips"] ["marked", "most"] (defScope s_slips_told) := ⟨rfl, rfl, rfl, by decide +kernel, rfl, by decide +kernel, by decide +kernel⟩
theorem sc_is_slips : FnScope ["marked", "row", "slips", "number"] ["marked", "row"] (defScope s_is_slips) := ⟨rfl, rfl, rfl, by decide +kernel, rfl, by decide +kernel, by decide +kernel⟩
theorem sc_rounds_of : FnScope ["marked", "most", "slips", "many", "last"] ["marked", "most"] (defScope s_rounds_of) := ⟨rfl, rfl, rfl, by decide +kernel, rfl, by decide +kernel, by decide +kernel⟩
theorem sc_law_hand : FnScope ["script", "cells", "cell"] ["script"] (defScope s_law_hand) := ⟨rfl, rfl, rfl, by decide +kernel, rfl, by decide +kernel, by decide +kernel⟩
theorem sc_law_draw : FnScope ["hand", "many", "cell", "digit", "number"] ["hand", "many"] (defScope s_law_draw) := ⟨rfl, rfl, rfl, by decide +kernel, rfl, by decide +kernel, by decide +kernel⟩
theorem sc_law_any : FnScope ["hand", "some"] ["hand", "some"] (defScope s_law_any) := ⟨rfl, rfl, rfl, by decide +kernel, rfl, by decide +kernel, by decide +kernel⟩
theorem sc_law_made : FnScope ["top", "bottom", "one", "other"] ["top", "bottom"] (defScope s_law_made) := ⟨rfl, rfl, rfl, by decide +kernel, rfl, by decide +kernel, by decide +kernel⟩
theorem sc_law_plus : FnScope ["x", "y"] ["x", "y"] (defScope s_law_plus) := ⟨rfl, rfl, rfl, by decide +kernel, rfl, by decide +kernel, by decide +kernel⟩
theorem sc_law_times : FnScope ["x", "y"] ["x", "y"] (defScope s_law_times) := ⟨rfl, rfl, rfl, by decide +kernel, rfl, by decide +kernel, by decide +kernel⟩
theorem sc_law_worth : FnScope ["one", "values", "found", "source", "factor"] ["one", "values"] (defScope s_law_worth) := ⟨rfl, rfl, rfl, by decide +kernel, rfl, by decide +kernel, by decide +kernel⟩
theorem sc_law_number : FnScope ["hand", "top"] ["hand"] (defScope s_law_number) := ⟨rfl, rfl, rfl, by decide +kernel, rfl, by decide +kernel, by decide +kernel⟩
theorem sc_law_as_sum : FnScope ["factors", "constant", "at", "one"] ["factors", "constant"] (defScope s_law_as_sum) := ⟨rfl, rfl, rfl, by decide +kernel, rfl, by decide +kernel, by decide +kernel⟩
theorem sc_law_drawn_sum : FnScope ["hand", "m", "factors", "source"] ["hand", "m"] (defScope s_law_drawn_sum) := ⟨rfl, rfl, rfl, by decide +kernel, rfl, by decide +kernel, by decide +kernel⟩
theorem sc_law_right : FnScope ["told", "one", "here"] ["told", "one"] (defScope s_law_right) := ⟨rfl, rfl, rfl, by decide +kernel, rfl, by decide +kernel, by decide +kernel⟩
theorem sc_law_slipped : FnScope ["told", "one", "point", "flag", "by", "some", "moved", "at", "x"] ["told", "one"] (defScope s_law_slipped) := ⟨rfl, rfl, rfl, by decide +kernel, rfl, by decide +kernel, by decide +kernel⟩
theorem sc_law_marked : FnScope ["hand", "m", "told", "found", "step", "point", "flag", "source"] ["hand", "m"] (defScope s_law_marked) := ⟨rfl, rfl, rfl, by decide +kernel, rfl, by decide +kernel, by decide +kernel⟩
theorem sc_law_slips : FnScope ["marked", "most", "told", "row", "looks", "good", "last", "at"] ["marked", "most"] (defScope s_law_slips) := ⟨rfl, rfl, rfl, by decide +kernel, rfl, by decide +kernel, by decide +kernel⟩
theorem sc_law : FnScope ["script", "hand", "turn", "m", "marked", "one", "wrong", "number", "most", "is_over", "told", "row", "last", "due", "cut", "odd", "at", "its"] ["script"] (defScope s_law) := ⟨rfl, rfl, rfl, by decide +kernel, rfl, by decide +kernel, by decide +kernel⟩
def n_Slips : List Str := ["marked", "sum_now", "turn", "looks_many", "right", "row"]
structure Txt (K : PySem.W.Frag) (mg : Str → Option Value) (cSlips : Addr) : Prop where
  at_is_integer : At K mg "is_integer" s_is_integer ["thing"]
  at_is_within : At K mg "is_within" s_is_within ["thing", "low", "high"]
  at_is_tuple_of : At K mg "is_tuple_of" s_is_tuple_of ["thing", "size"]
  at_common : At K mg "common" s_common ["x", "y"]
  at_is_fraction : At K mg "is_fraction" s_is_fraction ["thing"]
  at_made : At K mg "made" s_made ["top", "bottom"]
  at_raw_plus : At K mg "raw_plus" s_raw_plus ["x", "y"]
  at_raw_times : At K mg "raw_times" s_raw_times ["x", "y"]
  at_raw_minus : At K mg "raw_minus" s_raw_minus ["x"]
  at_are_values : At K mg "are_values" s_are_values ["thing"]
  at_is_pair_of : At K mg "is_pair_of" s_is_pair_of ["many", "thing"]
  at_raw_is_sum : At K mg "raw_is_sum" s_raw_is_sum ["many", "thing"]
  at_raw_worth : At K mg "raw_worth" s_raw_worth ["values", "one"]
  at_raw_by_factors : At K mg "raw_by_factors" s_raw_by_factors ["factors", "constant"]
  at_raw_factors : At K mg "raw_factors" s_raw_factors ["many", "one"]
  at_is_marked_pair : At K mg "is_marked_pair" s_is_marked_pair ["thing"]
  at_are_marked : At K mg "are_marked" s_are_marked ["thing"]
  at_check_marked : At K mg "check_marked" s_check_marked ["marked"]
  at_check_marked_sum : At K mg "check_marked_sum" s_check_marked_sum ["marked", "told"]
  at_is_right : At K mg "is_right" s_is_right ["told", "one"]
  at_wrong_ones : At K mg "wrong_ones" s_wrong_ones ["marked", "told"]
  at_raw_slipped : At K mg "raw_slipped" s_raw_slipped ["told", "one"]
  at_slipped : At K mg "slipped" s_slipped ["marked", "told", "number"]
  at_Slips_init : AtC K mg "Slips" cSlips "Slips.__init__" s_Slips_init ["self", "marked"]
  at_Slips_is_over : AtM K cSlips "is_over" "Slips.is_over" s_Slips_is_over ["self"]
  at_Slips_will_slip : AtM K cSlips "will_slip" "Slips.will_slip" s_Slips_will_slip ["self"]
  at_Slips_look : AtM K cSlips "look" "Slips.look" s_Slips_look ["self"]
  at_slips_till : At K mg "slips_till" s_slips_till ["marked", "most"]
  at_check_most : At K mg "check_most" s_check_most ["marked", "most"]
  at_slips_told : At K mg "slips_told" s_slips_told ["marked", "most"]
  at_is_slips : At K mg "is_slips" s_is_slips ["marked", "row"]
  at_rounds_of : At K mg "rounds_of" s_rounds_of ["marked", "most"]
  at_law_hand : At K mg "_law_hand" s_law_hand ["script"]
  at_law_draw : At K mg "_law_draw" s_law_draw ["hand", "many"]
  at_law_any : At K mg "_law_any" s_law_any ["hand", "some"]
  at_law_made : At K mg "_law_made" s_law_made ["top", "bottom"]
  at_law_plus : At K mg "_law_plus" s_law_plus ["x", "y"]
  at_law_times : At K mg "_law_times" s_law_times ["x", "y"]
  at_law_worth : At K mg "_law_worth" s_law_worth ["one", "values"]
  at_law_number : At K mg "_law_number" s_law_number ["hand"]
  at_law_as_sum : At K mg "_law_as_sum" s_law_as_sum ["factors", "constant"]
  at_law_drawn_sum : At K mg "_law_drawn_sum" s_law_drawn_sum ["hand", "m"]
  at_law_right : At K mg "_law_right" s_law_right ["told", "one"]
  at_law_slipped : At K mg "_law_slipped" s_law_slipped ["told", "one"]
  at_law_marked : At K mg "_law_marked" s_law_marked ["hand", "m"]
  at_law_slips : At K mg "_law_slips" s_law_slips ["marked", "most"]
  k_Slips : Kls K cSlips n_Slips
  c_NOUGHT : Cst K mg "NOUGHT" (.tup [.int 0, .int 1])
  c_ONE : Cst K mg "ONE" (.tup [.int 1, .int 1])
  c_MOST_MARKED : Cst K mg "MOST_MARKED" (.int 12)
  c_MOST_SLIPS : Cst K mg "MOST_SLIPS" (.int 5000)
  c_MOST_PLACES : Cst K mg "MOST_PLACES" (.int 4)
  c_ENDED : Cst K mg "ENDED" (.str "ended")
  c_GOES_ON : Cst K mg "GOES_ON" (.str "goes on")
  c_NOTHING : Cst K mg "NOTHING" (.tup [.tup [], .tup [.int 0, .int 1]])
  m_abs : mg "abs" = none
  m_all : mg "all" = none
  m_bool : mg "bool" = none
  m_dict : mg "dict" = none
  m_enumerate : mg "enumerate" = none
  m_int : mg "int" = none
  m_isinstance : mg "isinstance" = none
  m_len : mg "len" = none
  m_list : mg "list" = none
  m_range : mg "range" = none
  m_tuple : mg "tuple" = none
  m_zip : mg "zip" = none
end Z
set_option Elab.async false
set_option linter.all false
set_option maxRecDepth 100000
set_option maxHeartbeats 4000000
set_option exponentiation.threshold 20000
namespace Z
open PySem PySem.Spec PyProof.Rows L2 Y
local macro_rules | `(tactic| walk_at "dd") => `(tactic| simp only [seqOf_dF, seqOf_dS, seqOf_dM, seqOf_dP, tyD_dF, tyD_dM, tyD_dS, tyD_dP, resD_dF, dVar, dC, dOp, dAdd_ii, dAdd_tt, dAdd_ll, d2I_ii, d2I0_ii, dMul_ii, dMul_ti, dNeg, dEq_ii, dEq_ss, dEq_bb, dNe_ii, dNe_ss, dNe_bb, dIs, dIsNot, isNon_non, isNon_int, isNon_bl, isNon_tup, isNon_lst, dTB, dChain, dAndT, dOrT, dNotT, dAndV, dOrV, dNotV, dIf, dNil, dCons, dTup', dLst', dLstO', dIx, dNoP, dPart, sliceD, dSl, dCB, dLen, dAbs, dInt, dMax2, dTupOf, dListOf, dListOfO, dAll, dAny, dIsi, dNext, dSeq, dPass, dNever, dDrop, dRet, dRetF, dRetN, dIfS, dgName, dgNil, dgCons, dgTup, dgSub, dSetItem, dSet, dAsg, dPar, dPar3, dAug, dISeq, dIEnum, dIEnumK, dIZip, dIRange1, dIRange2, dFor, dLc, dLcO, dLm, rAppD, rExtD, rPopD, dCall, dFld, dFldSet, dFldAdd, dMeth, dMake, Y.putAt, Nat.lt_irrefl, List.cons_append, dDictT, dDictO, dGet2, asKey, dYes, startD, endD, wipeD, seqOf_gup, lstOf_gup, gup_same, gup_gup, ixN_50, ixN_51, ixN_52, ixN_53, ixN_54, List.length_map, srcOf_tup, srcOf_lst, srcOf_scr, srcOf_ptr, blsOf_map, all_map, seqOf_tup, seqOf_lst, seqOf_scr, lstOf_lst, lstOf_scr, lstOf'_lst, tyD_tup, tyD_lst, tyD_int, tyD_bl, tyD_str, tyD_non, isT, atI_0, atI_1, atI_2, atI_3, atI_4, List.getElem?_cons_zero, List.getElem?_cons_succ, List.set_cons_zero, List.set_cons_succ, List.map_cons, List.map_nil, List.length_cons, List.length_nil, List.nil_append, reduceCtorEq, if_true, if_false, Bool.false_eq_true, ne_eq, not_false_eq_true, not_true_eq_false, true_and, and_true, forall_const, implies_true, Bool.not_true, Bool.not_false, Nat.reduceAdd, Nat.reduceLT, Nat.reduceLeDiff, Nat.zero_le, Nat.le_refl, Nat.lt_irrefl, Nat.reduceLeDiff, Int.reduceNeg])


/-! data that came from anywhere: nothing but plain data, ints not too long -/
mutual
def jd : D → Prop
  | .non => True
  | .bl _ => True
  | .int i => i.natAbs < 2 ^ 9000
  | .str _ => True
  | .tup xs => xs.length ≤ 1000000 ∧ jdL xs
  | .lst xs => xs.length ≤ 1000000 ∧ jdL xs
  | _ => False
def jdL : List D → Prop
  | [] => True
  | x :: xs => jd x ∧ jdL xs
end
theorem jdL_mem : ∀ {xs : List D} {x : D}, jdL xs → x ∈ xs → jd x
  | _ :: _, _, h, hm => (List.mem_cons.mp hm).elim (fun e => e ▸ h.1) fun q => jdL_mem h.2 q
theorem jdL_of : ∀ {xs : List D}, (∀ x, x ∈ xs → jd x) → jdL xs
  | [], _ => trivial
  | x :: _, h => ⟨h x List.mem_cons_self, jdL_of fun y hy => h y (List.mem_cons_of_mem _ hy)⟩
def tyJ : D → Ty
  | .bl _ => .bl | .int _ => .int | .str _ => .str | .tup _ => .tup | .lst _ => .lst | _ => .non
theorem tyD_jd {Γ : Gs} {d : D} (h : jd d) : tyD Γ d = some (tyJ d) := by
  cases d <;> first | rfl | exact h.elim
def isI : D → Bool
  | .int _ => true
  | _ => false
def isB : D → Bool
  | .bl _ => true
  | _ => false
def isTu : D → Bool
  | .tup _ => true
  | _ => false
def isWi (d : D) (lo hi : Int) : Bool := match d with
  | .int i => decide (lo ≤ i) && decide (i ≤ hi)
  | _ => false
def isTn (d : D) (n : Nat) : Bool := match d with
  | .tup xs => decide (xs.length = n)
  | _ => false
def isFr (d : D) : Bool := match d with
  | .tup [.int a, .int b] => decide (0 < b) && decide (gcdI a b = 1)
  | _ => false
def isVals (d : D) : Bool := match d with
  | .tup xs => xs.all isFr
  | _ => false
theorem isTn_iff {d : D} {n : Nat} : isTn d n = true ↔ ∃ xs, d = .tup xs ∧ xs.length = n := by
  cases d <;> simp [isTn]
theorem isTu_iff {d : D} : isTu d = true ↔ ∃ xs, d = .tup xs := by
  cases d <;> simp [isTu]
theorem isI_iff {d : D} : isI d = true ↔ ∃ i, d = .int i := by
  cases d <;> simp [isI]
theorem isFr_iff {d : D} : isFr d = true ↔ ∃ x : Fr, d = dF x ∧ FrOk x := by
  constructor
  · intro h
    unfold isFr at h
    split at h
    · rename_i a b
      simp only [Bool.and_eq_true, decide_eq_true_eq] at h
      exact ⟨(a, b), rfl, ⟨h.1, h.2⟩⟩
    · cases h
  · rintro ⟨x, rfl, h⟩
    simp only [isFr, dF, Bool.and_eq_true, decide_eq_true_eq]
    exact ⟨h.pos, h.low⟩
theorem isFr_dF {x : Fr} (h : FrOk x) : isFr (dF x) = true := isFr_iff.mpr ⟨x, rfl, h⟩
theorem small_lt {i : Int} {n : Nat} (h : i.natAbs < 2 ^ n) (h0 : 0 ≤ i) : i < 2 ^ n := by
  have e : ((i.natAbs : Nat) : Int) = i := Int.natAbs_of_nonneg h0
  rw [← e]
  have : ((i.natAbs : Nat) : Int) < ((2 ^ n : Nat) : Int) := Int.ofNat_lt.mpr h
  simpa using this
theorem lt_small {i : Int} {n : Nat} (h0 : 0 ≤ i) (h : i < 2 ^ n) : i.natAbs < 2 ^ n := by
  have e : ((i.natAbs : Nat) : Int) = i := Int.natAbs_of_nonneg h0
  have : ((i.natAbs : Nat) : Int) < ((2 ^ n : Nat) : Int) := by rw [e]; simpa using h
  exact Int.ofNat_lt.mp this
section
variable {P : Program} {w : World} {K : PySem.W.Frag} {mg : Str → Option Value} {base : Heap} {cSlips : Addr}
/-- a judge of one thing -/
def spJ (f : D → Bool) : DSp := fun ds Γ Q _ => ∃ d, ds = [d] ∧ jd d ∧ Q (.bl (f d)) Γ
theorem d_is_integer (T : Txt K mg cSlips) : Def P w K mg base 1 "is_integer" (spJ isI) := by
  refine Def.mk' T.at_is_integer sc_is_integer (fun ds Γ Q E h => ?_) fun f cdv A outer s H E ds Γ Qd Ed hr h => ⟨_, 
    (ys_one (ys_ret (ye_and (ye_isi (T := .int) (by nofun) (by rfl) T.m_isinstance (by decide +kernel) (yv 0) (by rfl) T.m_int (by decide +kernel)) (ye_one (ye_not (ye_isi (T := .bl) (by nofun) (by rfl) T.m_isinstance (by decide +kernel) (yv 0) (by rfl) T.m_bool (by decide +kernel))))))), ?_⟩
  · obtain ⟨d, rfl, _⟩ := h; rfl
  · obtain ⟨d, rfl, hj, q⟩ := h
    walk_at "dd"
    rw [tyD_jd hj]
    walk_at "dd"
    cases d <;> first | exact hj.elim | exact fin0 q
def sp_is_within : DSp := fun ds Γ Q _ => ∃ d lo hi, ds = [d, .int lo, .int hi] ∧ jd d ∧ Q (.bl (isWi d lo hi)) Γ
theorem d_is_within (T : Txt K mg cSlips) : Def P w K mg base 2 "is_within" sp_is_within := by
  refine Def.mk' T.at_is_within sc_is_within (fun ds Γ Q E h => ?_) fun f cdv A outer s H E ds Γ Qd Ed hr h => ⟨_, 
    (ys_one (ys_ret (ye_and (ye_call (d_is_integer T) hr (ya_cons (yv 0) ya_nil)) (ye_one (ye_lele (yv 1) (yv 0) (yv 2)))))), ?_⟩
  · obtain ⟨d, lo, hi, rfl, _⟩ := h; rfl
  · obtain ⟨d, lo, hi, rfl, hj, q⟩ := h
    walk_at "dd"
    refine ⟨_, rfl, hj, ?_⟩
    cases d with
    | int i =>
      walk_at "dd"
      by_cases h1 : lo ≤ i
      · rw [decide_eq_true h1]
        walk_at "dd"
        have e : isWi (.int i) lo hi = decide (i ≤ hi) := by simp [isWi, h1]
        rw [e] at q
        exact fin0 q
      · rw [decide_eq_false h1]
        walk_at "dd"
        have e : isWi (.int i) lo hi = false := by simp [isWi, h1]
        rw [e] at q
        exact fin0 q
    | _ => exact fin0 q
def sp_is_tuple_of : DSp := fun ds Γ Q _ => ∃ d n, ds = [d, .int n] ∧ jd d ∧ 0 ≤ n ∧ Q (.bl (isTn d n.toNat)) Γ
theorem d_is_tuple_of (T : Txt K mg cSlips) : Def P w K mg base 1 "is_tuple_of" sp_is_tuple_of := by
  refine Def.mk' T.at_is_tuple_of sc_is_tuple_of (fun ds Γ Q E h => ?_) fun f cdv A outer s H E ds Γ Qd Ed hr h => ⟨_, 
    (ys_one (ys_ret (ye_and (ye_isi (T := .tup) (by nofun) (by rfl) T.m_isinstance (by decide +kernel) (yv 0) (by rfl) T.m_tuple (by decide +kernel)) (ye_one (ye_eq hr (ye_callB call_len cd_len (by rfl) T.m_len (by decide +kernel) (ya_cons (yv 0) ya_nil)) (yv 1)))))), ?_⟩
  · obtain ⟨d, n, rfl, _⟩ := h; rfl
  · obtain ⟨d, n, rfl, hj, hn, q⟩ := h
    walk_at "dd"
    rw [tyD_jd hj]
    walk_at "dd"
    cases d with
    | tup xs =>
      simp only [tyJ]
      walk_at "dd"
      refine fin0 ?_
      have e : isTn (.tup xs) n.toNat = decide (((xs.length : Nat) : Int) = n) := by
        simp only [isTn]
        by_cases h : xs.length = n.toNat
        · rw [decide_eq_true h, decide_eq_true (by omega)]
        · rw [decide_eq_false h, decide_eq_false (by omega)]
      rw [e] at q
      exact q
    | _ => first | exact hj.elim | exact fin0 q
def sp_common : DSp := fun ds Γ Q _ => ∃ x y : Int, ds = [.int x, .int y] ∧ 0 ≤ x ∧ 0 ≤ y ∧ x < 2 ^ 9000 ∧ y < 2 ^ 9000 ∧ Q (.int (gcdI x y)) Γ
theorem d_common (T : Txt K mg cSlips) : Def P w K mg base 1 "common" sp_common := by
  refine Def.mk' T.at_common sc_common (fun ds Γ Q E h => ?_) fun f cdv A outer s H E ds Γ Qd Ed hr h => ⟨_, 
    (ys_cons (ys_while PassesOwn.never (yt_ne hr (yv 1) ye_int)
    (ys_one (ys_par (i := 0) (j := 1) rfl sc_common.nd (ya_cons (yv 1) (ya_cons (ye_sub (yv 0) (ye_mul (yv 1) (ye_div (yv 0) (yv 1)))) ya_nil)))))
    (ys_one (ys_ret (yv 0)))), ?_⟩
  · obtain ⟨d, t, rfl, _⟩ := h; rfl
  · obtain ⟨x, y, rfl, hx, hy, hx2, hy2, q⟩ := h
    walk_at "dd"
    simp only [dWhile]
    refine ⟨fun m ρ Γ' => ∃ a b : Int, ρ = [some (.int a), some (.int b)] ∧ Γ' = Γ ∧ 0 ≤ a ∧ 0 ≤ b ∧ a < 2 ^ 9000 ∧ b < 2 ^ 9000 ∧ m = b.toNat ∧ gcdI a b = gcdI x y, ⟨_, x, y, rfl, rfl, hx, hy, hx2, hy2, rfl, rfl⟩, ?_⟩
    rintro m ρ Γ' ⟨a, b, rfl, rfl, ha, hb, ha2, hb2, rfl, e⟩
    walk_at "dd"
    by_cases hb0 : b = 0
    · subst hb0
      rw [gcdI_zero a ha] at e
      simp only [decide_true, Bool.not_true, Bool.false_eq_true, if_false]
      rw [e]
      exact fin0 q
    · rw [decide_eq_false hb0]
      simp only [Bool.not_false, if_true]
      have hbp : 0 < b := by omega
      have hd : 0 ≤ a / b := Int.ediv_nonneg ha (by omega)
      have hda : a / b ≤ a := Int.ediv_le_self _ ha
      have hm : a - b * (a / b) = a % b := by rw [Int.emod_def]
      have h1 : 0 ≤ a % b := Int.emod_nonneg _ hb0
      have h2 : a % b < b := Int.emod_lt_of_pos _ hbp
      refine ⟨div_ok (n := 9000) hbp hb2 (Nat.le_refl _), mul_ok (n := 9000) (m := 9000) (lt_small hb hb2) (lt_small hd (Int.lt_of_le_of_lt hda ha2)) (by decide) (by decide) (by decide), ?_⟩
      refine ⟨(a - b * (a / b)).toNat, ?_, b, a - b * (a / b), rfl, hb, ?_, hb2, ?_, rfl, ?_⟩
      · rw [hm]; omega
      · rw [hm]; exact h1
      · rw [hm]; exact Int.lt_trans h2 hb2
      · rw [gcdI_step2]; exact e
theorem d_is_fraction (T : Txt K mg cSlips) : Def P w K mg base 2 "is_fraction" (spJ isFr) := by
  refine Def.mk' T.at_is_fraction sc_is_fraction (fun ds Γ Q E h => ?_) fun f cdv A outer s H E ds Γ Qd Ed hr h => ⟨_, 
    (ys_cons (ys_if (PW.pt (yw_or (yt_not (yt_val (ye_call (d_is_tuple_of T) hr (ya_cons (yv 0) (ya_cons ye_int ya_nil))))) (yw_or (yt_not (yt_val (ye_call (d_is_integer T) hr (ya_cons (ye_ix (yv 0) ye_int) ya_nil)))) (yw_or1 (yt_not (yt_val (ye_call (d_is_integer T) hr (ya_cons (ye_ix (yv 0) ye_int) ya_nil))))))))
    (ys_one (ys_ret ye_bl))
    ys_nil)
    (ys_one (ys_ret (ye_and (ye_gt (ye_ix (yv 0) ye_int) ye_int) (ye_one (ye_eq hr (ye_call (d_common T) hr (ya_cons (ye_callB call_abs cd_abs (by rfl) T.m_abs (by decide +kernel) (ya_cons (ye_ix (yv 0) ye_int) ya_nil)) (ya_cons (ye_ix (yv 0) ye_int) ya_nil))) ye_int)))))), ?_⟩
  · obtain ⟨d, rfl, _⟩ := h; rfl
  · obtain ⟨d, rfl, hj, q⟩ := h
    walk_at "dd"
    refine ⟨d, 2, rfl, hj, by decide, ?_⟩
    cases hT : isTn d 2 with
    | false =>
      have e : isFr d = false := by
        cases hf : isFr d with
        | false => rfl
        | true =>
          obtain ⟨x, rfl, _⟩ := isFr_iff.mp hf
          simp [dF, isTn] at hT
      rw [e] at q
      simp only [show Int.toNat 2 = 2 from rfl, hT]
      walk_at "dd"
      exact fin0 q
    | true =>
      simp only [show Int.toNat 2 = 2 from rfl, hT]
      obtain ⟨xs, rfl, hl⟩ := isTn_iff.mp hT
      match xs, hl with
      | [x, y], _ =>
        walk_at "dd"
        refine ⟨x, rfl, hj.2.1, ?_⟩
        cases x with
        | int a =>
          simp only [isI]
          walk_at "dd"
          refine ⟨y, rfl, hj.2.2.1, ?_⟩
          cases y with
          | int b =>
            simp only [isI]
            walk_at "dd"
            by_cases hb : 0 < b
            · rw [decide_eq_true hb]
              walk_at "dd"
              have ha : a.natAbs < 2 ^ 9000 := hj.2.1
              have hb2 : b.natAbs < 2 ^ 9000 := hj.2.2.1
              refine ⟨_, b, rfl, by omega, by omega, small_lt ha (by omega), small_lt hb2 (by omega), ?_⟩
              have e : isFr (.tup [.int a, .int b]) = decide (gcdI (a.natAbs : Int) b = 1) := by
                rw [gcdI_abs]; simp [isFr, hb]
              rw [e] at q
              exact fin0 q
            · rw [decide_eq_false hb]
              walk_at "dd"
              have e : isFr (.tup [.int a, .int b]) = false := by simp [isFr, hb]
              rw [e] at q
              exact fin0 q
          | _ => simp only [isI]; walk_at "dd"; exact fin0 q
        | _ => simp only [isI]; walk_at "dd"; exact fin0 q
end

end Z
set_option Elab.async false
set_option linter.all false
set_option maxRecDepth 100000
set_option maxHeartbeats 4000000
set_option exponentiation.threshold 20000
namespace Z
open PySem PySem.Spec PyProof.Rows L2 Y
local macro_rules | `(tactic| walk_at "dd") => `(tactic| simp only [seqOf_dF, seqOf_dS, seqOf_dM, seqOf_dP, tyD_dF, tyD_dM, tyD_dS, tyD_dP, resD_dF, dVar, dC, dOp, dAdd_ii, dAdd_tt, dAdd_ll, d2I_ii, d2I0_ii, dMul_ii, dMul_ti, dNeg, dEq_ii, dEq_ss, dEq_bb, dNe_ii, dNe_ss, dNe_bb, dIs, dIsNot, isNon_non, isNon_int, isNon_bl, isNon_tup, isNon_lst, dTB, dChain, dAndT, dOrT, dNotT, dAndV, dOrV, dNotV, dIf, dNil, dCons, dTup', dLst', dLstO', dIx, dNoP, dPart, sliceD, dSl, dCB, dLen, dAbs, dInt, dMax2, dTupOf, dListOf, dListOfO, dAll, dAny, dIsi, dNext, dSeq, dPass, dNever, dDrop, dRet, dRetF, dRetN, dIfS, dgName, dgNil, dgCons, dgTup, dgSub, dSetItem, dSet, dAsg, dPar, dPar3, dAug, dISeq, dIEnum, dIEnumK, dIZip, dIRange1, dIRange2, dFor, dLc, dLcO, dLm, rAppD, rExtD, rPopD, dCall, dFld, dFldSet, dFldAdd, dMeth, dMake, Y.putAt, Nat.lt_irrefl, List.cons_append, dDictT, dDictO, dGet2, asKey, dYes, startD, endD, wipeD, seqOf_gup, lstOf_gup, gup_same, gup_gup, ixN_50, ixN_51, ixN_52, ixN_53, ixN_54, List.length_map, srcOf_tup, srcOf_lst, srcOf_scr, srcOf_ptr, blsOf_map, all_map, seqOf_tup, seqOf_lst, seqOf_scr, lstOf_lst, lstOf_scr, lstOf'_lst, tyD_tup, tyD_lst, tyD_int, tyD_bl, tyD_str, tyD_non, isT, atI_0, atI_1, atI_2, atI_3, atI_4, List.getElem?_cons_zero, List.getElem?_cons_succ, List.set_cons_zero, List.set_cons_succ, List.map_cons, List.map_nil, List.length_cons, List.length_nil, List.nil_append, reduceCtorEq, if_true, if_false, Bool.false_eq_true, ne_eq, not_false_eq_true, not_true_eq_false, true_and, and_true, forall_const, implies_true, Bool.not_true, Bool.not_false, Nat.reduceAdd, Nat.reduceLT, Nat.reduceLeDiff, Nat.zero_le, Nat.le_refl, Nat.lt_irrefl, Nat.reduceLeDiff, Int.reduceNeg])


section
variable {P : Program} {w : World} {K : PySem.W.Frag} {mg : Str → Option Value} {base : Heap} {cSlips : Addr}
def sp_made : DSp := fun ds Γ Q _ => ∃ t b : Int, ds = [.int t, .int b] ∧ 0 < b ∧ t.natAbs < 2 ^ 9000 ∧ b.natAbs < 2 ^ 9000 ∧ Q (dF (mk t b)) Γ
theorem d_made (T : Txt K mg cSlips) : Def P w K mg base 2 "made" sp_made := by
  refine Def.mk' T.at_made sc_made (fun ds Γ Q E h => ?_) fun f cdv A outer s H E ds Γ Qd Ed hr h => ⟨_, 
    (ys_cons (ys_set (i := 2) sc_made.nd (ye_call (d_common T) hr (ya_cons (ye_callB call_abs cd_abs (by rfl) T.m_abs (by decide +kernel) (ya_cons (yv 0) ya_nil)) (ya_cons (ye_callB call_abs cd_abs (by rfl) T.m_abs (by decide +kernel) (ya_cons (yv 1) ya_nil)) ya_nil))))
    (ys_cons (ys_set (i := 2) sc_made.nd (ye_if (yt_gt (yv 1) ye_int) (yv 2) (ye_sub ye_int (yv 2))))
    (ys_one (ys_ret (ye_tup (ya_cons (ye_div (yv 0) (yv 2)) (ya_cons (ye_div (yv 1) (yv 2)) ya_nil))))))), ?_⟩
  · obtain ⟨t, b, rfl, _⟩ := h; rfl
  · obtain ⟨t, b, rfl, hb, ht, hb2, q⟩ := h
    walk_at "dd"
    refine ⟨_, _, rfl, by omega, by omega, small_lt (i := (t.natAbs : Int)) (by simpa using ht) (by omega), small_lt (i := (b.natAbs : Int)) (by simpa using hb2) (by omega), ?_⟩
    walk_at "dd"
    rw [decide_eq_true hb]
    walk_at "dd"
    rw [gcdI_abs, gcdI_abs2]
    have hg := gcdI_pos (t := t) hb
    have hl := gcdI_le (t := t) hb
    have hs : gcdI t b < 2 ^ 9000 := Int.lt_of_le_of_lt hl (small_lt hb2 (by omega))
    exact ⟨div_ok (n := 9000) hg hs (Nat.le_refl _), div_ok (n := 9000) hg hs (Nat.le_refl _), fin0 q⟩
theorem mul4 {a b : Int} (ha : a.natAbs < 2 ^ 4000) (hb : b.natAbs < 2 ^ 4000) : MulOk a b := mul_ok ha hb (by decide) (by decide) (by decide)
theorem up9 {n : Nat} {a : Int} (h : a.natAbs < 2 ^ n) (l : n ≤ 9000) : a.natAbs < 2 ^ 9000 := Nat.lt_of_lt_of_le h (Nat.pow_le_pow_right (by decide) l)
/-- two fractions that are not too long -/
def sp2 (g : Fr → Fr → Fr) : DSp := fun ds Γ Q _ => ∃ x y : Fr, ds = [dF x, dF y] ∧ 0 < x.2 ∧ 0 < y.2 ∧ Sm 4000 x ∧ Sm 4000 y ∧ Q (dF (g x y)) Γ
theorem d_raw_plus (T : Txt K mg cSlips) : Def P w K mg base 3 "raw_plus" (sp2 plus) := by
  refine Def.mk' T.at_raw_plus sc_raw_plus (fun ds Γ Q E h => ?_) fun f cdv A outer s H E ds Γ Qd Ed hr h => ⟨_, 
    (ys_one (ys_ret (ye_call (d_made T) hr (ya_cons (ye_add (ye_mul (ye_ix (yv 0) ye_int) (ye_ix (yv 1) ye_int)) (ye_mul (ye_ix (yv 1) ye_int) (ye_ix (yv 0) ye_int))) (ya_cons (ye_mul (ye_ix (yv 0) ye_int) (ye_ix (yv 1) ye_int)) ya_nil))))), ?_⟩
  · obtain ⟨x, y, rfl, _⟩ := h; rfl
  · obtain ⟨x, y, rfl, hx, hy, sx, sy, q⟩ := h
    have hn := plus_nums sx sy
    simp only [dF]
    walk_at "dd"
    exact ⟨mul4 sx.1 sy.2, mul4 sy.1 sx.2, mul4 sx.2 sy.2, _, _, rfl, Int.mul_pos hx hy, up9 hn.1 (by decide), up9 hn.2 (by decide), fin0 q⟩
theorem d_raw_times (T : Txt K mg cSlips) : Def P w K mg base 3 "raw_times" (sp2 times) := by
  refine Def.mk' T.at_raw_times sc_raw_times (fun ds Γ Q E h => ?_) fun f cdv A outer s H E ds Γ Qd Ed hr h => ⟨_, 
    (ys_one (ys_ret (ye_call (d_made T) hr (ya_cons (ye_mul (ye_ix (yv 0) ye_int) (ye_ix (yv 1) ye_int)) (ya_cons (ye_mul (ye_ix (yv 0) ye_int) (ye_ix (yv 1) ye_int)) ya_nil))))), ?_⟩
  · obtain ⟨x, y, rfl, _⟩ := h; rfl
  · obtain ⟨x, y, rfl, hx, hy, sx, sy, q⟩ := h
    simp only [dF]
    walk_at "dd"
    exact ⟨mul4 sx.1 sy.1, mul4 sx.2 sy.2, _, _, rfl, Int.mul_pos hx hy, up9 (natAbs_mul_lt sx.1 sy.1) (by decide), up9 (natAbs_mul_lt sx.2 sy.2) (by decide), fin0 q⟩
def sp_neg : DSp := fun ds Γ Q _ => ∃ x : Fr, ds = [dF x] ∧ Q (dF (neg x)) Γ
theorem d_raw_minus (T : Txt K mg cSlips) : Def P w K mg base 1 "raw_minus" sp_neg := by
  refine Def.mk' T.at_raw_minus sc_raw_minus (fun ds Γ Q E h => ?_) fun f cdv A outer s H E ds Γ Qd Ed hr h => ⟨_, 
    (ys_one (ys_ret (ye_tup (ya_cons (ye_sub ye_int (ye_ix (yv 0) ye_int)) (ya_cons (ye_ix (yv 0) ye_int) ya_nil))))), ?_⟩
  · obtain ⟨x, rfl, _⟩ := h; rfl
  · obtain ⟨x, rfl, q⟩ := h
    simp only [dF]
    walk_at "dd"
    exact fin0 q
theorem d_are_values (T : Txt K mg cSlips) : Def P w K mg base 3 "are_values" (spJ isVals) := by
  refine Def.mk' T.at_are_values sc_are_values (fun ds Γ Q E h => ?_) fun f cdv A outer s H E ds Γ Qd Ed hr h => ⟨_, 
    (ys_one (ys_ret (ye_and (ye_isi (T := .tup) (by nofun) (by rfl) T.m_isinstance (by decide +kernel) (yv 0) (by rfl) T.m_tuple (by decide +kernel)) (ye_one (ye_callB (cr_all rfl) cd_all (by rfl) T.m_all (by decide +kernel) (ya_cons (ye_lc rfl sc_are_values.nd (yi_seq (yv 0)) (blkOk_by (N := ["thing", "one"]) (sc := (defScope s_are_values)) (own := [("one", 1)]) (by decide +kernel)) (fun _ _ _ _ _ => (yg_name (i := 1) sc_are_values.nd)) (fun _ _ _ _ _ => pts_yes) (fun _ _ _ _ _ => (ye_call (d_is_fraction T) hr (ya_cons (yv 1) ya_nil)))) ya_nil)))))), ?_⟩
  · obtain ⟨d, rfl, _⟩ := h; rfl
  · obtain ⟨d, rfl, hj, q⟩ := h
    walk_at "dd"
    rw [tyD_jd hj]
    walk_at "dd"
    cases d with
    | tup xs =>
      simp only [tyJ]
      walk_at "dd"
      refine ⟨lines (by have := hj.1; omega), lc_all isFr xs (fun x R hx r => ?_) ?_⟩
      · walk_at "dd"
        exact ⟨x, rfl, jdL_mem hj.2 hx, r⟩
      · walk_at "dd"
        exact fin0 q
    | _ => first | exact hj.elim | exact fin0 q
end

end Z
set_option Elab.async false
set_option linter.all false
set_option maxRecDepth 100000
set_option maxHeartbeats 4000000
set_option exponentiation.threshold 20000
namespace Z
open PySem PySem.Spec PyProof.Rows L2 Y
local macro_rules | `(tactic| walk_at "dd") => `(tactic| simp only [seqOf_dF, seqOf_dS, seqOf_dM, seqOf_dP, tyD_dF, tyD_dM, tyD_dS, tyD_dP, resD_dF, dVar, dC, dOp, dAdd_ii, dAdd_tt, dAdd_ll, d2I_ii, d2I0_ii, dMul_ii, dMul_ti, dNeg, dEq_ii, dEq_ss, dEq_bb, dNe_ii, dNe_ss, dNe_bb, dIs, dIsNot, isNon_non, isNon_int, isNon_bl, isNon_tup, isNon_lst, dTB, dChain, dAndT, dOrT, dNotT, dAndV, dOrV, dNotV, dIf, dNil, dCons, dTup', dLst', dLstO', dIx, dNoP, dPart, sliceD, dSl, dCB, dLen, dAbs, dInt, dMax2, dTupOf, dListOf, dListOfO, dAll, dAny, dIsi, dNext, dSeq, dPass, dNever, dDrop, dRet, dRetF, dRetN, dIfS, dgName, dgNil, dgCons, dgTup, dgSub, dSetItem, dSet, dAsg, dPar, dPar3, dAug, dISeq, dIEnum, dIEnumK, dIZip, dIRange1, dIRange2, dFor, dLc, dLcO, dLm, rAppD, rExtD, rPopD, dCall, dFld, dFldSet, dFldAdd, dMeth, dMake, Y.putAt, Nat.lt_irrefl, List.cons_append, dDictT, dDictO, dGet2, asKey, dYes, startD, endD, wipeD, seqOf_gup, lstOf_gup, gup_same, gup_gup, ixN_50, ixN_51, ixN_52, ixN_53, ixN_54, List.length_map, srcOf_tup, srcOf_lst, srcOf_scr, srcOf_ptr, blsOf_map, all_map, seqOf_tup, seqOf_lst, seqOf_scr, lstOf_lst, lstOf_scr, lstOf'_lst, tyD_tup, tyD_lst, tyD_int, tyD_bl, tyD_str, tyD_non, isT, atI_0, atI_1, atI_2, atI_3, atI_4, List.getElem?_cons_zero, List.getElem?_cons_succ, List.set_cons_zero, List.set_cons_succ, List.map_cons, List.map_nil, List.length_cons, List.length_nil, List.nil_append, reduceCtorEq, if_true, if_false, Bool.false_eq_true, ne_eq, not_false_eq_true, not_true_eq_false, true_and, and_true, forall_const, implies_true, Bool.not_true, Bool.not_false, Nat.reduceAdd, Nat.reduceLT, Nat.reduceLeDiff, Nat.zero_le, Nat.le_refl, Nat.lt_irrefl, Nat.reduceLeDiff, Int.reduceNeg])


section
variable {P : Program} {w : World} {K : PySem.W.Frag} {mg : Str → Option Value} {base : Heap} {cSlips : Addr}
theorem bits_step {n m l k : Nat} (h : n + l * (m + 1) ≤ k) : (n + l) + l * m ≤ k := by
  rw [Nat.mul_add, Nat.mul_one] at h; omega
theorem getF {vs : List Fr} {i : Nat} (h : i < vs.length) : atI (vs.map dF) (i : Int) = some (dF (vs.getD i (0, 1))) := by
  refine atI_at rfl ?_
  rw [List.getElem?_map, List.getD_eq_getElem?_getD, List.getElem?_eq_getElem h]; rfl
theorem getD_ok {vs : List Fr} (hv : ∀ v, v ∈ vs → FrOk v ∧ Sm 4 v) {i : Nat} (h : i < vs.length) : FrOk (vs.getD i (0, 1)) ∧ Sm 4 (vs.getD i (0, 1)) := by
  rw [List.getD_eq_getElem?_getD, List.getElem?_eq_getElem h]
  exact hv _ (List.getElem_mem h)
/-- the worth of a sum: the values' own place among the arguments by ord -/
def spWorth (ord : D → D → List D) : DSp := fun ds Γ Q _ => ∃ vs s n, ds = ord (.tup (vs.map dF)) (dS s) ∧ SOk n vs.length s ∧ (∀ v, v ∈ vs → FrOk v ∧ Sm 4 v) ∧ n + (n + 5) * vs.length ≤ 3900 ∧ Q (dF (worth vs s)) Γ
theorem d_raw_worth (T : Txt K mg cSlips) : Def P w K mg base 4 "raw_worth" (spWorth fun a b => [a, b]) := by
  refine Def.mk' T.at_raw_worth sc_raw_worth (fun ds Γ Q E h => ?_) fun f cdv A outer s H E ds Γ Qd Ed hr h => ⟨_, 
    (ys_cons (ys_set (i := 2) sc_raw_worth.nd (ye_ix (yv 1) ye_int))
    (ys_cons (ys_for PassesOwn.never rfl (yi_seq (ye_ix (yv 1) ye_int)) (yg_tup (n := 2) rfl (ygs_cons (yg_name (i := 3) sc_raw_worth.nd) (ygs_cons (yg_name (i := 4) sc_raw_worth.nd) ygs_nil)))
    (ys_one (ys_set (i := 2) sc_raw_worth.nd (ye_call (d_raw_plus T) hr (ya_cons (yv 2) (ya_cons (ye_call (d_raw_times T) hr (ya_cons (yv 4) (ya_cons (ye_ix (yv 0) (yv 3)) ya_nil))) ya_nil))))))
    (ys_one (ys_ret (yv 2))))), ?_⟩
  · obtain ⟨vs, s, n, rfl, _⟩ := h; rfl
  · obtain ⟨vs, s, n, rfl, hs, hv, hb, q⟩ := h
    simp only [dS]
    walk_at "dd"
    refine forRun_ind dP (fun r ρ Γ' => Γ' = Γ ∧ ∃ a k o1 o2, ρ = [some (.tup (vs.map dF)), some (dS s), some (dF a), o1, o2] ∧ FrOk a ∧ Sm k a ∧ k + (n + 5) * r.length ≤ 3900 ∧ worthP vs r a = worth vs s ∧ ∀ p, p ∈ r → p ∈ nzP 0 s.1) _ ?_ ?_ ?_
    · have h1 : (n + 5) * (nzP 0 s.1).length ≤ (n + 5) * vs.length := Nat.mul_le_mul_left _ (by have := nzP_len 0 s.1; rw [hs.len] at this; exact this)
      exact ⟨rfl, s.2, n, none, none, rfl, hs.cok, hs.csm, by omega, rfl, fun p hp => hp⟩
    · rintro ⟨i, f⟩ r ρ Γ' R ⟨rfl, a, k, o1, o2, rfl, ha, sa, hk, hw, hm⟩ next
      obtain ⟨h1, h2, h3, h4⟩ := nzP_mem (hm _ List.mem_cons_self)
      simp only at h1 h2 h3 h4
      rw [hs.len] at h4
      have hf := hs.fok f h2
      have sf := hs.fsm f h2
      obtain ⟨gv, sv⟩ := getD_ok hv h4
      rw [List.length_cons] at hk
      have hk2 := bits_step hk
      simp only [dP]
      walk_at "dd"
      rw [getF h4]
      refine ⟨f, vs.getD i (0, 1), rfl, hf.pos, gv.pos, sf.mono (by omega), sv.mono (by decide), ?_⟩
      refine ⟨a, _, rfl, ha.pos, (times_ok hf.pos gv.pos).pos, sa.mono (by omega), (times_sm sf sv hf.pos gv.pos).mono (by omega), ?_⟩
      exact next _ _ ⟨rfl, _, k + (n + 5), _, _, rfl, plus_ok ha.pos (times_ok hf.pos gv.pos).pos, (plus_sm sa (times_sm sf sv hf.pos gv.pos) ha.pos (times_ok hf.pos gv.pos).pos).mono (by omega), hk2, hw, fun p hp => hm p (List.mem_cons_of_mem _ hp)⟩
    · rintro ρ Γ' ⟨rfl, a, k, o1, o2, rfl, ha, sa, hk, hw, hm⟩
      walk_at "dd"
      have e : a = worth vs s := hw
      rw [e]
      exact fin0 q
/-- a sum by its factors: those that are not 0 -/
def spByF : DSp := fun ds Γ Q _ => ∃ d fs c, ds = [d, dF c] ∧ (d = .tup (fs.map dF) ∨ d = .lst (fs.map dF)) ∧ fs.length ≤ 1000 ∧ Q (dS (fs, c)) Γ
theorem byf_src {Γ : Gs} {d : D} {fs : List Fr} (h : d = .tup (fs.map dF) ∨ d = .lst (fs.map dF)) : seqOf Γ d = some (fs.map dF) ∧ srcOf d (fs.map dF) = none := by
  rcases h with rfl | rfl <;> exact ⟨rfl, rfl⟩
theorem d_raw_by_factors (T : Txt K mg cSlips) : Def P w K mg base 1 "raw_by_factors" spByF := by
  refine Def.mk' T.at_raw_by_factors sc_raw_by_factors (fun ds Γ Q E h => ?_) fun f cdv A outer s H E ds Γ Qd Ed hr h => ⟨_, 
    (ys_one (ys_ret (ye_tup (ya_cons (ye_callTy call_tuple_F cd_tupOf (by rfl) T.m_tuple (by decide +kernel) (ya_cons (ye_lc rfl sc_raw_by_factors.nd (yi_enum (by rfl) T.m_enumerate (ya_cons (yv 0) ya_nil)) (blkOk_by (N := ["factors", "constant", "at", "factor"]) (sc := (defScope s_raw_by_factors)) (own := [("at", 2), ("factor", 3)]) (by decide +kernel)) (fun _ _ _ _ _ => (yg_tup (n := 2) rfl (ygs_cons (yg_name (i := 2) sc_raw_by_factors.nd) (ygs_cons (yg_name (i := 3) sc_raw_by_factors.nd) ygs_nil)))) (fun _ _ _ _ _ => (yts_one (yt_ne hr (ye_ix (yv 3) ye_int) ye_int))) (fun _ _ _ _ _ => (ye_tup (ya_cons (yv 2) (ya_cons (yv 3) ya_nil))))) ya_nil)) (ya_cons (yv 1) ya_nil))))), ?_⟩
  · obtain ⟨d, fs, c, rfl, _⟩ := h; rfl
  · obtain ⟨d, fs, c, rfl, hd, hl, q⟩ := h
    obtain ⟨h1, h2⟩ := byf_src (Γ := Γ) hd
    walk_at "dd"
    rw [h1]
    walk_at "dd"
    rw [h2, enumD_map]
    refine ⟨lines (by simp; omega), lcRun_filter (fun p : Fr × Nat => D.tup [.int (0 + (p.2 : Nat)), dF p.1]) (fun p => dP (p.2, p.1)) (fun p => decide (p.1.1 ≠ 0)) _ ?_ ?_⟩
    · rintro ⟨x, i⟩ R R' _ ht hf
      simp only [dF] at ht hf ⊢
      walk_at "dd"
      by_cases hx : x.1 = 0
      · rw [decide_eq_true hx]
        walk_at "dd"
        exact hf (by simp [hx])
      · rw [decide_eq_false hx]
        walk_at "dd"
        rw [Int.zero_add]
        exact ht (by simp [hx])
    · walk_at "dd"
      rw [nzP_zip]
      exact fin0 q
def sp_factors : DSp := fun ds Γ Q _ => ∃ s n m, ds = [.int (m : Nat), dS s] ∧ SOk n m s ∧ m ≤ 100 ∧ Q (.lst (s.1.map dF)) Γ
theorem d_raw_factors (T : Txt K mg cSlips) : Def P w K mg base 1 "raw_factors" sp_factors := by
  refine Def.mk' T.at_raw_factors sc_raw_factors (fun ds Γ Q E h => ?_) fun f cdv A outer s H E ds Γ Qd Ed hr h => ⟨_, 
    (ys_cons (ys_set (i := 2) sc_raw_factors.nd (ye_repO (ye_lst (ya_cons (ye_glob (by rfl) T.c_NOUGHT) ya_nil)) (yv 0)))
    (ys_cons (ys_for PassesOwn.never rfl (yi_seq (ye_ix (yv 1) ye_int)) (yg_tup (n := 2) rfl (ygs_cons (yg_name (i := 3) sc_raw_factors.nd) (ygs_cons (yg_name (i := 4) sc_raw_factors.nd) ygs_nil)))
    (ys_one (ys_asg (yv 4) (yg_sub (yv 2) (yv 3)))))
    (ys_one (ys_retF (yv 2))))), ?_⟩
  · obtain ⟨s, n, m, rfl, _⟩ := h; rfl
  · obtain ⟨s, n, m, rfl, hs, hm, q⟩ := h
    simp only [dS]
    walk_at "dd"
    simp only [dRepO, lstOf'_lst]
    refine ⟨⟨by omega, by omega, lines (by simp; omega)⟩, fun p hp => ?_⟩
    have e0 : (List.replicate (Int.toNat (m : Int)) [D.tup [.int 0, .int 1]]).flatten = (List.replicate m ((0, 1) : Fr)).map dF := by
      rw [Int.toNat_natCast, List.map_replicate]
      clear hs hm
      induction m with
      | zero => rfl
      | succ m ih => rw [List.replicate_succ, List.flatten_cons, ih, List.replicate_succ]; rfl
    rw [e0]
    refine forRun_ind dP (fun r ρ Γ' => ∃ gs o1 o2, ρ = [some (.int m), some (dS s), some (.raw (.ref p)), o1, o2] ∧ Γ' = gup Γ p (.lst (gs.map dF)) ∧ gs.length = m ∧ fill r gs = s.1 ∧ ∀ p, p ∈ r → p ∈ nzP 0 s.1) _ ?_ ?_ ?_
    · exact ⟨List.replicate m (0, 1), none, none, rfl, rfl, by simp, by have := fill_start hs.fok; rw [hs.len] at this; exact this, fun p hp => hp⟩
    · rintro ⟨i, f⟩ r ρ Γ' R ⟨gs, o1, o2, rfl, rfl, hg, hf, hm'⟩ next
      obtain ⟨h1, h2, h3, h4⟩ := nzP_mem (hm' _ List.mem_cons_self)
      simp only at h1 h2 h3 h4
      rw [hs.len] at h4
      simp only [dP]
      walk_at "dd"
      rw [ixN_at (by omega)]
      walk_at "dd"
      have e2 : (gs.map dF).set i (dF f) = (gs.set i f).map dF := by rw [List.map_set]
      rw [e2]
      exact next _ _ ⟨gs.set i f, _, _, rfl, rfl, by simpa using hg, hf, fun p hp => hm' p (List.mem_cons_of_mem _ hp)⟩
    · rintro ρ Γ' ⟨gs, o1, o2, rfl, rfl, hg, hf, hm'⟩
      walk_at "dd"
      have e : gs = s.1 := hf
      rw [e]
      exact ⟨Γ, Sub.new hp, hp, fin0 q⟩
end

end Z
set_option Elab.async false
set_option linter.all false
set_option maxRecDepth 100000
set_option maxHeartbeats 4000000
set_option exponentiation.threshold 20000
namespace Z
open PySem PySem.Spec PyProof.Rows L2 Y
local macro_rules | `(tactic| walk_at "dd") => `(tactic| simp only [seqOf_dF, seqOf_dS, seqOf_dM, seqOf_dP, tyD_dF, tyD_dM, tyD_dS, tyD_dP, resD_dF, dVar, dC, dOp, dAdd_ii, dAdd_tt, dAdd_ll, d2I_ii, d2I0_ii, dMul_ii, dMul_ti, dNeg, dEq_ii, dEq_ss, dEq_bb, dNe_ii, dNe_ss, dNe_bb, dIs, dIsNot, isNon_non, isNon_int, isNon_bl, isNon_tup, isNon_lst, dTB, dChain, dAndT, dOrT, dNotT, dAndV, dOrV, dNotV, dIf, dNil, dCons, dTup', dLst', dLstO', dIx, dNoP, dPart, sliceD, dSl, dCB, dLen, dAbs, dInt, dMax2, dTupOf, dListOf, dListOfO, dAll, dAny, dIsi, dNext, dSeq, dPass, dNever, dDrop, dRet, dRetF, dRetN, dIfS, dgName, dgNil, dgCons, dgTup, dgSub, dSetItem, dSet, dAsg, dPar, dPar3, dAug, dISeq, dIEnum, dIEnumK, dIZip, dIRange1, dIRange2, dFor, dLc, dLcO, dLm, rAppD, rExtD, rPopD, dCall, dFld, dFldSet, dFldAdd, dMeth, dMake, Y.putAt, Nat.lt_irrefl, List.cons_append, dDictT, dDictO, dGet2, asKey, dYes, startD, endD, wipeD, seqOf_gup, lstOf_gup, gup_same, gup_gup, ixN_50, ixN_51, ixN_52, ixN_53, ixN_54, List.length_map, srcOf_tup, srcOf_lst, srcOf_scr, srcOf_ptr, blsOf_map, all_map, seqOf_tup, seqOf_lst, seqOf_scr, lstOf_lst, lstOf_scr, lstOf'_lst, tyD_tup, tyD_lst, tyD_int, tyD_bl, tyD_str, tyD_non, isT, atI_0, atI_1, atI_2, atI_3, atI_4, List.getElem?_cons_zero, List.getElem?_cons_succ, List.set_cons_zero, List.set_cons_succ, List.map_cons, List.map_nil, List.length_cons, List.length_nil, List.nil_append, reduceCtorEq, if_true, if_false, Bool.false_eq_true, ne_eq, not_false_eq_true, not_true_eq_false, true_and, and_true, forall_const, implies_true, Bool.not_true, Bool.not_false, Nat.reduceAdd, Nat.reduceLT, Nat.reduceLeDiff, Nat.zero_le, Nat.le_refl, Nat.lt_irrefl, Nat.reduceLeDiff, Int.reduceNeg])


section
variable {P : Program} {w : World} {K : PySem.W.Frag} {mg : Str → Option Value} {base : Heap} {cSlips : Addr}
theorem d_law_made (T : Txt K mg cSlips) : Def P w K mg base 1 "_law_made" sp_made := by
  refine Def.mk' T.at_law_made sc_law_made (fun ds Γ Q E h => ?_) fun f cdv A outer s H E ds Γ Qd Ed hr h => ⟨_, 
    (ys_cons (ys_par (i := 2) (j := 3) rfl sc_law_made.nd (ya_cons (ye_callB call_abs cd_abs (by rfl) T.m_abs (by decide +kernel) (ya_cons (yv 0) ya_nil)) (ya_cons (yv 1) ya_nil)))
    (ys_cons (ys_while PassesOwn.never (yt_gt (yv 3) ye_int)
    (ys_one (ys_par (i := 2) (j := 3) rfl sc_law_made.nd (ya_cons (yv 3) (ya_cons (ye_mod (ye_callTy call_int1 cd_int (by rfl) T.m_int (by decide +kernel) (ya_cons (yv 2) ya_nil)) (yv 3)) ya_nil)))))
    (ys_one (ys_ret (ye_tup (ya_cons (ye_div (yv 0) (yv 2)) (ya_cons (ye_div (yv 1) (yv 2)) ya_nil))))))), ?_⟩
  · obtain ⟨t, b, rfl, _⟩ := h; rfl
  · obtain ⟨t, b, rfl, hb, ht, hb2, q⟩ := h
    walk_at "dd"
    simp only [dWhile]
    refine ⟨fun m ρ Γ' => ∃ x y : Int, ρ = [some (.int t), some (.int b), some (.int x), some (.int y)] ∧ Γ' = Γ ∧ 0 ≤ x ∧ 0 ≤ y ∧ m = y.toNat ∧ gcdI x y = gcdI t b, ⟨_, _, b, rfl, rfl, by omega, by omega, rfl, gcdI_abs t b⟩, ?_⟩
    rintro m ρ Γ' ⟨x, y, rfl, rfl, hx, hy, rfl, e⟩
    walk_at "dd"
    by_cases hy0 : y = 0
    · subst hy0
      rw [gcdI_zero x hx] at e
      subst e
      rw [decide_eq_false (by omega)]
      walk_at "dd"
      have hg := gcdI_pos (t := t) hb
      have hs : gcdI t b < 2 ^ 9000 := Int.lt_of_le_of_lt (gcdI_le (t := t) hb) (small_lt hb2 (by omega))
      exact ⟨div_ok (n := 9000) hg hs (Nat.le_refl _), div_ok (n := 9000) hg hs (Nat.le_refl _), fin0 q⟩
    · have hyp : 0 < y := by omega
      rw [decide_eq_true hyp]
      walk_at "dd"
      have h1 : 0 ≤ x % y := Int.emod_nonneg _ hy0
      have h2 : x % y < y := Int.emod_lt_of_pos _ hyp
      exact ⟨hyp, (x % y).toNat, by omega, y, x % y, rfl, hy, h1, rfl, by rw [gcdI_step]; exact e⟩
theorem d_law_plus (T : Txt K mg cSlips) : Def P w K mg base 2 "_law_plus" (sp2 plus) := by
  refine Def.mk' T.at_law_plus sc_law_plus (fun ds Γ Q E h => ?_) fun f cdv A outer s H E ds Γ Qd Ed hr h => ⟨_, 
    (ys_one (ys_ret (ye_call (d_law_made T) hr (ya_cons (ye_add (ye_mul (ye_ix (yv 0) ye_int) (ye_ix (yv 1) ye_int)) (ye_mul (ye_ix (yv 1) ye_int) (ye_ix (yv 0) ye_int))) (ya_cons (ye_mul (ye_ix (yv 0) ye_int) (ye_ix (yv 1) ye_int)) ya_nil))))), ?_⟩
  · obtain ⟨x, y, rfl, _⟩ := h; rfl
  · obtain ⟨x, y, rfl, hx, hy, sx, sy, q⟩ := h
    have hn := plus_nums sx sy
    simp only [dF]
    walk_at "dd"
    exact ⟨mul4 sx.1 sy.2, mul4 sy.1 sx.2, mul4 sx.2 sy.2, _, _, rfl, Int.mul_pos hx hy, up9 hn.1 (by decide), up9 hn.2 (by decide), fin0 q⟩
theorem d_law_times (T : Txt K mg cSlips) : Def P w K mg base 2 "_law_times" (sp2 times) := by
  refine Def.mk' T.at_law_times sc_law_times (fun ds Γ Q E h => ?_) fun f cdv A outer s H E ds Γ Qd Ed hr h => ⟨_, 
    (ys_one (ys_ret (ye_call (d_law_made T) hr (ya_cons (ye_mul (ye_ix (yv 0) ye_int) (ye_ix (yv 1) ye_int)) (ya_cons (ye_mul (ye_ix (yv 0) ye_int) (ye_ix (yv 1) ye_int)) ya_nil))))), ?_⟩
  · obtain ⟨x, y, rfl, _⟩ := h; rfl
  · obtain ⟨x, y, rfl, hx, hy, sx, sy, q⟩ := h
    simp only [dF]
    walk_at "dd"
    exact ⟨mul4 sx.1 sy.1, mul4 sx.2 sy.2, _, _, rfl, Int.mul_pos hx hy, up9 (natAbs_mul_lt sx.1 sy.1) (by decide), up9 (natAbs_mul_lt sx.2 sy.2) (by decide), fin0 q⟩
theorem d_law_worth (T : Txt K mg cSlips) : Def P w K mg base 3 "_law_worth" (spWorth fun a b => [b, a]) := by
  refine Def.mk' T.at_law_worth sc_law_worth (fun ds Γ Q E h => ?_) fun f cdv A outer s H E ds Γ Qd Ed hr h => ⟨_, 
    (ys_cons (ys_set (i := 2) sc_law_worth.nd (ye_ix (yv 0) ye_int))
    (ys_cons (ys_for PassesOwn.never rfl (yi_seq (ye_ix (yv 0) ye_int)) (yg_tup (n := 2) rfl (ygs_cons (yg_name (i := 3) sc_law_worth.nd) (ygs_cons (yg_name (i := 4) sc_law_worth.nd) ygs_nil)))
    (ys_one (ys_set (i := 2) sc_law_worth.nd (ye_call (d_law_plus T) hr (ya_cons (yv 2) (ya_cons (ye_call (d_law_times T) hr (ya_cons (yv 4) (ya_cons (ye_ix (yv 1) (yv 3)) ya_nil))) ya_nil))))))
    (ys_one (ys_ret (yv 2))))), ?_⟩
  · obtain ⟨vs, s, n, rfl, _⟩ := h; rfl
  · obtain ⟨vs, s, n, rfl, hs, hv, hb, q⟩ := h
    simp only [dS]
    walk_at "dd"
    refine forRun_ind dP (fun r ρ Γ' => Γ' = Γ ∧ ∃ a k o1 o2, ρ = [some (dS s), some (.tup (vs.map dF)), some (dF a), o1, o2] ∧ FrOk a ∧ Sm k a ∧ k + (n + 5) * r.length ≤ 3900 ∧ worthP vs r a = worth vs s ∧ ∀ p, p ∈ r → p ∈ nzP 0 s.1) _ ?_ ?_ ?_
    · have h1 : (n + 5) * (nzP 0 s.1).length ≤ (n + 5) * vs.length := Nat.mul_le_mul_left _ (by have := nzP_len 0 s.1; rw [hs.len] at this; exact this)
      exact ⟨rfl, s.2, n, none, none, rfl, hs.cok, hs.csm, by omega, rfl, fun p hp => hp⟩
    · rintro ⟨i, f⟩ r ρ Γ' R ⟨rfl, a, k, o1, o2, rfl, ha, sa, hk, hw, hm⟩ next
      obtain ⟨h1, h2, h3, h4⟩ := nzP_mem (hm _ List.mem_cons_self)
      simp only at h1 h2 h3 h4
      rw [hs.len] at h4
      have hf := hs.fok f h2
      have sf := hs.fsm f h2
      obtain ⟨gv, sv⟩ := getD_ok hv h4
      rw [List.length_cons] at hk
      have hk2 := bits_step hk
      simp only [dP]
      walk_at "dd"
      rw [getF h4]
      refine ⟨f, vs.getD i (0, 1), rfl, hf.pos, gv.pos, sf.mono (by omega), sv.mono (by decide), ?_⟩
      refine ⟨a, _, rfl, ha.pos, (times_ok hf.pos gv.pos).pos, sa.mono (by omega), (times_sm sf sv hf.pos gv.pos).mono (by omega), ?_⟩
      exact next _ _ ⟨rfl, _, k + (n + 5), _, _, rfl, plus_ok ha.pos (times_ok hf.pos gv.pos).pos, (plus_sm sa (times_sm sf sv hf.pos gv.pos) ha.pos (times_ok hf.pos gv.pos).pos).mono (by omega), hk2, hw, fun p hp => hm p (List.mem_cons_of_mem _ hp)⟩
    · rintro ρ Γ' ⟨rfl, a, k, o1, o2, rfl, ha, sa, hk, hw, hm⟩
      walk_at "dd"
      have e : a = worth vs s := hw
      rw [e]
      exact fin0 q
theorem d_law_as_sum (T : Txt K mg cSlips) : Def P w K mg base 1 "_law_as_sum" spByF := by
  refine Def.mk' T.at_law_as_sum sc_law_as_sum (fun ds Γ Q E h => ?_) fun f cdv A outer s H E ds Γ Qd Ed hr h => ⟨_, 
    (ys_one (ys_ret (ye_tup (ya_cons (ye_callTy call_tuple_F cd_tupOf (by rfl) T.m_tuple (by decide +kernel) (ya_cons (ye_lc rfl sc_law_as_sum.nd (yi_enum (by rfl) T.m_enumerate (ya_cons (yv 0) ya_nil)) (blkOk_by (N := ["factors", "constant", "at", "one"]) (sc := (defScope s_law_as_sum)) (own := [("at", 2), ("one", 3)]) (by decide +kernel)) (fun _ _ _ _ _ => (yg_tup (n := 2) rfl (ygs_cons (yg_name (i := 2) sc_law_as_sum.nd) (ygs_cons (yg_name (i := 3) sc_law_as_sum.nd) ygs_nil)))) (fun _ _ _ _ _ => (yts_one (yt_ne hr (ye_ix (yv 3) ye_int) ye_int))) (fun _ _ _ _ _ => (ye_tup (ya_cons (yv 2) (ya_cons (yv 3) ya_nil))))) ya_nil)) (ya_cons (yv 1) ya_nil))))), ?_⟩
  · obtain ⟨d, fs, c, rfl, _⟩ := h; rfl
  · obtain ⟨d, fs, c, rfl, hd, hl, q⟩ := h
    obtain ⟨h1, h2⟩ := byf_src (Γ := Γ) hd
    walk_at "dd"
    rw [h1]
    walk_at "dd"
    rw [h2, enumD_map]
    refine ⟨lines (by simp; omega), lcRun_filter (fun p : Fr × Nat => D.tup [.int (0 + (p.2 : Nat)), dF p.1]) (fun p => dP (p.2, p.1)) (fun p => decide (p.1.1 ≠ 0)) _ ?_ ?_⟩
    · rintro ⟨x, i⟩ R R' _ ht hf
      simp only [dF] at ht hf ⊢
      walk_at "dd"
      by_cases hx : x.1 = 0
      · rw [decide_eq_true hx]
        walk_at "dd"
        exact hf (by simp [hx])
      · rw [decide_eq_false hx]
        walk_at "dd"
        rw [Int.zero_add]
        exact ht (by simp [hx])
    · walk_at "dd"
      rw [nzP_zip]
      exact fin0 q
/-! ### right, slipped -/
theorem m_fs {m : Nat} {x : Mk'} (h : MOk m x) : ∀ v, v ∈ x.1 → FrOk v ∧ Sm 4 v := fun v hv => ⟨h.fok v hv, h.fsm v hv⟩
theorem worth_bits {n m : Nat} (hn : n ≤ 900) (hm : m ≤ 3) : n + (n + 5) * m ≤ 3900 := by
  have : (n + 5) * m ≤ (n + 5) * 3 := Nat.mul_le_mul_left _ hm
  omega
def spRight : DSp := fun ds Γ Q _ => ∃ s x n m, ds = [dS s, dM x] ∧ SOk n m s ∧ MOk m x ∧ n ≤ 900 ∧ m ≤ 3 ∧ Q (.bl (rightB s x)) Γ
theorem d_is_right (T : Txt K mg cSlips) : Def P w K mg base 5 "is_right" spRight := by
  refine Def.mk' T.at_is_right sc_is_right (fun ds Γ Q E h => ?_) fun f cdv A outer s H E ds Γ Qd Ed hr h => ⟨_, 
    (ys_cons (ys_set (i := 2) sc_is_right.nd (ye_ix (ye_call (d_raw_worth T) hr (ya_cons (ye_ix (yv 1) ye_int) (ya_cons (yv 0) ya_nil))) ye_int))
    (ys_one (ys_ret (ye_if (yt_val (ye_ix (yv 1) ye_int)) (ye_gt (yv 2) ye_int) (ye_lt (yv 2) ye_int))))), ?_⟩
  · obtain ⟨s, x, n, m, rfl, _⟩ := h; rfl
  · obtain ⟨s, x, n, m, rfl, hs, hx, hn, hm, q⟩ := h
    simp only [dM]
    walk_at "dd"
    refine ⟨x.1, s, n, rfl, by rw [hx.len]; exact hs, m_fs hx, by rw [hx.len]; exact worth_bits hn hm, ?_⟩
    unfold rightB at q
    simp only [dF]
    walk_at "dd"
    split
    · rename_i hx2
      rw [if_pos hx2] at q
      exact fin0 q
    · rename_i hx2
      rw [if_neg hx2] at q
      exact fin0 q
theorem d_law_right (T : Txt K mg cSlips) : Def P w K mg base 4 "_law_right" spRight := by
  refine Def.mk' T.at_law_right sc_law_right (fun ds Γ Q E h => ?_) fun f cdv A outer s H E ds Γ Qd Ed hr h => ⟨_, 
    (ys_cons (ys_set (i := 2) sc_law_right.nd (ye_ix (ye_call (d_law_worth T) hr (ya_cons (yv 0) (ya_cons (ye_ix (yv 1) ye_int) ya_nil))) ye_int))
    (ys_one (ys_ret (ye_if (yt_val (ye_ix (yv 1) ye_int)) (ye_gt (yv 2) ye_int) (ye_lt (yv 2) ye_int))))), ?_⟩
  · obtain ⟨s, x, n, m, rfl, _⟩ := h; rfl
  · obtain ⟨s, x, n, m, rfl, hs, hx, hn, hm, q⟩ := h
    simp only [dM]
    walk_at "dd"
    refine ⟨x.1, s, n, rfl, by rw [hx.len]; exact hs, m_fs hx, by rw [hx.len]; exact worth_bits hn hm, ?_⟩
    unfold rightB at q
    simp only [dF]
    walk_at "dd"
    split
    · rename_i hx2
      rw [if_pos hx2] at q
      exact fin0 q
    · rename_i hx2
      rw [if_neg hx2] at q
      exact fin0 q
def spSlip : DSp := fun ds Γ Q _ => ∃ s x n m, ds = [dS s, dM x] ∧ SOk n m s ∧ MOk m x ∧ n ≤ 900 ∧ m ≤ 3 ∧ Q (dS (slip s x)) Γ
theorem d_raw_slipped (T : Txt K mg cSlips) : Def P w K mg base 4 "raw_slipped" spSlip := by
  refine Def.mk' T.at_raw_slipped sc_raw_slipped (fun ds Γ Q E h => ?_) fun f cdv A outer s H E ds Γ Qd Ed hr h => ⟨_, 
    (ys_cons (ys_asg (yv 1) (yg_tup (n := 2) rfl (ygs_cons (yg_name (i := 2) sc_raw_slipped.nd) (ygs_cons (yg_name (i := 3) sc_raw_slipped.nd) ygs_nil))))
    (ys_cons (ys_set (i := 4) sc_raw_slipped.nd (ye_if (yt_val (yv 3)) (ye_glob (by rfl) T.c_ONE) (ye_call (d_raw_minus T) hr (ya_cons (ye_glob (by rfl) T.c_ONE) ya_nil))))
    (ys_cons (ys_setLc (i := 5) rfl sc_raw_slipped.nd (yi_zip (by rfl) T.m_zip (ya_cons (ye_call (d_raw_factors T) hr (ya_cons (ye_callB call_len cd_len (by rfl) T.m_len (by decide +kernel) (ya_cons (yv 2) ya_nil)) (ya_cons (yv 0) ya_nil))) (ya_cons (yv 2) ya_nil))) (blkOk_by (N := ["told", "one", "point", "flag", "by", "factors", "x", "y"]) (sc := (defScope s_raw_slipped)) (own := [("x", 6), ("y", 7)]) (by decide +kernel)) (fun _ _ _ _ _ => (yg_tup (n := 2) rfl (ygs_cons (yg_name (i := 6) sc_raw_slipped.nd) (ygs_cons (yg_name (i := 7) sc_raw_slipped.nd) ygs_nil)))) (fun _ _ _ _ _ => pts_yes) (fun _ _ _ _ _ => (ye_call (d_raw_plus T) hr (ya_cons (yv 6) (ya_cons (ye_call (d_raw_times T) hr (ya_cons (yv 4) (ya_cons (yv 7) ya_nil))) ya_nil)))))
    (ys_one (ys_ret (ye_call (d_raw_by_factors T) hr (ya_cons (ye_callTy call_tuple_F cd_tupOf (by rfl) T.m_tuple (by decide +kernel) (ya_cons (yv 5) ya_nil)) (ya_cons (ye_call (d_raw_plus T) hr (ya_cons (ye_ix (yv 0) ye_int) (ya_cons (yv 4) ya_nil))) ya_nil)))))))), ?_⟩
  · obtain ⟨s, x, n, m, rfl, _⟩ := h; rfl
  · obtain ⟨s, ⟨pt, fl⟩, n, m, rfl, hs, hx, hn, hm, q⟩ := h
    have hl : pt.length = m := hx.len
    have hb := byOf_ok fl
    have sb := byOf_sm fl
    simp only [dM]
    walk_at "dd"
    cases fl
    · rw [if_neg Bool.false_ne_true]
      refine ⟨(1, 1), rfl, ?_⟩
      rw [show dF (neg (1, 1)) = dF (byOf false) from rfl]
      refine ⟨s, n, m, by rw [hl], hs, by omega, ?_⟩
      walk_at "dd"
      rw [zipD_map]
      refine ⟨.inl trivial, lines (by simp; omega), lcRun_map (fun p : Fr × Fr => D.tup [dF p.1, dF p.2]) (fun p => dF (plus p.1 (times (byOf false) p.2))) (s.1.zip pt) ?_ ?_⟩
      · rintro ⟨a, y⟩ R R' hm' r
        obtain ⟨m1, m2⟩ := List.of_mem_zip hm'
        walk_at "dd"
        have ha := hs.fok a m1
        have sa := hs.fsm a m1
        have hy := hx.fok y m2
        have sy := hx.fsm y m2
        refine ⟨byOf false, y, rfl, hb.pos, hy.pos, sb.mono (by decide), sy.mono (by decide), ?_⟩
        exact ⟨a, _, rfl, ha.pos, (times_ok hb.pos hy.pos).pos, sa.mono (by omega), (times_sm sb sy hb.pos hy.pos).mono (by decide), r⟩
      · rw [map_zip_with (fun a y => plus a (times (byOf false) y))]
        refine ⟨s.2, byOf false, rfl, hs.cok.pos, hb.pos, hs.csm.mono (by omega), sb.mono (by decide), ?_⟩
        exact ⟨_, _, _, rfl, .inl rfl, by rw [List.length_zipWith, hs.len]; omega, fin0 q⟩
    · rw [if_pos rfl]
      rw [show D.tup [D.int 1, D.int 1] = dF (byOf true) from rfl]
      refine ⟨s, n, m, by rw [hl], hs, by omega, ?_⟩
      walk_at "dd"
      rw [zipD_map]
      refine ⟨.inl trivial, lines (by simp; omega), lcRun_map (fun p : Fr × Fr => D.tup [dF p.1, dF p.2]) (fun p => dF (plus p.1 (times (byOf true) p.2))) (s.1.zip pt) ?_ ?_⟩
      · rintro ⟨a, y⟩ R R' hm' r
        obtain ⟨m1, m2⟩ := List.of_mem_zip hm'
        walk_at "dd"
        have ha := hs.fok a m1
        have sa := hs.fsm a m1
        have hy := hx.fok y m2
        have sy := hx.fsm y m2
        refine ⟨byOf true, y, rfl, hb.pos, hy.pos, sb.mono (by decide), sy.mono (by decide), ?_⟩
        exact ⟨a, _, rfl, ha.pos, (times_ok hb.pos hy.pos).pos, sa.mono (by omega), (times_sm sb sy hb.pos hy.pos).mono (by decide), r⟩
      · rw [map_zip_with (fun a y => plus a (times (byOf true) y))]
        refine ⟨s.2, byOf true, rfl, hs.cok.pos, hb.pos, hs.csm.mono (by omega), sb.mono (by decide), ?_⟩
        exact ⟨_, _, _, rfl, .inl rfl, by rw [List.length_zipWith, hs.len]; omega, fin0 q⟩
theorem d_law_slipped (T : Txt K mg cSlips) : Def P w K mg base 3 "_law_slipped" spSlip := by
  refine Def.mk' T.at_law_slipped sc_law_slipped (fun ds Γ Q E h => ?_) fun f cdv A outer s H E ds Γ Qd Ed hr h => ⟨_, 
    (ys_cons (ys_asg (yv 1) (yg_tup (n := 2) rfl (ygs_cons (yg_name (i := 2) sc_law_slipped.nd) (ygs_cons (yg_name (i := 3) sc_law_slipped.nd) ygs_nil))))
    (ys_cons (ys_set (i := 4) sc_law_slipped.nd (ye_if (yt_val (yv 3)) (ye_tup (ya_cons ye_int (ya_cons ye_int ya_nil))) (ye_tup (ya_cons (ye_neg ye_int) (ya_cons ye_int ya_nil)))))
    (ys_cons (ys_set (i := 5) sc_law_slipped.nd (ye_callTy (call_dictT rfl) cd_dictT (by rfl) T.m_dict (by decide +kernel) (ya_cons (ye_ix (yv 0) ye_int) ya_nil)))
    (ys_cons (ys_setLc (i := 6) rfl sc_law_slipped.nd (yi_enum (by rfl) T.m_enumerate (ya_cons (yv 2) ya_nil)) (blkOk_by (N := ["told", "one", "point", "flag", "by", "some", "moved", "at", "x"]) (sc := (defScope s_law_slipped)) (own := [("at", 7), ("x", 8)]) (by decide +kernel)) (fun _ _ _ _ _ => (yg_tup (n := 2) rfl (ygs_cons (yg_name (i := 7) sc_law_slipped.nd) (ygs_cons (yg_name (i := 8) sc_law_slipped.nd) ygs_nil)))) (fun _ _ _ _ _ => pts_yes) (fun _ _ _ _ _ => (ye_call (d_law_plus T) hr (ya_cons (ye_get2 hr (yv 5) (yv 7) (ye_tup (ya_cons ye_int (ya_cons ye_int ya_nil)))) (ya_cons (ye_call (d_law_times T) hr (ya_cons (yv 4) (ya_cons (yv 8) ya_nil))) ya_nil)))))
    (ys_one (ys_ret (ye_call (d_law_as_sum T) hr (ya_cons (yv 6) (ya_cons (ye_call (d_law_plus T) hr (ya_cons (ye_ix (yv 0) ye_int) (ya_cons (yv 4) ya_nil))) ya_nil))))))))), ?_⟩
  · obtain ⟨s, x, n, m, rfl, _⟩ := h; rfl
  · obtain ⟨s, ⟨pt, fl⟩, n, m, rfl, hs, hx, hn, hm, q⟩ := h
    have hl : pt.length = m := hx.len
    have hb := byOf_ok fl
    have sb := byOf_sm fl
    simp only [dM]
    walk_at "dd"
    cases fl
    · rw [if_neg Bool.false_ne_true, kvsOf_nz]
      simp only []
      intro p hp
      rw [show D.tup [D.int (-1), D.int 1] = dF (byOf false) from rfl, enumD_map, mergeD_nz s.1 0 [] (fun _ h => nomatch h), List.nil_append]
      refine ⟨lines (by simp; omega), lcRun_map (fun q : Fr × Nat => D.tup [.int (0 + (q.2 : Nat)), dF q.1]) (fun q => dF (plus (s.1.getD q.2 (0, 1)) (times (byOf false) q.1))) pt.zipIdx ?_ ?_⟩
      · rintro ⟨y, i⟩ R R' hm' r
        have hi : pt[i]? = some y := by
          have := List.mem_zipIdx_iff_getElem?.mp hm'
          exact this
        have hy1 : y ∈ pt := List.mem_of_getElem? hi
        have hil : i < s.1.length := by rw [hs.len, ← hl]; exact (List.getElem?_eq_some_iff.mp hi).1
        rw [Int.zero_add]
        walk_at "dd"
        rw [dicOf_ptr gup_same]
        walk_at "dd"
        have g := getK_nz s.1 0 i hs.fok hil
        rw [Nat.zero_add] at g
        rw [show D.tup [D.int 0, D.int 1] = dF (0, 1) from rfl, g]
        have ge : s.1.getD i (0, 1) = s.1[i] := by rw [List.getD_eq_getElem?_getD, List.getElem?_eq_getElem hil]; rfl
        have ha := hs.fok _ (List.getElem_mem hil)
        have sa := hs.fsm _ (List.getElem_mem hil)
        rw [← ge] at ha sa
        have hy := hx.fok y hy1
        have sy := hx.fsm y hy1
        refine ⟨byOf false, y, rfl, hb.pos, hy.pos, sb.mono (by decide), sy.mono (by decide), ?_⟩
        exact ⟨_, _, rfl, ha.pos, (times_ok hb.pos hy.pos).pos, sa.mono (by omega), (times_sm sb sy hb.pos hy.pos).mono (by decide), r⟩
      · rw [map_zipIdx_with (fun a y => plus a (times (byOf false) y)) s.1 pt (by rw [hs.len, hl])]
        refine ⟨s.2, byOf false, rfl, hs.cok.pos, hb.pos, hs.csm.mono (by omega), sb.mono (by decide), ?_⟩
        exact ⟨_, _, _, rfl, .inr rfl, by rw [List.length_zipWith, hs.len]; omega, Γ, Sub.new hp, q⟩
    · rw [if_pos rfl, kvsOf_nz]
      simp only []
      intro p hp
      rw [show D.tup [D.int 1, D.int 1] = dF (byOf true) from rfl, enumD_map, mergeD_nz s.1 0 [] (fun _ h => nomatch h), List.nil_append]
      refine ⟨lines (by simp; omega), lcRun_map (fun q : Fr × Nat => D.tup [.int (0 + (q.2 : Nat)), dF q.1]) (fun q => dF (plus (s.1.getD q.2 (0, 1)) (times (byOf true) q.1))) pt.zipIdx ?_ ?_⟩
      · rintro ⟨y, i⟩ R R' hm' r
        have hi : pt[i]? = some y := by
          have := List.mem_zipIdx_iff_getElem?.mp hm'
          exact this
        have hy1 : y ∈ pt := List.mem_of_getElem? hi
        have hil : i < s.1.length := by rw [hs.len, ← hl]; exact (List.getElem?_eq_some_iff.mp hi).1
        rw [Int.zero_add]
        walk_at "dd"
        rw [dicOf_ptr gup_same]
        walk_at "dd"
        have g := getK_nz s.1 0 i hs.fok hil
        rw [Nat.zero_add] at g
        rw [show D.tup [D.int 0, D.int 1] = dF (0, 1) from rfl, g]
        have ge : s.1.getD i (0, 1) = s.1[i] := by rw [List.getD_eq_getElem?_getD, List.getElem?_eq_getElem hil]; rfl
        have ha := hs.fok _ (List.getElem_mem hil)
        have sa := hs.fsm _ (List.getElem_mem hil)
        rw [← ge] at ha sa
        have hy := hx.fok y hy1
        have sy := hx.fsm y hy1
        refine ⟨byOf true, y, rfl, hb.pos, hy.pos, sb.mono (by decide), sy.mono (by decide), ?_⟩
        exact ⟨_, _, rfl, ha.pos, (times_ok hb.pos hy.pos).pos, sa.mono (by omega), (times_sm sb sy hb.pos hy.pos).mono (by decide), r⟩
      · rw [map_zipIdx_with (fun a y => plus a (times (byOf true) y)) s.1 pt (by rw [hs.len, hl])]
        refine ⟨s.2, byOf true, rfl, hs.cok.pos, hb.pos, hs.csm.mono (by omega), sb.mono (by decide), ?_⟩
        exact ⟨_, _, _, rfl, .inr rfl, by rw [List.length_zipWith, hs.len]; omega, Γ, Sub.new hp, q⟩
end

end Z
set_option Elab.async false
set_option linter.all false
set_option maxRecDepth 100000
set_option maxHeartbeats 4000000
set_option exponentiation.threshold 20000
namespace Z
open PySem PySem.Spec PyProof.Rows L2 Y
local macro_rules | `(tactic| walk_at "dd") => `(tactic| simp only [seqOf_dF, seqOf_dS, seqOf_dM, seqOf_dP, tyD_dF, tyD_dM, tyD_dS, tyD_dP, resD_dF, dVar, dC, dOp, dAdd_ii, dAdd_tt, dAdd_ll, d2I_ii, d2I0_ii, dMul_ii, dMul_ti, dNeg, dEq_ii, dEq_ss, dEq_bb, dNe_ii, dNe_ss, dNe_bb, dIs, dIsNot, isNon_non, isNon_int, isNon_bl, isNon_tup, isNon_lst, dTB, dChain, dAndT, dOrT, dNotT, dAndV, dOrV, dNotV, dIf, dNil, dCons, dTup', dLst', dLstO', dIx, dNoP, dPart, sliceD, dSl, dCB, dLen, dAbs, dInt, dMax2, dTupOf, dListOf, dListOfO, dAll, dAny, dIsi, dNext, dSeq, dPass, dNever, dDrop, dRet, dRetF, dRetN, dIfS, dgName, dgNil, dgCons, dgTup, dgSub, dSetItem, dSet, dAsg, dPar, dPar3, dAug, dISeq, dIEnum, dIEnumK, dIZip, dIRange1, dIRange2, dFor, dLc, dLcO, dLm, rAppD, rExtD, rPopD, dCall, dFld, dFldSet, dFldAdd, dMeth, dMake, Y.putAt, Nat.lt_irrefl, List.cons_append, dDictT, dDictO, dGet2, asKey, dYes, startD, endD, wipeD, seqOf_gup, lstOf_gup, gup_same, gup_gup, ixN_50, ixN_51, ixN_52, ixN_53, ixN_54, List.length_map, srcOf_tup, srcOf_lst, srcOf_scr, srcOf_ptr, blsOf_map, all_map, seqOf_tup, seqOf_lst, seqOf_scr, lstOf_lst, lstOf_scr, lstOf'_lst, tyD_tup, tyD_lst, tyD_int, tyD_bl, tyD_str, tyD_non, isT, atI_0, atI_1, atI_2, atI_3, atI_4, List.getElem?_cons_zero, List.getElem?_cons_succ, List.set_cons_zero, List.set_cons_succ, List.map_cons, List.map_nil, List.length_cons, List.length_nil, List.nil_append, reduceCtorEq, if_true, if_false, Bool.false_eq_true, ne_eq, not_false_eq_true, not_true_eq_false, true_and, and_true, forall_const, implies_true, Bool.not_true, Bool.not_false, Nat.reduceAdd, Nat.reduceLT, Nat.reduceLeDiff, Nat.zero_le, Nat.le_refl, Nat.lt_irrefl, Nat.reduceLeDiff, Int.reduceNeg])


/-- the hand: what is left of the script's numbers, where it stands, the number that is paid out, the state, how many -/
def HandG (g : Option G) : Prop := ∃ (cs : List Int) (i : Nat) (l x n : Int), g = some (.lst [.lst (cs.map D.int), .int (i : Int), .int l, .int x, .int n])
abbrev Hand (Γ : Gs) (h : Addr) : Prop := HandG (Γ h)
section
variable {P : Program} {w : World} {K : PySem.W.Frag} {mg : Str → Option Value} {base : Heap} {cSlips : Addr}
def sp_hand : DSp := fun ds Γ Q _ => ∃ ns : List Int, ds = [.scr (ns.map .int)] ∧ ns.length ≤ 63 ∧ ∀ p g, Γ p = none → HandG (some g) → Q (.ptr p) (gup Γ p g)
theorem d_law_hand (T : Txt K mg cSlips) : Def P w K mg base 1 "_law_hand" sp_hand := by
  refine Def.mk' T.at_law_hand sc_law_hand (fun ds Γ Q E h => ?_) fun f cdv A outer s H E ds Γ Qd Ed hr h => ⟨_, 
    (ys_cons (ys_setLc (i := 1) rfl sc_law_hand.nd (yi_seq (ye_sl (yv 0) yo_none (yo_some ye_int))) (blkOk_by (N := ["script", "cells", "cell"]) (sc := (defScope s_law_hand)) (own := [("cell", 2)]) (by decide +kernel)) (fun _ _ _ _ _ => (yg_name (i := 2) sc_law_hand.nd)) (fun _ _ _ _ _ => pts_yes) (fun _ _ _ _ _ => (ye_callB call_abs cd_abs (by rfl) T.m_abs (by decide +kernel) (ya_cons (ye_callTy call_int1 cd_int (by rfl) T.m_int (by decide +kernel) (ya_cons (yv 2) ya_nil)) ya_nil))))
    (ys_one (ys_ret (ye_lstO (ya_cons (yv 1) (ya_cons ye_int (ya_cons ye_int (ya_cons (ye_add ye_int (ye_mul ye_int (ye_callB call_len cd_len (by rfl) T.m_len (by decide +kernel) (ya_cons (yv 1) ya_nil)))) (ya_cons ye_int ya_nil))))))))), ?_⟩
  · obtain ⟨ns, rfl, _⟩ := h; rfl
  · obtain ⟨ns, rfl, hl, q⟩ := h
    walk_at "dd"
    rw [cutD_63 hl]
    refine ⟨lines (by simp; omega), lcRun_map (fun n : Int => D.int n) (fun n => .int (n.natAbs : Int)) ns ?_ ?_⟩
    · intro n R R' _ r
      walk_at "dd"
      exact r
    · walk_at "dd"
      refine ⟨mul_l (by decide), fun p hp => fin0 ?_⟩
      have := q p _ hp ⟨ns.map fun n => (n.natAbs : Int), 0, 0, 83 + 7 * (ns.length : Int), 0, rfl⟩
      rw [List.map_map] at this
      exact this
/-- a draw: whatever comes lies below -/
def sp_draw : DSp := fun ds Γ Q _ => ∃ (h : Addr) (m : Int), ds = [.ptr h, .int m] ∧ 0 < m ∧ m < 2 ^ 62 ∧ Hand Γ h ∧ ∀ v Γ', 0 ≤ v → v < m → Hand Γ' h → Keep h Γ Γ' → Q (.int v) Γ'
theorem d_law_draw (T : Txt K mg cSlips) : Def P w K mg base 1 "_law_draw" sp_draw := by
  refine Def.mk' T.at_law_draw sc_law_draw (fun ds Γ Q E h => ?_) fun f cdv A outer s H E ds Γ Qd Ed hr h => ⟨_, 
    (ys_cons (ys_if (PW.pt (yw_and (yt_eq hr (ye_ix (yv 0) ye_int) ye_int) (yw_and1 (yt_lt (ye_ix (yv 0) ye_int) (ye_callB call_len cd_len (by rfl) T.m_len (by decide +kernel) (ya_cons (ye_ix (yv 0) ye_int) ya_nil))))))
    (ys_cons (ys_set (i := 2) sc_law_draw.nd (ye_ix (ye_ix (yv 0) ye_int) (ye_ix (yv 0) ye_int)))
    (ys_cons (ys_asg (ye_add (ye_ix (yv 0) ye_int) ye_int) (yg_sub (yv 0) ye_int))
    (ys_cons (ys_asg (ye_mod (ye_callTy call_int1 cd_int (by rfl) T.m_int (by decide +kernel) (ya_cons (ye_add (ye_add (ye_mul (ye_ix (yv 0) ye_int) ye_int) (ye_mul (yv 2) ye_int)) ye_int) ya_nil)) ye_int) (yg_sub (yv 0) ye_int))
    (ys_one (ys_if (yt_ge (yv 2) (ye_pow ye_int ye_int))
    (ys_one (ys_asg (yv 2) (yg_sub (yv 0) ye_int)))
    ys_nil)))))
    ys_nil)
    (ys_cons (ys_if (yt_gt (ye_ix (yv 0) ye_int) ye_int)
    (ys_cons (ys_set (i := 3) sc_law_draw.nd (ye_mod (ye_callTy call_int1 cd_int (by rfl) T.m_int (by decide +kernel) (ya_cons (ye_ix (yv 0) ye_int) ya_nil)) (yv 1)))
    (ys_cons (ys_asg (ye_div (ye_ix (yv 0) ye_int) (yv 1)) (yg_sub (yv 0) ye_int))
    (ys_one (ys_ret (yv 3)))))
    ys_nil)
    (ys_cons (ys_asg (ye_add (ye_ix (yv 0) ye_int) ye_int) (yg_sub (yv 0) ye_int))
    (ys_cons (ys_set (i := 4) sc_law_draw.nd (ye_mod (ye_callTy call_int1 cd_int (by rfl) T.m_int (by decide +kernel) (ya_cons (ye_mul (ye_callTy call_int1 cd_int (by rfl) T.m_int (by decide +kernel) (ya_cons (ye_add (ye_ix (yv 0) ye_int) (ye_mul ye_int (ye_ix (yv 0) ye_int))) ya_nil)) ye_int) ya_nil)) ye_int))
    (ys_cons (ys_set (i := 4) sc_law_draw.nd (ye_mod (ye_callTy call_int1 cd_int (by rfl) T.m_int (by decide +kernel) (ya_cons (ye_mul (yv 4) (ye_add (ye_div (yv 4) ye_int) ye_int)) ya_nil)) ye_int))
    (ys_cons (ys_set (i := 4) sc_law_draw.nd (ye_mod (ye_callTy call_int1 cd_int (by rfl) T.m_int (by decide +kernel) (ya_cons (ye_mul (yv 4) (ye_add (ye_div (yv 4) ye_int) ye_int)) ya_nil)) ye_int))
    (ys_one (ys_ret (ye_mod (ye_callTy call_int1 cd_int (by rfl) T.m_int (by decide +kernel) (ya_cons (ye_div (yv 4) ye_int) ya_nil)) (yv 1)))))))))), ?_⟩
  · obtain ⟨h, m, rfl, _⟩ := h; rfl
  · obtain ⟨h, m, rfl, hm, hm2, ⟨cs, i, l, x, n, hg⟩, q⟩ := h
    refine dSeq_mk (fun ρ Γ' => ∃ o, ρ = [some (.ptr h), some (.int m), o, none, none] ∧ Hand Γ' h ∧ Keep h Γ Γ') (fun Z hZ hrt hbk hct => ?_) (fun ρ Γ' hR => ?_)
    · rw [← gup_id hg]
      walk_at "dd"
      by_cases hl : l = 0
      · rw [if_pos (by simp [hl])]
        by_cases hi : (i : Int) < (cs.length : Int)
        · rw [if_pos (by simp [hi])]
          rw [atI_at (x := D.int cs[i]) rfl (by rw [List.getElem?_map, List.getElem?_eq_getElem (by omega)]; rfl)]
          walk_at "dd"
          refine ⟨mul_r (by decide), mul_r (by decide), by decide, ⟨by decide, by decide, by decide⟩, ?_⟩
          by_cases hc : (10 : Int) ^ Int.toNat 18 ≤ cs[i]
          · rw [if_pos (decide_eq_true hc)]
            exact hZ _ _ ⟨_, rfl, ⟨cs, i + 1, _, _, _, gup_same⟩, (Keep.refl h Γ).write⟩
          · rw [if_neg (fun z => hc (of_decide_eq_true z))]
            exact hZ _ _ ⟨_, rfl, ⟨cs, i + 1, _, _, _, gup_same⟩, (Keep.refl h Γ).write⟩
        · rw [if_neg (by simp [hi])]
          exact hZ _ _ ⟨_, rfl, ⟨cs, i, _, _, _, gup_same⟩, (Keep.refl h Γ).write⟩
      · rw [if_neg (by simp [hl])]
        exact hZ _ _ ⟨_, rfl, ⟨cs, i, _, _, _, gup_same⟩, (Keep.refl h Γ).write⟩
    · obtain ⟨o, rfl, ⟨cs, i, l, x, n, hg⟩, hk⟩ := hR
      rw [← gup_id hg]
      walk_at "dd"
      by_cases hl : 0 < l
      · rw [if_pos (by simp [hl])]
        have h1 : 0 ≤ l % m := Int.emod_nonneg _ (by omega)
        have h2 : l % m < m := Int.emod_lt_of_pos _ hm
        exact ⟨hm, div_ok (n := 62) hm hm2 (by decide), fin0 (q _ _ h1 h2 ⟨cs, i, _, _, _, gup_same⟩ hk.write)⟩
      · rw [if_neg (by simp [hl])]
        have f1 : ∀ y : Int, 0 ≤ y % 2147483647 ∧ y % 2147483647 < 2147483647 := fun y => ⟨Int.emod_nonneg _ (by decide), Int.emod_lt_of_pos _ (by decide)⟩
        have f3 : ∀ y : Int, Y.MulOk (y % 2147483647) (y % 2147483647 / 1009 + 69621) := fun y => mul_l (by have := f1 y; omega)
        have f4 : ∀ y : Int, Y.MulOk (y % 2147483647) (y % 2147483647 / 2003 + 40014) := fun y => mul_l (by have := f1 y; omega)
        have dv : ∀ (i j : Int), 0 < j → j < 2 ^ 62 → CDivW i j := fun i j h h' => div_ok (n := 62) h h' (by decide)
        refine ⟨mul_l (by decide), mul_r (by decide), by decide, dv _ _ (by decide) (by decide), f3 _, by decide, dv _ _ (by decide) (by decide), f4 _, by decide, dv _ _ (by decide) (by decide), hm, ?_⟩
        exact fin0 (q _ _ (Int.emod_nonneg _ (by omega)) (Int.emod_lt_of_pos _ hm) ⟨cs, i, _, _, _, gup_same⟩ hk.write)
end

end Z
set_option Elab.async false
set_option linter.all false
set_option maxRecDepth 100000
set_option maxHeartbeats 4000000
set_option exponentiation.threshold 20000
namespace Z
open PySem PySem.Spec PyProof.Rows L2 Y
local macro_rules | `(tactic| walk_at "dd") => `(tactic| simp only [seqOf_dF, seqOf_dS, seqOf_dM, seqOf_dP, tyD_dF, tyD_dM, tyD_dS, tyD_dP, resD_dF, dVar, dC, dOp, dAdd_ii, dAdd_tt, dAdd_ll, d2I_ii, d2I0_ii, dMul_ii, dMul_ti, dNeg, dEq_ii, dEq_ss, dEq_bb, dNe_ii, dNe_ss, dNe_bb, dIs, dIsNot, isNon_non, isNon_int, isNon_bl, isNon_tup, isNon_lst, dTB, dChain, dAndT, dOrT, dNotT, dAndV, dOrV, dNotV, dIf, dNil, dCons, dTup', dLst', dLstO', dIx, dNoP, dPart, sliceD, dSl, dCB, dLen, dAbs, dInt, dMax2, dTupOf, dListOf, dListOfO, dAll, dAny, dIsi, dNext, dSeq, dPass, dNever, dDrop, dRet, dRetF, dRetN, dIfS, dgName, dgNil, dgCons, dgTup, dgSub, dSetItem, dSet, dAsg, dPar, dPar3, dAug, dISeq, dIEnum, dIEnumK, dIZip, dIRange1, dIRange2, dFor, dLc, dLcO, dLm, rAppD, rExtD, rPopD, dCall, dFld, dFldSet, dFldAdd, dMeth, dMake, Y.putAt, Nat.lt_irrefl, List.cons_append, dDictT, dDictO, dGet2, asKey, dYes, startD, endD, wipeD, seqOf_gup, lstOf_gup, gup_same, gup_gup, ixN_50, ixN_51, ixN_52, ixN_53, ixN_54, List.length_map, srcOf_tup, srcOf_lst, srcOf_scr, srcOf_ptr, blsOf_map, all_map, seqOf_tup, seqOf_lst, seqOf_scr, lstOf_lst, lstOf_scr, lstOf'_lst, tyD_tup, tyD_lst, tyD_int, tyD_bl, tyD_str, tyD_non, isT, atI_0, atI_1, atI_2, atI_3, atI_4, List.getElem?_cons_zero, List.getElem?_cons_succ, List.set_cons_zero, List.set_cons_succ, List.map_cons, List.map_nil, List.length_cons, List.length_nil, List.nil_append, reduceCtorEq, if_true, if_false, Bool.false_eq_true, ne_eq, not_false_eq_true, not_true_eq_false, true_and, and_true, forall_const, implies_true, Bool.not_true, Bool.not_false, Nat.reduceAdd, Nat.reduceLT, Nat.reduceLeDiff, Nat.zero_le, Nat.le_refl, Nat.lt_irrefl, Nat.reduceLeDiff, Int.reduceNeg])


section
variable {P : Program} {w : World} {K : PySem.W.Frag} {mg : Str → Option Value} {base : Heap} {cSlips : Addr}
/-- one of some -/
def sp_any : DSp := fun ds Γ Q _ => ∃ (h : Addr) (d : D) (xs : List D), ds = [.ptr h, d] ∧ Hand Γ h ∧ xs ≠ [] ∧ xs.length ≤ 1000000 ∧ (∀ Γ', Keep h Γ Γ' → seqOf Γ' d = some xs) ∧ ∀ x Γ', x ∈ xs → Hand Γ' h → Keep h Γ Γ' → Q x Γ'
theorem d_law_any (T : Txt K mg cSlips) : Def P w K mg base 2 "_law_any" sp_any := by
  refine Def.mk' T.at_law_any sc_law_any (fun ds Γ Q E h => ?_) fun f cdv A outer s H E ds Γ Qd Ed hr h => ⟨_, 
    (ys_one (ys_ret (ye_ix (yv 1) (ye_call (d_law_draw T) hr (ya_cons (yv 0) (ya_cons (ye_callB call_len cd_len (by rfl) T.m_len (by decide +kernel) (ya_cons (yv 1) ya_nil)) ya_nil)))))), ?_⟩
  · obtain ⟨h, d, xs, rfl, _⟩ := h; rfl
  · obtain ⟨h, d, xs, rfl, hh, hx, hl, hs, q⟩ := h
    have hp : 0 < xs.length := List.length_pos_iff.mpr hx
    walk_at "dd"
    rw [hs Γ (Keep.refl h Γ)]
    walk_at "dd"
    refine ⟨h, (xs.length : Int), rfl, by omega, by omega, hh, fun v Γ' h0 h1 hh' hk => ?_⟩
    walk_at "dd"
    rw [hs Γ' hk]
    walk_at "dd"
    have hv : v.toNat < xs.length := by omega
    rw [atI_at (n := v.toNat) (x := xs[v.toNat]) (by omega) (List.getElem?_eq_getElem hv)]
    exact fin0 (q _ _ (List.getElem_mem hv) hh' hk)
def sp_number : DSp := fun ds Γ Q _ => ∃ (h : Addr), ds = [.ptr h] ∧ Hand Γ h ∧ ∀ x Γ', FrOk x → Sm 4 x → Hand Γ' h → Keep h Γ Γ' → Q (dF x) Γ'
theorem d_law_number (T : Txt K mg cSlips) : Def P w K mg base 2 "_law_number" sp_number := by
  refine Def.mk' T.at_law_number sc_law_number (fun ds Γ Q E h => ?_) fun f cdv A outer s H E ds Γ Qd Ed hr h => ⟨_, 
    (ys_cons (ys_set (i := 1) sc_law_number.nd (ye_sub (ye_call (d_law_draw T) hr (ya_cons (yv 0) (ya_cons ye_int ya_nil))) ye_int))
    (ys_one (ys_ret (ye_if (yt_gt (ye_call (d_law_draw T) hr (ya_cons (yv 0) (ya_cons ye_int ya_nil))) ye_int) (ye_tup (ya_cons (yv 1) (ya_cons ye_int ya_nil))) (ye_call (d_law_made T) hr (ya_cons (ye_add (ye_mul ye_int (yv 1)) ye_int) (ya_cons ye_int ya_nil))))))), ?_⟩
  · obtain ⟨h, rfl, _⟩ := h; rfl
  · obtain ⟨h, rfl, hh, q⟩ := h
    walk_at "dd"
    refine ⟨h, 9, rfl, by decide, by decide, hh, fun v Γ1 h0 h1 hh1 hk1 => ?_⟩
    walk_at "dd"
    refine ⟨h, 3, rfl, by decide, by decide, hh1, fun u Γ2 _ _ hh2 hk2 => ?_⟩
    walk_at "dd"
    split
    · refine fin0 (q (v - 4, 1) Γ2 ⟨by show (0 : Int) < 1; decide, ?_⟩ ⟨by show (v - 4).natAbs < 2 ^ 4; omega, by show (1 : Int).natAbs < 2 ^ 4; decide⟩ hh2 (hk1.trans hk2))
      show gcdI (v - 4) 1 = 1
      unfold gcdI; rw [Int.gcd_one]; rfl
    · refine ⟨mul_l (by decide), 2 * (v - 4) + 1, 2, rfl, by decide, by omega, by decide, ?_⟩
      exact fin0 (q _ Γ2 (mk_ok _ (by decide)) (mk_sm (by decide) (by omega) (by decide)) hh2 (hk1.trans hk2))
def sp_drawn_sum : DSp := fun ds Γ Q _ => ∃ (h : Addr) (m : Nat), ds = [.ptr h, .int m] ∧ m ≤ 3 ∧ Hand Γ h ∧ ∀ s Γ', SOk 4 m s → Hand Γ' h → Keep h Γ Γ' → Q (dS s) Γ'
theorem d_law_drawn_sum (T : Txt K mg cSlips) : Def P w K mg base 3 "_law_drawn_sum" sp_drawn_sum := by
  refine Def.mk' T.at_law_drawn_sum sc_law_drawn_sum (fun ds Γ Q E h => ?_) fun f cdv A outer s H E ds Γ Qd Ed hr h => ⟨_, 
    (ys_cons (ys_setLc (i := 2) rfl sc_law_drawn_sum.nd (yi_range1 (by rfl) T.m_range (ya_cons (yv 1) ya_nil)) (blkOk_by (N := ["hand", "m", "factors", "source"]) (sc := (defScope s_law_drawn_sum)) (own := [("source", 3)]) (by decide +kernel)) (fun _ _ _ _ _ => (yg_name (i := 3) sc_law_drawn_sum.nd)) (fun _ _ _ _ _ => pts_yes) (fun _ _ _ _ _ => (ye_if (yt_gt (ye_call (d_law_draw T) hr (ya_cons (yv 0) (ya_cons ye_int ya_nil))) ye_int) (ye_call (d_law_number T) hr (ya_cons (yv 0) ya_nil)) (ye_tup (ya_cons ye_int (ya_cons ye_int ya_nil))))))
    (ys_one (ys_ret (ye_call (d_law_as_sum T) hr (ya_cons (yv 2) (ya_cons (ye_call (d_law_number T) hr (ya_cons (yv 0) ya_nil)) ya_nil)))))), ?_⟩
  · obtain ⟨h, m, rfl, _⟩ := h; rfl
  · obtain ⟨h, m, rfl, hm, hh, q⟩ := h
    walk_at "dd"
    rw [Int.toNat_natCast, rangeD_map]
    refine ⟨by omega, lines (by simp; omega), lcRun_ind (fun i : Nat => D.int (0 + (i : Int))) (fun r acc Γ' => ∃ fs : List Fr, acc = fs.map dF ∧ fs.length + r.length = m ∧ (∀ f, f ∈ fs → FrOk f ∧ Sm 4 f) ∧ Hand Γ' h ∧ Keep h Γ Γ') (List.range m) [] Γ ⟨[], rfl, by simp, fun _ z => (nomatch z), hh, Keep.refl h Γ⟩ ?_ ?_⟩
    · rintro i r acc Γ' R ⟨fs, rfl, hl, hf, hh', hk⟩ next
      rw [List.length_cons] at hl
      walk_at "dd"
      refine ⟨h, 4, rfl, by decide, by decide, hh', fun u Γ2 _ _ hh2 hk2 => ?_⟩
      walk_at "dd"
      have step : ∀ x Γ3, FrOk x → Sm 4 x → Hand Γ3 h → Keep h Γ Γ3 → R (fs.map dF ++ [dF x]) Γ3 := fun x Γ3 ox sx hh3 hk3 => by
        refine next _ _ ⟨fs ++ [x], by simp, by rw [List.length_append, List.length_singleton]; omega, fun f hf' => ?_, hh3, hk3⟩
        rcases List.mem_append.mp hf' with hf' | hf'
        · exact hf f hf'
        · rw [List.mem_singleton.mp hf']; exact ⟨ox, sx⟩
      split
      · exact ⟨h, rfl, hh2, fun x Γ3 ox sx hh3 hk3 => step x Γ3 ox sx hh3 ((hk.trans hk2).trans hk3)⟩
      · exact step (0, 1) Γ2 ⟨by decide, by decide⟩ ⟨by decide, by decide⟩ hh2 (hk.trans hk2)
    · rintro acc Γ' ⟨fs, rfl, hl, hf, hh', hk⟩
      have hl' : fs.length = m := by simpa using hl
      refine ⟨h, rfl, hh', fun x Γ2 ox sx hh2 hk2 => ⟨_, fs, x, rfl, .inr rfl, by omega, fin0 (q (fs, x) Γ2 ⟨hl', fun f h => (hf f h).1, fun f h => (hf f h).2, ox, sx⟩ hh2 (hk.trans hk2))⟩⟩
def sp_marked : DSp := fun ds Γ Q _ => ∃ (h : Addr) (m : Nat), ds = [.ptr h, .int m] ∧ m ≤ 3 ∧ Hand Γ h ∧ ∀ (xs : List Mk') Γ', 1 ≤ xs.length → xs.length ≤ 5 → (∀ x, x ∈ xs → MOk m x) → Hand Γ' h → Keep h Γ Γ' → Q (.tup (xs.map dM)) Γ'
theorem d_law_marked (T : Txt K mg cSlips) : Def P w K mg base 4 "_law_marked" sp_marked := by
  refine Def.mk' T.at_law_marked sc_law_marked (fun ds Γ Q E h => ?_) fun f cdv A outer s H E ds Γ Qd Ed hr h => ⟨_, 
    (ys_cons (ys_par (i := 2) (j := 3) rfl sc_law_marked.nd (ya_cons (ye_call (d_law_drawn_sum T) hr (ya_cons (yv 0) (ya_cons (yv 1) ya_nil))) (ya_cons (ye_lstO ya_nil) ya_nil)))
    (ys_cons (ys_for PassesOwn.never rfl (yi_range1 (by rfl) T.m_range (ya_cons (ye_add ye_int (ye_call (d_law_draw T) hr (ya_cons (yv 0) (ya_cons ye_int ya_nil)))) ya_nil)) (yg_name (i := 4) sc_law_marked.nd)
    (ys_cons (ys_set (i := 5) sc_law_marked.nd (ye_callTy call_tuple_F cd_tupOf (by rfl) T.m_tuple (by decide +kernel) (ya_cons (ye_lc rfl sc_law_marked.nd (yi_range1 (by rfl) T.m_range (ya_cons (yv 1) ya_nil)) (blkOk_by (N := ["hand", "m", "told", "found", "step", "point", "flag", "source"]) (sc := (defScope s_law_marked)) (own := [("source", 7)]) (by decide +kernel)) (fun _ _ _ _ _ => (yg_name (i := 7) sc_law_marked.nd)) (fun _ _ _ _ _ => pts_yes) (fun _ _ _ _ _ => (ye_call (d_law_number T) hr (ya_cons (yv 0) ya_nil)))) ya_nil)))
    (ys_cons (ys_set (i := 6) sc_law_marked.nd (ye_gt (ye_ix (ye_call (d_law_worth T) hr (ya_cons (yv 2) (ya_cons (yv 5) ya_nil))) ye_int) ye_int))
    (ys_one (ys_expr (ye_append (yv 3) (ya_cons (ye_tup (ya_cons (yv 5) (ya_cons (ye_if (yt_gt (ye_call (d_law_draw T) hr (ya_cons (yv 0) (ya_cons ye_int ya_nil))) ye_int) (yv 6) (ye_not (yv 6))) ya_nil))) ya_nil)))))))
    (ys_one (ys_ret (ye_callTy call_tuple_F cd_tupOf (by rfl) T.m_tuple (by decide +kernel) (ya_cons (yv 3) ya_nil)))))), ?_⟩
  · obtain ⟨h, m, rfl, _⟩ := h; rfl
  · obtain ⟨h, m, rfl, hm, hh, q⟩ := h
    walk_at "dd"
    refine ⟨h, m, rfl, hm, hh, fun told Γ1 ht hh1 hk1 => ?_⟩
    intro p hp
    have hhp : ∀ {Γ'}, Hand Γ' h → Γ' p = none → h ≠ p := fun ⟨_, _, _, _, _, e⟩ e' z => by rw [z, e'] at e; cases e
    have hne := hhp hh1 hp
    refine ⟨h, 5, rfl, by decide, by decide, by unfold Hand; rw [gup_ne hne]; exact hh1, fun u Γ2 h0 h1 hh2 hk2 => ?_⟩
    walk_at "dd"
    rw [rangeD_map]
    refine ⟨by omega, forRun_ind (fun i : Nat => D.int (0 + (i : Int))) (fun r ρ Γ' => ∃ (xs : List Mk') (o4 o5 o6 : Option D), ρ = [some (.ptr h), some (.int m), some (dS told), some (.ptr p), o4, o5, o6, none] ∧ xs.length + r.length = (1 + u).toNat ∧ (∀ x, x ∈ xs → MOk m x) ∧ Hand Γ' h ∧ Keep h Γ Γ' ∧ Γ' p = some (.lst (xs.map dM))) _ ?_ ?_ ?_⟩
    · exact ⟨[], _, _, _, rfl, by simp, fun _ z => (nomatch z), hh2, (hk1.new hp).trans hk2, hk2 _ _ (fun z => hne z.symm) gup_same⟩
    · rintro i r ρ Γ' R ⟨xs, o4, o5, o6, rfl, hl, hx, hh', hk, hg⟩ next
      rw [List.length_cons] at hl
      walk_at "dd"
      rw [Int.toNat_natCast, rangeD_map]
      refine ⟨by omega, lines (by simp; omega), lcRun_ind (fun i : Nat => D.int (0 + (i : Int))) (fun r acc Γ'' => ∃ pt : List Fr, acc = pt.map dF ∧ pt.length + r.length = m ∧ (∀ f, f ∈ pt → FrOk f ∧ Sm 4 f) ∧ Hand Γ'' h ∧ Keep h Γ' Γ'') (List.range m) [] Γ' ⟨[], rfl, by simp, fun _ z => (nomatch z), hh', Keep.refl h Γ'⟩ ?_ ?_⟩
      · rintro j r2 acc Γ3 R2 ⟨pt, rfl, hl2, hf, hh3, hk3⟩ next2
        rw [List.length_cons] at hl2
        walk_at "dd"
        refine ⟨h, rfl, hh3, fun x Γ4 ox sx hh4 hk4 => next2 _ _ ⟨pt ++ [x], by simp, by rw [List.length_append, List.length_singleton]; omega, fun f hf' => ?_, hh4, hk3.trans hk4⟩⟩
        rcases List.mem_append.mp hf' with hf' | hf'
        · exact hf f hf'
        · rw [List.mem_singleton.mp hf']; exact ⟨ox, sx⟩
      · rintro acc Γ3 ⟨pt, rfl, hl2, hf, hh3, hk3⟩
        have hl2' : pt.length = m := by simpa using hl2
        refine ⟨pt, told, 4, rfl, by rw [hl2']; exact ht, hf, by rw [hl2']; exact worth_bits (by decide) hm, ?_⟩
        have hg3 : Γ3 p = some (.lst (xs.map dM)) := hk3 _ _ (fun z => hne z.symm) hg
        rw [show dF (worth pt told) = D.tup [.int (worth pt told).1, .int (worth pt told).2] from rfl]
        walk_at "dd"
        rw [hg3]
        walk_at "dd"
        refine ⟨h, 5, rfl, by decide, by decide, hh3, fun v Γ4 _ _ hh4 hk4 => ?_⟩
        have hg4 : Γ4 p = some (.lst (xs.map dM)) := hk4 _ _ (fun z => hne z.symm) hg3
        walk_at "dd"
        have step : ∀ fl, R [some (.ptr h), some (.int m), some (dS told), some (.ptr p), some (.int (0 + (i : Int))), some (.tup (pt.map dF)), some (.bl (decide (0 < (worth pt told).1))), none] (gup Γ4 p (.lst (xs.map dM ++ [.tup [.tup (pt.map dF), .bl fl]]))) := fun fl => by
          refine next _ _ ⟨xs ++ [(pt, fl)], _, _, _, rfl, by rw [List.length_append, List.length_singleton]; omega, fun x hx' => ?_, by unfold Hand; rw [gup_ne hne]; exact hh4, ?_, by rw [gup_same]; simp [dM]⟩
          · rcases List.mem_append.mp hx' with hx' | hx'
            · exact hx x hx'
            · rw [List.mem_singleton.mp hx']
              exact ⟨hl2', fun f h => (hf f h).1, fun f h => (hf f h).2⟩
          · have hk5 := (hk.trans hk3).trans hk4
            intro a g n e
            have e1 := hk5 a g n e
            have e2 := hk1 a g n e
            rw [gup_ne (gne e2 hp)]; exact e1
        have lin : (xs.map dM).length < sizeLine := linel (by rw [List.length_map]; omega)
        rw [hg4]
        simp only []
        split
        · exact ⟨lin, step _⟩
        · exact ⟨lin, step _⟩
    · rintro ρ Γ' ⟨xs, o4, o5, o6, rfl, hl, hx, hh', hk, hg⟩
      have hl' : xs.length = (1 + u).toNat := by simpa using hl
      walk_at "dd"
      rw [seqOf_ptr hg]
      walk_at "dd"
      exact fin0 (q xs Γ' (by omega) (by omega) hx hh' hk)
end

end Z
set_option Elab.async false
set_option linter.all false
set_option maxRecDepth 100000
set_option maxHeartbeats 4000000
set_option exponentiation.threshold 20000
namespace Z
open PySem PySem.Spec PyProof.Rows L2 Y
local macro_rules | `(tactic| walk_at "dd") => `(tactic| simp only [seqOf_dF, seqOf_dS, seqOf_dM, seqOf_dP, tyD_dF, tyD_dM, tyD_dS, tyD_dP, resD_dF, dVar, dC, dOp, dAdd_ii, dAdd_tt, dAdd_ll, d2I_ii, d2I0_ii, dMul_ii, dMul_ti, dNeg, dEq_ii, dEq_ss, dEq_bb, dNe_ii, dNe_ss, dNe_bb, dIs, dIsNot, isNon_non, isNon_int, isNon_bl, isNon_tup, isNon_lst, dTB, dChain, dAndT, dOrT, dNotT, dAndV, dOrV, dNotV, dIf, dNil, dCons, dTup', dLst', dLstO', dIx, dNoP, dPart, sliceD, dSl, dCB, dLen, dAbs, dInt, dMax2, dTupOf, dListOf, dListOfO, dAll, dAny, dIsi, dNext, dSeq, dPass, dNever, dDrop, dRet, dRetF, dRetN, dIfS, dgName, dgNil, dgCons, dgTup, dgSub, dSetItem, dSet, dAsg, dPar, dPar3, dAug, dISeq, dIEnum, dIEnumK, dIZip, dIRange1, dIRange2, dFor, dLc, dLcO, dLm, rAppD, rExtD, rPopD, dCall, dFld, dFldSet, dFldAdd, dMeth, dMake, Y.putAt, Nat.lt_irrefl, List.cons_append, dDictT, dDictO, dGet2, asKey, dYes, startD, endD, wipeD, seqOf_gup, lstOf_gup, gup_same, gup_gup, ixN_50, ixN_51, ixN_52, ixN_53, ixN_54, List.length_map, srcOf_tup, srcOf_lst, srcOf_scr, srcOf_ptr, blsOf_map, all_map, seqOf_tup, seqOf_lst, seqOf_scr, lstOf_lst, lstOf_scr, lstOf'_lst, tyD_tup, tyD_lst, tyD_int, tyD_bl, tyD_str, tyD_non, isT, atI_0, atI_1, atI_2, atI_3, atI_4, List.getElem?_cons_zero, List.getElem?_cons_succ, List.set_cons_zero, List.set_cons_succ, List.map_cons, List.map_nil, List.length_cons, List.length_nil, List.nil_append, reduceCtorEq, if_true, if_false, Bool.false_eq_true, ne_eq, not_false_eq_true, not_true_eq_false, true_and, and_true, forall_const, implies_true, Bool.not_true, Bool.not_false, Nat.reduceAdd, Nat.reduceLT, Nat.reduceLeDiff, Nat.zero_le, Nat.le_refl, Nat.lt_irrefl, Nat.reduceLeDiff, Int.reduceNeg])


theorem jd_int {i : Int} {n : Nat} (h : i.natAbs < 2 ^ n) (l : n ≤ 9000) : jd (.int i) := Nat.lt_of_lt_of_le h (Nat.pow_le_pow_right (by decide) l)
theorem jd_nat {i : Nat} (h : i ≤ 1000000) : jd (.int (i : Int)) := jd_int (n := 20) (by rw [Int.natAbs_natCast]; have : (1000000 : Nat) < 2 ^ 20 := by decide
                                                                                         omega) (by decide)
theorem jd_k {k : Int} (h0 : 0 ≤ k) (h1 : k ≤ 1000) : jd (.int k) := jd_int (n := 20) (by
  have : (1000 : Nat) < 2 ^ 20 := by decide
  omega) (by decide)
theorem jd_dF {x : Fr} {n : Nat} (h : Sm n x) (l : n ≤ 9000) : jd (dF x) := ⟨by simp, jd_int h.1 l, jd_int h.2 l, trivial⟩
theorem jd_pt {xs : List Fr} {n : Nat} (h : ∀ x, x ∈ xs → Sm n x) (l : n ≤ 9000) (hl : xs.length ≤ 1000000) : jd (.tup (xs.map dF)) := ⟨by simpa using hl, jdL_of fun d hd => by
  obtain ⟨x, hx, rfl⟩ := List.mem_map.mp hd
  exact jd_dF (h x hx) l⟩
theorem isVals_pt {xs : List Fr} (h : ∀ x, x ∈ xs → FrOk x) : isVals (.tup (xs.map dF)) = true := by
  show (xs.map dF).all isFr = true
  rw [List.all_map, List.all_eq_true]
  intro x hx
  exact isFr_dF (h x hx)
theorem jd_dM {m : Nat} {x : Mk'} (h : MOk m x) (hm : m ≤ 100) : jd (dM x) := ⟨by simp, jd_pt h.fsm (by decide) (by rw [h.len]; omega), trivial, trivial⟩
theorem jd_dP {p : Nat × Fr} {n : Nat} (h : Sm n p.2) (l : n ≤ 9000) (hp : p.1 ≤ 1000000) : jd (dP p) := ⟨by simp, jd_nat hp, jd_dF h l, trivial⟩
theorem jd_dS {s : Sm'} {n m : Nat} (h : SOk n m s) (l : n ≤ 9000) (hm : m ≤ 100) : jd (dS s) := by
  refine ⟨by simp, ⟨?_, jdL_of fun d hd => ?_⟩, jd_dF h.csm l, trivial⟩
  · rw [List.length_map]; have := nzP_len 0 s.1; rw [h.len] at this; omega
  · obtain ⟨p, hp, rfl⟩ := List.mem_map.mp hd
    obtain ⟨_, h2, _, h4⟩ := nzP_mem hp
    rw [h.len] at h4
    exact jd_dP (h.fsm _ h2) l (by omega)
section
variable {P : Program} {w : World} {K : PySem.W.Frag} {mg : Str → Option Value} {base : Heap} {cSlips : Addr}
def sp_pair : DSp := fun ds Γ Q _ => ∃ (m : Nat) (p : Nat × Fr) (n : Nat), ds = [.int m, dP p] ∧ p.1 < m ∧ m ≤ 1000000 ∧ FrOk p.2 ∧ p.2.1 ≠ 0 ∧ Sm n p.2 ∧ n ≤ 9000 ∧ Q (.bl true) Γ
theorem d_is_pair_of (T : Txt K mg cSlips) : Def P w K mg base 3 "is_pair_of" sp_pair := by
  refine Def.mk' T.at_is_pair_of sc_is_pair_of (fun ds Γ Q E h => ?_) fun f cdv A outer s H E ds Γ Qd Ed hr h => ⟨_, 
    (ys_cons (ys_if (PW.pt (yw_or (yt_not (yt_val (ye_call (d_is_tuple_of T) hr (ya_cons (yv 1) (ya_cons ye_int ya_nil))))) (yw_or1 (yt_not (yt_val (ye_call (d_is_within T) hr (ya_cons (ye_ix (yv 1) ye_int) (ya_cons ye_int (ya_cons (ye_sub (yv 0) ye_int) ya_nil)))))))))
    (ys_one (ys_ret ye_bl))
    ys_nil)
    (ys_one (ys_ret (ye_and (ye_call (d_is_fraction T) hr (ya_cons (ye_ix (yv 1) ye_int) ya_nil)) (ye_one (ye_ne hr (ye_ix (ye_ix (yv 1) ye_int) ye_int) ye_int)))))), ?_⟩
  · obtain ⟨m, p, n, rfl, _⟩ := h; rfl
  · obtain ⟨m, ⟨i, x⟩, n, rfl, hi, hm, ho, hz, sx, hn, q⟩ := h
    simp only at hi ho hz sx
    have hj : jd (dP (i, x)) := jd_dP sx hn (by simp only; omega)
    walk_at "dd"
    refine ⟨_, 2, rfl, hj, by decide, ?_⟩
    rw [show isTn (dP (i, x)) (Int.toNat 2) = true from rfl]
    walk_at "dd"
    refine ⟨_, _, _, rfl, jd_nat (by omega), ?_⟩
    rw [show isWi (.int (i : Int)) 0 ((m : Int) - 1) = true by simp [isWi]; omega]
    walk_at "dd"
    refine ⟨_, rfl, jd_dF sx hn, ?_⟩
    rw [isFr_dF ho]
    walk_at "dd"
    rw [decide_eq_false hz]
    exact fin0 q
def sp_is_sum : DSp := fun ds Γ Q _ => ∃ (m : Nat) (s : Sm') (n : Nat), ds = [.int m, dS s] ∧ SOk n m s ∧ n ≤ 9000 ∧ m ≤ 100 ∧ Q (.bl true) Γ
theorem d_raw_is_sum (T : Txt K mg cSlips) : Def P w K mg base 4 "raw_is_sum" sp_is_sum := by
  refine Def.mk' T.at_raw_is_sum sc_raw_is_sum (fun ds Γ Q E h => ?_) fun f cdv A outer s H E ds Γ Qd Ed hr h => ⟨_, 
    (ys_cons (ys_if (PW.pt (yw_or (yt_not (yt_val (ye_call (d_is_tuple_of T) hr (ya_cons (yv 1) (ya_cons ye_int ya_nil))))) (yw_or (yt_not (yt_val (ye_isi (T := .tup) (by nofun) (by rfl) T.m_isinstance (by decide +kernel) (ye_ix (yv 1) ye_int) (by rfl) T.m_tuple (by decide +kernel)))) (yw_or1 (yt_not (yt_val (ye_call (d_is_fraction T) hr (ya_cons (ye_ix (yv 1) ye_int) ya_nil))))))))
    (ys_one (ys_ret ye_bl))
    ys_nil)
    (ys_cons (ys_if (yt_not (yt_val (ye_callB (cr_all rfl) cd_all (by rfl) T.m_all (by decide +kernel) (ya_cons (ye_lc rfl sc_raw_is_sum.nd (yi_seq (ye_ix (yv 1) ye_int)) (blkOk_by (N := ["many", "thing", "one", "other", "pair"]) (sc := (defScope s_raw_is_sum)) (own := [("pair", 4)]) (by decide +kernel)) (fun _ _ _ _ _ => (yg_name (i := 4) sc_raw_is_sum.nd)) (fun _ _ _ _ _ => pts_yes) (fun _ _ _ _ _ => (ye_call (d_is_pair_of T) hr (ya_cons (yv 0) (ya_cons (yv 4) ya_nil))))) ya_nil))))
    (ys_one (ys_ret ye_bl))
    ys_nil)
    (ys_one (ys_ret (ye_callB (cr_all rfl) cd_all (by rfl) T.m_all (by decide +kernel) (ya_cons (ye_lc rfl sc_raw_is_sum.nd (yi_zip (by rfl) T.m_zip (ya_cons (ye_ix (yv 1) ye_int) (ya_cons (ye_sl (ye_ix (yv 1) ye_int) (yo_some ye_int) yo_none) ya_nil))) (blkOk_by (N := ["many", "thing", "one", "other", "pair"]) (sc := (defScope s_raw_is_sum)) (own := [("one", 2), ("other", 3)]) (by decide +kernel)) (fun _ _ _ _ _ => (yg_tup (n := 2) rfl (ygs_cons (yg_name (i := 2) sc_raw_is_sum.nd) (ygs_cons (yg_name (i := 3) sc_raw_is_sum.nd) ygs_nil)))) (fun _ _ _ _ _ => pts_yes) (fun _ _ _ _ _ => (ye_lt (ye_ix (yv 2) ye_int) (ye_ix (yv 3) ye_int)))) ya_nil)))))), ?_⟩
  · obtain ⟨m, s, n, rfl, _⟩ := h; rfl
  · obtain ⟨m, s, n, rfl, hs, hn, hm, q⟩ := h
    have nl : (nzP 0 s.1).length ≤ 100 := by have := nzP_len 0 s.1; rw [hs.len] at this; omega
    walk_at "dd"
    refine ⟨_, 2, rfl, jd_dS hs hn hm, by decide, ?_⟩
    rw [show isTn (dS s) (Int.toNat 2) = true from rfl]
    walk_at "dd"
    refine ⟨_, rfl, jd_dF hs.csm hn, ?_⟩
    rw [isFr_dF hs.cok]
    walk_at "dd"
    refine ⟨lines (by omega), lcRun_map dP (fun _ => .bl true) (nzP 0 s.1) ?_ ?_⟩
    · intro p R R' hp r
      obtain ⟨h1, h2, h3, h4⟩ := nzP_mem hp
      rw [hs.len] at h4
      walk_at "dd"
      exact ⟨m, p, n, rfl, h4, by omega, hs.fok _ h2, h3, hs.fsm _ h2, hn, r⟩
    · have e : ((nzP 0 s.1).map fun _ => D.bl true) = ((nzP 0 s.1).map fun _ => true).map D.bl := by rw [List.map_map]; rfl
      rw [e]
      walk_at "dd"
      rw [show ((nzP 0 s.1).all fun _ => true) = true by simp]
      walk_at "dd"
      rw [cutD_1, ← List.map_drop, zipD_map]
      refine ⟨.inl trivial, lines (by simp; omega), lcRun_map (fun q : (Nat × Fr) × (Nat × Fr) => D.tup [dP q.1, dP q.2]) (fun _ => .bl true) _ ?_ ?_⟩
      · rintro ⟨a, b⟩ R R' hp r
        have hlt := zip_tail_pw (nzP_pw s.1 0) _ hp
        simp only at hlt
        walk_at "dd"
        rw [decide_eq_true (by omega)]
        exact r
      · have e2 : (((nzP 0 s.1).zip ((nzP 0 s.1).drop 1)).map fun _ => D.bl true) = (((nzP 0 s.1).zip ((nzP 0 s.1).drop 1)).map fun _ => true).map D.bl := by rw [List.map_map]; rfl
        rw [e2]
        walk_at "dd"
        rw [show (((nzP 0 s.1).zip ((nzP 0 s.1).drop 1)).all fun _ => true) = true by simp]
        exact fin0 q
def sp_mp : DSp := fun ds Γ Q _ => ∃ (m : Nat) (x : Mk'), ds = [dM x] ∧ MOk m x ∧ 1 ≤ m ∧ m ≤ 3 ∧ Q (.bl true) Γ
theorem d_is_marked_pair (T : Txt K mg cSlips) : Def P w K mg base 4 "is_marked_pair" sp_mp := by
  refine Def.mk' T.at_is_marked_pair sc_is_marked_pair (fun ds Γ Q E h => ?_) fun f cdv A outer s H E ds Γ Qd Ed hr h => ⟨_, 
    (ys_cons (ys_if (PW.pt (yw_or (yt_not (yt_val (ye_isi (T := .tup) (by nofun) (by rfl) T.m_isinstance (by decide +kernel) (yv 0) (by rfl) T.m_tuple (by decide +kernel)))) (yw_or (yt_ne hr (ye_callB call_len cd_len (by rfl) T.m_len (by decide +kernel) (ya_cons (yv 0) ya_nil)) ye_int) (yw_or1 (yt_not (yt_val (ye_isi (T := .bl) (by nofun) (by rfl) T.m_isinstance (by decide +kernel) (ye_ix (yv 0) ye_int) (by rfl) T.m_bool (by decide +kernel))))))))
    (ys_one (ys_ret ye_bl))
    ys_nil)
    (ys_one (ys_ret (ye_and (ye_call (d_are_values T) hr (ya_cons (ye_ix (yv 0) ye_int) ya_nil)) (ye_one (ye_lele ye_int (ye_callB call_len cd_len (by rfl) T.m_len (by decide +kernel) (ya_cons (ye_ix (yv 0) ye_int) ya_nil)) (ye_glob (by rfl) T.c_MOST_PLACES))))))), ?_⟩
  · obtain ⟨m, x, rfl, _⟩ := h; rfl
  · obtain ⟨m, x, rfl, hx, h1, h3, q⟩ := h
    walk_at "dd"
    refine ⟨_, rfl, jd_pt hx.fsm (by decide) (by rw [hx.len]; omega), ?_⟩
    rw [isVals_pt hx.fok]
    walk_at "dd"
    rw [hx.len]
    rw [if_pos (decide_eq_true (by omega)), decide_eq_true (by omega)]
    exact fin0 q
def sp_am : DSp := fun ds Γ Q _ => ∃ (m : Nat) (xs : List Mk'), ds = [dMs xs] ∧ GM m xs ∧ Q (.bl true) Γ
theorem d_are_marked (T : Txt K mg cSlips) : Def P w K mg base 5 "are_marked" sp_am := by
  refine Def.mk' T.at_are_marked sc_are_marked (fun ds Γ Q E h => ?_) fun f cdv A outer s H E ds Γ Qd Ed hr h => ⟨_, 
    (ys_cons (ys_if (PW.pt (yw_or (yt_not (yt_val (ye_isi (T := .tup) (by nofun) (by rfl) T.m_isinstance (by decide +kernel) (yv 0) (by rfl) T.m_tuple (by decide +kernel)))) (yw_or1 (yt_not (yt_lele ye_int (ye_callB call_len cd_len (by rfl) T.m_len (by decide +kernel) (ya_cons (yv 0) ya_nil)) (ye_glob (by rfl) T.c_MOST_MARKED))))))
    (ys_one (ys_ret ye_bl))
    ys_nil)
    (ys_one (ys_ret (ye_and (ye_callB (cr_all rfl) cd_all (by rfl) T.m_all (by decide +kernel) (ya_cons (ye_lc rfl sc_are_marked.nd (yi_seq (yv 0)) (blkOk_by (N := ["thing", "one"]) (sc := (defScope s_are_marked)) (own := [("one", 1)]) (by decide +kernel)) (fun _ _ _ _ _ => (yg_name (i := 1) sc_are_marked.nd)) (fun _ _ _ _ _ => pts_yes) (fun _ _ _ _ _ => (ye_call (d_is_marked_pair T) hr (ya_cons (yv 1) ya_nil)))) ya_nil)) (ye_one (ye_callB (cr_all rfl) cd_all (by rfl) T.m_all (by decide +kernel) (ya_cons (ye_lc rfl sc_are_marked.nd (yi_seq (yv 0)) (blkOk_by (N := ["thing", "one"]) (sc := (defScope s_are_marked)) (own := [("one", 1)]) (by decide +kernel)) (fun _ _ _ _ _ => (yg_name (i := 1) sc_are_marked.nd)) (fun _ _ _ _ _ => pts_yes) (fun _ _ _ _ _ => (ye_eq hr (ye_callB call_len cd_len (by rfl) T.m_len (by decide +kernel) (ya_cons (ye_ix (yv 1) ye_int) ya_nil)) (ye_callB call_len cd_len (by rfl) T.m_len (by decide +kernel) (ya_cons (ye_ix (ye_ix (yv 0) ye_int) ye_int) ya_nil))))) ya_nil))))))), ?_⟩
  · obtain ⟨m, x, rfl, _⟩ := h; rfl
  · obtain ⟨m, xs, rfl, hg, q⟩ := h
    walk_at "dd"
    have l1 := hg.l1
    have l5 := hg.l5
    rw [if_pos (decide_eq_true (by omega)), decide_eq_true (by omega)]
    walk_at "dd"
    refine ⟨lines (by omega), lcRun_map dM (fun _ => .bl true) xs ?_ ?_⟩
    · intro x R R' hx r
      walk_at "dd"
      exact ⟨m, x, rfl, hg.ok x hx, hg.m1, hg.m3, r⟩
    · have e : (xs.map fun _ => D.bl true) = (xs.map fun _ => true).map D.bl := by rw [List.map_map]; rfl
      rw [e]
      walk_at "dd"
      rw [show (xs.all fun _ => true) = true by simp]
      walk_at "dd"
      refine ⟨lines (by omega), lcRun_map dM (fun _ => .bl true) xs ?_ ?_⟩
      · intro x R R' hx r
        walk_at "dd"
        have e0 : atI (xs.map dM) 0 = some (dM xs[0]) := atI_at (n := 0) rfl (by rw [List.getElem?_map, List.getElem?_eq_getElem (by omega)]; rfl)
        rw [e0]
        walk_at "dd"
        rw [(hg.ok x hx).len, (hg.ok xs[0] (List.getElem_mem _)).len, decide_eq_true rfl]
        exact r
      · rw [e]
        walk_at "dd"
        rw [show (xs.all fun _ => true) = true by simp]
        exact fin0 q
def sp_cm : DSp := fun ds Γ Q _ => ∃ (m : Nat) (xs : List Mk'), ds = [dMs xs] ∧ GM m xs ∧ Q .non Γ
theorem d_check_marked (T : Txt K mg cSlips) : Def P w K mg base 6 "check_marked" sp_cm := by
  refine Def.mk' T.at_check_marked sc_check_marked (fun ds Γ Q E h => ?_) fun f cdv A outer s H E ds Γ Qd Ed hr h => ⟨_, 
    (ys_one (ys_if (yt_not (yt_val (ye_call (d_are_marked T) hr (ya_cons (yv 0) ya_nil))))
    (ys_one ys_never)
    ys_nil)), ?_⟩
  · obtain ⟨m, x, rfl, _⟩ := h; rfl
  · obtain ⟨m, xs, rfl, hg, q⟩ := h
    walk_at "dd"
    refine ⟨m, xs, rfl, hg, ?_⟩
    walk_at "dd"
    exact fin0 q
theorem at0 {xs : List Mk'} {m : Nat} (hg : GM m xs) : ∃ x, atI (xs.map dM) 0 = some (dM x) ∧ MOk m x := by
  have l1 := hg.l1
  exact ⟨xs[0], atI_at (n := 0) rfl (by rw [List.getElem?_map, List.getElem?_eq_getElem (by omega)]; rfl), hg.ok _ (List.getElem_mem _)⟩
def sp_cms : DSp := fun ds Γ Q _ => ∃ (m : Nat) (xs : List Mk') (s : Sm') (n : Nat), ds = [dMs xs, dS s] ∧ GM m xs ∧ SOk n m s ∧ n ≤ 900 ∧ Q .non Γ
theorem d_check_marked_sum (T : Txt K mg cSlips) : Def P w K mg base 7 "check_marked_sum" sp_cms := by
  refine Def.mk' T.at_check_marked_sum sc_check_marked_sum (fun ds Γ Q E h => ?_) fun f cdv A outer s H E ds Γ Qd Ed hr h => ⟨_, 
    (ys_cons (ys_expr (ye_call (d_check_marked T) hr (ya_cons (yv 0) ya_nil)))
    (ys_one (ys_if (yt_not (yt_val (ye_call (d_raw_is_sum T) hr (ya_cons (ye_callB call_len cd_len (by rfl) T.m_len (by decide +kernel) (ya_cons (ye_ix (ye_ix (yv 0) ye_int) ye_int) ya_nil)) (ya_cons (yv 1) ya_nil)))))
    (ys_one ys_never)
    ys_nil))), ?_⟩
  · obtain ⟨m, xs, s, n, rfl, _⟩ := h; rfl
  · obtain ⟨m, xs, s, n, rfl, hg, hs, hn, q⟩ := h
    walk_at "dd"
    refine ⟨m, xs, rfl, hg, ?_⟩
    walk_at "dd"
    obtain ⟨x, e, hx⟩ := at0 hg
    rw [e]
    walk_at "dd"
    have m3 := hg.m3
    refine ⟨m, s, n, by rw [hx.len], hs, by omega, by omega, ?_⟩
    walk_at "dd"
    exact fin0 q
/-- the numbers of the wrong ones -/
def wrongL (xs : List Mk') (s : Sm') : List Nat := ((xs.zipIdx).filter fun p => !rightB s p.1).map (·.2)
abbrev dNs (ns : List Nat) : D := .tup (dIs' ns)
def sp_wrong : DSp := fun ds Γ Q _ => ∃ (m : Nat) (xs : List Mk') (s : Sm') (n : Nat), ds = [dMs xs, dS s] ∧ GM m xs ∧ SOk n m s ∧ n ≤ 900 ∧ Q (dNs (wrongL xs s)) Γ
theorem d_wrong_ones (T : Txt K mg cSlips) : Def P w K mg base 8 "wrong_ones" sp_wrong := by
  refine Def.mk' T.at_wrong_ones sc_wrong_ones (fun ds Γ Q E h => ?_) fun f cdv A outer s H E ds Γ Qd Ed hr h => ⟨_, 
    (ys_cons (ys_expr (ye_call (d_check_marked_sum T) hr (ya_cons (yv 0) (ya_cons (yv 1) ya_nil))))
    (ys_one (ys_ret (ye_callTy call_tuple_F cd_tupOf (by rfl) T.m_tuple (by decide +kernel) (ya_cons (ye_lc rfl sc_wrong_ones.nd (yi_enum (by rfl) T.m_enumerate (ya_cons (yv 0) ya_nil)) (blkOk_by (N := ["marked", "told", "number", "one"]) (sc := (defScope s_wrong_ones)) (own := [("number", 2), ("one", 3)]) (by decide +kernel)) (fun _ _ _ _ _ => (yg_tup (n := 2) rfl (ygs_cons (yg_name (i := 2) sc_wrong_ones.nd) (ygs_cons (yg_name (i := 3) sc_wrong_ones.nd) ygs_nil)))) (fun _ _ _ _ _ => (yts_one (yt_not (yt_val (ye_call (d_is_right T) hr (ya_cons (yv 1) (ya_cons (yv 3) ya_nil))))))) (fun _ _ _ _ _ => (yv 2))) ya_nil))))), ?_⟩
  · obtain ⟨m, xs, s, n, rfl, _⟩ := h; rfl
  · obtain ⟨m, xs, s, n, rfl, hg, hs, hn, q⟩ := h
    walk_at "dd"
    refine ⟨m, xs, s, n, rfl, hg, hs, hn, ?_⟩
    rw [enumD_map]
    have l5 := hg.l5
    refine ⟨lines (by simp; omega), lcRun_filter (fun p : Mk' × Nat => D.tup [.int (0 + (p.2 : Nat)), dM p.1]) (fun p => .int (p.2 : Nat)) (fun p => !rightB s p.1) xs.zipIdx ?_ ?_⟩
    · rintro ⟨x, i⟩ R R' hm ht hf
      have hx : x ∈ xs := (List.mem_zipIdx' hm).2 ▸ List.getElem_mem _
      walk_at "dd"
      refine ⟨s, x, n, m, rfl, hs, hg.ok x hx, hn, hg.m3, ?_⟩
      rw [Int.zero_add]
      cases hb : rightB s x with
      | true => exact hf (by simp [hb])
      | false => exact ht (by simp [hb])
    · refine fin0 ?_
      unfold dNs wrongL dIs' at q
      rw [List.map_map] at q
      exact q
def sp_slipped : DSp := fun ds Γ Q _ => ∃ (m : Nat) (xs : List Mk') (s : Sm') (n : Nat) (i : Nat) (x : Mk'), ds = [dMs xs, dS s, .int (i : Int)] ∧ GM m xs ∧ SOk n m s ∧ n ≤ 900 ∧ xs[i]? = some x ∧ Q (dS (slip s x)) Γ
theorem d_slipped (T : Txt K mg cSlips) : Def P w K mg base 8 "slipped" sp_slipped := by
  refine Def.mk' T.at_slipped sc_slipped (fun ds Γ Q E h => ?_) fun f cdv A outer s H E ds Γ Qd Ed hr h => ⟨_, 
    (ys_cons (ys_expr (ye_call (d_check_marked_sum T) hr (ya_cons (yv 0) (ya_cons (yv 1) ya_nil))))
    (ys_cons (ys_if (yt_not (yt_val (ye_call (d_is_within T) hr (ya_cons (yv 2) (ya_cons ye_int (ya_cons (ye_sub (ye_callB call_len cd_len (by rfl) T.m_len (by decide +kernel) (ya_cons (yv 0) ya_nil)) ye_int) ya_nil))))))
    (ys_one ys_never)
    ys_nil)
    (ys_one (ys_ret (ye_call (d_raw_slipped T) hr (ya_cons (yv 1) (ya_cons (ye_ix (yv 0) (yv 2)) ya_nil))))))), ?_⟩
  · obtain ⟨m, xs, s, n, i, x, rfl, _⟩ := h; rfl
  · obtain ⟨m, xs, s, n, i, x, rfl, hg, hs, hn, hi, q⟩ := h
    have l5 := hg.l5
    have hil := (List.getElem?_eq_some_iff.mp hi).1
    walk_at "dd"
    refine ⟨m, xs, s, n, rfl, hg, hs, hn, ?_⟩
    walk_at "dd"
    refine ⟨_, _, _, rfl, jd_nat (by omega), ?_⟩
    rw [show isWi (.int (i : Int)) 0 ((xs.length : Int) - 1) = true by simp [isWi]; omega]
    walk_at "dd"
    rw [atI_at (x := dM x) rfl (by rw [List.getElem?_map, hi]; rfl)]
    exact ⟨s, x, n, m, rfl, hs, hg.ok x (List.mem_of_getElem? hi), hn, hg.m3, fin0 q⟩
def sp_most : DSp := fun ds Γ Q _ => ∃ (m : Nat) (xs : List Mk') (k : Int), ds = [dMs xs, .int k] ∧ GM m xs ∧ 0 ≤ k ∧ k ≤ 1000 ∧ Q .non Γ
theorem d_check_most (T : Txt K mg cSlips) : Def P w K mg base 7 "check_most" sp_most := by
  refine Def.mk' T.at_check_most sc_check_most (fun ds Γ Q E h => ?_) fun f cdv A outer s H E ds Γ Qd Ed hr h => ⟨_, 
    (ys_cons (ys_expr (ye_call (d_check_marked T) hr (ya_cons (yv 0) ya_nil)))
    (ys_one (ys_if (yt_not (yt_val (ye_call (d_is_within T) hr (ya_cons (yv 1) (ya_cons ye_int (ya_cons (ye_glob (by rfl) T.c_MOST_SLIPS) ya_nil))))))
    (ys_one ys_never)
    ys_nil))), ?_⟩
  · obtain ⟨m, xs, k, rfl, _⟩ := h; rfl
  · obtain ⟨m, xs, k, rfl, hg, h0, h1, q⟩ := h
    walk_at "dd"
    refine ⟨m, xs, rfl, hg, ?_⟩
    refine ⟨_, _, _, rfl, jd_k h0 h1, ?_⟩
    rw [show isWi (.int k) 0 5000 = true by simp [isWi]; omega]
    walk_at "dd"
    exact fin0 q
end

end Z
set_option Elab.async false
set_option linter.all false
set_option maxRecDepth 100000
set_option maxHeartbeats 4000000
set_option exponentiation.threshold 20000
namespace Z
open PySem PySem.Spec PyProof.Rows L2 Y
local macro_rules | `(tactic| walk_at "dd") => `(tactic| simp only [seqOf_dF, seqOf_dS, seqOf_dM, seqOf_dP, tyD_dF, tyD_dM, tyD_dS, tyD_dP, resD_dF, dVar, dC, dOp, dAdd_ii, dAdd_tt, dAdd_ll, d2I_ii, d2I0_ii, dMul_ii, dMul_ti, dNeg, dEq_ii, dEq_ss, dEq_bb, dNe_ii, dNe_ss, dNe_bb, dIs, dIsNot, isNon_non, isNon_int, isNon_bl, isNon_tup, isNon_lst, dTB, dChain, dAndT, dOrT, dNotT, dAndV, dOrV, dNotV, dIf, dNil, dCons, dTup', dLst', dLstO', dIx, dNoP, dPart, sliceD, dSl, dCB, dLen, dAbs, dInt, dMax2, dTupOf, dListOf, dListOfO, dAll, dAny, dIsi, dNext, dSeq, dPass, dNever, dDrop, dRet, dRetF, dRetN, dIfS, dgName, dgNil, dgCons, dgTup, dgSub, dSetItem, dSet, dAsg, dPar, dPar3, dAug, dISeq, dIEnum, dIEnumK, dIZip, dIRange1, dIRange2, dFor, dLc, dLcO, dLm, rAppD, rExtD, rPopD, dCall, dFld, dFldSet, dFldAdd, dMeth, dMake, Y.putAt, Nat.lt_irrefl, List.cons_append, dDictT, dDictO, dGet2, asKey, dYes, startD, endD, wipeD, seqOf_gup, lstOf_gup, gup_same, gup_gup, ixN_50, ixN_51, ixN_52, ixN_53, ixN_54, List.length_map, srcOf_tup, srcOf_lst, srcOf_scr, srcOf_ptr, blsOf_map, all_map, seqOf_tup, seqOf_lst, seqOf_scr, lstOf_lst, lstOf_scr, lstOf'_lst, tyD_tup, tyD_lst, tyD_int, tyD_bl, tyD_str, tyD_non, isT, atI_0, atI_1, atI_2, atI_3, atI_4, List.getElem?_cons_zero, List.getElem?_cons_succ, List.set_cons_zero, List.set_cons_succ, List.map_cons, List.map_nil, List.length_cons, List.length_nil, List.nil_append, reduceCtorEq, if_true, if_false, Bool.false_eq_true, ne_eq, not_false_eq_true, not_true_eq_false, true_and, and_true, forall_const, implies_true, Bool.not_true, Bool.not_false, Nat.reduceAdd, Nat.reduceLT, Nat.reduceLeDiff, Nat.zero_le, Nat.le_refl, Nat.lt_irrefl, Nat.reduceLeDiff, Int.reduceNeg])


/-- slips under way, as an object at x -/
structure SlAt (cSlips : Addr) (Γ : Gs) (x dx r : Addr) (xs : List Mk') (st : SS) : Prop where
  ob : Γ x = some (.ins cSlips dx n_Slips [dMs xs, dS st.s, .int ((st.looks % xs.length : Nat) : Int), .int (st.looks : Int), .int (st.good : Int), .ptr r])
  row : Γ r = some (.lst (dIs' st.row))
  ne : x ≠ r
/-- but x and r all that is owned stays -/
def Keep2 (x r : Addr) (Γ Γ' : Gs) : Prop := ∀ a g, a ≠ x → a ≠ r → Γ a = some g → Γ' a = some g
section
variable {P : Program} {w : World} {K : PySem.W.Frag} {mg : Str → Option Value} {base : Heap} {cSlips : Addr}
def sp_init (cSlips : Addr) : DSp := fun ds Γ Q _ => ∃ (x dx : Addr) (m : Nat) (xs : List Mk'), ds = [.raw (.ref x), dMs xs] ∧ Γ x = some (.ins cSlips dx n_Slips []) ∧
  ∀ r Γ', Γ r = none → SlAt cSlips Γ' x dx r xs (startS m) → (∀ a g, a ≠ x → Γ a = some g → Γ' a = some g) → Q .non Γ'
theorem m_Slips (T : Txt K mg cSlips) : KMake P w K mg base 1 "Slips" cSlips (sp_init cSlips) := by
  refine KMake.mk' T.at_Slips_init sc_Slips_init (fun ds Γ Q E h => ?_) fun f cdv A outer s H E ds Γ Qd Ed hr h => ⟨_, 
    (ys_cons (ys_fld (j := 0) T.k_Slips (yv 0) (yv 1))
    (ys_cons (ys_fld (j := 1) T.k_Slips (yv 0) (ye_glob (by rfl) T.c_NOTHING))
    (ys_cons (ys_fld (j := 2) T.k_Slips (yv 0) ye_int)
    (ys_cons (ys_fld (j := 3) T.k_Slips (yv 0) ye_int)
    (ys_cons (ys_fld (j := 4) T.k_Slips (yv 0) ye_int)
    (ys_one (ys_fld (j := 5) T.k_Slips (yv 0) (ye_lstO ya_nil)))))))), ?_⟩
  · obtain ⟨x, dx, m, xs, rfl, _⟩ := h; rfl
  · obtain ⟨x, dx, m, xs, rfl, hx, q⟩ := h
    walk_at "dd"
    rw [hx]
    walk_at "dd"
    intro p hp
    have hne : x ≠ p := fun e => by rw [← e, gup_same] at hp; cases hp
    have hpΓ : Γ p = none := by rw [gup_ne hne.symm] at hp; exact hp
    rw [gup_ne hne]
    walk_at "dd"
    refine fin0 (q p _ hpΓ ⟨?_, ?_, hne⟩ fun a g n e => ?_)
    · rw [gup_same, dS_start]
      simp [startS]
    · rw [gup_ne hne.symm, gup_same]; rfl
    · rw [gup_ne n, gup_ne (gne e hpΓ), gup_ne n]; exact e
def sp_over (cSlips : Addr) : DSp := fun ds Γ Q _ => ∃ (x dx r : Addr) (xs : List Mk') (st : SS), ds = [.raw (.ref x)] ∧ SlAt cSlips Γ x dx r xs st ∧ Q (.bl (decide (st.good = xs.length))) Γ
theorem d_Slips_is_over (T : Txt K mg cSlips) : MDef P w K mg base 1 cSlips "is_over" (sp_over cSlips) := by
  refine MDef.mk' T.at_Slips_is_over sc_Slips_is_over (fun ds Γ Q E h => ?_) fun f cdv A outer s H E ds Γ Qd Ed hr h => ⟨_, 
    (ys_one (ys_ret (ye_eq hr (ye_fld (j := 4) T.k_Slips (yv 0)) (ye_callB call_len cd_len (by rfl) T.m_len (by decide +kernel) (ya_cons (ye_fld (j := 0) T.k_Slips (yv 0)) ya_nil))))), ?_⟩
  · obtain ⟨x, dx, r, xs, st, rfl, _⟩ := h; rfl
  · obtain ⟨x, dx, r, xs, st, rfl, hs, q⟩ := h
    walk_at "dd"
    rw [hs.ob]
    walk_at "dd"
    have e : decide (st.good = xs.length) = decide ((st.good : Int) = (xs.length : Int)) := by rw [decide_eq_decide]; omega
    rw [e] at q
    exact fin0 q
theorem m_of {m : Nat} {xs : List Mk'} (hg : GM m xs) (st : SS) : atI (xs.map dM) ((st.looks % xs.length : Nat) : Int) = some (dM (atM xs st)) :=
  atI_at rfl (by rw [List.getElem?_map, (atM_mem hg st).1]; rfl)
def sp_will (cSlips : Addr) : DSp := fun ds Γ Q _ => ∃ (x dx r : Addr) (m most : Nat) (xs : List Mk') (st : SS), ds = [.raw (.ref x)] ∧ SlAt cSlips Γ x dx r xs st ∧ GM m xs ∧ SInv m xs most st ∧ most ≤ 100 ∧ Q (.bl (!okB xs st)) Γ
theorem bits_ok {m most : Nat} {xs : List Mk'} {st : SS} (h : SInv m xs most st) (l : most ≤ 100) : 1 + 6 * st.row.length ≤ 900 := by
  have := h.row; omega
theorem d_Slips_will_slip (T : Txt K mg cSlips) : MDef P w K mg base 6 cSlips "will_slip" (sp_will cSlips) := by
  refine MDef.mk' T.at_Slips_will_slip sc_Slips_will_slip (fun ds Γ Q E h => ?_) fun f cdv A outer s H E ds Γ Qd Ed hr h => ⟨_, 
    (ys_one (ys_ret (ye_not (ye_call (d_is_right T) hr (ya_cons (ye_fld (j := 1) T.k_Slips (yv 0)) (ya_cons (ye_ix (ye_fld (j := 0) T.k_Slips (yv 0)) (ye_fld (j := 2) T.k_Slips (yv 0))) ya_nil)))))), ?_⟩
  · obtain ⟨x, dx, r, m, most, xs, st, rfl, _⟩ := h; rfl
  · obtain ⟨x, dx, r, m, most, xs, st, rfl, hs, hg, hi, hm, q⟩ := h
    walk_at "dd"
    rw [hs.ob]
    walk_at "dd"
    rw [m_of hg st]
    exact ⟨st.s, atM xs st, _, m, rfl, hi.sok, hg.ok _ (atM_mem hg st).2.1, bits_ok hi hm, hg.m3, fin0 q⟩
theorem turn_next (a L : Nat) : (((a % L : Nat) : Int) + 1) % (L : Int) = (((a + 1) % L : Nat) : Int) := by
  rw [← Nat.mod_add_mod]
  exact (Int.natCast_emod (a % L + 1) L).symm
def sp_look (cSlips : Addr) : DSp := fun ds Γ Q _ => ∃ (x dx r : Addr) (m most : Nat) (xs : List Mk') (st : SS), ds = [.raw (.ref x)] ∧ SlAt cSlips Γ x dx r xs st ∧ GM m xs ∧ SInv m xs most st ∧ most ≤ 100 ∧
  ∀ Γ', SlAt cSlips Γ' x dx r xs (stepS xs st) → Keep2 x r Γ Γ' → Q .non Γ'
theorem d_Slips_look (T : Txt K mg cSlips) : MDef P w K mg base 7 cSlips "look" (sp_look cSlips) := by
  refine MDef.mk' T.at_Slips_look sc_Slips_look (fun ds Γ Q E h => ?_) fun f cdv A outer s H E ds Γ Qd Ed hr h => ⟨_, 
    (ys_cons (ys_if (yt_val (ye_meth0 T.k_Slips (d_Slips_will_slip T) hr (yv 0)))
    (ys_cons (ys_fld (j := 1) T.k_Slips (yv 0) (ye_call (d_raw_slipped T) hr (ya_cons (ye_fld (j := 1) T.k_Slips (yv 0)) (ya_cons (ye_ix (ye_fld (j := 0) T.k_Slips (yv 0)) (ye_fld (j := 2) T.k_Slips (yv 0))) ya_nil))))
    (ys_cons (ys_expr (ye_append (ye_fld (j := 5) T.k_Slips (yv 0)) (ya_cons (ye_fld (j := 2) T.k_Slips (yv 0)) ya_nil)))
    (ys_one (ys_fld (j := 4) T.k_Slips (yv 0) ye_int))))
    (ys_one (ys_fldAdd (j := 4) T.k_Slips (yv 0) ye_int)))
    (ys_cons (ys_fldAdd (j := 3) T.k_Slips (yv 0) ye_int)
    (ys_one (ys_fld (j := 2) T.k_Slips (yv 0) (ye_mod (ye_add (ye_fld (j := 2) T.k_Slips (yv 0)) ye_int) (ye_callB call_len cd_len (by rfl) T.m_len (by decide +kernel) (ya_cons (ye_fld (j := 0) T.k_Slips (yv 0)) ya_nil))))))), ?_⟩
  · obtain ⟨x, dx, r, m, most, xs, st, rfl, _⟩ := h; rfl
  · obtain ⟨x, dx, r, m, most, xs, st, rfl, hs, hg, hi, hm, q⟩ := h
    walk_at "dd"
    rw [hs.ob]
    walk_at "dd"
    refine ⟨x, dx, r, m, most, xs, st, rfl, hs, hg, hi, hm, ?_⟩
    have hne := hs.ne
    have hL : (0 : Int) < (xs.length : Int) := by have := hg.l1; omega
    walk_at "dd"
    rw [hs.ob]
    unfold stepS at q
    cases hb : okB xs st with
    | true =>
      simp only [hb, if_true] at q
      walk_at "dd"
      refine ⟨hL, fin0 ?_⟩
      rw [turn_next]
      exact q _ ⟨gup_same, by rw [gup_ne hne.symm]; exact hs.row, hne⟩ fun a g n _ e => by rw [gup_ne n]; exact e
    | false =>
      simp only [hb, if_false, Bool.false_eq_true] at q
      walk_at "dd"
      rw [m_of hg st]
      refine ⟨st.s, atM xs st, _, m, rfl, hi.sok, hg.ok _ (atM_mem hg st).2.1, bits_ok hi hm, hg.m3, ?_⟩
      walk_at "dd"
      rw [hs.ob]
      walk_at "dd"
      rw [gup_ne hne.symm, hs.row]
      walk_at "dd"
      rw [gup_ne hne]
      walk_at "dd"
      rw [turn_next]
      refine ⟨linel (by have := bits_ok hi hm; unfold dIs'; rw [List.length_map]; omega), hL, fin0 (q _ ⟨gup_same, ?_, hne⟩ fun a g n n2 e => ?_)⟩
      · rw [gup_ne hne.symm, gup_same]
        simp [dIs']
      · rw [gup_ne n, gup_ne n2, gup_ne n]; exact e
end

end Z
set_option Elab.async false
set_option linter.all false
set_option maxRecDepth 100000
set_option maxHeartbeats 4000000
set_option exponentiation.threshold 20000
namespace Z
open PySem PySem.Spec PyProof.Rows L2 Y
local macro_rules | `(tactic| walk_at "dd") => `(tactic| simp only [seqOf_dF, seqOf_dS, seqOf_dM, seqOf_dP, tyD_dF, tyD_dM, tyD_dS, tyD_dP, resD_dF, dVar, dC, dOp, dAdd_ii, dAdd_tt, dAdd_ll, d2I_ii, d2I0_ii, dMul_ii, dMul_ti, dNeg, dEq_ii, dEq_ss, dEq_bb, dNe_ii, dNe_ss, dNe_bb, dIs, dIsNot, isNon_non, isNon_int, isNon_bl, isNon_tup, isNon_lst, dTB, dChain, dAndT, dOrT, dNotT, dAndV, dOrV, dNotV, dIf, dNil, dCons, dTup', dLst', dLstO', dIx, dNoP, dPart, sliceD, dSl, dCB, dLen, dAbs, dInt, dMax2, dTupOf, dListOf, dListOfO, dAll, dAny, dIsi, dNext, dSeq, dPass, dNever, dDrop, dRet, dRetF, dRetN, dIfS, dgName, dgNil, dgCons, dgTup, dgSub, dSetItem, dSet, dAsg, dPar, dPar3, dAug, dISeq, dIEnum, dIEnumK, dIZip, dIRange1, dIRange2, dFor, dLc, dLcO, dLm, rAppD, rExtD, rPopD, dCall, dFld, dFldSet, dFldAdd, dMeth, dMake, Y.putAt, Nat.lt_irrefl, List.cons_append, dDictT, dDictO, dGet2, asKey, dYes, startD, endD, wipeD, seqOf_gup, lstOf_gup, gup_same, gup_gup, ixN_50, ixN_51, ixN_52, ixN_53, ixN_54, List.length_map, srcOf_tup, srcOf_lst, srcOf_scr, srcOf_ptr, blsOf_map, all_map, seqOf_tup, seqOf_lst, seqOf_scr, lstOf_lst, lstOf_scr, lstOf'_lst, tyD_tup, tyD_lst, tyD_int, tyD_bl, tyD_str, tyD_non, isT, atI_0, atI_1, atI_2, atI_3, atI_4, List.getElem?_cons_zero, List.getElem?_cons_succ, List.set_cons_zero, List.set_cons_succ, List.map_cons, List.map_nil, List.length_cons, List.length_nil, List.nil_append, reduceCtorEq, if_true, if_false, Bool.false_eq_true, ne_eq, not_false_eq_true, not_true_eq_false, true_and, and_true, forall_const, implies_true, Bool.not_true, Bool.not_false, Nat.reduceAdd, Nat.reduceLT, Nat.reduceLeDiff, Nat.zero_le, Nat.le_refl, Nat.lt_irrefl, Nat.reduceLeDiff, Int.reduceNeg])


theorem notstop_over {xs : List Mk'} {most : Nat} {st : SS} (h1 : st.good ≠ xs.length) (h2 : okB xs st = true ∨ st.row.length ≠ most) : ¬ stopS xs most st := by
  rintro (h | ⟨ha, hb⟩)
  · exact h1 h
  · rcases h2 with h2 | h2
    · rw [h2] at ha; cases ha
    · exact h2 hb
section
variable {P : Program} {w : World} {K : PySem.W.Frag} {mg : Str → Option Value} {base : Heap} {cSlips : Addr}
def sp_till (cSlips : Addr) : DSp := fun ds Γ Q _ => ∃ (m most : Nat) (xs : List Mk') (F : SS), ds = [dMs xs, .int (most : Int)] ∧ GM m xs ∧ most ≤ 100 ∧ Run xs most (startS m) F ∧
  ∀ x dx r Γ', SlAt cSlips Γ' x dx r xs F → Y.Sub Γ Γ' → Q (.raw (.ref x)) Γ'
theorem d_slips_till (T : Txt K mg cSlips) : Def P w K mg base 8 "slips_till" (sp_till cSlips) := by
  refine Def.mk' T.at_slips_till sc_slips_till (fun ds Γ Q E h => ?_) fun f cdv A outer s H E ds Γ Qd Ed hr h => ⟨_, 
    (ys_cons (ys_set (i := 2) sc_slips_till.nd (ye_make (ns := n_Slips) (m_Slips T) hr (ya_cons (yv 0) ya_nil)))
    (ys_cons (ys_while PassesOwn.never (PW.pt (yw_and (yt_not (yt_val (ye_meth0 T.k_Slips (d_Slips_is_over T) hr (yv 2)))) (yw_and1 (yt_not (PW.pt (yw_and (yt_val (ye_meth0 T.k_Slips (d_Slips_will_slip T) hr (yv 2))) (yw_and1 (yt_eq hr (ye_callB call_len cd_len (by rfl) T.m_len (by decide +kernel) (ya_cons (ye_fld (j := 5) T.k_Slips (yv 2)) ya_nil)) (yv 1)))))))))
    (ys_one (ys_expr (ye_meth0 T.k_Slips (d_Slips_look T) hr (yv 2)))))
    (ys_one (ys_ret (yv 2))))), ?_⟩
  · obtain ⟨m, most, xs, F, rfl, _⟩ := h; rfl
  · obtain ⟨m, most, xs, F, rfl, hg, hm, hF, q⟩ := h
    walk_at "dd"
    intro x dx hx
    refine ⟨x, dx, m, xs, rfl, gup_same, fun r Γ1 hr hs hk => ⟨rfl, ?_⟩⟩
    have hrx : r ≠ x := fun e => by rw [e, gup_same] at hr; cases hr
    have hrΓ : Γ r = none := by rw [gup_ne hrx] at hr; exact hr
    have sub1 : Y.Sub Γ Γ1 := fun a g e => hk a g (gne e hx) (by rw [gup_ne (gne e hx)]; exact e)
    simp only [dWhile]
    refine ⟨fun n ρ Γ' => ∃ st, ρ = [some (dMs xs), some (.int (most : Int)), some (.raw (.ref x))] ∧ SlAt cSlips Γ' x dx r xs st ∧ SInv m xs most st ∧ Run xs most st F ∧ n = msS xs most st ∧ Y.Sub Γ Γ', ⟨_, startS m, rfl, hs, inv_start, hF, rfl, sub1⟩, ?_⟩
    rintro n ρ Γ' ⟨st, rfl, hs', hi, hR, rfl, sub⟩
    walk_at "dd"
    rw [hs'.ob]
    walk_at "dd"
    refine ⟨x, dx, r, xs, st, rfl, hs', ?_⟩
    have fin : stopS xs most st → Qd (.raw (.ref x)) Γ' := fun hst => by
      have e := hR.at_stop hst
      subst e
      exact q x dx r Γ' hs' sub
    have go : ¬ stopS xs most st → sp_look cSlips [.raw (.ref x)] Γ' (fun _ Γ2 => ∃ m', m' < msS xs most st ∧ ∃ st', SlAt cSlips Γ2 x dx r xs st' ∧ SInv m xs most st' ∧ Run xs most st' F ∧ m' = msS xs most st' ∧ Y.Sub Γ Γ2) E0d := fun hst =>
      ⟨x, dx, r, m, most, xs, st, rfl, hs', hg, hi, hm, fun Γ2 hs2 hk2 => ⟨_, ms_step hi hst, _, hs2, inv_step hg hi hst, hR.next hst, rfl, fun a g e => hk2 a g (gne e hx) (gne e hrΓ) (sub a g e)⟩⟩
    by_cases hgo : st.good = xs.length
    · rw [decide_eq_true hgo]
      walk_at "dd"
      exact fin0 (fin (.inl hgo))
    · rw [decide_eq_false hgo]
      walk_at "dd"
      rw [hs'.ob]
      walk_at "dd"
      refine ⟨x, dx, r, m, most, xs, st, rfl, hs', hg, hi, hm, ?_⟩
      cases hb : okB xs st with
      | true =>
        walk_at "dd"
        rw [hs'.ob]
        walk_at "dd"
        exact go (notstop_over hgo (.inl hb))
      | false =>
        walk_at "dd"
        rw [hs'.ob]
        walk_at "dd"
        rw [seqOf_ptr hs'.row]
        walk_at "dd"
        have el : (dIs' st.row).length = st.row.length := by simp [dIs']
        rw [el]
        by_cases hl : st.row.length = most
        · rw [decide_eq_true (by omega)]
          walk_at "dd"
          exact fin0 (fin (.inr ⟨hb, hl⟩))
        · rw [decide_eq_false (by omega)]
          walk_at "dd"
          exact go (notstop_over hgo (.inr hl))
def sp_told : DSp := fun ds Γ Q _ => ∃ (m most : Nat) (xs : List Mk') (F : SS), ds = [dMs xs, .int (most : Int)] ∧ GM m xs ∧ most ≤ 100 ∧ Run xs most (startS m) F ∧
  Q (.tup [.str (if F.good = xs.length then "ended" else "goes on"), dS F.s, dNs F.row]) Γ
theorem d_slips_told (T : Txt K mg cSlips) : Def P w K mg base 9 "slips_told" sp_told := by
  refine Def.mk' T.at_slips_told sc_slips_told (fun ds Γ Q E h => ?_) fun f cdv A outer s H E ds Γ Qd Ed hr h => ⟨_, 
    (ys_cons (ys_expr (ye_call (d_check_most T) hr (ya_cons (yv 0) (ya_cons (yv 1) ya_nil))))
    (ys_cons (ys_set (i := 2) sc_slips_told.nd (ye_call (d_slips_till T) hr (ya_cons (yv 0) (ya_cons (yv 1) ya_nil))))
    (ys_one (ys_ret (ye_tup (ya_cons (ye_if (yt_val (ye_meth0 T.k_Slips (d_Slips_is_over T) hr (yv 2))) (ye_glob (by rfl) T.c_ENDED) (ye_glob (by rfl) T.c_GOES_ON)) (ya_cons (ye_fld (j := 1) T.k_Slips (yv 2)) (ya_cons (ye_callTy call_tuple_F cd_tupOf (by rfl) T.m_tuple (by decide +kernel) (ya_cons (ye_fld (j := 5) T.k_Slips (yv 2)) ya_nil)) ya_nil)))))))), ?_⟩
  · obtain ⟨m, most, xs, F, rfl, _⟩ := h; rfl
  · obtain ⟨m, most, xs, F, rfl, hg, hm, hF, q⟩ := h
    walk_at "dd"
    refine ⟨m, xs, _, rfl, hg, by omega, by omega, ?_⟩
    refine ⟨m, most, xs, F, rfl, hg, hm, hF, fun x dx r Γ' hs sub => ?_⟩
    walk_at "dd"
    rw [hs.ob]
    walk_at "dd"
    refine ⟨x, dx, r, xs, F, rfl, hs, ?_⟩
    walk_at "dd"
    rw [hs.ob]
    walk_at "dd"
    rw [seqOf_ptr hs.row]
    walk_at "dd"
    by_cases hgo : F.good = xs.length
    · rw [if_pos hgo] at q
      rw [if_pos (decide_eq_true hgo)]
      exact ⟨Γ, sub, q⟩
    · rw [if_neg hgo] at q
      rw [if_neg (by simpa using hgo)]
      exact ⟨Γ, sub, q⟩
def sp_rounds : DSp := fun ds Γ Q _ => ∃ (m most : Nat) (xs : List Mk') (F : SS), ds = [dMs xs, .int (most : Int)] ∧ GM m xs ∧ most ≤ 100 ∧ Run xs most (startS m) F ∧ SInv m xs most F ∧
  Q (if F.good = xs.length then .int (((F.last : Int) + (xs.length : Int) - 1) / (xs.length : Int) + 1) else .non) Γ
theorem d_rounds_of (T : Txt K mg cSlips) : Def P w K mg base 9 "rounds_of" sp_rounds := by
  refine Def.mk' T.at_rounds_of sc_rounds_of (fun ds Γ Q E h => ?_) fun f cdv A outer s H E ds Γ Qd Ed hr h => ⟨_, 
    (ys_cons (ys_expr (ye_call (d_check_most T) hr (ya_cons (yv 0) (ya_cons (yv 1) ya_nil))))
    (ys_cons (ys_set (i := 2) sc_rounds_of.nd (ye_call (d_slips_till T) hr (ya_cons (yv 0) (ya_cons (yv 1) ya_nil))))
    (ys_cons (ys_if (yt_not (yt_val (ye_meth0 T.k_Slips (d_Slips_is_over T) hr (yv 2))))
    (ys_one (ys_ret ye_non))
    ys_nil)
    (ys_cons (ys_set (i := 3) sc_rounds_of.nd (ye_callB call_len cd_len (by rfl) T.m_len (by decide +kernel) (ya_cons (yv 0) ya_nil)))
    (ys_cons (ys_set (i := 4) sc_rounds_of.nd (ye_sub (ye_fld (j := 3) T.k_Slips (yv 2)) (yv 3)))
    (ys_one (ys_ret (ye_add (ye_div (ye_sub (ye_add (yv 4) (yv 3)) ye_int) (yv 3)) ye_int)))))))), ?_⟩
  · obtain ⟨m, most, xs, F, rfl, _⟩ := h; rfl
  · obtain ⟨m, most, xs, F, rfl, hg, hm, hF, hi, q⟩ := h
    walk_at "dd"
    refine ⟨m, xs, _, rfl, hg, by omega, by omega, ?_⟩
    refine ⟨m, most, xs, F, rfl, hg, hm, hF, fun x dx r Γ' hs sub => ?_⟩
    walk_at "dd"
    rw [hs.ob]
    walk_at "dd"
    refine ⟨x, dx, r, xs, F, rfl, hs, ?_⟩
    walk_at "dd"
    by_cases hgo : F.good = xs.length
    · rw [if_pos hgo] at q
      rw [if_neg (by simpa using hgo)]
      rw [hs.ob]
      walk_at "dd"
      have l1 := hg.l1
      have l5 := hg.l5
      have hl := hi.looks
      refine ⟨div_ok (n := 10) (by omega) (by omega) (by decide), Γ, sub, ?_⟩
      have e : (F.looks : Int) - (xs.length : Int) = (F.last : Int) := by omega
      rw [e]
      exact q
    · rw [if_neg hgo] at q
      rw [if_pos (by simpa using hgo)]
      exact ⟨Γ, sub, q⟩
end

end Z
set_option Elab.async false
set_option linter.all false
set_option maxRecDepth 100000
set_option maxHeartbeats 4000000
set_option exponentiation.threshold 20000
namespace Z
open PySem PySem.Spec PyProof.Rows L2 Y
local macro_rules | `(tactic| walk_at "dd") => `(tactic| simp only [seqOf_dF, seqOf_dS, seqOf_dM, seqOf_dP, tyD_dF, tyD_dM, tyD_dS, tyD_dP, resD_dF, dVar, dC, dOp, dAdd_ii, dAdd_tt, dAdd_ll, d2I_ii, d2I0_ii, dMul_ii, dMul_ti, dNeg, dEq_ii, dEq_ss, dEq_bb, dNe_ii, dNe_ss, dNe_bb, dIs, dIsNot, isNon_non, isNon_int, isNon_bl, isNon_tup, isNon_lst, dTB, dChain, dAndT, dOrT, dNotT, dAndV, dOrV, dNotV, dIf, dNil, dCons, dTup', dLst', dLstO', dIx, dNoP, dPart, sliceD, dSl, dCB, dLen, dAbs, dInt, dMax2, dTupOf, dListOf, dListOfO, dAll, dAny, dIsi, dNext, dSeq, dPass, dNever, dDrop, dRet, dRetF, dRetN, dIfS, dgName, dgNil, dgCons, dgTup, dgSub, dSetItem, dSet, dAsg, dPar, dPar3, dAug, dISeq, dIEnum, dIEnumK, dIZip, dIRange1, dIRange2, dFor, dLc, dLcO, dLm, rAppD, rExtD, rPopD, dCall, dFld, dFldSet, dFldAdd, dMeth, dMake, Y.putAt, Nat.lt_irrefl, List.cons_append, dDictT, dDictO, dGet2, asKey, dYes, startD, endD, wipeD, seqOf_gup, lstOf_gup, gup_same, gup_gup, ixN_50, ixN_51, ixN_52, ixN_53, ixN_54, List.length_map, srcOf_tup, srcOf_lst, srcOf_scr, srcOf_ptr, blsOf_map, all_map, seqOf_tup, seqOf_lst, seqOf_scr, lstOf_lst, lstOf_scr, lstOf'_lst, tyD_tup, tyD_lst, tyD_int, tyD_bl, tyD_str, tyD_non, isT, atI_0, atI_1, atI_2, atI_3, atI_4, List.getElem?_cons_zero, List.getElem?_cons_succ, List.set_cons_zero, List.set_cons_succ, List.map_cons, List.map_nil, List.length_cons, List.length_nil, List.nil_append, reduceCtorEq, if_true, if_false, Bool.false_eq_true, ne_eq, not_false_eq_true, not_true_eq_false, true_and, and_true, forall_const, implies_true, Bool.not_true, Bool.not_false, Nat.reduceAdd, Nat.reduceLT, Nat.reduceLeDiff, Nat.zero_le, Nat.le_refl, Nat.lt_irrefl, Nat.reduceLeDiff, Int.reduceNeg])


section
variable {P : Program} {w : World} {K : PySem.W.Frag} {mg : Str → Option Value} {base : Heap} {cSlips : Addr}
def sp_law_slips : DSp := fun ds Γ Q _ => ∃ (m most : Nat) (xs : List Mk') (F : SS), ds = [dMs xs, .int (most : Int)] ∧ GM m xs ∧ most ≤ 100 ∧ Run xs most (startS m) F ∧
  Q (.tup [.bl (decide (F.good = xs.length)), dS F.s, dNs F.row, .int (F.last : Int)]) Γ
theorem d_law_slips (T : Txt K mg cSlips) : Def P w K mg base 5 "_law_slips" sp_law_slips := by
  refine Def.mk' T.at_law_slips sc_law_slips (fun ds Γ Q E h => ?_) fun f cdv A outer s H E ds Γ Qd Ed hr h => ⟨_, 
    (ys_cons (ys_asg (ye_tup (ya_cons (ye_tup (ya_cons (ye_tup ya_nil) (ya_cons (ye_tup (ya_cons ye_int (ya_cons ye_int ya_nil))) ya_nil))) (ya_cons (ye_lstO ya_nil) (ya_cons ye_int (ya_cons ye_int (ya_cons ye_int ya_nil)))))) (yg_tup (n := 5) rfl (ygs_cons (yg_name (i := 2) sc_law_slips.nd) (ygs_cons (yg_name (i := 3) sc_law_slips.nd) (ygs_cons (yg_name (i := 4) sc_law_slips.nd) (ygs_cons (yg_name (i := 5) sc_law_slips.nd) (ygs_cons (yg_name (i := 6) sc_law_slips.nd) ygs_nil)))))))
    (ys_cons (ys_while PassesOwn.never (yt_lt (yv 5) (ye_callB call_len cd_len (by rfl) T.m_len (by decide +kernel) (ya_cons (yv 0) ya_nil)))
    (ys_cons (ys_set (i := 7) sc_law_slips.nd (ye_mod (ye_callTy call_int1 cd_int (by rfl) T.m_int (by decide +kernel) (ya_cons (yv 4) ya_nil)) (ye_callB call_len cd_len (by rfl) T.m_len (by decide +kernel) (ya_cons (yv 0) ya_nil))))
    (ys_cons (ys_set (i := 4) sc_law_slips.nd (ye_add (yv 4) ye_int))
    (ys_one (ys_if (yt_val (ye_call (d_law_right T) hr (ya_cons (yv 2) (ya_cons (ye_ix (yv 0) (yv 7)) ya_nil))))
    (ys_one (ys_set (i := 5) sc_law_slips.nd (ye_add (yv 5) ye_int)))
    (ys_one (ys_if (yt_eq hr (ye_callB call_len cd_len (by rfl) T.m_len (by decide +kernel) (ya_cons (yv 3) ya_nil)) (yv 1))
    (ys_one (ys_ret (ye_tup (ya_cons ye_bl (ya_cons (yv 2) (ya_cons (ye_callTy call_tuple_F cd_tupOf (by rfl) T.m_tuple (by decide +kernel) (ya_cons (yv 3) ya_nil)) (ya_cons (yv 6) ya_nil)))))))
    (ys_cons (ys_par3 (i := 2) (j := 5) (l := 6) rfl sc_law_slips.nd (ya_cons (ye_call (d_law_slipped T) hr (ya_cons (yv 2) (ya_cons (ye_ix (yv 0) (yv 7)) ya_nil))) (ya_cons ye_int (ya_cons (yv 4) ya_nil))))
    (ys_one (ys_expr (ye_append (yv 3) (ya_cons (yv 7) ya_nil))))))))))))
    (ys_one (ys_ret (ye_tup (ya_cons ye_bl (ya_cons (yv 2) (ya_cons (ye_callTy call_tuple_F cd_tupOf (by rfl) T.m_tuple (by decide +kernel) (ya_cons (yv 3) ya_nil)) (ya_cons (yv 6) ya_nil))))))))), ?_⟩
  · obtain ⟨m, most, xs, F, rfl, _⟩ := h; rfl
  · obtain ⟨m, most, xs, F, rfl, hg, hm, hF, q⟩ := h
    walk_at "dd"
    intro p hp
    simp only [dWhile]
    refine ⟨fun n ρ Γ' => ∃ st o, ρ = [some (dMs xs), some (.int (most : Int)), some (dS st.s), some (.raw (.ref p)), some (.int (st.looks : Int)), some (.int (st.good : Int)), some (.int (st.last : Int)), o] ∧ Γ' = gup Γ p (.lst (dIs' st.row)) ∧ SInv m xs most st ∧ Run xs most st F ∧ n = msS xs most st, ⟨_, startS m, none, by rw [dS_start]; rfl, rfl, inv_start, hF, rfl⟩, ?_⟩
    rintro n ρ Γ' ⟨st, o, rfl, rfl, hi, hR, rfl⟩
    walk_at "dd"
    have l1 := hg.l1
    have hL : (0 : Int) < (xs.length : Int) := by omega
    have hgood := hi.good
    have hle : (dIs' st.row).length < sizeLine := linel (by have := bits_ok hi hm; unfold dIs'; rw [List.length_map]; omega)
    by_cases hgo : st.good = xs.length
    · rw [decide_eq_false (by omega)]
      walk_at "dd"
      have e := hR.at_stop (.inl hgo)
      subst e
      rw [decide_eq_true hgo] at q
      exact ⟨Γ, Sub.new hp, q⟩
    · rw [decide_eq_true (by omega)]
      walk_at "dd"
      refine ⟨hL, ?_⟩
      rw [show (st.looks : Int) % (xs.length : Int) = ((st.looks % xs.length : Nat) : Int) from (Int.natCast_emod _ _).symm, m_of hg st]
      walk_at "dd"
      refine ⟨st.s, atM xs st, _, m, rfl, hi.sok, hg.ok _ (atM_mem hg st).2.1, bits_ok hi hm, hg.m3, ?_⟩
      have hR' := hR
      cases hb : rightB st.s (atM xs st) with
      | true =>
        have hst := notstop_over (xs := xs) (most := most) (st := st) hgo (.inl hb)
        have hN := hR.next hst
        have hI := inv_step hg hi hst
        have hM := ms_step hi hst
        have es : stepS xs st = ⟨st.s, st.looks + 1, st.good + 1, st.row, st.last⟩ := by unfold stepS; rw [if_pos (show okB xs st = true from hb)]
        walk_at "dd"
        exact ⟨_, hM, stepS xs st, _, by rw [es]; rfl, by rw [es], hI, hN, rfl⟩
      | false =>
        walk_at "dd"
        have el : (dIs' st.row).length = st.row.length := by simp [dIs']
        rw [el] at hle ⊢
        by_cases hl : st.row.length = most
        · rw [decide_eq_true (by omega)]
          walk_at "dd"
          have e := hR.at_stop (.inr ⟨hb, hl⟩)
          subst e
          rw [decide_eq_false hgo] at q
          exact ⟨Γ, Sub.new hp, q⟩
        · rw [decide_eq_false (by omega)]
          have hst := notstop_over (xs := xs) (most := most) (st := st) hgo (.inr hl)
          have hN := hR.next hst
          have hI := inv_step hg hi hst
          have hM := ms_step hi hst
          have es : stepS xs st = ⟨slip st.s (atM xs st), st.looks + 1, 0, st.row ++ [st.looks % xs.length], st.looks + 1⟩ := by unfold stepS; rw [if_neg (by unfold okB; rw [hb]; exact Bool.false_ne_true)]
          walk_at "dd"
          refine ⟨st.s, atM xs st, _, m, rfl, hi.sok, hg.ok _ (atM_mem hg st).2.1, bits_ok hi hm, hg.m3, ?_⟩
          walk_at "dd"
          exact ⟨by rw [el]; exact hle, _, hM, stepS xs st, _, by rw [es]; rfl, by rw [es]; simp [dIs'], hI, hN, rfl⟩
/-- a row that is none -/
def badRow (L : Nat) (d : D) : Prop := isTu d = false ∨ ∃ es, d = .tup es ∧ es.all (fun e => isWi e 0 ((L : Int) - 1)) = false
def sp_is_slips : DSp := fun ds Γ Q _ => ∃ (m most : Nat) (xs : List Mk') (F : SS) (d : D), ds = [dMs xs, d] ∧ GM m xs ∧ most ≤ 100 ∧ Run xs most (startS m) F ∧ jd d ∧
  ((badRow xs.length d ∧ Q (.bl false) Γ) ∨ ∃ R : List Nat, d = dNs R ∧ (∀ i, i ∈ R → i < xs.length) ∧ R.length ≤ 1000 ∧ (R.length ≤ F.row.length ∨ F.good = xs.length) ∧ Q (.bl (decide (R <+: F.row))) Γ)
theorem d_is_slips (T : Txt K mg cSlips) : Def P w K mg base 8 "is_slips" sp_is_slips := by
  refine Def.mk' T.at_is_slips sc_is_slips (fun ds Γ Q E h => ?_) fun f cdv A outer s H E ds Γ Qd Ed hr h => ⟨_, 
    (ys_cons (ys_expr (ye_call (d_check_marked T) hr (ya_cons (yv 0) ya_nil)))
    (ys_cons (ys_if (PW.pt (yw_or (yt_not (yt_val (ye_isi (T := .tup) (by nofun) (by rfl) T.m_isinstance (by decide +kernel) (yv 1) (by rfl) T.m_tuple (by decide +kernel)))) (yw_or1 (yt_not (yt_val (ye_callB (cr_all rfl) cd_all (by rfl) T.m_all (by decide +kernel) (ya_cons (ye_lc rfl sc_is_slips.nd (yi_seq (yv 1)) (blkOk_by (N := ["marked", "row", "slips", "number"]) (sc := (defScope s_is_slips)) (own := [("number", 3)]) (by decide +kernel)) (fun _ _ _ _ _ => (yg_name (i := 3) sc_is_slips.nd)) (fun _ _ _ _ _ => pts_yes) (fun _ _ _ _ _ => (ye_call (d_is_within T) hr (ya_cons (yv 3) (ya_cons ye_int (ya_cons (ye_sub (ye_callB call_len cd_len (by rfl) T.m_len (by decide +kernel) (ya_cons (yv 0) ya_nil)) ye_int) ya_nil)))))) ya_nil)))))))
    (ys_one (ys_ret ye_bl))
    ys_nil)
    (ys_cons (ys_set (i := 2) sc_is_slips.nd (ye_make (ns := n_Slips) (m_Slips T) hr (ya_cons (yv 0) ya_nil)))
    (ys_cons (ys_while PassesOwn.never (PW.pt (yw_and (yt_not (yt_val (ye_meth0 T.k_Slips (d_Slips_is_over T) hr (yv 2)))) (yw_and1 (yt_lt (ye_callB call_len cd_len (by rfl) T.m_len (by decide +kernel) (ya_cons (ye_fld (j := 5) T.k_Slips (yv 2)) ya_nil)) (ye_callB call_len cd_len (by rfl) T.m_len (by decide +kernel) (ya_cons (yv 1) ya_nil))))))
    (ys_cons (ys_expr (ye_meth0 T.k_Slips (d_Slips_look T) hr (yv 2)))
    (ys_one (ys_if (yt_ne hr (ye_fld (j := 5) T.k_Slips (yv 2)) (ye_callTy call_list_of cd_listOf (by rfl) T.m_list (by decide +kernel) (ya_cons (ye_sl (yv 1) yo_none (yo_some (ye_callB call_len cd_len (by rfl) T.m_len (by decide +kernel) (ya_cons (ye_fld (j := 5) T.k_Slips (yv 2)) ya_nil)))) ya_nil)))
    (ys_one (ys_ret ye_bl))
    ys_nil))))
    (ys_one (ys_ret (ye_eq hr (ye_callB call_len cd_len (by rfl) T.m_len (by decide +kernel) (ya_cons (ye_fld (j := 5) T.k_Slips (yv 2)) ya_nil)) (ye_callB call_len cd_len (by rfl) T.m_len (by decide +kernel) (ya_cons (yv 1) ya_nil))))))))), ?_⟩
  · obtain ⟨m, most, xs, F, d, rfl, _⟩ := h; rfl
  · obtain ⟨m, most, xs, F, d, rfl, hg, hm, hF, hj, hq⟩ := h
    walk_at "dd"
    refine ⟨m, xs, rfl, hg, ?_⟩
    walk_at "dd"
    rw [tyD_jd hj]
    walk_at "dd"
    rcases hq with ⟨hbad, q⟩ | ⟨R, rfl, hR, hRl, hFR, q⟩
    · cases d with
      | tup es =>
        rcases hbad with h | ⟨es', e, hall⟩
        · simp [isTu] at h
        · cases e
          simp only [tyJ]
          walk_at "dd"
          refine ⟨lines (by have := hj.1; omega), lc_all (fun e => isWi e 0 ((xs.length : Int) - 1)) es (fun x R hx r => ?_) ?_⟩
          · walk_at "dd"
            exact ⟨_, _, _, rfl, jdL_mem hj.2 hx, r⟩
          · walk_at "dd"
            rw [hall]
            walk_at "dd"
            exact fin0 q
      | _ => first | exact hj.elim | exact fin0 q
    · simp only [tyJ]
      walk_at "dd"
      refine ⟨lines (by rw [dIs_len]; omega), lcRun_map (fun (n : Nat) => D.int (n : Int)) (fun _ => .bl true) R ?_ ?_⟩
      · intro i R1 R2 hi r
        have hil := hR i hi
        have l5 := hg.l5
        walk_at "dd"
        refine ⟨_, _, _, rfl, jd_nat (by omega), ?_⟩
        rw [show isWi (.int (i : Int)) 0 ((xs.length : Int) - 1) = true by simp [isWi]; omega]
        exact r
      · have e : (R.map fun _ => D.bl true) = (R.map fun _ => true).map D.bl := by rw [List.map_map]; rfl
        rw [e]
        walk_at "dd"
        rw [show (R.all fun _ => true) = true by simp]
        walk_at "dd"
        intro x dx hx
        refine ⟨x, dx, m, xs, rfl, gup_same, fun r Γ1 hr hs hk => ⟨rfl, ?_⟩⟩
        have hrx : r ≠ x := fun e => by rw [e, gup_same] at hr; cases hr
        have hrΓ : Γ r = none := by rw [gup_ne hrx] at hr; exact hr
        have sub1 : Y.Sub Γ Γ1 := fun a g e => hk a g (gne e hx) (by rw [gup_ne (gne e hx)]; exact e)
        simp only [dWhile]
        refine ⟨fun n ρ Γ' => ∃ st, ρ = [some (dMs xs), some (dNs R), some (.raw (.ref x)), none] ∧ SlAt cSlips Γ' x dx r xs st ∧ SInv m xs most st ∧ Run xs most st F ∧ n = msS xs most st ∧ Y.Sub Γ Γ' ∧ st.row <+: R, ⟨_, startS m, rfl, hs, inv_start, hF, rfl, sub1, List.nil_prefix⟩, ?_⟩
        rintro n ρ Γ' ⟨st, rfl, hs', hi, hRun, rfl, sub, hpre⟩
        walk_at "dd"
        rw [hs'.ob]
        walk_at "dd"
        refine ⟨x, dx, r, xs, st, rfl, hs', ?_⟩
        have hend : Γ' = Γ' := rfl
        by_cases hgo : st.good = xs.length
        · rw [decide_eq_true hgo]
          walk_at "dd"
          rw [hs'.ob]
          walk_at "dd"
          rw [seqOf_ptr hs'.row]
          walk_at "dd"
          rw [dIs_len, dIs_len]
          have e := hRun.at_stop (.inl hgo)
          subst e
          have e2 : decide (R <+: F.row) = decide ((F.row.length : Int) = (R.length : Int)) := by
            rw [decide_eq_decide]
            constructor
            · intro h
              have h1 := h.length_le
              have h2 := hpre.length_le
              omega
            · intro h
              rw [hpre.eq_of_length (by omega)]
              exact List.prefix_rfl
          rw [e2] at q
          exact ⟨Γ, sub, q⟩
        · rw [decide_eq_false hgo]
          walk_at "dd"
          rw [hs'.ob]
          walk_at "dd"
          rw [seqOf_ptr hs'.row]
          walk_at "dd"
          rw [dIs_len, dIs_len]
          by_cases hlt : st.row.length < R.length
          · rw [decide_eq_true (by omega)]
            walk_at "dd"
            have hst : ¬ stopS xs most st := fun h => by
              have e := hRun.at_stop h
              subst e
              rcases hFR with h1 | h1
              · omega
              · exact hgo h1
            refine ⟨x, dx, r, m, most, xs, st, rfl, hs', hg, hi, hm, fun Γ2 hs2 hk2 => ?_⟩
            have sub2 : Y.Sub Γ Γ2 := fun a g e => hk2 a g (gne e hx) (gne e hrΓ) (sub a g e)
            have hN := hRun.next hst
            obtain ⟨_, hsl⟩ := row_step xs st
            walk_at "dd"
            rw [hs2.ob]
            walk_at "dd"
            rw [seqOf_ptr hs2.row]
            walk_at "dd"
            rw [dIs_len, cutD_take]
            have er : resD Γ2 (.ptr r) = .lst (dIs' (stepS xs st).row) := resD_ptr hs2.row
            refine dNe_of (by rw [er]; exact pyOkL_ints _) (pyOkL_ints _) ?_
            rw [er, resD_lst]
            rw [show eqD (.lst (dIs' (stepS xs st).row)) (.lst (dIs' (List.take (stepS xs st).row.length R))) = decide ((stepS xs st).row = List.take (stepS xs st).row.length R) by simp only [eqD]; exact eqDL_ints _ _]
            by_cases hrow : (stepS xs st).row = R.take (stepS xs st).row.length
            · rw [decide_eq_true hrow]
              walk_at "dd"
              exact ⟨_, ms_step hi hst, _, hs2, inv_step hg hi hst, hN, rfl, sub2, List.prefix_iff_eq_take.mpr hrow⟩
            · rw [decide_eq_false hrow]
              walk_at "dd"
              have e2 : decide (R <+: F.row) = false := decide_eq_false fun h => hrow (List.prefix_iff_eq_take.mp (List.prefix_of_prefix_length_le hN.row h (by omega)))
              rw [e2] at q
              exact ⟨Γ, sub2, q⟩
          · rw [decide_eq_false (by omega)]
            walk_at "dd"
            have h2 := hpre.length_le
            have e := hpre.eq_of_length (by omega)
            have e2 : decide (R <+: F.row) = true := decide_eq_true (by rw [← e]; exact hRun.row)
            rw [e2] at q
            rw [decide_eq_true (by omega)]
            exact ⟨Γ, sub, q⟩
end

end Z
set_option Elab.async false
set_option linter.all false
set_option maxRecDepth 100000
set_option maxHeartbeats 4000000
set_option exponentiation.threshold 20000
namespace Z
open PySem PySem.Spec PyProof.Rows L2 Y
local macro_rules | `(tactic| walk_at "dd") => `(tactic| simp only [seqOf_dF, seqOf_dS, seqOf_dM, seqOf_dP, tyD_dF, tyD_dM, tyD_dS, tyD_dP, resD_dF, dVar, dC, dOp, dAdd_ii, dAdd_tt, dAdd_ll, d2I_ii, d2I0_ii, dMul_ii, dMul_ti, dNeg, dEq_ii, dEq_ss, dEq_bb, dNe_ii, dNe_ss, dNe_bb, dIs, dIsNot, isNon_non, isNon_int, isNon_bl, isNon_tup, isNon_lst, dTB, dChain, dAndT, dOrT, dNotT, dAndV, dOrV, dNotV, dIf, dNil, dCons, dTup', dLst', dLstO', dIx, dNoP, dPart, sliceD, dSl, dCB, dLen, dAbs, dInt, dMax2, dTupOf, dListOf, dListOfO, dAll, dAny, dIsi, dNext, dSeq, dPass, dNever, dDrop, dRet, dRetF, dRetN, dIfS, dgName, dgNil, dgCons, dgTup, dgSub, dSetItem, dSet, dAsg, dPar, dPar3, dAug, dISeq, dIEnum, dIEnumK, dIZip, dIRange1, dIRange2, dFor, dLc, dLcO, dLm, rAppD, rExtD, rPopD, dCall, dFld, dFldSet, dFldAdd, dMeth, dMake, Y.putAt, Nat.lt_irrefl, List.cons_append, dDictT, dDictO, dGet2, asKey, dYes, startD, endD, wipeD, seqOf_gup, lstOf_gup, gup_same, gup_gup, ixN_50, ixN_51, ixN_52, ixN_53, ixN_54, List.length_map, srcOf_tup, srcOf_lst, srcOf_scr, srcOf_ptr, blsOf_map, all_map, seqOf_tup, seqOf_lst, seqOf_scr, lstOf_lst, lstOf_scr, lstOf'_lst, tyD_tup, tyD_lst, tyD_int, tyD_bl, tyD_str, tyD_non, isT, atI_0, atI_1, atI_2, atI_3, atI_4, List.getElem?_cons_zero, List.getElem?_cons_succ, List.set_cons_zero, List.set_cons_succ, List.map_cons, List.map_nil, List.length_cons, List.length_nil, List.nil_append, reduceCtorEq, if_true, if_false, Bool.false_eq_true, ne_eq, not_false_eq_true, not_true_eq_false, true_and, and_true, forall_const, implies_true, Bool.not_true, Bool.not_false, Nat.reduceAdd, Nat.reduceLT, Nat.reduceLeDiff, Nat.zero_le, Nat.le_refl, Nat.lt_irrefl, Nat.reduceLeDiff, Int.reduceNeg])


theorem dNe_self {Γ : Gs} {Q : D → Gs → Prop} {x : D} (hr : resD Γ x = x) (hx : pyOk 60 x = true) (q : Q (.bl false) Γ) : dNe x x Γ Q := by
  refine dNe_of (by rw [hr]; exact hx) (by rw [hr]; exact hx) ?_
  rw [hr, eqD_refl 60 x hx]; exact q
theorem pyOk_dS {n : Nat} {s : Sm'} : pyOk (n + 4) (dS s) = true := by
  simp only [dS, pyOk, pyOkL, Bool.and_true, Bool.and_eq_true]
  refine ⟨pyOkL_all fun x hx => ?_, by simp [dF, pyOk, pyOkL]⟩
  obtain ⟨p, _, rfl⟩ := List.mem_map.mp hx
  simp [dP, dF, pyOk, pyOkL]
theorem pyOk_dNs {n : Nat} (a : List Nat) : pyOk (n + 1) (dNs a) = true := by
  simp only [pyOk]; exact pyOkL_ints a
/-- what is no beginning of the slips -/
def Odd (xs : List Mk') (F : SS) (d : D) : Prop := jd d ∧ (badRow xs.length d ∨ ∃ R : List Nat, d = dNs R ∧ (∀ i, i ∈ R → i < xs.length) ∧ R.length ≤ 1000 ∧ (R.length ≤ F.row.length ∨ F.good = xs.length) ∧ ¬ R <+: F.row)
theorem jdL_app : ∀ {a b : List D}, jdL a → jdL b → jdL (a ++ b)
  | [], _, _, h => h
  | _ :: _, _, h, k => ⟨h.1, jdL_app h.2 k⟩
theorem jdL_row {xs : List Mk'} {m : Nat} (hg : GM m xs) {R : List Nat} (hR : ∀ i, i ∈ R → i < xs.length) : jdL (dIs' R) := jdL_of fun d hd => by
  obtain ⟨i, hi, rfl⟩ := List.mem_map.mp hd
  have := hR i hi
  have := hg.l5
  exact jd_nat (by omega)
theorem odd_start {xs : List Mk'} {m c : Nat} {F : SS} (hg : GM m xs) (hent : ∀ i, i ∈ F.row → i < xs.length) (hl : F.row.length ≤ 100) (hcl : (F.row.take c).length ≤ F.row.length) :
    ∀ x, x ∈ [D.non, .lst (dIs' F.row), .tup (dIs' F.row ++ [.int (xs.length : Int)]), .tup (dIs' F.row ++ [.int (-1)]), .tup (dIs' (F.row.take c) ++ [.bl false]), .int 0] → Odd xs F x := by
  have l5 := hg.l5
  have hj := jdL_row hg hent
  have hcut : ∀ i, i ∈ F.row.take c → i < xs.length := fun i hi => hent i (List.mem_of_mem_take hi)
  have hjc := jdL_row hg hcut
  intro x hx
  simp only [List.mem_cons, List.not_mem_nil, or_false] at hx
  rcases hx with rfl | rfl | rfl | rfl | rfl | rfl
  · exact ⟨trivial, .inl (.inl rfl)⟩
  · exact ⟨⟨by rw [dIs_len]; omega, hj⟩, .inl (.inl rfl)⟩
  · exact ⟨⟨by rw [List.length_append, dIs_len, List.length_singleton]; omega, jdL_app hj ⟨jd_nat (by omega), trivial⟩⟩, .inl (.inr ⟨_, rfl, by rw [List.all_append]; simp [isWi]; intro _; omega⟩)⟩
  · exact ⟨⟨by rw [List.length_append, dIs_len, List.length_singleton]; omega, jdL_app hj ⟨jd_int (n := 20) (by decide) (by decide), trivial⟩⟩, .inl (.inr ⟨_, rfl, by rw [List.all_append]; simp [isWi]⟩)⟩
  · exact ⟨⟨by rw [List.length_append, dIs_len, List.length_singleton]; omega, jdL_app hjc ⟨trivial, trivial⟩⟩, .inl (.inr ⟨_, rfl, by rw [List.all_append]; simp [isWi]⟩)⟩
  · exact ⟨jd_nat (i := 0) (by omega), .inl (.inl rfl)⟩
theorem odd_longer {xs : List Mk'} {m : Nat} {F : SS} (hg : GM m xs) (hent : ∀ i, i ∈ F.row → i < xs.length) (hl : F.row.length ≤ 100) (hgo : F.good = xs.length) : Odd xs F (.tup (dIs' F.row ++ [.int 0])) := by
  have l1 := hg.l1
  have hR : ∀ i, i ∈ F.row ++ [0] → i < xs.length := fun i hi => by
    rcases List.mem_append.mp hi with hi | hi
    · exact hent i hi
    · rw [List.mem_singleton.mp hi]; omega
  have e : D.tup (dIs' F.row ++ [.int 0]) = dNs (F.row ++ [0]) := by simp [dIs']
  rw [e]
  refine ⟨⟨by rw [dIs_len, List.length_append, List.length_singleton]; omega, jdL_row hg hR⟩, .inr ⟨_, rfl, hR, by rw [List.length_append, List.length_singleton]; omega, .inr hgo, fun h => ?_⟩⟩
  have := h.length_le
  rw [List.length_append, List.length_singleton] at this
  omega
theorem odd_turned {xs : List Mk'} {m a : Nat} {F : SS} (hg : GM m xs) (hent : ∀ i, i ∈ F.row → i < xs.length) (hl : F.row.length ≤ 100) (ha : a < F.row.length) (hL : 1 < xs.length) :
    Odd xs F (.tup (dIs' (F.row.take a) ++ [.int ((((F.row[a] + 1) % xs.length : Nat)) : Int)] ++ dIs' (F.row.drop (a + 1)))) := by
  have hR : ∀ i, i ∈ F.row.take a ++ [(F.row[a] + 1) % xs.length] ++ F.row.drop (a + 1) → i < xs.length := fun i hi => by
    rcases List.mem_append.mp hi with hi | hi
    · rcases List.mem_append.mp hi with hi | hi
      · exact hent i (List.mem_of_mem_take hi)
      · rw [List.mem_singleton.mp hi]; exact Nat.mod_lt _ (by omega)
    · exact hent i (List.mem_of_mem_drop hi)
  have e : D.tup (dIs' (F.row.take a) ++ [.int ((((F.row[a] + 1) % xs.length : Nat)) : Int)] ++ dIs' (F.row.drop (a + 1))) = dNs (F.row.take a ++ [(F.row[a] + 1) % xs.length] ++ F.row.drop (a + 1)) := by simp [dIs']
  have hlen : (F.row.take a ++ [(F.row[a] + 1) % xs.length] ++ F.row.drop (a + 1)).length = F.row.length := by
    simp only [List.length_append, List.length_singleton, List.length_take, List.length_drop]; omega
  rw [e]
  refine ⟨⟨by rw [dIs_len, hlen]; omega, jdL_row hg hR⟩, .inr ⟨_, rfl, hR, by rw [hlen]; omega, .inl (by rw [hlen]; omega), fun h => ?_⟩⟩
  have e1 := h.eq_of_length hlen
  have e2 : (F.row.take a ++ [(F.row[a] + 1) % xs.length] ++ F.row.drop (a + 1))[a]? = F.row[a]? := by rw [e1]
  rw [List.append_assoc, List.getElem?_append_right (by rw [List.length_take]; omega), List.length_take, show a - min a F.row.length = 0 by omega, List.getElem?_eq_getElem ha] at e2
  have e3 : (F.row[a] + 1) % xs.length = F.row[a] := by simpa using e2
  have h1 := hent F.row[a] (List.getElem_mem ha)
  by_cases h2 : F.row[a] + 1 = xs.length
  · rw [h2, Nat.mod_self] at e3; omega
  · rw [Nat.mod_eq_of_lt (by omega)] at e3; omega
theorem tail_ok {Γ : Gs} {h p : Addr} {m most : Nat} {xs : List Mk'} {F : SS} {os : List D} {Q : D → Gs → Prop} (hg : GM m xs) (hm : most ≤ 100) (hR : Run xs most (startS m) F) (hh : Hand Γ h) (hp : Γ p = some (.lst os)) (hne : p ≠ h)
    (ho : os ≠ []) (hl : os.length ≤ 100) (hx : ∀ x, x ∈ os → Odd xs F x) (q : ∀ Γ', Hand Γ' h → Q (.bl false) Γ') :
    sp_any [.raw (.ref h), .raw (.ref p)] Γ (fun x Γ1 => sp_is_slips [dMs xs, x] Γ1 Q E0d) E0d := by
  refine ⟨h, .raw (.ref p), os, rfl, hh, ho, by omega, fun Γ' hk => seqOf_ptr (hk _ _ hne hp), fun x Γ' hx' hh' _ => ?_⟩
  obtain ⟨hj, ho'⟩ := hx x hx'
  refine ⟨m, most, xs, F, x, rfl, hg, hm, hR, hj, ?_⟩
  rcases ho' with hb | ⟨R, e, h1, h2, h3, h4⟩
  · exact .inl ⟨hb, q _ hh'⟩
  · exact .inr ⟨R, e, h1, h2, h3, by rw [decide_eq_false h4]; exact q _ hh'⟩
def spLaw : DSp := fun ds Γ Q _ => ∃ ns : List Int, ds = [.scr (ns.map .int)] ∧ ns.length ≤ 63 ∧ ∀ Γ', Q (.bl true) Γ'
section
variable {P : Program} {w : World} {K : PySem.W.Frag} {mg : Str → Option Value} {base : Heap} {cSlips : Addr}
theorem d_law (T : Txt K mg cSlips) {f : Addr} {fd : FuncData} (F : Fun K "law" "law" s_law f fd) : FnOk P w K mg base CX0 10 f fd ["script"] (liftSp K spLaw) := by
  refine fnOk_mk F sc_law (fun ds Γ Q E h => ?_) fun f cdv A outer s H E ds Γ Qd Ed hr h => ⟨_, 
    (ys_cons (ys_set (i := 1) sc_law.nd (ye_call (d_law_hand T) hr (ya_cons (yv 0) ya_nil)))
    (ys_cons (ys_for PassesOwn.never rfl (yi_range1 (by rfl) T.m_range (ya_cons ye_int ya_nil)) (yg_name (i := 2) sc_law.nd)
    (ys_cons (ys_set (i := 3) sc_law.nd (ye_add ye_int (ye_call (d_law_draw T) hr (ya_cons (yv 1) (ya_cons ye_int ya_nil)))))
    (ys_cons (ys_asg (ye_tup (ya_cons (ye_call (d_law_marked T) hr (ya_cons (yv 1) (ya_cons (yv 3) ya_nil))) (ya_cons (ye_call (d_law_drawn_sum T) hr (ya_cons (yv 1) (ya_cons (yv 3) ya_nil))) ya_nil))) (yg_tup (n := 2) rfl (ygs_cons (yg_name (i := 4) sc_law.nd) (ygs_cons (yg_name (i := 5) sc_law.nd) ygs_nil))))
    (ys_cons (ys_if (yt_isnot (ye_call (d_are_marked T) hr (ya_cons (yv 4) ya_nil)) ye_bl)
    (ys_one (ys_ret ye_bl))
    ys_nil)
    (ys_cons (ys_setLc (i := 6) rfl sc_law.nd (yi_enum (by rfl) T.m_enumerate (ya_cons (yv 4) ya_nil)) (blkOk_by (N := ["script", "hand", "turn", "m", "marked", "one", "wrong", "number", "most", "is_over", "told", "row", "last", "due", "cut", "odd", "at", "its"]) (sc := (defScope s_law)) (own := [("at", 16), ("its", 17)]) (by decide +kernel)) (fun _ _ _ _ _ => (yg_tup (n := 2) rfl (ygs_cons (yg_name (i := 16) sc_law.nd) (ygs_cons (yg_name (i := 17) sc_law.nd) ygs_nil)))) (fun _ _ _ _ _ => (yts_one (yt_not (yt_val (ye_call (d_law_right T) hr (ya_cons (yv 5) (ya_cons (yv 17) ya_nil))))))) (fun _ _ _ _ _ => (yv 16)))
    (ys_cons (ys_set (i := 7) sc_law.nd (ye_call (d_law_draw T) hr (ya_cons (yv 1) (ya_cons (ye_callB call_len cd_len (by rfl) T.m_len (by decide +kernel) (ya_cons (yv 4) ya_nil)) ya_nil))))
    (ys_cons (ys_if (PW.pt (yw_or (yt_ne hr (ye_call (d_wrong_ones T) hr (ya_cons (yv 4) (ya_cons (yv 5) ya_nil))) (ye_callTy call_tuple_F cd_tupOf (by rfl) T.m_tuple (by decide +kernel) (ya_cons (yv 6) ya_nil))) (yw_or1 (yt_ne hr (ye_call (d_slipped T) hr (ya_cons (yv 4) (ya_cons (yv 5) (ya_cons (yv 7) ya_nil)))) (ye_call (d_law_slipped T) hr (ya_cons (yv 5) (ya_cons (ye_ix (yv 4) (yv 7)) ya_nil)))))))
    (ys_one (ys_ret ye_bl))
    ys_nil)
    (ys_cons (ys_set (i := 8) sc_law.nd (ye_call (d_law_draw T) hr (ya_cons (yv 1) (ya_cons ye_int ya_nil))))
    (ys_cons (ys_asg (ye_call (d_law_slips T) hr (ya_cons (yv 4) (ya_cons (yv 8) ya_nil))) (yg_tup (n := 4) rfl (ygs_cons (yg_name (i := 9) sc_law.nd) (ygs_cons (yg_name (i := 10) sc_law.nd) (ygs_cons (yg_name (i := 11) sc_law.nd) (ygs_cons (yg_name (i := 12) sc_law.nd) ygs_nil))))))
    (ys_cons (ys_if (yt_ne hr (ye_call (d_slips_told T) hr (ya_cons (yv 4) (ya_cons (yv 8) ya_nil))) (ye_tup (ya_cons (ye_if (yt_val (yv 9)) ye_str ye_str) (ya_cons (yv 10) (ya_cons (yv 11) ya_nil)))))
    (ys_one (ys_ret ye_bl))
    ys_nil)
    (ys_cons (ys_set (i := 13) sc_law.nd (ye_if (yt_val (yv 9)) (ye_add (ye_div (ye_sub (ye_add (yv 12) (ye_callB call_len cd_len (by rfl) T.m_len (by decide +kernel) (ya_cons (yv 4) ya_nil))) ye_int) (ye_callB call_len cd_len (by rfl) T.m_len (by decide +kernel) (ya_cons (yv 4) ya_nil))) ye_int) ye_non))
    (ys_cons (ys_if (yt_ne hr (ye_call (d_rounds_of T) hr (ya_cons (yv 4) (ya_cons (yv 8) ya_nil))) (yv 13))
    (ys_one (ys_ret ye_bl))
    ys_nil)
    (ys_cons (ys_set (i := 14) sc_law.nd (ye_sl (yv 11) yo_none (yo_some (ye_call (d_law_draw T) hr (ya_cons (yv 1) (ya_cons (ye_add (ye_callB call_len cd_len (by rfl) T.m_len (by decide +kernel) (ya_cons (yv 11) ya_nil)) ye_int) ya_nil))))))
    (ys_cons (ys_if (PW.pt (yw_or (yt_isnot (ye_call (d_is_slips T) hr (ya_cons (yv 4) (ya_cons (yv 11) ya_nil))) ye_bl) (yw_or1 (yt_isnot (ye_call (d_is_slips T) hr (ya_cons (yv 4) (ya_cons (yv 14) ya_nil))) ye_bl))))
    (ys_one (ys_ret ye_bl))
    ys_nil)
    (ys_cons (ys_set (i := 15) sc_law.nd (ye_lstO (ya_cons ye_non (ya_cons (ye_callTy call_list_of cd_listOf (by rfl) T.m_list (by decide +kernel) (ya_cons (yv 11) ya_nil)) (ya_cons (ye_add (yv 11) (ye_tup (ya_cons (ye_callB call_len cd_len (by rfl) T.m_len (by decide +kernel) (ya_cons (yv 4) ya_nil)) ya_nil))) (ya_cons (ye_add (yv 11) (ye_tup (ya_cons (ye_neg ye_int) ya_nil))) (ya_cons (ye_add (yv 14) (ye_tup (ya_cons ye_bl ya_nil))) (ya_cons ye_int ya_nil))))))))
    (ys_cons (ys_if (yt_ne hr (yv 11) (ye_tup ya_nil))
    (ys_cons (ys_set (i := 16) sc_law.nd (ye_call (d_law_draw T) hr (ya_cons (yv 1) (ya_cons (ye_callB call_len cd_len (by rfl) T.m_len (by decide +kernel) (ya_cons (yv 11) ya_nil)) ya_nil))))
    (ys_one (ys_if (yt_gt (ye_callB call_len cd_len (by rfl) T.m_len (by decide +kernel) (ya_cons (yv 4) ya_nil)) ye_int)
    (ys_one (ys_expr (ye_append (yv 15) (ya_cons (ye_add (ye_add (ye_sl (yv 11) yo_none (yo_some (yv 16))) (ye_tup (ya_cons (ye_mod (ye_callTy call_int1 cd_int (by rfl) T.m_int (by decide +kernel) (ya_cons (ye_add (ye_ix (yv 11) (yv 16)) ye_int) ya_nil)) (ye_callB call_len cd_len (by rfl) T.m_len (by decide +kernel) (ya_cons (yv 4) ya_nil))) ya_nil))) (ye_sl (yv 11) (yo_some (ye_add (yv 16) ye_int)) yo_none)) ya_nil))))
    ys_nil)))
    ys_nil)
    (ys_cons (ys_if (yt_val (yv 9))
    (ys_one (ys_expr (ye_append (yv 15) (ya_cons (ye_add (yv 11) (ye_tup (ya_cons ye_int ya_nil))) ya_nil))))
    ys_nil)
    (ys_one (ys_if (yt_isnot (ye_call (d_is_slips T) hr (ya_cons (yv 4) (ya_cons (ye_call (d_law_any T) hr (ya_cons (yv 1) (ya_cons (yv 15) ya_nil))) ya_nil))) ye_bl)
    (ys_one (ys_ret ye_bl))
    ys_nil)))))))))))))))))))
    (ys_one (ys_ret ye_bl)))), ?_⟩
  · obtain ⟨ns, rfl, _⟩ := h; rfl
  · obtain ⟨ns, rfl, hl, q⟩ := h
    walk_at "dd"
    refine ⟨ns, rfl, hl, fun h g hh hg => ?_⟩
    walk_at "dd"
    rw [show (Int.toNat 5) = 5 from rfl, rangeD_map]
    refine ⟨by decide, forRun_ind (fun i : Nat => D.int (0 + (i : Int))) (fun r ρ Γ' => ∃ o2 o3 o4 o5 o6 o7 o8 o9 o10 o11 o12 o13 o14 o15 o16, ρ = [some (.scr (ns.map .int)), some (.raw (.ref h)), o2, o3, o4, o5, o6, o7, o8, o9, o10, o11, o12, o13, o14, o15, o16, none] ∧ Hand Γ' h) _ ?_ ?_ ?_⟩
    · exact ⟨_, _, _, _, _, _, _, _, _, _, _, _, _, _, _, rfl, by unfold Hand; rw [gup_same]; exact hg⟩
    · rintro i r ρ Γ0 R ⟨o2, o3, o4, o5, o6, o7, o8, o9, o10, o11, o12, o13, o14, o15, o16, rfl, hh0⟩ next
      simp only [dgName, List.set_cons_succ, List.set_cons_zero]
      refine dSeq_cut fun Z hZ _ => ?_
      walk_at "dd"
      refine ⟨h, 3, rfl, by decide, by decide, hh0, fun v Γ1 v0 v1 hh1 _ => ?_⟩
      walk_at "dd"
      obtain ⟨m, hmv⟩ : ∃ m : Nat, 1 + v = (m : Int) := ⟨(1 + v).toNat, by omega⟩
      rw [hmv]
      refine hZ _ _ ?_
      refine dSeq_cut fun Z hZ _ => ?_
      walk_at "dd"
      refine ⟨h, m, rfl, by omega, hh1, fun xs Γ2 l1 l5 hx hh2 _ => ?_⟩
      have hg : GM m xs := ⟨by omega, by omega, l1, l5, hx⟩
      refine ⟨h, m, rfl, by omega, hh2, fun s Γ3 hs hh3 _ => hZ _ _ ?_⟩
      -- are_marked
      refine dSeq_cut fun Z hZ _ => ?_
      walk_at "dd"
      refine ⟨m, xs, rfl, hg, ?_⟩
      walk_at "dd"
      refine hZ _ _ ?_
      -- wrong
      refine dSeq_cut fun Z hZ _ => ?_
      walk_at "dd"
      rw [enumD_map]
      refine ⟨lines (by simp; omega), lcRun_filter (fun p : Mk' × Nat => D.tup [.int (0 + (p.2 : Nat)), dM p.1]) (fun p => .int (p.2 : Nat)) (fun p => !rightB s p.1) xs.zipIdx ?_ ?_⟩
      · rintro ⟨x, i⟩ R' R'' hm ht hf
        have hx' : x ∈ xs := (List.mem_zipIdx' hm).2 ▸ List.getElem_mem _
        walk_at "dd"
        refine ⟨s, x, 4, m, rfl, hs, hg.ok x hx', by decide, hg.m3, ?_⟩
        rw [Int.zero_add]
        cases hb : rightB s x with
        | true => exact hf (by simp [hb])
        | false => exact ht (by simp [hb])
      refine hZ _ _ ?_
      rw [show ((xs.zipIdx.filter fun p => !rightB s p.1).map fun p => D.int ((p.2 : Nat) : Int)) = dIs' (wrongL xs s) by unfold dIs' wrongL; rw [List.map_map]; rfl]
      -- number
      refine dSeq_cut fun Z hZ _ => ?_
      walk_at "dd"
      refine ⟨h, (xs.length : Int), rfl, by omega, by omega, hh3, fun u Γ4 u0 u1 hh4 _ => hZ _ _ ?_⟩
      obtain ⟨k, hk⟩ : ∃ k : Nat, u = (k : Int) := ⟨u.toNat, by omega⟩
      subst hk
      have hkl : k < xs.length := by omega
      -- wrong_ones, slipped
      refine dSeq_cut fun Z hZ _ => ?_
      walk_at "dd"
      refine ⟨m, xs, s, 4, rfl, hg, hs, by decide, ?_⟩
      refine dNe_self resD_tup (pyOk_dNs _) ?_
      walk_at "dd"
      refine ⟨m, xs, s, 4, k, xs[k], rfl, hg, hs, by decide, List.getElem?_eq_getElem hkl, ?_⟩
      walk_at "dd"
      rw [atI_at (x := dM xs[k]) rfl (by rw [List.getElem?_map, List.getElem?_eq_getElem hkl]; rfl)]
      refine ⟨s, xs[k], 4, m, rfl, hs, hg.ok _ (List.getElem_mem hkl), by decide, hg.m3, ?_⟩
      refine dNe_self rfl pyOk_dS ?_
      walk_at "dd"
      refine hZ _ _ ?_
      clear hZ
      -- most
      refine dSeq_cut fun Z hZ _ => ?_
      walk_at "dd"
      refine ⟨h, 60, rfl, by decide, by decide, hh4, fun u Γ5 u0 u1 hh5 _ => hZ _ _ ?_⟩
      clear hZ
      obtain ⟨most, hk⟩ : ∃ k : Nat, u = (k : Int) := ⟨u.toNat, by omega⟩
      subst hk
      have hmost : most ≤ 100 := by omega
      obtain ⟨F, hF, hI⟩ := run_ex (most := most) hg _ (startS m) (Nat.le_refl _) inv_start
      have hFr : F.row.length ≤ 100 := by have := hI.row; omega
      -- slips
      refine dSeq_cut fun Z hZ _ => ?_
      walk_at "dd"
      refine ⟨m, most, xs, F, rfl, hg, hmost, hF, ?_⟩
      walk_at "dd"
      refine hZ _ _ ?_
      clear hZ
      -- slips_told
      refine dSeq_cut fun Z hZ _ => ?_
      walk_at "dd"
      refine ⟨m, most, xs, F, rfl, hg, hmost, hF, ?_⟩
      have okT : ∀ x : Str, PyData.strOk x = true → pyOk 60 (.tup [.str x, dS F.s, dNs F.row]) = true := fun x hx => by
        simp only [pyOk, pyOkL, Bool.and_true, Bool.and_eq_true]
        exact ⟨hx, pyOk_dS (n := 55), pyOkL_ints _⟩
      suffices hn : Z.nx [some (.scr (ns.map .int)), some (.raw (.ref h)), some (.int (0 + (i : Int))), some (.int (m : Int)), some (dMs xs), some (dS s), some (.lst (dIs' (wrongL xs s))), some (.int (k : Int)), some (.int (most : Int)), some (.bl (decide (F.good = xs.length))), some (dS F.s), some (dNs F.row), some (.int (F.last : Int)), o13, o14, o15, o16, none] Γ5 by
        by_cases hgo : F.good = xs.length
        · dsimp only
          rw [if_pos (decide_eq_true hgo), if_pos hgo]
          refine dNe_self rfl (okT _ (by decide +kernel)) ?_
          walk_at "dd"
          exact hn
        · dsimp only
          rw [if_neg (show ¬ decide (F.good = xs.length) = true by simpa using hgo), if_neg hgo]
          refine dNe_self rfl (okT _ (by decide +kernel)) ?_
          walk_at "dd"
          exact hn
      refine hZ _ _ ?_
      clear hZ
      -- due
      refine dSeq_cut fun Z hZ _ => ?_
      walk_at "dd"
      suffices hn : Z.nx [some (.scr (ns.map .int)), some (.raw (.ref h)), some (.int (0 + (i : Int))), some (.int (m : Int)), some (dMs xs), some (dS s), some (.lst (dIs' (wrongL xs s))), some (.int (k : Int)), some (.int (most : Int)), some (.bl (decide (F.good = xs.length))), some (dS F.s), some (dNs F.row), some (.int (F.last : Int)), some (if F.good = xs.length then .int (((F.last : Int) + (xs.length : Int) - 1) / (xs.length : Int) + 1) else .non), o14, o15, o16, none] Γ5 by
        by_cases hgo : F.good = xs.length
        · rw [if_pos (decide_eq_true hgo)]
          rw [if_pos hgo] at hn
          exact ⟨div_ok (n := 10) (by omega) (by omega) (by decide), hn⟩
        · rw [if_neg (show ¬ decide (F.good = xs.length) = true by simpa using hgo)]
          rw [if_neg hgo] at hn
          exact hn
      refine hZ _ _ ?_
      clear hZ
      -- rounds_of
      refine dSeq_cut fun Z hZ _ => ?_
      walk_at "dd"
      refine ⟨m, most, xs, F, rfl, hg, hmost, hF, hI, ?_⟩
      refine dNe_self (by split <;> rfl) (by split <;> simp [pyOk]) ?_
      walk_at "dd"
      refine hZ _ _ ?_
      clear hZ
      -- cut
      refine dSeq_cut fun Z hZ _ => ?_
      walk_at "dd"
      rw [dIs_len]
      refine ⟨h, _, rfl, by omega, by omega, hh5, fun u Γ6 u0 u1 hh6 _ => ?_⟩
      obtain ⟨c, hk⟩ : ∃ k : Nat, u = (k : Int) := ⟨u.toNat, by omega⟩
      subst hk
      walk_at "dd"
      rw [cutD_take]
      refine hZ _ _ ?_
      clear hZ
      -- is_slips
      have hent := hI.ent
      have jdN : ∀ R : List Nat, (∀ i, i ∈ R → i < xs.length) → R.length ≤ 1000 → jd (dNs R) := fun R hR hl => ⟨by rw [dIs_len]; omega, jdL_of fun d hd => by
        obtain ⟨i, hi, rfl⟩ := List.mem_map.mp hd
        have := hR i hi
        exact jd_nat (by omega)⟩
      refine dSeq_cut fun Z hZ _ => ?_
      walk_at "dd"
      refine ⟨m, most, xs, F, _, rfl, hg, hmost, hF, jdN _ hent (by omega), .inr ⟨F.row, rfl, hent, by omega, .inl (Nat.le_refl _), ?_⟩⟩
      rw [decide_eq_true (List.prefix_rfl)]
      walk_at "dd"
      have hcut : ∀ i, i ∈ F.row.take c → i < xs.length := fun i hi => hent i (List.mem_of_mem_take hi)
      have hcl : (F.row.take c).length ≤ F.row.length := by rw [List.length_take]; omega
      refine ⟨m, most, xs, F, _, rfl, hg, hmost, hF, jdN _ hcut (by omega), .inr ⟨F.row.take c, rfl, hcut, by omega, .inl hcl, ?_⟩⟩
      rw [decide_eq_true (List.take_prefix c F.row)]
      walk_at "dd"
      refine hZ _ _ ?_
      clear hZ
      -- odd
      refine dSeq_cut fun Z hZ _ => ?_
      walk_at "dd"
      rw [dIs_len, dIs_len]
      refine ⟨lines (by omega), lines (by omega), lines (by omega), fun p hp => hZ _ _ ?_⟩
      clear hZ
      have hne : p ≠ h := fun e => by
        obtain ⟨_, _, _, _, _, e2⟩ := hh6
        rw [e, e2] at hp; cases hp
      have hodd : ∀ x, x ∈ [D.non, .lst (dIs' F.row), .tup (dIs' F.row ++ [.int (xs.length : Int)]), .tup (dIs' F.row ++ [.int (-1)]), .tup (dIs' (F.row.take c) ++ [.bl false]), .int 0] → Odd xs F x :=
        odd_start hg hent (by omega) hcl
      refine dSeq_mk (fun ρ Γ' => ∃ os o16, ρ = [some (.scr (ns.map .int)), some (.raw (.ref h)), some (.int (0 + (i : Int))), some (.int (m : Int)), some (dMs xs), some (dS s), some (.lst (dIs' (wrongL xs s))), some (.int (k : Int)), some (.int (most : Int)), some (.bl (decide (F.good = xs.length))), some (dS F.s), some (dNs F.row), some (.int (F.last : Int)), some (if F.good = xs.length then .int (((F.last : Int) + (xs.length : Int) - 1) / (xs.length : Int) + 1) else .non), some (.tup (dIs' (F.row.take c))), some (.raw (.ref p)), o16, none] ∧ Hand Γ' h ∧ Γ' p = some (.lst os) ∧ os ≠ [] ∧ os.length ≤ 10 ∧ ∀ x, x ∈ os → Odd xs F x) (fun Z hZ _ _ _ => ?_) ?_
      · have hhp : Hand (gup Γ6 p (.lst [D.non, .lst (dIs' F.row), .tup (dIs' F.row ++ [.int (xs.length : Int)]), .tup (dIs' F.row ++ [.int (-1)]), .tup (dIs' (F.row.take c) ++ [.bl false]), .int 0])) h := by unfold Hand; rw [gup_ne hne.symm]; exact hh6
        walk_at "dd"
        refine dNe_of (by rw [resD_tup]; exact pyOk_dNs _) (by simp [resD, pyOk, pyOkL]) ?_
        by_cases hrow : F.row = []
        · rw [show eqD (resD (gup Γ6 p (.lst [D.non, .lst (dIs' F.row), .tup (dIs' F.row ++ [.int (xs.length : Int)]), .tup (dIs' F.row ++ [.int (-1)]), .tup (dIs' (F.row.take c) ++ [.bl false]), .int 0])) (dNs F.row)) (resD (gup Γ6 p (.lst [D.non, .lst (dIs' F.row), .tup (dIs' F.row ++ [.int (xs.length : Int)]), .tup (dIs' F.row ++ [.int (-1)]), .tup (dIs' (F.row.take c) ++ [.bl false]), .int 0])) (.tup [])) = true by rw [hrow]; rfl]
          walk_at "dd"
          exact hZ _ _ ⟨_, _, rfl, hhp, gup_same, by simp, by simp, hodd⟩
        · rw [show eqD (resD (gup Γ6 p (.lst [D.non, .lst (dIs' F.row), .tup (dIs' F.row ++ [.int (xs.length : Int)]), .tup (dIs' F.row ++ [.int (-1)]), .tup (dIs' (F.row.take c) ++ [.bl false]), .int 0])) (dNs F.row)) (resD (gup Γ6 p (.lst [D.non, .lst (dIs' F.row), .tup (dIs' F.row ++ [.int (xs.length : Int)]), .tup (dIs' F.row ++ [.int (-1)]), .tup (dIs' (F.row.take c) ++ [.bl false]), .int 0])) (.tup [])) = false by
            cases hF2 : F.row with
            | nil => exact absurd hF2 hrow
            | cons a b => rfl]
          have hlen : 0 < F.row.length := List.length_pos_iff.mpr hrow
          walk_at "dd"
          rw [dIs_len]
          refine ⟨h, _, rfl, by omega, by omega, hhp, fun u Γ7 u0 u1 hh7 hk7 => ?_⟩
          obtain ⟨a, hk⟩ : ∃ k : Nat, u = (k : Int) := ⟨u.toNat, by omega⟩
          subst hk
          have ha : a < F.row.length := by omega
          have hp7 := hk7 _ _ hne gup_same
          walk_at "dd"
          by_cases hL : (1 : Int) < (xs.length : Int)
          · rw [if_pos (decide_eq_true hL), hp7]
            walk_at "dd"
            rw [cutD_take, cutD_from, atI_at (x := D.int ((F.row[a] : Nat) : Int)) rfl (by unfold dIs'; rw [List.getElem?_map, List.getElem?_eq_getElem ha]; rfl)]
            walk_at "dd"
            rw [hp7]
            have l1 : (dIs' (F.row.take a)).length ≤ 100 := by rw [dIs_len, List.length_take]; omega
            have l2 : (dIs' (F.row.drop (a + 1))).length ≤ 100 := by rw [dIs_len, List.length_drop]; omega
            have eT : (((F.row[a] : Nat) : Int) + 1) % (xs.length : Int) = (((F.row[a] + 1) % xs.length : Nat) : Int) := (Int.natCast_emod (F.row[a] + 1) xs.length).symm
            rw [eT]
            refine ⟨by omega, lines (by omega), lines (by rw [List.length_append, List.length_singleton]; omega), linel (by simp), hZ _ _ ⟨_, _, rfl, by unfold Hand; rw [gup_ne hne.symm]; exact hh7, gup_same, by simp, by simp, fun x hx => ?_⟩⟩
            rcases List.mem_append.mp hx with hx | hx
            · exact hodd x hx
            · rw [List.mem_singleton.mp hx]
              exact odd_turned hg hent (by omega) ha (by omega)
          · rw [if_neg (fun z => hL (of_decide_eq_true z))]
            exact hZ _ _ ⟨_, _, rfl, hh7, hp7, by simp, by simp, hodd⟩
      · rintro ρ Γ7 ⟨os, o16, rfl, hh7, hp7, hos, hol, hodd'⟩
        refine dSeq_mk (fun ρ Γ' => ∃ os o16, ρ = [some (.scr (ns.map .int)), some (.raw (.ref h)), some (.int (0 + (i : Int))), some (.int (m : Int)), some (dMs xs), some (dS s), some (.lst (dIs' (wrongL xs s))), some (.int (k : Int)), some (.int (most : Int)), some (.bl (decide (F.good = xs.length))), some (dS F.s), some (dNs F.row), some (.int (F.last : Int)), some (if F.good = xs.length then .int (((F.last : Int) + (xs.length : Int) - 1) / (xs.length : Int) + 1) else .non), some (.tup (dIs' (F.row.take c))), some (.raw (.ref p)), o16, none] ∧ Hand Γ' h ∧ Γ' p = some (.lst os) ∧ os ≠ [] ∧ os.length ≤ 11 ∧ ∀ x, x ∈ os → Odd xs F x) (fun Z hZ _ _ _ => ?_) ?_
        · walk_at "dd"
          by_cases hgo : F.good = xs.length
          · rw [if_pos (decide_eq_true hgo), hp7]
            walk_at "dd"
            rw [dIs_len]
            refine ⟨lines (by omega), linel (by omega), hZ _ _ ⟨_, _, rfl, by unfold Hand; rw [gup_ne hne.symm]; exact hh7, gup_same, by simp, by rw [List.length_append, List.length_singleton]; omega, fun x hx => ?_⟩⟩
            rcases List.mem_append.mp hx with hx | hx
            · exact hodd' x hx
            · rw [List.mem_singleton.mp hx]
              exact odd_longer hg hent (by omega) hgo
          · rw [if_neg (show ¬ decide (F.good = xs.length) = true by simpa using hgo)]
            exact hZ _ _ ⟨os, o16, rfl, hh7, hp7, hos, by omega, hodd'⟩
        · rintro ρ Γ8 ⟨os, o16, rfl, hh8, hp8, hos, hol, hodd'⟩
          walk_at "dd"
          refine tail_ok hg hmost hF hh8 hp8 hne hos (by omega) hodd' fun Γ9 hh9 => ?_
          walk_at "dd"
          exact next _ _ ⟨_, _, _, _, _, _, _, _, _, _, _, _, _, _, _, rfl, hh9⟩
    · rintro ρ Γ' ⟨o2, o3, o4, o5, o6, o7, o8, o9, o10, o11, o12, o13, o14, o15, o16, rfl, _⟩
      walk_at "dd"
      exact fin0 (q Γ')
end

end Z
set_option Elab.async false
set_option linter.all false
set_option maxRecDepth 100000
set_option maxHeartbeats 4000000
set_option exponentiation.threshold 20000
namespace Z
open PySem PySem.Spec PyProof.Rows L2 Y
local macro_rules | `(tactic| walk_at "dd") => `(tactic| simp only [seqOf_dF, seqOf_dS, seqOf_dM, seqOf_dP, tyD_dF, tyD_dM, tyD_dS, tyD_dP, resD_dF, dVar, dC, dOp, dAdd_ii, dAdd_tt, dAdd_ll, d2I_ii, d2I0_ii, dMul_ii, dMul_ti, dNeg, dEq_ii, dEq_ss, dEq_bb, dNe_ii, dNe_ss, dNe_bb, dIs, dIsNot, isNon_non, isNon_int, isNon_bl, isNon_tup, isNon_lst, dTB, dChain, dAndT, dOrT, dNotT, dAndV, dOrV, dNotV, dIf, dNil, dCons, dTup', dLst', dLstO', dIx, dNoP, dPart, sliceD, dSl, dCB, dLen, dAbs, dInt, dMax2, dTupOf, dListOf, dListOfO, dAll, dAny, dIsi, dNext, dSeq, dPass, dNever, dDrop, dRet, dRetF, dRetN, dIfS, dgName, dgNil, dgCons, dgTup, dgSub, dSetItem, dSet, dAsg, dPar, dPar3, dAug, dISeq, dIEnum, dIEnumK, dIZip, dIRange1, dIRange2, dFor, dLc, dLcO, dLm, rAppD, rExtD, rPopD, dCall, dFld, dFldSet, dFldAdd, dMeth, dMake, Y.putAt, Nat.lt_irrefl, List.cons_append, dDictT, dDictO, dGet2, asKey, dYes, startD, endD, wipeD, seqOf_gup, lstOf_gup, gup_same, gup_gup, ixN_50, ixN_51, ixN_52, ixN_53, ixN_54, List.length_map, srcOf_tup, srcOf_lst, srcOf_scr, srcOf_ptr, blsOf_map, all_map, seqOf_tup, seqOf_lst, seqOf_scr, lstOf_lst, lstOf_scr, lstOf'_lst, tyD_tup, tyD_lst, tyD_int, tyD_bl, tyD_str, tyD_non, isT, atI_0, atI_1, atI_2, atI_3, atI_4, List.getElem?_cons_zero, List.getElem?_cons_succ, List.set_cons_zero, List.set_cons_succ, List.map_cons, List.map_nil, List.length_cons, List.length_nil, List.nil_append, reduceCtorEq, if_true, if_false, Bool.false_eq_true, ne_eq, not_false_eq_true, not_true_eq_false, true_and, and_true, forall_const, implies_true, Bool.not_true, Bool.not_false, Nat.reduceAdd, Nat.reduceLT, Nat.reduceLeDiff, Nat.zero_le, Nat.le_refl, Nat.lt_irrefl, Nat.reduceLeDiff, Int.reduceNeg])


theorem law_end {l : PySem.W.OpenLaw} {w : World} {K : PySem.W.Frag} {h : Heap} {mg : Str → Option Value} {fa fL : Addr} {cSlips : Addr} {oc : Value} {od an : Option Addr} {osl : Array (Option Value)} {kV doc pm cdv ct : Value} (X : K.In h) (G : h.Ns mainGlobals mg) (hfa : mg "law" = some (.ref fa))
    (a : PySem.W.nsIn K mainGlobals "law" = some (some (.ref fL))) (lk : K.lookup fL = some ⟨oc, od, .func (PySem.W.fnOf "law" "law" (defArgs s_law) (defBody s_law) (defScope s_law) .none kV doc pm an cdv ct), osl⟩) (c : PySem.W.codeIn K cdv "law" = true) (k : PySem.W.keepIn K (.ref fL) = true) (T : Txt K mg cSlips) :
    ∃ fd : FuncData, (∀ (s : Shared) (v : Value), BindsTo s fd ⟨[v], []⟩ [("script", v)]) ∧ ∀ base : Heap, K.In base → base.Ns mainGlobals mg → FnOk l.prog w K mg base CX0 10 fa fd ["script"] (liftSp K spLaw) := by
  have e := hfa.symm.trans (PySem.W.mg_of X G a)
  cases e
  exact ⟨_, fun s v => .of_eq rfl, fun base _ _ => d_law T (fun_mk (st := s_law) lk c k)⟩
theorem walk {l : PySem.W.OpenLaw} {q : Program} {loose : List Str} {XP : (Str → Option Value) → Heap → Prop} {YP : World → Heap → Prop} {d : DefRec} {K : Params → PySem.W.Frag} (hn : l.most = some 63) (hdf : d.params.defaults = [])
    (hY : ∀ (w : World) (h : Heap), YP w h → (K w.params).In h)
    (F : ∀ (w : World) (mg : Str → Option Value) (fa : Addr) (h : Heap), (K w.params).In h → h.Ns mainGlobals mg → mg d.name = some (.ref fa) →
      ∃ fd : FuncData, (∀ (s : Shared) (u : Value), BindsTo s fd ⟨[u], []⟩ [("script", u)]) ∧ ∀ base : Heap, (K w.params).In base → base.Ns mainGlobals mg → FnOk l.prog w (K w.params) mg base CX0 10 fa fd ["script"] (liftSp (K w.params) spLaw)) :
    PySem.W.WalkO q loose XP YP l.row.toRowW d [] (fun f vs => PySem.call f vs) :=
  L2.walk_ofK (n := 63) (k := 10) (x := "script") (CX := CX0) (sp := fun K => liftSp K spLaw) hn (by decide) hdf ⟨rfl, by decide, by decide⟩ hY F (fun K H a ns hl hO hS => law_start K H a ns hO hS fun Γ => ⟨ns, rfl, hl, fun Γ' => rfl⟩) fun _ _ _ _ z => z
end Z
open PySem PySem.W PyProof.Rows
set_option maxRecDepth 100000 in
set_option maxHeartbeats 0 in
theorem PySem.Challenge.cw_cutsumsways_k68_whole_slips_round_and_ro_holds : PySem.Challenge.rw_cutsumsways_k68_whole_slips_round_and_ro.Holds := by
  w_on; o_law; k_head; (case hw => w_witness2)
  k_fill
  refine Z.walk (l := PySem.Challenge.rw_cutsumsways_k68_whole_slips_round_and_ro) rfl rfl (fun w h Y => PySem.W.kIn_of Y) ?F
  case F =>
    intro w mg fa h KX G hmg
    refine' Z.law_end KX G hmg ?aL ?lL ?cL ?kL ⟨?at_is_integer, ?at_is_within, ?at_is_tuple_of, ?at_common, ?at_is_fraction, ?at_made, ?at_raw_plus, ?at_raw_times, ?at_raw_minus, ?at_are_values, ?at_is_pair_of, ?at_raw_is_sum, ?at_raw_worth, ?at_raw_by_factors, ?at_raw_factors, ?at_is_marked_pair, ?at_are_marked, ?at_check_marked, ?at_check_marked_sum, ?at_is_right, ?at_wrong_ones, ?at_raw_slipped, ?at_slipped, ?at_Slips_init, ?at_Slips_is_over, ?at_Slips_will_slip, ?at_Slips_look, ?at_slips_till, ?at_check_most, ?at_slips_told, ?at_is_slips, ?at_rounds_of, ?at_law_hand, ?at_law_draw, ?at_law_any, ?at_law_made, ?at_law_plus, ?at_law_times, ?at_law_worth, ?at_law_number, ?at_law_as_sum, ?at_law_drawn_sum, ?at_law_right, ?at_law_slipped, ?at_law_marked, ?at_law_slips, ?k_Slips, ?c_NOUGHT, ?c_ONE, ?c_MOST_MARKED, ?c_MOST_SLIPS, ?c_MOST_PLACES, ?c_ENDED, ?c_GOES_ON, ?c_NOTHING, ?m_abs, ?m_all, ?m_bool, ?m_dict, ?m_enumerate, ?m_int, ?m_isinstance, ?m_len, ?m_list, ?m_range, ?m_tuple, ?m_zip⟩
    (case aL => k_is); (case lL => k_is); (case cL => k_is); (case kL => k_is)
    (case at_Slips_init => refine' Y.atC_mk KX G ?at_Slips_init_d ?at_Slips_init_m ?at_Slips_init_e ?at_Slips_init_a ?at_Slips_init_i ?at_Slips_init_l ?at_Slips_init_c ?at_Slips_init_k (fun _ _ _ _ _ _ us hl => match us, hl with | [_, _], _ => rfl); (case at_Slips_init_d => k_is); (case at_Slips_init_m => k_is); (case at_Slips_init_e => k_is); (case at_Slips_init_a => k_is); (case at_Slips_init_i => k_is); (case at_Slips_init_l => k_is); (case at_Slips_init_c => k_is); (case at_Slips_init_k => k_is))
    (case at_is_integer => refine' Y.at_mk KX G ?at_is_integer_a ?at_is_integer_l ?at_is_integer_c ?at_is_integer_k (fun _ _ _ _ _ _ us hl => match us, hl with | [_], _ => rfl); (case at_is_integer_a => k_is); (case at_is_integer_l => k_is); (case at_is_integer_c => k_is); (case at_is_integer_k => k_is))
    (case at_is_within => refine' Y.at_mk KX G ?at_is_within_a ?at_is_within_l ?at_is_within_c ?at_is_within_k (fun _ _ _ _ _ _ us hl => match us, hl with | [_, _, _], _ => rfl); (case at_is_within_a => k_is); (case at_is_within_l => k_is); (case at_is_within_c => k_is); (case at_is_within_k => k_is))
    (case at_is_tuple_of => refine' Y.at_mk KX G ?at_is_tuple_of_a ?at_is_tuple_of_l ?at_is_tuple_of_c ?at_is_tuple_of_k (fun _ _ _ _ _ _ us hl => match us, hl with | [_, _], _ => rfl); (case at_is_tuple_of_a => k_is); (case at_is_tuple_of_l => k_is); (case at_is_tuple_of_c => k_is); (case at_is_tuple_of_k => k_is))
    (case at_common => refine' Y.at_mk KX G ?at_common_a ?at_common_l ?at_common_c ?at_common_k (fun _ _ _ _ _ _ us hl => match us, hl with | [_, _], _ => rfl); (case at_common_a => k_is); (case at_common_l => k_is); (case at_common_c => k_is); (case at_common_k => k_is))
    (case at_is_fraction => refine' Y.at_mk KX G ?at_is_fraction_a ?at_is_fraction_l ?at_is_fraction_c ?at_is_fraction_k (fun _ _ _ _ _ _ us hl => match us, hl with | [_], _ => rfl); (case at_is_fraction_a => k_is); (case at_is_fraction_l => k_is); (case at_is_fraction_c => k_is); (case at_is_fraction_k => k_is))
    (case at_made => refine' Y.at_mk KX G ?at_made_a ?at_made_l ?at_made_c ?at_made_k (fun _ _ _ _ _ _ us hl => match us, hl with | [_, _], _ => rfl); (case at_made_a => k_is); (case at_made_l => k_is); (case at_made_c => k_is); (case at_made_k => k_is))
    (case at_raw_plus => refine' Y.at_mk KX G ?at_raw_plus_a ?at_raw_plus_l ?at_raw_plus_c ?at_raw_plus_k (fun _ _ _ _ _ _ us hl => match us, hl with | [_, _], _ => rfl); (case at_raw_plus_a => k_is); (case at_raw_plus_l => k_is); (case at_raw_plus_c => k_is); (case at_raw_plus_k => k_is))
    (case at_raw_times => refine' Y.at_mk KX G ?at_raw_times_a ?at_raw_times_l ?at_raw_times_c ?at_raw_times_k (fun _ _ _ _ _ _ us hl => match us, hl with | [_, _], _ => rfl); (case at_raw_times_a => k_is); (case at_raw_times_l => k_is); (case at_raw_times_c => k_is); (case at_raw_times_k => k_is))
    (case at_raw_minus => refine' Y.at_mk KX G ?at_raw_minus_a ?at_raw_minus_l ?at_raw_minus_c ?at_raw_minus_k (fun _ _ _ _ _ _ us hl => match us, hl with | [_], _ => rfl); (case at_raw_minus_a => k_is); (case at_raw_minus_l => k_is); (case at_raw_minus_c => k_is); (case at_raw_minus_k => k_is))
    (case at_are_values => refine' Y.at_mk KX G ?at_are_values_a ?at_are_values_l ?at_are_values_c ?at_are_values_k (fun _ _ _ _ _ _ us hl => match us, hl with | [_], _ => rfl); (case at_are_values_a => k_is); (case at_are_values_l => k_is); (case at_are_values_c => k_is); (case at_are_values_k => k_is))
    (case at_is_pair_of => refine' Y.at_mk KX G ?at_is_pair_of_a ?at_is_pair_of_l ?at_is_pair_of_c ?at_is_pair_of_k (fun _ _ _ _ _ _ us hl => match us, hl with | [_, _], _ => rfl); (case at_is_pair_of_a => k_is); (case at_is_pair_of_l => k_is); (case at_is_pair_of_c => k_is); (case at_is_pair_of_k => k_is))
    (case at_raw_is_sum => refine' Y.at_mk KX G ?at_raw_is_sum_a ?at_raw_is_sum_l ?at_raw_is_sum_c ?at_raw_is_sum_k (fun _ _ _ _ _ _ us hl => match us, hl with | [_, _], _ => rfl); (case at_raw_is_sum_a => k_is); (case at_raw_is_sum_l => k_is); (case at_raw_is_sum_c => k_is); (case at_raw_is_sum_k => k_is))
    (case at_raw_worth => refine' Y.at_mk KX G ?at_raw_worth_a ?at_raw_worth_l ?at_raw_worth_c ?at_raw_worth_k (fun _ _ _ _ _ _ us hl => match us, hl with | [_, _], _ => rfl); (case at_raw_worth_a => k_is); (case at_raw_worth_l => k_is); (case at_raw_worth_c => k_is); (case at_raw_worth_k => k_is))
    (case at_raw_by_factors => refine' Y.at_mk KX G ?at_raw_by_factors_a ?at_raw_by_factors_l ?at_raw_by_factors_c ?at_raw_by_factors_k (fun _ _ _ _ _ _ us hl => match us, hl with | [_, _], _ => rfl); (case at_raw_by_factors_a => k_is); (case at_raw_by_factors_l => k_is); (case at_raw_by_factors_c => k_is); (case at_raw_by_factors_k => k_is))
    (case at_raw_factors => refine' Y.at_mk KX G ?at_raw_factors_a ?at_raw_factors_l ?at_raw_factors_c ?at_raw_factors_k (fun _ _ _ _ _ _ us hl => match us, hl with | [_, _], _ => rfl); (case at_raw_factors_a => k_is); (case at_raw_factors_l => k_is); (case at_raw_factors_c => k_is); (case at_raw_factors_k => k_is))
    (case at_is_marked_pair => refine' Y.at_mk KX G ?at_is_marked_pair_a ?at_is_marked_pair_l ?at_is_marked_pair_c ?at_is_marked_pair_k (fun _ _ _ _ _ _ us hl => match us, hl with | [_], _ => rfl); (case at_is_marked_pair_a => k_is); (case at_is_marked_pair_l => k_is); (case at_is_marked_pair_c => k_is); (case at_is_marked_pair_k => k_is))
    (case at_are_marked => refine' Y.at_mk KX G ?at_are_marked_a ?at_are_marked_l ?at_are_marked_c ?at_are_marked_k (fun _ _ _ _ _ _ us hl => match us, hl with | [_], _ => rfl); (case at_are_marked_a => k_is); (case at_are_marked_l => k_is); (case at_are_marked_c => k_is); (case at_are_marked_k => k_is))
    (case at_check_marked => refine' Y.at_mk KX G ?at_check_marked_a ?at_check_marked_l ?at_check_marked_c ?at_check_marked_k (fun _ _ _ _ _ _ us hl => match us, hl with | [_], _ => rfl); (case at_check_marked_a => k_is); (case at_check_marked_l => k_is); (case at_check_marked_c => k_is); (case at_check_marked_k => k_is))
    (case at_check_marked_sum => refine' Y.at_mk KX G ?at_check_marked_sum_a ?at_check_marked_sum_l ?at_check_marked_sum_c ?at_check_marked_sum_k (fun _ _ _ _ _ _ us hl => match us, hl with | [_, _], _ => rfl); (case at_check_marked_sum_a => k_is); (case at_check_marked_sum_l => k_is); (case at_check_marked_sum_c => k_is); (case at_check_marked_sum_k => k_is))
    (case at_is_right => refine' Y.at_mk KX G ?at_is_right_a ?at_is_right_l ?at_is_right_c ?at_is_right_k (fun _ _ _ _ _ _ us hl => match us, hl with | [_, _], _ => rfl); (case at_is_right_a => k_is); (case at_is_right_l => k_is); (case at_is_right_c => k_is); (case at_is_right_k => k_is))
    (case at_wrong_ones => refine' Y.at_mk KX G ?at_wrong_ones_a ?at_wrong_ones_l ?at_wrong_ones_c ?at_wrong_ones_k (fun _ _ _ _ _ _ us hl => match us, hl with | [_, _], _ => rfl); (case at_wrong_ones_a => k_is); (case at_wrong_ones_l => k_is); (case at_wrong_ones_c => k_is); (case at_wrong_ones_k => k_is))
    (case at_raw_slipped => refine' Y.at_mk KX G ?at_raw_slipped_a ?at_raw_slipped_l ?at_raw_slipped_c ?at_raw_slipped_k (fun _ _ _ _ _ _ us hl => match us, hl with | [_, _], _ => rfl); (case at_raw_slipped_a => k_is); (case at_raw_slipped_l => k_is); (case at_raw_slipped_c => k_is); (case at_raw_slipped_k => k_is))
    (case at_slipped => refine' Y.at_mk KX G ?at_slipped_a ?at_slipped_l ?at_slipped_c ?at_slipped_k (fun _ _ _ _ _ _ us hl => match us, hl with | [_, _, _], _ => rfl); (case at_slipped_a => k_is); (case at_slipped_l => k_is); (case at_slipped_c => k_is); (case at_slipped_k => k_is))
    (case at_Slips_is_over => refine' Y.atM_mk ?at_Slips_is_over_a ?at_Slips_is_over_i ?at_Slips_is_over_l ?at_Slips_is_over_c ?at_Slips_is_over_k (fun _ _ _ _ _ _ us hl => match us, hl with | [_], _ => rfl); (case at_Slips_is_over_a => k_is); (case at_Slips_is_over_i => k_is); (case at_Slips_is_over_l => k_is); (case at_Slips_is_over_c => k_is); (case at_Slips_is_over_k => k_is))
    (case at_Slips_will_slip => refine' Y.atM_mk ?at_Slips_will_slip_a ?at_Slips_will_slip_i ?at_Slips_will_slip_l ?at_Slips_will_slip_c ?at_Slips_will_slip_k (fun _ _ _ _ _ _ us hl => match us, hl with | [_], _ => rfl); (case at_Slips_will_slip_a => k_is); (case at_Slips_will_slip_i => k_is); (case at_Slips_will_slip_l => k_is); (case at_Slips_will_slip_c => k_is); (case at_Slips_will_slip_k => k_is))
    (case at_Slips_look => refine' Y.atM_mk ?at_Slips_look_a ?at_Slips_look_i ?at_Slips_look_l ?at_Slips_look_c ?at_Slips_look_k (fun _ _ _ _ _ _ us hl => match us, hl with | [_], _ => rfl); (case at_Slips_look_a => k_is); (case at_Slips_look_i => k_is); (case at_Slips_look_l => k_is); (case at_Slips_look_c => k_is); (case at_Slips_look_k => k_is))
    (case at_slips_till => refine' Y.at_mk KX G ?at_slips_till_a ?at_slips_till_l ?at_slips_till_c ?at_slips_till_k (fun _ _ _ _ _ _ us hl => match us, hl with | [_, _], _ => rfl); (case at_slips_till_a => k_is); (case at_slips_till_l => k_is); (case at_slips_till_c => k_is); (case at_slips_till_k => k_is))
    (case at_check_most => refine' Y.at_mk KX G ?at_check_most_a ?at_check_most_l ?at_check_most_c ?at_check_most_k (fun _ _ _ _ _ _ us hl => match us, hl with | [_, _], _ => rfl); (case at_check_most_a => k_is); (case at_check_most_l => k_is); (case at_check_most_c => k_is); (case at_check_most_k => k_is))
    (case at_slips_told => refine' Y.at_mk KX G ?at_slips_told_a ?at_slips_told_l ?at_slips_told_c ?at_slips_told_k (fun _ _ _ _ _ _ us hl => match us, hl with | [_, _], _ => rfl); (case at_slips_told_a => k_is); (case at_slips_told_l => k_is); (case at_slips_told_c => k_is); (case at_slips_told_k => k_is))
    (case at_is_slips => refine' Y.at_mk KX G ?at_is_slips_a ?at_is_slips_l ?at_is_slips_c ?at_is_slips_k (fun _ _ _ _ _ _ us hl => match us, hl with | [_, _], _ => rfl); (case at_is_slips_a => k_is); (case at_is_slips_l => k_is); (case at_is_slips_c => k_is); (case at_is_slips_k => k_is))
    (case at_rounds_of => refine' Y.at_mk KX G ?at_rounds_of_a ?at_rounds_of_l ?at_rounds_of_c ?at_rounds_of_k (fun _ _ _ _ _ _ us hl => match us, hl with | [_, _], _ => rfl); (case at_rounds_of_a => k_is); (case at_rounds_of_l => k_is); (case at_rounds_of_c => k_is); (case at_rounds_of_k => k_is))
    (case at_law_hand => refine' Y.at_mk KX G ?at_law_hand_a ?at_law_hand_l ?at_law_hand_c ?at_law_hand_k (fun _ _ _ _ _ _ us hl => match us, hl with | [_], _ => rfl); (case at_law_hand_a => k_is); (case at_law_hand_l => k_is); (case at_law_hand_c => k_is); (case at_law_hand_k => k_is))
    (case at_law_draw => refine' Y.at_mk KX G ?at_law_draw_a ?at_law_draw_l ?at_law_draw_c ?at_law_draw_k (fun _ _ _ _ _ _ us hl => match us, hl with | [_, _], _ => rfl); (case at_law_draw_a => k_is); (case at_law_draw_l => k_is); (case at_law_draw_c => k_is); (case at_law_draw_k => k_is))
    (case at_law_any => refine' Y.at_mk KX G ?at_law_any_a ?at_law_any_l ?at_law_any_c ?at_law_any_k (fun _ _ _ _ _ _ us hl => match us, hl with | [_, _], _ => rfl); (case at_law_any_a => k_is); (case at_law_any_l => k_is); (case at_law_any_c => k_is); (case at_law_any_k => k_is))
    (case at_law_made => refine' Y.at_mk KX G ?at_law_made_a ?at_law_made_l ?at_law_made_c ?at_law_made_k (fun _ _ _ _ _ _ us hl => match us, hl with | [_, _], _ => rfl); (case at_law_made_a => k_is); (case at_law_made_l => k_is); (case at_law_made_c => k_is); (case at_law_made_k => k_is))
    (case at_law_plus => refine' Y.at_mk KX G ?at_law_plus_a ?at_law_plus_l ?at_law_plus_c ?at_law_plus_k (fun _ _ _ _ _ _ us hl => match us, hl with | [_, _], _ => rfl); (case at_law_plus_a => k_is); (case at_law_plus_l => k_is); (case at_law_plus_c => k_is); (case at_law_plus_k => k_is))
    (case at_law_times => refine' Y.at_mk KX G ?at_law_times_a ?at_law_times_l ?at_law_times_c ?at_law_times_k (fun _ _ _ _ _ _ us hl => match us, hl with | [_, _], _ => rfl); (case at_law_times_a => k_is); (case at_law_times_l => k_is); (case at_law_times_c => k_is); (case at_law_times_k => k_is))
    (case at_law_worth => refine' Y.at_mk KX G ?at_law_worth_a ?at_law_worth_l ?at_law_worth_c ?at_law_worth_k (fun _ _ _ _ _ _ us hl => match us, hl with | [_, _], _ => rfl); (case at_law_worth_a => k_is); (case at_law_worth_l => k_is); (case at_law_worth_c => k_is); (case at_law_worth_k => k_is))
    (case at_law_number => refine' Y.at_mk KX G ?at_law_number_a ?at_law_number_l ?at_law_number_c ?at_law_number_k (fun _ _ _ _ _ _ us hl => match us, hl with | [_], _ => rfl); (case at_law_number_a => k_is); (case at_law_number_l => k_is); (case at_law_number_c => k_is); (case at_law_number_k => k_is))
    (case at_law_as_sum => refine' Y.at_mk KX G ?at_law_as_sum_a ?at_law_as_sum_l ?at_law_as_sum_c ?at_law_as_sum_k (fun _ _ _ _ _ _ us hl => match us, hl with | [_, _], _ => rfl); (case at_law_as_sum_a => k_is); (case at_law_as_sum_l => k_is); (case at_law_as_sum_c => k_is); (case at_law_as_sum_k => k_is))
    (case at_law_drawn_sum => refine' Y.at_mk KX G ?at_law_drawn_sum_a ?at_law_drawn_sum_l ?at_law_drawn_sum_c ?at_law_drawn_sum_k (fun _ _ _ _ _ _ us hl => match us, hl with | [_, _], _ => rfl); (case at_law_drawn_sum_a => k_is); (case at_law_drawn_sum_l => k_is); (case at_law_drawn_sum_c => k_is); (case at_law_drawn_sum_k => k_is))
    (case at_law_right => refine' Y.at_mk KX G ?at_law_right_a ?at_law_right_l ?at_law_right_c ?at_law_right_k (fun _ _ _ _ _ _ us hl => match us, hl with | [_, _], _ => rfl); (case at_law_right_a => k_is); (case at_law_right_l => k_is); (case at_law_right_c => k_is); (case at_law_right_k => k_is))
    (case at_law_slipped => refine' Y.at_mk KX G ?at_law_slipped_a ?at_law_slipped_l ?at_law_slipped_c ?at_law_slipped_k (fun _ _ _ _ _ _ us hl => match us, hl with | [_, _], _ => rfl); (case at_law_slipped_a => k_is); (case at_law_slipped_l => k_is); (case at_law_slipped_c => k_is); (case at_law_slipped_k => k_is))
    (case at_law_marked => refine' Y.at_mk KX G ?at_law_marked_a ?at_law_marked_l ?at_law_marked_c ?at_law_marked_k (fun _ _ _ _ _ _ us hl => match us, hl with | [_, _], _ => rfl); (case at_law_marked_a => k_is); (case at_law_marked_l => k_is); (case at_law_marked_c => k_is); (case at_law_marked_k => k_is))
    (case at_law_slips => refine' Y.at_mk KX G ?at_law_slips_a ?at_law_slips_l ?at_law_slips_c ?at_law_slips_k (fun _ _ _ _ _ _ us hl => match us, hl with | [_, _], _ => rfl); (case at_law_slips_a => k_is); (case at_law_slips_l => k_is); (case at_law_slips_c => k_is); (case at_law_slips_k => k_is))
    (case k_Slips => refine' Y.kls_mk ?k_Slips_a ?k_Slips_b ?k_Slips_c ?k_Slips_d (Y.noAll_cons ?k_Slips_n0 (Y.noAll_cons ?k_Slips_n1 (Y.noAll_cons ?k_Slips_n2 (Y.noAll_cons ?k_Slips_n3 (Y.noAll_cons ?k_Slips_n4 (Y.noAll_cons ?k_Slips_n5 Y.noAll_nil)))))) (by decide +kernel); (case k_Slips_a => k_is); (case k_Slips_b => k_is); (case k_Slips_c => k_is); (case k_Slips_d => k_is); (case k_Slips_n0 => k_is); (case k_Slips_n1 => k_is); (case k_Slips_n2 => k_is); (case k_Slips_n3 => k_is); (case k_Slips_n4 => k_is); (case k_Slips_n5 => k_is))
    (case c_NOUGHT => refine' Y.cst_mk KX G ?c_NOUGHT_n (.t2 ?c_NOUGHT_0 .int .int); (case c_NOUGHT_n => k_is); (case c_NOUGHT_0 => k_is))
    (case c_ONE => refine' Y.cst_mk KX G ?c_ONE_n (.t2 ?c_ONE_0 .int .int); (case c_ONE_n => k_is); (case c_ONE_0 => k_is))
    (case c_MOST_MARKED => refine' Y.cst_mk KX G ?c_MOST_MARKED_n .int; (case c_MOST_MARKED_n => k_is))
    (case c_MOST_SLIPS => refine' Y.cst_mk KX G ?c_MOST_SLIPS_n .int; (case c_MOST_SLIPS_n => k_is))
    (case c_MOST_PLACES => refine' Y.cst_mk KX G ?c_MOST_PLACES_n .int; (case c_MOST_PLACES_n => k_is))
    (case c_ENDED => refine' Y.cst_mk KX G ?c_ENDED_n .str; (case c_ENDED_n => k_is))
    (case c_GOES_ON => refine' Y.cst_mk KX G ?c_GOES_ON_n .str; (case c_GOES_ON_n => k_is))
    (case c_NOTHING => refine' Y.cst_mk KX G ?c_NOTHING_n (.t2 ?c_NOTHING_0 (.t0 ?c_NOTHING_1 ) (.t2 ?c_NOTHING_2 .int .int)); (case c_NOTHING_n => k_is); (case c_NOTHING_0 => k_is); (case c_NOTHING_1 => k_is); (case c_NOTHING_2 => k_is))
    (case m_abs => refine' PySem.W.mg_none_of KX G ?m_abs_n; (case m_abs_n => k_is))
    (case m_all => refine' PySem.W.mg_none_of KX G ?m_all_n; (case m_all_n => k_is))
    (case m_bool => refine' PySem.W.mg_none_of KX G ?m_bool_n; (case m_bool_n => k_is))
    (case m_dict => refine' PySem.W.mg_none_of KX G ?m_dict_n; (case m_dict_n => k_is))
    (case m_enumerate => refine' PySem.W.mg_none_of KX G ?m_enumerate_n; (case m_enumerate_n => k_is))
    (case m_int => refine' PySem.W.mg_none_of KX G ?m_int_n; (case m_int_n => k_is))
    (case m_isinstance => refine' PySem.W.mg_none_of KX G ?m_isinstance_n; (case m_isinstance_n => k_is))
    (case m_len => refine' PySem.W.mg_none_of KX G ?m_len_n; (case m_len_n => k_is))
    (case m_list => refine' PySem.W.mg_none_of KX G ?m_list_n; (case m_list_n => k_is))
    (case m_range => refine' PySem.W.mg_none_of KX G ?m_range_n; (case m_range_n => k_is))
    (case m_tuple => refine' PySem.W.mg_none_of KX G ?m_tuple_n; (case m_tuple_n => k_is))
    (case m_zip => refine' PySem.W.mg_none_of KX G ?m_zip_n; (case m_zip_n => k_is))
