import PyProof.Rows.All
import Wide.All
import OpenK.AllK
import Wide.FinOn
import HandS.ForMost
import HandS.Walk
import KE.GoesEnum
import KE.GoesMore
import KE.GoesZip
import HandS.More
import HandS.IsInst
import HandS.TupAny
import HandS.NoneIn
import HandS.HeadWalk
import PySem.Challenge.RW_chipmill_k19_clauses_of_the_reached
set_option Elab.async false
set_option linter.all false
set_option maxRecDepth 100000
set_option maxHeartbeats 1000000
namespace En
open PySem PySem.Spec PyProof.Rows L2
theorem meets_enum1 {v : Value} {o : Obj} {H : Heap → Prop} (B : Begins v o H) :
    Meets (Builtin.«enumerate.__new__» ⟨[.type "enumerate", v], []⟩) (fun _ R s => H s.heap ∧
      R (.ok (.ret (.ref (s.heap.push o).objs.size))) { s with heap := (s.heap.push o).push { cls := .type "enumerate", data := .fields #[.none, .bool false, .ref s.heap.objs.size, rawInt 0, .none, .none] } }) :=
  .of_wp fun prog w A R s h => by
    obtain ⟨hp, g, d, tk, os⟩ := s
    obtain ⟨h1, h⟩ := h
    have hsub := sub_enumerate
    have q1 : ∀ {A' : Around} {E : Value → Shared → Prop} {Q : Value → Shared → Prop}, Q (.ref hp.objs.size) ⟨hp.push o, g, d, tk, os⟩ → wpAny (model prog w) A' (pyIter v) Q E ⟨hp, g, d, tk, os⟩ :=
      fun q => B.iter prog w _ _ ⟨hp, g, d, tk, os⟩ _ h1 q
    wp_walk using q1
    refine wpAny_stack_any fun st => wpAny_pure ?_
    split
    · rename_i c _ _ _ _ _
      cases (c == Value.type "enumerate")
      · wp_walk using q1
        exact ⟨_, rfl, h⟩
      · wp_walk using q1
        exact ⟨_, rfl, h⟩
    · wp_walk using q1
      exact ⟨_, rfl, h⟩
section
variable {prog : Program} {w : World} {A : Around} {E : Value → Shared → Prop} {s : Shared}
theorem call_enum1 {v : Value} {o : Obj} {H : Heap → Prop} {Q : Value → Shared → Prop} (B : Begins v o H) (h1 : H s.heap)
    (h : ∀ h', IsEnum h' (s.heap.objs.size + 1) s.heap.objs.size 0 .none → h'.get? s.heap.objs.size = some o → h'.objs.size = s.heap.objs.size + 2 →
      (∀ b o, s.heap.get? b = some o → h'.get? b = some o) → Q (.ref (s.heap.objs.size + 1)) { s with heap := h' }) :
    wpAny (model prog w) A (call (.type "enumerate") [v]) Q E s := by
  refine callType_new F.called_enumerate (by decide) (F.typeCall_enumerate_1 _) (F.newCall_enumerate_1 _) (fun obj => F.args_object_init_2 obj _) F.entry_enumerate_new (meets_enum1 B) ⟨h1, ?_⟩
  have hz : (s.heap.push o).objs.size = s.heap.objs.size + 1 := Heap.size_push ..
  show _ ∧ _
  rw [hz]
  have he : IsEnum ((s.heap.push o).push { cls := .type "enumerate", data := .fields #[.none, .bool false, .ref s.heap.objs.size, rawInt 0, .none, .none] }) (s.heap.objs.size + 1) s.heap.objs.size 0 .none := by
    have q := Heap.get?_push_size (s.heap.push o) (o := { cls := .type "enumerate", data := .fields #[.none, .bool false, .ref s.heap.objs.size, rawInt 0, .none, .none] }) rfl
    rw [hz] at q
    exact q
  exact ⟨⟨_, he, rfl⟩, h _ he (Heap.get?_push_of_some _ (Heap.get?_push_size _ B.free)) (by rw [Heap.size_push, hz]) fun b o x => Heap.get?_push_of_some _ (Heap.get?_push_of_some _ x)⟩
end
/-- the tuple at a, each item in a new pair -/
def IteT (K : PySem.W.Frag) (a : Addr) : It :=
  ⟨fun i H => ∃ (xs : List V) (x : V), SqT K H a xs ∧ xs[i]? = some x, fun i H v H' => ∃ T x, v = .ref T ∧ H T = none ∧ H' = upd H T (.tup [.int (i : Nat), x]) ∧ ∀ xs, SqT K H a xs → xs[i]? = some x, fun i H => ∃ xs : List V, SqT K H a xs ∧ xs.length ≤ i⟩
theorem tup_ne {h : Heap} {a it : Addr} {i : Nat} {its : Array Value} (p : IsTup h a its) (q : h.IsTupleIter it a i) : a ≠ it := fun z => by
  obtain ⟨o, h1, h2, _⟩ := p
  obtain ⟨o', h3, h4, _⟩ := q
  rw [z, h3] at h1
  cases h1
  rw [h4] at h2
  exact absurd h2 (by simp)
theorem turn_enumT {P : Program} {w : World} {K : PySem.W.Frag} {elts : List Expr} {kk : Nat} {tpos : Pos} (a e it : Addr) :
    Turn P w K (.Tuple elts kk tpos) (IteT K a) [e, it] e (fun i h => (∃ old, IsEnum h e it ((i : Nat) : Int) old) ∧ h.IsTupleIter it a i ∧ e ≠ it ∧ e ≠ a) where
  mem := by simp
  obj := fun i h st b hb => by
    obtain ⟨⟨old, he⟩, ⟨o, ho, hc, hd⟩, _⟩ := st
    rcases (show b = e ∨ b = it by simpa using hb) with z | z
    · rw [z]; exact ⟨_, he, fun v q => nomatch q⟩
    · rw [z]; exact ⟨o, ho, fun v q => by rw [hd] at q; cases q⟩
  keep := fun i h h' st k => let ⟨⟨old, he⟩, hi, hne⟩ := st; ⟨⟨old, k e (by simp) _ he⟩, hi.at fun o q => k it (by simp) o q, hne⟩
  item := by
    intro X hP hw hK hc i pins s σ H E I hf st hg
    subst hP hw hK
    obtain ⟨⟨old, he⟩, hit, hne, hna⟩ := st
    obtain ⟨xs, x, hq, hx⟩ := hg
    obtain ⟨its, rv, p, hz⟩ := I.tuple hq
    obtain ⟨u, hu, ru⟩ := rv.get hx
    have hel : e < s.heap.objs.size := Heap.lt_size he
    have hil : it < s.heap.objs.size := by obtain ⟨_, q, _⟩ := hit; exact Heap.lt_size q
    have hlt : i < its.toArray.size := by
      have q := (List.getElem?_eq_some_iff.mp hu).1
      simpa using q
    have dr := Draws.tuple (prog := X.prog) (w := X.w) (A := X.A.in1) (I.ok.hd hc) it a (tup_ne p hit) its.toArray
    refine wpAny_pyNext_enum_itemD dr he ⟨hit, p⟩ hlt hne (by simp [hne, hna]) fun y h' tk hy ho hit' hT hsz hk => ?_
    have ey : y = u := Option.some.inj (hy.symm.trans (by simpa using hu))
    subst ey
    refine ⟨_, rfl, wpAny_letOwnedTupleGo_enum (s := { s with heap := h', toks := tk + 1 }) ho fun h'' he' sb => ?_⟩
    have hT2 : h''.get? s.heap.objs.size = some { cls := .type "tuple", data := .seq #[.int i tk, y] } := (sb.2 _ (Nat.ne_of_gt hel)).trans hT
    have new : ObjOk X.prog X.w (upd H s.heap.objs.size (.tup [.int (i : Nat), x])) h'' s.heap.objs.size (.tup [.int (i : Nat), x]) :=
      ⟨by show 2 ≤ sizeLine; decide, [.int i tk, y], .cons ⟨_, rfl⟩ (.cons ru .nil), ⟨_, hT2, rfl, _, rfl⟩⟩
    have I1 : Inv X pins σ (upd H s.heap.objs.size (.tup [.int (i : Nat), x])) { s with heap := h'', toks := tk + 1 } :=
      I.turnedNew (ch := [e, it]) (fun b ob hb q => (sb.2 b (fun z => hb (by simp [z]))).trans (hk b ob (fun z => hb (by simp [z])) (fun z => hb (by simp [z])) q)) hf (Nat.le_refl _) new
    refine ⟨.ref s.heap.objs.size, _, I1, rfl, ⟨_, x, rfl, I.hok.fresh (Nat.le_refl _), rfl, fun ys hy => by rw [I.tuple_inj hy hq]; exact hx⟩, ⟨⟨y, ?_⟩, hit'.1.at fun o q => (sb.2 it (Ne.symm hne)).trans q, hne, hna⟩, fun b hb => ?_⟩
    · have e1 : ((i + 1 : Nat) : Int) = (i : Int) + 1 := by omega
      rw [e1]; exact he'
    · have hb' : b < s.heap.objs.size := by
        rcases (show b = e ∨ b = it by simpa using hb) with z | z
        · rw [z]; exact hel
        · rw [z]; exact hil
      rw [upd_ne (Nat.ne_of_lt hb')]
      exact (hf b hb).1
  done := by
    intro X hP hw hK hc i pins s σ H E I hf st hg
    subst hP hw hK
    obtain ⟨⟨old, he⟩, hit, hne, hna⟩ := st
    obtain ⟨xs, hq, hx⟩ := hg
    obtain ⟨its, rv, p, hz⟩ := I.tuple hq
    obtain ⟨f0, f1, f2, f3, f4, f5⟩ := hf it (by simp)
    have hl := rv.length
    have dr := Draws.tuple (prog := X.prog) (w := X.w) (A := X.A.in1) (I.ok.hd hc) it a (tup_ne p hit) its.toArray
    by_cases hi : i = its.toArray.size
    · subst hi
      exact wpAny_pyNext_enum_endD dr he ⟨hit, p⟩ fun h' eb => ⟨rfl, I.turned (t' := s.toks) (fun b o hb q => eb b o hb q) f0 f1 f3 f4 f5⟩
    · have hT : s.TypeIs (.ref e) "enumerate" := ⟨_, he, rfl⟩
      have nn : its.toArray[i]? = none := by
        rw [Array.getElem?_eq_none]
        simp only [List.size_toArray]
        omega
      unfold pyNext
      refine wpAny_bind (wpAny_attempt (wpAny_callSpecial?_slot (name := Str.ofString "__next__") hT F.slot_enumerate_next
        (wpAny_call_entry F.slot_enumerate_next hT F.entry_enumerate_next ?_ (F.args_enumerate_next_1 _))))
      show wpAny _ _ (field (.ref e) 2 >>= _) _ _ _
      refine wpAny_bind (wpAny_field he rfl (x := .ref it) rfl ?_)
      refine wpAny_bind (wpAny_nextOf_tuple_end (I.ok.hd hc) hit p nn fun h' y he' hx' => ?_)
      obtain ⟨o, ho, hcc⟩ := hx'
      refine wpAny_bind (wpAny_isInstance (T := "StopIteration") (b := true) ⟨o, ho, hcc⟩ isSubtype_stop ?_)
      exact wpAny_pure ⟨rfl, I.turned (t' := s.toks) (fun b o hb q => he' b o hb q) f0 f1 f3 f4 f5⟩
  self := fun A i s Q E st h => let ⟨⟨_, he⟩, _⟩ := st; wpAny_pyIter_enum he h
def iEnumT (K : PySem.W.Frag) (ta : TA) : TI := fun σ H R => ta σ H fun vs H1 => ∃ a xs, vs = [.ref a] ∧ SqT K H1 a xs ∧ R (IteT K a) H1
theorem pi_enumT {X : Cx} {e : Expr} {ta : TA} {p pos tpos : Pos} {elts : List Expr} {kk : Nat} (hg : Gl X "enumerate") (hm : X.mg "enumerate" = none) (ha : PA X [e] ta) (hs : starEach [e] X.env = [(false, eval e X.env)] := by rfl) :
    PI X (.Tuple elts kk tpos) (.Call (.Name "enumerate" p) [e] [] pos) (iEnumT X.K ta) := by
  refine ⟨fun pins s σ H R I h => ?_⟩
  refine Call_ (ld_blt I hg hm boot_enumerate (PyProof.Rows.callWith_type1 (thn (ha.run pos pins s σ H _ I h) fun us s1 ⟨vs, H1, I1, r1, q1⟩ => ?_) hs rfl))
  obtain ⟨a, xs, ex, hq, q⟩ := q1
  subst ex
  cases r1 with
  | cons r rr =>
    cases rr
    cases r
    obtain ⟨its, rv, p', hz⟩ := I1.tuple hq
    have hal : a < s1.heap.objs.size := p'.lt
    refine call_enum1 (begins_tuple a its.toArray) p' fun h' he hit hsz hk => wpAny_pyIter_enum he ?_
    have I2 : Inv X pins σ H1 { s1 with heap := h' } := I1.kept (t' := s1.toks) hk
    refine ⟨s1.heap.objs.size + 1, [s1.heap.objs.size + 1, s1.heap.objs.size], _, _, H1, rfl, I2, turn_enumT a (s1.heap.objs.size + 1) s1.heap.objs.size, ⟨⟨.none, he⟩, ⟨_, hit, rfl, rfl⟩, Nat.succ_ne_self _, Nat.ne_of_gt (Nat.lt_succ_of_lt hal)⟩, fun b hb => ?_, q⟩
    have hle : s1.heap.objs.size ≤ b := by
      rcases (show b = s1.heap.objs.size + 1 ∨ b = s1.heap.objs.size by simpa using hb) with z | z
      · rw [z]; exact Nat.le_add_right _ _
      · rw [z]; exact Nat.le_refl _
    exact I1.fpOk hle (I1.hok.fresh hle)

def SqK (K : PySem.W.Frag) (H : Hp) : Bool → Addr → List V → Prop
  | true => SqT K H
  | false => SqL K H
def SrcIt (h : Heap) : Bool → Addr → Addr → Nat → Prop
  | true => fun it a i => h.IsTupleIter it a i
  | false => fun it a i => h.IsListIter it a i
def SrcOb (h : Heap) : Bool → Addr → Array Value → Prop
  | true => fun a xs => h.IsTuple a xs
  | false => fun a xs => h.IsList a xs
def srcO : Bool → Addr → Obj
  | true => fun a => { cls := .type "tuple_iterator", data := .fields #[.ref a, .int 0 0] }
  | false => fun a => { cls := .type "list_iterator", data := .fields #[.ref a, .int 0 0] }
theorem src_draws {prog : Program} {w : World} {A : Around} (hh : A.handled = none) : ∀ (k : Bool) (it a : Addr) (hne : a ≠ it) (items : Array Value), Draws prog w A it [it, a] items.size (fun i v => items[i]? = some v) (fun i h => SrcIt h k it a i ∧ SrcOb h k a items)
  | true, it, a, hne, items => .tuple hh it a hne items
  | false, it, a, hne, items => .list hh it a hne items
theorem src_begins : ∀ (k : Bool) (a : Addr) (items : Array Value), Begins (.ref a) (srcO k a) fun h => SrcOb h k a items
  | true, a, items => begins_tuple a items
  | false, a, items => begins_list a items
theorem src_start {h : Heap} {it a : Addr} : ∀ {k : Bool}, h.get? it = some (srcO k a) → SrcIt h k it a 0
  | true, e => ⟨_, e, rfl, rfl⟩
  | false, e => ⟨_, e, rfl, rfl⟩
theorem src_cell {h : Heap} {it a : Addr} {i : Nat} : ∀ {k : Bool}, SrcIt h k it a i → ∃ o, h.get? it = some o ∧ ∀ v, o.data ≠ .cell v
  | true, ⟨o, e, _, d⟩ => ⟨o, e, fun v q => by rw [d] at q; cases q⟩
  | false, ⟨o, e, _, d⟩ => ⟨o, e, fun v q => by rw [d] at q; cases q⟩
theorem src_at {h h' : Heap} {it a : Addr} {i : Nat} : ∀ {k : Bool}, SrcIt h k it a i → (∀ o, h.get? it = some o → h'.get? it = some o) → SrcIt h' k it a i
  | true, st, q => st.at q
  | false, st, q => st.at q
theorem src_inv {X : Cx} {pins : List (Addr × Obj)} {σ : L2.St} {H : Hp} {s : Shared} {a : Addr} {xs : List V} (I : Inv X pins σ H s) : ∀ {k : Bool}, SqK X.K H k a xs → ∃ its : List Value, Vals xs its ∧ SrcOb s.heap k a its.toArray ∧ a < s.heap.objs.size
  | true, h => let ⟨its, r, p, _⟩ := I.tuple h; ⟨its, r, p, p.lt⟩
  | false, h => let ⟨its, r, p, _⟩ := I.list h; ⟨its, r, p.isList, p.lt⟩
theorem src_inj {X : Cx} {pins : List (Addr × Obj)} {σ : L2.St} {H : Hp} {s : Shared} {a : Addr} {xs ys : List V} (I : Inv X pins σ H s) : ∀ {k : Bool}, SqK X.K H k a xs → SqK X.K H k a ys → xs = ys
  | true, h, q => I.tuple_inj h q
  | false, h, q => I.list_inj h q
/-- the two sources as they stand at each turn, the items in new pairs -/
def ItzM (K : PySem.W.Frag) (k1 k2 : Bool) (a b : Addr) : It :=
  ⟨fun i H => ∃ (xs ys : List V) (x y : V), SqK K H k1 a xs ∧ SqK K H k2 b ys ∧ xs[i]? = some x ∧ ys[i]? = some y,
    fun i H v H' => ∃ T x y, v = .ref T ∧ H T = none ∧ H' = upd H T (.tup [x, y]) ∧ (∀ xs, SqK K H k1 a xs → xs[i]? = some x) ∧ ∀ ys, SqK K H k2 b ys → ys[i]? = some y,
    fun i H => ∃ xs ys : List V, SqK K H k1 a xs ∧ SqK K H k2 b ys ∧ i ≤ xs.length ∧ i ≤ ys.length ∧ (i = xs.length ∨ i = ys.length)⟩
theorem sep_of {z TI TO i1 i2 a b : Addr} (D : ZipApart z TI TO i1 i2 a b) : ZipSep2 z TI TO i1 i2 [i1, a] [i2, b] where
  TIz := D.TIz
  TOz := D.TOz
  TITO := D.TITO
  TIi1 := D.TIi1
  mem1 := by simp
  zf1 := by simp [Ne.symm D.i1z, Ne.symm D.l1z]
  Tf1 := by simp [D.TOi1, Ne.symm D.l1TO]
  TIi2 := D.TIi2
  mem2 := by simp
  zf2 := by simp [Ne.symm D.i2z, Ne.symm D.l2z]
  Tf2 := by simp [D.TOi2, Ne.symm D.l2TO]
  sep1_2 := by simp [D.i12, Ne.symm D.l2i1]
  sep2_1 := by simp [Ne.symm D.i12, Ne.symm D.l1i2]
theorem turn_zipM {P : Program} {w : World} {K : PySem.W.Frag} {elts : List Expr} {kk : Nat} {tpos : Pos} {k1 k2 : Bool} {a b z TI TO i1 i2 : Addr} (D : ZipApart z TI TO i1 i2 a b) :
    Turn P w K (.Tuple elts kk tpos) (ItzM K k1 k2 a b) [z, TI, TO, i1, i2] z (fun i h => IsZip h z TI TO .none ∧ IsPair h TI (.ref i1) (.ref i2) ∧ (∃ x y, IsPair h TO x y) ∧ SrcIt h k1 i1 a i ∧ SrcIt h k2 i2 b i) where
  mem := by simp
  obj := fun i h st c hc => by
    obtain ⟨hz, hTI, ⟨x, y, hTO⟩, h1, h2⟩ := st
    simp only [List.mem_cons, List.not_mem_nil, or_false] at hc
    rcases hc with q | q | q | q | q <;> subst q
    · exact ⟨_, hz, fun v q => nomatch q⟩
    · exact ⟨_, hTI, fun v q => nomatch q⟩
    · exact ⟨_, hTO, fun v q => nomatch q⟩
    · exact src_cell h1
    · exact src_cell h2
  keep := fun i h h' st k => by
    obtain ⟨hz, hTI, ⟨x, y, hTO⟩, h1, h2⟩ := st
    exact ⟨k z (by simp) _ hz, k TI (by simp) _ hTI, ⟨x, y, k TO (by simp) _ hTO⟩, src_at h1 fun o q => k i1 (by simp) o q, src_at h2 fun o q => k i2 (by simp) o q⟩
  item := by
    intro X hP hw hK hc i pins s σ H E I hf st hg
    subst hP hw hK
    obtain ⟨hz, hTI, ⟨x0, y0, hTO⟩, h1, h2⟩ := st
    obtain ⟨xs, ys, x, y, hqx, hqy, hx, hy⟩ := hg
    obtain ⟨its, rv, p, _⟩ := src_inv I hqx
    obtain ⟨its2, rv2, p2, _⟩ := src_inv I hqy
    obtain ⟨u, hu, ru⟩ := rv.get hx
    obtain ⟨u2, hu2, ru2⟩ := rv2.get hy
    have hzl : z < s.heap.objs.size := Heap.lt_size hz
    have l1 : i < its.toArray.size := by simpa using (List.getElem?_eq_some_iff.mp hu).1
    have l2 : i < its2.toArray.size := by simpa using (List.getElem?_eq_some_iff.mp hu2).1
    have hh : X.A.in1.handled = none := I.ok.hd hc
    refine wpAny_pyNext_zipD2_item (sep_of D) (src_draws hh k1 i1 a D.l1i1 its.toArray) (src_draws hh k2 i2 b D.l2i2 its2.toArray) hz hTI hTO ⟨h1, p⟩ ⟨h2, p2⟩ l1 l2 fun w1 w2 h' tk e1 e2 z' TO' h1' h2' hT hsz hk => ?_
    have q1 : w1 = u := Option.some.inj (e1.symm.trans (by simpa using hu))
    have q2 : w2 = u2 := Option.some.inj (e2.symm.trans (by simpa using hu2))
    subst q1 q2
    refine ⟨_, rfl, wpAny_letOwnedTupleGo_zip (s := { s with heap := h', toks := tk }) z' fun h'' z'' sb => ?_⟩
    have hT2 : h''.get? s.heap.objs.size = some { cls := .type "tuple", data := .seq #[w1, w2] } := (sb.2 _ (Nat.ne_of_gt hzl)).trans hT
    have new : ObjOk X.prog X.w (upd H s.heap.objs.size (.tup [x, y])) h'' s.heap.objs.size (.tup [x, y]) :=
      ⟨by show 2 ≤ sizeLine; decide, [w1, w2], .cons ru (.cons ru2 .nil), ⟨_, hT2, rfl, _, rfl⟩⟩
    have I1 : Inv X pins σ (upd H s.heap.objs.size (.tup [x, y])) { s with heap := h'', toks := tk } :=
      I.turnedNew (t' := tk) (ch := [z, TI, TO, i1, i2]) (fun c o hb q => (sb.2 c (fun q' => hb (by simp [q']))).trans (hk c o (fun q' => hb (by simp [q'])) (fun q' => hb (by simp [q'])) (fun q' => hb (by simp [q'])) (fun q' => hb (by simp [q'])) q)) hf (Nat.le_refl _) new
    refine ⟨.ref s.heap.objs.size, _, I1, rfl, ⟨_, x, y, rfl, I.hok.fresh (Nat.le_refl _), rfl, fun l hl => by rw [src_inj I hl hqx]; exact hx, fun l hl => by rw [src_inj I hl hqy]; exact hy⟩, ⟨z'', ?_, ⟨w1, w2, ?_⟩, ?_, ?_⟩, fun c hcm => ?_⟩
    · exact (sb.2 _ D.TIz).trans (hk _ _ D.TIz D.TITO D.TIi1 D.TIi2 hTI)
    · exact (sb.2 _ D.TOz).trans TO'
    · exact src_at h1'.1 fun o q => (sb.2 _ D.i1z).trans q
    · exact src_at h2'.1 fun o q => (sb.2 _ D.i2z).trans q
    · have hlt : c < s.heap.objs.size := by
        simp only [List.mem_cons, List.not_mem_nil, or_false] at hcm
        rcases hcm with q | q | q | q | q <;> subst q
        · exact hzl
        · exact Heap.lt_size hTI
        · exact Heap.lt_size hTO
        · obtain ⟨_, e, _⟩ := src_cell h1; exact Heap.lt_size e
        · obtain ⟨_, e, _⟩ := src_cell h2; exact Heap.lt_size e
      rw [upd_ne (Nat.ne_of_lt hlt)]
      exact (hf c hcm).1
  done := by
    intro X hP hw hK hc i pins s σ H E I hf st hg
    subst hP hw hK
    obtain ⟨hz, hTI, ⟨x0, y0, hTO⟩, h1, h2⟩ := st
    obtain ⟨xs, ys, hqx, hqy, le1, le2, hend⟩ := hg
    obtain ⟨its, rv, p, _⟩ := src_inv I hqx
    obtain ⟨its2, rv2, p2, _⟩ := src_inv I hqy
    have l1 := rv.length
    have l2 := rv2.length
    have hh : X.A.in1.handled = none := I.ok.hd hc
    refine wpAny_pyNext_zipD2_end (i := i) (sep_of D) (src_draws hh k1 i1 a D.l1i1 its.toArray) (src_draws hh k2 i2 b D.l2i2 its2.toArray) hz hTI hTO ⟨h1, p⟩ ⟨h2, p2⟩ (by simp; omega) (by simp; omega) (by simp; omega) fun h' tk hk => ⟨rfl, I.turnedL (t' := tk) (ch := [z, TI, TO, i1, i2]) (fun c o hb q =>
      hk c o (fun q' => hb (by simp [q'])) (fun q' => hb (by simp [q'])) (fun q' => hb (by simp [q'])) (fun q' => hb (by simp [q'])) q) hf⟩
  self := fun A i s Q E st h => wpAny_pyIter_zip st.1 h
def iZipM (K : PySem.W.Frag) (ta : TA) : TI := fun σ H R => ta σ H fun vs H1 => ∃ a b xs ys k1 k2, vs = [.ref a, .ref b] ∧ SqK K H1 k1 a xs ∧ SqK K H1 k2 b ys ∧ R (ItzM K k1 k2 a b) H1
theorem pi_zipM {X : Cx} {e e2 : Expr} {ta : TA} {p pos tpos : Pos} {elts : List Expr} {kk : Nat} (hg : Gl X "zip") (hm : X.mg "zip" = none) (ha : PA X [e, e2] ta)
    (hs : starEach [e, e2] X.env = (false, eval e X.env) :: starEach [e2] X.env := by rfl) (hpl : (backTo pos (starEach [e2] X.env)).any (·.1) = false := by rfl) :
    PI X (.Tuple elts kk tpos) (.Call (.Name "zip" p) [e, e2] [] pos) (iZipM X.K ta) := by
  refine ⟨fun pins s σ H R I h => ?_⟩
  refine Call_ (ld_blt I hg hm PyProof.Rows.boot_zip (PyProof.Rows.callWith_type1 (thn (ha.run pos pins s σ H _ I h) fun us s1 ⟨vs, H1, I1, r1, q1⟩ => ?_) hs hpl))
  obtain ⟨a, b, xs, ys, k1, k2, ex, hqx, hqy, q⟩ := q1
  subst ex
  cases r1 with
  | cons r rr =>
    cases rr with
    | cons r' rr =>
      cases rr
      cases r
      cases r'
      obtain ⟨its, rv, p1, lt1⟩ := src_inv I1 hqx
      obtain ⟨its2, rv2, p2, lt2⟩ := src_inv I1 hqy
      refine zip_begins2 (src_begins k1 a its.toArray) (src_begins k2 b its2.toArray) p1 p2 fun h' hz hTI hTO h1 h2 hsz hk => wpAny_pyIter_zip hz ?_
      have I2 : Inv X pins σ H1 { s1 with heap := h' } := I1.kept (t' := s1.toks) hk
      refine ⟨s1.heap.objs.size + 4, [s1.heap.objs.size + 4, s1.heap.objs.size + 2, s1.heap.objs.size + 3, s1.heap.objs.size, s1.heap.objs.size + 1], _, _, H1, rfl, I2, turn_zipM (PySem.W.ktu_apart s1.heap.objs.size a b lt1 lt2), ⟨hz, hTI, ⟨_, _, hTO⟩, src_start h1, src_start h2⟩, fun c hcm => ?_, q⟩
      have hle : s1.heap.objs.size ≤ c := by
        have e' : c = s1.heap.objs.size + 4 ∨ c = s1.heap.objs.size + 2 ∨ c = s1.heap.objs.size + 3 ∨ c = s1.heap.objs.size ∨ c = s1.heap.objs.size + 1 := by simpa using hcm
        rcases e' with q | q | q | q | q <;> rw [q]
        · exact Nat.le_add_right _ _
        · exact Nat.le_add_right _ _
        · exact Nat.le_add_right _ _
        · exact Nat.le_refl _
        · exact Nat.le_add_right _ _
      exact I1.fpOk hle (I1.hok.fresh hle)
end En

set_option Elab.async false
set_option linter.all false
set_option maxRecDepth 100000
namespace En
open PySem PySem.Spec PyProof.Rows L2

/-- plain data; cell n: the n-th thing that may still change -/
inductive D where
  | non | bl (b : Bool) | int (i : Int) | str (x : Str)
  | tup (ds : List D) | lst (ds : List D)
  | dk (kvs : List (Key × D)) | dt (kvs : List (List Key × D))
  | obj (c : Nat) (fs : List (Str × D))
  | gd (j : Nat)
  | kt (ds : List D)
  | cell (n : Nat)
/-- what a cell holds -/
inductive O where
  | lst (ds : List D) | dk (kvs : List (Key × D)) | dt (kvs : List (List Key × D)) | ins (c : Nat) (fs : List (Str × D))
abbrev Env := List (Option D)
abbrev Store := List O

/-- where the program's classes and its dicts of the top lie -/
structure Lk where
  K : PySem.W.Frag
  ca : Nat → Addr
  ga : Nat → Addr

def KT (K : PySem.W.Frag) (a : Addr) (xs : List V) : Prop :=
  ∃ (o : Obj) (its : Array Value) (n : Nat), K.lookup a = some o ∧ o.cls = .type "tuple" ∧ o.data = .seq its n ∧ its.size ≤ sizeLine ∧ Vals xs its.toList

/-- a list of the text's own -/
def KL (K : PySem.W.Frag) (a : Addr) (xs : List V) : Prop :=
  ∃ (its : Array Value) (n : Nat), K.lookup a = some { cls := .type "list", data := .seq its n } ∧ its.size ≤ sizeLine ∧ Vals xs its.toList
mutual
inductive Rep (L : Lk) (H : Hp) (fb cm : List Addr) : V → D → Prop
  | non : Rep L H fb cm .non .non
  | bl (b : Bool) : Rep L H fb cm (.bl b) (.bl b)
  | int (i : Int) : Rep L H fb cm (.int i) (.int i)
  | str (x : Str) : Rep L H fb cm (.str x) (.str x)
  | tup {a : Addr} {xs : List V} {ds : List D} : a ∉ fb → H a = some (.tup xs) → Reps L H fb cm xs ds → Rep L H fb cm (.ref a) (.tup ds)
  | lst {a : Addr} {xs : List V} {ds : List D} : a ∉ fb → Rd H a (.lst xs) → Reps L H fb cm xs ds → Rep L H fb cm (.ref a) (.lst ds)
  | dk {a : Addr} {xs : List (Key × V)} {ds : List (Key × D)} : a ∉ fb → Rd H a (.dK xs) → xs.map (·.1) = ds.map (·.1) → Reps L H fb cm (xs.map (·.2)) (ds.map (·.2)) → Rep L H fb cm (.ref a) (.dk ds)
  | dt {a : Addr} {xs : List (List Key × V)} {ds : List (List Key × D)} : a ∉ fb → Rd H a (.dT xs) → xs.map (·.1) = ds.map (·.1) → Reps L H fb cm (xs.map (·.2)) (ds.map (·.2)) → Rep L H fb cm (.ref a) (.dt ds)
  | obj {a dx : Addr} {c : Nat} {fs : List (Str × V)} {ds : List (Str × D)} : a ∉ fb → H a = some (.ins (L.ca c) dx fs) → fs.map (·.1) = ds.map (·.1) → Reps L H fb cm (fs.map (·.2)) (ds.map (·.2)) → Rep L H fb cm (.ref a) (.obj c ds)
  | gd (j : Nat) : Rep L H fb cm (.ref (L.ga j)) (.gd j)
  | kt {a : Addr} {xs : List V} {ds : List D} : KT L.K a xs → Reps L H fb cm xs ds → Rep L H fb cm (.ref a) (.kt ds)
  | kl {a : Addr} {xs : List V} {ds : List D} : KL L.K a xs → Reps L H fb cm xs ds → Rep L H fb cm (.ref a) (.lst ds)
  | cell {n : Nat} {a : Addr} : cm[n]? = some a → Rep L H fb cm (.ref a) (.cell n)
inductive Reps (L : Lk) (H : Hp) (fb cm : List Addr) : List V → List D → Prop
  | nil : Reps L H fb cm [] []
  | cons {v : V} {vs : List V} {d : D} {ds : List D} : Rep L H fb cm v d → Reps L H fb cm vs ds → Reps L H fb cm (v :: vs) (d :: ds)
end
/-- what lies in the cell at a -/
def ORep (L : Lk) (H : Hp) (fb cm : List Addr) (a : Addr) : O → Prop
  | .lst ds => ∃ xs, H a = some (.lst xs) ∧ Reps L H fb cm xs ds
  | .dk ds => ∃ xs, H a = some (.dK xs) ∧ xs.map (·.1) = ds.map (·.1) ∧ Reps L H fb cm (xs.map (·.2)) (ds.map (·.2))
  | .dt ds => ∃ xs, H a = some (.dT xs) ∧ xs.map (·.1) = ds.map (·.1) ∧ Reps L H fb cm (xs.map (·.2)) (ds.map (·.2))
  | .ins c ds => ∃ dx fs, H a = some (.ins (L.ca c) dx fs) ∧ fs.map (·.1) = ds.map (·.1) ∧ Reps L H fb cm (fs.map (·.2)) (ds.map (·.2))

/-- all but the cells is as it was -/
def Ext (cm : List Addr) (H H' : Hp) : Prop := ∀ a o, a ∉ cm → H a = some o → H' a = some o
theorem Ext.refl (cm : List Addr) (H : Hp) : Ext cm H H := fun _ _ _ h => h
theorem Ext.rd {cm : List Addr} {H H' : Hp} {a : Addr} {u : HO} (e : Ext cm H H') (h : a ∉ cm) (r : Rd H a u) : Rd H' a u := by
  rcases r with r | ⟨o, r⟩
  · exact .inl (e a _ h r)
  · exact .inr ⟨o, e a _ h r⟩
theorem Rd.some {H : Hp} {a : Addr} {u : HO} (r : Rd H a u) : ∃ o, H a = Option.some o := by
  rcases r with r | ⟨o, r⟩
  · exact ⟨_, r⟩
  · exact ⟨_, r⟩

section
variable {L : Lk} {H H' : Hp} {fb cm ex : List Addr}
/-- one step for all: a map of places -/
theorem rep_map {fb' cm' : List Addr} (ht : ∀ a xs, a ∉ fb → H a = some (.tup xs) → a ∉ fb' ∧ H' a = some (.tup xs)) (hr : ∀ a u, a ∉ fb → Rd H a u → a ∉ fb' ∧ Rd H' a u)
    (hi : ∀ a C dx fs, a ∉ fb → H a = some (.ins C dx fs) → a ∉ fb' ∧ H' a = some (.ins C dx fs)) (hc : ∀ (n : Nat) (a : Addr), cm[n]? = some a → cm'[n]? = some a) :
    (∀ {v : V} {d : D}, Rep L H fb cm v d → Rep L H' fb' cm' v d) ∧ ∀ {vs : List V} {ds : List D}, Reps L H fb cm vs ds → Reps L H' fb' cm' vs ds := by
  have key : ∀ {v : V} {d : D}, Rep L H fb cm v d → Rep L H' fb' cm' v d := fun {v d} h => by
    refine Rep.rec (motive_1 := fun v d _ => Rep L H' fb' cm' v d) (motive_2 := fun vs ds _ => Reps L H' fb' cm' vs ds) .non .bl .int .str ?_ ?_ ?_ ?_ ?_ .gd (fun k _ r => .kt k r) (fun k _ r => .kl k r) ?_ .nil ?_ h
    · exact fun n t _ r => .tup (ht _ _ n t).1 (ht _ _ n t).2 r
    · exact fun n t _ r => .lst (hr _ _ n t).1 (hr _ _ n t).2 r
    · exact fun n t e _ r => .dk (hr _ _ n t).1 (hr _ _ n t).2 e r
    · exact fun n t e _ r => .dt (hr _ _ n t).1 (hr _ _ n t).2 e r
    · exact fun n t e _ r => .obj (hi _ _ _ _ n t).1 (hi _ _ _ _ n t).2 e r
    · exact fun e => .cell (hc _ _ e)
    · exact fun _ _ r rs => .cons r rs
  refine ⟨key, fun {vs ds} h => ?_⟩
  refine Reps.rec (motive_1 := fun v d _ => Rep L H' fb' cm' v d) (motive_2 := fun vs ds _ => Reps L H' fb' cm' vs ds) .non .bl .int .str ?_ ?_ ?_ ?_ ?_ .gd (fun k _ r => .kt k r) (fun k _ r => .kl k r) ?_ .nil ?_ h
  · exact fun n t _ r => .tup (ht _ _ n t).1 (ht _ _ n t).2 r
  · exact fun n t _ r => .lst (hr _ _ n t).1 (hr _ _ n t).2 r
  · exact fun n t e _ r => .dk (hr _ _ n t).1 (hr _ _ n t).2 e r
  · exact fun n t e _ r => .dt (hr _ _ n t).1 (hr _ _ n t).2 e r
  · exact fun n t e _ r => .obj (hi _ _ _ _ n t).1 (hi _ _ _ _ n t).2 e r
  · exact fun e => .cell (hc _ _ e)
  · exact fun _ _ r rs => .cons r rs
theorem rep_ext_ (e : Ext fb H H') : (∀ {v : V} {d : D}, Rep L H fb cm v d → Rep L H' fb cm v d) ∧ ∀ {vs : List V} {ds : List D}, Reps L H fb cm vs ds → Reps L H' fb cm vs ds :=
  rep_map (fun a xs n t => ⟨n, e _ _ n t⟩) (fun a u n r => ⟨n, e.rd n r⟩) (fun a C dx fs n h => ⟨n, e _ _ n h⟩) fun _ _ h => h
theorem Rep.ext {v : V} {d : D} (h : Rep L H fb cm v d) (e : Ext fb H H') : Rep L H' fb cm v d := (rep_ext_ e).1 h
theorem Reps.ext {vs : List V} {ds : List D} (h : Reps L H fb cm vs ds) (e : Ext fb H H') : Reps L H' fb cm vs ds := (rep_ext_ e).2 h
theorem nin_app {a : Addr} {u : HO} (hx : ∀ b ∈ ex, H b = none) (n : a ∉ fb) (r : H a = some u) : a ∉ fb ++ ex := fun z => by
  rcases List.mem_append.mp z with z | z
  · exact n z
  · rw [hx a z] at r; cases r
/-- more is forbidden, all of it new -/
theorem rep_more_ (hx : ∀ b ∈ ex, H b = none) : (∀ {v : V} {d : D}, Rep L H fb cm v d → Rep L H (fb ++ ex) cm v d) ∧ ∀ {vs : List V} {ds : List D}, Reps L H fb cm vs ds → Reps L H (fb ++ ex) cm vs ds :=
  rep_map (fun a xs n t => ⟨nin_app hx n t, t⟩) (fun a u n r => ⟨let ⟨_, q⟩ := Rd.some r; nin_app hx n q, r⟩) (fun a C dx fs n h => ⟨nin_app hx n h, h⟩) fun n a h => h
theorem Rep.more {v : V} {d : D} (h : Rep L H fb cm v d) (hx : ∀ b ∈ ex, H b = none) : Rep L H (fb ++ ex) cm v d := (rep_more_ hx).1 h
theorem Reps.more {vs : List V} {ds : List D} (h : Reps L H fb cm vs ds) (hx : ∀ b ∈ ex, H b = none) : Reps L H (fb ++ ex) cm vs ds := (rep_more_ hx).2 h
/-- less is forbidden -/
theorem rep_less_ {fb' : List Addr} (hs : ∀ b ∈ fb', b ∈ fb) : (∀ {v : V} {d : D}, Rep L H fb cm v d → Rep L H fb' cm v d) ∧ ∀ {vs : List V} {ds : List D}, Reps L H fb cm vs ds → Reps L H fb' cm vs ds :=
  rep_map (fun a xs n t => ⟨fun q => n (hs _ q), t⟩) (fun a u n r => ⟨fun q => n (hs _ q), r⟩) (fun a C dx fs n h => ⟨fun q => n (hs _ q), h⟩) fun n a h => h
theorem Rep.less {fb' : List Addr} {v : V} {d : D} (h : Rep L H fb cm v d) (hs : ∀ b ∈ fb', b ∈ fb) : Rep L H fb' cm v d := (rep_less_ hs).1 h
theorem Reps.less {fb' : List Addr} {vs : List V} {ds : List D} (h : Reps L H fb cm vs ds) (hs : ∀ b ∈ fb', b ∈ fb) : Reps L H fb' cm vs ds := (rep_less_ hs).2 h
/-- more cells -/
theorem rep_wide_ : (∀ {v : V} {d : D}, Rep L H fb cm v d → Rep L H fb (cm ++ ex) v d) ∧ ∀ {vs : List V} {ds : List D}, Reps L H fb cm vs ds → Reps L H fb (cm ++ ex) vs ds :=
  rep_map (fun a xs n t => ⟨n, t⟩) (fun a u n r => ⟨n, r⟩) (fun a C dx fs n h => ⟨n, h⟩) fun n a h => by
    rw [List.getElem?_append_left]
    · exact h
    · exact (List.getElem?_eq_some_iff.mp h).1
theorem Rep.wide {v : V} {d : D} (h : Rep L H fb cm v d) : Rep L H fb (cm ++ ex) v d := rep_wide_.1 h
theorem Reps.wide {vs : List V} {ds : List D} (h : Reps L H fb cm vs ds) : Reps L H fb (cm ++ ex) vs ds := rep_wide_.2 h
theorem ORep.ext {a : Addr} {o : O} (h : ORep L H fb cm a o) (e : Ext fb H H') (s : H' a = H a) : ORep L H' fb cm a o := by
  cases o with
  | lst ds => obtain ⟨xs, h1, h2⟩ := h; exact ⟨xs, s.trans h1, h2.ext e⟩
  | dk ds => obtain ⟨xs, h1, h2, h3⟩ := h; exact ⟨xs, s.trans h1, h2, h3.ext e⟩
  | dt ds => obtain ⟨xs, h1, h2, h3⟩ := h; exact ⟨xs, s.trans h1, h2, h3.ext e⟩
  | ins c ds => obtain ⟨dx, xs, h1, h2, h3⟩ := h; exact ⟨dx, xs, s.trans h1, h2, h3.ext e⟩
theorem ORep.some {a : Addr} {o : O} (h : ORep L H fb cm a o) : ∃ u, H a = Option.some u := by
  cases o with
  | lst ds => obtain ⟨xs, h1, h2⟩ := h; exact ⟨_, h1⟩
  | dk ds => obtain ⟨xs, h1, h2, h3⟩ := h; exact ⟨_, h1⟩
  | dt ds => obtain ⟨xs, h1, h2, h3⟩ := h; exact ⟨_, h1⟩
  | ins c ds => obtain ⟨dx, xs, h1, h2, h3⟩ := h; exact ⟨_, h1⟩
theorem ORep.more {a : Addr} {o : O} (h : ORep L H fb cm a o) (hx : ∀ b ∈ ex, H b = none) : ORep L H (fb ++ ex) cm a o := by
  cases o with
  | lst ds => obtain ⟨xs, h1, h2⟩ := h; exact ⟨xs, h1, h2.more hx⟩
  | dk ds => obtain ⟨xs, h1, h2, h3⟩ := h; exact ⟨xs, h1, h2, h3.more hx⟩
  | dt ds => obtain ⟨xs, h1, h2, h3⟩ := h; exact ⟨xs, h1, h2, h3.more hx⟩
  | ins c ds => obtain ⟨dx, xs, h1, h2, h3⟩ := h; exact ⟨dx, xs, h1, h2, h3.more hx⟩
theorem ORep.less {fb' : List Addr} {a : Addr} {o : O} (h : ORep L H fb cm a o) (hs : ∀ b ∈ fb', b ∈ fb) : ORep L H fb' cm a o := by
  cases o with
  | lst ds => obtain ⟨xs, h1, h2⟩ := h; exact ⟨xs, h1, h2.less hs⟩
  | dk ds => obtain ⟨xs, h1, h2, h3⟩ := h; exact ⟨xs, h1, h2, h3.less hs⟩
  | dt ds => obtain ⟨xs, h1, h2, h3⟩ := h; exact ⟨xs, h1, h2, h3.less hs⟩
  | ins c ds => obtain ⟨dx, xs, h1, h2, h3⟩ := h; exact ⟨dx, xs, h1, h2, h3.less hs⟩
theorem ORep.wide {a : Addr} {o : O} (h : ORep L H fb cm a o) : ORep L H fb (cm ++ ex) a o := by
  cases o with
  | lst ds => obtain ⟨xs, h1, h2⟩ := h; exact ⟨xs, h1, h2.wide⟩
  | dk ds => obtain ⟨xs, h1, h2, h3⟩ := h; exact ⟨xs, h1, h2, h3.wide⟩
  | dt ds => obtain ⟨xs, h1, h2, h3⟩ := h; exact ⟨xs, h1, h2, h3.wide⟩
  | ins c ds => obtain ⟨dx, xs, h1, h2, h3⟩ := h; exact ⟨dx, xs, h1, h2, h3.wide⟩
end

section
variable {L : Lk} {H : Hp} {fb cm : List Addr}
theorem Reps.length : ∀ {vs : List V} {ds : List D}, Reps L H fb cm vs ds → vs.length = ds.length
  | _, _, .nil => rfl
  | _, _, .cons _ r => by rw [List.length_cons, List.length_cons, r.length]
theorem Reps.get : ∀ {vs : List V} {ds : List D} {i : Nat} {d : D}, Reps L H fb cm vs ds → ds[i]? = some d → ∃ v, vs[i]? = some v ∧ Rep L H fb cm v d
  | _, _, _, _, .nil, e => by simp at e
  | _, _, 0, _, .cons r _, e => by simp at e; subst e; exact ⟨_, rfl, r⟩
  | _, _, i + 1, _, .cons _ t, e => by
    obtain ⟨v, h1, h2⟩ := t.get (i := i) (by simpa using e)
    exact ⟨v, by simpa using h1, h2⟩
theorem Reps.getV : ∀ {vs : List V} {ds : List D} {i : Nat} {v : V}, Reps L H fb cm vs ds → vs[i]? = some v → ∃ d, ds[i]? = some d ∧ Rep L H fb cm v d
  | _, _, _, _, .nil, e => by simp at e
  | _, _, 0, _, .cons r _, e => by simp at e; subst e; exact ⟨_, rfl, r⟩
  | _, _, i + 1, _, .cons _ t, e => by
    obtain ⟨v, h1, h2⟩ := t.getV (i := i) (by simpa using e)
    exact ⟨v, by simpa using h1, h2⟩
theorem Reps.append : ∀ {vs ws : List V} {ds es : List D}, Reps L H fb cm vs ds → Reps L H fb cm ws es → Reps L H fb cm (vs ++ ws) (ds ++ es)
  | _, _, _, _, .nil, s => s
  | _, _, _, _, .cons r t, s => .cons r (t.append s)
theorem Reps.one {v : V} {d : D} (r : Rep L H fb cm v d) : Reps L H fb cm [v] [d] := .cons r .nil
theorem Reps.set {v : V} {d : D} (r : Rep L H fb cm v d) : ∀ {vs : List V} {ds : List D} (i : Nat), Reps L H fb cm vs ds → Reps L H fb cm (vs.set i v) (ds.set i d)
  | _, _, _, .nil => .nil
  | _, _, 0, .cons _ t => .cons r t
  | _, _, i + 1, .cons q t => .cons q (Reps.set r i t)
theorem Reps.take : ∀ {vs : List V} {ds : List D} (n : Nat), Reps L H fb cm vs ds → Reps L H fb cm (vs.take n) (ds.take n)
  | _, _, 0, _ => .nil
  | _, _, _ + 1, .nil => .nil
  | _, _, n + 1, .cons r t => .cons r (t.take n)
theorem Reps.drop : ∀ {vs : List V} {ds : List D} (n : Nat), Reps L H fb cm vs ds → Reps L H fb cm (vs.drop n) (ds.drop n)
  | _, _, 0, r => r
  | _, _, _ + 1, .nil => .nil
  | _, _, n + 1, .cons _ t => t.drop n
theorem Reps.eraseIdx : ∀ {vs : List V} {ds : List D} (i : Nat), Reps L H fb cm vs ds → Reps L H fb cm (vs.eraseIdx i) (ds.eraseIdx i)
  | _, _, _, .nil => .nil
  | _, _, 0, .cons _ t => t
  | _, _, i + 1, .cons q t => .cons q (t.eraseIdx i)
theorem Reps.dropLast : ∀ {vs : List V} {ds : List D}, Reps L H fb cm vs ds → Reps L H fb cm vs.dropLast ds.dropLast
  | _, _, .nil => .nil
  | _, _, .cons _ .nil => .nil
  | _, _, .cons q (.cons r t) => .cons q (Reps.dropLast (.cons r t))
theorem Reps.reverse {vs : List V} {ds : List D} (h : Reps L H fb cm vs ds) : Reps L H fb cm vs.reverse ds.reverse := by
  induction ds generalizing vs with
  | nil => cases h; exact .nil
  | cons d ds ih =>
    cases h with
    | cons r t =>
      rw [List.reverse_cons, List.reverse_cons]
      exact (ih t).append (.one r)
theorem Reps.nil_iff {vs : List V} {ds : List D} (h : Reps L H fb cm vs ds) : vs.isEmpty = ds.isEmpty := by
  cases h <;> rfl
end
structure Valid (L : Lk) (H : Hp) (fb cm : List Addr) (st : Store) : Prop where
  len : cm.length = st.length
  nd : cm.Nodup
  sub : ∀ a ∈ cm, a ∈ fb
  trk : ∀ a ∈ fb, ∃ u, H a = some u
  cells : ∀ (n : Nat) (o : O), st[n]? = some o → ∃ a, cm[n]? = some a ∧ ORep L H fb cm a o
structure Slots (L : Lk) (H : Hp) (fb cm : List Addr) (env : Env) (σ : L2.St) : Prop where
  len : env.length = σ.length
  at_ : ∀ (i : Nat) (d : D), env[i]? = some (some d) → ∃ v, σ[i]? = some (some v) ∧ Rep L H fb cm v d
structure Step (H : Hp) (cm : List Addr) (H' : Hp) (cm' : List Addr) : Prop where
  ext : Ext cm H H'
  new : ∃ ex, cm' = cm ++ ex ∧ ∀ a ∈ ex, H a = none
  trk : ∀ a u, H a = some u → ∃ u', H' a = some u'
theorem Step.refl (H : Hp) (cm : List Addr) : Step H cm H cm := ⟨.refl _ _, ⟨[], by simp, by simp⟩, fun _ u h => ⟨u, h⟩⟩
theorem Step.free {H H' : Hp} {cm cm' : List Addr} (s : Step H cm H' cm') {a : Addr} (h : H' a = none) : H a = none := by
  cases q : H a with
  | none => rfl
  | some u =>
    obtain ⟨u', h'⟩ := s.trk a u q
    rw [h] at h'; cases h'
theorem Step.nin {H H' : Hp} {cm cm' : List Addr} (s : Step H cm H' cm') {a : Addr} {u : HO} (n : a ∉ cm) (h : H a = some u) : a ∉ cm' := by
  obtain ⟨ex, rfl, hx⟩ := s.new
  exact nin_app hx n h
theorem Step.trans {H H1 H2 : Hp} {cm cm1 cm2 : List Addr} (s : Step H cm H1 cm1) (t : Step H1 cm1 H2 cm2) : Step H cm H2 cm2 := by
  refine ⟨fun a o n h => t.ext a o (s.nin n h) (s.ext a o n h), ?_, fun a u h => ?_⟩
  · obtain ⟨ex, rfl, hx⟩ := s.new
    obtain ⟨ex2, rfl, hx2⟩ := t.new
    refine ⟨ex ++ ex2, by rw [List.append_assoc], fun a ha => ?_⟩
    rcases List.mem_append.mp ha with z | z
    · exact hx a z
    · exact s.free (hx2 a z)
  · obtain ⟨u1, h1⟩ := s.trk a u h
    exact t.trk a u1 h1
section
variable {L : Lk} {H H' : Hp} {fx fb cm cm' : List Addr} {st : Store} {env : Env} {σ : L2.St}
theorem Rep.step {v : V} {d : D} (h : Rep L H (fx ++ cm) cm v d) (s : Step H cm H' cm') : Rep L H' (fx ++ cm') cm' v d := by
  obtain ⟨ex, rfl, hx⟩ := s.new
  rw [← List.append_assoc]
  exact ((h.more hx).ext fun a o n => s.ext a o fun z => n (List.mem_append_left _ (List.mem_append_right _ z))).wide
theorem Reps.step {vs : List V} {ds : List D} (h : Reps L H (fx ++ cm) cm vs ds) (s : Step H cm H' cm') : Reps L H' (fx ++ cm') cm' vs ds := by
  obtain ⟨ex, rfl, hx⟩ := s.new
  rw [← List.append_assoc]
  exact ((h.more hx).ext fun a o n => s.ext a o fun z => n (List.mem_append_left _ (List.mem_append_right _ z))).wide
theorem Slots.step (h : Slots L H (fx ++ cm) cm env σ) (s : Step H cm H' cm') : Slots L H' (fx ++ cm') cm' env σ := ⟨h.len, fun i d e => let ⟨v, h1, h2⟩ := h.at_ i d e; ⟨v, h1, h2.step s⟩⟩
theorem Slots.set (h : Slots L H fb cm env σ) {v : V} {d : D} (r : Rep L H fb cm v d) (i : Nat) : Slots L H fb cm (env.set i (some d)) (σ.set i (some v)) := by
  refine ⟨by rw [List.length_set, List.length_set, h.len], fun j d' e => ?_⟩
  by_cases hj : i = j
  · subst hj
    by_cases hi : i < env.length
    · rw [List.getElem?_set_self hi] at e
      cases e
      exact ⟨v, by rw [List.getElem?_set_self (by rw [← h.len]; exact hi)], r⟩
    · rw [List.getElem?_eq_none (by rw [List.length_set]; omega)] at e
      cases e
  · rw [List.getElem?_set_ne hj] at e ⊢
    exact h.at_ j d' e
/-- a slot is forgotten -/
theorem Slots.unset (h : Slots L H fb cm env σ) (i : Nat) : Slots L H fb cm (env.set i none) (σ.set i none) := by
  refine ⟨by rw [List.length_set, List.length_set, h.len], fun j d' e => ?_⟩
  by_cases hj : i = j
  · subst hj
    by_cases hi : i < env.length
    · rw [List.getElem?_set_self hi] at e
      cases e
    · rw [List.getElem?_eq_none (by rw [List.length_set]; omega)] at e
      cases e
  · rw [List.getElem?_set_ne hj] at e ⊢
    exact h.at_ j d' e
theorem Valid.cell (h : Valid L H fb cm st) {n : Nat} {o : O} {a : Addr} (e : st[n]? = some o) (c : cm[n]? = some a) : ORep L H fb cm a o := by
  obtain ⟨b, h1, h2⟩ := h.cells n o e
  rw [h1] at c
  cases c
  exact h2
theorem Valid.nin (h : Valid L H fb cm st) {a : Addr} (n : H a = none) : a ∉ fb := fun z => by
  obtain ⟨u, q⟩ := h.trk a z
  rw [n] at q
  cases q
/-- all that stood stands -/
theorem Valid.keep (h : Valid L H fb cm st) (e : ∀ a u, H a = Option.some u → H' a = Option.some u) : Valid L H' fb cm st :=
  ⟨h.len, h.nd, h.sub, fun a m => let ⟨u, q⟩ := h.trk a m; ⟨u, e a u q⟩, fun n o q => by
    obtain ⟨a, h1, h2⟩ := h.cells n o q
    obtain ⟨u, h3⟩ := h2.some
    exact ⟨a, h1, h2.ext (fun b o _ => e b o) ((e a u h3).trans h3.symm)⟩⟩
theorem Valid.less {fb' : List Addr} (h : Valid L H fb cm st) (hs : ∀ b ∈ fb', b ∈ fb) (hc : ∀ a ∈ cm, a ∈ fb') : Valid L H fb' cm st :=
  ⟨h.len, h.nd, hc, fun a m => h.trk a (hs a m), fun n o q => let ⟨a, h1, h2⟩ := h.cells n o q; ⟨a, h1, h2.less hs⟩⟩
theorem Step.keep (e : ∀ a u, H a = some u → H' a = some u) : Step H cm H' cm := ⟨fun a o _ => e a o, ⟨[], by simp, by simp⟩, fun a u h => ⟨u, e a u h⟩⟩
theorem keep_new {p : Addr} {o : HO} (n : H p = none) : ∀ a u, H a = some u → upd H p o a = some u := fun a u h => by
  rw [upd_ne (ne_of_none h n)]
  exact h
/-- a new thing, not to be known by the rest -/
theorem Valid.new {p : Addr} {u : HO} (h : Valid L H fb cm st) (n : H p = none) : Valid L (upd H p u) (fb ++ [p]) cm st :=
  ⟨h.len, h.nd, fun a m => List.mem_append_left _ (h.sub a m), fun a m => by
    rcases List.mem_append.mp m with m | m
    · obtain ⟨w, q⟩ := h.trk a m
      exact ⟨w, keep_new n a w q⟩
    · rw [List.mem_singleton.mp m]
      exact ⟨u, upd_same⟩, fun m o q => by
    have hx : ∀ b ∈ [p], H b = none := fun b z => by
      rw [List.mem_singleton.mp z]
      exact n
    obtain ⟨a, h1, h2⟩ := h.cells m o q
    obtain ⟨w, h3⟩ := h2.some
    exact ⟨a, h1, (h2.more hx).ext (fun b o _ => keep_new n b o) ((keep_new n a w h3).trans h3.symm)⟩⟩
theorem Reps.new {p : Addr} {u : HO} {vs : List V} {ds : List D} (h : Reps L H fb cm vs ds) (n : H p = none) : Reps L (upd H p u) (fb ++ [p]) cm vs ds :=
  (h.more fun b z => by rw [List.mem_singleton.mp z]; exact n).ext fun b o _ => keep_new n b o
theorem Rep.new {p : Addr} {u : HO} {v : V} {d : D} (h : Rep L H fb cm v d) (n : H p = none) : Rep L (upd H p u) (fb ++ [p]) cm v d :=
  (h.more fun b z => by rw [List.mem_singleton.mp z]; exact n).ext fun b o _ => keep_new n b o
end

end En

set_option Elab.async false
set_option linter.all false
set_option maxRecDepth 100000
namespace En
open PySem PySem.Spec PyProof.Rows L2

inductive Out (α : Type) where
  | ok (a : α) (s : Store) | ex (x : D) (s : Store) | no
def Out.bind {α β : Type} : Out α → (α → Store → Out β) → Out β
  | .ok a s, f => f a s
  | .ex x s, _ => .ex x s
  | .no, _ => .no
def Out.of {α : Type} (s : Store) : Option α → Out α
  | some a => .ok a s
  | none => .no
@[simp] theorem Out.bind_ok {α β : Type} (a : α) (s : Store) (f : α → Store → Out β) : (Out.ok a s).bind f = f a s := rfl
@[simp] theorem Out.bind_no {α β : Type} (f : α → Store → Out β) : (Out.no : Out α).bind f = .no := rfl
@[simp] theorem Out.bind_ex {α β : Type} (x : D) (s : Store) (f : α → Store → Out β) : (Out.ex x s : Out α).bind f = .ex x s := rfl
@[simp] theorem Out.of_some {α : Type} (s : Store) (a : α) : Out.of s (some a) = .ok a s := rfl
@[simp] theorem Out.of_none {α : Type} (s : Store) : Out.of s (none : Option α) = .no := rfl
theorem Out.bind_is {α β : Type} {x : Out α} {f : α → Store → Out β} {b : β} {s : Store} (h : x.bind f = .ok b s) : ∃ a s1, x = .ok a s1 ∧ f a s1 = .ok b s := by
  cases x with
  | ok a s1 => exact ⟨a, s1, rfl, h⟩
  | ex x s1 => cases h
  | no => cases h
theorem Out.of_is {α : Type} {x : Option α} {a : α} {s s' : Store} (h : Out.of s x = .ok a s') : x = some a ∧ s' = s := by
  cases x with
  | some b => cases h; exact ⟨rfl, rfl⟩
  | none => cases h

/-- a result: a value, or a new thing that nobody else knows -/
inductive R where
  | v (d : D) | n (o : O)
def O.d : O → D
  | .lst ds => .lst ds | .dk kvs => .dk kvs | .dt kvs => .dt kvs | .ins c fs => .obj c fs
def R.d : R → D
  | .v d => d
  | .n o => o.d
@[simp] theorem R.d_v (d : D) : (R.v d).d = d := rfl
@[simp] theorem R.d_lst (ds : List D) : (R.n (.lst ds)).d = .lst ds := rfl
@[simp] theorem R.d_dk (ds : List (Key × D)) : (R.n (.dk ds)).d = .dk ds := rfl
@[simp] theorem R.d_dt (ds : List (List Key × D)) : (R.n (.dt ds)).d = .dt ds := rfl
@[simp] theorem R.d_ins (c : Nat) (fs : List (Str × D)) : (R.n (.ins c fs)).d = .obj c fs := rfl

mutual
/-- all cells in it are below b -/
def cb (b : Nat) : D → Bool
  | .tup ds => cbs b ds
  | .kt ds => cbs b ds
  | .lst ds => cbs b ds
  | .dk kvs => cbk b kvs
  | .dt kvs => cbt b kvs
  | .obj _ fs => cbf b fs
  | .cell n => decide (n < b)
  | _ => true
def cbs (b : Nat) : List D → Bool
  | [] => true
  | d :: ds => cb b d && cbs b ds
def cbk (b : Nat) : List (Key × D) → Bool
  | [] => true
  | (_, d) :: ds => cb b d && cbk b ds
def cbt (b : Nat) : List (List Key × D) → Bool
  | [] => true
  | (_, d) :: ds => cb b d && cbt b ds
def cbf (b : Nat) : List (Str × D) → Bool
  | [] => true
  | (_, d) :: ds => cb b d && cbf b ds
end
def cbO (b : Nat) : O → Bool
  | .lst ds => cbs b ds
  | .dk kvs => cbk b kvs
  | .dt kvs => cbt b kvs
  | .ins _ fs => cbf b fs
/-- d may be written into cell n by code whose own cells begin at b -/
def okW (b n : Nat) (d : D) : Bool := decide (b ≤ n) || cb 0 d

def seqOf (s : Store) : D → Option (Bool × List D)
  | .lst ds => some (false, ds)
  | .tup ds => some (true, ds)
  | .kt ds => some (true, ds)
  | .cell n => match s[n]? with
    | some (.lst ds) => some (false, ds)
    | _ => none
  | _ => none
def dkOf (s : Store) : D → Option (List (Key × D))
  | .dk kvs => some kvs
  | .cell n => match s[n]? with
    | some (.dk kvs) => some kvs
    | _ => none
  | _ => none
def dtOf (s : Store) : D → Option (List (List Key × D))
  | .dt kvs => some kvs
  | .cell n => match s[n]? with
    | some (.dt kvs) => some kvs
    | _ => none
  | _ => none
def objOf (s : Store) : D → Option (Nat × List (Str × D))
  | .obj c fs => some (c, fs)
  | .cell n => match s[n]? with
    | some (.ins c fs) => some (c, fs)
    | _ => none
  | _ => none
def keyOf : D → Option Key
  | .int i => some (.inl i)
  | .str x => some (.inr x)
  | _ => none
def keyD : Key → D
  | .inl i => .int i
  | .inr x => .str x
def keysOf : List D → Option (List Key)
  | [] => some []
  | d :: ds => (keyOf d).bind fun k => (keysOf ds).map fun ks => k :: ks
def intsOf : List D → Option (List Int)
  | [] => some []
  | .int i :: ds => (intsOf ds).map fun ks => i :: ks
  | _ :: _ => none
def blsOf : List D → Option (List Bool)
  | [] => some []
  | .bl i :: ds => (blsOf ds).map fun ks => i :: ks
  | _ :: _ => none
def strsOf : List D → Option (List Str)
  | [] => some []
  | .str i :: ds => (strsOf ds).map fun ks => i :: ks
  | _ :: _ => none
/-- a flat value: none, bool, int, text -/
def flat : D → Option V
  | .non => some .non
  | .bl b => some (.bl b)
  | .int i => some (.int i)
  | .str x => some (.str x)
  | _ => none
def flats : List D → Option (List V)
  | [] => some []
  | d :: ds => (flat d).bind fun k => (flats ds).map fun ks => k :: ks
mutual
def toPy : D → Option PyData
  | .non => some .none
  | .bl b => some (.bool b)
  | .int i => some (.int i)
  | .str x => some (.str x)
  | .tup ds => (toPys ds).map .tuple
  | .kt ds => (toPys ds).map .tuple
  | .lst ds => (toPys ds).map .list
  | _ => none
def toPys : List D → Option (List PyData)
  | [] => some []
  | d :: ds => (toPy d).bind fun p => (toPys ds).map fun ps => p :: ps
end
/-- the content of a list cell in place of the cell -/
def thaw (s : Store) (d : D) : D := match d with
  | .cell n => match s[n]? with
    | some (.lst ds) => .lst ds
    | _ => d
  | _ => d
/-- == -/
def eqD (s : Store) (x y : D) : Option Bool :=
  match flat x, flat y with
  | some a, some b => if scal a b then some (decide (a = b)) else none
  | _, _ => (toPy (thaw s x)).bind fun p => (toPy (thaw s y)).bind fun q => if SeqAt.shaped p && SeqAt.shaped q then some (PyData.eqv p q) else none
/-- truth -/
def tru (s : Store) (d : D) : Option Bool := match d with
  | .non => some false
  | .bl b => some b
  | .int i => some (i != 0)
  | .str x => if x.length ≤ 100000 then some ((x.length : Int) != 0) else none
  | d => match seqOf s d with
    | some (_, ds) => some !ds.isEmpty
    | none => (dkOf s d).map fun kvs => !kvs.isEmpty
def lenD (s : Store) (d : D) : Option Nat := match d with
  | .str x => if x.length ≤ 100000 then some x.length else none
  | d => match seqOf s d with
    | some (_, ds) => some ds.length
    | none => (dkOf s d).map fun kvs => kvs.length
def lookK {κ α : Type} [DecidableEq κ] (kvs : List (κ × α)) (k : κ) : Option α := (kvs.find? fun kv => decide (kv.1 = k)).map (·.2)
/-- what a dict holds at a key: (it can be asked, what it holds) -/
def dget (gd : Nat → List (Str × D)) (s : Store) (d k : D) : Option (Option D) := match d with
  | .gd j => match k with
    | .str x => (lookK (gd j) x).map some
    | _ => none
  | d => match dkOf s d with
    | some kvs => (keyOf k).map fun q => lookK kvs q
    | none => match dtOf s d, k with
      | some kvs, .tup ks => (keysOf ks).map fun q => lookK kvs q
      | _, _ => none

inductive Op2 where
  | add | sub | mul | fdiv | mod | pow | shl | shr | band | bor | bxor
  deriving DecidableEq
inductive Cmp where
  | eq | ne | lt | le | gt | ge | is_ | isNot | in_ | notIn
  deriving DecidableEq
def CMulD (i j : Int) : Bool := decide ((-(2 ^ 64) < i ∧ i < 2 ^ 64) ∨ (-(2 ^ 64) < j ∧ j < 2 ^ 64))
def CPowD (i j : Int) : Bool := decide (0 ≤ j ∧ j ≤ 1000000 ∧ i.natAbs < 2 ^ 64)
def intOp (o : Op2) (i j : Int) : Option Int := match o with
  | .add => some (i + j)
  | .sub => some (i - j)
  | .mul => if CMulD i j then some (i * j) else none
  | .fdiv => if decide (j ≠ 0 ∧ j.natAbs < 1073741824) then some (i.fdiv j) else none
  | .mod => if decide (j ≠ 0) then some (i.fmod j) else none
  | .pow => if CPowD i j then some (i ^ j.toNat) else none
  | .shl => if CPowD i j then some (i * 2 ^ j.toNat) else none
  | .shr => if decide (0 ≤ j) then some (i / 2 ^ j.toNat) else none
  | .band => some (Builtin.bitAnd i j)
  | .bor => some (Builtin.bitOr i j)
  | .bxor => some (Builtin.bitXor i j)
def isTupD : D → Bool
  | .tup _ => true
  | _ => false
def opR (o : Op2) (x y : D) (s : Store) : Option R := match x, y with
  | .int i, .int j => (intOp o i j).map fun k => .v (.int k)
  | .str a, .str b => match o with
    | .add => if a.length + b.length ≤ 100000 then some (.v (.str (a ++ b))) else none
    | _ => none
  | x, y => match o with
    | .add => match seqOf s x, seqOf s y with
      | some (false, xs), some (false, ys) => if xs.length + ys.length ≤ 100000 then some (.n (.lst (xs ++ ys))) else none
      | some (true, xs), some (true, ys) => if xs.length + ys.length ≤ 100000 ∧ (isTupD x && isTupD y || !xs.isEmpty && !ys.isEmpty) = true then some (.v (.tup (xs ++ ys))) else none
      | _, _ => none
    | .mul => match seqOf s x, y with
      | some (false, xs), .int k => if decide (-(2 ^ 63) ≤ k ∧ k < 2 ^ 63 ∧ xs.length * k.toNat ≤ 100000) then some (.n (.lst (List.replicate k.toNat xs).flatten)) else none
      | _, _ => none
    | _ => none
def intCmp (c : Cmp) (i j : Int) : Option Bool := match c with
  | .lt => some (decide (i < j))
  | .le => some (decide (i ≤ j))
  | .gt => some (decide (j < i))
  | .ge => some (decide (j ≤ i))
  | _ => none
def isNon : D → Bool
  | .non => true
  | _ => false
def inR (gd : Nat → List (Str × D)) (x y : D) (s : Store) : Option Bool := match seqOf s y with
  | some (_, ds) => (flat x).bind fun v => (flats ds).map fun vs => inV v vs
  | none => match x, y with
    | .str i, .str j => some (!(Builtin.Str.occurrences j i 0 j.length 1).isEmpty)
    | x, .gd _ => none
    | x, y => (dget gd s y x).map fun o => o.isSome
def cmpR (gd : Nat → List (Str × D)) (c : Cmp) (x y : D) (s : Store) : Option Bool := match c with
  | .eq => eqD s x y
  | .ne => (eqD s x y).map (!·)
  | .is_ => if isNon y then some (isNon x) else none
  | .isNot => if isNon y then some !(isNon x) else none
  | .in_ => inR gd x y s
  | .notIn => (inR gd x y s).map (!·)
  | c => match x, y with
    | .int i, .int j => intCmp c i j
    | .str i, .str j => if c = .lt then some (decide (i.cps.toList < j.cps.toList)) else none
    | .tup xs, .tup ys => if c = .lt then (intsOf xs).bind fun is => (intsOf ys).map fun js => HT.lexLt is js else none
    | _, _ => none

inductive Ty where
  | non | bool | int | str | tuple | list | dict | own (c : Nat)
  deriving DecidableEq
def tyOf (s : Store) : D → Option Ty
  | .non => some .non
  | .bl _ => some .bool
  | .int _ => some .int
  | .str _ => some .str
  | .tup _ => some .tuple
  | .kt _ => some .tuple
  | .lst _ => some .list
  | .dk _ => some .dict
  | .dt _ => none
  | .obj c _ => some (.own c)
  | .gd _ => none
  | .cell n => match s[n]? with
    | some (.lst _) => some .list
    | some (.dk _) => some .dict
    | some (.dt _) => some .dict
    | some (.ins c _) => some (.own c)
    | none => none
def Ty.isB : Ty → Bool
  | .own _ => false
  | _ => true
/-- isinstance: among the built-in types -/
def isTy (t u : Ty) : Bool := decide (t = u) || (decide (t = .bool) && decide (u = .int))
inductive Blt where
  | len | abs | max2 | min2 | int1 | sum | maxL | minL | any | all | sorted | list | tuple | str | range_
  deriving DecidableEq
def isort : List Int → List Int
  | [] => []
  | x :: xs => ins x (isort xs)
where ins (x : Int) : List Int → List Int
  | [] => [x]
  | y :: ys => if x ≤ y then x :: y :: ys else y :: ins x ys
def maxI : List Int → Option Int
  | [] => none
  | x :: xs => some (xs.foldl max x)
def minI : List Int → Option Int
  | [] => none
  | x :: xs => some (xs.foldl min x)
def bltR (b : Blt) (xs : List D) (s : Store) : Option R := match b, xs with
  | .len, [x] => (lenD s x).map fun (n : Nat) => R.v (.int (n : Int))
  | .abs, [.int i] => some (.v (.int (if i < 0 then -i else i)))
  | .max2, [.int i, .int j] => some (.v (.int (if j > i then j else i)))
  | .min2, [.int i, .int j] => some (.v (.int (if j < i then j else i)))
  | .int1, [.int i] => some (.v (.int i))
  | .int1, [.bl k] => some (.v (.int (if k then 1 else 0)))
  | .sum, [x] => match seqOf s x with
    | some (false, ds) => (intsOf ds).map fun ns => .v (.int ns.sum)
    | _ => none
  | .maxL, [x] => match seqOf s x with
    | some (false, ds) => (intsOf ds).bind fun ns => (maxI ns).map fun m => .v (.int m)
    | _ => none
  | .minL, [x] => match seqOf s x with
    | some (false, ds) => (intsOf ds).bind fun ns => (minI ns).map fun m => .v (.int m)
    | _ => none
  | .any, [x] => match seqOf s x with
    | some (false, ds) => (blsOf ds).map fun ns => .v (.bl (ns.any id))
    | _ => none
  | .all, [x] => match seqOf s x with
    | some (false, ds) => (blsOf ds).map fun ns => .v (.bl (ns.all id))
    | _ => none
  | .list, [x] => match seqOf s x with
    | some (_, ds) => some (.n (.lst ds))
    | none => (dkOf s x).map fun kvs => .n (.lst (kvs.map fun kv => keyD kv.1))
  | .tuple, [x] => match seqOf s x with
    | some (k, ds) => if k = false ∨ isTupD x = true then some (.v (.tup ds)) else some (.v x)
    | _ => none
  | .str, [.int i] => if i.natAbs.log2 < 1920 then some (.v (.str (toString i))) else none
  | _, _ => none

inductive Mt where
  | append | pop0 | popAt | extend | reverse | clear | index | get1 | get2 | insert
  deriving DecidableEq
/-- a list in a cell is changed -/
def onLst (b : Nat) (s : Store) (x : D) (f : List D → Option (D × List D)) (w : D) : Out R := match x with
  | .cell n => match s[n]? with
    | some (.lst ds) => match f ds with
      | some (r, ds') => if okW b n w && decide (ds'.length ≤ 100000) then .ok (.v r) (s.set n (.lst ds')) else .no
      | none => .no
    | _ => .no
  | _ => .no
def firstEq (v : V) : List V → Option Nat
  | [] => none
  | x :: xs => if eqV x v then some 0 else (firstEq v xs).map (· + 1)
def mtR (gd : Nat → List (Str × D)) (b : Nat) (m : Mt) (x : D) (xs : List D) (s : Store) : Out R := match m, xs with
  | .append, [y] => onLst b s x (fun ds => some (.non, ds ++ [y])) y
  | .pop0, [] => onLst b s x (fun ds => ds[ds.length - 1]?.map fun d => (d, ds.dropLast)) .non
  | .popAt, [.int i] => onLst b s x (fun ds => if decide (-(2 ^ 63) ≤ i ∧ i < 2 ^ 63) then (ixN ds.length i).bind fun k => ds[k]?.map fun d => (d, ds.eraseIdx k) else none) .non
  | .reverse, [] => onLst b s x (fun ds => some (.non, ds.reverse)) .non
  | .clear, [] => onLst b s x (fun _ => some (.non, [])) .non
  | .extend, [y] => match seqOf s y with
    | some (false, es) => onLst b s x (fun ds => some (.non, ds ++ es)) (.lst es)
    | _ => .no
  | .index, [y] => match seqOf s x with
    | some (false, ds) => Out.of s ((flat y).bind fun v => (flats ds).bind fun vs => (firstEq v vs).map fun (j : Nat) => R.v (.int (j : Int)))
    | _ => .no
  | .get1, [k] => Out.of s ((dget gd s x k).map fun o => .v (o.getD .non))
  | .get2, [k, y] => Out.of s ((dget gd s x k).map fun o => .v (o.getD y))
  | _, _ => .no
def isLst (s : Store) (d : D) : Bool := match seqOf s d with
  | some (false, _) => true
  | _ => false
/-- o[i] -/
def ixR (gd : Nat → List (Str × D)) (x i : D) (s : Store) : Option R := match x, i with
  | .str z, .int i => if z.length ≤ 100000 then (atI z.cps.toList i).map fun c => .v (.str ⟨#[c]⟩) else none
  | x, i => match seqOf s x, i with
    | some (_, ds), .int i => (atI ds i).map .v
    | _, i => match dget gd s x i with
      | some (some d) => some (.v d)
      | _ => none
/-- o[lo:hi] -/
def slR (x : D) (lo hi : Option Int) (s : Store) : Option R := match seqOf s x with
  | some (false, ds) => some (.n (.lst ((ds.drop (HT.sIx ds.length 0 lo)).take (HT.sIx ds.length ds.length hi - HT.sIx ds.length 0 lo))))
  | some (true, ds) => if isTupD x = true ∨ ¬ (HT.sIx ds.length 0 lo = 0 ∧ HT.sIx ds.length ds.length hi = ds.length) then
      some (.v (.tup ((ds.drop (HT.sIx ds.length 0 lo)).take (HT.sIx ds.length ds.length hi - HT.sIx ds.length 0 lo)))) else some (.v x)
  | none => none
def putK {κ α : Type} [DecidableEq κ] (kvs : List (κ × α)) (k : κ) (v : α) : List (κ × α) :=
  if kvs.any fun kv => decide (kv.1 = k) then kvs.map fun kv => if kv.1 = k then (kv.1, v) else kv else kvs ++ [(k, v)]
/-- o[i] = d -/
def setR (b : Nat) (x i d : D) (s : Store) : Out Unit := match x with
  | .cell n => match s[n]? with
    | some (.lst ds) => match i with
      | .int k => match ixN ds.length k with
        | some j => if okW b n d then .ok () (s.set n (.lst (ds.set j d))) else .no
        | none => .no
      | _ => .no
    | some (.dk kvs) => match keyOf i with
      | some k => if okW b n d && decide (kvs.length < 100000) then .ok () (s.set n (.dk (putK kvs k d))) else .no
      | none => .no
    | some (.dt kvs) => match i with
      | .tup ks => match keysOf ks with
        | some k => if okW b n d && decide (kvs.length < 100000) then .ok () (s.set n (.dt (putK kvs k d))) else .no
        | none => .no
      | _ => .no
    | _ => .no
  | _ => .no
def fldR (na : Nat → Str → Bool) (x : D) (f : Str) (s : Store) : Option R := (objOf s x).bind fun p => if na p.1 f then (p.2.lookup f).map .v else none
def putA {α : Type} (f : Str) (v : α) : List (Str × α) → List (Str × α)
  | [] => [(f, v)]
  | (g, w) :: r => if g = f then (g, v) :: r else (g, w) :: putA f v r
/-- o.f = d -/
def setF (na : Nat → Str → Bool) (b : Nat) (x : D) (f : Str) (d : D) (s : Store) : Out Unit := match x with
  | .cell n => match s[n]? with
    | some (.ins c fs) => if na c f && okW b n d && decide (fs.length < 900) then .ok () (s.set n (.ins c (putA f d fs))) else .no
    | _ => .no
  | _ => .no

mutual
inductive IE where
  | var (i : Nat) | int (i : Int) | str (x : Str) | bl (b : Bool) | non
  | gl (j : Nat)
  | op (o : Op2) (a c : IE) | neg (a : IE)
  | cmp (o : Cmp) (a c : IE) | chain (o o' : Cmp) (a c d : IE)
  | and (a c : IE) | or (a c : IE) | not (a : IE)
  | ite (t : IT) (a c : IE)
  | tup (es : IEs) | lst (es : IEs) | dnewK | dnewT | disp (k v : IE)
  | ix (a i : IE) | sl (a : IE) (lo hi : IO)
  | call (j : Nat) (es : IEs) | callS (j : Nat) (es : IEs)
  | blt (f : Blt) (es : IEs)
  | isin (a : IE) (t : Ty)
  | mt (m : Mt) (a : IE) (es : IEs)
  | fld (a : IE) (f : Str)
  | mcall (m : Str) (a : IE) (es : IEs)
  | make (c : Nat) (es : IEs) | makeM (c : Nat) (es : IEs)
  | mu (a : IE)
  | lc (own : List (Str × Nat)) (g : IG) (it : II) (t : IC) (e : IE)
  | lc2 (own : List (Str × Nat)) (vs : List Nat) (g : IG) (it : II) (t : IC) (g' : IG) (it' : II) (t' : IC) (e : IE)
inductive IEs where
  | nil | cons (e : IE) (es : IEs)
/-- a test -/
inductive IT where
  | e (a : IE) | and (t u : IT) | or (t u : IT) | not (t : IT)
/-- a part of a slice -/
inductive IO where
  | none | some (e : IE)
/-- what is walked -/
inductive II where
  | seq (a : IE) | rng1 (a : IE) | rng2 (a c : IE) | rng3 (a c d : IE) | enum (a : IE) | zip (a c : IE)
/-- a comprehension's test -/
inductive IC where
  | yes | t (t : IT)
/-- a target -/
inductive IG where
  | name (i : Nat) | tup (gs : IGs) | sub (a i : IE) | fld (a : IE) (f : Str)
inductive IGs where
  | nil | cons (g : IG) (gs : IGs)
end
mutual
inductive IS where
  | asg (g : IG) (e : IE)
  | par (i j : Nat) (a c : IE)
  | aug (i : Nat) (o : Op2) (e : IE)
  | expr (e : IE)
  | ret (e : IE) | retF (e : IE) | retN
  | ifs (t : IT) (a c : ISs)
  | while_ (t : IT) (a : ISs)
  | for_ (g : IG) (it : II) (a : ISs)
  | brk | cont | pass | never
inductive ISs where
  | nil | cons (s : IS) (ss : ISs)
end

structure Glo where
  fn : Nat → Nat → List D → Store → Out R
  ini : Nat → Nat → List D → Store → Out R
  gl : Nat → D
  gd : Nat → List (Str × D)
  me : Nat → Str → Option Nat
  na : Nat → Str → Bool
  F : Nat

inductive Itm where
  | l (ds : List D) | c (n : Nat)
def wipeE (e : Env) : List Nat → Env
  | [] => e
  | v :: vs => (wipeE e vs).set v none
def pairs2 : List D → List D → List D
  | x :: xs, y :: ys => .tup [x, y] :: pairs2 xs ys
  | _, _ => []
def enumL : Nat → List D → List D
  | _, [] => []
  | i, d :: ds => .tup [.int (i : Nat), d] :: enumL (i + 1) ds
def rngL (lo : Int) : Nat → List D
  | 0 => []
  | n + 1 => .int lo :: rngL (lo + 1) n
def rngC (lo c : Int) : Nat → List D
  | 0 => []
  | n + 1 => .int lo :: rngC (lo + c) c n
/-- a comprehension over items -/
def lcL (f : D → Store → Out (List D)) : List D → Store → Out (List D)
  | [], s => .ok [] s
  | d :: ds, s => (f d s).bind fun x s1 => (lcL f ds s1).bind fun r s2 => .ok (x ++ r) s2

/-- a comprehension over a list in a cell, as it stands at each turn -/
def lcC (f : D → Store → Out (List D)) (n : Nat) : Nat → Nat → Store → Out (List D)
  | 0, _, _ => .no
  | F + 1, i, s => match s[n]? with
    | some (.lst ds) => match ds[i]? with
      | none => .ok [] s
      | some d => (f d s).bind fun x s1 => (lcC f n F (i + 1) s1).bind fun r s2 => .ok (x ++ r) s2
    | _ => .no
/-- a call whose arguments hold no cells sees no cells -/
def callR (f : Nat → List D → Store → Out R) (b : Nat) (xs : List D) (s : Store) : Out R :=
  if cbs 0 xs then match f 0 xs [] with
    | .ok r [] => .ok r s
    | _ => f b xs s
  else f b xs s
/-- what lies in a cell, as it stands -/
def thawA (s : Store) (d : D) : D := match d with
  | .cell n => match s[n]? with
    | some (.lst ds) => .lst ds
    | some (.dk ds) => .dk ds
    | some (.dt ds) => .dt ds
    | _ => d
  | _ => d
def flatR : R → Bool
  | .v d => (flat d).isSome
  | .n (.lst ds) => (flats ds).isSome
  | _ => false
/-- a call that looks at what the cells hold, changes none, and gives a flat thing -/
def snapR (f : Nat → List D → Store → Out R) (xs : List D) (s : Store) : Out R :=
  let ys := xs.map (thawA s)
  if cbs 0 ys then match f 0 ys [] with
    | .ok r [] => if flatR r then .ok r s else .no
    | _ => .no
  else .no
/-- a sequence that does not change -/
def frzSeq : D → Option (Bool × List D)
  | .lst ds => some (false, ds)
  | .tup ds => some (true, ds)
  | .kt ds => some (true, ds)
  | _ => none
mutual
def evE (G : Glo) (b : Nat) : IE → Env → Store → Out R
  | .var i, e, s => (match e[i]? with
    | some (some d) => .ok (.v d) s
    | _ => .no)
  | .int i, _, s => .ok (.v (.int i)) s
  | .str x, _, s => .ok (.v (.str x)) s
  | .bl x, _, s => .ok (.v (.bl x)) s
  | .non, _, s => .ok (.v .non) s
  | .gl j, _, s => .ok (.v (G.gl j)) s
  | .op o a c, e, s => (evE G b a e s).bind fun x s1 => (evE G b c e s1).bind fun y s2 => Out.of s2 (opR o x.d y.d s2)
  | .neg a, e, s => (evE G b a e s).bind fun x s1 => (match x.d with
    | .int i => .ok (.v (.int (-i))) s1
    | _ => .no)
  | .cmp o a c, e, s => (evE G b a e s).bind fun x s1 => (evE G b c e s1).bind fun y s2 => Out.of s2 ((cmpR G.gd o x.d y.d s2).map fun k => .v (.bl k))
  | .chain o o' a c d, e, s => (evE G b a e s).bind fun x s1 => (evE G b c e s1).bind fun y s2 => (Out.of s2 (cmpR G.gd o x.d y.d s2)).bind fun k s3 =>
      if k then (evE G b d e s3).bind fun z s4 => Out.of s4 ((cmpR G.gd o' y.d z.d s4).map fun k => .v (.bl k)) else .ok (.v (.bl false)) s3
  | .and a c, e, s => (evE G b a e s).bind fun x s1 => (match x.d with
    | .bl true => evE G b c e s1
    | .bl false => .ok (.v (.bl false)) s1
    | _ => .no)
  | .or a c, e, s => (evE G b a e s).bind fun x s1 => (match x.d with
    | .bl true => .ok (.v (.bl true)) s1
    | .bl false => evE G b c e s1
    | _ => .no)
  | .not a, e, s => (evE G b a e s).bind fun x s1 => (match x.d with
    | .bl k => .ok (.v (.bl !k)) s1
    | _ => .no)
  | .ite t a c, e, s => (evT G b t e s).bind fun k s1 => if k then evE G b a e s1 else evE G b c e s1
  | .tup es, e, s => (evEs G b es e s).bind fun xs s1 => if xs.length ≤ 100000 then .ok (.v (.tup xs)) s1 else .no
  | .lst es, e, s => (evEs G b es e s).bind fun xs s1 => if xs.length ≤ 100000 then .ok (.n (.lst xs)) s1 else .no
  | .dnewK, _, s => .ok (.n (.dk [])) s
  | .disp k v, e, s => (evE G b k e s).bind fun x s1 => (evE G b v e s1).bind fun y s2 => (match keyOf x.d with
    | some q => .ok (.n (.dk [(q, y.d)])) s2
    | none => .no)
  | .dnewT, _, s => .ok (.n (.dt [])) s
  | .ix a i, e, s => (evE G b a e s).bind fun x s1 => (evE G b i e s1).bind fun y s2 => Out.of s2 (ixR G.gd x.d y.d s2)
  | .sl a lo hi, e, s => (evE G b a e s).bind fun x s1 => (evO G b lo e s1).bind fun l s2 => (evO G b hi e s2).bind fun h s3 => Out.of s3 (slR x.d l h s3)
  | .call j es, e, s => (evEs G b es e s).bind fun xs s1 => callR (G.fn j) b xs s1
  | .callS j es, e, s => (evEs G b es e s).bind fun xs s1 => snapR (G.fn j) xs s1
  | .blt f es, e, s => (evEs G b es e s).bind fun xs s1 => Out.of s1 (bltR f xs s1)
  | .isin a t, e, s => (evE G b a e s).bind fun x s1 => (match tyOf s1 x.d with
    | some u => if u.isB then .ok (.v (.bl (isTy u t))) s1 else .no
    | none => .no)
  | .mt m a es, e, s => (evE G b a e s).bind fun x s1 => if isLst s1 x.d then (evEs G b es e s1).bind fun xs s2 => mtR G.gd b m x.d xs s2 else .no
  | .fld a f, e, s => (evE G b a e s).bind fun x s1 => Out.of s1 (fldR G.na x.d f s1)
  | .mcall m a es, e, s => (evE G b a e s).bind fun x s1 => (match objOf s1 x.d with
    | some (c, fs) => (match G.me c m, fs.lookup m with
      | some j, none => (evEs G b es e s1).bind fun xs s2 => callR (G.fn j) b (x.d :: xs) s2
      | _, _ => .no)
    | none => .no)
  | .make c es, e, s => (evEs G b es e s).bind fun xs s1 => (G.ini c s1.length (.cell s1.length :: xs) (s1 ++ [.ins c []])).bind fun r s2 => (match r, s2[s1.length]? with
    | .v .non, some (.ins c' fs) => if decide (c' = c) && cbf s1.length fs then .ok (.n (.ins c fs)) (s2.take s1.length) else .no
    | _, _ => .no)
  | .makeM c es, e, s => (evEs G b es e s).bind fun xs s1 => (G.ini c b (.cell s1.length :: xs) (s1 ++ [.ins c []])).bind fun r s2 => (match r with
    | .v .non => .ok (.v (.cell s1.length)) s2
    | _ => .no)
  | .mu a, e, s => (evE G b a e s).bind fun x s1 => (match x with
    | .n o => .ok (.v (.cell s1.length)) (s1 ++ [o])
    | .v _ => .no)
  | .lc own g it t x, e, s => (evI G b it e s).bind fun m s0 => (match m with
    | .l ds => if ds.length ≤ 100000 then (lcL (fun d s1 => (asG G b g d (wipeE e (own.map (·.2))) s1).bind fun e2 s2 => (evC G b t e2 s2).bind fun k s3 =>
        if k then (evE G b x e2 s3).bind fun r s4 => .ok [r.d] s4 else .ok [] s3) ds s0).bind fun r s5 => .ok (.n (.lst r)) s5 else .no
    | .c n => (lcC (fun d s1 => (asG G b g d (wipeE e (own.map (·.2))) s1).bind fun e2 s2 => (evC G b t e2 s2).bind fun k s3 =>
        if k then (evE G b x e2 s3).bind fun r s4 => .ok [r.d] s4 else .ok [] s3) n G.F 0 s0).bind fun r s5 => if r.length ≤ 100000 then .ok (.n (.lst r)) s5 else .no)
  | .lc2 own vs g it t g' it' t' x, e, s => (evI G b it e s).bind fun m s0 => (match m with
    | .l ds => (lcL (fun d s1 => (asG G b g d (wipeE e (own.map (·.2))) s1).bind fun e2 s2 => (evC G b t e2 s2).bind fun k s3 =>
        if k then (evI G b it' e2 s3).bind fun m' s4 => (match m' with
          | .l ds' => lcL (fun d' s5 => (asG G b g' d' (wipeE e2 vs) s5).bind fun e3 s6 => (evC G b t' e3 s6).bind fun k' s7 =>
              if k' then (evE G b x e3 s7).bind fun r s8 => .ok [r.d] s8 else .ok [] s7) ds' s4
          | .c _ => .no)
        else .ok [] s3) ds s0).bind fun r s5 => if r.length ≤ 100000 then .ok (.n (.lst r)) s5 else .no
    | .c _ => .no)
def evEs (G : Glo) (b : Nat) : IEs → Env → Store → Out (List D)
  | .nil, _, s => .ok [] s
  | .cons a es, e, s => (evE G b a e s).bind fun x s1 => (evEs G b es e s1).bind fun xs s2 => .ok (x.d :: xs) s2
def evT (G : Glo) (b : Nat) : IT → Env → Store → Out Bool
  | .e a, e, s => (evE G b a e s).bind fun x s1 => Out.of s1 (tru s1 x.d)
  | .and t u, e, s => (evT G b t e s).bind fun k s1 => if k then evT G b u e s1 else .ok false s1
  | .or t u, e, s => (evT G b t e s).bind fun k s1 => if k then .ok true s1 else evT G b u e s1
  | .not t, e, s => (evT G b t e s).bind fun k s1 => .ok (!k) s1
def evO (G : Glo) (b : Nat) : IO → Env → Store → Out (Option Int)
  | .none, _, s => .ok none s
  | .some a, e, s => (evE G b a e s).bind fun x s1 => (match x.d with
    | .int i => .ok (some i) s1
    | _ => .no)
def evC (G : Glo) (b : Nat) : IC → Env → Store → Out Bool
  | .yes, _, s => .ok true s
  | .t t, e, s => evT G b t e s
def evI (G : Glo) (b : Nat) : II → Env → Store → Out Itm
  | .seq a, e, s => (evE G b a e s).bind fun x s1 => (match x.d with
    | .lst ds => .ok (.l ds) s1
    | .tup ds => .ok (.l ds) s1
    | .kt ds => .ok (.l ds) s1
    | .cell n => (match s1[n]? with
      | some (.lst _) => .ok (.c n) s1
      | _ => .no)
    | .str z => .ok (.l (z.cps.toList.map fun c => .str ⟨#[c]⟩)) s1
    | _ => .no)
  | .rng1 a, e, s => (evE G b a e s).bind fun x s1 => (match x.d with
    | .int n => if decide (-(2 ^ 62) ≤ n ∧ n < 2 ^ 62) then .ok (.l (rngL 0 n.toNat)) s1 else .no
    | _ => .no)
  | .rng2 a c, e, s => (evE G b a e s).bind fun x s1 => (evE G b c e s1).bind fun y s2 => (match x.d, y.d with
    | .int i, .int j => if decide (-(2 ^ 62) ≤ i ∧ i < 2 ^ 62 ∧ -(2 ^ 62) ≤ j ∧ j < 2 ^ 62) then .ok (.l (rngL i (j - i).toNat)) s2 else .no
    | _, _ => .no)
  | .rng3 a c d, e, s => .no
  | .enum a, e, s => (evE G b a e s).bind fun x s1 => (match x.d with
    | .lst ds => .ok (.l (enumL 0 ds)) s1
    | .tup ds => .ok (.l (enumL 0 ds)) s1
    | _ => .no)
  | .zip a c, e, s => (evE G b a e s).bind fun x s1 => (evE G b c e s1).bind fun y s2 => (match frzSeq x.d, frzSeq y.d with
    | some (_, xs), some (_, ys) => .ok (.l (pairs2 xs ys)) s2
    | _, _ => .no)
def asG (G : Glo) (b : Nat) : IG → D → Env → Store → Out Env
  | .name i, d, e, s => .ok (e.set i (some d)) s
  | .tup gs, d, e, s => (match d with
    | .tup ds => asGs G b gs ds e s
    | .kt ds => asGs G b gs ds e s
    | .lst ds => asGs G b gs ds e s
    | _ => .no)
  | .sub a i, d, e, s => (evE G b a e s).bind fun x s1 => (evE G b i e s1).bind fun y s2 => (setR b x.d y.d d s2).bind fun _ s3 => .ok e s3
  | .fld a f, d, e, s => (evE G b a e s).bind fun x s1 => (setF G.na b x.d f d s1).bind fun _ s2 => .ok e s2
def asGs (G : Glo) (b : Nat) : IGs → List D → Env → Store → Out Env
  | .nil, ds, e, s => (match ds with
    | [] => .ok e s
    | _ => .no)
  | .cons g gs, ds, e, s => (match ds with
    | [] => .no
    | d :: ds => (asG G b g d e s).bind fun e1 s1 => asGs G b gs ds e1 s1)
end

inductive Ctl where
  | nx | bk | ct | ret (r : R) | retc (n : Nat)
/-- where a loop goes on -/
def Ctl.goes : Ctl → Bool
  | .nx => true
  | .ct => true
  | _ => false
/-- what a loop hands on -/
def Ctl.out : Ctl → Ctl
  | .bk => .nx
  | c => c
def forL (f : D → Env → Store → Out (Ctl × Env)) : List D → Env → Store → Out (Ctl × Env)
  | [], e, s => .ok (.nx, e) s
  | d :: ds, e, s => (f d e s).bind fun r s1 => if r.1.goes then forL f ds r.2 s1 else .ok (r.1.out, r.2) s1
/-- over a list in a cell, as it stands at each turn -/
def forC (f : D → Env → Store → Out (Ctl × Env)) (n : Nat) : Nat → Nat → Env → Store → Out (Ctl × Env)
  | 0, _, _, _ => .no
  | F + 1, i, e, s => match s[n]? with
    | some (.lst ds) => match ds[i]? with
      | none => .ok (.nx, e) s
      | some d => (f d e s).bind fun r s1 => if r.1.goes then forC f n F (i + 1) r.2 s1 else .ok (r.1.out, r.2) s1
    | _ => .no
def whileL (t : Env → Store → Out Bool) (f : Env → Store → Out (Ctl × Env)) : Nat → Env → Store → Out (Ctl × Env)
  | 0, _, _ => .no
  | F + 1, e, s => (t e s).bind fun k s1 => if k then (f e s1).bind fun r s2 => if r.1.goes then whileL t f F r.2 s2 else .ok (r.1.out, r.2) s2 else .ok (.nx, e) s1
mutual
def exS (G : Glo) (b : Nat) : IS → Env → Store → Out (Ctl × Env)
  | .asg g x, e, s => (evE G b x e s).bind fun r s1 => (asG G b g r.d e s1).bind fun e1 s2 => .ok (.nx, e1) s2
  | .par i j x y, e, s => (evE G b x e s).bind fun r s1 => (evE G b y e s1).bind fun q s2 => .ok (.nx, (e.set i (some r.d)).set j (some q.d)) s2
  | .aug i o x, e, s => (match e[i]? with
    | some (some (.int n)) => (evE G b x e s).bind fun r s1 => (match r.d with
      | .int m => (match intOp o n m with
        | some k => if o = .add ∨ o = .sub then .ok (.nx, e.set i (some (.int k))) s1 else .no
        | none => .no)
      | _ => .no)
    | _ => .no)
  | .expr x, e, s => (evE G b x e s).bind fun _ s1 => .ok (.nx, e) s1
  | .ret x, e, s => (evE G b x e s).bind fun r s1 => .ok (.ret r, e) s1
  | .retF x, e, s => (evE G b x e s).bind fun r s1 => (match r with
    | .v (.cell n) => .ok (.retc n, e) s1
    | _ => .no)
  | .retN, e, s => .ok (.ret (.v .non), e) s
  | .ifs t a c, e, s => (evT G b t e s).bind fun k s1 => if k then exSs G b a e s1 else exSs G b c e s1
  | .while_ t a, e, s => whileL (evT G b t) (exSs G b a) G.F e s
  | .for_ g it a, e, s => (evI G b it e s).bind fun m s1 => (match m with
    | .l ds => forL (fun d e1 s2 => (asG G b g d e1 s2).bind fun e2 s3 => exSs G b a e2 s3) ds e s1
    | .c n => forC (fun d e1 s2 => (asG G b g d e1 s2).bind fun e2 s3 => exSs G b a e2 s3) n G.F 0 e s1)
  | .brk, e, s => .ok (.bk, e) s
  | .cont, e, s => .ok (.ct, e) s
  | .pass, e, s => .ok (.nx, e) s
  | .never, _, _ => .no
def exSs (G : Glo) (b : Nat) : ISs → Env → Store → Out (Ctl × Env)
  | .nil, e, s => .ok (.nx, e) s
  | .cons x xs, e, s => (exS G b x e s).bind fun r s1 => (match r.1 with
    | .nx => exSs G b xs r.2 s1
    | _ => .ok r s1)
end
/-- own cells give way to what they hold -/
def thL (f : D → Option D) : List D → Option (List D)
  | [] => some []
  | d :: ds => (f d).bind fun x => (thL f ds).map fun xs => x :: xs
def thK {κ : Type} (f : D → Option D) : List (κ × D) → Option (List (κ × D))
  | [] => some []
  | (k, d) :: ds => (f d).bind fun x => (thK f ds).map fun xs => (k, x) :: xs
def thD (s : Store) (b : Nat) : Nat → D → Option D
  | 0, d => if cb b d then some d else none
  | k + 1, d => if cb b d then some d else match d with
    | .tup ds => (thL (thD s b k) ds).map .tup
    | .lst ds => (thL (thD s b k) ds).map .lst
    | .dk ds => (thK (thD s b k) ds).map .dk
    | .dt ds => (thK (thD s b k) ds).map .dt
    | .obj c ds => (thK (thD s b k) ds).map (.obj c)
    | .cell n => match s[n]? with
      | some (.lst ds) => (thL (thD s b k) ds).map .lst
      | some (.dk ds) => (thK (thD s b k) ds).map .dk
      | some (.dt ds) => (thK (thD s b k) ds).map .dt
      | some (.ins c ds) => (thK (thD s b k) ds).map (.obj c)
      | none => none
    | _ => none
def thO (s : Store) (b : Nat) (k : Nat) : O → Option O
  | .lst ds => (thL (thD s b k) ds).map .lst
  | .dk ds => (thK (thD s b k) ds).map .dk
  | .dt ds => (thK (thD s b k) ds).map .dt
  | .ins c ds => (thK (thD s b k) ds).map (.ins c)
/-- the end of a def's body: its own cells go -/
def endR (b : Nat) (c : Ctl) (s : Store) : Out R := match c with
  | .nx => .ok (.v .non) (s.take b)
  | .ret (.v d) => if cb b d then .ok (.v d) (s.take b) else match thD s b 8 d with
    | some d' => .ok (.v d') (s.take b)
    | none => .no
  | .ret (.n o) => if cbO b o then .ok (.n o) (s.take b) else match thO s b 8 o with
    | some o' => .ok (.n o') (s.take b)
    | none => .no
  | .retc n => match s[n]? with
    | some o => if decide (b ≤ n) && cbO b o then .ok (.n o) (s.take b) else .no
    | none => .no
  | _ => .no
structure Def where
  slots : Nat
  params : Nat
  body : ISs
def envOf (d : Def) (xs : List D) : Env := xs.map some ++ List.replicate (d.slots - xs.length) none
def runF (G : Glo) (d : Def) (xs : List D) (s : Store) : Out R :=
  if xs.length = d.params then (exSs G s.length d.body (envOf d xs) s).bind fun r s1 => endR s.length r.1 s1 else .no
/-- a def whose own cells stay -/
def endK (c : Ctl) (s : Store) : Out R := match c with
  | .nx => .ok (.v .non) s
  | .ret r => .ok r s
  | _ => .no
def runK (G : Glo) (b : Nat) (d : Def) (xs : List D) (s : Store) : Out R :=
  if xs.length = d.params then (exSs G b d.body (envOf d xs) s).bind fun r s1 => endK r.1 s1 else .no
end En

set_option Elab.async false
set_option linter.all false
set_option maxRecDepth 100000
set_option maxHeartbeats 1000000
namespace En
open PySem PySem.Spec PyProof.Rows L2

mutual
theorem cb_mono {b c : Nat} (h : b ≤ c) : ∀ d : D, cb b d = true → cb c d = true
  | .tup ds, q => cbs_mono h ds q
  | .kt ds, q => cbs_mono h ds q
  | .lst ds, q => cbs_mono h ds q
  | .dk kvs, q => cbk_mono h kvs q
  | .dt kvs, q => cbt_mono h kvs q
  | .obj _ fs, q => cbf_mono h fs q
  | .cell n, q => by simp only [cb, decide_eq_true_eq] at q ⊢; omega
  | .non, _ => rfl
  | .bl _, _ => rfl
  | .int _, _ => rfl
  | .str _, _ => rfl
  | .gd _, _ => rfl
theorem cbs_mono {b c : Nat} (h : b ≤ c) : ∀ ds : List D, cbs b ds = true → cbs c ds = true
  | [], _ => rfl
  | d :: ds, q => by
    simp only [cbs, Bool.and_eq_true] at q ⊢
    exact ⟨cb_mono h d q.1, cbs_mono h ds q.2⟩
theorem cbk_mono {b c : Nat} (h : b ≤ c) : ∀ ds : List (Key × D), cbk b ds = true → cbk c ds = true
  | [], _ => rfl
  | (_, d) :: ds, q => by
    simp only [cbk, Bool.and_eq_true] at q ⊢
    exact ⟨cb_mono h d q.1, cbk_mono h ds q.2⟩
theorem cbt_mono {b c : Nat} (h : b ≤ c) : ∀ ds : List (List Key × D), cbt b ds = true → cbt c ds = true
  | [], _ => rfl
  | (_, d) :: ds, q => by
    simp only [cbt, Bool.and_eq_true] at q ⊢
    exact ⟨cb_mono h d q.1, cbt_mono h ds q.2⟩
theorem cbf_mono {b c : Nat} (h : b ≤ c) : ∀ ds : List (Str × D), cbf b ds = true → cbf c ds = true
  | [], _ => rfl
  | (_, d) :: ds, q => by
    simp only [cbf, Bool.and_eq_true] at q ⊢
    exact ⟨cb_mono h d q.1, cbf_mono h ds q.2⟩
end
theorem cbs_iff {b : Nat} : ∀ {ds : List D}, cbs b ds = true ↔ ∀ d ∈ ds, cb b d = true
  | [] => by simp [cbs]
  | d :: ds => by simp only [cbs, Bool.and_eq_true, cbs_iff (ds := ds), List.mem_cons, forall_eq_or_imp]
theorem cbk_iff {b : Nat} : ∀ {ds : List (Key × D)}, cbk b ds = true ↔ ∀ p ∈ ds, cb b p.2 = true
  | [] => by simp [cbk]
  | (k, d) :: ds => by simp only [cbk, Bool.and_eq_true, cbk_iff (ds := ds), List.mem_cons, forall_eq_or_imp]
theorem cbt_iff {b : Nat} : ∀ {ds : List (List Key × D)}, cbt b ds = true ↔ ∀ p ∈ ds, cb b p.2 = true
  | [] => by simp [cbt]
  | (k, d) :: ds => by simp only [cbt, Bool.and_eq_true, cbt_iff (ds := ds), List.mem_cons, forall_eq_or_imp]
theorem cbf_iff {b : Nat} : ∀ {ds : List (Str × D)}, cbf b ds = true ↔ ∀ p ∈ ds, cb b p.2 = true
  | [] => by simp [cbf]
  | (k, d) :: ds => by simp only [cbf, Bool.and_eq_true, cbf_iff (ds := ds), List.mem_cons, forall_eq_or_imp]

def OldOk (b : Nat) (st : Store) : Prop := ∀ (n : Nat) (o : O), n < b → st[n]? = some o → cbO b o = true
structure Stp (b : Nat) (H : Hp) (cm : List Addr) (st : Store) (H' : Hp) (cm' : List Addr) (st' : Store) : Prop where
  step : Step H cm H' cm'
  kp : ∀ b', b' ≤ b → OldOk b' st → OldOk b' st'
  len : st.length ≤ st'.length
theorem Stp.refl {b : Nat} {H : Hp} {cm : List Addr} {st : Store} : Stp b H cm st H cm st := ⟨.refl _ _, fun _ _ h => h, Nat.le_refl _⟩
theorem Stp.trans {b : Nat} {H H1 H2 : Hp} {cm cm1 cm2 : List Addr} {st st1 st2 : Store} (s : Stp b H cm st H1 cm1 st1) (t : Stp b H1 cm1 st1 H2 cm2 st2) : Stp b H cm st H2 cm2 st2 :=
  ⟨s.step.trans t.step, fun b' h q => t.kp b' h (s.kp b' h q), Nat.le_trans s.len t.len⟩
theorem Stp.keep {b : Nat} {H H' : Hp} {cm : List Addr} {st : Store} (e : ∀ a u, H a = some u → H' a = some u) : Stp b H cm st H' cm st := ⟨.keep e, fun _ _ h => h, Nat.le_refl _⟩
theorem Stp.less {b b' : Nat} {H H' : Hp} {cm cm' : List Addr} {st st' : Store} (s : Stp b H cm st H' cm' st') (h : b' ≤ b) : Stp b' H cm st H' cm' st' := ⟨s.step, fun c hc q => s.kp c (Nat.le_trans hc h) q, s.len⟩

/-- what an expression leaves; fx: what nobody may know -/
def Po (L : Lk) (fx : List Addr) (b : Nat) (H : Hp) (cm : List Addr) (st : Store) (v : V) (r : R) (H' : Hp) (cm' : List Addr) (st' : Store) : Prop :=
  Stp b H cm st H' cm' st' ∧ match r with
  | .v d => Valid L H' (fx ++ cm') cm' st' ∧ Rep L H' (fx ++ cm') cm' v d
  | .n o => ∃ p, v = .ref p ∧ H p = none ∧ p ∉ fx ++ cm' ∧ Valid L H' (fx ++ cm' ++ [p]) cm' st' ∧ ORep L H' (fx ++ cm' ++ [p]) cm' p o
section
variable {L : Lk} {b : Nat} {H H' H1 : Hp} {fx cm cm' cm1 : List Addr} {st st' st1 : Store} {v : V} {r : R}
theorem orep_d {p : Addr} {o : O} {fb : List Addr} (hp : p ∉ fb) (h : ORep L H (fb ++ [p]) cm p o) : Rep L H fb cm (.ref p) o.d := by
  have le : ∀ b ∈ fb, b ∈ fb ++ [p] := fun b m => List.mem_append_left _ m
  cases o with
  | lst ds => obtain ⟨xs, h1, h2⟩ := h; exact .lst hp (.inl h1) (h2.less le)
  | dk ds => obtain ⟨xs, h1, h2, h3⟩ := h; exact .dk hp (.inl h1) h2 (h3.less le)
  | dt ds => obtain ⟨xs, h1, h2, h3⟩ := h; exact .dt hp (.inl h1) h2 (h3.less le)
  | ins c ds => obtain ⟨dx, xs, h1, h2, h3⟩ := h; exact .obj hp h1 h2 (h3.less le)
theorem Po.d (h : Po L fx b H cm st v r H' cm' st') : Stp b H cm st H' cm' st' ∧ Valid L H' (fx ++ cm') cm' st' ∧ Rep L H' (fx ++ cm') cm' v r.d := by
  obtain ⟨s, h⟩ := h
  cases r with
  | v d => exact ⟨s, h.1, h.2⟩
  | n o =>
    obtain ⟨p, rfl, _, hp, W, q⟩ := h
    exact ⟨s, W.less (fun b m => List.mem_append_left _ m) fun a m => List.mem_append_right _ m, orep_d hp q⟩
theorem Po.after (s : Stp b H cm st H1 cm1 st1) (h : Po L fx b H1 cm1 st1 v r H' cm' st') : Po L fx b H cm st v r H' cm' st' := by
  obtain ⟨t, h⟩ := h
  refine ⟨s.trans t, ?_⟩
  cases r with
  | v d => exact h
  | n o =>
    obtain ⟨p, h0, h1, h2⟩ := h
    exact ⟨p, h0, s.step.free h1, h2⟩
theorem po_val {d : D} (W : Valid L H (fx ++ cm) cm st) (h : Rep L H (fx ++ cm) cm v d) : Po L fx b H cm st v (.v d) H cm st := ⟨.refl, W, h⟩
theorem po_tup {p : Addr} {xs : List V} {ds : List D} (W : Valid L H (fx ++ cm) cm st) (h : Reps L H (fx ++ cm) cm xs ds) (n : H p = none) : Po L fx b H cm st (.ref p) (.v (.tup ds)) (upd H p (.tup xs)) cm st :=
  ⟨.keep (keep_new n), W.keep (keep_new n), .tup (W.nin n) upd_same (h.ext fun a o _ => keep_new n a o)⟩
theorem po_lst {p : Addr} {xs : List V} {ds : List D} (W : Valid L H (fx ++ cm) cm st) (h : Reps L H (fx ++ cm) cm xs ds) (n : H p = none) : Po L fx b H cm st (.ref p) (.n (.lst ds)) (upd H p (.lst xs)) cm st :=
  ⟨.keep (keep_new n), p, rfl, n, W.nin n, W.new n, xs, upd_same, h.new n⟩
theorem po_dk0 {p : Addr} (W : Valid L H (fx ++ cm) cm st) (n : H p = none) : Po L fx b H cm st (.ref p) (.n (.dk [])) (upd H p (.dK [])) cm st :=
  ⟨.keep (keep_new n), p, rfl, n, W.nin n, W.new n, [], upd_same, rfl, .nil⟩
theorem po_dt0 {p : Addr} (W : Valid L H (fx ++ cm) cm st) (n : H p = none) : Po L fx b H cm st (.ref p) (.n (.dt [])) (upd H p (.dT [])) cm st :=
  ⟨.keep (keep_new n), p, rfl, n, W.nin n, W.new n, [], upd_same, rfl, .nil⟩
theorem ext_cell {a : Addr} {u : HO} (m : a ∈ cm) : Ext (fx ++ cm) H (upd H a u) := fun c q nc h => by
  rw [upd_ne (fun z => nc (by rw [z]; exact List.mem_append_right _ m))]
  exact h
/-- a cell is written -/
theorem wr_ok {n : Nat} {a : Addr} {o o' : O} {u : HO} (W : Valid L H (fx ++ cm) cm st) (hn : st[n]? = some o) (ha : cm[n]? = some a) (new : ORep L (upd H a u) (fx ++ cm) cm a o') (hw : b ≤ n ∨ ∀ b', cbO b' o = true → cbO b' o' = true) :
    Stp b H cm st (upd H a u) cm (st.set n o') ∧ Valid L (upd H a u) (fx ++ cm) cm (st.set n o') := by
  have ma : a ∈ cm := List.mem_of_getElem? ha
  have ext : Ext cm H (upd H a u) := fun c q nc h => by
    rw [upd_ne (fun z => nc (by rw [z]; exact ma))]
    exact h
  have hl : n < st.length := (List.getElem?_eq_some_iff.mp hn).1
  have trk : ∀ c q, H c = some q → ∃ q', upd H a u c = some q' := fun c q h => by
    by_cases z : c = a
    · exact ⟨u, by rw [z]; exact upd_same⟩
    · exact ⟨q, by rw [upd_ne z]; exact h⟩
  refine ⟨⟨⟨ext, ⟨[], by simp, by simp⟩, trk⟩, fun b' hb old m q hm e => ?_, by rw [List.length_set]; exact Nat.le_refl _⟩, by rw [List.length_set]; exact W.len, W.nd, W.sub, fun c m => let ⟨q, h⟩ := W.trk c m; trk c q h, fun m q e => ?_⟩
  · by_cases z : n = m
    · subst z
      rw [List.getElem?_set_self hl] at e
      cases e
      rcases hw with hw | hw
      · omega
      · exact hw b' (old n o hm hn)
    · rw [List.getElem?_set_ne z] at e
      exact old m q hm e
  · by_cases z : n = m
    · subst z
      rw [List.getElem?_set_self hl] at e
      cases e
      exact ⟨a, ha, new⟩
    · rw [List.getElem?_set_ne z] at e
      obtain ⟨c, hc, oc⟩ := W.cells m q e
      refine ⟨c, hc, oc.ext (ext_cell ma) (upd_ne fun y => z ?_)⟩
      subst y
      exact (List.getElem?_inj (by rw [W.len]; exact hl) W.nd).mp (ha.trans hc.symm)
end

section
variable {L : Lk} {H : Hp} {fb cm : List Addr} {st : Store} {v : V} {d : D}
theorem flat_rep {x : V} (h : Rep L H fb cm v d) (e : flat d = some x) : v = x := by
  cases h <;> simp only [flat, Option.some.injEq, reduceCtorEq] at e <;> exact e
theorem flat_isV {x : V} (e : flat d = some x) : flatV x = true := by
  cases d <;> simp only [flat, Option.some.injEq, reduceCtorEq] at e <;> subst e <;> rfl
theorem flats_rep : ∀ {vs : List V} {ds : List D} {xs : List V}, Reps L H fb cm vs ds → flats ds = some xs → vs = xs ∧ xs.all flatV = true
  | _, _, _, .nil, e => by cases e; exact ⟨rfl, rfl⟩
  | _, _, _, .cons (d := d) (ds := ds) r t, e => by
    simp only [flats, Option.bind_eq_some_iff, Option.map_eq_some_iff] at e
    obtain ⟨x, e1, xs, e2, rfl⟩ := e
    obtain ⟨e3, e4⟩ := flats_rep t e2
    exact ⟨by rw [flat_rep r e1, e3], by rw [List.all_cons, flat_isV e1, e4]; rfl⟩
theorem ints_rep : ∀ {vs : List V} {ds : List D} {ns : List Int}, Reps L H fb cm vs ds → intsOf ds = some ns → vs = ns.map V.int
  | _, _, _, .nil, e => by cases e; rfl
  | _, _, _, .cons r t, e => by
    cases r <;> simp only [intsOf, Option.map_eq_some_iff, reduceCtorEq] at e
    obtain ⟨ns, e2, rfl⟩ := e
    rw [ints_rep t e2]
    rfl
theorem bls_rep : ∀ {vs : List V} {ds : List D} {ns : List Bool}, Reps L H fb cm vs ds → blsOf ds = some ns → vs = ns.map V.bl
  | _, _, _, .nil, e => by cases e; rfl
  | _, _, _, .cons r t, e => by
    cases r <;> simp only [blsOf, Option.map_eq_some_iff, reduceCtorEq] at e
    obtain ⟨ns, e2, rfl⟩ := e
    rw [bls_rep t e2]
    rfl
theorem key_rep {k : Key} (h : Rep L H fb cm v d) (e : keyOf d = some k) : v = kV k := by
  cases h <;> simp only [keyOf, Option.some.injEq, reduceCtorEq] at e <;> subst e <;> rfl
theorem keys_rep : ∀ {vs : List V} {ds : List D} {ks : List Key}, Reps L H fb cm vs ds → keysOf ds = some ks → vs = ks.map kV
  | _, _, _, .nil, e => by cases e; rfl
  | _, _, _, .cons r t, e => by
    simp only [keysOf, Option.bind_eq_some_iff, Option.map_eq_some_iff] at e
    obtain ⟨k, e1, ks, e2, rfl⟩ := e
    rw [key_rep r e1, keys_rep t e2]
    rfl
theorem KL.sq {K : PySem.W.Frag} {H : Hp} {a : Addr} {xs : List V} (h : KL K a xs) : SqL K H a xs := by
  obtain ⟨its, n, h1, h2, h3⟩ := h
  exact .inr ⟨_, its, n, h1, rfl, rfl, rfl, h2, h3⟩
def Ql (K : PySem.W.Frag) (H : Hp) (a : Addr) (xs : List V) : Prop := Rd H a (.lst xs) ∨ KL K a xs
theorem Ql.sq {K : PySem.W.Frag} {H : Hp} {a : Addr} {xs : List V} (h : Ql K H a xs) : SqL K H a xs := h.elim .inl fun z => z.sq
theorem KT.sq {K : PySem.W.Frag} {a : Addr} {xs : List V} (h : KT K a xs) : SqT K H a xs := .inr h
/-- a list or a tuple that may be read -/
theorem seq_rep {k : Bool} {ds : List D} (V : Valid L H fb cm st) (h : Rep L H fb cm v d) (e : seqOf st d = some (k, ds)) :
    ∃ a vs, v = .ref a ∧ Reps L H fb cm vs ds ∧ (k = false → Ql L.K H a vs) ∧ (k = true → SqT L.K H a vs) := by
  cases h <;> simp only [seqOf, Option.some.injEq, Prod.mk.injEq, reduceCtorEq] at e
  case tup a xs ds' n t r =>
    obtain ⟨rfl, rfl⟩ := e
    exact ⟨a, xs, rfl, r, (fun z => nomatch z), fun _ => SqT.of t⟩
  case lst a xs ds' n t r =>
    obtain ⟨rfl, rfl⟩ := e
    exact ⟨a, xs, rfl, r, fun _ => .inl t, (fun z => nomatch z)⟩
  case kl a xs ds' n r =>
    obtain ⟨rfl, rfl⟩ := e
    exact ⟨a, xs, rfl, r, fun _ => .inr n, (fun z => nomatch z)⟩
  case kt a xs ds' n r =>
    obtain ⟨rfl, rfl⟩ := e
    exact ⟨a, xs, rfl, r, (fun z => nomatch z), fun _ => n.sq⟩
  case cell n a c =>
    split at e
    · rename_i es he
      cases e
      obtain ⟨xs, h1, h2⟩ := V.cell he c
      exact ⟨a, xs, rfl, h2, fun _ => .inl (.inl h1), (fun z => nomatch z)⟩
    · cases e
theorem seq_or {k : Bool} {a : Addr} {vs : List V} (h1 : k = false → Ql L.K H a vs) (h2 : k = true → SqT L.K H a vs) : SqL L.K H a vs ∨ SqT L.K H a vs := by
  cases k with
  | false => exact .inl (h1 rfl).sq
  | true => exact .inr (h2 rfl)
theorem dk_rep {ds : List (Key × D)} (V : Valid L H fb cm st) (h : Rep L H fb cm v d) (e : dkOf st d = some ds) :
    ∃ a kvs, v = .ref a ∧ Rd H a (.dK kvs) ∧ kvs.map (·.1) = ds.map (·.1) ∧ Reps L H fb cm (kvs.map (·.2)) (ds.map (·.2)) := by
  cases h <;> simp only [dkOf, Option.some.injEq, reduceCtorEq] at e
  case dk a xs ds' n t q r =>
    subst e
    exact ⟨a, xs, rfl, t, q, r⟩
  case cell n a c =>
    split at e
    · rename_i es he
      cases e
      obtain ⟨xs, h1, h2, h3⟩ := V.cell he c
      exact ⟨a, xs, rfl, .inl h1, h2, h3⟩
    · cases e
theorem dt_rep {ds : List (List Key × D)} (V : Valid L H fb cm st) (h : Rep L H fb cm v d) (e : dtOf st d = some ds) :
    ∃ a kvs, v = .ref a ∧ Rd H a (.dT kvs) ∧ kvs.map (·.1) = ds.map (·.1) ∧ Reps L H fb cm (kvs.map (·.2)) (ds.map (·.2)) := by
  cases h <;> simp only [dtOf, Option.some.injEq, reduceCtorEq] at e
  case dt a xs ds' n t q r =>
    subst e
    exact ⟨a, xs, rfl, t, q, r⟩
  case cell n a c =>
    split at e
    · rename_i es he
      cases e
      obtain ⟨xs, h1, h2, h3⟩ := V.cell he c
      exact ⟨a, xs, rfl, .inl h1, h2, h3⟩
    · cases e
theorem obj_rep {c : Nat} {ds : List (Str × D)} (V : Valid L H fb cm st) (h : Rep L H fb cm v d) (e : objOf st d = some (c, ds)) :
    ∃ a dx fs, v = .ref a ∧ H a = some (.ins (L.ca c) dx fs) ∧ fs.map (·.1) = ds.map (·.1) ∧ Reps L H fb cm (fs.map (·.2)) (ds.map (·.2)) := by
  cases h <;> simp only [objOf, Option.some.injEq, Prod.mk.injEq, reduceCtorEq] at e
  case obj a dx c' fs ds' n t q r =>
    obtain ⟨rfl, rfl⟩ := e
    exact ⟨a, dx, fs, rfl, t, q, r⟩
  case cell n a c' =>
    split at e
    · rename_i es he hh
      cases e
      obtain ⟨dx, xs, h1, h2, h3⟩ := V.cell hh c'
      exact ⟨a, dx, xs, rfl, h1, h2, h3⟩
    · cases e
/-- looking up, by keys -/
theorem look_rep {κ : Type} [DecidableEq κ] (k : κ) : ∀ {xs : List (κ × V)} {ds : List (κ × D)}, xs.map (·.1) = ds.map (·.1) → Reps L H fb cm (xs.map (·.2)) (ds.map (·.2)) →
    (lookK ds k = none → valV xs k = none) ∧ ∀ d, lookK ds k = some d → ∃ v, valV xs k = some v ∧ Rep L H fb cm v d
  | [], [], _, _ => ⟨fun _ => rfl, fun d e => by simp [lookK] at e⟩
  | [], _ :: _, e, _ => by simp at e
  | _ :: _, [], e, _ => by simp at e
  | (k1, v1) :: xs, (k2, d2) :: ds, e, r => by
    simp only [List.map_cons, List.cons.injEq] at e r
    obtain ⟨rfl, e⟩ := e
    cases r with
    | cons r1 r2 =>
      have ih := look_rep k e r2
      by_cases hk : k1 = k
      · rw [valV_pos (p := (k1, v1)) hk]
        have q : lookK ((k1, d2) :: ds) k = some d2 := by simp [lookK, List.find?_cons, hk]
        rw [q]
        exact ⟨(fun z => nomatch z), fun d z => by cases z; exact ⟨v1, rfl, r1⟩⟩
      · rw [valV_neg (p := (k1, v1)) hk]
        have q : lookK ((k1, d2) :: ds) k = lookK ds k := by simp [lookK, List.find?_cons, hk]
        rw [q]
        exact ih
theorem lookup_rep (k : Str) : ∀ {xs : List (Str × V)} {ds : List (Str × D)}, xs.map (·.1) = ds.map (·.1) → Reps L H fb cm (xs.map (·.2)) (ds.map (·.2)) →
    (ds.lookup k = none → xs.lookup k = none) ∧ ∀ d, ds.lookup k = some d → ∃ v, xs.lookup k = some v ∧ Rep L H fb cm v d
  | [], [], _, _ => ⟨fun _ => rfl, fun d e => by simp at e⟩
  | [], _ :: _, e, _ => by simp at e
  | _ :: _, [], e, _ => by simp at e
  | (k1, v1) :: xs, (k2, d2) :: ds, e, r => by
    simp only [List.map_cons, List.cons.injEq] at e r
    obtain ⟨rfl, e⟩ := e
    cases r with
    | cons r1 r2 =>
      have ih := lookup_rep k e r2
      simp only [List.lookup_cons]
      cases k == k1 with
      | true => exact ⟨(fun z => nomatch z), fun d z => by cases z; exact ⟨v1, rfl, r1⟩⟩
      | false => exact ih
/-- as data for == -/
theorem toPy_rep : ∀ {v : V} {d : D} {p : PyData}, Rep L H fb cm v d → toPy d = some p → Dp L.K H v p := fun {v d p} h => by
  revert p
  refine Rep.rec (motive_1 := fun v d _ => ∀ {p}, toPy d = some p → Dp L.K H v p) (motive_2 := fun vs ds _ => ∀ {ps}, toPys ds = some ps → DpAll L.K H vs ps) ?_ ?_ ?_ ?_ ?_ ?_ ?_ ?_ ?_ ?_ ?_ ?_ ?_ ?_ ?_ h
  · intro p e; cases e; exact .non
  · intro b p e; cases e; exact .bl b
  · intro i p e; cases e; exact .int i
  · intro x p e; cases e; exact .str x
  · intro a xs ds n t _ ih p e
    simp only [toPy, Option.map_eq_some_iff] at e
    obtain ⟨ps, e1, rfl⟩ := e
    exact .tup (SqT.of t) (ih e1)
  · intro a xs ds n t _ ih p e
    simp only [toPy, Option.map_eq_some_iff] at e
    obtain ⟨ps, e1, rfl⟩ := e
    exact .lst (.inl t) (ih e1)
  · intro a xs ds n t q _ ih p e; simp [toPy] at e
  · intro a xs ds n t q _ ih p e; simp [toPy] at e
  · intro a dx c fs ds n t q _ ih p e; simp [toPy] at e
  · intro j p e; simp [toPy] at e
  · intro a xs ds n _ ih p e
    simp only [toPy, Option.map_eq_some_iff] at e
    obtain ⟨ps, e1, rfl⟩ := e
    exact .tup n.sq (ih e1)
  · intro a xs ds n _ ih p e
    simp only [toPy, Option.map_eq_some_iff] at e
    obtain ⟨ps, e1, rfl⟩ := e
    exact .lst n.sq (ih e1)
  · intro n a c p e; simp [toPy] at e
  · intro ps e; cases e; exact .nil
  · intro v vs d ds _ _ i1 i2 ps e
    simp only [toPys, Option.bind_eq_some_iff, Option.map_eq_some_iff] at e
    obtain ⟨q, e1, qs, e2, rfl⟩ := e
    exact .cons (i1 e1) (i2 e2)
theorem thaw_rep {p : PyData} (V : Valid L H fb cm st) (h : Rep L H fb cm v d) (e : toPy (thaw st d) = some p) : Dp L.K H v p := by
  have key : ∀ q, thaw st q = q → Rep L H fb cm v q → toPy (thaw st q) = some p → Dp L.K H v p := fun q z r e => toPy_rep r (by rw [← z]; exact e)
  cases h with
  | @cell n a c =>
    unfold thaw at e
    simp only at e
    split at e
    · rename_i ds he
      obtain ⟨xs, h1, h2⟩ := V.cell he c
      simp only [toPy, Option.map_eq_some_iff] at e
      obtain ⟨ps, e1, rfl⟩ := e
      have aux : ∀ {vs : List L2.V} {ds : List D} {ps : List PyData}, Reps L H fb cm vs ds → toPys ds = some ps → DpAll L.K H vs ps := fun {vs ds} => by
        induction ds generalizing vs with
        | nil => intro ps r e; cases r; cases e; exact .nil
        | cons d ds ih =>
          intro ps r e
          cases r with
          | cons r1 r2 =>
            simp only [toPys, Option.bind_eq_some_iff, Option.map_eq_some_iff] at e
            obtain ⟨q, e1, qs, e2, rfl⟩ := e
            exact .cons (toPy_rep r1 e1) (ih r2 e2)
      exact .lst (.inl (.inl h1)) (aux h2 e1)
    · simp [toPy] at e
  | non => exact key _ rfl .non e
  | bl b => exact key _ rfl (.bl b) e
  | int b => exact key _ rfl (.int b) e
  | str b => exact key _ rfl (.str b) e
  | tup n t r => exact key _ rfl (.tup n t r) e
  | lst n t r => exact key _ rfl (.lst n t r) e
  | dk n t q r => exact key _ rfl (.dk n t q r) e
  | dt n t q r => exact key _ rfl (.dt n t q r) e
  | obj n t q r => exact key _ rfl (.obj n t q r) e
  | gd j => exact key _ rfl (.gd j) e
  | kt n r => exact key _ rfl (.kt n r) e
  | kl n r => exact key _ rfl (.kl n r) e
end
section
variable {L : Lk} {H : Hp} {fb cm : List Addr}
theorem rep_narrow_ {b : Nat} {cm' : List Addr} (hc : ∀ (n : Nat) (a : Addr), n < b → cm[n]? = some a → cm'[n]? = some a) :
    (∀ {v : V} {d : D}, Rep L H fb cm v d → cb b d = true → Rep L H fb cm' v d) ∧ ∀ {vs : List V} {ds : List D}, Reps L H fb cm vs ds → cbs b ds = true → Reps L H fb cm' vs ds := by
  have dk : ∀ {ds : List (Key × D)}, cbk b ds = true → cbs b (ds.map (·.2)) = true := fun {ds} h => cbs_iff.mpr fun d m => by
    obtain ⟨p, hp, rfl⟩ := List.mem_map.mp m
    exact cbk_iff.mp h p hp
  have dt : ∀ {ds : List (List Key × D)}, cbt b ds = true → cbs b (ds.map (·.2)) = true := fun {ds} h => cbs_iff.mpr fun d m => by
    obtain ⟨p, hp, rfl⟩ := List.mem_map.mp m
    exact cbt_iff.mp h p hp
  have df : ∀ {ds : List (Str × D)}, cbf b ds = true → cbs b (ds.map (·.2)) = true := fun {ds} h => cbs_iff.mpr fun d m => by
    obtain ⟨p, hp, rfl⟩ := List.mem_map.mp m
    exact cbf_iff.mp h p hp
  have key : ∀ {v : V} {d : D}, Rep L H fb cm v d → cb b d = true → Rep L H fb cm' v d := fun {v d} h => by
    refine Rep.rec (motive_1 := fun v d _ => cb b d = true → Rep L H fb cm' v d) (motive_2 := fun vs ds _ => cbs b ds = true → Reps L H fb cm' vs ds) ?_ ?_ ?_ ?_ ?_ ?_ ?_ ?_ ?_ ?_ ?_ ?_ ?_ ?_ ?_ h
    · exact fun _ => .non
    · exact fun b _ => .bl b
    · exact fun i _ => .int i
    · exact fun x _ => .str x
    · exact fun n t _ r q => .tup n t (r (by simpa only [cb] using q))
    · exact fun n t _ r q => .lst n t (r (by simpa only [cb] using q))
    · exact fun n t e _ r q => .dk n t e (r (dk (by simpa only [cb] using q)))
    · exact fun n t e _ r q => .dt n t e (r (dt (by simpa only [cb] using q)))
    · exact fun n t e _ r q => .obj n t e (r (df (by simpa only [cb] using q)))
    · exact fun j _ => .gd j
    · exact fun k _ r q => .kt k (r (by simpa only [cb] using q))
    · exact fun k _ r q => .kl k (r (by simpa only [cb] using q))
    · exact fun e q => .cell (hc _ _ (by simpa only [cb, decide_eq_true_eq] using q) e)
    · exact fun _ => .nil
    · exact fun _ _ r rs q => by
        simp only [cbs, Bool.and_eq_true] at q
        exact .cons (r q.1) (rs q.2)
  refine ⟨key, fun {vs ds} h => ?_⟩
  induction ds generalizing vs with
  | nil => intro _; cases h; exact .nil
  | cons d ds ih =>
    intro q
    simp only [cbs, Bool.and_eq_true] at q
    cases h with
    | cons r t => exact .cons (key r q.1) (ih t q.2)
theorem rep_cb : ∀ {v : V} {d : D}, Rep L H fb cm v d → cb cm.length d = true := fun {v d} h => by
  have dk : ∀ {ds : List (Key × D)}, cbs cm.length (ds.map (·.2)) = true → cbk cm.length ds = true := fun {ds} h => cbk_iff.mpr fun p hp => cbs_iff.mp h p.2 (List.mem_map.mpr ⟨p, hp, rfl⟩)
  have dt : ∀ {ds : List (List Key × D)}, cbs cm.length (ds.map (·.2)) = true → cbt cm.length ds = true := fun {ds} h => cbt_iff.mpr fun p hp => cbs_iff.mp h p.2 (List.mem_map.mpr ⟨p, hp, rfl⟩)
  have df : ∀ {ds : List (Str × D)}, cbs cm.length (ds.map (·.2)) = true → cbf cm.length ds = true := fun {ds} h => cbf_iff.mpr fun p hp => cbs_iff.mp h p.2 (List.mem_map.mpr ⟨p, hp, rfl⟩)
  refine Rep.rec (motive_1 := fun v d _ => cb cm.length d = true) (motive_2 := fun vs ds _ => cbs cm.length ds = true) ?_ ?_ ?_ ?_ ?_ ?_ ?_ ?_ ?_ ?_ ?_ ?_ ?_ ?_ ?_ h
  · rfl
  · intros; rfl
  · intros; rfl
  · intros; rfl
  · intros; simp only [cb]; assumption
  · intros; simp only [cb]; assumption
  · intros; simp only [cb]; apply dk; assumption
  · intros; simp only [cb]; apply dt; assumption
  · intros; simp only [cb]; apply df; assumption
  · intros; rfl
  · intros; simp only [cb]; assumption
  · intros; simp only [cb]; assumption
  · intro n a e
    simp only [cb, decide_eq_true_eq]
    exact (List.getElem?_eq_some_iff.mp e).1
  · rfl
  · intro v vs d ds _ _ a b
    simp only [cbs, a, b, Bool.and_self]
theorem reps_cb {vs : List V} {ds : List D} (h : Reps L H fb cm vs ds) : cbs cm.length ds = true := by
  induction ds generalizing vs with
  | nil => rfl
  | cons d ds ih =>
    cases h with
    | cons r t => simp only [cbs, rep_cb r, ih t, Bool.and_self]
theorem orep_cb {a : Addr} {o : O} (h : ORep L H fb cm a o) : cbO cm.length o = true := by
  cases o with
  | lst ds => obtain ⟨xs, h1, h2⟩ := h; exact reps_cb h2
  | dk ds => obtain ⟨xs, h1, h2, h3⟩ := h; exact cbk_iff.mpr fun p hp => cbs_iff.mp (reps_cb h3) p.2 (List.mem_map.mpr ⟨p, hp, rfl⟩)
  | dt ds => obtain ⟨xs, h1, h2, h3⟩ := h; exact cbt_iff.mpr fun p hp => cbs_iff.mp (reps_cb h3) p.2 (List.mem_map.mpr ⟨p, hp, rfl⟩)
  | ins c ds => obtain ⟨dx, xs, h1, h2, h3⟩ := h; exact cbf_iff.mpr fun p hp => cbs_iff.mp (reps_cb h3) p.2 (List.mem_map.mpr ⟨p, hp, rfl⟩)
theorem orep_narrow {b : Nat} {cm' : List Addr} {a : Addr} {o : O} (hc : ∀ (n : Nat) (a : Addr), n < b → cm[n]? = some a → cm'[n]? = some a) (h : ORep L H fb cm a o) (q : cbO b o = true) : ORep L H fb cm' a o := by
  have N := rep_narrow_ (L := L) (H := H) (fb := fb) hc
  cases o with
  | lst ds => obtain ⟨xs, h1, h2⟩ := h; exact ⟨xs, h1, N.2 h2 q⟩
  | dk ds => obtain ⟨xs, h1, h2, h3⟩ := h; exact ⟨xs, h1, h2, N.2 h3 (cbs_iff.mpr fun d m => by obtain ⟨p, hp, rfl⟩ := List.mem_map.mp m; exact cbk_iff.mp q p hp)⟩
  | dt ds => obtain ⟨xs, h1, h2, h3⟩ := h; exact ⟨xs, h1, h2, N.2 h3 (cbs_iff.mpr fun d m => by obtain ⟨p, hp, rfl⟩ := List.mem_map.mp m; exact cbt_iff.mp q p hp)⟩
  | ins c ds => obtain ⟨dx, xs, h1, h2, h3⟩ := h; exact ⟨dx, xs, h1, h2, N.2 h3 (cbs_iff.mpr fun d m => by obtain ⟨p, hp, rfl⟩ := List.mem_map.mp m; exact cbf_iff.mp q p hp)⟩
theorem Valid.old {st : Store} (W : Valid L H fb cm st) : OldOk st.length st := fun n o _ e => by
  obtain ⟨a, h1, h2⟩ := W.cells n o e
  rw [← W.len]
  exact orep_cb h2
theorem take_idx {cm ex : List Addr} : ∀ (n : Nat) (a : Addr), n < cm.length → (cm ++ ex)[n]? = some a → cm[n]? = some a := fun n a hn h => by
  rw [List.getElem?_append_left hn] at h
  exact h

/-- the own cells go -/
theorem Valid.cut {ex fb' : List Addr} {st : Store} (W : Valid L H fb (cm ++ ex) st) (old : OldOk cm.length st) (h1 : ∀ a ∈ fb', a ∈ fb) (h2 : ∀ a ∈ cm, a ∈ fb') : Valid L H fb' cm (st.take cm.length) := by
  have hl := W.len
  rw [List.length_append] at hl
  refine ⟨by rw [List.length_take]; omega, (List.nodup_append.mp W.nd).1, h2, fun a m => W.trk a (h1 a m), fun n o e => ?_⟩
  have hn : n < cm.length := by
    have := (List.getElem?_eq_some_iff.mp e).1
    rw [List.length_take] at this
    omega
  rw [List.getElem?_take_of_lt hn] at e
  obtain ⟨a, h3, h4⟩ := W.cells n o e
  exact ⟨a, take_idx n a hn h3, (orep_narrow take_idx h4 (old n o hn e)).less h1⟩
/-- a cell that is new is handed out frozen; the cells behind st go -/
theorem po_frz {fx cm' : List Addr} {H' : Hp} {st s1 : Store} {n : Nat} {a : Addr} {o : O} (W : Valid L H (fx ++ cm) cm st) (p : Stp st.length H cm st H' cm' s1) (W1 : Valid L H' (fx ++ cm') cm' s1) (hc : cm'[n]? = some a) (ho : s1[n]? = some o) (hn : st.length ≤ n) (hcb : cbO st.length o = true) :
    Po L fx st.length H cm st (.ref a) (.n o) H' cm (s1.take st.length) := by
  have hlen := W.len
  obtain ⟨ex, rfl, hx⟩ := p.step.new
  have old : OldOk cm.length s1 := by rw [hlen]; exact p.kp _ (Nat.le_refl _) W.old
  have p2 : Stp st.length H cm st H' cm (s1.take st.length) := ⟨⟨p.step.ext, ⟨[], by simp, by simp⟩, p.step.trk⟩, fun b' hb' old n o hn e => by
    rw [List.getElem?_take_of_lt (Nat.lt_of_lt_of_le hn hb')] at e
    exact p.kp b' hb' old n o hn e, by
    rw [List.length_take]
    have := p.len
    omega⟩
  have hn : ¬ n < cm.length := by rw [hlen]; omega
  have hex : a ∈ ex := by
    rw [List.getElem?_append_right (Nat.le_of_not_lt hn)] at hc
    exact List.mem_of_getElem? hc
  have s2 : ∀ z ∈ fx ++ cm ++ [a], z ∈ fx ++ (cm ++ ex) := fun z m => by
    rcases List.mem_append.mp m with m | m
    · rw [← List.append_assoc]; exact List.mem_append_left _ m
    · rw [List.mem_singleton.mp m]
      exact List.mem_append_right _ (List.mem_append_right _ hex)
  refine ⟨p2, a, rfl, hx a hex, fun m => ?_, ?_, ?_⟩
  · obtain ⟨u, hu⟩ := W.trk a m
    rw [hx a hex] at hu
    cases hu
  · rw [← hlen]
    exact W1.cut old s2 fun z m => List.mem_append_left _ (List.mem_append_right _ m)
  · have o1 := W1.cell ho hc
    rw [← hlen] at hcb
    exact (orep_narrow take_idx o1 hcb).less s2
theorem flat_any {v : V} {d : D} (h : Rep L H fb cm v d) (z : (flat d).isSome = true) : ∀ {H' : Hp} {fb' cm' : List Addr}, Rep L H' fb' cm' v d := fun {H' fb' cm'} => by
  cases h with
  | non => exact .non
  | bl b => exact .bl b
  | int i => exact .int i
  | str x => exact .str x
  | _ => cases z
theorem flats_any : ∀ {vs : List V} {ds : List D}, Reps L H fb cm vs ds → (flats ds).isSome = true → ∀ {H' : Hp} {fb' cm' : List Addr}, Reps L H' fb' cm' vs ds
  | _, _, .nil, _, _, _, _ => .nil
  | _, _, .cons r t, z, _, _, _ => by
    simp only [flats, Option.isSome_bind, Option.isSome_map] at z
    rename_i v vs d ds H' fb' cm'
    cases hf : flat d with
    | none => rw [hf] at z; cases z
    | some x =>
      rw [hf] at z
      exact .cons (flat_any r (by rw [hf]; rfl)) (flats_any t z)
theorem thaw_reps {st : Store} (W : Valid L H fb cm st) : ∀ {vs : List V} {ds : List D}, Reps L H fb cm vs ds → cbs 0 (ds.map (thawA st)) = true → Reps L H [] [] vs (ds.map (thawA st))
  | _, _, .nil, _ => .nil
  | _, _, .cons r t, z => by
    rename_i v vs d ds
    simp only [List.map_cons, cbs, Bool.and_eq_true] at z
    refine .cons ?_ (thaw_reps W t z.2)
    have N : ∀ {v d}, Rep L H fb cm v d → cb 0 d = true → Rep L H [] [] v d := fun {v d} r z => ((rep_narrow_ (cm' := []) fun n a h _ => absurd h (Nat.not_lt_zero _)).1 r z).less fun b m => nomatch m
    have Ns : ∀ {vs ds}, Reps L H fb cm vs ds → cbs 0 ds = true → Reps L H [] [] vs ds := fun {v d} r z => ((rep_narrow_ (cm' := []) fun n a h _ => absurd h (Nat.not_lt_zero _)).2 r z).less fun b m => nomatch m
    by_cases hd : ∃ n, d = .cell n
    · obtain ⟨n, rfl⟩ := hd
      cases r with
      | cell c =>
        simp only [thawA] at z ⊢
        cases ho : st[n]? with
        | none => rw [ho] at z; simp [cb] at z
        | some o =>
          rw [ho] at z
          have q := W.cell ho c
          cases o with
          | lst xs => obtain ⟨us, h1, h2⟩ := q; exact .lst (by simp) (.inl h1) (Ns h2 (by simpa only [cb] using z.1))
          | dk xs => obtain ⟨us, h1, h2, h3⟩ := q; exact .dk (by simp) (.inl h1) h2 (Ns h3 (cbs_iff.mpr fun d m => by obtain ⟨p, hp, rfl⟩ := List.mem_map.mp m; exact cbk_iff.mp (by simpa only [cb] using z.1) p hp))
          | dt xs => obtain ⟨us, h1, h2, h3⟩ := q; exact .dt (by simp) (.inl h1) h2 (Ns h3 (cbs_iff.mpr fun d m => by obtain ⟨p, hp, rfl⟩ := List.mem_map.mp m; exact cbt_iff.mp (by simpa only [cb] using z.1) p hp))
          | ins c xs => simp [cb] at z
    · have e : thawA st d = d := by
        cases d <;> first | rfl | exact absurd ⟨_, rfl⟩ hd
      rw [e] at z ⊢
      exact N r z.1
/-- a thing that stood nowhere, and all that stood stands -/
theorem Valid.and {H' : Hp} {st : Store} {p : Addr} (W : Valid L H fb cm st) (e : ∀ a u, H a = some u → H' a = some u) (hp : H p = none) (hq : ∃ u, H' p = some u) : Valid L H' (fb ++ [p]) cm st := by
  have hx : ∀ b ∈ [p], H b = none := fun b z => by rw [List.mem_singleton.mp z]; exact hp
  refine ⟨W.len, W.nd, fun a m => List.mem_append_left _ (W.sub a m), fun a m => ?_, fun n o q => ?_⟩
  · rcases List.mem_append.mp m with m | m
    · obtain ⟨u, h⟩ := W.trk a m
      exact ⟨u, e a u h⟩
    · rw [List.mem_singleton.mp m]; exact hq
  · obtain ⟨a, h1, h2⟩ := W.cells n o q
    obtain ⟨u, h3⟩ := h2.some
    exact ⟨a, h1, (h2.more hx).ext (fun b o _ => e b o) ((e a u h3).trans h3.symm)⟩
/-- from a world without cells -/
theorem po_call {fy fx : List Addr} {H' : Hp} {st s' : Store} {v : V} {r : R} {b b' : Nat} (W : Valid L H (fx ++ cm) cm st) (h : Po L fy b' H [] [] v r H' [] s') (hs : (∀ a ∈ fx ++ cm, a ∈ fy) ∨ flatR r = true) : Po L fx b H cm st v r H' cm st := by
  obtain ⟨p, q⟩ := h
  have e : ∀ a u, H a = some u → H' a = some u := fun a u h => p.step.ext a u (by simp) h
  refine ⟨.keep e, ?_⟩
  cases r with
  | v d =>
    refine ⟨W.keep e, ?_⟩
    rcases hs with hs | hs
    · exact (Rep.wide (cm := []) (ex := cm) (q.2)).less fun a m => List.mem_append_left _ (hs a m)
    · exact flat_any q.2 hs
  | n o =>
    obtain ⟨a, rfl, h1, h2, h3, h4⟩ := q
    have na : a ∉ fx ++ cm := fun m => by
      obtain ⟨u, hu⟩ := W.trk a m
      rw [h1] at hu
      cases hu
    refine ⟨a, rfl, h1, na, W.and e h1 h4.some, ?_⟩
    rcases hs with hs | hs
    · refine (ORep.wide (cm := []) (ex := cm) h4).less fun z m => ?_
      rcases List.mem_append.mp m with m | m
      · exact List.mem_append_left _ (List.mem_append_left _ (hs z m))
      · exact List.mem_append_right _ m
    · cases o with
      | lst ds =>
        obtain ⟨xs, h5, h6⟩ := h4
        exact ⟨xs, h5, flats_any h6 hs⟩
      | dk ds => cases hs
      | dt ds => cases hs
      | ins c ds => cases hs
end
end En

set_option Elab.async false
set_option linter.all false
set_option maxRecDepth 100000
set_option maxHeartbeats 1000000
namespace En
open PySem PySem.Spec PyProof.Rows L2

def wE (X : Cx) (e : Expr) : TE := fun σ H Q => ∀ (pins : List (Addr × Obj)) (s : Shared), Inv X pins σ H s → wpAny (model X.prog X.w) X.A (eval e X.env) (EP X pins σ Q) X.xe s
def wT (X : Cx) (e : Expr) : TT := fun σ H Q => ∀ (pins : List (Addr × Obj)) (s : Shared), Inv X pins σ H s → wpAny (model X.prog X.w) X.A (isTrue e X.env (eval e X.env)) (TP X pins σ Q) X.xe s
def wW (X : Cx) (e : Expr) : TT := fun σ H Q => ∀ (whole : Sem Value) (pins : List (Addr × Obj)) (s : Shared), Inv X pins σ H s → wpAny (model X.prog X.w) X.A (isTrue e X.env whole) (TP X pins σ Q) X.xe s
def wA (X : Cx) (es : List Expr) : TA := fun σ H Q => ∀ (pos : Pos) (pins : List (Addr × Obj)) (s : Shared), Inv X pins σ H s → wpAny (model X.prog X.w) X.A (spliced (backTo pos (starEach es X.env))) (AP X pins σ Q) X.xe s
def wS (X : Cx) (st : Stmt) : TS := fun D σ H => ∀ (pins : List (Addr × Obj)) (s : Shared), Inv X pins σ H s → wpAny (model X.prog X.w) X.A (exec st X.env) (SP X pins D) X.xe s
def wSs (X : Cx) (st : List Stmt) : TS := fun D σ H => ∀ (pins : List (Addr × Obj)) (s : Shared), Inv X pins σ H s → wpAny (model X.prog X.w) X.A (execs st X.env) (SP X pins D) X.xe s
def wG (X : Cx) (tg : Expr) : TG := fun v σ H Q => ∀ (pins : List (Addr × Obj)) (s : Shared) (u : Value), Inv X pins σ H s → RelV v u →
  wpAny (model X.prog X.w) X.A (assign tg X.env u) (fun _ s' => ∃ σ' H', Inv X pins σ' H' s' ∧ Q σ' H') X.xe s
def wGs (X : Cx) (ts : List Expr) : TGs := fun vs σ H Q => ∀ (pins : List (Addr × Obj)) (s : Shared) (us : List Value), Inv X pins σ H s → Vals vs us →
  wpAny (model X.prog X.w) X.A (assignInOrder ((assignEach ts X.env).map (·.2)) us) (fun _ s' => ∃ σ' H', Inv X pins σ' H' s' ∧ Q σ' H') X.xe s
def wI (X : Cx) (tg iter : Expr) : TI := fun σ H R => ∀ (pins : List (Addr × Obj)) (s : Shared), Inv X pins σ H s →
  wpAny (model X.prog X.w) X.A (eval iter X.env) (fun v s1 => wpAny (model X.prog X.w) X.A (pyIter v) (PIE X pins σ tg R) X.xe s1) X.xe s
section
variable {X : Cx} {σ : L2.St} {H : Hp}
theorem pe_w {e : Expr} : PE X e (wE X e) := ⟨fun pins s _ _ _ I h => h pins s I⟩
theorem pt_w {e : Expr} : PT X e (wT X e) := ⟨fun pins s _ _ _ I h => h pins s I⟩
theorem pw_w {e : Expr} : PW X e (wW X e) := ⟨fun whole pins s _ _ _ I h => h whole pins s I⟩
theorem pa_w {es : List Expr} : PA X es (wA X es) := ⟨fun pos pins s _ _ _ I h => h pos pins s I⟩
theorem ps_w {st : Stmt} : PS X st (wS X st) := ⟨fun pins s _ _ _ I h => h pins s I⟩
theorem pss_w {st : List Stmt} : PSs X st (wSs X st) := ⟨fun pins s _ _ _ I h => h pins s I⟩
theorem pg_w {tg : Expr} : PG X tg (wG X tg) := ⟨fun pins s _ _ _ u _ I r h => h pins s u I r⟩
theorem pi_w {tg iter : Expr} : PI X tg iter (wI X tg iter) := ⟨fun pins s _ _ _ I h => h pins s I⟩
theorem wE_of {e : Expr} {t : TE} {Q : VK} (h : PE X e t) (q : t σ H Q) : wE X e σ H Q := fun pins s I => h.run pins s σ H Q I q
theorem wT_of {e : Expr} {t : TT} {Q : Bool → Hp → Prop} (h : PT X e t) (q : t σ H Q) : wT X e σ H Q := fun pins s I => h.run pins s σ H Q I q
theorem wW_of {e : Expr} {t : TT} {Q : Bool → Hp → Prop} (h : PW X e t) (q : t σ H Q) : wW X e σ H Q := fun whole pins s I => h.run whole pins s σ H Q I q
theorem wA_of {es : List Expr} {t : TA} {Q : List V → Hp → Prop} (h : PA X es t) (q : t σ H Q) : wA X es σ H Q := fun pos pins s I => h.run pos pins s σ H Q I q
theorem wS_of {st : Stmt} {t : TS} {D : Ends} (h : PS X st t) (q : t D σ H) : wS X st D σ H := fun pins s I => h.run pins s σ H D I q
theorem wSs_of {st : List Stmt} {t : TS} {D : Ends} (h : PSs X st t) (q : t D σ H) : wSs X st D σ H := fun pins s I => h.run pins s σ H D I q
theorem wG_of {tg : Expr} {t : TG} {v : V} {Q : L2.St → Hp → Prop} (h : PG X tg t) (q : t v σ H Q) : wG X tg v σ H Q := fun pins s u I r => h.run pins s σ H v u Q I r q
theorem wI_of {tg iter : Expr} {t : TI} {R : It → Hp → Prop} (h : PI X tg iter t) (q : t σ H R) : wI X tg iter σ H R := fun pins s I => h.run pins s σ H R I q
end

def rW (X : Cx) (f : Value → Value → Sem Value) : R2 := fun x y H Q => ∀ (pins : List (Addr × Obj)) (s : Shared) (σ : L2.St) (v u : Value), Inv X pins σ H s → RelV x v → RelV y u → wpAny (model X.prog X.w) X.A (f v u) (EP X pins σ Q) X.xe s
theorem op_w {X : Cx} {f : Value → Value → Sem Value} : OpR X f (rW X f) := fun pins s σ H x y v u Q I r1 r2 h => h pins s σ v u I r1 r2
theorem rW_of {X : Cx} {f : Value → Value → Sem Value} {r : R2} {x y : V} {H : Hp} {Q : VK} (h : OpR X f r) (q : r x y H Q) : rW X f x y H Q := fun pins s σ v u I r1 r2 => h pins s σ H x y v u Q I r1 r2 q
def cW (X : Cx) (f : Value) : List V → Hp → VK → Prop := fun xs H Q => ∀ (pins : List (Addr × Obj)) (s : Shared) (σ : L2.St) (us : List Value), Inv X pins σ H s → Vals xs us → wpAny (model X.prog X.w) X.A (call f us) (EP X pins σ Q) X.xe s
theorem call_w {X : Cx} {f : Value} : CallR X f (cW X f) := fun pins s σ H xs us Q I r h => h pins s σ us I r
theorem cW_of {X : Cx} {f : Value} {r : List V → Hp → VK → Prop} {xs : List V} {H : Hp} {Q : VK} (h : CallR X f r) (q : r xs H Q) : cW X f xs H Q := fun pins s σ us I rv => h pins s σ H xs us Q I rv q
def truW (X : Cx) : V → Hp → (Bool → Hp → Prop) → Prop := fun x H Q => ∀ (pins : List (Addr × Obj)) (s : Shared) (σ : L2.St) (v : Value), Inv X pins σ H s → RelV x v → wpAny (model X.prog X.w) X.A (truthy v) (TP X pins σ Q) X.xe s
theorem tru_w {X : Cx} : TruR X (truW X) := fun pins s σ H x v Q I r h => h pins s σ v I r
theorem truW_of {X : Cx} {r : V → Hp → (Bool → Hp → Prop) → Prop} {x : V} {H : Hp} {Q : Bool → Hp → Prop} (h : TruR X r) (q : r x H Q) : truW X x H Q := fun pins s σ v I rv => h pins s σ H x v Q I rv q

def opOf : Op2 → Operator
  | .add => .Add | .sub => .Sub | .mul => .Mult | .fdiv => .FloorDiv | .mod => .Mod | .pow => .Pow | .shl => .LShift | .shr => .RShift | .band => .BitAnd | .bor => .BitOr | .bxor => .BitXor
def cmpOf : Cmp → CmpOp
  | .eq => .Eq | .ne => .NotEq | .lt => .Lt | .le => .LtE | .gt => .Gt | .ge => .GtE | .is_ => .Is | .isNot => .IsNot | .in_ => .In | .notIn => .NotIn

section
variable {X : Cx} {pins : List (Addr × Obj)} {σ : L2.St} {H : Hp} {s : Shared} {l : Addr} {xs : List V}
theorem lst_rd (I : Inv X pins σ H s) (h : Ql X.K H l xs) : xs.length ≤ sizeLine ∧ ∃ (its : List Value) (n : Nat), Vals xs its ∧ xs.length = its.length ∧ s.heap.get? l = some { cls := .type "list", data := .seq its.toArray n } := by
  rcases h with h | ⟨its, n, h1, h5, h6⟩
  · obtain ⟨z, its, n, r, e⟩ := (show ObjOk X.prog X.w H s.heap l (.lst xs) from h.ok I.hok)
    exact ⟨z, its, n, r, r.length, e⟩
  · have e := I.kIn _ _ h1
    exact ⟨by rw [h6.length]; simpa using h5, its.toList, n, h6, h6.length, by simpa using e⟩
end
def rCatR (K : PySem.W.Frag) : R2 := fun x y H Q => ∃ l b xs zs, x = .ref l ∧ y = .ref b ∧ Ql K H l xs ∧ Ql K H b zs ∧ xs.length + zs.length ≤ sizeLine ∧ ∀ p, H p = none → Q (.ref p) (upd H p (.lst (xs ++ zs)))
theorem op_catR {X : Cx} : OpR X (binaryOp .Add) (rCatR X.K) := by
  intro pins s σ H x y v u Q I rx ry h
  obtain ⟨l, b, xs, zs, rfl, rfl, hH, hB, hz, q⟩ := h
  cases rx
  cases ry
  obtain ⟨z, its, n, r, hl, e⟩ := lst_rd I hH
  obtain ⟨z2, its2, n2, r2, hl2, e2⟩ := lst_rd I hB
  refine PySem.P.add_list e e2 ?_ (by rw [List.size_toArray, List.size_toArray]; omega)
  have ea : its.toArray ++ its2.toArray = (its ++ its2).toArray := by simp
  rw [ea]
  exact ⟨.ref _, _, I.lnew (t' := s.toks) (r.append r2) (by rw [List.length_append]; omega), rfl, q _ I.fresh⟩
def rRepR (K : PySem.W.Frag) : R2 := fun x y H Q => ∃ l k xs, x = .ref l ∧ y = .int k ∧ Ql K H l xs ∧ -(2 ^ 63) ≤ k ∧ k < 2 ^ 63 ∧ xs.length * k.toNat ≤ sizeLine ∧
  ∀ p, H p = none → Q (.ref p) (upd H p (.lst (List.replicate k.toNat xs).flatten))
theorem rep_fold (its : List Value) (m : Nat) : List.foldl (fun x1 x2 => x1 ++ x2) #[] (List.replicate m its.toArray) = (List.replicate m its).flatten.toArray := by
  have q := foldl_rep its m []
  rw [List.nil_append] at q
  exact q
theorem op_repR {X : Cx} : OpR X (binaryOp .Mult) (rRepR X.K) := by
  intro pins s σ H x y v u Q I rx ry h
  obtain ⟨l, k, xs, rfl, rfl, hH, h1, h2, hz, q⟩ := h
  cases rx
  obtain ⟨t, rfl⟩ := ry
  obtain ⟨z, its, n, r, hl, e⟩ := lst_rd I hH
  have hlen : its.toArray.size * k.toNat ≤ sizeLine := by
    rw [List.size_toArray, ← hl]
    exact hz
  have c1 : ¬ its.toArray.size * k.toNat > (2 ^ 63 - 1) / 8 := by
    have c0 : (sizeLine : Nat) ≤ (2 ^ 63 - 1) / 8 := by decide
    omega
  have c2 : ¬ (!Builtin.List.listFitsIndex k) = true := by
    rw [fitsIndex_both h1 h2]
    exact Bool.false_ne_true
  have c3 : ¬ Builtin.List.listTooLong (its.toArray.size * k.toNat) = true := by
    rw [notLongL hlen]
    exact Bool.false_ne_true
  have c4 : List.foldl (fun x1 x2 => x1 ++ x2) #[] (List.replicate (if its.toArray.isEmpty = true then 0 else k.toNat) its.toArray) = (List.replicate k.toNat its).flatten.toArray := by
    rw [rep_fold]
    cases its with
    | nil => simp
    | cons a r' => rw [if_neg (by simp)]
  refine wpAny_binaryOp_repeat_ref (T := "list") (U := "int") (by decide) ⟨_, e, rfl⟩ (fun s' => typeIs_int s' k t) noFill_list_mul F.fills_int_mul F.slot_int_rmul repeat_list F.slot_int_index.lookup
    (call_meets F.slot_int_rmul (typeIs_int s k t) F.entry_int_rmul (F.args_int_rmul_2 _ _) (int___rmul___int_list k t l its.toArray n)
      ⟨e, rfl, ⟨_, e, rfl⟩, call_meets F.slot_list_mul ⟨_, e, rfl⟩ F.entry_list_mul (F.args_list_mul_2 _ _) (AutoListH.list___mul___list_int_3 l its.toArray n k t c2 c1 c3) ⟨e, ?_⟩⟩)
  rw [c4]
  exact ⟨.ref _, _, I.lnew (t' := s.toks) (r.rep k.toNat) (by rw [PyProof.Rows.lm_len_rep_flat, Nat.mul_comm]; exact hz), rfl, q _ I.fresh⟩

theorem le_line {n : Nat} (h : n ≤ 100000) : n ≤ sizeLine := Nat.le_trans h (by decide)
theorem lt_line {n : Nat} (h : n < 100000) : n < sizeLine := Nat.lt_of_lt_of_le h (by decide)
section
variable {L : Lk} {X : Cx} {b : Nat} {H : Hp} {fx cm : List Addr} {st : Store} {v1 v2 : V} {x y : D} {Q : VK}
theorem Reps.rep {vs : List V} {ds : List D} (h : Reps L H (fx ++ cm) cm vs ds) : ∀ k : Nat, Reps L H (fx ++ cm) cm (List.replicate k vs).flatten (List.replicate k ds).flatten
  | 0 => .nil
  | k + 1 => by
    rw [List.replicate_succ, List.replicate_succ, List.flatten_cons, List.flatten_cons]
    exact h.append (h.rep k)
theorem int_sound {o : Op2} {i j k : Int} (e : intOp o i j = some k) (q : Q (.int k) H) : rW X (binaryOp (opOf o)) (.int i) (.int j) H Q := by
  cases o <;> simp only [intOp, Option.some.injEq, Option.ite_none_right_eq_some, CMulD, CPowD, decide_eq_true_eq] at e
  case add => subst e; exact rW_of op_add ⟨i, j, rfl, rfl, q⟩
  case sub => subst e; exact rW_of op_sub ⟨i, j, rfl, rfl, q⟩
  case mul => obtain ⟨c, rfl⟩ := e; exact rW_of op_mul ⟨i, j, rfl, rfl, c, q⟩
  case fdiv => obtain ⟨c, rfl⟩ := e; exact rW_of op_fdivN ⟨i, j, rfl, rfl, c, q⟩
  case mod => obtain ⟨c, rfl⟩ := e; exact rW_of op_modN ⟨i, j, rfl, rfl, c, q⟩
  case pow => obtain ⟨c, rfl⟩ := e; exact rW_of op_pow ⟨i, j, rfl, rfl, c, q⟩
  case shl => obtain ⟨c, rfl⟩ := e; exact rW_of op_shl ⟨i, j, rfl, rfl, c, q⟩
  case shr => obtain ⟨c, rfl⟩ := e; exact rW_of op_shr ⟨i, j, rfl, rfl, c, q⟩
  case band => subst e; exact rW_of op_and ⟨i, j, rfl, rfl, q⟩
  case bor => subst e; exact rW_of op_or ⟨i, j, rfl, rfl, q⟩
  case bxor => subst e; exact rW_of op_xor ⟨i, j, rfl, rfl, q⟩
theorem tup_rep {k : Bool} {ds : List D} {v : V} {d : D} (h : Rep L H (fx ++ cm) cm v d) (z : isTupD d = true) (e : seqOf st d = some (k, ds)) : k = true ∧ d = .tup ds := by
  cases h <;> simp only [isTupD, reduceCtorEq] at z
  simp only [seqOf, Option.some.injEq, Prod.mk.injEq] at e
  obtain ⟨rfl, rfl⟩ := e
  exact ⟨rfl, rfl⟩
theorem seq_ref {k : Bool} {ds : List D} {d : D} (h1 : Rep L H (fx ++ cm) cm v1 d) {a : Addr} (e : v1 = .ref a) : Rep L H (fx ++ cm) cm (.ref a) d := e ▸ h1
theorem op_sound {o : Op2} {r : R} (hK : X.K = L.K) (e : opR o x y st = some r) (rx : Rep L H (fx ++ cm) cm v1 x) (ry : Rep L H (fx ++ cm) cm v2 y) (W : Valid L H (fx ++ cm) cm st)
    (k : ∀ v H', Po L fx b H cm st v r H' cm st → Q v H') : rW X (binaryOp (opOf o)) v1 v2 H Q := by
  unfold opR at e
  split at e
  · simp only [Option.map_eq_some_iff] at e
    obtain ⟨m, e, rfl⟩ := e
    cases rx
    cases ry
    exact int_sound e (k _ _ (po_val W (.int m)))
  · cases rx
    cases ry
    split at e
    · simp only [Option.ite_none_right_eq_some, Option.some.injEq] at e
      obtain ⟨e1, rfl⟩ := e
      exact rW_of op_add_str ⟨_, _, rfl, rfl, le_line e1, k _ _ (po_val W (.str _))⟩
    · cases e
  · split at e
    · split at e
      · rename_i xs ys h1 h2
        simp only [Option.ite_none_right_eq_some, Option.some.injEq] at e
        obtain ⟨e1, rfl⟩ := e
        obtain ⟨a1, us, rfl, r1, d1, _⟩ := seq_rep W rx h1
        obtain ⟨a2, ws, rfl, r2, d2, _⟩ := seq_rep W ry h2
        exact rW_of op_catR ⟨a1, a2, us, ws, rfl, rfl, hK ▸ d1 rfl, hK ▸ d2 rfl, by rw [r1.length, r2.length]; exact le_line e1, fun p hp => k _ _ (po_lst W (r1.append r2) hp)⟩
      · rename_i xs ys h1 h2
        simp only [Option.ite_none_right_eq_some, Option.some.injEq] at e
        obtain ⟨e1, rfl⟩ := e
        obtain ⟨a1, us, rfl, r1, _, d1⟩ := seq_rep W rx h1
        obtain ⟨a2, ws, rfl, r2, _, d2⟩ := seq_rep W ry h2
        have n1 : us = [] ↔ xs = [] := by
          have q := r1.nil_iff
          constructor <;> (rintro rfl; simpa using q)
        have n2 : ws = [] ↔ ys = [] := by
          have q := r2.nil_iff
          constructor <;> (rintro rfl; simpa using q)
        refine rW_of op_catA ⟨a1, a2, us, ws, rfl, rfl, hK ▸ d1 rfl, hK ▸ d2 rfl, by rw [r1.length, r2.length]; exact le_line e1.1, fun z => ?_, fun z z2 => ?_, fun _ _ p hp => k _ _ (po_tup W (r1.append r2) hp)⟩
        · have z' := n1.mp z
          subst z'
          simp only [List.isEmpty_nil, Bool.not_true, Bool.false_and, Bool.or_false, Bool.and_eq_true] at e1
          obtain ⟨_, q⟩ := tup_rep ry e1.2.2 h2
          exact k _ _ (po_val W (q ▸ ry))
        · have z' := n2.mp z2
          subst z'
          simp only [List.isEmpty_nil, Bool.not_true, Bool.and_false, Bool.or_false, Bool.and_eq_true] at e1
          obtain ⟨_, q⟩ := tup_rep rx e1.2.1 h1
          rw [List.append_nil] at k
          exact k _ _ (po_val W (q ▸ rx))
      · cases e
    · split at e
      · rename_i xs kk h1 f1 f2
        simp only [Option.ite_none_right_eq_some, Option.some.injEq, decide_eq_true_eq] at e
        obtain ⟨⟨e1, e2, e3⟩, rfl⟩ := e
        obtain ⟨a1, us, rfl, r1, d1, _⟩ := seq_rep W rx h1
        cases ry
        exact rW_of op_repR ⟨a1, kk, us, rfl, rfl, hK ▸ d1 rfl, e1, e2, by rw [r1.length]; exact le_line e3, fun p hp => k _ _ (po_lst W (r1.rep _) hp)⟩
      · cases e
    · cases e
theorem bl_case {e : Option Bool} {r : R} (h : e.map (fun k => R.v (.bl k)) = some r) : ∃ k, e = some k ∧ r = .v (.bl k) := by
  simp only [Option.map_eq_some_iff] at h
  obtain ⟨k, h1, h2⟩ := h
  exact ⟨k, h1, h2.symm⟩
theorem eq_sound {k : Bool} (hK : X.K = L.K) (hu : X.A.units + 64 < cLine) (e : eqD st x y = some k) (rx : Rep L H (fx ++ cm) cm v1 x) (ry : Rep L H (fx ++ cm) cm v2 y) (W : Valid L H (fx ++ cm) cm st) (q : Q (.bl k) H) :
    rW X (compareOp .Eq) v1 v2 H Q := by
  unfold eqD at e
  split at e
  · rename_i a c h1 h2
    simp only [Option.ite_none_right_eq_some, Option.some.injEq] at e
    obtain ⟨e1, rfl⟩ := e
    have z1 := flat_rep rx h1
    have z2 := flat_rep ry h2
    subst z1 z2
    exact rW_of op_eq ⟨e1, q⟩
  · simp only [Option.bind_eq_some_iff, Option.ite_none_right_eq_some, Option.some.injEq, Bool.and_eq_true] at e
    obtain ⟨p1, e1, p2, e2, ⟨s1, s2⟩, rfl⟩ := e
    exact rW_of (op_eqD hu) ⟨p1, p2, hK ▸ thaw_rep W rx e1, hK ▸ thaw_rep W ry e2, s1, s2, q⟩
theorem ne_sound {k : Bool} (hK : X.K = L.K) (hu : X.A.units + 64 < cLine) (e : eqD st x y = some k) (rx : Rep L H (fx ++ cm) cm v1 x) (ry : Rep L H (fx ++ cm) cm v2 y) (W : Valid L H (fx ++ cm) cm st) (q : Q (.bl !k) H) :
    rW X (compareOp .NotEq) v1 v2 H Q := by
  unfold eqD at e
  split at e
  · rename_i a c h1 h2
    simp only [Option.ite_none_right_eq_some, Option.some.injEq] at e
    obtain ⟨e1, rfl⟩ := e
    have z1 := flat_rep rx h1
    have z2 := flat_rep ry h2
    subst z1 z2
    exact rW_of op_ne ⟨e1, q⟩
  · simp only [Option.bind_eq_some_iff, Option.ite_none_right_eq_some, Option.some.injEq, Bool.and_eq_true] at e
    obtain ⟨p1, e1, p2, e2, ⟨s1, s2⟩, rfl⟩ := e
    exact rW_of (op_neD hu) ⟨p1, p2, hK ▸ thaw_rep W rx e1, hK ▸ thaw_rep W ry e2, s1, s2, q⟩
theorem isNon_rep (h : Rep L H (fx ++ cm) cm v1 x) : decide (v1 = .non) = isNon x := by
  cases h <;> simp [isNon]
theorem isNon_is (h : Rep L H (fx ++ cm) cm v1 x) (e : isNon x = true) : v1 = .non := by
  cases h <;> simp only [isNon, reduceCtorEq] at e
  rfl
/-- what a dict holds at a key -/
theorem dget_rep {o : Option D} {gd : Nat → List (Str × D)} (W : Valid L H (fx ++ cm) cm st) (rx : Rep L H (fx ++ cm) cm v1 x) (ry : Rep L H (fx ++ cm) cm v2 y) (g : ∀ j, x ≠ .gd j) (e : dget gd st x y = some o) :
    ∃ a u, v1 = .ref a ∧ IsD H a ∧ DGet H a v2 u ∧ (o = none → u = none) ∧ ∀ d, o = some d → ∃ v, u = some v ∧ Rep L H (fx ++ cm) cm v d := by
  unfold dget at e
  split at e
  · exact absurd rfl (g _)
  · split at e
    · rename_i kvs h1
      simp only [Option.map_eq_some_iff] at e
      obtain ⟨k, h2, rfl⟩ := e
      obtain ⟨a, ws, rfl, h3, h4, h5⟩ := dk_rep W rx h1
      have q := look_rep k h4 h5
      have z := key_rep ry h2
      subst z
      exact ⟨a, valV ws k, rfl, .inl ⟨ws, h3⟩, .inl ⟨ws, k, h3, rfl, rfl⟩, q.1, q.2⟩
    · split at e
      · rename_i kvs ks h1 h0
        simp only [Option.map_eq_some_iff] at e
        obtain ⟨k, h2, rfl⟩ := e
        obtain ⟨a, ws, rfl, h3, h4, h5⟩ := dt_rep W rx h0
        have q := look_rep k h4 h5
        cases ry with
        | tup n t r =>
          have z := keys_rep r h2
          subst z
          exact ⟨a, valV ws k, rfl, .inr ⟨ws, h3⟩, .inr ⟨ws, k, _, h3, rfl, t, rfl⟩, q.1, q.2⟩
      · cases e
theorem isSome_of {o : Option D} {u : Option V} (h1 : o = none → u = none) (h2 : ∀ d, o = some d → ∃ v, u = some v ∧ Rep L H (fx ++ cm) cm v d) : u.isSome = o.isSome := by
  cases o with
  | none => rw [h1 rfl]; rfl
  | some d =>
    obtain ⟨v, e, _⟩ := h2 d rfl
    rw [e]
    rfl
theorem in_sound {k : Bool} {gd : Nat → List (Str × D)} (hK : X.K = L.K) (hu : X.A.units + 1 < cLine) (e : inR gd x y st = some k) (rx : Rep L H (fx ++ cm) cm v1 x) (ry : Rep L H (fx ++ cm) cm v2 y) (W : Valid L H (fx ++ cm) cm st) (q : Q (.bl k) H) :
    rW X (compareOp .In) v1 v2 H Q := by
  unfold inR at e
  split at e
  · rename_i b' ds h1
    simp only [Option.bind_eq_some_iff, Option.map_eq_some_iff] at e
    obtain ⟨v, h2, vs, h3, rfl⟩ := e
    obtain ⟨a, us, rfl, r, d1, d2⟩ := seq_rep W ry h1
    have z := flat_rep rx h2
    subst z
    obtain ⟨rfl, z2⟩ := flats_rep r h3
    exact rW_of op_in_seq ⟨a, us, rfl, hK ▸ seq_or d1 d2, flat_isV h2, z2, q⟩
  · split at e
    · simp only [Option.some.injEq] at e
      subst e
      cases rx
      cases ry
      exact rW_of op_in_str ⟨_, _, rfl, rfl, q⟩
    · cases e
    · rename_i g g'
      simp only [Option.map_eq_some_iff] at e
      obtain ⟨o, h1, rfl⟩ := e
      obtain ⟨a, u, rfl, _, h3, h4, h5⟩ := dget_rep W ry rx (fun j z => g j z) h1
      rw [← isSome_of h4 h5] at q
      intro pins s σ v w I r1 r2
      cases r2
      exact d_in hu I h3 r1 fun s' I' => ⟨.bl u.isSome, H, I', rfl, q⟩
theorem notIn_sound {k : Bool} {gd : Nat → List (Str × D)} (hK : X.K = L.K) (hu : X.A.units + 1 < cLine) (e : inR gd x y st = some k) (rx : Rep L H (fx ++ cm) cm v1 x) (ry : Rep L H (fx ++ cm) cm v2 y) (W : Valid L H (fx ++ cm) cm st) (q : Q (.bl !k) H) :
    rW X (compareOp .NotIn) v1 v2 H Q := by
  unfold inR at e
  split at e
  · rename_i b' ds h1
    simp only [Option.bind_eq_some_iff, Option.map_eq_some_iff] at e
    obtain ⟨v, h2, vs, h3, rfl⟩ := e
    obtain ⟨a, us, rfl, r, d1, d2⟩ := seq_rep W ry h1
    have z := flat_rep rx h2
    subst z
    obtain ⟨rfl, z2⟩ := flats_rep r h3
    exact rW_of op_notIn_seq ⟨a, us, rfl, hK ▸ seq_or d1 d2, flat_isV h2, z2, q⟩
  · split at e
    · simp only [Option.some.injEq] at e
      subst e
      cases rx
      cases ry
      exact rW_of op_notin_str ⟨_, _, rfl, rfl, q⟩
    · cases e
    · rename_i g g'
      simp only [Option.map_eq_some_iff] at e
      obtain ⟨o, h1, rfl⟩ := e
      obtain ⟨a, u, rfl, _, h3, h4, h5⟩ := dget_rep W ry rx (fun j z => g j z) h1
      rw [← isSome_of h4 h5] at q
      intro pins s σ v w I r1 r2
      cases r2
      exact d_notIn hu I h3 r1 fun s' I' => ⟨.bl !u.isSome, H, I', rfl, q⟩
theorem ord_sound {c : Cmp} {i j : Int} {k : Bool} (e : intCmp c i j = some k) (q : Q (.bl k) H) : rW X (compareOp (cmpOf c)) (.int i) (.int j) H Q := by
  cases c <;> simp only [intCmp, Option.some.injEq, reduceCtorEq] at e
  case lt => subst e; exact rW_of op_lt ⟨i, j, rfl, rfl, q⟩
  case le => subst e; exact rW_of op_le ⟨i, j, rfl, rfl, q⟩
  case gt => subst e; exact rW_of op_gt ⟨i, j, rfl, rfl, q⟩
  case ge => subst e; exact rW_of op_ge ⟨i, j, rfl, rfl, q⟩
theorem lts_sound {c : Cmp} {k : Bool} (hK : X.K = L.K) (hu : X.A.units + 64 < cLine)
    (e : (match x, y with
      | .int i, .int j => intCmp c i j
      | .str i, .str j => if c = .lt then some (decide (i.cps.toList < j.cps.toList)) else none
      | .tup xs, .tup ys => if c = .lt then (intsOf xs).bind fun is => (intsOf ys).map fun js => HT.lexLt is js else none
      | _, _ => none) = some k) (rx : Rep L H (fx ++ cm) cm v1 x) (ry : Rep L H (fx ++ cm) cm v2 y) (W : Valid L H (fx ++ cm) cm st) (q : Q (.bl k) H) : rW X (compareOp (cmpOf c)) v1 v2 H Q := by
  split at e
  · cases rx
    cases ry
    exact ord_sound e q
  · cases rx
    cases ry
    simp only [Option.ite_none_right_eq_some, Option.some.injEq] at e
    obtain ⟨rfl, rfl⟩ := e
    exact rW_of op_lt_str ⟨_, _, rfl, rfl, q⟩
  · simp only [Option.ite_none_right_eq_some, Option.bind_eq_some_iff, Option.map_eq_some_iff] at e
    obtain ⟨rfl, is, h1, js, h2, rfl⟩ := e
    cases rx with
    | tup n1 t1 r1 =>
      cases ry with
      | tup n2 t2 r2 =>
        have z1 := ints_rep r1 h1
        have z2 := ints_rep r2 h2
        subst z1 z2
        exact rW_of (op_ltT (Nat.lt_of_le_of_lt (Nat.le_add_right _ 64) hu)) ⟨_, _, is, js, rfl, rfl, SqT.of t1, SqT.of t2, q⟩
  · cases e
theorem cmp_sound {c : Cmp} {k : Bool} {gd : Nat → List (Str × D)} (hK : X.K = L.K) (hu : X.A.units + 64 < cLine) (e : cmpR gd c x y st = some k) (rx : Rep L H (fx ++ cm) cm v1 x) (ry : Rep L H (fx ++ cm) cm v2 y) (W : Valid L H (fx ++ cm) cm st) (q : Q (.bl k) H) :
    rW X (compareOp (cmpOf c)) v1 v2 H Q := by
  have hu1 : X.A.units + 1 < cLine := by omega
  cases c
  case eq => exact eq_sound hK hu e rx ry W q
  case ne =>
    simp only [cmpR, Option.map_eq_some_iff] at e
    obtain ⟨k', e1, rfl⟩ := e
    exact ne_sound hK hu e1 rx ry W q
  case is_ =>
    simp only [cmpR, Option.ite_none_right_eq_some, Option.some.injEq] at e
    obtain ⟨e1, rfl⟩ := e
    exact rW_of op_isN ⟨isNon_is ry e1, by rw [isNon_rep rx]; exact q⟩
  case isNot =>
    simp only [cmpR, Option.ite_none_right_eq_some, Option.some.injEq] at e
    obtain ⟨e1, rfl⟩ := e
    exact rW_of op_notN ⟨isNon_is ry e1, by rw [isNon_rep rx]; exact q⟩
  case in_ => exact in_sound hK hu1 e rx ry W q
  case notIn =>
    simp only [cmpR, Option.map_eq_some_iff] at e
    obtain ⟨k', e1, rfl⟩ := e
    exact notIn_sound hK hu1 e1 rx ry W q
  case lt => exact lts_sound hK hu e rx ry W q
  case le => exact lts_sound hK hu e rx ry W q
  case gt => exact lts_sound hK hu e rx ry W q
  case ge => exact lts_sound hK hu e rx ry W q
end
end En

set_option Elab.async false
set_option linter.all false
set_option maxRecDepth 100000
set_option maxHeartbeats 1000000
namespace En
open PySem PySem.Spec PyProof.Rows L2

def xW (X : Cx) : R2 := fun x y H Q => ∀ (value slice : Expr) (pins : List (Addr × Obj)) (s : Shared) (σ : L2.St) (v u : Value), Inv X pins σ H s → RelV x v → RelV y u →
  subscripted slice false v u = operate [v, u] (getItem v u) → wpAny (model X.prog X.w) X.A (subscriptTail value slice v u) (EP X pins σ Q) X.xe s
theorem reps_keys {L : Lk} {H : Hp} {fb cm : List Addr} : ∀ ks : List Key, Reps L H fb cm (ks.map kV) (ks.map keyD)
  | [] => .nil
  | .inl i :: ks => .cons (.int i) (reps_keys ks)
  | .inr x :: ks => .cons (.str x) (reps_keys ks)
theorem ix_w {X : Cx} : IxR X (xW X) := fun value slice pins s σ H x y v u Q I r1 r2 h hs => h value slice pins s σ v u I r1 r2 hs
theorem xW_of {X : Cx} {r : R2} {x y : V} {H : Hp} {Q : VK} (h : IxR X r) (q : r x y H Q) : xW X x y H Q := fun value slice pins s σ v u I r1 r2 hs => h value slice pins s σ H x y v u Q I r1 r2 q hs
def slW (X : Cx) : V → Option Int → Option Int → Hp → VK → Prop := fun x lo hi H Q => ∀ (pins : List (Addr × Obj)) (s : Shared) (σ : L2.St) (v vl vu : Value) (sl : Addr), Inv X pins σ H s → RelV x v → s.heap.IsSliceOf sl vl vu .none → IsPart vl lo → IsPart vu hi →
  ∃ T id, typeLookup (.type T) "__getitem__" = pure (some (.builtin id)) ∧ s.TypeIs v T ∧ wpAny (model X.prog X.w) X.A (getItem v (.ref sl)) (EP X pins σ Q) X.xe s
theorem sl_w {X : Cx} : SlR X (slW X) := fun pins s σ H x v vl vu lo hi sl Q I r1 h1 h2 h3 h => h pins s σ v vl vu sl I r1 h1 h2 h3
theorem slW_of {X : Cx} {r : V → Option Int → Option Int → Hp → VK → Prop} {x : V} {lo hi : Option Int} {H : Hp} {Q : VK} (h : SlR X r) (q : r x lo hi H Q) : slW X x lo hi H Q :=
  fun pins s σ v vl vu sl I r1 h1 h2 h3 => h pins s σ H x v vl vu lo hi sl Q I r1 h1 h2 h3 q
def mW (X : Cx) (id : String) : V → List V → Hp → VK → Prop := fun x xs H Q => ∀ (pins : List (Addr × Obj)) (s : Shared) (σ : L2.St) (v : Value) (us : List Value), Inv X pins σ H s → RelV x v → Vals xs us →
  wpAny (model X.prog X.w) X.A (call (.builtin id) (v :: us)) (EP X pins σ Q) X.xe s
theorem mt_w {X : Cx} {id : String} : MtR X id (mW X id) := fun pins s σ H x xs v us Q I r1 r2 h => h pins s σ v us I r1 r2
theorem mW_of {X : Cx} {id : String} {r : V → List V → Hp → VK → Prop} {x : V} {xs : List V} {H : Hp} {Q : VK} (h : MtR X id r) (q : r x xs H Q) : mW X id x xs H Q := fun pins s σ v us I r1 r2 => h pins s σ H x xs v us Q I r1 r2 q
def sW (X : Cx) : TSet := fun o i v H Q => ∀ (pins : List (Addr × Obj)) (s : Shared) (σ : L2.St) (ov iv u : Value), Inv X pins σ H s → RelV o ov → RelV i iv → RelV v u →
  wpAny (model X.prog X.w) X.A (setItem ov iv u) (fun _ s' => ∃ H', Inv X pins σ H' s' ∧ Q H') X.xe s
theorem set_w {X : Cx} : PSet X (sW X) := fun pins s σ H o i v ov iv u Q I r1 r2 r3 h => h pins s σ ov iv u I r1 r2 r3
theorem sW_of {X : Cx} {t : TSet} {o i v : V} {H : Hp} {Q : Hp → Prop} (h : PSet X t) (q : t o i v H Q) : sW X o i v H Q := fun pins s σ ov iv u I r1 r2 r3 => h pins s σ H o i v ov iv u Q I r1 r2 r3 q

section
variable {L : Lk} {X : Cx} {b : Nat} {H : Hp} {fx cm : List Addr} {st : Store} {v1 v2 : V} {x y : D} {Q : VK}
theorem emp_rep {vs : List V} {ds : List D} (r : Reps L H (fx ++ cm) cm vs ds) : (!vs.isEmpty) = !ds.isEmpty := by rw [r.nil_iff]
theorem emp_map {κ : Type} {xs : List (κ × V)} {ds : List (κ × D)} (e : xs.map (·.1) = ds.map (·.1)) : (!xs.isEmpty) = !ds.isEmpty := by
  cases xs <;> cases ds <;> first | rfl | simp at e
theorem tru_sound {k : Bool} {Qt : Bool → Hp → Prop} (hK : X.K = L.K) (e : tru st x = some k) (rx : Rep L H (fx ++ cm) cm v1 x) (W : Valid L H (fx ++ cm) cm st) (q : Qt k H) : truW X v1 H Qt := by
  have seq : ∀ (k' : Bool) (ds : List D), seqOf st x = some (k', ds) → (!ds.isEmpty) = k → truW X v1 H Qt := fun k' ds h1 h2 => by
    obtain ⟨a, us, rfl, r, d1, d2⟩ := seq_rep W rx h1
    rw [← h2, ← emp_rep r] at q
    refine truW_of tru_ok ⟨_, ?_, q⟩
    rcases seq_or d1 d2 with z | z
    · exact .inl ⟨us, hK ▸ z, rfl⟩
    · exact .inr (.inl ⟨us, hK ▸ z, rfl⟩)
  have dct : ∀ (ds : List (Key × D)), dkOf st x = some ds → (!ds.isEmpty) = k → truW X v1 H Qt := fun ds h1 h2 => by
    obtain ⟨a, kvs, rfl, r, d1, d2⟩ := dk_rep W rx h1
    rw [← h2, ← emp_map d1] at q
    intro pins s σ v I rv
    cases rv
    exact d_truth I r fun s' I' => ⟨H, I', q⟩
  unfold tru at e
  split at e
  · cases rx; cases e; exact truW_of tru_ok ⟨_, rfl, q⟩
  · cases rx; cases e; exact truW_of tru_ok ⟨_, rfl, q⟩
  · cases rx; cases e; exact truW_of tru_ok ⟨_, rfl, q⟩
  · cases rx
    simp only [Option.ite_none_right_eq_some, Option.some.injEq] at e
    exact truW_of tru_ok ⟨_, ⟨le_line e.1, rfl⟩, e.2 ▸ q⟩
  · split at e
    · rename_i k' ds h1
      exact seq k' ds h1 (Option.some.inj e)
    · simp only [Option.map_eq_some_iff] at e
      obtain ⟨kvs, h1, h2⟩ := e
      exact dct kvs h1 h2
theorem len_sound {n : Nat} (hK : X.K = L.K) (e : lenD st x = some n) (rx : Rep L H (fx ++ cm) cm v1 x) (W : Valid L H (fx ++ cm) cm st) (q : Q (.int n) H) : cW X (.builtin "len") [v1] H Q := by
  unfold lenD at e
  split at e
  · cases rx
    simp only [Option.ite_none_right_eq_some, Option.some.injEq] at e
    obtain ⟨e1, rfl⟩ := e
    exact cW_of call_len_str ⟨_, rfl, le_line e1, q⟩
  · split at e
    · rename_i k' ds h1
      simp only [Option.some.injEq] at e
      subst e
      obtain ⟨a, us, rfl, r, d1, d2⟩ := seq_rep W rx h1
      rw [← r.length] at q
      exact cW_of call_len_seq ⟨a, us, rfl, hK ▸ seq_or d1 d2, q⟩
    · simp only [Option.map_eq_some_iff] at e
      obtain ⟨kvs, h1, rfl⟩ := e
      obtain ⟨a, ws, rfl, r, d1, d2⟩ := dk_rep W rx h1
      have hl : ws.length = kvs.length := by
        have z := congrArg List.length d1
        simpa using z
      rw [← hl] at q
      intro pins s σ us I rv
      obtain ⟨u, rfl, ru⟩ := vals1 rv
      cases ru
      exact d_len I r fun t s' I' => ⟨.int ws.length, H, I', ⟨t, rfl⟩, q⟩

theorem atI_rep {vs : List V} {ds : List D} {i : Int} {d : D} (r : Reps L H (fx ++ cm) cm vs ds) (e : atI ds i = some d) : ∃ v, atI vs i = some v ∧ Rep L H (fx ++ cm) cm v d := by
  unfold atI at e ⊢
  rw [← r.length] at e
  simp only [Option.bind_eq_some_iff] at e ⊢
  obtain ⟨j, h1, h2⟩ := e
  obtain ⟨v, h3, h4⟩ := r.get h2
  exact ⟨v, ⟨j, h1, h3⟩, h4⟩
/-- what the program's dicts of the top hold -/
def GdOk (L : Lk) (w : World) (gd : Nat → List (Str × D)) : Prop :=
  ∀ (j : Nat) (z : Str) (d : D), lookK (gd j) z = some d → ∃ v, KDct L.K w (L.ga j) z v ∧ ∀ (H : Hp) (fb cm : List Addr), Rep L H fb cm v d
theorem dgetIx_sound {gd : Nat → List (Str × D)} {d : D} (hK : X.K = L.K) (hg : GdOk L X.w gd) (hu : X.A.units + 1 < cLine) (e : dget gd st x y = some (some d)) (rx : Rep L H (fx ++ cm) cm v1 x) (ry : Rep L H (fx ++ cm) cm v2 y) (W : Valid L H (fx ++ cm) cm st)
    (k : ∀ v, Rep L H (fx ++ cm) cm v d → Q v H) : xW X v1 v2 H Q := by
  by_cases g : ∃ j, x = .gd j
  · obtain ⟨j, rfl⟩ := g
    simp only [dget] at e
    split at e
    · rename_i z
      simp only [Option.map_eq_some_iff, Option.some.injEq, exists_eq_right] at e
      obtain ⟨v, h1, h2⟩ := hg j z d e
      cases rx
      cases ry
      exact xW_of ix_kdict ⟨_, z, v, rfl, rfl, hK ▸ h1, k v (h2 _ _ _)⟩
    · cases e
  · obtain ⟨a, u, rfl, _, h3, _, h5⟩ := dget_rep W rx ry (fun j z => g ⟨j, z⟩) e
    obtain ⟨v, rfl, rv⟩ := h5 d rfl
    intro value slice pins s σ w u I r1 r2 hs
    cases r1
    exact tail_any (dict_typeIs I h3) slot_dict_getitem.lookup (d_getItem hu I h3 r2 fun w' s' I' rw' => ⟨v, H, I', rw', k v rv⟩) hs
theorem ix_sound {gd : Nat → List (Str × D)} {r : R} (hK : X.K = L.K) (hg : GdOk L X.w gd) (hu : X.A.units + 1 < cLine) (e : ixR gd x y st = some r) (rx : Rep L H (fx ++ cm) cm v1 x) (ry : Rep L H (fx ++ cm) cm v2 y) (W : Valid L H (fx ++ cm) cm st)
    (k : ∀ v H', Po L fx b H cm st v r H' cm st → Q v H') : xW X v1 v2 H Q := by
  unfold ixR at e
  split at e
  · cases rx
    cases ry
    simp only [Option.ite_none_right_eq_some, Option.map_eq_some_iff] at e
    obtain ⟨e1, c, e2, rfl⟩ := e
    exact xW_of ix_str ⟨_, _, c, rfl, rfl, le_line e1, e2, k _ _ (po_val W (.str _))⟩
  · split at e
    · rename_i k' ds i h1 _
      simp only [Option.map_eq_some_iff] at e
      obtain ⟨d, e1, rfl⟩ := e
      obtain ⟨a, us, rfl, r, d1, d2⟩ := seq_rep W rx h1
      obtain ⟨v, h2, h3⟩ := atI_rep r e1
      cases ry
      cases k' with
      | false => exact xW_of ix_list ⟨a, us, i, v, rfl, rfl, (hK ▸ (d1 rfl).sq), h2, k _ _ (po_val W h3)⟩
      | true => exact xW_of ix_tup ⟨a, us, i, v, rfl, rfl, hK ▸ d2 rfl, h2, k _ _ (po_val W h3)⟩
    · split at e
      · rename_i d h1
        simp only [Option.some.injEq] at e
        subst e
        exact dgetIx_sound hK hg hu h1 rx ry W fun v rv => k _ _ (po_val W rv)
      · cases e
theorem cut_rep {vs : List V} {ds : List D} {lo hi : Option Int} (r : Reps L H (fx ++ cm) cm vs ds) :
    Reps L H (fx ++ cm) cm (cutV vs lo hi) ((ds.drop (HT.sIx ds.length 0 lo)).take (HT.sIx ds.length ds.length hi - HT.sIx ds.length 0 lo)) := by
  unfold cutV
  rw [r.length]
  exact (r.drop _).take _
theorem sl_sound {lo hi : Option Int} {r : R} (hK : X.K = L.K) (e : slR x lo hi st = some r) (rx : Rep L H (fx ++ cm) cm v1 x) (W : Valid L H (fx ++ cm) cm st) (k : ∀ v H', Po L fx b H cm st v r H' cm st → Q v H') : slW X v1 lo hi H Q := by
  unfold slR at e
  split at e
  · rename_i ds h1
    simp only [Option.some.injEq] at e
    subst e
    obtain ⟨a, us, rfl, r, d1, d2⟩ := seq_rep W rx h1
    exact slW_of sl_list ⟨a, us, rfl, (hK ▸ (d1 rfl).sq), fun p hp => k _ _ (po_lst W (cut_rep r) hp)⟩
  · rename_i ds h1
    obtain ⟨a, us, rfl, r, d1, d2⟩ := seq_rep W rx h1
    refine slW_of sl_tupA ⟨a, us, rfl, hK ▸ d2 rfl, fun z => ?_, fun z p hp => ?_⟩
    · rw [r.length] at z
      split at e
      · rename_i z2
        rcases z2 with z2 | z2
        · obtain ⟨_, z3⟩ := tup_rep rx z2 h1
          simp only [Option.some.injEq] at e
          subst e
          refine k _ _ (po_val W ?_)
          rw [z.1, z.2, List.drop_zero, Nat.sub_zero, List.take_length]
          exact z3 ▸ rx
        · exact absurd z z2
      · simp only [Option.some.injEq] at e
        subst e
        exact k _ _ (po_val W rx)
    · rw [r.length] at z
      rw [if_pos (.inr z)] at e
      simp only [Option.some.injEq] at e
      subst e
      exact k _ _ (po_tup W (cut_rep r) hp)
  · cases e

def bltV : Blt → Value
  | .len => .builtin "len" | .abs => .builtin "abs" | .max2 => .builtin "max" | .min2 => .builtin "min" | .int1 => .type "int" | .sum => .builtin "sum" | .maxL => .builtin "max" | .minL => .builtin "min"
  | .any => .builtin "any" | .all => .builtin "all" | .sorted => .builtin "sorted" | .list => .type "list" | .tuple => .type "tuple" | .str => .type "str" | .range_ => .type "range"
theorem foldl_max_le : ∀ (xs : List Int) (x : Int), x ≤ xs.foldl max x ∧ (∀ y ∈ xs, y ≤ xs.foldl max x) ∧ (xs.foldl max x = x ∨ xs.foldl max x ∈ xs)
  | [], x => ⟨Int.le_refl _, by simp, .inl rfl⟩
  | z :: xs, x => by
    obtain ⟨h1, h2, h3⟩ := foldl_max_le xs (max x z)
    simp only [List.foldl_cons, List.mem_cons, forall_eq_or_imp]
    refine ⟨Int.le_trans (Int.le_max_left _ _) h1, ⟨Int.le_trans (Int.le_max_right _ _) h1, h2⟩, ?_⟩
    rcases h3 with h3 | h3
    · rcases Int.le_total x z with q | q
      · exact .inr (.inl (by rw [h3]; exact Int.max_eq_right q))
      · exact .inl (by rw [h3]; exact Int.max_eq_left q)
    · exact .inr (.inr h3)
theorem foldl_min_le : ∀ (xs : List Int) (x : Int), xs.foldl min x ≤ x ∧ (∀ y ∈ xs, xs.foldl min x ≤ y) ∧ (xs.foldl min x = x ∨ xs.foldl min x ∈ xs)
  | [], x => ⟨Int.le_refl _, by simp, .inl rfl⟩
  | z :: xs, x => by
    obtain ⟨h1, h2, h3⟩ := foldl_min_le xs (min x z)
    simp only [List.foldl_cons, List.mem_cons, forall_eq_or_imp]
    refine ⟨Int.le_trans h1 (Int.min_le_left _ _), ⟨Int.le_trans h1 (Int.min_le_right _ _), h2⟩, ?_⟩
    rcases h3 with h3 | h3
    · rcases Int.le_total x z with q | q
      · exact .inl (by rw [h3]; exact Int.min_eq_left q)
      · exact .inr (.inl (by rw [h3]; exact Int.min_eq_right q))
    · exact .inr (.inr h3)
theorem maxI_is {ns : List Int} {m : Int} (h : maxI ns = some m) : 0 < ns.length ∧ m ∈ ns ∧ ∀ y ∈ ns, y ≤ m := by
  cases ns with
  | nil => cases h
  | cons x xs =>
    simp only [maxI, Option.some.injEq] at h
    subst h
    obtain ⟨h1, h2, h3⟩ := foldl_max_le xs x
    refine ⟨Nat.succ_pos _, ?_, ?_⟩
    · rcases h3 with h3 | h3
      · rw [h3]; exact List.mem_cons_self
      · exact List.mem_cons_of_mem _ h3
    · simp only [List.mem_cons, forall_eq_or_imp]
      exact ⟨h1, h2⟩
theorem minI_is {ns : List Int} {m : Int} (h : minI ns = some m) : 0 < ns.length ∧ m ∈ ns ∧ ∀ y ∈ ns, m ≤ y := by
  cases ns with
  | nil => cases h
  | cons x xs =>
    simp only [minI, Option.some.injEq] at h
    subst h
    obtain ⟨h1, h2, h3⟩ := foldl_min_le xs x
    refine ⟨Nat.succ_pos _, ?_, ?_⟩
    · rcases h3 with h3 | h3
      · rw [h3]; exact List.mem_cons_self
      · exact List.mem_cons_of_mem _ h3
    · simp only [List.mem_cons, forall_eq_or_imp]
      exact ⟨h1, h2⟩
theorem reps1 {vs : List V} (h : Reps L H (fx ++ cm) cm vs [x]) : ∃ v, vs = [v] ∧ Rep L H (fx ++ cm) cm v x := by
  cases h with
  | cons r t => cases t; exact ⟨_, rfl, r⟩
theorem reps2 {vs : List V} (h : Reps L H (fx ++ cm) cm vs [x, y]) : ∃ v w, vs = [v, w] ∧ Rep L H (fx ++ cm) cm v x ∧ Rep L H (fx ++ cm) cm w y := by
  cases h with
  | cons r t => cases t with
    | cons r2 t => cases t; exact ⟨_, _, rfl, r, r2⟩
theorem blt_sound {f : Blt} {xs : List D} {vs : List V} {r : R} (hK : X.K = L.K) (hc : X.calm = true) (e : bltR f xs st = some r) (rs : Reps L H (fx ++ cm) cm vs xs) (W : Valid L H (fx ++ cm) cm st)
    (k : ∀ v H', Po L fx b H cm st v r H' cm st → Q v H') : cW X (bltV f) vs H Q := by
  unfold bltR at e
  split at e
  · obtain ⟨v, rfl, rv⟩ := reps1 rs
    simp only [Option.map_eq_some_iff] at e
    obtain ⟨n, e1, rfl⟩ := e
    exact len_sound hK e1 rv W (k _ _ (po_val W (.int _)))
  · obtain ⟨v, rfl, rv⟩ := reps1 rs
    cases rv
    cases e
    exact cW_of call_abs ⟨_, rfl, k _ _ (po_val W (.int _))⟩
  · obtain ⟨v, w, rfl, rv, rw_⟩ := reps2 rs
    cases rv
    cases rw_
    cases e
    exact cW_of (call_max2 hc) ⟨_, _, rfl, k _ _ (po_val W (.int _))⟩
  · obtain ⟨v, w, rfl, rv, rw_⟩ := reps2 rs
    cases rv
    cases rw_
    cases e
    exact cW_of (call_min2 hc) ⟨_, _, rfl, k _ _ (po_val W (.int _))⟩
  · obtain ⟨v, rfl, rv⟩ := reps1 rs
    cases rv
    cases e
    exact cW_of call_int1 (.inl ⟨_, rfl, k _ _ (po_val W (.int _))⟩)
  · obtain ⟨v, rfl, rv⟩ := reps1 rs
    cases rv
    cases e
    exact cW_of call_int1 (.inr ⟨_, rfl, k _ _ (po_val W (.int _))⟩)
  · obtain ⟨v, rfl, rv⟩ := reps1 rs
    split at e
    · rename_i ds h1
      simp only [Option.map_eq_some_iff] at e
      obtain ⟨ns, e1, rfl⟩ := e
      obtain ⟨a, us, rfl, r, d1, d2⟩ := seq_rep W rv h1
      have z := ints_rep r e1
      subst z
      exact cW_of (cr_sum hc) ⟨a, ns, rfl, (hK ▸ (d1 rfl).sq), k _ _ (po_val W (.int _))⟩
    · cases e
  · obtain ⟨v, rfl, rv⟩ := reps1 rs
    split at e
    · rename_i ds h1
      simp only [Option.bind_eq_some_iff, Option.map_eq_some_iff] at e
      obtain ⟨ns, e1, m, e2, rfl⟩ := e
      obtain ⟨a, us, rfl, r, d1, d2⟩ := seq_rep W rv h1
      have z := ints_rep r e1
      subst z
      obtain ⟨l0, l1, l2⟩ := maxI_is e2
      refine cW_of (cr_max hc) ⟨a, ns, rfl, (hK ▸ (d1 rfl).sq), l0, fun m' m1 m2 => ?_⟩
      have z : m' = m := Int.le_antisymm (l2 m' m1) (m2 m l1)
      subst z
      exact k _ _ (po_val W (.int _))
    · cases e
  · obtain ⟨v, rfl, rv⟩ := reps1 rs
    split at e
    · rename_i ds h1
      simp only [Option.bind_eq_some_iff, Option.map_eq_some_iff] at e
      obtain ⟨ns, e1, m, e2, rfl⟩ := e
      obtain ⟨a, us, rfl, r, d1, d2⟩ := seq_rep W rv h1
      have z := ints_rep r e1
      subst z
      obtain ⟨l0, l1, l2⟩ := minI_is e2
      refine cW_of (cr_min hc) ⟨a, ns, rfl, (hK ▸ (d1 rfl).sq), l0, fun m' m1 m2 => ?_⟩
      have z : m' = m := Int.le_antisymm (m2 m l1) (l2 m' m1)
      subst z
      exact k _ _ (po_val W (.int _))
    · cases e
  · obtain ⟨v, rfl, rv⟩ := reps1 rs
    split at e
    · rename_i ds h1
      simp only [Option.map_eq_some_iff] at e
      obtain ⟨ns, e1, rfl⟩ := e
      obtain ⟨a, us, rfl, r, d1, d2⟩ := seq_rep W rv h1
      have z := bls_rep r e1
      subst z
      exact cW_of (cr_any hc) ⟨a, ns, rfl, (hK ▸ (d1 rfl).sq), k _ _ (po_val W (.bl _))⟩
    · cases e
  · obtain ⟨v, rfl, rv⟩ := reps1 rs
    split at e
    · rename_i ds h1
      simp only [Option.map_eq_some_iff] at e
      obtain ⟨ns, e1, rfl⟩ := e
      obtain ⟨a, us, rfl, r, d1, d2⟩ := seq_rep W rv h1
      have z := bls_rep r e1
      subst z
      exact cW_of (cr_all hc) ⟨a, ns, rfl, (hK ▸ (d1 rfl).sq), k _ _ (po_val W (.bl _))⟩
    · cases e
  · obtain ⟨v, rfl, rv⟩ := reps1 rs
    split at e
    · rename_i k' ds h1
      simp only [Option.some.injEq] at e
      subst e
      obtain ⟨a, us, rfl, r, d1, d2⟩ := seq_rep W rv h1
      exact cW_of call_list_of ⟨a, us, rfl, hK ▸ seq_or d1 d2, fun p hp => k _ _ (po_lst W r hp)⟩
    · obtain ⟨kvs, h2, rfl⟩ := Option.map_eq_some_iff.mp e
      obtain ⟨a, xs, rfl, t, q, r⟩ := dk_rep W rv h2
      refine cW_of (call_listD hc) ⟨a, xs, rfl, t, fun p hp => k _ _ (po_lst W ?_ hp)⟩
      have e1 : (xs.map fun kv => kV kv.1) = (xs.map (·.1)).map kV := by rw [List.map_map]; rfl
      have e2 : (kvs.map fun kv => keyD kv.1) = (kvs.map (·.1)).map keyD := by rw [List.map_map]; rfl
      rw [e1, e2, q]
      exact reps_keys _
  · obtain ⟨v, rfl, rv⟩ := reps1 rs
    split at e
    · rename_i k' ds h1
      obtain ⟨a, us, rfl, r, d1, d2⟩ := seq_rep W rv h1
      cases k' with
      | false =>
        rw [if_pos (.inl rfl)] at e
        simp only [Option.some.injEq] at e
        subst e
        exact cW_of call_tuple_of ⟨a, us, rfl, .inl ⟨hK ▸ (d1 rfl).sq, fun p hp => k _ _ (po_tup W r hp)⟩⟩
      | true =>
        refine cW_of call_tuple_of ⟨a, us, rfl, .inr ⟨hK ▸ d2 rfl, ?_⟩⟩
        split at e
        · rename_i z
          simp only [reduceCtorEq, false_or] at z
          obtain ⟨_, z3⟩ := tup_rep rv z h1
          simp only [Option.some.injEq] at e
          subst e
          exact k _ _ (po_val W (z3 ▸ rv))
        · simp only [Option.some.injEq] at e
          subst e
          exact k _ _ (po_val W rv)
    · cases e
  · obtain ⟨v, rfl, rv⟩ := reps1 rs
    cases rv
    simp only [Option.ite_none_right_eq_some, Option.some.injEq] at e
    obtain ⟨e1, rfl⟩ := e
    exact cW_of call_str_int ⟨_, rfl, e1, k _ _ (po_val W (.str _))⟩
  · cases e

def tyN : Ty → String
  | .non => "NoneType" | .bool => "bool" | .int => "int" | .str => "str" | .tuple => "tuple" | .list => "list" | .dict => "dict" | .own _ => "object"
theorem kit_all (K : PySem.W.Frag) {u t : Ty} (h1 : u.isB = true) (h2 : t.isB = true) : PySem.W.kitOne K (.type (tyN u)) (.type (tyN t)) = some (isTy u t) := by
  cases u <;> simp only [Ty.isB, Bool.false_eq_true, reduceCtorEq] at h1 <;> cases t <;> simp only [Ty.isB, Bool.false_eq_true, reduceCtorEq] at h2 <;> exact kit_ty (by decide +kernel)
theorem ty_rep {u : Ty} (h1 : u.isB = true) (e : tyOf st x = some u) (rx : Rep L H (fx ++ cm) cm v1 x) (W : Valid L H (fx ++ cm) cm st) : TyX L.K H v1 (.type (tyN u)) := by
  have l0 : ∀ {a : Addr} {xs : List V}, Rd H a (.lst xs) → TyX L.K H (.ref a) (.type "list") := fun {a xs} t => by
    rcases t with t | ⟨o, t⟩
    · exact .base (.lst t)
    · exact .base (.frz t)
  have d0 : ∀ {a : Addr} {xs : List (Key × V)}, Rd H a (.dK xs) → TyX L.K H (.ref a) (.type "dict") := fun {a xs} t => by
    rcases t with t | ⟨o, t⟩
    · exact .base (.dK t)
    · exact .fDict t
  cases rx with
  | non => cases e; exact .base .non
  | bl b => cases e; exact .base (.bl b)
  | int b => cases e; exact .base (.int b)
  | str b => cases e; exact .base (.str b)
  | tup n t r => cases e; exact .base (.tup t)
  | lst n t r => cases e; exact l0 t
  | dk n t q r => cases e; exact d0 t
  | dt n t q r => cases e
  | obj n t q r => cases e; cases h1
  | gd j => cases e
  | kl n r =>
    cases e
    obtain ⟨its, m, h1, _⟩ := n
    exact .kList h1 rfl
  | kt n r =>
    cases e
    obtain ⟨o, its, m, h1, h2, _⟩ := n
    exact .kTuple h1 h2
  | cell c =>
    simp only [tyOf] at e
    split at e
    · rename_i ds h2
      cases e
      obtain ⟨xs, h3, _⟩ := W.cell h2 c
      exact l0 (.inl h3)
    · rename_i ds h2
      cases e
      obtain ⟨xs, h3, _⟩ := W.cell h2 c
      exact d0 (.inl h3)
    · rename_i ds h2
      cases e
      obtain ⟨xs, h3, _⟩ := W.cell h2 c
      exact .base (.dT h3)
    · cases e; cases h1
    · cases e
theorem isin_sound {u t : Ty} (hK : X.K = L.K) (h1 : u.isB = true) (h2 : t.isB = true) (e : tyOf st x = some u) (rx : Rep L H (fx ++ cm) cm v1 x) (W : Valid L H (fx ++ cm) cm st) (q : Q (.bl (isTy u t)) H) :
    cW X (.builtin "isinstance") [v1, .ty (tyN t)] H Q := by
  refine cW_of call_isi ⟨v1, _, .type (tyN u), .type (tyN t), isTy u t, rfl, .ty _, ?_, kit_all _ h1 h2, q⟩
  rw [hK]
  exact ty_rep h1 e rx W

theorem onLst_is {d w : D} {f : List D → Option (D × List D)} {r : R} {st' : Store} (e : onLst b st d f w = .ok r st') :
    ∃ n ds q ds', d = .cell n ∧ st[n]? = some (.lst ds) ∧ f ds = some (q, ds') ∧ (b ≤ n ∨ cb 0 w = true) ∧ ds'.length ≤ 100000 ∧ r = .v q ∧ st' = st.set n (.lst ds') := by
  unfold onLst at e
  split at e
  · split at e
    · split at e
      · rename_i h1 _ _ _ h2
        split at e
        · rename_i h3
          simp only [okW, Bool.and_eq_true, Bool.or_eq_true, decide_eq_true_eq] at h3
          cases e
          exact ⟨_, _, _, _, rfl, h1, h2, h3.1, h3.2, rfl, rfl⟩
        · cases e
      · cases e
    · cases e
  · cases e
theorem cell_at {n : Nat} {o : O} (W : Valid L H (fx ++ cm) cm st) (rx : Rep L H (fx ++ cm) cm v1 (.cell n)) (h : st[n]? = some o) : ∃ a, v1 = .ref a ∧ cm[n]? = some a ∧ a ∈ cm ∧ ORep L H (fx ++ cm) cm a o := by
  cases rx with
  | cell c => exact ⟨_, rfl, c, List.mem_of_getElem? c, W.cell h c⟩
/-- a list in a cell is changed -/
theorem wr_lst {n : Nat} {a : Addr} {ds ds' : List D} {xs' : List V} {q : D} {v : V} (W : Valid L H (fx ++ cm) cm st) (hn : st[n]? = some (.lst ds)) (ha : cm[n]? = some a) (r : Reps L H (fx ++ cm) cm xs' ds') (rq : Rep L H (fx ++ cm) cm v q)
    (hw : b ≤ n ∨ ∀ d ∈ ds', d ∈ ds ∨ cb 0 d = true) : Po L fx b H cm st v (.v q) (upd H a (.lst xs')) cm (st.set n (.lst ds')) := by
  have m : a ∈ cm := List.mem_of_getElem? ha
  obtain ⟨s, W'⟩ := wr_ok (b := b) (u := .lst xs') W hn ha (o' := .lst ds') ⟨xs', upd_same, r.ext (ext_cell m)⟩ (hw.imp id fun h b' q => by
    simp only [cbO, cbs_iff] at q ⊢
    exact fun d hd => (h d hd).elim (q d) fun z => cb_mono (Nat.zero_le _) d z)
  exact ⟨s, W', rq.ext (ext_cell m)⟩
def rExtR (K : PySem.W.Frag) : V → List V → Hp → VK → Prop := fun x vs H Q => ∃ l b xs zs, x = .ref l ∧ vs = [.ref b] ∧ H l = some (.lst xs) ∧ Ql K H b zs ∧ xs.length + zs.length ≤ sizeLine ∧ Q .non (upd H l (.lst (xs ++ zs)))
theorem mt_extR {X : Cx} : MtR X "list.extend" (rExtR X.K) := by
  intro pins s σ H x vs v us Q I rx rv h
  obtain ⟨l, b, xs, zs, rfl, rfl, hH, hB, hz, q⟩ := h
  cases rx
  obtain ⟨u, rfl, ru⟩ := rv.one
  cases ru
  obtain ⟨z, its, n, r, hl, e⟩ := lst_rd I (.inl (.inl hH))
  obtain ⟨z2, its2, n2, r2, hl2, e2⟩ := lst_rd I hB
  have sz : its.toArray.size + its2.toArray.size ≤ sizeLine := by
    rw [List.size_toArray, List.size_toArray]
    omega
  have ln : ¬ (!its.toArray.isEmpty && Builtin.List.listTooLong (its.toArray.size + its2.toArray.size)) = true := by
    rw [notLongL sz, Bool.and_false]
    exact Bool.false_ne_true
  refine call_meets F.slot_list_extend ⟨_, e, rfl⟩ F.entry_list_extend (F.args_list_extend_2 _ _)
    (AutoSeq1.list_extend_list_list_0 l its.toArray n b its2.toArray n2 ln (by rw [List.size_toArray]; omega) (by omega)) ⟨e, e2, ?_⟩
  refine ⟨.non, _, I.lset (its' := its ++ its2) hH e (by simp) (r.append r2) ?_, rfl, q⟩
  rw [List.length_append]
  omega
theorem firstEq_is {v : V} : ∀ {vs : List V} {j : Nat}, firstEq v vs = some j → ∃ z, vs[j]? = some z ∧ eqV z v = true ∧ ∀ m z', m < j → vs[m]? = some z' → eqV z' v = false
  | [], j, e => by cases e
  | x :: xs, j, e => by
    simp only [firstEq] at e
    split at e
    · rename_i h
      cases e
      exact ⟨x, rfl, h, fun m z' hm => absurd hm (Nat.not_lt_zero _)⟩
    · rename_i h
      simp only [Option.map_eq_some_iff] at e
      obtain ⟨j', e1, rfl⟩ := e
      obtain ⟨z, h1, h2, h3⟩ := firstEq_is e1
      refine ⟨z, by simpa using h1, h2, fun m z' hm hz => ?_⟩
      cases m with
      | zero =>
        simp only [List.getElem?_cons_zero, Option.some.injEq] at hz
        subst hz
        simpa using h
      | succ m => exact h3 m z' (by omega) (by simpa using hz)
def mtI : Mt → String
  | .append => "list.append" | .pop0 => "list.pop" | .popAt => "list.pop" | .extend => "list.extend" | .reverse => "list.reverse" | .clear => "list.clear" | .index => "list.index" | .get1 => "dict.get" | .get2 => "dict.get" | .insert => "list.insert"
def Mt.isL : Mt → Bool
  | .get1 => false | .get2 => false | .insert => false | _ => true
theorem mem_drop {d : D} {ds : List D} (h : d ∈ ds.dropLast) : d ∈ ds := (List.dropLast_sublist ds).subset h
theorem mt_sound {m : Mt} {gd : Nat → List (Str × D)} {xs : List D} {vs : List V} {r : R} {st' : Store} (hK : X.K = L.K) (hm : m.isL = true) (e : mtR gd b m x xs st = .ok r st') (rx : Rep L H (fx ++ cm) cm v1 x) (rs : Reps L H (fx ++ cm) cm vs xs) (W : Valid L H (fx ++ cm) cm st)
    (k : ∀ v H', Po L fx b H cm st v r H' cm st' → Q v H') : mW X (mtI m) v1 vs H Q := by
  unfold mtR at e
  split at e
  · obtain ⟨v, rfl, rv⟩ := reps1 rs
    obtain ⟨n, ds, q, ds', rfl, hn, hf, hw, hl, rfl, rfl⟩ := onLst_is e
    obtain ⟨a, rfl, ha, m, us, h1, ru⟩ := cell_at W rx hn
    simp only [Option.some.injEq, Prod.mk.injEq] at hf
    obtain ⟨rfl, rfl⟩ := hf
    refine mW_of mt_append ⟨a, us, v, rfl, rfl, h1, ?_, k _ _ (wr_lst W hn ha (ru.append (.one rv)) .non (hw.imp id fun z d hd => ?_))⟩
    · rw [List.length_append, List.length_singleton] at hl
      rw [ru.length]
      exact lt_line (by omega)
    · rcases List.mem_append.mp hd with z2 | z2
      · exact .inl z2
      · rw [List.mem_singleton.mp z2]
        exact .inr z
  · cases rs
    obtain ⟨n, ds, q, ds', rfl, hn, hf, hw, hl, rfl, rfl⟩ := onLst_is e
    obtain ⟨a, rfl, ha, m, us, h1, ru⟩ := cell_at W rx hn
    simp only [Option.map_eq_some_iff, Prod.mk.injEq] at hf
    obtain ⟨d, h2, rfl, rfl⟩ := hf
    obtain ⟨v, h3, h4⟩ := ru.get h2
    refine mW_of mt_pop ⟨a, us, v, rfl, rfl, h1, by rw [ru.length]; exact h3, k _ _ (wr_lst W hn ha ru.dropLast h4 (hw.imp id fun z d hd => .inl (mem_drop hd)))⟩
  · obtain ⟨v, rfl, rv⟩ := reps1 rs
    cases rv
    obtain ⟨n, ds, q, ds', rfl, hn, hf, hw, hl, rfl, rfl⟩ := onLst_is e
    obtain ⟨a, rfl, ha, m, us, h1, ru⟩ := cell_at W rx hn
    simp only [Option.ite_none_right_eq_some, decide_eq_true_eq, Option.bind_eq_some_iff, Option.map_eq_some_iff, Prod.mk.injEq] at hf
    obtain ⟨hi, j, hj, d, h2, rfl, rfl⟩ := hf
    obtain ⟨v, h3, h4⟩ := ru.get h2
    rw [← ru.length] at hj
    refine mW_of mt_popAt ⟨a, us, _, j, v, rfl, rfl, h1, hi.1, hi.2, (ixN_seq hj).1, h3, k _ _ (wr_lst W hn ha (ru.eraseIdx j) h4 (hw.imp id fun z d hd => .inl (List.mem_of_mem_eraseIdx hd)))⟩
  · cases rs
    obtain ⟨n, ds, q, ds', rfl, hn, hf, hw, hl, rfl, rfl⟩ := onLst_is e
    obtain ⟨a, rfl, ha, m, us, h1, ru⟩ := cell_at W rx hn
    simp only [Option.some.injEq, Prod.mk.injEq] at hf
    obtain ⟨rfl, rfl⟩ := hf
    exact mW_of mt_reverse ⟨a, us, rfl, rfl, h1, k _ _ (wr_lst W hn ha ru.reverse .non (hw.imp id fun z d hd => .inl (List.mem_reverse.mp hd)))⟩
  · cases rs
    obtain ⟨n, ds, q, ds', rfl, hn, hf, hw, hl, rfl, rfl⟩ := onLst_is e
    obtain ⟨a, rfl, ha, m, us, h1, ru⟩ := cell_at W rx hn
    simp only [Option.some.injEq, Prod.mk.injEq] at hf
    obtain ⟨rfl, rfl⟩ := hf
    exact mW_of mt_clear ⟨a, us, rfl, rfl, h1, k _ _ (wr_lst W hn ha .nil .non (hw.imp id fun z d hd => by cases hd))⟩
  · obtain ⟨v, rfl, rv⟩ := reps1 rs
    split at e
    · rename_i es h0
      obtain ⟨c, ws, rfl, rw_, e1, _⟩ := seq_rep W rv h0
      obtain ⟨n, ds, q, ds', rfl, hn, hf, hw, hl, rfl, rfl⟩ := onLst_is e
      obtain ⟨a, rfl, ha, m, us, h1, ru⟩ := cell_at W rx hn
      simp only [Option.some.injEq, Prod.mk.injEq] at hf
      obtain ⟨rfl, rfl⟩ := hf
      refine mW_of mt_extR ⟨a, c, us, ws, rfl, rfl, h1, hK ▸ e1 rfl, ?_, k _ _ (wr_lst W hn ha (ru.append rw_) .non (hw.imp id fun z d hd => ?_))⟩
      · rw [List.length_append] at hl
        rw [ru.length, rw_.length]
        exact le_line hl
      · rcases List.mem_append.mp hd with z2 | z2
        · exact .inl z2
        · simp only [cb, cbs_iff] at z
          exact .inr (z d z2)
    · cases e
  · obtain ⟨v, rfl, rv⟩ := reps1 rs
    split at e
    · rename_i ds h0
      obtain ⟨e0, rfl⟩ := Out.of_is e
      simp only [Option.bind_eq_some_iff, Option.map_eq_some_iff] at e0
      obtain ⟨z, h2, zs, h3, j, h4, rfl⟩ := e0
      obtain ⟨a, us, rfl, ru, e1, _⟩ := seq_rep W rx h0
      have q := flat_rep rv h2
      subst q
      obtain ⟨rfl, h5⟩ := flats_rep ru h3
      obtain ⟨y, h6, h7, h8⟩ := firstEq_is h4
      exact mW_of mt_index ⟨a, us, _, j, y, rfl, rfl, hK ▸ (e1 rfl).sq, flat_isV h2, h5, h6, h7, h8, k _ _ (po_val W (.int _))⟩
    · cases e
  · cases hm
  · cases hm
  · cases e
/-- the receiver is a list -/
theorem mt_ty {m : Mt} {gd : Nat → List (Str × D)} {xs : List D} {r : R} {st' : Store} (hK : X.K = L.K) (hm : m.isL = true) (e : mtR gd b m x xs st = .ok r st') : (∃ n ds, x = .cell n ∧ st[n]? = some (.lst ds)) ∨ ∃ ds, seqOf st x = some (false, ds) := by
  have c : ∀ {f : List D → Option (D × List D)} {w : D}, onLst b st x f w = .ok r st' → ∃ n ds, x = .cell n ∧ st[n]? = some (.lst ds) := fun {f w} e => by
    obtain ⟨n, ds, q, ds', h1, h2, _⟩ := onLst_is e
    exact ⟨n, ds, h1, h2⟩
  unfold mtR at e
  split at e
  · exact .inl (c e)
  · exact .inl (c e)
  · exact .inl (c e)
  · exact .inl (c e)
  · exact .inl (c e)
  · split at e
    · exact .inl (c e)
    · cases e
  · split at e
    · rename_i h
      exact .inr ⟨_, h⟩
    · cases e
  · cases hm
  · cases hm
  · cases e

theorem put_rep {κ : Type} [DecidableEq κ] {k : κ} {v : V} {d : D} (r : Rep L H (fx ++ cm) cm v d) {xs : List (κ × V)} {ds : List (κ × D)} (e : xs.map (·.1) = ds.map (·.1)) (rs : Reps L H (fx ++ cm) cm (xs.map (·.2)) (ds.map (·.2))) :
    (L2.putK xs k v).map (·.1) = (En.putK ds k d).map (·.1) ∧ Reps L H (fx ++ cm) cm ((L2.putK xs k v).map (·.2)) ((En.putK ds k d).map (·.2)) := by
  have any : (xs.any fun kv => decide (kv.1 = k)) = ds.any fun kv => decide (kv.1 = k) := by
    have a1 : (xs.any fun kv => decide (kv.1 = k)) = (xs.map (·.1)).any fun q => decide (q = k) := by rw [List.any_map]; rfl
    have a2 : (ds.any fun kv => decide (kv.1 = k)) = (ds.map (·.1)).any fun q => decide (q = k) := by rw [List.any_map]; rfl
    rw [a1, a2, e]
  unfold L2.putK En.putK
  rw [any]
  split
  · rename_i hyp
    clear any hyp
    induction xs generalizing ds with
    | nil =>
      cases ds with
      | nil => exact ⟨rfl, .nil⟩
      | cons _ _ => simp at e
    | cons p xs ih =>
      cases ds with
      | nil => simp at e
      | cons p2 ds =>
        simp only [List.map_cons, List.cons.injEq] at e rs
        cases rs with
        | cons r1 r2 =>
          obtain ⟨i1, i2⟩ := ih e.2 r2
          simp only [List.map_cons]
          rw [e.1]
          by_cases z : p2.1 = k
          · rw [if_pos z, if_pos z]
            exact ⟨by rw [i1], .cons r i2⟩
          · rw [if_neg z, if_neg z]
            exact ⟨by rw [i1, e.1], .cons r1 i2⟩
  · simp only [List.map_append, List.map_cons, List.map_nil]
    exact ⟨by rw [e], rs.append (.one r)⟩
theorem putK_mem {κ : Type} [DecidableEq κ] {k : κ} {d : D} {ds : List (κ × D)} {p : κ × D} (h : p ∈ En.putK ds k d) : p.2 = d ∨ p ∈ ds := by
  unfold En.putK at h
  split at h
  · obtain ⟨q, hq, e⟩ := List.mem_map.mp h
    split at e
    · exact .inl (by rw [← e])
    · exact .inr (by rw [← e]; exact hq)
  · rcases List.mem_append.mp h with z | z
    · exact .inr z
    · exact .inl (by rw [List.mem_singleton.mp z])
theorem ok_of {n : Nat} {d : D} (h : okW b n d = true) : b ≤ n ∨ cb 0 d = true := by
  simpa [okW] using h
theorem set_sound {d : D} {v : V} {st' : Store} {Qs : Hp → Prop} (hu : X.A.units + 1 < cLine) (e : setR b x y d st = .ok () st') (rx : Rep L H (fx ++ cm) cm v1 x) (ry : Rep L H (fx ++ cm) cm v2 y) (rv : Rep L H (fx ++ cm) cm v d) (W : Valid L H (fx ++ cm) cm st)
    (k : ∀ H', Stp b H cm st H' cm st' → Valid L H' (fx ++ cm) cm st' → Qs H') : sW X v1 v2 v H Qs := by
  unfold setR at e
  split at e
  · rename_i n
    split at e
    · rename_i ds hn
      obtain ⟨a, rfl, ha, m, us, h1, ru⟩ := cell_at W rx hn
      split at e
      · rename_i i
        split at e
        · rename_i j hj
          split at e
          · rename_i hw
            cases e
            cases ry
            rw [← ru.length] at hj
            obtain ⟨s, W', _⟩ := wr_lst (b := b) W hn ha (Reps.set rv j ru) .non ((ok_of hw).imp id fun z q hq => by
              rcases List.mem_or_eq_of_mem_set hq with z2 | z2
              · exact .inl z2
              · rw [z2]; exact .inr z)
            exact sW_of set_list ⟨a, us, i, j, rfl, rfl, h1, hj, k _ s W'⟩
          · cases e
        · cases e
      · cases e
    · rename_i ds hn
      obtain ⟨a, rfl, ha, m, us, h1, h2, ru⟩ := cell_at W rx hn
      split at e
      · rename_i q hq
        split at e
        · rename_i hw
          simp only [Bool.and_eq_true, decide_eq_true_eq] at hw
          cases e
          have z := key_rep ry hq
          subst z
          obtain ⟨p1, p2⟩ := put_rep (k := q) rv h2 ru
          have hl : us.length = ds.length := by simpa using congrArg List.length h2
          obtain ⟨s, W'⟩ := wr_ok (b := b) (u := .dK (L2.putK us q v)) W hn ha (o' := .dk (En.putK ds q d)) ⟨_, upd_same, p1, p2.ext (ext_cell m)⟩ ((ok_of hw.1).imp id fun z b' o => by
            simp only [cbO, cbk_iff] at o ⊢
            intro p hp
            rcases putK_mem hp with z2 | z2
            · rw [z2]; exact cb_mono (Nat.zero_le _) d z
            · exact o p z2)
          intro pins s' σ ov iv u I r1 r2 r3
          cases r1
          exact d_setItem hu I (DPut.k h1 (by rw [hl]; exact lt_line hw.2)) r2 r3 fun s2 I2 => ⟨_, I2, k _ s W'⟩
        · cases e
      · cases e
    · rename_i ds hn
      obtain ⟨a, rfl, ha, m, us, h1, h2, ru⟩ := cell_at W rx hn
      split at e
      · split at e
        · rename_i q hq
          split at e
          · rename_i hw
            simp only [Bool.and_eq_true, decide_eq_true_eq] at hw
            cases e
            cases ry with
            | @tup ka kxs kds kn kt kr =>
              have z := keys_rep kr hq
              subst z
              obtain ⟨p1, p2⟩ := put_rep (k := q) rv h2 ru
              have hl : us.length = ds.length := by simpa using congrArg List.length h2
              obtain ⟨s, W'⟩ := wr_ok (b := b) (u := .dT (L2.putK us q v)) W hn ha (o' := .dt (En.putK ds q d)) ⟨_, upd_same, p1, p2.ext (ext_cell m)⟩ ((ok_of hw.1).imp id fun z b' o => by
                simp only [cbO, cbt_iff] at o ⊢
                intro p hp
                rcases putK_mem hp with z2 | z2
                · rw [z2]; exact cb_mono (Nat.zero_le _) d z
                · exact o p z2)
              intro pins s' σ ov iv u I r1 r2 r3
              cases r1
              exact d_setItem hu I (DPut.t h1 kt (by rw [hl]; exact lt_line hw.2)) r2 r3 fun s2 I2 => ⟨_, I2, k _ s W'⟩
          · cases e
        · cases e
      · cases e
    · cases e
  · cases e
theorem putA_rep {f : Str} {v : V} {d : D} (r : Rep L H (fx ++ cm) cm v d) : ∀ {xs : List (Str × V)} {ds : List (Str × D)}, xs.map (·.1) = ds.map (·.1) → Reps L H (fx ++ cm) cm (xs.map (·.2)) (ds.map (·.2)) →
    (putF f v xs).map (·.1) = (putA f d ds).map (·.1) ∧ Reps L H (fx ++ cm) cm ((putF f v xs).map (·.2)) ((putA f d ds).map (·.2))
  | [], [], _, _ => ⟨rfl, .one r⟩
  | [], _ :: _, e, _ => by simp at e
  | _ :: _, [], e, _ => by simp at e
  | (k1, v1) :: xs, (k2, d2) :: ds, e, rs => by
    simp only [List.map_cons, List.cons.injEq] at e rs
    obtain ⟨rfl, e⟩ := e
    cases rs with
    | cons r1 r2 =>
      obtain ⟨i1, i2⟩ := putA_rep r e r2
      unfold putF putA
      by_cases z : k1 = f
      · rw [if_pos z, if_pos z]
        exact ⟨by simp [e], .cons r r2⟩
      · rw [if_neg z, if_neg z]
        exact ⟨by simp [i1], .cons r1 i2⟩
theorem putA_mem {f : Str} {d : D} : ∀ {ds : List (Str × D)} {p : Str × D}, p ∈ putA f d ds → p.2 = d ∨ p ∈ ds
  | [], p, h => by
    simp only [putA, List.mem_singleton] at h
    exact .inl (by rw [h])
  | (g, w) :: r, p, h => by
    unfold putA at h
    split at h
    · rcases List.mem_cons.mp h with z | z
      · exact .inl (by rw [z])
      · exact .inr (List.mem_cons_of_mem _ z)
    · rcases List.mem_cons.mp h with z | z
      · exact .inr (by rw [z]; exact List.mem_cons_self)
      · exact (putA_mem z).imp id (List.mem_cons_of_mem _)
/-- what a field's store asks, and gives -/
theorem setF_sound {na : Nat → Str → Bool} {d : D} {v : V} {f : Str} {st' : Store} (e : setF na b x f d st = .ok () st') (rx : Rep L H (fx ++ cm) cm v1 x) (rv : Rep L H (fx ++ cm) cm v d) (W : Valid L H (fx ++ cm) cm st) :
    ∃ a c dx fs, v1 = .ref a ∧ na c f = true ∧ H a = some (.ins (L.ca c) dx fs) ∧ fs.length < 1000 ∧ Stp b H cm st (upd H a (.ins (L.ca c) dx (putF f v fs))) cm st' ∧ Valid L (upd H a (.ins (L.ca c) dx (putF f v fs))) (fx ++ cm) cm st' := by
  unfold setF at e
  split at e
  · split at e
    · rename_i c ds hn
      split at e
      · rename_i hw
        simp only [Bool.and_eq_true, decide_eq_true_eq] at hw
        cases e
        obtain ⟨a, rfl, ha, m, dx, us, h1, h2, ru⟩ := cell_at W rx hn
        obtain ⟨p1, p2⟩ := putA_rep (f := f) rv h2 ru
        have hl : us.length = ds.length := by simpa using congrArg List.length h2
        obtain ⟨s, W'⟩ := wr_ok (b := b) (u := .ins (L.ca c) dx (putF f v us)) W hn ha (o' := .ins c (putA f d ds)) ⟨dx, _, upd_same, p1, p2.ext (ext_cell m)⟩ ((ok_of hw.1.2).imp id fun z b' o => by
          simp only [cbO, cbf_iff] at o ⊢
          intro p hp
          rcases putA_mem hp with z2 | z2
          · rw [z2]; exact cb_mono (Nat.zero_le _) d z
          · exact o p z2)
        exact ⟨a, c, dx, us, rfl, hw.1.1, h1, by omega, s, W'⟩
      · cases e
    · cases e
  · cases e
theorem fld_sound {na : Nat → Str → Bool} {f : Str} {r : R} (e : fldR na x f st = some r) (rx : Rep L H (fx ++ cm) cm v1 x) (W : Valid L H (fx ++ cm) cm st) :
    ∃ a c dx fs v d, na c f = true ∧ v1 = .ref a ∧ H a = some (.ins (L.ca c) dx fs) ∧ fs.lookup f = some v ∧ r = .v d ∧ Rep L H (fx ++ cm) cm v d ∧ ∃ ds, objOf st x = some (c, ds) := by
  unfold fldR at e
  simp only [Option.bind_eq_some_iff, Option.ite_none_right_eq_some, Option.map_eq_some_iff] at e
  obtain ⟨⟨c, ds⟩, h1, hna, d, h2, rfl⟩ := e
  obtain ⟨a, dx, fs, rfl, h3, h4, h5⟩ := obj_rep W rx h1
  obtain ⟨v, h6, h7⟩ := (lookup_rep f h4 h5).2 d h2
  exact ⟨a, c, dx, fs, v, d, hna, rfl, h3, h6, rfl, h7, ds, h1⟩
end
end En

set_option Elab.async false
set_option linter.all false
set_option maxRecDepth 100000
set_option maxHeartbeats 1000000
namespace En
open PySem PySem.Spec PyProof.Rows L2

/-- what is known of the place where a text stands -/
structure SC where
  N : List Str
  sc : Scope
  fnc : Str → Bool
  fns : List (Str × Nat)
  gls : List (Str × Nat)
  cls : List (Str × Nat)
  blt : List Str
def SC.blk (c : SC) (scope : Scope) : SC := { c with sc := relS scope c.sc, fnc := fun x => scope.names.lookup x == some .cell }

def visB (sc : Scope) (x : Str) : Bool := match sc.names.lookup x with
  | some .local => true | some .cell => true | some .free => true | _ => false
def locB (c : SC) (x : Str) : Bool := match c.sc.names.lookup x with
  | some .local => true | some .cell => c.fnc x | _ => false
def glB (sc : Scope) (x : Str) : Bool := match sc.names.lookup x with
  | some .globalImplicit => true | _ => false
def okName (x : Str) : Bool := !(x == ("__debug__" : Str)) && !(x == ("__classdict__" : Str)) && !(x == ("__name__" : Str))
def noStar : Expr → Bool
  | .Starred .. => false | _ => true
def noSet : Expr → Bool
  | .Set .. => false | _ => true
def noSlice : Expr → Bool
  | .Slice .. => false | _ => true
def noComp : Expr → Bool
  | .ListComp .. => false | .SetComp .. => false | .DictComp .. => false | _ => true
/-- its test is its value's truth -/
def plainT : Expr → Bool
  | .UnaryOp .Not _ _ => false | .BoolOp .. => false | .IfExp .. => false | .Compare .. => false | _ => true
/-- no super() -/
def noSup : Expr → Bool
  | .Call (.Name id _) [] [] _ => !(id == ("super" : Str)) | _ => true
def bltName : Blt → Str
  | .len => "len" | .abs => "abs" | .max2 => "max" | .min2 => "min" | .int1 => "int" | .sum => "sum" | .maxL => "max" | .minL => "min" | .any => "any" | .all => "all"
  | .sorted => "sorted" | .list => "list" | .tuple => "tuple" | .str => "str" | .range_ => "range"
def tyNm (t : Ty) : Str := Str.ofString (tyN t)
def Ty.named : Ty → Bool
  | .non => false | .own _ => false | _ => true
def mtName : Mt → Str
  | .append => "append" | .pop0 => "pop" | .popAt => "pop" | .extend => "extend" | .reverse => "reverse" | .clear => "clear" | .index => "index" | .get1 => "get" | .get2 => "get" | .insert => "insert"
mutual
/-- all names of a target are among vs -/
def gIn (vs : List Nat) : IG → Bool
  | .name i => decide (i ∈ vs)
  | .tup gs => gsIn vs gs
  | _ => true
def gsIn (vs : List Nat) : IGs → Bool
  | .nil => true
  | .cons g gs => gIn vs g && gsIn vs gs
end
def gLen : IGs → Nat
  | .nil => 0
  | .cons _ gs => gLen gs + 1
def ieLen : IEs → Nat
  | .nil => 0
  | .cons _ es => ieLen es + 1

mutual
def chkE : Nat → SC → Expr → IE → Bool
  | 0, _, _, _ => false
  | n + 1, c, e, .var i => (match e with
    | .Name x _ => decide (c.N[i]? = some x) && visB c.sc x && okName x
    | _ => false)
  | n + 1, c, e, .int i => (match e with
    | .Constant (.int j) _ _ => decide (j = i)
    | _ => false)
  | n + 1, c, e, .str i => (match e with
    | .Constant (.str j) _ _ => decide (j = i)
    | _ => false)
  | n + 1, c, e, .bl i => (match e with
    | .Constant (.bool j) _ _ => decide (j = i)
    | _ => false)
  | n + 1, c, e, .non => (match e with
    | .Constant .none _ _ => true
    | _ => false)
  | n + 1, c, e, .gl j => (match e with
    | .Name x _ => glB c.sc x && okName x && decide ((x, j) ∈ c.gls)
    | _ => false)
  | n + 1, c, e, .op o a d => (match e with
    | .BinOp l p r _ => decide (opOf o = p) && chkE n c l a && chkE n c r d
    | _ => false)
  | n + 1, c, e, .neg a => (match e with
    | .UnaryOp .USub l _ => chkE n c l a
    | _ => false)
  | n + 1, c, e, .cmp o a d => (match e with
    | .Compare l [p] [r] _ => decide (cmpOf o = p) && noSet r && chkE n c l a && chkE n c r d
    | _ => false)
  | n + 1, c, e, .chain o o' a d f => (match e with
    | .Compare l [p, q] [r, t] _ => decide (cmpOf o = p) && decide (cmpOf o' = q) && noSet t && chkE n c l a && chkE n c r d && chkE n c t f
    | _ => false)
  | n + 1, c, e, .and a d => (match e with
    | .BoolOp .And (l :: r :: rest) p => chkE n c l a && (match rest with
      | [] => chkE n c r d
      | _ => chkE n c (.BoolOp .And (r :: rest) p) d)
    | _ => false)
  | n + 1, c, e, .or a d => (match e with
    | .BoolOp .Or (l :: r :: rest) p => chkE n c l a && (match rest with
      | [] => chkE n c r d
      | _ => chkE n c (.BoolOp .Or (r :: rest) p) d)
    | _ => false)
  | n + 1, c, e, .not a => (match e with
    | .UnaryOp .Not l _ => chkE n c l a
    | _ => false)
  | n + 1, c, e, .ite t a d => (match e with
    | .IfExp p l r _ => chkT n c p t && chkE n c l a && chkE n c r d
    | _ => false)
  | n + 1, c, e, .tup es => (match e with
    | .Tuple xs _ _ => chkEs n c xs es
    | _ => false)
  | n + 1, c, e, .lst es => (match e with
    | .List xs _ => chkEs n c xs es
    | _ => false)
  | n + 1, c, e, .dnewK => (match e with
    | .Dict [] [] _ => true
    | _ => false)
  | n + 1, c, e, .dnewT => (match e with
    | .Dict [] [] _ => true
    | _ => false)
  | n + 1, c, e, .disp k v => (match e with
    | .Dict [some l] [r] _ => chkE n c l k && chkE n c r v
    | _ => false)
  | n + 1, c, e, .ix a i => (match e with
    | .Subscript l r _ => noSlice r && chkE n c l a && chkE n c r i
    | _ => false)
  | n + 1, c, e, .sl a lo hi => (match e with
    | .Subscript l (.Slice x y none _) _ => chkE n c l a && chkO n c x lo && chkO n c y hi
    | _ => false)
  | n + 1, c, e, .call j es => (match e with
    | .Call (.Name x _) xs [] _ => glB c.sc x && okName x && decide ((x, j) ∈ c.fns) && chkEs n c xs es
    | _ => false)
  | n + 1, c, e, .callS j es => (match e with
    | .Call (.Name x _) xs [] _ => glB c.sc x && okName x && decide ((x, j) ∈ c.fns) && chkEs n c xs es
    | _ => false)
  | n + 1, c, e, .blt f es => (match e with
    | .Call (.Name x _) xs [] _ => glB c.sc x && decide (x = bltName f) && decide (x ∈ c.blt) && decide (0 < xs.length) && chkEs n c xs es
    | _ => false)
  | n + 1, c, e, .isin a t => (match e with
    | .Call (.Name x _) [l, .Name y _] [] _ => glB c.sc x && decide (x = ("isinstance" : Str)) && decide (x ∈ c.blt) && noStar l && glB c.sc y && decide (y = tyNm t) && decide (y ∈ c.blt) && t.named && chkE n c l a
    | _ => false)
  | n + 1, c, e, .mt m a es => (match e with
    | .Call (.Attribute l x ap) xs [] cp => m.isL && decide (x = mtName m) && noSup l && decide (ap.endLine = cp.line) && decide (xs.length < 20) && chkE n c l a && chkEs n c xs es
    | _ => false)
  | n + 1, c, e, .fld a f => (match e with
    | .Attribute l x _ => decide (x = f) && noSup l && chkE n c l a
    | _ => false)
  | n + 1, c, e, .mcall m a es => (match e with
    | .Call (.Attribute l x ap) xs [] cp => decide (x = m) && noSup l && decide (ap.endLine = cp.line) && decide (xs.length < 20) && chkE n c l a && chkEs n c xs es
    | _ => false)
  | n + 1, c, e, .make k es => (match e with
    | .Call (.Name x _) xs [] _ => glB c.sc x && okName x && decide ((x, k) ∈ c.cls) && chkEs n c xs es
    | _ => false)
  | n + 1, c, e, .makeM k es => (match e with
    | .Call (.Name x _) xs [] _ => glB c.sc x && okName x && decide ((x, k) ∈ c.cls) && chkEs n c xs es
    | _ => false)
  | n + 1, c, e, .mu a => chkE n c e a
  | n + 1, c, e, .lc own g it t x => (match e with
    | .ListComp el [⟨tg, iter, ifs, 0⟩] scope _ => blkC c.N c.sc scope own && gIn (own.map (·.2)) g && noSet iter && chkI n c tg iter it && chkG n (c.blk scope) tg g && chkC n (c.blk scope) ifs t && chkE n (c.blk scope) el x
    | _ => false)
  | n + 1, c, e, .lc2 own vs g it t g' it' t' x => false
def chkEs : Nat → SC → List Expr → IEs → Bool
  | 0, _, _, _ => false
  | n + 1, c, xs, .nil => (match xs with
    | [] => true
    | _ => false)
  | n + 1, c, xs, .cons a es => (match xs with
    | x :: xs => noStar x && chkE n c x a && chkEs n c xs es
    | _ => false)
/-- as a test -/
def chkT : Nat → SC → Expr → IT → Bool
  | 0, _, _, _ => false
  | n + 1, c, e, .and t u => (match e with
    | .BoolOp .And (l :: r :: rest) p => chkT n c l t && chkW n c (.BoolOp .And (r :: rest) p) u
    | _ => false)
  | n + 1, c, e, .or t u => (match e with
    | .BoolOp .Or (l :: r :: rest) p => chkT n c l t && chkW n c (.BoolOp .Or (r :: rest) p) u
    | _ => false)
  | n + 1, c, e, .not t => (match e with
    | .UnaryOp .Not l _ => chkT n c l t
    | _ => false)
  | n + 1, c, e, .e a => (match a with
    | .cmp o a d => (match e with
      | .Compare l [p] [r] _ => decide (cmpOf o = p) && noSet r && chkE n c l a && chkE n c r d
      | _ => false)
    | .chain o o' a d f => (match e with
      | .Compare l [p, q] [r, t] _ => decide (cmpOf o = p) && decide (cmpOf o' = q) && noSet t && chkE n c l a && chkE n c r d && chkE n c t f
      | _ => false)
    | a => plainT e && chkE n c e a)
/-- the rest of an and, of an or -/
def chkW : Nat → SC → Expr → IT → Bool
  | 0, _, _, _ => false
  | n + 1, c, e, t => (match e with
    | .BoolOp op [l] p => chkT n c l t
    | .BoolOp .And (l :: r :: rest) p => (match t with
      | .and t u => chkT n c l t && chkW n c (.BoolOp .And (r :: rest) p) u
      | _ => false)
    | .BoolOp .Or (l :: r :: rest) p => (match t with
      | .or t u => chkT n c l t && chkW n c (.BoolOp .Or (r :: rest) p) u
      | _ => false)
    | _ => false)
def chkO : Nat → SC → Option Expr → IO → Bool
  | 0, _, _, _ => false
  | n + 1, c, e, .none => (match e with
    | none => true
    | _ => false)
  | n + 1, c, e, .some a => (match e with
    | some e => chkE n c e a
    | _ => false)
def chkC : Nat → SC → List Expr → IC → Bool
  | 0, _, _, _ => false
  | n + 1, c, ifs, .yes => (match ifs with
    | [] => true
    | _ => false)
  | n + 1, c, ifs, .t t => (match ifs with
    | [e] => chkT n c e t
    | _ => false)
def chkI : Nat → SC → Expr → Expr → II → Bool
  | 0, _, _, _, _ => false
  | n + 1, c, tg, e, .seq a => chkE n c e a
  | n + 1, c, tg, e, .rng1 a => (match e with
    | .Call (.Name x _) [l] [] _ => glB c.sc x && decide (x = ("range" : Str)) && decide (x ∈ c.blt) && noStar l && chkE n c l a
    | _ => false)
  | n + 1, c, tg, e, .rng2 a d => (match e with
    | .Call (.Name x _) [l, r] [] _ => glB c.sc x && decide (x = ("range" : Str)) && decide (x ∈ c.blt) && noStar l && noStar r && chkE n c l a && chkE n c r d
    | _ => false)
  | n + 1, c, tg, e, .rng3 a d f => false
  | n + 1, c, tg, e, .enum a => (match e with
    | .Call (.Name x _) [l] [] _ => (match tg with
      | .Tuple _ _ _ => glB c.sc x && decide (x = ("enumerate" : Str)) && decide (x ∈ c.blt) && noStar l && chkE n c l a
      | _ => false)
    | _ => false)
  | n + 1, c, tg, e, .zip a d => (match e with
    | .Call (.Name x _) [l, r] [] _ => (match tg with
      | .Tuple _ _ _ => glB c.sc x && decide (x = ("zip" : Str)) && decide (x ∈ c.blt) && noStar l && noStar r && chkE n c l a && chkE n c r d
      | _ => false)
    | _ => false)
def chkG : Nat → SC → Expr → IG → Bool
  | 0, _, _, _ => false
  | n + 1, c, e, .name i => (match e with
    | .Name x _ => decide (c.N[i]? = some x) && locB c x
    | _ => false)
  | n + 1, c, e, .tup gs => (match e with
    | .Tuple xs _ _ => chkGs n c xs gs
    | _ => false)
  | n + 1, c, e, .sub a i => (match e with
    | .Subscript l r _ => noSlice r && chkE n c l a && chkE n c r i
    | _ => false)
  | n + 1, c, e, .fld a f => false
def chkGs : Nat → SC → List Expr → IGs → Bool
  | 0, _, _, _ => false
  | n + 1, c, xs, .nil => (match xs with
    | [] => true
    | _ => false)
  | n + 1, c, xs, .cons a es => (match xs with
    | x :: xs => noStar x && chkG n c x a && chkGs n c xs es
    | _ => false)
end

def spF (L : Lk) (F : Nat → List D → Store → Out R) : Sp := fun vs H Q _ => ∃ (b : Nat) (fx : List Addr) (ds : List D) (st : Store) (r : R) (st' : Store) (cm : List Addr), F b ds st = .ok r st' ∧ b ≤ st.length ∧ Valid L H (fx ++ cm) cm st ∧ Reps L H (fx ++ cm) cm vs ds ∧
  ∀ v H' cm', Po L fx b H cm st v r H' cm' st' → Q v H'
def ClAt (L : Lk) (X : Cx) (k : Nat) (x : Str) (C : Addr) (F : Nat → List D → Store → Out R) : Prop :=
  ∃ f fd ps, Mk X.K C f ∧ X.mg x = some (.ref C) ∧ Binds X.K fd ps [] ∧ (k = 0 → ∀ b ds st, F b ds st = .no) ∧ ∀ k', k = k' + 1 → FnOk X.prog X.w X.K X.mg X.base CX0 k' f fd ps (spF L F)
def MeAt (L : Lk) (X : Cx) (k : Nat) (C : Addr) (m : Str) (F : Nat → List D → Store → Out R) : Prop :=
  ∃ f fd ps, Cls X.K C ∧ Meth X.K C m f ∧ Binds X.K fd ps [] ∧ FnOk X.prog X.w X.K X.mg X.base CX0 k f fd ps (spF L F)
def FnAt (L : Lk) (X : Cx) (k : Nat) (x : Str) (F : Nat → List D → Store → Out R) : Prop :=
  ∃ f fd ps, X.mg x = some (.ref f) ∧ PySem.W.keepIn X.K (.ref f) = true ∧ Binds X.K fd ps [] ∧ FnOk X.prog X.w X.K X.mg X.base CX0 k f fd ps (spF L F)
structure CtxOk (L : Lk) (G : Glo) (k : Nat) (X : Cx) (c : SC) : Prop where
  hN : X.N = c.N
  nd : c.N.Nodup
  hs : X.env.scope = c.sc
  fn : X.fn = c.fnc
  calm : X.calm = true
  room : Room k X.A
  xe : X.xe = fun _ _ => False
  hK : X.K = L.K
  fns : ∀ x j, (x, j) ∈ c.fns → FnAt L X k x (G.fn j)
  gls : ∀ x j, (x, j) ∈ c.gls → ∃ u v, X.mg x = some u ∧ RelV v u ∧ ∀ (H : Hp) (fb cm : List Addr), Rep L H fb cm v (G.gl j)
  blt : ∀ x ∈ c.blt, X.mg x = none
  gd : GdOk L X.w G.gd
  cls : ∀ x j, (x, j) ∈ c.cls → ClAt L X k x (L.ca j) (G.ini j)
  me : ∀ j m i, G.me j m = some i → MeAt L X k (L.ca j) m (G.fn i)
  na : ∀ j f, G.na j f = true → Cls X.K (L.ca j) ∧ NoAttr X.K (L.ca j) f
section
variable {L : Lk} {G : Glo} {k b : Nat} {X : Cx} {c : SC}
theorem CtxOk.hu (C : CtxOk L G k X c) : X.A.units + 64 < cLine := C.room.units
theorem CtxOk.hu1 (C : CtxOk L G k X c) : X.A.units + 1 < cLine := by have := C.room.units; omega
theorem CtxOk.blk (C : CtxOk L G k X c) (s : Shared) (H : Hp) (scope : Scope) (A : Addr) (cl : List (Str × Addr)) (fp : List Addr) : CtxOk L G k (X.blk s H scope (compEnvC scope cl A X.env) fp) (c.blk scope) where
  hN := C.hN
  nd := C.nd
  hs := by
    show relS scope X.env.scope = relS scope c.sc
    rw [C.hs]
  fn := rfl
  calm := C.calm
  room := C.room
  xe := rfl
  hK := C.hK
  fns := C.fns
  gls := C.gls
  blt := C.blt
  gd := C.gd
  cls := C.cls
  me := C.me
  na := C.na
theorem CtxOk.vis (C : CtxOk L G k X c) {x : Str} (h : visB c.sc x = true) : Vis X.env.scope x := by
  unfold visB at h
  unfold Vis
  rw [C.hs]
  split at h
  · exact .inl (by assumption)
  · exact .inr (.inl (by assumption))
  · exact .inr (.inr (by assumption))
  · cases h
theorem CtxOk.loc (C : CtxOk L G k X c) {x : Str} (h : locB c x = true) : L2.Loc X.env.scope x ∧ (X.fn x = true ∨ X.env.scope.names.lookup x = some .local) := by
  unfold locB at h
  unfold L2.Loc
  rw [C.hs, C.fn]
  split at h
  · exact ⟨.inl (by assumption), .inr (by assumption)⟩
  · exact ⟨.inr (by assumption), .inl h⟩
  · cases h
theorem CtxOk.gl_ (C : CtxOk L G k X c) {x : Str} (h : glB c.sc x = true) : Gl X x := by
  unfold glB at h
  show X.env.scope.names.lookup x = some .globalImplicit
  rw [C.hs]
  split at h
  · assumption
  · cases h
theorem okName_is {x : Str} (h : okName x = true) : (x == ("__debug__" : Str)) = false ∧ (x == ("__classdict__" : Str)) = false ∧ x ≠ "__name__" := by
  unfold okName at h
  simp only [Bool.and_eq_true, Bool.not_eq_true'] at h
  refine ⟨h.1.1, h.1.2, fun z => ?_⟩
  rw [z] at h
  simp at h
theorem star_of {e : Expr} {es : List Expr} {env : PySem.Env} (h : noStar e = true) : starEach (e :: es) env = (false, eval e env) :: starEach es env := by
  cases e <;> first | rfl | (simp [noStar] at h)
theorem asg_of {e : Expr} {es : List Expr} {env : PySem.Env} (h : noStar e = true) : (assignEach (e :: es) env).map (·.2) = assign e env :: (assignEach es env).map (·.2) := by
  cases e <;> first | rfl | (simp [noStar] at h)
theorem plainIx_of {e : Expr} (h : noSlice e = true) : PlainIx e := by
  intro o i
  cases e <;> first | rfl | (simp [noSlice] at h)
theorem assignSub_of {o i : Expr} {pos : Pos} {env : PySem.Env} (h : noSlice i = true) (v : Value) : assign (.Subscript o i pos) env v = (do
    let ov ← holding [v] (eval o env)
    let iv ← holding [v, ov] (eval i env)
    standAt pos
    holding [v, ov, iv] (setItem ov iv v)
    release [v, ov, iv] []) := by
  cases i <;> first | rfl | (simp [noSlice] at h)
theorem marks_of {e : Expr} {op : CmpOp} (h : noSet e = true) : behindInMarks op e = false := by
  cases e <;> first | rfl | (simp [noSet] at h)
theorem fold_of {e : Expr} {env : PySem.Env} (h : noSet e = true) (x : Value) : foldedSetIterable e env x = pure x := by
  cases e <;> first | rfl | (simp [noSet] at h)
theorem plainT_of {e : Expr} {env : PySem.Env} (h : plainT e = true) (whole : Sem Value) : isTrue e env whole = (do let v ← whole; standAt e.pos; holding [v] (truthy v)) := by
  cases e with
  | UnaryOp o x p => cases o <;> first | rfl | (simp [plainT] at h)
  | BoolOp _ _ _ => simp [plainT] at h
  | IfExp _ _ _ _ => simp [plainT] at h
  | Compare _ _ _ _ => simp [plainT] at h
  | _ => rfl
theorem swap_of {e : Expr} {t : Option Expr} {l : Nat} {env : PySem.Env} (h : noComp e = true) : swapsWith e t l env = pure false := by
  cases e <;> first | rfl | (simp [noComp] at h)
end
end En

set_option Elab.async false
set_option linter.all false
set_option maxRecDepth 100000
set_option maxHeartbeats 1000000
namespace En
open PySem PySem.Spec PyProof.Rows L2

def SE (L : Lk) (G : Glo) (b : Nat) (X : Cx) (e : Expr) (ie : IE) : Prop := ∀ env st r st', evE G b ie env st = .ok r st' → ∀ σ H fx cm, Valid L H (fx ++ cm) cm st → Slots L H (fx ++ cm) cm env σ → b ≤ st.length →
  ∀ Q : VK, (∀ v H' cm', Po L fx b H cm st v r H' cm' st' → Q v H') → wE X e σ H Q
def SA (L : Lk) (G : Glo) (b : Nat) (X : Cx) (es : List Expr) (ies : IEs) : Prop := ∀ env st xs st', evEs G b ies env st = .ok xs st' → ∀ σ H fx cm, Valid L H (fx ++ cm) cm st → Slots L H (fx ++ cm) cm env σ → b ≤ st.length →
  ∀ Q : List V → Hp → Prop, (∀ vs H' cm', Stp b H cm st H' cm' st' → Valid L H' (fx ++ cm') cm' st' → Reps L H' (fx ++ cm') cm' vs xs → Q vs H') → wA X es σ H Q
def STt (L : Lk) (G : Glo) (b : Nat) (X : Cx) (w : TT) (t : IT) : Prop := ∀ env st k st', evT G b t env st = .ok k st' → ∀ σ H fx cm, Valid L H (fx ++ cm) cm st → Slots L H (fx ++ cm) cm env σ → b ≤ st.length →
  ∀ Q : Bool → Hp → Prop, (∀ H' cm', Stp b H cm st H' cm' st' → Valid L H' (fx ++ cm') cm' st' → Q k H') → w σ H Q
def wO (X : Cx) (e : Option Expr) : TO := fun σ H Q => ∀ (pins : List (Addr × Obj)) (s : Shared), Inv X pins σ H s → wpAny (model X.prog X.w) X.A (evalPart e X.env) (fun u s' => ∃ o H', Inv X pins σ H' s' ∧ IsPart u o ∧ Q o H') X.xe s
theorem po_w {X : Cx} {e : Option Expr} : PO X e (wO X e) := ⟨fun pins s σ H Q I h => h pins s I⟩
theorem wO_of {X : Cx} {e : Option Expr} {t : TO} {σ : L2.St} {H : Hp} {Q : Option Int → Hp → Prop} (h : PO X e t) (q : t σ H Q) : wO X e σ H Q := fun pins s I => h.run pins s σ H Q I q
def SO (L : Lk) (G : Glo) (b : Nat) (X : Cx) (e : Option Expr) (o : En.IO) : Prop := ∀ env st k st', evO G b o env st = .ok k st' → ∀ σ H fx cm, Valid L H (fx ++ cm) cm st → Slots L H (fx ++ cm) cm env σ → b ≤ st.length →
  ∀ Q : Option Int → Hp → Prop, (∀ H' cm', Stp b H cm st H' cm' st' → Valid L H' (fx ++ cm') cm' st' → Q k H') → wO X e σ H Q
def wC (X : Cx) (ifs : List Expr) : TT := fun σ H Q => ∀ (pins : List (Addr × Obj)) (s : Shared), Inv X pins σ H s →
  wpAny (model X.prog X.w) X.A (forIn ifs true fun c r => if r = true then do let ok ← isTrue c X.env (eval c X.env); pure (ForInStep.yield ok) else pure (ForInStep.yield r)) (TP X pins σ Q) X.xe s
theorem pts_w {X : Cx} {ifs : List Expr} : PTs X ifs (wC X ifs) := ⟨fun pins s σ H Q I h => h pins s I⟩
theorem wC_of {X : Cx} {ifs : List Expr} {t : TT} {σ : L2.St} {H : Hp} {Q : Bool → Hp → Prop} (h : PTs X ifs t) (q : t σ H Q) : wC X ifs σ H Q := fun pins s I => h.run pins s σ H Q I q
def SC' (L : Lk) (G : Glo) (b : Nat) (X : Cx) (ifs : List Expr) (t : IC) : Prop := ∀ env st k st', evC G b t env st = .ok k st' → ∀ σ H fx cm, Valid L H (fx ++ cm) cm st → Slots L H (fx ++ cm) cm env σ → b ≤ st.length →
  ∀ Q : Bool → Hp → Prop, (∀ H' cm', Stp b H cm st H' cm' st' → Valid L H' (fx ++ cm') cm' st' → Q k H') → wC X ifs σ H Q
def SG (L : Lk) (G : Glo) (b : Nat) (X : Cx) (tg : Expr) (g : IG) : Prop := ∀ d env st env' st', asG G b g d env st = .ok env' st' → ∀ v σ H fx cm, Valid L H (fx ++ cm) cm st → Slots L H (fx ++ cm) cm env σ → Rep L H (fx ++ cm) cm v d → b ≤ st.length →
  ∀ Q : L2.St → Hp → Prop, (∀ σ' H' cm', Stp b H cm st H' cm' st' → Valid L H' (fx ++ cm') cm' st' → Slots L H' (fx ++ cm') cm' env' σ' → (∀ ws, gIn ws g = true → wipe σ' ws = wipe σ ws) → Q σ' H') → wG X tg v σ H Q
def SGs (L : Lk) (G : Glo) (b : Nat) (X : Cx) (ts : List Expr) (g : IGs) : Prop := ∀ ds env st env' st', asGs G b g ds env st = .ok env' st' → ∀ vs σ H fx cm, Valid L H (fx ++ cm) cm st → Slots L H (fx ++ cm) cm env σ → Reps L H (fx ++ cm) cm vs ds → b ≤ st.length →
  ∀ Q : L2.St → Hp → Prop, (∀ σ' H' cm', Stp b H cm st H' cm' st' → Valid L H' (fx ++ cm') cm' st' → Slots L H' (fx ++ cm') cm' env' σ' → (∀ ws, gsIn ws g = true → wipe σ' ws = wipe σ ws) → Q σ' H') → wGs X ts vs σ H Q
/-- an iterator gives ds -/
structure WkD (L : Lk) (J : It) (H0 : Hp) (fx cm0 : List Addr) (ds : List D) : Prop where
  go : ∀ i H cm, i < ds.length → Step H0 cm0 H cm → J.go i H
  stop : ∀ H cm, Step H0 cm0 H cm → J.stop ds.length H
  yld : ∀ b i H fy cm st x H', (∀ a ∈ fy, a ∈ fx ∨ H0 a = none) → i < ds.length → Step H0 cm0 H cm → Valid L H (fy ++ cm) cm st → J.yld i H x H' →
    ∃ d, ds[i]? = some d ∧ Stp b H cm st H' cm st ∧ Valid L H' (fy ++ cm) cm st ∧ Rep L H' (fy ++ cm) cm x d
def ItmOk (L : Lk) (J : It) (H0 : Hp) (fx cm0 : List Addr) : Itm → Prop
  | .l ds => WkD L J H0 fx cm0 ds
  | .c n => ∃ a, cm0[n]? = some a ∧ J = Itl L.K a
def SI (L : Lk) (G : Glo) (b : Nat) (X : Cx) (tg e : Expr) (it : II) : Prop := ∀ env st m st', evI G b it env st = .ok m st' → ∀ σ H fx cm, Valid L H (fx ++ cm) cm st → Slots L H (fx ++ cm) cm env σ → b ≤ st.length →
  ∀ R : It → Hp → Prop, (∀ J H' cm', Stp b H cm st H' cm' st' → Valid L H' (fx ++ cm') cm' st' → ItmOk L J H' fx cm' m → R J H') → wI X tg e σ H R

section
variable {L : Lk} {G : Glo} {k b : Nat} {X : Cx} {c : SC}
theorem SE.use {e : Expr} {ie : IE} (h : SE L G b X e ie) {env : En.Env} {st : Store} {r : R} {st' : Store} (ev : evE G b ie env st = .ok r st') {σ : L2.St} {H : Hp} {fx cm : List Addr} (W : Valid L H (fx ++ cm) cm st) (S : Slots L H (fx ++ cm) cm env σ) (hb : b ≤ st.length)
    {Q : VK} (q : ∀ v H' cm', Stp b H cm st H' cm' st' → Valid L H' (fx ++ cm') cm' st' → Rep L H' (fx ++ cm') cm' v r.d → Q v H') : wE X e σ H Q :=
  h env st r st' ev σ H fx cm W S hb Q fun v H' cm' p => q v H' cm' p.d.1 p.d.2.1 p.d.2.2
theorem Stp.ble {b : Nat} {H H' : Hp} {cm cm' : List Addr} {st st' : Store} (s : Stp b H cm st H' cm' st') (h : b ≤ st.length) : b ≤ st'.length := Nat.le_trans h s.len
theorem evs_at {es : IEs} {xs : List Expr} : ∀ n, chkEs n c xs es = true → xs.length = ieLen es
  | 0, h => by simp [chkEs] at h
  | n + 1, h => by
    cases es with
    | nil => cases xs <;> simp [chkEs, ieLen] at h ⊢
    | cons a es =>
      cases xs with
      | nil => simp [chkEs] at h
      | cons x xs =>
        simp only [chkEs, Bool.and_eq_true] at h
        simp only [List.length_cons, ieLen]
        rw [evs_at n h.2]
theorem stars_of {es : List Expr} {env : PySem.Env} {pos : Pos} (h : ∀ e ∈ es, noStar e = true) : (backTo pos (starEach es env)).any (·.1) = false := by
  induction es with
  | nil => rfl
  | cons e es ih =>
    rw [star_of (h e List.mem_cons_self)]
    show ((false : Bool) || (backTo pos (starEach es env)).any (·.1)) = false
    rw [ih fun e m => h e (List.mem_cons_of_mem _ m)]
    rfl
theorem all_star : ∀ {n : Nat} {es : List Expr} {ies : IEs}, chkEs n c es ies = true → ∀ e ∈ es, noStar e = true
  | 0, _, _, h => by simp [chkEs] at h
  | n + 1, [], _, _ => by simp
  | n + 1, x :: xs, .nil, h => by simp [chkEs] at h
  | n + 1, x :: xs, .cons a es, h => by
    simp only [chkEs, Bool.and_eq_true] at h
    intro e m
    rcases List.mem_cons.mp m with z | z
    · rw [z]; exact h.1.1
    · exact all_star h.2 e z

theorem gs_at : ∀ {n : Nat} {es : List Expr} {gs : IGs}, chkGs n c es gs = true → es.length = gLen gs
  | 0, _, _, h => by simp [chkGs] at h
  | n + 1, [], .nil, _ => rfl
  | n + 1, [], .cons _ _, h => by simp [chkGs] at h
  | n + 1, x :: xs, .nil, h => by simp [chkGs] at h
  | n + 1, x :: xs, .cons a es, h => by
    simp only [chkGs, Bool.and_eq_true] at h
    rw [List.length_cons, gLen, gs_at h.2]
theorem all_starG : ∀ {n : Nat} {es : List Expr} {gs : IGs}, chkGs n c es gs = true → ∀ e ∈ es, noStar e = true
  | 0, _, _, h => by simp [chkGs] at h
  | n + 1, [], _, _ => by simp
  | n + 1, x :: xs, .nil, h => by simp [chkGs] at h
  | n + 1, x :: xs, .cons a es, h => by
    simp only [chkGs, Bool.and_eq_true] at h
    intro e m
    rcases List.mem_cons.mp m with z | z
    · rw [z]; exact h.1.1
    · exact all_starG h.2 e z
theorem gs_len : ∀ {gs : IGs} {ds : List D} {env env' : En.Env} {st st' : Store}, asGs G b gs ds env st = .ok env' st' → ds.length = gLen gs
  | .nil, ds, env, env', st, st', h => by
    cases ds with
    | nil => rfl
    | cons d ds => simp [asGs] at h
  | .cons g gs, ds, env, env', st, st', h => by
    cases ds with
    | nil => simp [asGs] at h
    | cons d ds =>
      simp only [asGs] at h
      obtain ⟨e1, s1, h1, h2⟩ := Out.bind_is h
      rw [List.length_cons, gLen, gs_len h2]
theorem asg_len : ∀ {es : List Expr} {env : PySem.Env}, (assignEach es env).length = es.length
  | [], _ => rfl
  | e :: es, env => by
    have ih := asg_len (es := es) (env := env)
    cases e <;> simp [assignEach, ih]
theorem asg_star : ∀ {es : List Expr} {env : PySem.Env}, (∀ e ∈ es, noStar e = true) → (assignEach es env).findIdx? (·.1) = none
  | [], _, _ => rfl
  | e :: es, env, h => by
    have ih := asg_star (es := es) (env := env) fun e m => h e (List.mem_cons_of_mem _ m)
    have h1 := h e List.mem_cons_self
    cases e with
    | Starred _ _ => simp [noStar] at h1
    | _ => simp [assignEach, List.findIdx?_cons, ih]
/-- the step of the induction: each piece, given its parts -/
structure Snd (L : Lk) (G : Glo) (k : Nat) (n : Nat) : Prop where
  e : ∀ {b X c e ie}, CtxOk L G k X c → chkE n c e ie = true → SE L G b X e ie
  es : ∀ {b X c e ie}, CtxOk L G k X c → chkEs n c e ie = true → SA L G b X e ie
  t : ∀ {b X c e ie}, CtxOk L G k X c → chkT n c e ie = true → STt L G b X (wT X e) ie
  w : ∀ {b X c e ie}, CtxOk L G k X c → chkW n c e ie = true → STt L G b X (wW X e) ie
  o : ∀ {b X c e ie}, CtxOk L G k X c → chkO n c e ie = true → SO L G b X e ie
  c : ∀ {b X c e ie}, CtxOk L G k X c → chkC n c e ie = true → SC' L G b X e ie
  i : ∀ {b X c tg e ie}, CtxOk L G k X c → chkI n c tg e ie = true → SI L G b X tg e ie
  g : ∀ {b X c e ie}, CtxOk L G k X c → chkG n c e ie = true → SG L G b X e ie
  gs : ∀ {b X c e ie}, CtxOk L G k X c → chkGs n c e ie = true → SGs L G b X e ie

theorem po_c {d : D} {v : V} (hr : ∀ (H : Hp) (fb cm : List Addr), Rep L H fb cm v d) {e : Expr} (h : PE X e (tC v)) {st : Store} {σ : L2.St} {H : Hp} {fx cm : List Addr} (W : Valid L H (fx ++ cm) cm st) {Q : VK} (q : ∀ v H' cm', Po L fx b H cm st v (.v d) H' cm' st → Q v H') : wE X e σ H Q :=
  wE_of h (q v H cm (po_val W (hr _ _ _)))

theorem se_args {es : List Expr} {ies : IEs} {n : Nat} (I : Snd L G k n) (C : CtxOk L G k X c) (h : chkEs (n + 1) c es ies = true) : SA L G b X es ies := by
  intro env st xs st' ev σ H fx cm W S hb Q q
  cases ies with
  | nil =>
    cases es with
    | nil =>
      simp only [evEs, Out.ok.injEq] at ev
      obtain ⟨rfl, rfl⟩ := ev
      exact wA_of pa_nil (q [] H cm .refl W .nil)
    | cons _ _ => simp [chkEs] at h
  | cons a ies =>
    cases es with
    | nil => simp [chkEs] at h
    | cons e es =>
      simp only [chkEs, Bool.and_eq_true] at h
      simp only [evEs] at ev
      obtain ⟨x, s1, e1, ev⟩ := Out.bind_is ev
      obtain ⟨ys, s2, e2, ev⟩ := Out.bind_is ev
      cases ev
      refine wA_of (pa_cons pe_w pa_w (star_of h.1.1)) ?_
      refine (I.e C h.1.2).use e1 W S hb fun v H1 cm1 p1 W1 r1 => ?_
      exact I.es C h.2 env s1 ys _ e2 σ H1 fx cm1 W1 (S.step p1.step) (p1.ble hb) _ fun vs H2 cm2 p2 W2 r2 => q _ _ cm2 (p1.trans p2) W2 (.cons (r1.step p2.step) r2)

theorem wipe_set {σ : L2.St} {x : Option V} : ∀ (vs : List Nat) (i : Nat), wipe (σ.set i x) vs = if i ∈ vs then wipe σ vs else (wipe σ vs).set i x
  | [], i => by simp [wipe]
  | v :: vs, i => by
    unfold wipe
    rw [wipe_set vs i]
    by_cases h : i ∈ vs
    · rw [if_pos h, if_pos (List.mem_cons_of_mem _ h)]
    · rw [if_neg h]
      by_cases h2 : i = v
      · subst h2
        rw [if_pos List.mem_cons_self, List.set_set]
      · rw [if_neg (by simp only [List.mem_cons, not_or]; exact ⟨h2, h⟩), List.set_comm _ _ h2]
theorem wipe_idem {σ : L2.St} : ∀ (vs ws : List Nat), (∀ v ∈ ws, v ∈ vs) → wipe (wipe σ ws) vs = wipe σ vs
  | vs, [], _ => rfl
  | vs, w :: ws, h => by
    show wipe ((wipe σ ws).set w none) vs = wipe σ vs
    rw [wipe_set, if_pos (h w List.mem_cons_self)]
    exact wipe_idem vs ws fun v m => h v (List.mem_cons_of_mem _ m)
theorem Slots.wipe {H : Hp} {fb cm : List Addr} {env : En.Env} {σ : L2.St} (h : Slots L H fb cm env σ) : ∀ vs : List Nat, Slots L H fb cm (wipeE env vs) (L2.wipe σ vs)
  | [] => h
  | v :: vs => (Slots.wipe h vs).unset v
theorem swap_fx {H : Hp} {fx fy cm : List Addr} (hf : ∀ a ∈ fy, a ∈ fx ∨ H a = none) {v : V} {d : D} (h : Rep L H (fx ++ cm) cm v d) : Rep L H (fy ++ cm) cm v d := by
  have key : ∀ {a : Addr} {u : HO}, a ∉ fx ++ cm → H a = some u → a ∉ fy ++ cm := fun {a u} n e m => by
    rcases List.mem_append.mp m with m | m
    · rcases hf a m with z | z
      · exact n (List.mem_append_left _ z)
      · rw [z] at e; cases e
    · exact n (List.mem_append_right _ m)
  exact (rep_map (fun a xs n t => ⟨key n t, t⟩) (fun a u n r => ⟨let ⟨_, q⟩ := Rd.some r; key n q, r⟩) (fun a C dx fs n h => ⟨key n h, h⟩) fun n a h => h).1 h
theorem se_g {e : Expr} {g : IG} {n : Nat} (I : Snd L G k n) (C : CtxOk L G k X c) (h : chkG (n + 1) c e g = true) : SG L G b X e g := by
  intro d env st env' st' ev v σ H fx cm W S rv hb Q q
  cases g with
  | name i =>
    cases e <;> simp only [chkG, Bool.false_eq_true, Bool.and_eq_true, decide_eq_true_eq] at h
    simp only [asG, Out.ok.injEq] at ev
    obtain ⟨rfl, rfl⟩ := ev
    have l := C.loc h.2
    refine wG_of (pg_name (by rw [C.hN]; exact C.nd) (by rw [C.hN]; exact h.1) l.1 l.2) (q _ H cm .refl W (S.set rv i) fun ws z => ?_)
    simp only [gIn, decide_eq_true_eq] at z
    rw [wipe_set, if_pos z]
  | tup gs =>
    cases e <;> simp only [chkG, Bool.false_eq_true] at h
    rename_i xs kk pos
    have st0 := all_starG h
    have key : ∀ ds vs, asGs G b gs ds env st = .ok env' st' → Reps L H (fx ++ cm) cm vs ds → wGs X xs vs σ H Q := fun ds vs e1 r => I.gs C (by exact h) ds env st env' st' e1 vs σ H fx cm W S r hb Q q
    have hlen : ∀ ds vs, asGs G b gs ds env st = .ok env' st' → Reps L H (fx ++ cm) cm vs ds → (assignEach xs X.env).length = vs.length := fun ds vs e1 r => by
      rw [r.length, gs_len e1, ← gs_at h]
      exact asg_len
    have pgs : PGs X xs (wGs X xs) := ⟨fun pins s _ _ _ us _ I r h => h pins s us I r⟩
    simp only [asG] at ev
    cases rv with
    | tup n1 t1 r1 => exact wG_of (pg_tup C.calm pgs (hlen _ _ ev r1) (asg_star st0)) ⟨_, _, rfl, SqT.of t1, rfl, key _ _ ev r1⟩
    | kt n1 r1 => exact wG_of (pg_tup C.calm pgs (hlen _ _ ev r1) (asg_star st0)) ⟨_, _, rfl, by rw [C.hK]; exact n1.sq, rfl, key _ _ ev r1⟩
    | kl n1 r1 => exact wG_of (pg_unl C.calm pgs (hlen _ _ ev r1) (asg_star st0)) ⟨_, _, rfl, by rw [C.hK]; exact KL.sq n1, rfl, key _ _ ev r1⟩
    | lst n1 t1 r1 => exact wG_of (pg_unl C.calm pgs (hlen _ _ ev r1) (asg_star st0)) ⟨_, _, rfl, .inl t1, rfl, key _ _ ev r1⟩
    | _ => cases ev
  | sub a i =>
    cases e <;> simp only [chkG, Bool.false_eq_true, Bool.and_eq_true] at h
    rename_i l r pos
    simp only [asG] at ev
    obtain ⟨x, s1, e1, ev⟩ := Out.bind_is ev
    obtain ⟨y, s2, e2, ev⟩ := Out.bind_is ev
    obtain ⟨u, s3, e3, ev⟩ := Out.bind_is ev
    cases ev
    refine wG_of (pg_sub pe_w pe_w set_w (assignSub_of h.1.1)) ?_
    refine (I.e C h.1.2).use e1 W S hb fun v1 H1 cm1 p1 W1 r1 => ?_
    refine (I.e C h.2).use e2 W1 (S.step p1.step) (p1.ble hb) fun v2 H2 cm2 p2 W2 r2 => ?_
    have p12 := p1.trans p2
    exact set_sound C.hu1 e3 (r1.step p2.step) r2 (rv.step p12.step) W2 fun H3 p3 W3 => q σ H3 cm2 (p12.trans p3) W3 ((S.step p12.step).step p3.step) fun ws _ => rfl
  | fld a f => simp [chkG] at h
theorem se_gs {es : List Expr} {gs : IGs} {n : Nat} (I : Snd L G k n) (C : CtxOk L G k X c) (h : chkGs (n + 1) c es gs = true) : SGs L G b X es gs := by
  intro ds env st env' st' ev vs σ H fx cm W S rs hb Q q
  have wGs_of : ∀ {ts : List Expr} {t : TGs} {vs : List V} {σ : L2.St} {H : Hp} {Q : L2.St → Hp → Prop}, PGs X ts t → t vs σ H Q → wGs X ts vs σ H Q := fun h q pins s us I r => h.run pins s _ _ _ us _ I r q
  cases gs with
  | nil =>
    cases es with
    | cons _ _ => simp [chkGs] at h
    | nil =>
      cases ds with
      | cons _ _ => simp [asGs] at ev
      | nil =>
        simp only [asGs, Out.ok.injEq] at ev
        obtain ⟨rfl, rfl⟩ := ev
        cases rs
        exact wGs_of pgs_nil ⟨rfl, q σ H cm .refl W S fun ws _ => rfl⟩
  | cons g gs =>
    cases es with
    | nil => simp [chkGs] at h
    | cons e es =>
      cases ds with
      | nil => simp [asGs] at ev
      | cons d ds =>
        simp only [chkGs, Bool.and_eq_true] at h
        simp only [asGs] at ev
        obtain ⟨env1, s1, e1, e2⟩ := Out.bind_is ev
        cases rs with
        | cons r1 r2 =>
          have pgs : PGs X es (wGs X es) := ⟨fun pins s _ _ _ us _ I r h => h pins s us I r⟩
          refine wGs_of (pgs_cons pg_w pgs (asg_of h.1.1)) ⟨_, _, rfl, ?_⟩
          refine I.g C h.1.2 d env st env1 s1 e1 _ σ H fx cm W S r1 hb _ fun σ1 H1 cm1 p1 W1 S1 z1 => ?_
          refine I.gs C h.2 ds env1 s1 env' st' e2 _ σ1 H1 fx cm1 W1 S1 (r2.step p1.step) (p1.ble hb) _ fun σ2 H2 cm2 p2 W2 S2 z2 => ?_
          refine q σ2 H2 cm2 (p1.trans p2) W2 S2 fun ws z => ?_
          simp only [gsIn, Bool.and_eq_true] at z
          rw [z2 ws z.2, z1 ws z.1]

theorem se_cmpQ {o : Cmp} {x y : R} {k' : Bool} {st2 : Store} {v1 v2 : V} {H2 : Hp} {fx cm2 : List Addr} {Q : VK} (C : CtxOk L G k X c) (e : cmpR G.gd o x.d y.d st2 = some k') (r1 : Rep L H2 (fx ++ cm2) cm2 v1 x.d) (r2 : Rep L H2 (fx ++ cm2) cm2 v2 y.d) (W : Valid L H2 (fx ++ cm2) cm2 st2)
    (q : Q (.bl k') H2) : rW X (compareOp (cmpOf o)) v1 v2 H2 Q := cmp_sound C.hK C.hu e r1 r2 W q
theorem se_t {e : Expr} {t : IT} {n : Nat} (I : Snd L G k n) (C : CtxOk L G k X c) (h : chkT (n + 1) c e t = true) : STt L G b X (wT X e) t := by
  intro env st kk st' ev σ H fx cm W S hb Q q
  cases t with
  | and t u =>
    simp only [chkT] at h
    split at h
    · simp only [Bool.and_eq_true] at h
      simp only [evT] at ev
      obtain ⟨k1, s1, e1, ev⟩ := Out.bind_is ev
      refine wT_of (PW.pt (pw_and pt_w pw_w)) ?_
      refine I.t C h.1 env st k1 s1 e1 σ H fx cm W S hb _ fun H1 cm1 p1 W1 => ?_
      cases k1 with
      | true => exact I.w C h.2 env s1 kk st' ev σ H1 fx cm1 W1 (S.step p1.step) (p1.ble hb) _ fun H2 cm2 p2 W2 => q H2 cm2 (p1.trans p2) W2
      | false =>
        cases ev
        exact q H1 cm1 p1 W1
    · cases h
  | or t u =>
    simp only [chkT] at h
    split at h
    · simp only [Bool.and_eq_true] at h
      simp only [evT] at ev
      obtain ⟨k1, s1, e1, ev⟩ := Out.bind_is ev
      refine wT_of (PW.pt (pw_or pt_w pw_w)) ?_
      refine I.t C h.1 env st k1 s1 e1 σ H fx cm W S hb _ fun H1 cm1 p1 W1 => ?_
      cases k1 with
      | false => exact I.w C h.2 env s1 kk st' ev σ H1 fx cm1 W1 (S.step p1.step) (p1.ble hb) _ fun H2 cm2 p2 W2 => q H2 cm2 (p1.trans p2) W2
      | true =>
        cases ev
        exact q H1 cm1 p1 W1
    · cases h
  | not t =>
    simp only [chkT] at h
    split at h
    · simp only [evT] at ev
      obtain ⟨k1, s1, e1, ev⟩ := Out.bind_is ev
      cases ev
      refine wT_of (pt_not pt_w) ?_
      exact I.t C h env st k1 _ e1 σ H fx cm W S hb _ fun H1 cm1 p1 W1 => q H1 cm1 p1 W1
    · cases h
  | e a =>
    simp only [evT] at ev
    obtain ⟨x, s1, e1, ev⟩ := Out.bind_is ev
    obtain ⟨ev, rfl⟩ := Out.of_is ev
    have plain : ∀ {e'}, plainT e' = true → chkE n c e' a = true → wT X e' σ H Q := fun {e'} h1 h2 => by
      have pt : PT X e' (fun σ H Q => wE X e' σ H fun x H' => truW X x H' Q) := ⟨fun pins s σ H Q I hq =>
        isTrue_plain (thn (hq pins s I) fun v s1 ⟨y, H1, I1, r1, q1⟩ => q1 pins s1 σ v I1 r1) (plainT_of h1 _)⟩
      refine wT_of pt ?_
      exact (I.e C h2).use e1 W S hb fun v H1 cm1 p1 W1 r1 => tru_sound C.hK ev r1 W1 (q H1 cm1 p1 W1)
    cases a with
    | cmp o a d =>
      simp only [chkT] at h
      split at h
      · simp only [Bool.and_eq_true, decide_eq_true_eq] at h
        simp only [evE] at e1
        obtain ⟨y, s2, f1, e1⟩ := Out.bind_is e1
        obtain ⟨z, s3, f2, e1⟩ := Out.bind_is e1
        obtain ⟨e1, rfl⟩ := Out.of_is e1
        obtain ⟨k', e9, rfl⟩ := bl_case e1
        simp only [R.d_v, tru, Option.some.injEq] at ev
        subst ev
        refine wT_of (pt_cmpR (op_w) pe_w pe_w (marks_of h.1.1.2)) ?_
        refine (I.e C h.1.2).use f1 W S hb fun v1 H1 cm1 p1 W1 r1 => ?_
        refine (I.e C h.2).use f2 W1 (S.step p1.step) (p1.ble hb) fun v2 H2 cm2 p2 W2 r2 => ?_
        rw [← h.1.1.1]
        exact se_cmpQ C e9 (r1.step p2.step) r2 W2 ⟨k', rfl, q H2 cm2 (p1.trans p2) W2⟩
      · cases h
    | chain o o' a d f =>
      simp only [chkT] at h
      split at h
      · simp only [Bool.and_eq_true, decide_eq_true_eq] at h
        simp only [evE] at e1
        obtain ⟨y, s2, f1, e1⟩ := Out.bind_is e1
        obtain ⟨z, s3, f2, e1⟩ := Out.bind_is e1
        obtain ⟨k1, s4, f3, e1⟩ := Out.bind_is e1
        obtain ⟨f3, rfl⟩ := Out.of_is f3
        refine wT_of (pt_chain op_w op_w pe_w pe_w pe_w (by show lastMarks _ _ = false; exact marks_of h.1.1.1.2)) ?_
        refine (I.e C h.1.1.2).use f1 W S hb fun v1 H1 cm1 p1 W1 r1 => ?_
        refine (I.e C h.1.2).use f2 W1 (S.step p1.step) (p1.ble hb) fun v2 H2 cm2 p2 W2 r2 => ?_
        rw [← h.1.1.1.1.1, ← h.1.1.1.1.2]
        refine se_cmpQ C f3 (r1.step p2.step) r2 W2 ⟨k1, rfl, ?_⟩
        have p12 := p1.trans p2
        cases k1 with
        | false =>
          cases e1
          simp only [R.d_v, tru, Option.some.injEq] at ev
          subst ev
          exact iteF ⟨false, rfl, q H2 cm2 p12 W2⟩
        | true =>
          obtain ⟨w, s5, f4, e1⟩ := Out.bind_is e1
          obtain ⟨e1, rfl⟩ := Out.of_is e1
          obtain ⟨k', e9, rfl⟩ := bl_case e1
          simp only [R.d_v, tru, Option.some.injEq] at ev
          subst ev
          refine iteT ?_
          refine (I.e C h.2).use f4 W2 (S.step p12.step) (p12.ble hb) fun v3 H3 cm3 p3 W3 r3 => ?_
          exact se_cmpQ C e9 (r2.step p3.step) r3 W3 ⟨k', rfl, q H3 cm3 (p12.trans p3) W3⟩
      · cases h
    | _ =>
      simp only [chkT, Bool.and_eq_true] at h
      exact plain h.1 h.2
theorem se_w {e : Expr} {t : IT} {n : Nat} (I : Snd L G k n) (C : CtxOk L G k X c) (h : chkW (n + 1) c e t = true) : STt L G b X (wW X e) t := by
  intro env st kk st' ev σ H fx cm W S hb Q q
  simp only [chkW] at h
  split at h
  · rename_i op l p
    cases op with
    | And => exact wW_of (pw_and1 pt_w) (I.t C h env st kk st' ev σ H fx cm W S hb Q q)
    | Or => exact wW_of (pw_or1 pt_w) (I.t C h env st kk st' ev σ H fx cm W S hb Q q)
  · split at h
    · simp only [Bool.and_eq_true] at h
      simp only [evT] at ev
      obtain ⟨k1, s1, e1, ev⟩ := Out.bind_is ev
      refine wW_of (pw_and pt_w pw_w) ?_
      refine I.t C h.1 env st k1 s1 e1 σ H fx cm W S hb _ fun H1 cm1 p1 W1 => ?_
      cases k1 with
      | true => exact I.w C h.2 env s1 kk st' ev σ H1 fx cm1 W1 (S.step p1.step) (p1.ble hb) _ fun H2 cm2 p2 W2 => q H2 cm2 (p1.trans p2) W2
      | false =>
        cases ev
        exact q H1 cm1 p1 W1
    · cases h
  · split at h
    · simp only [Bool.and_eq_true] at h
      simp only [evT] at ev
      obtain ⟨k1, s1, e1, ev⟩ := Out.bind_is ev
      refine wW_of (pw_or pt_w pw_w) ?_
      refine I.t C h.1 env st k1 s1 e1 σ H fx cm W S hb _ fun H1 cm1 p1 W1 => ?_
      cases k1 with
      | false => exact I.w C h.2 env s1 kk st' ev σ H1 fx cm1 W1 (S.step p1.step) (p1.ble hb) _ fun H2 cm2 p2 W2 => q H2 cm2 (p1.trans p2) W2
      | true =>
        cases ev
        exact q H1 cm1 p1 W1
    · cases h
  · cases h
theorem se_o {e : Option Expr} {o : En.IO} {n : Nat} (I : Snd L G k n) (C : CtxOk L G k X c) (h : chkO (n + 1) c e o = true) : SO L G b X e o := by
  intro env st kk st' ev σ H fx cm W S hb Q q
  cases o with
  | none =>
    simp only [chkO] at h
    split at h
    · simp only [evO, Out.ok.injEq] at ev
      obtain ⟨rfl, rfl⟩ := ev
      exact wO_of po_none (q H cm .refl W)
    · cases h
  | some a =>
    simp only [chkO] at h
    split at h
    · simp only [evO] at ev
      obtain ⟨x, s1, e1, ev⟩ := Out.bind_is ev
      refine wO_of (po_some pe_w) ?_
      refine (I.e C h).use e1 W S hb fun v1 H1 cm1 p1 W1 r1 => ?_
      generalize x.d = xd at ev r1
      cases r1 with
      | int i =>
        cases ev
        exact ⟨_, rfl, q H1 cm1 p1 W1⟩
      | _ => cases ev
    · cases h
theorem se_c {ifs : List Expr} {t : IC} {n : Nat} (I : Snd L G k n) (C : CtxOk L G k X c) (h : chkC (n + 1) c ifs t = true) : SC' L G b X ifs t := by
  intro env st kk st' ev σ H fx cm W S hb Q q
  cases t with
  | yes =>
    simp only [chkC] at h
    split at h
    · simp only [evC, Out.ok.injEq] at ev
      obtain ⟨rfl, rfl⟩ := ev
      exact wC_of pts_nil (q H cm .refl W)
    · cases h
  | t t =>
    simp only [chkC] at h
    split at h
    · simp only [evC] at ev
      exact wC_of (pts_one pt_w) (I.t C h env st kk st' ev σ H fx cm W S hb Q q)
    · cases h
end
end En

set_option Elab.async false
set_option linter.all false
set_option maxRecDepth 100000
set_option maxHeartbeats 2000000
namespace En
open PySem PySem.Spec PyProof.Rows L2
section
variable {L : Lk} {G : Glo} {k b : Nat} {X : Cx} {c : SC}
theorem sq_lst {H1 : Hp} {fx cm1 : List Addr} {a : Addr} {vs : List V} (n : a ∉ fx ++ cm1) (t : Rd H1 a (.lst vs)) : ∀ H cm, Step H1 cm1 H cm → SqL L.K H a vs := fun H cm s =>
  .inl (s.ext.rd (fun z => n (List.mem_append_right _ z)) t)
theorem wkd_list {H1 : Hp} {fx cm1 : List Addr} {a : Addr} {vs : List V} {ds : List D} (t : ∀ H cm, Step H1 cm1 H cm → SqL L.K H a vs) (r : Reps L H1 (fx ++ cm1) cm1 vs ds) : WkD L (Itl L.K a) H1 fx cm1 ds where
  go := fun i H cm hi s => by
    have hv : i < vs.length := by rw [r.length]; exact hi
    exact ⟨vs, vs[i], t _ _ s, List.getElem?_eq_getElem hv⟩
  stop := fun H cm s => ⟨vs, t _ _ s, Nat.le_of_eq r.length⟩
  yld := fun b i H fy cm st x H' hf hi s W y => by
    obtain ⟨rfl, y⟩ := y
    have hx := y vs (t _ _ s)
    obtain ⟨d, h1, h2⟩ := r.getV hx
    exact ⟨d, h1, .refl, W, (swap_fx hf h2).step s⟩
theorem wkd_tup {H1 : Hp} {fx cm1 : List Addr} {a : Addr} {vs : List V} {ds : List D} (t : ∀ H cm, Step H1 cm1 H cm → SqT L.K H a vs) (r : Reps L H1 (fx ++ cm1) cm1 vs ds) : WkD L (Itt L.K a) H1 fx cm1 ds where
  go := fun i H cm hi s => by
    have hv : i < vs.length := by rw [r.length]; exact hi
    exact ⟨vs, vs[i], t H cm s, List.getElem?_eq_getElem hv⟩
  stop := fun H cm s => ⟨vs, t H cm s, Nat.le_of_eq r.length⟩
  yld := fun b i H fy cm st x H' hf hi s W y => by
    obtain ⟨rfl, y⟩ := y
    have hx := y vs (t _ _ s)
    obtain ⟨d, h1, h2⟩ := r.getV hx
    exact ⟨d, h1, .refl, W, (swap_fx hf h2).step s⟩
theorem sq_tup {H1 : Hp} {fx cm1 : List Addr} {a : Addr} {vs : List V} (n : a ∉ fx ++ cm1) (t : H1 a = some (.tup vs)) : ∀ H cm, Step H1 cm1 H cm → SqT L.K H a vs := fun H cm s =>
  SqT.of (s.ext _ _ (fun z => n (List.mem_append_right _ z)) t)
theorem enumL_get : ∀ (ds : List D) (k i : Nat), (enumL k ds)[i]? = (ds[i]?).map fun d => .tup [.int ((k + i : Nat) : Int), d]
  | [], k, i => by simp [enumL]
  | d :: ds, k, 0 => by simp [enumL]
  | d :: ds, k, i + 1 => by
    simp only [enumL, List.getElem?_cons_succ]
    rw [enumL_get ds (k + 1) i]
    have e : k + 1 + i = k + (i + 1) := by omega
    rw [e]
theorem enumL_len : ∀ (ds : List D) (k : Nat), (enumL k ds).length = ds.length
  | [], _ => rfl
  | d :: ds, k => by simp only [enumL, List.length_cons, enumL_len ds]
theorem wkd_enum {H1 : Hp} {fx cm1 : List Addr} {a : Addr} {vs : List V} {ds : List D} (t : ∀ H cm, Step H1 cm1 H cm → SqL L.K H a vs) (r : Reps L H1 (fx ++ cm1) cm1 vs ds) : WkD L (Ite L.K a) H1 fx cm1 (enumL 0 ds) where
  go := fun i H cm hi s => by
    rw [enumL_len] at hi
    have hv : i < vs.length := by rw [r.length]; exact hi
    exact ⟨vs, vs[i], t _ _ s, List.getElem?_eq_getElem hv⟩
  stop := fun H cm s => ⟨vs, t _ _ s, Nat.le_of_eq (by rw [enumL_len, r.length])⟩
  yld := fun b i H fy cm st x H' hf hi s W y => by
    obtain ⟨T, z, rfl, nT, rfl, y⟩ := y
    have hx := y vs (t _ _ s)
    obtain ⟨d, h1, h2⟩ := r.getV hx
    have h3 := (swap_fx hf h2).step s
    refine ⟨.tup [.int i, d], by rw [enumL_get, h1]; simp, .keep (keep_new nT), W.keep (keep_new nT), .tup (W.nin nT) upd_same ?_⟩
    exact (Reps.cons (.int _) (.one h3)).ext fun a o _ => keep_new nT a o
theorem wkd_enumT {H1 : Hp} {fx cm1 : List Addr} {a : Addr} {vs : List V} {ds : List D} (t : ∀ H cm, Step H1 cm1 H cm → SqT L.K H a vs) (r : Reps L H1 (fx ++ cm1) cm1 vs ds) : WkD L (IteT L.K a) H1 fx cm1 (enumL 0 ds) where
  go := fun i H cm hi s => by
    rw [enumL_len] at hi
    have hv : i < vs.length := by rw [r.length]; exact hi
    exact ⟨vs, vs[i], t H cm s, List.getElem?_eq_getElem hv⟩
  stop := fun H cm s => ⟨vs, t H cm s, Nat.le_of_eq (by rw [enumL_len, r.length])⟩
  yld := fun b i H fy cm st x H' hf hi s W y => by
    obtain ⟨T, z, rfl, nT, rfl, y⟩ := y
    have hx := y vs (t _ _ s)
    obtain ⟨d, h1, h2⟩ := r.getV hx
    have h3 := (swap_fx hf h2).step s
    refine ⟨.tup [.int i, d], by rw [enumL_get, h1]; simp, .keep (keep_new nT), W.keep (keep_new nT), .tup (W.nin nT) upd_same ?_⟩
    exact (Reps.cons (.int _) (.one h3)).ext fun a o _ => keep_new nT a o
theorem pairs2_get : ∀ (xs ys : List D) (i : Nat) (x y : D), xs[i]? = some x → ys[i]? = some y → (pairs2 xs ys)[i]? = some (.tup [x, y])
  | [], _, _, _, _, h, _ => by simp at h
  | _ :: _, [], _, _, _, _, h => by simp at h
  | x :: xs, y :: ys, 0, _, _, h, h2 => by
    simp only [List.getElem?_cons_zero, Option.some.injEq] at h h2
    subst h h2
    simp [pairs2]
  | x :: xs, y :: ys, i + 1, _, _, h, h2 => by
    simp only [pairs2, List.getElem?_cons_succ] at h h2 ⊢
    exact pairs2_get xs ys i _ _ h h2
theorem pairs2_len : ∀ (xs ys : List D), (pairs2 xs ys).length = min xs.length ys.length
  | [], ys => by simp [pairs2]
  | x :: xs, [] => by simp [pairs2]
  | x :: xs, y :: ys => by
    simp only [pairs2, List.length_cons, pairs2_len xs ys]
    omega
theorem wkd_zip {H1 : Hp} {fx cm1 : List Addr} {k1 k2 : Bool} {a a2 : Addr} {vs ws : List V} {ds es : List D} (t : ∀ H cm, Step H1 cm1 H cm → SqK L.K H k1 a vs) (r : Reps L H1 (fx ++ cm1) cm1 vs ds) (t2 : ∀ H cm, Step H1 cm1 H cm → SqK L.K H k2 a2 ws) (r2 : Reps L H1 (fx ++ cm1) cm1 ws es) :
    WkD L (ItzM L.K k1 k2 a a2) H1 fx cm1 (pairs2 ds es) where
  go := fun i H cm hi s => by
    rw [pairs2_len] at hi
    have hv : i < vs.length := by rw [r.length]; omega
    have hw : i < ws.length := by rw [r2.length]; omega
    exact ⟨vs, ws, vs[i], ws[i], t _ _ s, t2 _ _ s, List.getElem?_eq_getElem hv, List.getElem?_eq_getElem hw⟩
  stop := fun H cm s => ⟨vs, ws, t _ _ s, t2 _ _ s, by
    rw [pairs2_len, r.length]
    omega, by
    rw [pairs2_len, r2.length]
    omega, by
    rw [pairs2_len, r.length, r2.length]
    omega⟩
  yld := fun b i H fy cm st x H' hf hi s W y => by
    obtain ⟨T, z, z2, rfl, nT, rfl, y, y2⟩ := y
    have hx := y vs (t _ _ s)
    have hx2 := y2 ws (t2 _ _ s)
    obtain ⟨d, h1, h2⟩ := r.getV hx
    obtain ⟨d2, h3, h4⟩ := r2.getV hx2
    refine ⟨.tup [d, d2], pairs2_get _ _ _ _ _ h1 h3, .keep (keep_new nT), W.keep (keep_new nT), .tup (W.nin nT) upd_same ?_⟩
    exact (Reps.cons ((swap_fx hf h2).step s) (.one ((swap_fx hf h4).step s))).ext fun a o _ => keep_new nT a o
theorem frz_src {H2 : Hp} {fx cm2 : List Addr} {v : V} {d : D} {kd : Bool} {ds : List D} (r : Rep L H2 (fx ++ cm2) cm2 v d) (h : frzSeq d = some (kd, ds)) :
    ∃ a us, v = .ref a ∧ (∀ H cm, Step H2 cm2 H cm → SqK L.K H kd a us) ∧ Reps L H2 (fx ++ cm2) cm2 us ds := by
  cases r with
  | tup n t r =>
    cases h
    exact ⟨_, _, rfl, sq_tup n t, r⟩
  | lst n t r =>
    cases h
    exact ⟨_, _, rfl, sq_lst n t, r⟩
  | kt n r =>
    cases h
    exact ⟨_, _, rfl, fun _ _ _ => n.sq, r⟩
  | kl n r =>
    cases h
    exact ⟨_, _, rfl, fun _ _ _ => KL.sq n, r⟩
  | _ => cases h
theorem rngL_get : ∀ (n : Nat) (lo : Int) (i : Nat), i < n → (rngL lo n)[i]? = some (.int (lo + i))
  | 0, _, _, h => by omega
  | n + 1, lo, 0, _ => by simp [rngL]
  | n + 1, lo, i + 1, h => by
    simp only [rngL, List.getElem?_cons_succ]
    rw [rngL_get n (lo + 1) i (by omega)]
    have e : lo + 1 + (i : Int) = lo + ((i + 1 : Nat) : Int) := by omega
    rw [e]
theorem rngL_len : ∀ (n : Nat) (lo : Int), (rngL lo n).length = n
  | 0, _ => rfl
  | n + 1, lo => by simp only [rngL, List.length_cons, rngL_len n]
theorem wkd_rng {H1 : Hp} {fx cm1 : List Addr} {lo : Int} {n : Nat} : WkD L (Itr lo n) H1 fx cm1 (rngL lo n) where
  go := fun i H cm hi s => by rw [rngL_len] at hi; exact hi
  stop := fun H cm s => Nat.le_of_eq (rngL_len n lo).symm
  yld := fun b i H fy cm st x H' hf hi s W y => by
    obtain ⟨rfl, rfl⟩ := y
    rw [rngL_len] at hi
    exact ⟨_, rngL_get n lo i hi, .refl, W, .int _⟩
theorem wkd_str {H1 : Hp} {fx cm1 : List Addr} {z : Str} : WkD L (Its z) H1 fx cm1 (z.cps.toList.map fun c => .str ⟨#[c]⟩) where
  go := fun i H cm hi s => by
    show i < z.cps.size
    simpa using hi
  stop := fun H cm s => by show z.cps.size ≤ _; simp
  yld := fun b i H fy cm st x H' hf hi s W y => by
    obtain ⟨rfl, c, hc, rfl⟩ := y
    refine ⟨.str ⟨#[c]⟩, ?_, .refl, W, .str _⟩
    rw [List.getElem?_map, Array.getElem?_toList, hc]
    rfl
theorem se_i {tg e : Expr} {it : II} {n : Nat} (I : Snd L G k n) (C : CtxOk L G k X c) (h : chkI (n + 1) c tg e it = true) : SI L G b X tg e it := by
  intro env st m st' ev σ H fx cm W S hb R q
  have s1 : ∀ {l : Expr}, noStar l = true → starEach [l] X.env = [(false, eval l X.env)] := fun {l} h => star_of h
  have s2 : ∀ {l r : Expr}, noStar l = true → noStar r = true → starEach [l, r] X.env = [(false, eval l X.env), (false, eval r X.env)] := fun {l r} h h2 => by rw [star_of h, star_of h2]; rfl
  cases it with
  | seq a =>
    simp only [chkI] at h
    simp only [evI] at ev
    obtain ⟨x, st1, e1, ev⟩ := Out.bind_is ev
    have use := @SE.use L G b X e a (I.e C h) env st x st1 e1 σ H fx cm W S hb
    split at ev
    · rename_i ds hx
      cases ev
      refine wI_of (pi_list pe_w) (use fun v H1 cm1 p1 W1 r1 => ?_)
      rw [hx] at r1
      cases r1 with
      | kl n r => exact ⟨_, rfl, ⟨_, C.hK ▸ KL.sq n⟩, q _ H1 cm1 p1 W1 (C.hK ▸ wkd_list (fun H cm _ => KL.sq n) r)⟩
      | lst n t r => exact ⟨_, rfl, ⟨_, .inl t⟩, q _ H1 cm1 p1 W1 (C.hK ▸ wkd_list (sq_lst n t) r)⟩
    · rename_i ds hx
      cases ev
      refine wI_of (pi_tup pe_w) (use fun v H1 cm1 p1 W1 r1 => ?_)
      rw [hx] at r1
      cases r1 with
      | tup n t r => exact ⟨_, rfl, ⟨_, SqT.of t⟩, q _ H1 cm1 p1 W1 (C.hK ▸ wkd_tup (sq_tup n t) r)⟩
    · rename_i ds hx
      cases ev
      refine wI_of (pi_tup pe_w) (use fun v H1 cm1 p1 W1 r1 => ?_)
      rw [hx] at r1
      cases r1 with
      | kt n r => exact ⟨_, rfl, ⟨_, C.hK ▸ n.sq⟩, q _ H1 cm1 p1 W1 (C.hK ▸ wkd_tup (fun H cm _ => n.sq) r)⟩
    · rename_i n hx
      split at ev
      · rename_i ds hn
        cases ev
        refine wI_of (pi_list pe_w) (use fun v H1 cm1 p1 W1 r1 => ?_)
        rw [hx] at r1
        obtain ⟨a, rfl, ha, _, us, h1, _⟩ := cell_at W1 r1 hn
        exact ⟨_, rfl, ⟨_, .inl (.inl h1)⟩, q _ H1 cm1 p1 W1 (C.hK ▸ ⟨a, ha, rfl⟩)⟩
      · cases ev
    · rename_i z hx
      cases ev
      refine wI_of (pi_str pe_w) (use fun v H1 cm1 p1 W1 r1 => ?_)
      rw [hx] at r1
      cases r1
      exact ⟨_, rfl, q _ H1 cm1 p1 W1 wkd_str⟩
    · cases ev
  | rng1 a =>
    simp only [chkI] at h
    split at h
    · simp only [Bool.and_eq_true, decide_eq_true_eq] at h
      obtain ⟨⟨⟨⟨g1, rfl⟩, g3⟩, g4⟩, g5⟩ := h
      simp only [evI] at ev
      obtain ⟨x, st1, e1, ev⟩ := Out.bind_is ev
      split at ev
      · rename_i i hx
        split at ev
        · rename_i hi
          simp only [decide_eq_true_eq] at hi
          cases ev
          refine wI_of (pi_range1 (C.gl_ g1) (C.blt _ g3) (pa_cons pe_w pa_nil (star_of g4)) (s1 g4)) ?_
          refine (I.e C g5).use e1 W S hb fun v H1 cm1 p1 W1 r1 => ?_
          rw [hx] at r1
          cases r1
          exact ⟨i, rfl, hi.1, hi.2, q _ H1 cm1 p1 W1 wkd_rng⟩
        · cases ev
      · cases ev
    · cases h
  | rng2 a d =>
    simp only [chkI] at h
    split at h
    · simp only [Bool.and_eq_true, decide_eq_true_eq] at h
      obtain ⟨⟨⟨⟨⟨⟨g1, rfl⟩, g3⟩, g4⟩, g4'⟩, g5⟩, g6⟩ := h
      simp only [evI] at ev
      obtain ⟨x, st1, e1, ev⟩ := Out.bind_is ev
      obtain ⟨y, st2, e2, ev⟩ := Out.bind_is ev
      split at ev
      · rename_i i j hx hy
        split at ev
        · rename_i hi
          simp only [decide_eq_true_eq] at hi
          cases ev
          refine wI_of (pi_range2 (C.gl_ g1) (C.blt _ g3) (pa_cons pe_w (pa_cons pe_w pa_nil (star_of g4')) (star_of g4)) (s2 g4 g4') (s1 g4')) ?_
          refine (I.e C g5).use e1 W S hb fun v H1 cm1 p1 W1 r1 => ?_
          refine (I.e C g6).use e2 W1 (S.step p1.step) (p1.ble hb) fun v2 H2 cm2 p2 W2 r2 => ?_
          rw [hx] at r1
          rw [hy] at r2
          cases r1
          cases r2
          exact ⟨i, j, rfl, hi, q _ H2 cm2 (p1.trans p2) W2 wkd_rng⟩
        · cases ev
      · cases ev
    · cases h
  | rng3 a d f => simp [chkI] at h
  | enum a =>
    simp only [chkI] at h
    split at h
    · split at h
      · simp only [Bool.and_eq_true, decide_eq_true_eq] at h
        obtain ⟨⟨⟨⟨g1, rfl⟩, g3⟩, g4⟩, g5⟩ := h
        simp only [evI] at ev
        obtain ⟨x, st1, e1, ev⟩ := Out.bind_is ev
        split at ev
        · rename_i ds hx
          cases ev
          refine wI_of (pi_enum (C.gl_ g1) (C.blt _ g3) (pa_cons pe_w pa_nil (star_of g4)) (s1 g4)) ?_
          refine (I.e C g5).use e1 W S hb fun v H1 cm1 p1 W1 r1 => ?_
          rw [hx] at r1
          cases r1 with
          | kl n r => exact ⟨_, _, rfl, C.hK ▸ KL.sq n, q _ H1 cm1 p1 W1 (C.hK ▸ wkd_enum (fun H cm _ => KL.sq n) r)⟩
          | lst n t r => exact ⟨_, _, rfl, .inl t, q _ H1 cm1 p1 W1 (C.hK ▸ wkd_enum (sq_lst n t) r)⟩
        · rename_i ds hx
          cases ev
          refine wI_of (pi_enumT (C.gl_ g1) (C.blt _ g3) (pa_cons pe_w pa_nil (star_of g4)) (s1 g4)) ?_
          refine (I.e C g5).use e1 W S hb fun v H1 cm1 p1 W1 r1 => ?_
          rw [hx] at r1
          cases r1 with
          | tup n t r => exact ⟨_, _, rfl, SqT.of t, q _ H1 cm1 p1 W1 (C.hK ▸ wkd_enumT (sq_tup n t) r)⟩
        · cases ev
      · cases h
    · cases h
  | zip a d =>
    simp only [chkI] at h
    split at h
    · split at h
      · simp only [Bool.and_eq_true, decide_eq_true_eq] at h
        obtain ⟨⟨⟨⟨⟨⟨g1, rfl⟩, g3⟩, g4⟩, g4'⟩, g5⟩, g6⟩ := h
        simp only [evI] at ev
        obtain ⟨x, st1, e1, ev⟩ := Out.bind_is ev
        obtain ⟨y, st2, e2, ev⟩ := Out.bind_is ev
        split at ev
        · rename_i k1 ds k2 es hx hy
          cases ev
          refine wI_of (pi_zipM (C.gl_ g1) (C.blt _ g3) (pa_cons pe_w (pa_cons pe_w pa_nil (star_of g4')) (star_of g4)) (star_of g4) (stars_of (by intro e m; rw [List.mem_singleton.mp m]; exact g4'))) ?_
          refine (I.e C g5).use e1 W S hb fun v H1 cm1 p1 W1 r1 => ?_
          refine (I.e C g6).use e2 W1 (S.step p1.step) (p1.ble hb) fun v2 H2 cm2 p2 W2 r2 => ?_
          have r1 := r1.step p2.step
          obtain ⟨a1, u1, rfl, t1, q1⟩ := frz_src r1 hx
          obtain ⟨a2, u2, rfl, t2, q2⟩ := frz_src r2 hy
          exact ⟨_, _, _, _, _, _, rfl, C.hK ▸ t1 _ _ (.refl _ _), C.hK ▸ t2 _ _ (.refl _ _), q _ H2 cm2 (p1.trans p2) W2 (C.hK ▸ wkd_zip t1 q1 t2 q2)⟩
        · cases ev
      · cases h
    · cases h

def bE (X : Cx) (scope : Scope) (e : Expr) : TE := fun σ H Q => ∀ (s : Shared) (H0 : Hp) (A : Addr) (cl : List (Str × Addr)) (fp : List Addr), wE (X.blk s H0 scope (compEnvC scope cl A X.env) fp) e σ H Q
def bG (X : Cx) (scope : Scope) (tg : Expr) : TG := fun v σ H Q => ∀ (s : Shared) (H0 : Hp) (A : Addr) (cl : List (Str × Addr)) (fp : List Addr), wG (X.blk s H0 scope (compEnvC scope cl A X.env) fp) tg v σ H Q
def bC (X : Cx) (scope : Scope) (ifs : List Expr) : TT := fun σ H Q => ∀ (s : Shared) (H0 : Hp) (A : Addr) (cl : List (Str × Addr)) (fp : List Addr), wC (X.blk s H0 scope (compEnvC scope cl A X.env) fp) ifs σ H Q
theorem pe_b {scope : Scope} {e : Expr} (s : Shared) (H0 : Hp) (A : Addr) (cl : List (Str × Addr)) (fp : List Addr) : PE (X.blk s H0 scope (compEnvC scope cl A X.env) fp) e (bE X scope e) := ⟨fun pins s' _ _ _ I h => h s H0 A cl fp pins s' I⟩
theorem pg_b {scope : Scope} {tg : Expr} (s : Shared) (H0 : Hp) (A : Addr) (cl : List (Str × Addr)) (fp : List Addr) : PG (X.blk s H0 scope (compEnvC scope cl A X.env) fp) tg (bG X scope tg) := ⟨fun pins s' _ _ _ u _ I r h => h s H0 A cl fp pins s' u I r⟩
theorem pts_b {scope : Scope} {ifs : List Expr} (s : Shared) (H0 : Hp) (A : Addr) (cl : List (Str × Addr)) (fp : List Addr) : PTs (X.blk s H0 scope (compEnvC scope cl A X.env) fp) ifs (bC X scope ifs) := ⟨fun pins s' _ _ _ I h => h s H0 A cl fp pins s' I⟩
/-- the new thing at p, that nobody knows, changes -/
theorem Valid.upd {H : Hp} {fb cm : List Addr} {st : Store} {p : Addr} {u : HO} (W : Valid L H fb cm st) (m : p ∈ fb) (n : p ∉ cm) : Valid L (upd H p u) fb cm st := by
  have ext : Ext fb H (L2.upd H p u) := fun a o na h => by
    rw [upd_ne (fun z => na (by rw [z]; exact m))]
    exact h
  refine ⟨W.len, W.nd, W.sub, fun a ma => ?_, fun i o e => ?_⟩
  · by_cases z : a = p
    · exact ⟨u, by rw [z]; exact upd_same⟩
    · obtain ⟨q, h⟩ := W.trk a ma
      exact ⟨q, by rw [upd_ne z]; exact h⟩
  · obtain ⟨a, h1, h2⟩ := W.cells i o e
    exact ⟨a, h1, h2.ext ext (upd_ne fun z => n (by rw [← z]; exact List.mem_of_getElem? h1))⟩
theorem Reps.upd {H : Hp} {fb cm : List Addr} {p : Addr} {u : HO} {vs : List V} {ds : List D} (r : Reps L H fb cm vs ds) (m : p ∈ fb) : Reps L (upd H p u) fb cm vs ds :=
  r.ext fun a o na h => by
    rw [upd_ne (fun z => na (by rw [z]; exact m))]
    exact h
theorem Stp.updNew {H H' : Hp} {cm cm' : List Addr} {st st' : Store} {p : Addr} {u : HO} (s : Stp b H cm st H' cm' st') (n : H p = none) : Stp b H cm st (upd H' p u) cm' st' :=
  ⟨⟨fun a o na h => by
    rw [upd_ne (ne_of_none h n)]
    exact s.step.ext a o na h, s.step.new, fun a q h => by
    rw [upd_ne (ne_of_none h n)]
    exact s.step.trk a q h⟩, s.kp, s.len⟩
def lcF (G : Glo) (b : Nat) (own : List (Str × Nat)) (g : IG) (t : IC) (x : IE) (e : En.Env) (d : D) (s1 : Store) : Out (List D) :=
  (asG G b g d (wipeE e (own.map (·.2))) s1).bind fun e2 s2 => (evC G b t e2 s2).bind fun k s3 => if k then (evE G b x e2 s3).bind fun r s4 => .ok [r.d] s4 else .ok [] s3
theorem lc_read {own : List (Str × Nat)} {g : IG} {it : II} {t : IC} {x : IE} {tg iter el : Expr} {ifs : List Expr} {scope : Scope} {n : Nat} (I : Snd L G k n) (C : CtxOk L G k X c)
    (hin : gIn (own.map (·.2)) g = true) (hi : chkI n c tg iter it = true) (hg : chkG n (c.blk scope) tg g = true) (ht : chkC n (c.blk scope) ifs t = true) (he : chkE n (c.blk scope) el x = true)
    {env : En.Env} {st : Store} {r : R} {st' : Store} (ev : evE G b (.lc own g it t x) env st = .ok r st') {σ : L2.St} {H : Hp} {fx cm : List Addr} (W : Valid L H (fx ++ cm) cm st) (S : Slots L H (fx ++ cm) cm env σ) (hb : b ≤ st.length)
    {Q : VK} (q : ∀ v H' cm', Po L fx b H cm st v r H' cm' st' → Q v H') : tLc (wI X tg iter) (bG X scope tg) (bC X scope ifs) (bE X scope el) (own.map (·.2)) σ H Q := by
  simp only [evE] at ev
  obtain ⟨m, s0, e0, ev⟩ := Out.bind_is ev
  cases m with
  | c n0 =>
    simp only at ev
    obtain ⟨res, s5, e5, ev⟩ := Out.bind_is ev
    split at ev
    · rename_i hlen
      cases ev
      refine I.i C hi env st _ s0 e0 σ H fx cm W S hb _ fun J H1 cm1 p1 W1 wk => ?_
      obtain ⟨a0, ha0, rfl⟩ : ∃ a, cm1[n0]? = some a ∧ J = Itl L.K a := wk
      intro D0 hD0
      have S1 := S.step p1.step
      have e5 : lcC (lcF G b own g t x env) n0 G.F 0 s0 = .ok res st' := e5
      refine ⟨fun i mm Hc => ∃ (cm' : List Addr) (s' : Store) (acc : List V) (done rest : List D), D0 ∉ cm' ∧ Stp b H1 cm1 s0 Hc cm' s' ∧ Valid L Hc ((fx ++ [D0]) ++ cm') cm' s' ∧
        Hc D0 = some (.lst acc) ∧ Reps L Hc ((fx ++ [D0]) ++ cm') cm' acc done ∧ lcC (lcF G b own g t x env) n0 mm i s' = .ok rest st' ∧ res = done ++ rest,
        ⟨G.F, cm1, s0, [], [], res, ?_, .keep (keep_new hD0), ?_, upd_same, .nil, e5, by simp⟩, ?_⟩
      · exact fun z => (W1.nin hD0) (List.mem_append_right _ z)
      · refine (W1.new hD0).less (fun a m => ?_) fun a m => List.mem_append_right _ m
        simp only [List.mem_append, List.mem_singleton] at m ⊢
        rcases m with (m | m) | m
        · exact .inl (.inl m)
        · exact .inr m
        · exact .inl (.inr m)
      · rintro i mm Hc ⟨cm', s', acc, done, rest, nD, sp, Wc, hD, rD, el_, hres⟩
        have ha : cm'[n0]? = some a0 := by
          obtain ⟨ex, rfl, _⟩ := sp.step.new
          rw [List.getElem?_append_left]
          · exact ha0
          · exact (List.getElem?_eq_some_iff.mp ha0).1
        cases mm with
        | zero => simp [lcC] at el_
        | succ mm =>
          simp only [lcC] at el_
          split at el_
          · rename_i ds hds
            obtain ⟨vs, hv, rv⟩ := Wc.cell hds ha
            split at el_
            · rename_i hnone
              simp only [Out.ok.injEq] at el_
              obtain ⟨rfl, rfl⟩ := el_
              refine .inl ⟨⟨vs, .inl (.inl hv), ?_⟩, ?_⟩
              · rw [rv.length]
                exact List.getElem?_eq_none_iff.mp hnone
              simp only [List.append_nil] at hres
              subst hres
              have sub : ∀ a, a ∈ fx ++ cm' ++ [D0] → a ∈ (fx ++ [D0]) ++ cm' := fun a m => by
                simp only [List.mem_append, List.mem_singleton] at m ⊢
                rcases m with (m | m) | m
                · exact .inl (.inl m)
                · exact .inr m
                · exact .inl (.inr m)
              refine q _ Hc cm' ⟨p1.trans sp, D0, rfl, p1.step.free hD0, fun z => ?_, Wc.less sub fun a m => by simp [m], acc, hD, rD.less sub⟩
              rcases List.mem_append.mp z with z | z
              · exact (W1.nin hD0) (List.mem_append_left _ z)
              · exact nD z
            · rename_i d hd
              obtain ⟨v0, hv2, r2⟩ := rv.get hd
              refine .inr ⟨⟨vs, v0, .inl (.inl hv), hv2⟩, fun H' => ∃ (cm' : List Addr) (s' : Store) (acc : List V) (done rest : List D), D0 ∉ cm' ∧ Stp b H1 cm1 s0 H' cm' s' ∧ Valid L H' ((fx ++ [D0]) ++ cm') cm' s' ∧
                H' D0 = some (.lst acc) ∧ Reps L H' ((fx ++ [D0]) ++ cm') cm' acc done ∧ lcC (lcF G b own g t x env) n0 mm (i + 1) s' = .ok rest st' ∧ res = done ++ rest,
                fun H' hN => ⟨mm, Nat.lt_succ_self _, hN⟩, fun y H2 hy => ?_⟩
              obtain ⟨rfl, hy⟩ := hy
              have ex := hy vs (.inl (.inl hv))
              rw [hv2] at ex
              cases ex
              obtain ⟨out, s6, e6, el_⟩ := Out.bind_is el_
              obtain ⟨rest', s7, e7, el_⟩ := Out.bind_is el_
              simp only [Out.ok.injEq] at el_
              obtain ⟨rfl, rfl⟩ := el_
              simp only [lcF] at e6
              obtain ⟨env2, s8, f1, e6⟩ := Out.bind_is e6
              obtain ⟨kk, s9, f2, e6⟩ := Out.bind_is e6
              have S2 : Slots L H2 ((fx ++ [D0]) ++ cm') cm' (wipeE env (own.map (·.2))) (wipe σ (own.map (·.2))) := by
                have z : Slots L H1 ((fx ++ [D0]) ++ cm1) cm1 env σ := ⟨S1.len, fun j d e => let ⟨v, h1, h2⟩ := S1.at_ j d e; ⟨v, h1, swap_fx (fun a m => by
                  rcases List.mem_append.mp m with m | m
                  · exact .inl m
                  · rw [List.mem_singleton.mp m]
                    exact .inr hD0) h2⟩⟩
                exact (z.step sp.step).wipe _
              have hb0 : b ≤ s'.length := Nat.le_trans (p1.ble hb) sp.len
              intro bs bH bA bcl bfp
              refine I.g (C.blk bs bH scope bA bcl bfp) hg d _ s' env2 s8 f1 v0 _ H2 (fx ++ [D0]) cm' Wc S2 r2 hb0 _ fun σ3 H3 cm3 p3 W3 S3 z3 => ?_
              refine ⟨by rw [z3 _ hin, wipe_idem _ _ fun v m => m], ?_⟩
              have nD3 : D0 ∉ cm3 := p3.step.nin nD hD
              have hD3 := p3.step.ext D0 _ nD hD
              intro bs bH bA bcl bfp
              refine I.c (C.blk bs bH scope bA bcl bfp) ht env2 s8 kk s9 f2 σ3 H3 (fx ++ [D0]) cm3 W3 S3 (p3.ble hb0) _ fun H4 cm4 p4 W4 => ?_
              have nD4 : D0 ∉ cm4 := p4.step.nin nD3 hD3
              have hD4 := p4.step.ext D0 _ nD3 hD3
              have p34 := p3.trans p4
              have sp4 := sp.trans p34
              cases kk with
              | false =>
                simp only [Bool.false_eq_true, if_false, Out.ok.injEq] at e6
                obtain ⟨rfl, rfl⟩ := e6
                refine iteF ?_
                exact ⟨cm4, _, acc, done, rest', nD4, sp4, W4, hD4, (rD.step p34.step), e7, by simpa using hres⟩
              | true =>
                simp only [if_true] at e6
                obtain ⟨rr, s10, f3, e6⟩ := Out.bind_is e6
                simp only [Out.ok.injEq] at e6
                obtain ⟨rfl, rfl⟩ := e6
                refine iteT ?_
                intro bs bH bA bcl bfp
                refine (I.e (C.blk bs bH scope bA bcl bfp) he).use f3 W4 (S3.step p4.step) (p34.ble hb0) fun v H5 cm5 p5 W5 r5 => ?_
                have nD5 : D0 ∉ cm5 := p5.step.nin nD4 hD4
                have hD5 := p5.step.ext D0 _ nD4 hD4
                have mD : D0 ∈ (fx ++ [D0]) ++ cm5 := by simp
                have r35 := (rD.step p34.step).step p5.step
                have hl : acc.length = done.length := rD.length
                have hlr : done.length < 100000 := by
                  rw [hres] at hlen
                  simp only [List.length_append, List.length_cons, List.length_nil] at hlen
                  omega
                refine ⟨acc, hD5, lt_line (by omega), cm5, _, acc ++ [v], done ++ [rr.d], rest', nD5, (sp4.trans p5).updNew hD0, W5.upd mD nD5, upd_same, (r35.append (.one r5)).upd mD, e7, by simpa using hres⟩
          · cases el_
    · cases ev
  | l ds =>
    simp only at ev
    split at ev
    · rename_i hlen
      obtain ⟨res, s5, e5, ev⟩ := Out.bind_is ev
      cases ev
      refine I.i C hi env st _ s0 e0 σ H fx cm W S hb _ fun J H1 cm1 p1 W1 wk => ?_
      have wk : WkD L J H1 fx cm1 ds := wk
      intro D0 hD0
      have S1 := S.step p1.step
      have e5 : lcL (lcF G b own g t x env) ds s0 = .ok res st' := e5
      -- the invariant
      refine ⟨fun i mm Hc => mm = ds.length - i ∧ i ≤ ds.length ∧ ∃ (cm' : List Addr) (s' : Store) (acc : List V) (done rest : List D), D0 ∉ cm' ∧ Stp b H1 cm1 s0 Hc cm' s' ∧ Valid L Hc ((fx ++ [D0]) ++ cm') cm' s' ∧
        Hc D0 = some (.lst acc) ∧ Reps L Hc ((fx ++ [D0]) ++ cm') cm' acc done ∧ lcL (lcF G b own g t x env) (ds.drop i) s' = .ok rest st' ∧ res = done ++ rest ∧ done.length ≤ i,
        ⟨ds.length, by simp, Nat.zero_le _, cm1, s0, [], [], res, ?_, .keep (keep_new hD0), ?_, upd_same, .nil, by simpa using e5, by simp, by simp⟩, ?_⟩
      · exact fun z => (W1.nin hD0) (List.mem_append_right _ z)
      · refine (W1.new hD0).less (fun a m => ?_) fun a m => List.mem_append_right _ m
        simp only [List.mem_append, List.mem_singleton] at m ⊢
        rcases m with (m | m) | m
        · exact .inl (.inl m)
        · exact .inr m
        · exact .inl (.inr m)
      · rintro i mm Hc ⟨rfl, hle, cm', s', acc, done, rest, nD, sp, Wc, hD, rD, el_, hres, hdone⟩
        by_cases hi : i < ds.length
        · refine .inr ⟨wk.go i Hc cm' hi sp.step, fun H' => ∃ (cm' : List Addr) (s' : Store) (acc : List V) (done rest : List D), D0 ∉ cm' ∧ Stp b H1 cm1 s0 H' cm' s' ∧ Valid L H' ((fx ++ [D0]) ++ cm') cm' s' ∧
            H' D0 = some (.lst acc) ∧ Reps L H' ((fx ++ [D0]) ++ cm') cm' acc done ∧ lcL (lcF G b own g t x env) (ds.drop (i + 1)) s' = .ok rest st' ∧ res = done ++ rest ∧ done.length ≤ i + 1,
            fun H' hN => ⟨ds.length - (i + 1), by omega, rfl, hi, hN⟩, fun y H2 hy => ?_⟩
          obtain ⟨d, hd, p2, W2, r2⟩ := wk.yld b i Hc (fx ++ [D0]) cm' s' y H2 (fun a m => by
            rcases List.mem_append.mp m with m | m
            · exact .inl m
            · rw [List.mem_singleton.mp m]
              exact .inr hD0) hi sp.step Wc hy
          have hdrop : ds.drop i = d :: ds.drop (i + 1) := by
            obtain ⟨h1, h2⟩ := List.getElem?_eq_some_iff.mp hd
            rw [← h2]
            exact List.drop_eq_getElem_cons h1
          rw [hdrop] at el_
          simp only [lcL] at el_
          obtain ⟨out, s6, e6, el_⟩ := Out.bind_is el_
          obtain ⟨rest', s7, e7, el_⟩ := Out.bind_is el_
          simp only [Out.ok.injEq] at el_
          obtain ⟨rfl, rfl⟩ := el_
          simp only [lcF] at e6
          obtain ⟨env2, s8, f1, e6⟩ := Out.bind_is e6
          obtain ⟨kk, s9, f2, e6⟩ := Out.bind_is e6
          have sp2 := sp.trans p2
          have S2 : Slots L H2 ((fx ++ [D0]) ++ cm') cm' (wipeE env (own.map (·.2))) (wipe σ (own.map (·.2))) := by
            have z : Slots L H1 ((fx ++ [D0]) ++ cm1) cm1 env σ := ⟨S1.len, fun j d e => let ⟨v, h1, h2⟩ := S1.at_ j d e; ⟨v, h1, swap_fx (fun a m => by
              rcases List.mem_append.mp m with m | m
              · exact .inl m
              · rw [List.mem_singleton.mp m]
                exact .inr hD0) h2⟩⟩
            exact (z.step sp2.step).wipe _
          have hD2 : H2 D0 = some (.lst acc) := p2.step.ext D0 _ nD hD
          have rD2 := rD.step p2.step
          have hb0 : b ≤ s'.length := Nat.le_trans (p1.ble hb) sp.len
          intro bs bH bA bcl bfp
          refine I.g (C.blk bs bH scope bA bcl bfp) hg d _ s' env2 s8 f1 y _ H2 (fx ++ [D0]) cm' W2 S2 r2 hb0 _ fun σ3 H3 cm3 p3 W3 S3 z3 => ?_
          refine ⟨by rw [z3 _ hin, wipe_idem _ _ fun v m => m], ?_⟩
          have nD3 : D0 ∉ cm3 := p3.step.nin nD hD2
          have hD3 := p3.step.ext D0 _ nD hD2
          intro bs bH bA bcl bfp
          refine I.c (C.blk bs bH scope bA bcl bfp) ht env2 s8 kk s9 f2 σ3 H3 (fx ++ [D0]) cm3 W3 S3 (p3.ble hb0) _ fun H4 cm4 p4 W4 => ?_
          have nD4 : D0 ∉ cm4 := p4.step.nin nD3 hD3
          have hD4 := p4.step.ext D0 _ nD3 hD3
          have p34 := p3.trans p4
          have sp4 := sp2.trans p34
          cases kk with
          | false =>
            simp only [Bool.false_eq_true, if_false, Out.ok.injEq] at e6
            obtain ⟨rfl, rfl⟩ := e6
            refine iteF ?_
            exact ⟨cm4, _, acc, done, rest', nD4, sp4, W4, hD4, (rD2.step p34.step), e7, by simpa using hres, by omega⟩
          | true =>
            simp only [if_true] at e6
            obtain ⟨rr, s10, f3, e6⟩ := Out.bind_is e6
            simp only [Out.ok.injEq] at e6
            obtain ⟨rfl, rfl⟩ := e6
            refine iteT ?_
            intro bs bH bA bcl bfp
            refine (I.e (C.blk bs bH scope bA bcl bfp) he).use f3 W4 (S3.step p4.step) (p34.ble hb0) fun v H5 cm5 p5 W5 r5 => ?_
            have nD5 : D0 ∉ cm5 := p5.step.nin nD4 hD4
            have hD5 := p5.step.ext D0 _ nD4 hD4
            have mD : D0 ∈ (fx ++ [D0]) ++ cm5 := by simp
            have r35 := (rD2.step p34.step).step p5.step
            have hl : acc.length = done.length := rD.length
            refine ⟨acc, hD5, lt_line (by omega), cm5, _, acc ++ [v], done ++ [rr.d], rest', nD5, (sp4.trans p5).updNew hD0, W5.upd mD nD5, upd_same, (r35.append (.one r5)).upd mD, e7, by simpa using hres, by simpa using hdone⟩
        · have hi2 : i = ds.length := by omega
          subst hi2
          refine .inl ⟨wk.stop Hc cm' sp.step, ?_⟩
          rw [List.drop_length] at el_
          simp only [lcL, Out.ok.injEq] at el_
          obtain ⟨rfl, rfl⟩ := el_
          simp only [List.append_nil] at hres
          subst hres
          have sub : ∀ a, a ∈ fx ++ cm' ++ [D0] → a ∈ (fx ++ [D0]) ++ cm' := fun a m => by
            simp only [List.mem_append, List.mem_singleton] at m ⊢
            rcases m with (m | m) | m
            · exact .inl (.inl m)
            · exact .inr m
            · exact .inl (.inr m)
          refine q _ Hc cm' ⟨p1.trans sp, D0, rfl, p1.step.free hD0, fun z => ?_, Wc.less sub fun a m => by simp [m], acc, hD, rD.less sub⟩
          rcases List.mem_append.mp z with z | z
          · exact (W1.nin hD0) (List.mem_append_left _ z)
          · exact nD z
    · cases ev
end
end En

set_option Elab.async false
set_option linter.all false
set_option maxRecDepth 100000
set_option maxHeartbeats 2000000
namespace En
open PySem PySem.Spec PyProof.Rows L2
section
variable {L : Lk} {G : Glo} {k b : Nat} {X : Cx} {c : SC}
theorem po_mu {o : O} {st s1 : Store} {H H' : Hp} {fx cm cm' : List Addr} {v : V} (po : Po L fx b H cm st v (.n o) H' cm' s1) (hb : b ≤ st.length) {Q : VK} (q : ∀ v H' cm', Po L fx b H cm st v (.v (.cell s1.length)) H' cm' (s1 ++ [o]) → Q v H') : Q v H' := by
  obtain ⟨p1, p, rfl, hp, hn, W1, o1⟩ := po
  have W2 : Valid L H' (fx ++ (cm' ++ [p])) (cm' ++ [p]) (s1 ++ [o]) := by
    rw [← List.append_assoc]
    refine ⟨by simp [W1.len], ?_, fun a m => ?_, W1.trk, fun i o' e => ?_⟩
    · rw [List.nodup_append]
      refine ⟨W1.nd, by simp, fun a ha b hb => ?_⟩
      rw [List.mem_singleton.mp hb]
      rintro rfl
      exact hn (List.mem_append_right _ ha)
    · simp only [List.mem_append, List.mem_singleton] at m ⊢
      rcases m with m | m
      · exact .inl (.inr m)
      · exact .inr m
    · by_cases hi : i < s1.length
      · rw [List.getElem?_append_left hi] at e
        obtain ⟨a, h1, h2⟩ := W1.cells i o' e
        exact ⟨a, by rw [List.getElem?_append_left (by rw [W1.len]; exact hi)]; exact h1, h2.wide⟩
      · have hi2 : i = s1.length := by
          have z := (List.getElem?_eq_some_iff.mp e).1
          simp at z
          omega
        subst hi2
        simp at e
        subst e
        exact ⟨p, by rw [← W1.len]; simp, o1.wide⟩
  have p2 : Stp b H cm st H' (cm' ++ [p]) (s1 ++ [o]) := by
    obtain ⟨⟨e1, ⟨ex, rfl, hx⟩, e3⟩, kp, len⟩ := p1
    refine ⟨⟨e1, ⟨ex ++ [p], by rw [List.append_assoc], fun a m => ?_⟩, e3⟩, fun b' hb' old i o' hi e => ?_, by simp; omega⟩
    · rcases List.mem_append.mp m with m | m
      · exact hx a m
      · rw [List.mem_singleton.mp m]; exact hp
    · have hi2 : i < s1.length := Nat.lt_of_lt_of_le hi (Nat.le_trans hb' (Nat.le_trans hb len))
      rw [List.getElem?_append_left hi2] at e
      exact kp b' hb' old i o' hi e
  refine q _ H' (cm' ++ [p]) ⟨p2, W2, .cell ?_⟩
  rw [← W1.len]
  simp
theorem mform_of {es : List Expr} {env : PySem.Env} {pos : Pos} (h : ∀ e ∈ es, noStar e = true) (hl : es.length < 20) : methodCallForm (es.length + ([] : List Keyword).length) (backTo pos (starEach es env)) (backToKw pos (keywordEach [] env)) = true := by
  have a1 : ∀ es : List Expr, (∀ e ∈ es, noStar e = true) → (backTo pos (starEach es env)).all (fun x => !x.1) = true := fun es h => by
    induction es with
    | nil => rfl
    | cons e es ih =>
      rw [star_of (h e List.mem_cons_self)]
      show ((true : Bool) && (backTo pos (starEach es env)).all (fun x => !x.1)) = true
      rw [ih fun e m => h e (List.mem_cons_of_mem _ m)]
      rfl
  unfold methodCallForm
  rw [a1 es h]
  simp only [backToKw, keywordEach, List.map_nil, List.all_nil, Bool.true_and, decide_eq_true_eq, List.length_nil, List.isEmpty_nil, if_true]
  omega
theorem mcall_of {o : Expr} {m : Str} {apos pos : Pos} {es : List Expr} {env : PySem.Env} (hs : attributeBase o m env (eval o env) = eval o env) (h : ∀ e ∈ es, noStar e = true) (hl : es.length < 20) (hp : (apos.endLine == pos.line) = true) :
    eval (.Call (.Attribute o m apos) es [] pos) env = (do
      let ov ← eval o env
      standAt apos.atName
      let (f, first) ← holding [ov] (getMethod ov m (plainOf o env))
      callWith pos f first (backTo pos (starEach es env)) (backToKw pos (keywordEach [] env))) := by
  rw [arm_eval_Call, hs]
  simp only [mcall_line (mform_of (env := env) (pos := pos) h hl) hp]
/-- a new instance, before its __init__ -/
theorem made_po {c : Nat} {x dx : Addr} {H1 : Hp} {cm1 : List Addr} {s1 : Store} {fx : List Addr} {L : Lk} {b : Nat} (W1 : Valid L H1 (fx ++ cm1) cm1 s1) (hx : H1 x = none) (hd : H1 dx = none) (hne : dx ≠ x) :
    Po L fx b H1 cm1 s1 (.ref x) (.n (.ins c [])) (upd (upd H1 dx (.own x)) x (.ins (L.ca c) dx [])) cm1 s1 := by
  have e : ∀ a u, H1 a = some u → (upd (upd H1 dx (.own x)) x (.ins (L.ca c) dx [])) a = some u := fun a u h => by
    rw [upd_ne (ne_of_none h hx), upd_ne (ne_of_none h hd)]
    exact h
  have na : x ∉ fx ++ cm1 := fun m => by
    obtain ⟨u, hu⟩ := W1.trk x m
    rw [hx] at hu
    cases hu
  exact ⟨.keep e, x, rfl, hx, na, W1.and e hx ⟨_, upd_same⟩, dx, [], upd_same, rfl, .nil⟩
theorem po_nil {L : Lk} {fx : List Addr} {b : Nat} {H H' : Hp} {cm cm' : List Addr} {st : Store} {v : V} {r : R} (h : Po L fx b H cm st v r H' cm' []) : cm' = [] := by
  obtain ⟨_, W, _⟩ := h.d
  exact List.eq_nil_of_length_eq_zero W.len
theorem callR_fin {f : Nat → List D → Store → Out R} {L : Lk} {b : Nat} {ds : List D} {s1 st' : Store} {r : R} {H1 : Hp} {fx cm1 : List Addr} {vs : List V} {Q : VK} {E : XK} (ev : callR f b ds s1 = .ok r st') (W1 : Valid L H1 (fx ++ cm1) cm1 s1) (r1 : Reps L H1 (fx ++ cm1) cm1 vs ds) (hb : b ≤ s1.length)
    (q : ∀ v H' cm', Po L fx b H1 cm1 s1 v r H' cm' st' → Q v H') : spF L f vs H1 Q E := by
  have full : f b ds s1 = .ok r st' → spF L f vs H1 Q E := fun ev => ⟨b, fx, ds, s1, r, st', cm1, ev, hb, W1, r1, q⟩
  unfold callR at ev
  split at ev
  · rename_i hc
    split at ev
    · rename_i r0 hr
      cases ev
      refine ⟨0, fx ++ cm1, ds, [], r, [], [], hr, Nat.le_refl _, ⟨rfl, .nil, (fun a m => nomatch m), fun a m => W1.trk a (by simpa using m), fun n o e => by simp at e⟩, ?_, fun v H' cm' po => ?_⟩
      · rw [List.append_nil]
        exact (rep_narrow_ (cm' := []) fun n a h _ => absurd h (Nat.not_lt_zero _)).2 r1 hc
      · obtain rfl := po_nil po
        exact q v H' cm1 (po_call W1 po (.inl fun a m => m))
    · exact full ev
  · exact full ev
theorem boot_blt {f : Blt} : (∃ id, bltV f = .builtin id ∧ bootBuiltins (bltName f) = some (.builtin id)) ∨ ∃ T, bltV f = .type T ∧ bootBuiltins (bltName f) = some (.type T) := by
  cases f <;> first | exact .inl ⟨_, rfl, by decide +kernel⟩ | exact .inr ⟨_, rfl, by decide +kernel⟩
theorem bltName_ok (f : Blt) : bltName f ≠ "__name__" ∧ (bltName f == ("__debug__" : Str)) = false := by
  cases f <;> exact ⟨by decide +kernel, by decide +kernel⟩
theorem noSup_of {o : Expr} {m : Str} {env : PySem.Env} (h : noSup o = true) : attributeBase o m env (eval o env) = eval o env := by
  unfold attributeBase
  split
  · rename_i id p pos
    simp only [noSup, Bool.not_eq_true'] at h
    have hne : (id != ("super" : Str)) = true := by
      show (!(id == ("super" : Str))) = true
      rw [h]
      rfl
    rw [hne]
    simp only [Bool.true_or, if_true]
    first | done | rfl | exact bind_pure _
  · rfl
theorem stars_all {es : List Expr} {env : PySem.Env} {pos : Pos} (h : ∀ e ∈ es, noStar e = true) : (backTo pos (starEach es env)).all (fun x => !x.1) = true := by
  induction es with
  | nil => rfl
  | cons e es ih =>
    rw [star_of (h e List.mem_cons_self)]
    show ((true : Bool) && (backTo pos (starEach es env)).all (fun x => !x.1)) = true
    rw [ih fun e m => h e (List.mem_cons_of_mem _ m)]
    rfl
theorem se_e {e : Expr} {ie : IE} {n : Nat} (I : Snd L G k n) (C : CtxOk L G k X c) (h : chkE (n + 1) c e ie = true) : SE L G b X e ie := by
  intro env st r st' ev σ H fx cm W S hb Q q
  cases ie with
  | var i =>
    cases e <;> simp only [chkE, Bool.false_eq_true, Bool.and_eq_true, decide_eq_true_eq] at h
    obtain ⟨⟨h1, h2⟩, h3⟩ := h
    obtain ⟨n1, n2, n3⟩ := okName_is h3
    simp only [evE] at ev
    split at ev
    · rename_i d hd
      cases ev
      obtain ⟨v, hv, rv⟩ := S.at_ i d hd
      exact wE_of (pe_var (by rw [C.hN]; exact h1) (C.vis h2) n1 n2) ⟨v, hv, q v H cm (po_val W rv)⟩
    · cases ev
  | int i =>
    simp only [chkE] at h
    split at h
    · simp only [decide_eq_true_eq] at h
      subst h
      cases ev
      exact wE_of pe_int (q _ H cm (po_val W (.int _)))
    · cases h
  | str i =>
    simp only [chkE] at h
    split at h
    · simp only [decide_eq_true_eq] at h
      subst h
      cases ev
      exact wE_of pe_str (q _ H cm (po_val W (.str _)))
    · cases h
  | bl i =>
    simp only [chkE] at h
    split at h
    · simp only [decide_eq_true_eq] at h
      subst h
      cases ev
      exact wE_of pe_bl (q _ H cm (po_val W (.bl _)))
    · cases h
  | non =>
    simp only [chkE] at h
    split at h
    · cases ev
      exact wE_of pe_non (q _ H cm (po_val W .non))
    · cases h
  | gl j =>
    cases e <;> simp only [chkE, Bool.false_eq_true, Bool.and_eq_true, decide_eq_true_eq] at h
    obtain ⟨⟨h1, h2⟩, h3⟩ := h
    obtain ⟨n1, n2, n3⟩ := okName_is h2
    obtain ⟨u, v, hm, rv, rp⟩ := C.gls _ _ h3
    cases ev
    exact wE_of (pe_glob (C.gl_ h1) hm rv n1) (q v H cm (po_val W (rp _ _ _)))
  | op o a d =>
    cases e <;> simp only [chkE, Bool.false_eq_true, Bool.and_eq_true, decide_eq_true_eq] at h
    obtain ⟨⟨rfl, h2⟩, h3⟩ := h
    simp only [evE] at ev
    obtain ⟨x, s1, e1, ev⟩ := Out.bind_is ev
    obtain ⟨y, s2, e2, ev⟩ := Out.bind_is ev
    obtain ⟨e3, rfl⟩ := Out.of_is ev
    refine wE_of (pe_op op_w pe_w pe_w) ?_
    refine (I.e C h2).use e1 W S hb fun v1 H1 cm1 p1 W1 r1 => ?_
    refine (I.e C h3).use e2 W1 (S.step p1.step) (p1.ble hb) fun v2 H2 cm2 p2 W2 r2 => ?_
    exact op_sound C.hK e3 (r1.step p2.step) r2 W2 fun v H' po => q v H' cm2 (po.after (p1.trans p2))
  | neg a =>
    simp only [chkE] at h
    split at h
    · simp only [evE] at ev
      obtain ⟨x, s1, e1, ev⟩ := Out.bind_is ev
      split at ev
      · rename_i i hx
        cases ev
        refine wE_of (pe_un un_neg pe_w) ?_
        refine (I.e C h).use e1 W S hb fun v1 H1 cm1 p1 W1 r1 => ?_
        rw [hx] at r1
        cases r1
        exact ⟨i, rfl, q _ H1 cm1 (Po.after p1 (po_val W1 (.int _)))⟩
      · cases ev
    · cases h
  | cmp o a d =>
    simp only [chkE] at h
    split at h
    · simp only [Bool.and_eq_true, decide_eq_true_eq] at h
      simp only [evE] at ev
      obtain ⟨y, s2, f1, ev⟩ := Out.bind_is ev
      obtain ⟨z, s3, f2, ev⟩ := Out.bind_is ev
      obtain ⟨ev, rfl⟩ := Out.of_is ev
      obtain ⟨k', e9, rfl⟩ := bl_case ev
      refine wE_of (pe_cmpR op_w pe_w pe_w (marks_of h.1.1.2)) ?_
      refine (I.e C h.1.2).use f1 W S hb fun v1 H1 cm1 p1 W1 r1 => ?_
      refine (I.e C h.2).use f2 W1 (S.step p1.step) (p1.ble hb) fun v2 H2 cm2 p2 W2 r2 => ?_
      rw [← h.1.1.1]
      exact se_cmpQ C e9 (r1.step p2.step) r2 W2 (q _ H2 cm2 (Po.after (p1.trans p2) (po_val W2 (.bl _))))
    · cases h
  | chain o o' a d f =>
    simp only [chkE] at h
    split at h
    · simp only [Bool.and_eq_true, decide_eq_true_eq] at h
      simp only [evE] at ev
      obtain ⟨y, s2, f1, ev⟩ := Out.bind_is ev
      obtain ⟨z, s3, f2, ev⟩ := Out.bind_is ev
      obtain ⟨k1, s4, f3, ev⟩ := Out.bind_is ev
      obtain ⟨f3, rfl⟩ := Out.of_is f3
      refine wE_of (pe_chain op_w op_w pe_w pe_w pe_w (by show lastMarks _ _ = false; exact marks_of h.1.1.1.2)) ?_
      refine (I.e C h.1.1.2).use f1 W S hb fun v1 H1 cm1 p1 W1 r1 => ?_
      refine (I.e C h.1.2).use f2 W1 (S.step p1.step) (p1.ble hb) fun v2 H2 cm2 p2 W2 r2 => ?_
      rw [← h.1.1.1.1.1, ← h.1.1.1.1.2]
      refine se_cmpQ C f3 (r1.step p2.step) r2 W2 ⟨k1, rfl, ?_⟩
      have p12 := p1.trans p2
      cases k1 with
      | false =>
        cases ev
        exact iteF (q _ H2 cm2 (Po.after p12 (po_val W2 (.bl _))))
      | true =>
        obtain ⟨w, s5, f4, ev⟩ := Out.bind_is ev
        obtain ⟨ev, rfl⟩ := Out.of_is ev
        obtain ⟨k', e9, rfl⟩ := bl_case ev
        refine iteT ?_
        refine (I.e C h.2).use f4 W2 (S.step p12.step) (p12.ble hb) fun v3 H3 cm3 p3 W3 r3 => ?_
        exact se_cmpQ C e9 (r2.step p3.step) r3 W3 (q _ H3 cm3 (Po.after (p12.trans p3) (po_val W3 (.bl _))))
    · cases h
  | and a d =>
    simp only [chkE] at h
    split at h
    · rename_i l r rest p
      simp only [Bool.and_eq_true] at h
      simp only [evE] at ev
      obtain ⟨x, s1, e1, ev⟩ := Out.bind_is ev
      have rhs : ∃ e' : Expr, chkE n c e' d = true ∧ PE X (.BoolOp .And (r :: rest) p) (wE X e') := by
        cases rest with
        | nil => exact ⟨r, h.2, pe_one pe_w⟩
        | cons _ _ => exact ⟨_, h.2, pe_w⟩
      obtain ⟨e', h2, pe2⟩ := rhs
      refine wE_of (pe_and pe_w pe2) ?_
      refine (I.e C h.1).use e1 W S hb fun v1 H1 cm1 p1 W1 r1 => ?_
      split at ev
      · rename_i hx
        rw [hx] at r1
        cases r1
        refine ⟨true, rfl, iteT ?_⟩
        exact I.e C h2 env s1 _ st' ev σ H1 fx cm1 W1 (S.step p1.step) (p1.ble hb) Q fun v H' cm' po => q v H' cm' (po.after p1)
      · rename_i hx
        rw [hx] at r1
        cases r1
        cases ev
        exact ⟨false, rfl, iteF (q _ H1 cm1 (Po.after p1 (po_val W1 (.bl _))))⟩
      · cases ev
    · cases h
  | or a d =>
    simp only [chkE] at h
    split at h
    · rename_i l r rest p
      simp only [Bool.and_eq_true] at h
      simp only [evE] at ev
      obtain ⟨x, s1, e1, ev⟩ := Out.bind_is ev
      have rhs : ∃ e' : Expr, chkE n c e' d = true ∧ PE X (.BoolOp .Or (r :: rest) p) (wE X e') := by
        cases rest with
        | nil => exact ⟨r, h.2, pe_one pe_w⟩
        | cons _ _ => exact ⟨_, h.2, pe_w⟩
      obtain ⟨e', h2, pe2⟩ := rhs
      refine wE_of (pe_or pe_w pe2) ?_
      refine (I.e C h.1).use e1 W S hb fun v1 H1 cm1 p1 W1 r1 => ?_
      split at ev
      · rename_i hx
        rw [hx] at r1
        cases r1
        cases ev
        exact ⟨true, rfl, iteT (q _ H1 cm1 (Po.after p1 (po_val W1 (.bl _))))⟩
      · rename_i hx
        rw [hx] at r1
        cases r1
        refine ⟨false, rfl, iteF ?_⟩
        exact I.e C h2 env s1 _ st' ev σ H1 fx cm1 W1 (S.step p1.step) (p1.ble hb) Q fun v H' cm' po => q v H' cm' (po.after p1)
      · cases ev
    · cases h
  | not a =>
    simp only [chkE] at h
    split at h
    · simp only [evE] at ev
      obtain ⟨x, s1, e1, ev⟩ := Out.bind_is ev
      split at ev
      · rename_i kk hx
        cases ev
        refine wE_of (pe_not pe_w) ?_
        refine (I.e C h).use e1 W S hb fun v1 H1 cm1 p1 W1 r1 => ?_
        rw [hx] at r1
        cases r1
        exact ⟨kk, rfl, q _ H1 cm1 (Po.after p1 (po_val W1 (.bl _)))⟩
      · cases ev
    · cases h
  | ite t a d =>
    cases e <;> simp only [chkE, Bool.false_eq_true, Bool.and_eq_true] at h
    simp only [evE] at ev
    obtain ⟨kk, s1, e1, ev⟩ := Out.bind_is ev
    refine wE_of (pe_ifExp pt_w pe_w pe_w) ?_
    refine I.t C h.1.1 env st kk s1 e1 σ H fx cm W S hb _ fun H1 cm1 p1 W1 => ?_
    cases kk with
    | true => exact iteT (I.e C h.1.2 env s1 r st' ev σ H1 fx cm1 W1 (S.step p1.step) (p1.ble hb) Q fun v H' cm' po => q v H' cm' (po.after p1))
    | false => exact iteF (I.e C h.2 env s1 r st' ev σ H1 fx cm1 W1 (S.step p1.step) (p1.ble hb) Q fun v H' cm' po => q v H' cm' (po.after p1))
  | tup es =>
    cases e <;> simp only [chkE, Bool.false_eq_true] at h
    simp only [evE] at ev
    obtain ⟨xs, s1, e1, ev⟩ := Out.bind_is ev
    split at ev
    · rename_i hl
      cases ev
      refine wE_of (pe_tup pa_w) ?_
      refine I.es C h env st xs _ e1 σ H fx cm W S hb _ fun vs H1 cm1 p1 W1 r1 => ?_
      exact ⟨by rw [r1.length]; exact le_line hl, fun p hp => q _ _ cm1 (Po.after p1 (po_tup W1 r1 hp))⟩
    · cases ev
  | lst es =>
    cases e <;> simp only [chkE, Bool.false_eq_true] at h
    simp only [evE] at ev
    obtain ⟨xs, s1, e1, ev⟩ := Out.bind_is ev
    split at ev
    · rename_i hl
      cases ev
      refine wE_of (pe_lst pa_w) ?_
      refine I.es C h env st xs _ e1 σ H fx cm W S hb _ fun vs H1 cm1 p1 W1 r1 => ?_
      exact ⟨by rw [r1.length]; exact le_line hl, fun p hp => q _ _ cm1 (Po.after p1 (po_lst W1 r1 hp))⟩
    · cases ev
  | dnewK =>
    simp only [chkE] at h
    split at h
    · cases ev
      exact wE_of pe_dnewK fun p hp => q _ _ cm (po_dk0 W hp)
    · cases h
  | dnewT =>
    simp only [chkE] at h
    split at h
    · cases ev
      exact wE_of pe_dnewT fun p hp => q _ _ cm (po_dt0 W hp)
    · cases h
  | disp kk vv =>
    simp only [chkE] at h
    split at h
    · simp only [Bool.and_eq_true] at h
      simp only [evE] at ev
      obtain ⟨x, s1, e1, ev⟩ := Out.bind_is ev
      obtain ⟨y, s2, e2, ev⟩ := Out.bind_is ev
      split at ev
      · rename_i key hkey
        cases ev
        refine wE_of (pe_disp (pps_cons pe_w pe_w pps_nil) rfl rfl (by simp) (Nat.le_of_ble_eq_true rfl)) fun p hp => ?_
        have sub : ∀ {cm' : List Addr}, ∀ a ∈ (fx ++ [p]) ++ cm', a ∈ fx ++ cm' ++ [p] := fun {cm'} a m => by
          simp only [List.mem_append, List.mem_singleton] at m ⊢
          rcases m with (m | m) | m
          · exact .inl (.inl m)
          · exact .inr m
          · exact .inl (.inr m)
        have sub2 : ∀ {cm' : List Addr}, ∀ a ∈ fx ++ cm' ++ [p], a ∈ (fx ++ [p]) ++ cm' := fun {cm'} a m => by
          simp only [List.mem_append, List.mem_singleton] at m ⊢
          rcases m with (m | m) | m
          · exact .inl (.inl m)
          · exact .inr m
          · exact .inl (.inr m)
        have W0 : Valid L (upd H p (.dK [])) ((fx ++ [p]) ++ cm) cm st := (W.new hp).less sub fun a m => List.mem_append_right _ m
        have S0 : Slots L (upd H p (.dK [])) ((fx ++ [p]) ++ cm) cm env σ := by
          have z : Slots L H ((fx ++ [p]) ++ cm) cm env σ := ⟨S.len, fun j d e => let ⟨v, h1, h2⟩ := S.at_ j d e; ⟨v, h1, swap_fx (fun a m => by
            rcases List.mem_append.mp m with m | m
            · exact .inl m
            · rw [List.mem_singleton.mp m]
              exact .inr hp) h2⟩⟩
          exact z.step (.keep (keep_new hp))
        have nD : p ∉ cm := fun z => W.nin hp (List.mem_append_right _ z)
        refine (I.e C h.1).use e1 W0 S0 hb fun v1 H1 cm1 p1 W1 r1 => ?_
        have nD1 : p ∉ cm1 := p1.step.nin nD upd_same
        have hD1 := p1.step.ext p _ nD upd_same
        refine (I.e C h.2).use e2 W1 (S0.step p1.step) (p1.ble hb) fun v2 H2 cm2 p2 W2 r2 => ?_
        have nD2 : p ∉ cm2 := p2.step.nin nD1 hD1
        have hD2 := p2.step.ext p _ nD1 hD1
        have mD : p ∈ (fx ++ [p]) ++ cm2 := by simp
        have hk : v1 = kV key := by
          generalize x.d = d at hkey r1
          cases d <;> simp only [keyOf, Option.some.injEq, reduceCtorEq] at hkey <;> subst hkey <;> cases r1 <;> rfl
        refine ⟨hD2, [(key, v2)], by rw [hk]; rfl, by simp, ?_⟩
        have st0 : Stp b H cm st (upd H p (.dK [])) cm st := .keep (keep_new hp)
        refine q _ _ cm2 ⟨(st0.trans (p1.trans p2)).updNew hp, p, rfl, hp, fun z => ?_, (W2.upd mD nD2).less sub2 fun a m => by simp [m], _, upd_same, rfl, ((Reps.one r2).upd mD).less sub2⟩
        rcases List.mem_append.mp z with z | z
        · exact W.nin hp (List.mem_append_left _ z)
        · exact nD2 z
      · cases ev
    · cases h
  | ix a i =>
    cases e <;> simp only [chkE, Bool.false_eq_true, Bool.and_eq_true] at h
    simp only [evE] at ev
    obtain ⟨x, s1, e1, ev⟩ := Out.bind_is ev
    obtain ⟨y, s2, e2, ev⟩ := Out.bind_is ev
    obtain ⟨e3, rfl⟩ := Out.of_is ev
    refine wE_of (pe_ix ix_w pe_w pe_w (plainIx_of h.1.1)) ?_
    refine (I.e C h.1.2).use e1 W S hb fun v1 H1 cm1 p1 W1 r1 => ?_
    refine (I.e C h.2).use e2 W1 (S.step p1.step) (p1.ble hb) fun v2 H2 cm2 p2 W2 r2 => ?_
    exact ix_sound C.hK C.gd C.hu1 e3 (r1.step p2.step) r2 W2 fun v H' po => q v H' cm2 (po.after (p1.trans p2))
  | sl a lo hi =>
    simp only [chkE] at h
    split at h
    · simp only [Bool.and_eq_true] at h
      simp only [evE] at ev
      obtain ⟨x, s1, e1, ev⟩ := Out.bind_is ev
      obtain ⟨l, s2, e2, ev⟩ := Out.bind_is ev
      obtain ⟨u, s3, e3, ev⟩ := Out.bind_is ev
      obtain ⟨e4, rfl⟩ := Out.of_is ev
      refine wE_of (pe_slice sl_w pe_w po_w po_w) ?_
      refine (I.e C h.1.1).use e1 W S hb fun v1 H1 cm1 p1 W1 r1 => ?_
      refine I.o C h.1.2 env s1 l s2 e2 σ H1 fx cm1 W1 (S.step p1.step) (p1.ble hb) _ fun H2 cm2 p2 W2 => ?_
      have p12 := p1.trans p2
      refine I.o C h.2 env s2 u _ e3 σ H2 fx cm2 W2 (S.step p12.step) (p12.ble hb) _ fun H3 cm3 p3 W3 => ?_
      exact sl_sound C.hK e4 ((r1.step p2.step).step p3.step) W3 fun v H' po => q v H' cm3 (po.after (p12.trans p3))
    · cases h
  | call j es =>
    simp only [chkE] at h
    split at h
    · rename_i x p xs pos
      simp only [Bool.and_eq_true, decide_eq_true_eq] at h
      obtain ⟨⟨⟨h1, h2⟩, h3⟩, h4⟩ := h
      obtain ⟨n1, n2, n3⟩ := okName_is h2
      obtain ⟨f, fd, ps, hm, hk, hbd, F⟩ := C.fns _ _ h3
      simp only [evE] at ev
      obtain ⟨ds, s1, e1, ev⟩ := Out.bind_is ev
      have fin : ∀ vs H1 cm1, Stp b H cm st H1 cm1 s1 → Valid L H1 (fx ++ cm1) cm1 s1 → Reps L H1 (fx ++ cm1) cm1 vs ds → spF L (G.fn j) (vs ++ []) H1 Q E0 := fun vs H1 cm1 p1 W1 r1 => by
        rw [List.append_nil]
        exact callR_fin ev W1 r1 (p1.ble hb) fun v H' cm' po => q v H' cm' (Po.after p1 po)
      cases xs with
      | nil =>
        refine wE_of (pe_call0 F C.room (C.gl_ h1) hm hk hbd .nil pass0 n1) ?_
        cases es with
        | cons _ _ => cases n <;> simp [chkEs] at h4
        | nil =>
          simp only [evEs, Out.ok.injEq] at e1
          obtain ⟨rfl, rfl⟩ := e1
          exact fin [] H cm .refl W .nil
      | cons e0 xs =>
        have st0 := all_star h4
        refine wE_of (pe_call F C.room (C.gl_ h1) hm hk hbd .nil pass0 pa_w n1 (star_of (st0 e0 List.mem_cons_self)) (stars_of fun e m => st0 e (List.mem_cons_of_mem _ m))) ?_
        exact I.es C h4 env st ds s1 e1 σ H fx cm W S hb _ fun vs H1 cm1 p1 W1 r1 => fin vs H1 cm1 p1 W1 r1
    · cases h
  | callS j es =>
    simp only [chkE] at h
    split at h
    · rename_i x p xs pos
      simp only [Bool.and_eq_true, decide_eq_true_eq] at h
      obtain ⟨⟨⟨h1, h2⟩, h3⟩, h4⟩ := h
      obtain ⟨n1, n2, n3⟩ := okName_is h2
      obtain ⟨f, fd, ps, hm, hk, hbd, F⟩ := C.fns _ _ h3
      simp only [evE] at ev
      obtain ⟨ds, s1, e1, ev⟩ := Out.bind_is ev
      have fin : ∀ vs H1 cm1, Stp b H cm st H1 cm1 s1 → Valid L H1 (fx ++ cm1) cm1 s1 → Reps L H1 (fx ++ cm1) cm1 vs ds → spF L (G.fn j) (vs ++ []) H1 Q E0 := fun vs H1 cm1 p1 W1 r1 => by
        rw [List.append_nil]
        simp only [snapR] at ev
        split at ev
        · rename_i hc
          split at ev
          · rename_i r0 hr
            split at ev
            · rename_i hf
              cases ev
              refine ⟨0, [], ds.map (thawA st'), [], r, [], [], hr, Nat.le_refl _, ⟨rfl, .nil, (fun a m => nomatch m), (fun a m => nomatch m), fun n o e => by simp at e⟩, thaw_reps W1 r1 hc, fun v H' cm' po => ?_⟩
              obtain rfl := po_nil po
              exact q v H' cm1 (Po.after p1 (po_call W1 po (.inr hf)))
            · cases ev
          · cases ev
        · cases ev
      cases xs with
      | nil =>
        refine wE_of (pe_call0 F C.room (C.gl_ h1) hm hk hbd .nil pass0 n1) ?_
        cases es with
        | cons _ _ => cases n <;> simp [chkEs] at h4
        | nil =>
          simp only [evEs, Out.ok.injEq] at e1
          obtain ⟨rfl, rfl⟩ := e1
          exact fin [] H cm .refl W .nil
      | cons e0 xs =>
        have st0 := all_star h4
        refine wE_of (pe_call F C.room (C.gl_ h1) hm hk hbd .nil pass0 pa_w n1 (star_of (st0 e0 List.mem_cons_self)) (stars_of fun e m => st0 e (List.mem_cons_of_mem _ m))) ?_
        exact I.es C h4 env st ds s1 e1 σ H fx cm W S hb _ fun vs H1 cm1 p1 W1 r1 => fin vs H1 cm1 p1 W1 r1
    · cases h
  | blt f es =>
    simp only [chkE] at h
    split at h
    · rename_i x p xs pos
      simp only [Bool.and_eq_true, decide_eq_true_eq] at h
      obtain ⟨⟨⟨⟨h1, rfl⟩, h3⟩, h0⟩, h4⟩ := h
      simp only [evE] at ev
      obtain ⟨ds, s1, e1, ev⟩ := Out.bind_is ev
      obtain ⟨e2, rfl⟩ := Out.of_is ev
      obtain ⟨m1, m2⟩ := bltName_ok f
      cases xs with
      | nil => exact absurd h0 (by simp)
      | cons e0 xs =>
        have st0 := all_star h4
        have args : wA X (e0 :: xs) σ H (fun vs H1 => cW X (bltV f) vs H1 Q) := I.es C h4 env st ds _ e1 σ H fx cm W S hb _ fun vs H1 cm1 p1 W1 r1 =>
          blt_sound C.hK C.calm e2 r1 W1 fun v H' po => q v H' cm1 (po.after p1)
        rcases boot_blt (f := f) with ⟨id, z1, z2⟩ | ⟨T, z1, z2⟩
        · rw [z1] at args
          exact wE_of (pe_callB call_w (C.gl_ h1) (C.blt _ h3) z2 pa_w m1 m2 (star_of (st0 e0 List.mem_cons_self)) (stars_of fun e m => st0 e (List.mem_cons_of_mem _ m))) args
        · rw [z1] at args
          exact wE_of (pe_callTy call_w (C.gl_ h1) (C.blt _ h3) z2 pa_w m1 m2 (star_of (st0 e0 List.mem_cons_self)) (stars_of fun e m => st0 e (List.mem_cons_of_mem _ m))) args
    · cases h
  | isin a t =>
    simp only [chkE] at h
    split at h
    · rename_i x p l y p2 pos
      simp only [Bool.and_eq_true, decide_eq_true_eq] at h
      obtain ⟨⟨⟨⟨⟨⟨⟨⟨h1, rfl⟩, h3⟩, h4⟩, h5⟩, rfl⟩, h7⟩, h8⟩, h9⟩ := h
      simp only [evE] at ev
      obtain ⟨z, s1, e1, ev⟩ := Out.bind_is ev
      have ev : ∃ u, tyOf s1 z.d = some u ∧ u.isB = true ∧ r = .v (.bl (isTy u t)) ∧ s1 = st' := by
        split at ev
        · rename_i u hu
          split at ev
          · rename_i hb
            cases ev
            exact ⟨u, hu, hb, rfl, rfl⟩
          · cases ev
        · cases ev
      obtain ⟨u, e2, hu, rfl, rfl⟩ := ev
      have hT : PE X (.Name (tyNm t) p2) (tC (.ty (tyN t))) := by
        have q1 : bootBuiltins (tyNm t) = some (.type (tyN t)) := by
          cases t <;> first | decide +kernel | (simp [Ty.named] at h8)
        have q2 : tyNm t ≠ "__name__" ∧ (tyNm t == ("__debug__" : Str)) = false := by
          cases t <;> first | exact ⟨by decide +kernel, by decide +kernel⟩ | (simp [Ty.named] at h8)
        exact pe_bltn (C.gl_ h5) (C.blt _ h7) q1 rfl q2.1 q2.2
      have ht : t.isB = true := by cases t <;> first | rfl | (simp [Ty.named] at h8)
      refine wE_of (pe_callB call_w (C.gl_ h1) (C.blt _ h3) (id := "isinstance") (by decide +kernel) (pa_cons pe_w (pa_cons hT pa_nil (by rfl)) (star_of h4)) (by decide +kernel) (by decide +kernel) (star_of h4) (by rfl)) ?_
      refine (I.e C h9).use e1 W S hb fun v1 H1 cm1 p1 W1 r1 => ?_
      have hq : Q (.bl (isTy u t)) H1 := q _ H1 cm1 (Po.after p1 (po_val W1 (.bl _)))
      exact isin_sound C.hK hu ht e2 r1 W1 hq
    · cases h
  | mt m a es =>
    simp only [chkE] at h
    split at h
    · rename_i l x ap xs cp
      simp only [Bool.and_eq_true, decide_eq_true_eq] at h
      obtain ⟨⟨⟨⟨⟨⟨h1, rfl⟩, h3⟩, h4⟩, h5⟩, h6⟩, h7⟩ := h
      simp only [evE] at ev
      obtain ⟨z, s1, e1, ev⟩ := Out.bind_is ev
      split at ev
      rotate_left
      · cases ev
      rename_i hil
      obtain ⟨ds, s2, e2, ev⟩ := Out.bind_is ev
      have slot : ∃ id, mtI m = id ∧ Slot "list" (mtName m) id ∧ typeOf (.builtin id) = pure (.type "method_descriptor") := by
        cases m <;> first
          | exact ⟨_, rfl, PySem.F.slot_list_append, PySem.F.type_list_append⟩
          | exact ⟨_, rfl, PySem.F.slot_list_pop, PySem.F.type_list_pop⟩
          | exact ⟨_, rfl, PySem.F.slot_list_extend, PySem.F.type_list_extend⟩
          | exact ⟨_, rfl, PySem.F.slot_list_reverse, PySem.F.type_list_reverse⟩
          | exact ⟨_, rfl, PySem.F.slot_list_clear, PySem.F.type_list_clear⟩
          | exact ⟨_, rfl, PySem.F.slot_list_index, PySem.F.type_list_index⟩
          | (simp [Mt.isL] at h1)
      obtain ⟨id, rfl, sl, ty⟩ := slot
      have tyv : ∀ {v1 H1 cm1}, Valid L H1 (fx ++ cm1) cm1 s1 → Rep L H1 (fx ++ cm1) cm1 v1 z.d → tyV X.K "list" v1 H1 := fun {v1 H1 cm1} W1 r1 => by
        unfold isLst at hil
        split at hil
        · rename_i ds' hs
          obtain ⟨a, us, rfl, _, t1, _⟩ := seq_rep W1 r1 hs
          exact .inl ⟨rfl, us, C.hK ▸ (t1 rfl).sq⟩
        · cases hil
      cases xs with
      | nil =>
        cases es with
        | cons _ _ => cases n <;> simp [chkEs] at h7
        | nil =>
          simp only [evEs, Out.ok.injEq] at e2
          obtain ⟨rfl, rfl⟩ := e2
          refine wE_of (pe_bm0 PySem.F.plainAttrs_list sl ty mt_w pe_w (noSup_of h3) (by rw [h4]; simp)) ?_
          refine (I.e C h6).use e1 W S hb fun v1 H1 cm1 p1 W1 r1 => ?_
          exact ⟨tyv W1 r1, mt_sound C.hK h1 ev r1 .nil W1 fun v H' po => q v H' cm1 (po.after p1)⟩
      | cons e0 xs =>
        have st0 := all_star h7
        have any0 : (backTo cp (starEach xs X.env)).any (·.1) = false := stars_of fun e m => st0 e (List.mem_cons_of_mem _ m)
        refine wE_of (pe_bm PySem.F.plainAttrs_list sl ty mt_w pe_w pa_w (noSup_of h3) ?_ (by rw [h4]; simp) (star_of (st0 e0 List.mem_cons_self)) any0) ?_
        · have a1 : (backTo cp (starEach (e0 :: xs) X.env)).all (fun x => !x.1) = true := stars_all st0
          rw [a1]
          simp only [backToKw, keywordEach, List.map_nil, List.all_nil, Bool.true_and, decide_eq_true_eq, List.length_cons, List.length_nil, List.isEmpty_nil, if_true]
          simp only [List.length_cons] at h5
          omega
        · refine (I.e C h6).use e1 W S hb fun v1 H1 cm1 p1 W1 r1 => ?_
          refine ⟨tyv W1 r1, ?_⟩
          refine I.es C h7 env s1 ds s2 e2 σ H1 fx cm1 W1 (S.step p1.step) (p1.ble hb) _ fun vs H2 cm2 p2 W2 r2 => ?_
          exact mt_sound C.hK h1 ev (r1.step p2.step) r2 W2 fun v H' po => q v H' cm2 (po.after (p1.trans p2))
    · cases h
  | fld a f =>
    simp only [chkE] at h
    split at h
    · rename_i l x p
      simp only [Bool.and_eq_true, decide_eq_true_eq] at h
      obtain ⟨⟨rfl, h2⟩, h3⟩ := h
      simp only [evE] at ev
      obtain ⟨z, s1, e1, ev⟩ := Out.bind_is ev
      obtain ⟨e2, rfl⟩ := Out.of_is ev
      refine wE_of (pe_fld pe_w (noSup_of h2)) ?_
      refine (I.e C h3).use e1 W S hb fun v1 H1 cm1 p1 W1 r1 => ?_
      obtain ⟨a0, j, dx, fs, v, d, hna, rfl, hH, hl, rfl, rv, _⟩ := fld_sound e2 r1 W1
      obtain ⟨k1, k2⟩ := C.na j _ hna
      exact ⟨a0, L.ca j, dx, fs, v, rfl, hH, k1, k2, hl, q v H1 cm1 ((po_val W1 rv).after p1)⟩
    · cases h
  | mcall m a es =>
    simp only [chkE] at h
    split at h
    · rename_i l x ap xs cp
      simp only [Bool.and_eq_true, decide_eq_true_eq] at h
      obtain ⟨⟨⟨⟨⟨rfl, h3⟩, h4⟩, h5⟩, h6⟩, h7⟩ := h
      simp only [evE] at ev
      obtain ⟨z, s1, e1, ev⟩ := Out.bind_is ev
      split at ev
      rotate_left
      · cases ev
      rename_i j fds hobj
      split at ev
      rotate_left
      · cases ev
      rename_i i hme hlk
      obtain ⟨ds, s2, e2, ev⟩ := Out.bind_is ev
      obtain ⟨f, fd, ps, hcl, hmt, hbd, F⟩ := C.me _ _ _ hme
      have fin : ∀ v1 vs H1 H2 cm1 cm2, Stp b H cm st H1 cm1 s1 → Rep L H1 (fx ++ cm1) cm1 v1 z.d → Stp b H1 cm1 s1 H2 cm2 s2 → Valid L H2 (fx ++ cm2) cm2 s2 → Reps L H2 (fx ++ cm2) cm2 vs ds → spF L (G.fn i) (v1 :: (vs ++ [])) H2 Q E0 := fun v1 vs H1 H2 cm1 cm2 p1 r1 p2 W2 r2 => by
        rw [List.append_nil]
        have p12 := p1.trans p2
        have rs : Reps L H2 (fx ++ cm2) cm2 (v1 :: vs) (z.d :: ds) := .cons (r1.step p2.step) r2
        exact callR_fin ev W2 rs (p12.ble hb) fun v H' cm' po => q v H' cm' (Po.after p12 po)
      have insd : ∀ {v1 H1 cm1}, Valid L H1 (fx ++ cm1) cm1 s1 → Rep L H1 (fx ++ cm1) cm1 v1 z.d → ∃ a0 dx fs, v1 = .ref a0 ∧ H1 a0 = some (.ins (L.ca j) dx fs) ∧ fs.lookup x = none := fun {v1 H1 cm1} W1 r1 => by
        obtain ⟨a0, dx, fs, rfl, g1, g2, g3⟩ := obj_rep W1 r1 hobj
        exact ⟨a0, dx, fs, rfl, g1, (lookup_rep x g2 g3).1 hlk⟩
      have hline : (ap.endLine == cp.line) = true := by rw [h4]; simp
      cases xs with
      | nil =>
        cases es with
        | cons _ _ => cases n <;> simp [chkEs] at h7
        | nil =>
          simp only [evEs, Out.ok.injEq] at e2
          obtain ⟨rfl, rfl⟩ := e2
          refine wE_of (pe_meth0 (pl := plainOf l X.env) pe_w hcl hmt F C.room hbd .nil pass0 (mcall_of (noSup_of h3) (by simp) (by simp) hline)) ?_
          refine (I.e C h6).use e1 W S hb fun v1 H1 cm1 p1 W1 r1 => ?_
          obtain ⟨a0, dx, fs, rfl, g1, g2⟩ := insd W1 r1
          exact ⟨a0, dx, fs, rfl, g1, g2, fin _ [] H1 H1 cm1 cm1 p1 r1 .refl W1 .nil⟩
      | cons e0 xs =>
        have st0 := all_star h7
        refine wE_of (pe_meth (pl := plainOf l X.env) pe_w hcl hmt F C.room hbd .nil pass0 pa_w (star_of (st0 e0 List.mem_cons_self)) (stars_of fun e m => st0 e (List.mem_cons_of_mem _ m)) (mcall_of (noSup_of h3) st0 h5 hline)) ?_
        refine (I.e C h6).use e1 W S hb fun v1 H1 cm1 p1 W1 r1 => ?_
        obtain ⟨a0, dx, fs, rfl, g1, g2⟩ := insd W1 r1
        refine ⟨a0, dx, fs, rfl, g1, g2, ?_⟩
        exact I.es C h7 env s1 ds s2 e2 σ H1 fx cm1 W1 (S.step p1.step) (p1.ble hb) _ fun vs H2 cm2 p2 W2 r2 => fin _ vs H1 H2 cm1 cm2 p1 r1 p2 W2 r2
    · cases h
  | make j es =>
    simp only [chkE] at h
    split at h
    · rename_i x p xs pos
      simp only [Bool.and_eq_true, decide_eq_true_eq] at h
      obtain ⟨⟨⟨h1, h2⟩, h3⟩, h4⟩ := h
      obtain ⟨n1, n2, n3⟩ := okName_is h2
      obtain ⟨f, fd, ps, hmk, hm, hbd, hz, F⟩ := C.cls _ _ h3
      simp only [evE] at ev
      obtain ⟨ds, s1, e1, ev⟩ := Out.bind_is ev
      obtain ⟨r0, s2, e2, ev⟩ := Out.bind_is ev
      split at ev
      rotate_left
      · cases ev
      rename_i c' fds hs2
      split at ev
      rotate_left
      · cases ev
      rename_i hcc
      simp only [Bool.and_eq_true, decide_eq_true_eq] at hcc
      obtain ⟨rfl, hcb⟩ := hcc
      cases ev
      cases k with
      | zero => rw [hz rfl] at e2; cases e2
      | succ k' =>
      have F := F k' rfl
      have fin : ∀ vs H1 cm1, Stp b H cm st H1 cm1 s1 → Valid L H1 (fx ++ cm1) cm1 s1 → Reps L H1 (fx ++ cm1) cm1 vs ds → ∀ y dy, H1 y = none → H1 dy = none → dy ≠ y →
          spF L (G.ini c') (.ref y :: (vs ++ [])) (upd (upd H1 dy (.own y)) y (.ins (L.ca c') dy [])) (fun v H2 => v = .non ∧ Q (.ref y) H2) E0 := fun vs H1 cm1 p1 W1 r1 y dy hy hdy hne => by
        rw [List.append_nil]
        refine po_mu (b := s1.length) (fx := fx) (Q := fun v H2 => spF L (G.ini c') (v :: vs) H2 (fun v' H3 => v' = .non ∧ Q v H3) E0) (made_po (b := s1.length) (c := c') W1 hy hdy hne) (Nat.le_refl _) fun v H2 cm2 po => ?_
        obtain ⟨p2, W2, r2⟩ := po.d
        have hcell : ∃ a, v = .ref a ∧ cm2[s1.length]? = some a := by cases r2 with | cell hc => exact ⟨_, rfl, hc⟩
        obtain ⟨a, rfl, hca⟩ := hcell
        refine ⟨s1.length, fx, _, _, _, s2, cm2, e2, p2.len, W2, .cons r2 (r1.step p2.step), fun v' H' cm' po3 => ?_⟩
        obtain ⟨p3, W3, r3⟩ := po3
        cases r3
        refine ⟨rfl, ?_⟩
        have hca' : cm'[s1.length]? = some a := by
          obtain ⟨ex, rfl, _⟩ := p3.step.new
          rw [List.getElem?_append_left (List.getElem?_eq_some_iff.mp hca).1]
          exact hca
        have po2 := po_frz W1 (p2.trans p3) W3 hca' hs2 (Nat.le_refl _) hcb
        exact q _ H' cm1 (Po.after p1 ⟨po2.1.less (p1.ble hb), po2.2⟩)
      cases xs with
      | nil =>
        refine wE_of (pe_make0 hmk F C.room (C.gl_ h1) hm hbd .nil pass0 n1) ?_
        cases es with
        | cons _ _ => cases n <;> simp [chkEs] at h4
        | nil =>
          simp only [evEs, Out.ok.injEq] at e1
          obtain ⟨rfl, rfl⟩ := e1
          exact fin [] H cm .refl W .nil
      | cons e0 xs =>
        have st0 := all_star h4
        refine wE_of (pe_make hmk F C.room (C.gl_ h1) hm hbd .nil pass0 pa_w n1 (star_of (st0 e0 List.mem_cons_self)) (stars_of fun e m => st0 e (List.mem_cons_of_mem _ m))) ?_
        exact I.es C h4 env st ds s1 e1 σ H fx cm W S hb _ fun vs H1 cm1 p1 W1 r1 => fin vs H1 cm1 p1 W1 r1
    · cases h
  | makeM j es =>
    simp only [chkE] at h
    split at h
    · rename_i x p xs pos
      simp only [Bool.and_eq_true, decide_eq_true_eq] at h
      obtain ⟨⟨⟨h1, h2⟩, h3⟩, h4⟩ := h
      obtain ⟨n1, n2, n3⟩ := okName_is h2
      obtain ⟨f, fd, ps, hmk, hm, hbd, hz, F⟩ := C.cls _ _ h3
      simp only [evE] at ev
      obtain ⟨ds, s1, e1, ev⟩ := Out.bind_is ev
      obtain ⟨r0, s2, e2, ev⟩ := Out.bind_is ev
      split at ev
      rotate_left
      · cases ev
      cases ev
      cases k with
      | zero => rw [hz rfl] at e2; cases e2
      | succ k' =>
      have F := F k' rfl
      have fin : ∀ vs H1 cm1, Stp b H cm st H1 cm1 s1 → Valid L H1 (fx ++ cm1) cm1 s1 → Reps L H1 (fx ++ cm1) cm1 vs ds → ∀ y dy, H1 y = none → H1 dy = none → dy ≠ y →
          spF L (G.ini j) (.ref y :: (vs ++ [])) (upd (upd H1 dy (.own y)) y (.ins (L.ca j) dy [])) (fun v H2 => v = .non ∧ Q (.ref y) H2) E0 := fun vs H1 cm1 p1 W1 r1 y dy hy hdy hne => by
        rw [List.append_nil]
        have hb1 := p1.ble hb
        refine po_mu (b := b) (fx := fx) (Q := fun v H2 => spF L (G.ini j) (v :: vs) H2 (fun v' H3 => v' = .non ∧ Q v H3) E0) (made_po (b := b) (c := j) W1 hy hdy hne) hb1 fun v H2 cm2 po => ?_
        obtain ⟨p2, W2, r2⟩ := po.d
        have hcell : ∃ a, v = .ref a ∧ cm2[s1.length]? = some a := by cases r2 with | cell hc => exact ⟨_, rfl, hc⟩
        obtain ⟨a, rfl, hca⟩ := hcell
        refine ⟨b, fx, _, _, _, st', cm2, e2, p2.ble hb1, W2, .cons r2 (r1.step p2.step), fun v' H' cm' po3 => ?_⟩
        obtain ⟨p3, W3, r3⟩ := po3
        cases r3
        refine ⟨rfl, ?_⟩
        have hca' : cm'[s1.length]? = some a := by
          obtain ⟨ex, rfl, _⟩ := p3.step.new
          rw [List.getElem?_append_left (List.getElem?_eq_some_iff.mp hca).1]
          exact hca
        exact q _ H' cm' ⟨p1.trans (p2.trans p3), W3, .cell hca'⟩
      cases xs with
      | nil =>
        refine wE_of (pe_make0 hmk F C.room (C.gl_ h1) hm hbd .nil pass0 n1) ?_
        cases es with
        | cons _ _ => cases n <;> simp [chkEs] at h4
        | nil =>
          simp only [evEs, Out.ok.injEq] at e1
          obtain ⟨rfl, rfl⟩ := e1
          exact fin [] H cm .refl W .nil
      | cons e0 xs =>
        have st0 := all_star h4
        refine wE_of (pe_make hmk F C.room (C.gl_ h1) hm hbd .nil pass0 pa_w n1 (star_of (st0 e0 List.mem_cons_self)) (stars_of fun e m => st0 e (List.mem_cons_of_mem _ m))) ?_
        exact I.es C h4 env st ds s1 e1 σ H fx cm W S hb _ fun vs H1 cm1 p1 W1 r1 => fin vs H1 cm1 p1 W1 r1
    · cases h
  | mu a =>
    simp only [chkE] at h
    simp only [evE] at ev
    obtain ⟨x, s1, e1, ev⟩ := Out.bind_is ev
    split at ev
    · rename_i o
      cases ev
      exact I.e C h env st _ s1 e1 σ H fx cm W S hb Q fun v H' cm' po => po_mu po hb q
    · cases ev
  | lc own g it t x =>
    simp only [chkE] at h
    split at h
    · rename_i el tg iter ifs scope p
      simp only [Bool.and_eq_true] at h
      obtain ⟨⟨⟨⟨⟨⟨h1, h2⟩, h3⟩, h4⟩, h5⟩, h6⟩, h7⟩ := h
      refine wE_of (pe_lc C.calm (by rw [C.hN]; exact C.nd) pi_w (by rw [C.hN, C.hs]; exact blkOk_by h1) pg_b pts_b pe_b (fold_of h3)) ?_
      exact lc_read I C h2 h4 h5 h6 h7 ev W S hb q
    · cases h
  | lc2 own vs g it t g' it' t' x => simp [chkE] at h
end
end En

set_option Elab.async false
set_option linter.all false
set_option maxRecDepth 100000
set_option maxHeartbeats 2000000
namespace En
open PySem PySem.Spec PyProof.Rows L2

def notTup : Expr → Bool
  | .Tuple .. => false | _ => true
def isName : Expr → Bool
  | .Name .. => true | _ => false
def noTL : Expr → Bool
  | .Tuple .. => false | .List .. => false | _ => true
/-- the targets are not stored from the right -/
def plainAsg (tg e : Expr) : Bool := noTL tg || notTup e
def swapOk (c : SC) (x y : Str) (a b : Expr) : Bool :=
  decide (c.sc.names.lookup x = some .local) && decide (c.sc.names.lookup y = some .local) && decide (x ≠ y) && noStar a && noStar b && !([a, b].all (foldedForSure 8)) && !([a, b].all (constantsAlone 8))
/-- name = [comprehension] -/
def chkLcA (n : Nat) (c : SC) (tg e : Expr) (own : List (Str × Nat)) (g' : IG) (it : II) (t : IC) (y : IE) : Bool := match tg, e with
  | .Name nm np, .ListComp el [⟨tg', iter, ifs, 0⟩] scope pos =>
    decide (c.sc.names.lookup nm = some .local) && (np.line == pos.line) && !(scope.names.any fun (q, k) => q == nm && (k == .local || k == .cell)) &&
    blkC c.N c.sc scope own && gIn (own.map (·.2)) g' && noSet iter && chkI n c tg' iter it && chkG n (c.blk scope) tg' g' && chkC n (c.blk scope) ifs t && chkE n (c.blk scope) el y
  | _, _ => false
def chkAx0 (n : Nat) (c : SC) (tg e : Expr) : IE → Bool
  | .lc own g' it t y => chkLcA n c tg e own g' it t y
  | .mu (.lc own g' it t y) => chkLcA n c tg e own g' it t y
  | x => noComp e && chkE n c e x
/-- a name that inner scopes read -/
def cellTg (c : SC) : Expr → Bool
  | .Name nm _ => decide (c.sc.names.lookup nm = some .cell)
  | _ => false
def chkAx (n : Nat) (c : SC) (tg e : Expr) (x : IE) : Bool := chkAx0 n c tg e x || (cellTg c tg && chkE n c e x)
/-- o.f = e -/
def chkFa (n : Nat) (c : SC) (tg e : Expr) : IG → IE → Bool
  | .fld a f, x => (match tg with
    | .Attribute o y _ => decide (y = f) && noComp e && chkE n c o a && chkE n c e x
    | _ => false)
  | _, _ => false
mutual
def chkS : Nat → SC → Stmt → IS → Bool
  | 0, _, _, _ => false
  | n + 1, c, s, .asg g x => (match s with
    | .Assign [tg] e p => (noStar tg && plainAsg tg e && chkG n c tg g && chkAx n c tg e x) || chkFa n c tg e g x
    | _ => false)
  | n + 1, c, s, .par i j x y => (match s with
    | .Assign [.Tuple [.Name a pa, .Name b pb] _ _] (.Tuple [l, r] _ _) _ => decide (c.N[i]? = some a) && decide (c.N[j]? = some b) && decide (i ≠ j) && decide (pa.line = pb.line) && swapOk c a b l r && chkE n c l x && chkE n c r y
    | _ => false)
  | n + 1, c, s, .aug i o x => (match s with
    | .AugAssign (.Name nm _) p e _ => decide (c.N[i]? = some nm) && locB c nm && decide (opOf o = p) && chkE n c e x
    | _ => false)
  | n + 1, c, s, .expr x => (match s with
    | .Expr e _ => noComp e && chkE n c e x
    | _ => false)
  | n + 1, c, s, .ret x => (match s with
    | .Return (some e) _ => chkE n c e x
    | _ => false)
  | n + 1, c, s, .retF x => (match s with
    | .Return (some e) _ => chkE n c e x
    | _ => false)
  | n + 1, c, s, .retN => (match s with
    | .Return none _ => true
    | _ => false)
  | n + 1, c, s, .ifs t a d => (match s with
    | .If e x y _ => chkT n c e t && chkSs n c x a && chkSs n c y d
    | _ => false)
  | n + 1, c, s, .while_ t a => (match s with
    | .While e x [] _ => chkT n c e t && chkSs n c x a
    | _ => false)
  | n + 1, c, s, .for_ g it a => (match s with
    | .For tg iter x [] _ => noSet iter && chkI n c tg iter it && chkG n c tg g && chkSs n c x a
    | _ => false)
  | n + 1, c, s, .brk => (match s with
    | .Break _ => true
    | _ => false)
  | n + 1, c, s, .cont => (match s with
    | .Continue _ => true
    | _ => false)
  | n + 1, c, s, .pass => (match s with
    | .Pass _ => true
    | _ => false)
  | n + 1, c, s, .never => true
def chkSs : Nat → SC → List Stmt → ISs → Bool
  | 0, _, _, _ => false
  | n + 1, c, ss, .nil => (match ss with
    | [] => true
    | _ => false)
  | n + 1, c, ss, .cons x xs => (match ss with
    | s :: ss => chkS n c s x && chkSs n c ss xs
    | _ => false)
end

def Cok (L : Lk) (fx : List Addr) (b : Nat) (H : Hp) (cm : List Addr) (st : Store) (env' : En.Env) (st' : Store) (D : Ends) : Ctl → Prop
  | .nx => ∀ σ' H' cm', Stp b H cm st H' cm' st' → Valid L H' (fx ++ cm') cm' st' → Slots L H' (fx ++ cm') cm' env' σ' → D.nx σ' H'
  | .bk => ∀ σ' H' cm', Stp b H cm st H' cm' st' → Valid L H' (fx ++ cm') cm' st' → Slots L H' (fx ++ cm') cm' env' σ' → D.bk σ' H'
  | .ct => ∀ σ' H' cm', Stp b H cm st H' cm' st' → Valid L H' (fx ++ cm') cm' st' → Slots L H' (fx ++ cm') cm' env' σ' → D.ct σ' H'
  | .ret r => ∀ v H' cm', Po L fx b H cm st v r H' cm' st' → D.rt v H'
  | .retc n => ∀ v H' cm', Stp b H cm st H' cm' st' → Valid L H' (fx ++ cm') cm' st' → Rep L H' (fx ++ cm') cm' v (.cell n) → D.rt v H'
theorem Cok.after {L : Lk} {fx : List Addr} {b : Nat} {H H1 : Hp} {cm cm1 : List Addr} {st st1 st' : Store} {env' : En.Env} {D : Ends} {c : Ctl} (h : Cok L fx b H cm st env' st' D c) (s : Stp b H cm st H1 cm1 st1) : Cok L fx b H1 cm1 st1 env' st' D c := by
  cases c with
  | nx => exact fun σ' H' cm' t => h σ' H' cm' (s.trans t)
  | bk => exact fun σ' H' cm' t => h σ' H' cm' (s.trans t)
  | ct => exact fun σ' H' cm' t => h σ' H' cm' (s.trans t)
  | ret r => exact fun v H' cm' po => h v H' cm' (po.after s)
  | retc n => exact fun v H' cm' t => h v H' cm' (s.trans t)
def SSt (L : Lk) (G : Glo) (b : Nat) (X : Cx) (s : Stmt) (x : IS) : Prop := ∀ env st c env' st', exS G b x env st = .ok (c, env') st' → ∀ σ H fx cm, Valid L H (fx ++ cm) cm st → Slots L H (fx ++ cm) cm env σ → b ≤ st.length →
  ∀ D : Ends, Cok L fx b H cm st env' st' D c → wS X s D σ H
def SSs (L : Lk) (G : Glo) (b : Nat) (X : Cx) (s : List Stmt) (x : ISs) : Prop := ∀ env st c env' st', exSs G b x env st = .ok (c, env') st' → ∀ σ H fx cm, Valid L H (fx ++ cm) cm st → Slots L H (fx ++ cm) cm env σ → b ≤ st.length →
  ∀ D : Ends, Cok L fx b H cm st env' st' D c → wSs X s D σ H

section
variable {L : Lk} {G : Glo} {k b : Nat} {X : Cx} {c : SC}
theorem CtxOk.passes (C : CtxOk L G k X c) : PassesOwn (model X.prog X.w) X.A X.env X.xe := by
  rw [C.xe]
  exact PassesOwn.never
theorem sole_cell {c : SC} {tg e : Expr} {l : Nat} {env : PySem.Env} (hs : env.scope = c.sc) (h : cellTg c tg = true) : swapsWithSole [tg] e l env = pure false := by
  cases tg <;> simp only [cellTg, decide_eq_true_eq, Bool.false_eq_true] at h
  rename_i nm np
  have k : env.kindOf nm = some .cell := by unfold PySem.Env.kindOf; rw [hs]; exact h
  unfold swapsWithSole swapsWith
  simp only [k]
  split
  · have z : (NameKind.cell == NameKind.local) = false := rfl
    simp [z]
  · rfl
theorem sole_of {tg e : Expr} {l : Nat} {env : PySem.Env} (h : noComp e = true) : swapsWithSole [tg] e l env = pure false := swap_of h
theorem stores_of {tg e : Expr} {env : PySem.Env} (h : plainAsg tg e = true) : swappedStores [tg] e env = pure none := by
  unfold plainAsg at h
  cases tg <;> cases e <;> first | rfl | (simp [notTup, noTL] at h)
theorem all_snd (L : Lk) (G : Glo) (k : Nat) : ∀ n, Snd L G k n
  | 0 => ⟨fun _ h => by simp [chkE] at h, fun _ h => by simp [chkEs] at h, fun _ h => by simp [chkT] at h, fun _ h => by simp [chkW] at h, fun _ h => by simp [chkO] at h, fun _ h => by simp [chkC] at h, fun _ h => by simp [chkI] at h, fun _ h => by simp [chkG] at h, fun _ h => by simp [chkGs] at h⟩
  | n + 1 =>
    have I := all_snd L G k n
    ⟨se_e I, se_args I, se_t I, se_w I, se_o I, se_c I, se_i I, se_g I, se_gs I⟩
structure SndS (L : Lk) (G : Glo) (k : Nat) (n : Nat) : Prop where
  s : ∀ {b X c s x}, CtxOk L G k X c → chkS n c s x = true → SSt L G b X s x
  ss : ∀ {b X c s x}, CtxOk L G k X c → chkSs n c s x = true → SSs L G b X s x
theorem ss_ss {s : List Stmt} {x : ISs} {n : Nat} (I : SndS L G k n) (C : CtxOk L G k X c) (h : chkSs (n + 1) c s x = true) : SSs L G b X s x := by
  intro env st ct env' st' ev σ H fx cm W S hb D q
  cases x with
  | nil =>
    cases s with
    | cons _ _ => simp [chkSs] at h
    | nil =>
      simp only [exSs, Out.ok.injEq, Prod.mk.injEq] at ev
      obtain ⟨⟨rfl, rfl⟩, rfl⟩ := ev
      exact wSs_of pss_nil (q σ H cm .refl W S)
  | cons x xs =>
    cases s with
    | nil => simp [chkSs] at h
    | cons s ss =>
      simp only [chkSs, Bool.and_eq_true] at h
      simp only [exSs] at ev
      obtain ⟨⟨c1, env1⟩, s1, e1, ev⟩ := Out.bind_is ev
      refine wSs_of (pss_cons ps_w pss_w) ?_
      refine I.s C h.1 env st c1 env1 s1 e1 σ H fx cm W S hb _ ?_
      cases c1 with
      | nx => exact fun σ1 H1 cm1 p1 W1 S1 => I.ss C h.2 env1 s1 ct env' st' ev σ1 H1 fx cm1 W1 S1 (p1.ble hb) D (q.after p1)
      | bk =>
        simp only [Out.ok.injEq, Prod.mk.injEq] at ev
        obtain ⟨⟨rfl, rfl⟩, rfl⟩ := ev
        exact q
      | ct =>
        simp only [Out.ok.injEq, Prod.mk.injEq] at ev
        obtain ⟨⟨rfl, rfl⟩, rfl⟩ := ev
        exact q
      | ret r =>
        simp only [Out.ok.injEq, Prod.mk.injEq] at ev
        obtain ⟨⟨rfl, rfl⟩, rfl⟩ := ev
        exact q
      | retc r =>
        simp only [Out.ok.injEq, Prod.mk.injEq] at ev
        obtain ⟨⟨rfl, rfl⟩, rfl⟩ := ev
        exact q
/-- how a body's end leads on within a loop -/
theorem turn_end {fx : List Addr} {H H1 : Hp} {cm cm1 : List Addr} {st s1 s2 st' : Store} {env1 env' : En.Env} {D : Ends} {N : L2.St → Hp → Prop} {c1 ct : Ctl} (p1 : Stp b H cm st H1 cm1 s1)
    (q : Cok L fx b H cm st env' st' D ct) (go : c1.goes = true → ∀ σ' H' cm', Stp b H1 cm1 s1 H' cm' s2 → Valid L H' (fx ++ cm') cm' s2 → Slots L H' (fx ++ cm') cm' env1 σ' → N σ' H')
    (out : c1.goes = false → ct = c1.out ∧ env' = env1 ∧ st' = s2) : Cok L fx b H1 cm1 s1 env1 s2 { D with nx := N, ct := N, bk := D.nx } c1 := by
  cases c1 with
  | nx => exact go rfl
  | ct => exact go rfl
  | bk =>
    obtain ⟨rfl, rfl, rfl⟩ := out rfl
    exact fun σ' H' cm' t => q σ' H' cm' (p1.trans t)
  | ret r =>
    obtain ⟨rfl, rfl, rfl⟩ := out rfl
    exact fun v H' cm' po => q v H' cm' (po.after p1)
  | retc r =>
    obtain ⟨rfl, rfl, rfl⟩ := out rfl
    exact fun v H' cm' t => q v H' cm' (p1.trans t)
theorem for_read {g : IG} {it : II} {a : ISs} {tg iter : Expr} {body : List Stmt} {n : Nat} (I : SndS L G k n) (C : CtxOk L G k X c) (hi : chkI n c tg iter it = true) (hg : chkG n c tg g = true) (hbd : chkSs n c body a = true)
    {env : En.Env} {st : Store} {ct : Ctl} {env' : En.Env} {st' : Store} (ev : exS G b (.for_ g it a) env st = .ok (ct, env') st') {σ : L2.St} {H : Hp} {fx cm : List Addr} (W : Valid L H (fx ++ cm) cm st) (S : Slots L H (fx ++ cm) cm env σ) (hb : b ≤ st.length)
    {D : Ends} (q : Cok L fx b H cm st env' st' D ct) : tFor (wI X tg iter) (wG X tg) (wSs X body) D σ H := by
  have J := all_snd L G k n
  simp only [exS] at ev
  obtain ⟨m, s0, e0, ev⟩ := Out.bind_is ev
  refine J.i C hi env st m s0 e0 σ H fx cm W S hb _ fun T H1 cm1 p1 W1 wk => ?_
  have S1 := S.step p1.step
  have q1 := q.after p1
  have hb1 := p1.ble hb
  cases m with
  | l ds =>
    have wk : WkD L T H1 fx cm1 ds := wk
    simp only at ev
    refine ⟨fun i mm σ' Hc => mm = ds.length - i ∧ i ≤ ds.length ∧ ∃ (cm' : List Addr) (s' : Store) (e' : En.Env), Stp b H1 cm1 s0 Hc cm' s' ∧ Valid L Hc (fx ++ cm') cm' s' ∧ Slots L Hc (fx ++ cm') cm' e' σ' ∧
      forL (fun d e1 s2 => (asG G b g d e1 s2).bind fun e2 s3 => exSs G b a e2 s3) (ds.drop i) e' s' = .ok (ct, env') st', ⟨ds.length, by simp, Nat.zero_le _, cm1, s0, env, .refl, W1, S1, by simpa using ev⟩, ?_⟩
    rintro i mm σ' Hc ⟨rfl, hle, cm', s', e', sp, Wc, Sc, el⟩
    by_cases hlt : i < ds.length
    · refine .inr ⟨wk.go i Hc cm' hlt sp.step, fun σ'' H' => ∃ (cm' : List Addr) (s' : Store) (e' : En.Env), Stp b H1 cm1 s0 H' cm' s' ∧ Valid L H' (fx ++ cm') cm' s' ∧ Slots L H' (fx ++ cm') cm' e' σ'' ∧
        forL (fun d e1 s2 => (asG G b g d e1 s2).bind fun e2 s3 => exSs G b a e2 s3) (ds.drop (i + 1)) e' s' = .ok (ct, env') st', fun σ'' H' hN => ⟨ds.length - (i + 1), by omega, rfl, hlt, hN⟩, fun x H2 hy => ?_⟩
      obtain ⟨d, hd, p2, W2, r2⟩ := wk.yld b i Hc fx cm' s' x H2 (fun a m => .inl m) hlt sp.step Wc hy
      have hdrop : ds.drop i = d :: ds.drop (i + 1) := by
        obtain ⟨h1, h2⟩ := List.getElem?_eq_some_iff.mp hd
        rw [← h2]
        exact List.drop_eq_getElem_cons h1
      rw [hdrop] at el
      simp only [forL] at el
      obtain ⟨⟨c1, env1⟩, s3, e3, el⟩ := Out.bind_is el
      obtain ⟨env2, s4, f1, f2⟩ := Out.bind_is e3
      have hb0 : b ≤ s'.length := Nat.le_trans hb1 sp.len
      have sp2 := sp.trans p2
      refine J.g C hg d e' s' env2 s4 f1 x σ' H2 fx cm' W2 (Sc.step p2.step) r2 hb0 _ fun σ3 H3 cm3 p3 W3 S3 _ => ?_
      refine I.ss C hbd env2 s4 c1 env1 s3 f2 σ3 H3 fx cm3 W3 S3 (p3.ble hb0) _ ?_
      refine turn_end (sp2.trans p3) q1 (fun hgo σ4 H4 cm4 p4 W4 S4 => ⟨cm4, s3, env1, (sp2.trans p3).trans p4, W4, S4, ?_⟩) fun hgo => ?_
      · simp only [hgo, if_true] at el
        exact el
      · simp only [hgo, Bool.false_eq_true, if_false, Out.ok.injEq, Prod.mk.injEq] at el
        exact ⟨el.1.1.symm, el.1.2.symm, el.2.symm⟩
    · have hi2 : i = ds.length := by omega
      subst hi2
      rw [List.drop_length] at el
      simp only [forL, Out.ok.injEq, Prod.mk.injEq] at el
      obtain ⟨⟨rfl, rfl⟩, rfl⟩ := el
      exact .inl ⟨wk.stop Hc cm' sp.step, q1 σ' Hc cm' sp Wc Sc⟩
  | c n0 =>
    obtain ⟨a0, ha0, rfl⟩ : ∃ a0, cm1[n0]? = some a0 ∧ T = Itl L.K a0 := wk
    simp only at ev
    refine ⟨fun i mm σ' Hc => ∃ (cm' : List Addr) (s' : Store) (e' : En.Env), Stp b H1 cm1 s0 Hc cm' s' ∧ Valid L Hc (fx ++ cm') cm' s' ∧ Slots L Hc (fx ++ cm') cm' e' σ' ∧
      forC (fun d e1 s2 => (asG G b g d e1 s2).bind fun e2 s3 => exSs G b a e2 s3) n0 mm i e' s' = .ok (ct, env') st', ⟨G.F, cm1, s0, env, .refl, W1, S1, ev⟩, ?_⟩
    rintro i mm σ' Hc ⟨cm', s', e', sp, Wc, Sc, el⟩
    have ha : cm'[n0]? = some a0 := by
      obtain ⟨ex, rfl, _⟩ := sp.step.new
      rw [List.getElem?_append_left]
      · exact ha0
      · exact (List.getElem?_eq_some_iff.mp ha0).1
    cases mm with
    | zero => simp [forC] at el
    | succ mm =>
      simp only [forC] at el
      split at el
      · rename_i ds hds
        obtain ⟨vs, hv, rv⟩ := Wc.cell hds ha
        split at el
        · rename_i hnone
          simp only [Out.ok.injEq, Prod.mk.injEq] at el
          obtain ⟨⟨rfl, rfl⟩, rfl⟩ := el
          refine .inl ⟨⟨vs, .inl (.inl hv), ?_⟩, q1 σ' Hc cm' sp Wc Sc⟩
          rw [rv.length]
          exact List.getElem?_eq_none_iff.mp hnone
        · rename_i d hd
          obtain ⟨v, hv2, r2⟩ := rv.get hd
          obtain ⟨⟨c1, env1⟩, s3, e3, el⟩ := Out.bind_is el
          obtain ⟨env2, s4, f1, f2⟩ := Out.bind_is e3
          refine .inr ⟨⟨vs, v, .inl (.inl hv), hv2⟩, fun σ'' H' => ∃ (cm' : List Addr) (s' : Store) (e' : En.Env), Stp b H1 cm1 s0 H' cm' s' ∧ Valid L H' (fx ++ cm') cm' s' ∧ Slots L H' (fx ++ cm') cm' e' σ'' ∧
            forC (fun d e1 s2 => (asG G b g d e1 s2).bind fun e2 s3 => exSs G b a e2 s3) n0 mm (i + 1) e' s' = .ok (ct, env') st', fun σ'' H' hN => ⟨mm, Nat.lt_succ_self _, hN⟩, fun x H2 hy => ?_⟩
          obtain ⟨rfl, hy⟩ := hy
          have ex := hy vs (.inl (.inl hv))
          rw [hv2] at ex
          cases ex
          have hb0 : b ≤ s'.length := Nat.le_trans hb1 sp.len
          refine J.g C hg d e' s' env2 s4 f1 _ σ' _ fx cm' Wc Sc r2 hb0 _ fun σ3 H3 cm3 p3 W3 S3 _ => ?_
          refine I.ss C hbd env2 s4 c1 env1 s3 f2 σ3 H3 fx cm3 W3 S3 (p3.ble hb0) _ ?_
          refine turn_end (sp.trans p3) q1 (fun hgo σ4 H4 cm4 p4 W4 S4 => ⟨cm4, s3, env1, (sp.trans p3).trans p4, W4, S4, ?_⟩) fun hgo => ?_
          · simp only [hgo, if_true] at el
            exact el
          · simp only [hgo, Bool.false_eq_true, if_false, Out.ok.injEq, Prod.mk.injEq] at el
            exact ⟨el.1.1.symm, el.1.2.symm, el.2.symm⟩
      · cases el

theorem swap_is {x y : Str} {px py : Pos} {l r : Expr} {k1 k2 p1 p2} (hk : X.env.scope.kind = .function) (hs : X.env.scope = c.sc) (h : swapOk c x y l r = true) (hl : px.line = py.line) :
    swappedStores [.Tuple [.Name x px, .Name y py] k1 p1] (.Tuple [l, r] k2 p2) X.env = pure (some [x, y]) := by
  unfold swapOk at h
  simp only [Bool.and_eq_true, decide_eq_true_eq, Bool.not_eq_true'] at h
  obtain ⟨⟨⟨⟨⟨⟨h1, h2⟩, h3⟩, h4⟩, h5⟩, h6⟩, h7⟩ := h
  rw [← hs] at h1 h2
  have kx : X.env.kindOf x = some .local := h1
  have ky : X.env.kindOf y = some .local := h2
  have hb : X.env.blockKind = .function := by unfold PySem.Env.blockKind; rw [hk]; rfl
  unfold swappedStores
  simp only [hb, kx, ky, Expr.pos, List.length_cons, List.length_nil, List.head?_cons, Option.map_some, Option.getD_some, List.filterMap_cons, List.filterMap_nil, hl, h6, h7]
  have hd : [x, y].eraseDups = [x, y] := by
    rw [List.eraseDups_cons]
    have : (y == x) = false := by simp; exact fun z => h3 z.symm
    simp [List.eraseDups_cons, this]
  simp [hd]
  rintro (z | z)
  · cases l <;> first | (simp [noStar] at h4; done) | (simp at z; done)
  · cases r <;> first | (simp [noStar] at h5; done) | (simp at z; done)
theorem s_asg {g : IG} {x : IE} {tg e : Expr} {p : Pos} {n : Nat} (C : CtxOk L G k X c) (h1 : noStar tg = true) (h2 : plainAsg tg e = true) (h3 : chkG n c tg g = true) (h4 : chkAx n c tg e x = true)
    {env : En.Env} {st : Store} {ct : Ctl} {env' : En.Env} {st' : Store} (ev : exS G b (.asg g x) env st = .ok (ct, env') st') {σ : L2.St} {H : Hp} {fx cm : List Addr} (W : Valid L H (fx ++ cm) cm st) (S : Slots L H (fx ++ cm) cm env σ) (hb : b ≤ st.length)
    {D : Ends} (q : Cok L fx b H cm st env' st' D ct) : wS X (.Assign [tg] e p) D σ H := by
  have J := all_snd L G k n
  simp only [exS] at ev
  obtain ⟨r, s1, e1, ev⟩ := Out.bind_is ev
  obtain ⟨en2, s2, e2, ev⟩ := Out.bind_is ev
  simp only [Out.ok.injEq, Prod.mk.injEq] at ev
  obtain ⟨⟨rfl, rfl⟩, rfl⟩ := ev
  have plain : swapsWithSole [tg] e p.line X.env = pure false → chkE n c e x = true → wS X (.Assign [tg] e p) D σ H := fun hn he => by
    refine wS_of (ps_asg pe_w pg_w hn (stores_of h2) ?_) ?_
    · rw [asg_of h1]; rfl
    refine (J.e C he).use e1 W S hb fun v H1 cm1 p1 W1 r1 => ?_
    exact J.g C h3 _ env s1 _ _ e2 v σ H1 fx cm1 W1 (S.step p1.step) r1 (p1.ble hb) _ fun σ2 H2 cm2 p2 W2 S2 _ => q σ2 H2 cm2 (p1.trans p2) W2 S2
  have lc : ∀ {own g' it t y} {r0 : R} {s0 : Store}, chkLcA n c tg e own g' it t y = true → evE G b (.lc own g' it t y) env st = .ok r0 s0 → (∀ v H' cm', Po L fx b H cm st v r0 H' cm' s0 → ∃ cm2, Po L fx b H cm st v r H' cm2 s1) → wS X (.Assign [tg] e p) D σ H := fun {own g' it t y r0 s0} h ev0 qq => by
    unfold chkLcA at h
    split at h
    · rename_i nm np el tg' iter ifs scope pos
      simp only [Bool.and_eq_true, decide_eq_true_eq, Bool.not_eq_true'] at h
      obtain ⟨⟨⟨⟨⟨⟨⟨⟨⟨k1, k2⟩, k3⟩, k4⟩, k5⟩, k6⟩, k7⟩, k8⟩, k9⟩, k10⟩ := h
      obtain ⟨i, rfl, hi⟩ : ∃ i, g = .name i ∧ c.N[i]? = some nm := by
        cases n with
        | zero => simp [chkG] at h3
        | succ n =>
          cases g with
          | name i =>
            simp only [chkG, Bool.and_eq_true, decide_eq_true_eq] at h3
            exact ⟨i, rfl, h3.1⟩
          | tup gs => simp [chkG] at h3
          | sub a i => simp [chkG] at h3
          | fld a f => simp [chkG] at h3
      simp only [asG, Out.ok.injEq] at e2
      obtain ⟨rfl, rfl⟩ := e2
      intro pins s I
      refine (ps_setLc C.calm (by rw [C.hN]; exact C.nd) (by rw [C.hN]; exact hi) (by rw [C.hs]; exact k1) (sw_true I.ok.kind (by rw [C.hs]; exact k1) k2 k3) pi_w (by rw [C.hN, C.hs]; exact blkOk_by k4) pg_b pts_b pe_b (fold_of k6)).run pins s σ H D I ?_
      refine lc_read J C k5 k7 k8 k9 k10 ev0 W S hb fun v H' cm' po => ?_
      obtain ⟨cm2, po2⟩ := qq v H' cm' po
      obtain ⟨p1, W1, r1⟩ := po2.d
      exact q _ H' cm2 p1 W1 ((S.step p1.step).set r1 i)
    · cases h
  rcases Bool.or_eq_true _ _ ▸ h4 with h4 | h4
  case inr =>
    simp only [Bool.and_eq_true] at h4
    exact plain (sole_cell C.hs h4.1) h4.2
  unfold chkAx0 at h4
  split at h4
  · exact lc h4 e1 fun v H' cm' po => ⟨cm', po⟩
  · simp only [evE] at e1
    obtain ⟨x0, s0, f1, e1⟩ := Out.bind_is e1
    split at e1
    · rename_i o
      cases e1
      exact lc h4 (by simp only [evE]; exact f1) fun v H' cm' po => po_mu (Q := fun v H' => ∃ cm2, Po L fx b H cm st v _ H' cm2 _) po hb fun v H' cm' po => ⟨cm', po⟩
    · cases e1
  · simp only [Bool.and_eq_true] at h4
    exact plain (sole_of h4.1) h4.2
theorem s_fa {g : IG} {x : IE} {tg e : Expr} {p : Pos} {n : Nat} (C : CtxOk L G k X c) (h : chkFa n c tg e g x = true)
    {env : En.Env} {st : Store} {ct : Ctl} {env' : En.Env} {st' : Store} (ev : exS G b (.asg g x) env st = .ok (ct, env') st') {σ : L2.St} {H : Hp} {fx cm : List Addr} (W : Valid L H (fx ++ cm) cm st) (S : Slots L H (fx ++ cm) cm env σ) (hb : b ≤ st.length)
    {D : Ends} (q : Cok L fx b H cm st env' st' D ct) : wS X (.Assign [tg] e p) D σ H := by
  have J := all_snd L G k n
  unfold chkFa at h
  split at h
  · rename_i a f y
    split at h
    · rename_i o z pos
      simp only [Bool.and_eq_true, decide_eq_true_eq] at h
      obtain ⟨⟨⟨rfl, h1⟩, h2⟩, h3⟩ := h
      simp only [exS] at ev
      obtain ⟨r, s1, e1, ev⟩ := Out.bind_is ev
      obtain ⟨en2, s2, e2, ev⟩ := Out.bind_is ev
      simp only [Out.ok.injEq, Prod.mk.injEq] at ev
      obtain ⟨⟨rfl, rfl⟩, rfl⟩ := ev
      simp only [asG] at e2
      obtain ⟨w, s3, e3, e2⟩ := Out.bind_is e2
      obtain ⟨_, s4, e4, e2⟩ := Out.bind_is e2
      cases e2
      refine wS_of (ps_fld pe_w pe_w (swap_of h1)) ?_
      refine (J.e C h3).use e1 W S hb fun v H1 cm1 p1 W1 r1 => ?_
      refine (J.e C h2).use e3 W1 (S.step p1.step) (p1.ble hb) fun u H2 cm2 p2 W2 r2 => ?_
      have p12 := p1.trans p2
      obtain ⟨a0, j, dx, fs, rfl, hna, hH, hl, p3, W3⟩ := setF_sound e4 r2 (r1.step p2.step) W2
      obtain ⟨k1, k2⟩ := C.na j _ hna
      exact ⟨a0, L.ca j, dx, fs, rfl, hH, k1, k2, hl, q σ _ cm2 (p12.trans p3) W3 ((S.step p12.step).step p3.step)⟩
    · cases h
  · cases h
end
end En

set_option Elab.async false
set_option linter.all false
set_option maxRecDepth 100000
set_option maxHeartbeats 2000000
namespace En
open PySem PySem.Spec PyProof.Rows L2
section
variable {L : Lk} {G : Glo} {k b : Nat} {X : Cx} {c : SC}
theorem while_read {t : IT} {a : ISs} {e : Expr} {body : List Stmt} {n : Nat} (I : SndS L G k n) (C : CtxOk L G k X c) (ht : chkT n c e t = true) (hbd : chkSs n c body a = true)
    {env : En.Env} {st : Store} {ct : Ctl} {env' : En.Env} {st' : Store} (ev : exS G b (.while_ t a) env st = .ok (ct, env') st') {σ : L2.St} {H : Hp} {fx cm : List Addr} (W : Valid L H (fx ++ cm) cm st) (S : Slots L H (fx ++ cm) cm env σ) (hb : b ≤ st.length)
    {D : Ends} (q : Cok L fx b H cm st env' st' D ct) : tWhile (wT X e) (wSs X body) D σ H := by
  have J := all_snd L G k n
  simp only [exS] at ev
  refine ⟨fun m σ' Hc => ∃ (cm' : List Addr) (s' : Store) (e' : En.Env), Stp b H cm st Hc cm' s' ∧ Valid L Hc (fx ++ cm') cm' s' ∧ Slots L Hc (fx ++ cm') cm' e' σ' ∧
      whileL (evT G b t) (exSs G b a) m e' s' = .ok (ct, env') st', ⟨G.F, cm, st, env, .refl, W, S, ev⟩, ?_⟩
  rintro m σ' Hc ⟨cm', s', e', sp, Wc, Sc, el⟩
  cases m with
  | zero => simp [whileL] at el
  | succ m =>
    simp only [whileL] at el
    obtain ⟨kk, s1, f1, el⟩ := Out.bind_is el
    have hb0 := sp.ble hb
    refine J.t C ht e' s' kk s1 f1 σ' Hc fx cm' Wc Sc hb0 _ fun H1 cm1 p1 W1 => ?_
    have S1 := Sc.step p1.step
    have sp1 := sp.trans p1
    cases kk with
    | false =>
      simp only [Bool.false_eq_true, if_false, Out.ok.injEq, Prod.mk.injEq] at el ⊢
      obtain ⟨⟨rfl, rfl⟩, rfl⟩ := el
      exact q σ' H1 cm1 sp1 W1 S1
    | true =>
      simp only [if_true] at el ⊢
      obtain ⟨⟨c1, env1⟩, s2, f2, el⟩ := Out.bind_is el
      refine ⟨fun σ'' H'' => ∃ (cm' : List Addr) (s' : Store) (e' : En.Env), Stp b H cm st H'' cm' s' ∧ Valid L H'' (fx ++ cm') cm' s' ∧ Slots L H'' (fx ++ cm') cm' e' σ'' ∧
        whileL (evT G b t) (exSs G b a) m e' s' = .ok (ct, env') st', fun σ'' H'' hN => ⟨m, Nat.lt_succ_self _, hN⟩, ?_⟩
      refine I.ss C hbd e' s1 c1 env1 s2 f2 σ' H1 fx cm1 W1 S1 (p1.ble hb0) _ ?_
      refine turn_end sp1 q (fun hgo σ4 H4 cm4 p4 W4 S4 => ⟨cm4, s2, env1, sp1.trans p4, W4, S4, ?_⟩) fun hgo => ?_
      · simp only [hgo, if_true] at el
        exact el
      · simp only [hgo, Bool.false_eq_true, if_false, Out.ok.injEq, Prod.mk.injEq] at el
        exact ⟨el.1.1.symm, el.1.2.symm, el.2.symm⟩
theorem ss_s {s : Stmt} {x : IS} {n : Nat} (I : SndS L G k n) (C : CtxOk L G k X c) (h : chkS (n + 1) c s x = true) : SSt L G b X s x := by
  intro env st ct env' st' ev σ H fx cm W S hb D q
  have J := all_snd L G k n
  cases x with
  | asg g x =>
    simp only [chkS] at h
    split at h
    · simp only [Bool.or_eq_true, Bool.and_eq_true] at h
      rcases h with h | h
      · exact s_asg C h.1.1.1 h.1.1.2 h.1.2 h.2 ev W S hb q
      · exact s_fa C h ev W S hb q
    · cases h
  | par i j x y =>
    simp only [chkS] at h
    split at h
    · rename_i na pa nb pb l r
      simp only [Bool.and_eq_true, decide_eq_true_eq] at h
      obtain ⟨⟨⟨⟨⟨⟨h1, h2⟩, h3⟩, h4⟩, h5⟩, h6⟩, h7⟩ := h
      simp only [exS] at ev
      obtain ⟨r1, s1, e1, ev⟩ := Out.bind_is ev
      obtain ⟨r2, s2, e2, ev⟩ := Out.bind_is ev
      simp only [Out.ok.injEq, Prod.mk.injEq] at ev
      obtain ⟨⟨rfl, rfl⟩, rfl⟩ := ev
      have h5' := h5
      unfold swapOk at h5'
      simp only [Bool.and_eq_true, decide_eq_true_eq, Bool.not_eq_true'] at h5'
      obtain ⟨⟨⟨⟨⟨⟨q1, q2⟩, q3⟩, q4⟩, q5⟩, q6⟩, q7⟩ := h5'
      intro pins s Iv
      refine (ps_par C.calm (by rw [C.hN]; exact C.nd) (by rw [C.hN]; exact h1) (by rw [C.hN]; exact h2) h3 (by rw [C.hs]; exact q1) (by rw [C.hs]; exact q2) (pa_cons pe_w (pa_cons pe_w pa_nil (star_of q5)) (star_of q4)) (swap_is Iv.ok.kind C.hs h5 h4)).run pins s σ H D Iv ?_
      refine (J.e C h6).use e1 W S hb fun v H1 cm1 p1 W1 v1 => ?_
      refine (J.e C h7).use e2 W1 (S.step p1.step) (p1.ble hb) fun w H2 cm2 p2 W2 v2 => ?_
      exact ⟨v, w, rfl, q _ H2 cm2 (p1.trans p2) W2 (((S.step (p1.trans p2).step).set (v1.step p2.step) i).set v2 j)⟩
    · cases h
  | aug i o x =>
    simp only [chkS] at h
    split at h
    · rename_i nm np p e pos
      simp only [Bool.and_eq_true, decide_eq_true_eq] at h
      obtain ⟨⟨⟨h1, h2⟩, h3⟩, h4⟩ := h
      subst h3
      simp only [exS] at ev
      split at ev
      · rename_i m hm
        obtain ⟨r1, s1, e1, ev⟩ := Out.bind_is ev
        split at ev
        · rename_i m2 hr
          split at ev
          · rename_i kk hk
            split at ev
            · rename_i ho
              simp only [Out.ok.injEq, Prod.mk.injEq] at ev
              obtain ⟨⟨rfl, rfl⟩, rfl⟩ := ev
              obtain ⟨v, hv, rv⟩ := S.at_ _ _ hm
              cases rv
              have l := C.loc h2
              have fin : ∀ H1 cm1, Stp b H cm st H1 cm1 s1 → Valid L H1 (fx ++ cm1) cm1 s1 → D.nx (σ.set i (some (.int kk))) H1 := fun H1 cm1 p1 W1 => q _ H1 cm1 p1 W1 ((S.step p1.step).set (.int kk) i)
              rcases ho with rfl | rfl
              · simp only [intOp, Option.some.injEq] at hk
                subst hk
                refine wS_of (ps_aug (op := .Add) (by rw [C.hN]; exact C.nd) (by rw [C.hN]; exact h1) l.1 pe_w ip_add l.2) ⟨_, hv, ?_⟩
                refine (J.e C h4).use e1 W S hb fun v H1 cm1 p1 W1 v1 => ?_
                rw [hr] at v1
                cases v1
                exact ⟨_, _, rfl, rfl, fin H1 cm1 p1 W1⟩
              · simp only [intOp, Option.some.injEq] at hk
                subst hk
                refine wS_of (ps_aug (op := .Sub) (by rw [C.hN]; exact C.nd) (by rw [C.hN]; exact h1) l.1 pe_w ip_sub l.2) ⟨_, hv, ?_⟩
                refine (J.e C h4).use e1 W S hb fun v H1 cm1 p1 W1 v1 => ?_
                rw [hr] at v1
                cases v1
                exact ⟨_, _, rfl, rfl, fin H1 cm1 p1 W1⟩
            · cases ev
          · cases ev
        · cases ev
      · cases ev
    · cases h
  | expr x =>
    simp only [chkS] at h
    split at h
    · simp only [Bool.and_eq_true] at h
      simp only [exS] at ev
      obtain ⟨r, s1, e1, ev⟩ := Out.bind_is ev
      simp only [Out.ok.injEq, Prod.mk.injEq] at ev
      obtain ⟨⟨rfl, rfl⟩, rfl⟩ := ev
      refine wS_of (ps_expr pe_w (swap_of h.1)) ?_
      exact (J.e C h.2).use e1 W S hb fun v H1 cm1 p1 W1 r1 => q σ H1 cm1 p1 W1 (S.step p1.step)
    · cases h
  | ret x =>
    simp only [chkS] at h
    split at h
    · simp only [exS] at ev
      obtain ⟨r, s1, e1, ev⟩ := Out.bind_is ev
      simp only [Out.ok.injEq, Prod.mk.injEq] at ev
      obtain ⟨⟨rfl, rfl⟩, rfl⟩ := ev
      exact wS_of (ps_ret pe_w) (J.e C h env st r s1 e1 σ H fx cm W S hb _ fun v H' cm' po => q v H' cm' po)
    · cases h
  | retF x =>
    simp only [chkS] at h
    split at h
    · simp only [exS] at ev
      obtain ⟨r, s1, e1, ev⟩ := Out.bind_is ev
      split at ev
      · simp only [Out.ok.injEq, Prod.mk.injEq] at ev
        obtain ⟨⟨rfl, rfl⟩, rfl⟩ := ev
        exact wS_of (ps_ret pe_w) ((J.e C h).use e1 W S hb fun v H' cm' p1 W1 r1 => q v H' cm' p1 W1 r1)
      · cases ev
    · cases h
  | retN =>
    simp only [chkS] at h
    split at h
    · simp only [exS, Out.ok.injEq, Prod.mk.injEq] at ev
      obtain ⟨⟨rfl, rfl⟩, rfl⟩ := ev
      exact wS_of ps_retN (q .non H cm (po_val W .non))
    · cases h
  | ifs t a d =>
    simp only [chkS] at h
    split at h
    · simp only [Bool.and_eq_true] at h
      simp only [exS] at ev
      obtain ⟨kk, s1, e1, ev⟩ := Out.bind_is ev
      refine wS_of (ps_if pt_w pss_w pss_w) ?_
      refine J.t C h.1.1 env st kk s1 e1 σ H fx cm W S hb _ fun H1 cm1 p1 W1 => ?_
      cases kk with
      | true => exact I.ss C h.1.2 env s1 ct env' st' ev σ H1 fx cm1 W1 (S.step p1.step) (p1.ble hb) D (q.after p1)
      | false => exact I.ss C h.2 env s1 ct env' st' ev σ H1 fx cm1 W1 (S.step p1.step) (p1.ble hb) D (q.after p1)
    · cases h
  | while_ t a =>
    simp only [chkS] at h
    split at h
    · simp only [Bool.and_eq_true] at h
      exact wS_of (ps_while C.passes pt_w pss_w) (while_read I C h.1 h.2 ev W S hb q)
    · cases h
  | for_ g it a =>
    simp only [chkS] at h
    split at h
    · simp only [Bool.and_eq_true] at h
      exact wS_of (ps_for C.passes C.calm pi_w pg_w pss_w (fold_of h.1.1.1)) (for_read I C h.1.1.2 h.1.2 h.2 ev W S hb q)
    · cases h
  | brk =>
    simp only [chkS] at h
    split at h
    · simp only [exS, Out.ok.injEq, Prod.mk.injEq] at ev
      obtain ⟨⟨rfl, rfl⟩, rfl⟩ := ev
      exact wS_of ps_break (q σ H cm .refl W S)
    · cases h
  | cont =>
    simp only [chkS] at h
    split at h
    · simp only [exS, Out.ok.injEq, Prod.mk.injEq] at ev
      obtain ⟨⟨rfl, rfl⟩, rfl⟩ := ev
      exact wS_of ps_continue (q σ H cm .refl W S)
    · cases h
  | pass =>
    simp only [chkS] at h
    split at h
    · simp only [exS, Out.ok.injEq, Prod.mk.injEq] at ev
      obtain ⟨⟨rfl, rfl⟩, rfl⟩ := ev
      exact wS_of ps_pass (q σ H cm .refl W S)
    · cases h
  | never => simp [exS] at ev
theorem all_sndS (L : Lk) (G : Glo) (k : Nat) : ∀ n, SndS L G k n
  | 0 => ⟨fun _ h => by simp [chkS] at h, fun _ h => by simp [chkSs] at h⟩
  | n + 1 =>
    have I := all_sndS L G k n
    ⟨ss_s I, ss_ss I⟩
end
end En

set_option Elab.async false
set_option linter.all false
set_option maxRecDepth 100000
set_option maxHeartbeats 2000000
namespace En
open PySem PySem.Spec PyProof.Rows L2
section
variable {L : Lk} {H : Hp} {fb cm : List Addr}
theorem thL_sound {f : D → Option D} {H1 : Hp} {fb' cm' fb cm : List Addr} (hf : ∀ v d d', f d = some d' → Rep L H1 fb' cm' v d → Rep L H1 fb cm v d') : ∀ {ds ds' : List D} {vs : List V}, thL f ds = some ds' → Reps L H1 fb' cm' vs ds → Reps L H1 fb cm vs ds'
  | [], ds', vs, h, r => by
    simp only [thL, Option.some.injEq] at h
    subst h
    cases r
    exact .nil
  | d :: ds, ds', vs, h, r => by
    simp only [thL] at h
    obtain ⟨x, h1, h⟩ := Option.bind_eq_some_iff.mp h
    obtain ⟨xs, h2, rfl⟩ := Option.map_eq_some_iff.mp h
    cases r with
    | cons r rs => exact .cons (hf _ _ _ h1 r) (thL_sound hf h2 rs)
theorem thK_sound {κ : Type} {f : D → Option D} {H1 : Hp} {fb' cm' fb cm : List Addr} (hf : ∀ v d d', f d = some d' → Rep L H1 fb' cm' v d → Rep L H1 fb cm v d') : ∀ {ds ds' : List (κ × D)} {vs : List V}, thK f ds = some ds' → Reps L H1 fb' cm' vs (ds.map (·.2)) → Reps L H1 fb cm vs (ds'.map (·.2)) ∧ ds.map (·.1) = ds'.map (·.1)
  | [], ds', vs, h, r => by
    simp only [thK, Option.some.injEq] at h
    subst h
    cases r
    exact ⟨.nil, rfl⟩
  | (k, d) :: ds, ds', vs, h, r => by
    simp only [thK] at h
    obtain ⟨x, h1, h⟩ := Option.bind_eq_some_iff.mp h
    obtain ⟨xs, h2, rfl⟩ := Option.map_eq_some_iff.mp h
    rw [List.map_cons] at r
    generalize hq : ds.map (·.2) = qs at r
    cases r with
    | cons r rs =>
      subst hq
      obtain ⟨q1, q2⟩ := thK_sound hf h2 rs
      exact ⟨.cons (hf _ _ _ h1 r) q1, by simp [q2]⟩
section
variable {fb' ex : List Addr} {s1 : Store}
theorem th_sound (W : Valid L H fb' (cm ++ ex) s1) (sub1 : ∀ a ∈ fb, a ∈ fb') (hex : ∀ a ∈ ex, a ∉ fb) : ∀ (k : Nat) (v : V) (d d' : D), thD s1 cm.length k d = some d' → Rep L H fb' (cm ++ ex) v d → Rep L H fb cm v d' := by
  have base : ∀ (v : V) (d d' : D), cb cm.length d = true → some d = some d' → Rep L H fb' (cm ++ ex) v d → Rep L H fb cm v d' := fun v d d' hc e r => by
    cases e
    exact ((rep_narrow_ take_idx).1 r hc).less sub1
  have nin : ∀ {a : Addr}, a ∉ fb' → a ∉ fb := fun n m => n (sub1 _ m)
  intro k
  induction k with
  | zero =>
    intro v d d' h r
    simp only [thD] at h
    split at h
    · rename_i hc
      exact base v d d' hc h r
    · cases h
  | succ k ih =>
    intro v d d' h r
    simp only [thD] at h
    split at h
    · rename_i hc
      exact base v d d' hc h r
    · rename_i hc
      split at h
      · obtain ⟨xs, h2, rfl⟩ := Option.map_eq_some_iff.mp h
        cases r with
        | tup n t r => exact .tup (nin n) t (thL_sound ih h2 r)
      · obtain ⟨xs, h2, rfl⟩ := Option.map_eq_some_iff.mp h
        cases r with
        | lst n t r => exact .lst (nin n) t (thL_sound ih h2 r)
        | kl n r => exact .kl n (thL_sound ih h2 r)
      · obtain ⟨xs, h2, rfl⟩ := Option.map_eq_some_iff.mp h
        cases r with
        | dk n t e r =>
          obtain ⟨q1, q2⟩ := thK_sound ih h2 r
          exact .dk (nin n) t (e.trans q2) q1
      · obtain ⟨xs, h2, rfl⟩ := Option.map_eq_some_iff.mp h
        cases r with
        | dt n t e r =>
          obtain ⟨q1, q2⟩ := thK_sound ih h2 r
          exact .dt (nin n) t (e.trans q2) q1
      · obtain ⟨xs, h2, rfl⟩ := Option.map_eq_some_iff.mp h
        cases r with
        | obj n t e r =>
          obtain ⟨q1, q2⟩ := thK_sound ih h2 r
          exact .obj (nin n) t (e.trans q2) q1
      · rename_i n
        simp only [cb, decide_eq_true_eq] at hc
        cases r with
        | @cell _ a ha =>
          have hm : a ∈ ex := by
            rw [List.getElem?_append_right (Nat.le_of_not_lt hc)] at ha
            exact List.mem_of_getElem? ha
          have nx := hex a hm
          split at h
          · rename_i ds hs
            obtain ⟨xs, h2, rfl⟩ := Option.map_eq_some_iff.mp h
            obtain ⟨us, g1, g2⟩ := W.cell hs ha
            exact .lst nx (.inl g1) (thL_sound ih h2 g2)
          · rename_i ds hs
            obtain ⟨xs, h2, rfl⟩ := Option.map_eq_some_iff.mp h
            obtain ⟨us, g1, g2, g3⟩ := W.cell hs ha
            obtain ⟨q1, q2⟩ := thK_sound ih h2 g3
            exact .dk nx (.inl g1) (g2.trans q2) q1
          · rename_i ds hs
            obtain ⟨xs, h2, rfl⟩ := Option.map_eq_some_iff.mp h
            obtain ⟨us, g1, g2, g3⟩ := W.cell hs ha
            obtain ⟨q1, q2⟩ := thK_sound ih h2 g3
            exact .dt nx (.inl g1) (g2.trans q2) q1
          · rename_i c ds hs
            obtain ⟨xs, h2, rfl⟩ := Option.map_eq_some_iff.mp h
            obtain ⟨dx, us, g1, g2, g3⟩ := W.cell hs ha
            obtain ⟨q1, q2⟩ := thK_sound ih h2 g3
            exact .obj nx g1 (g2.trans q2) q1
          · cases h
      · cases h
theorem thO_sound (W : Valid L H fb' (cm ++ ex) s1) (sub1 : ∀ a ∈ fb, a ∈ fb') (hex : ∀ a ∈ ex, a ∉ fb) {k : Nat} {a : Addr} {o o' : O} (h : thO s1 cm.length k o = some o') (r : ORep L H fb' (cm ++ ex) a o) : ORep L H fb cm a o' := by
  have ih := th_sound W sub1 hex k
  cases o with
  | lst ds =>
    obtain ⟨xs, h2, rfl⟩ := Option.map_eq_some_iff.mp h
    obtain ⟨us, g1, g2⟩ := r
    exact ⟨us, g1, thL_sound ih h2 g2⟩
  | dk ds =>
    obtain ⟨xs, h2, rfl⟩ := Option.map_eq_some_iff.mp h
    obtain ⟨us, g1, g2, g3⟩ := r
    obtain ⟨q1, q2⟩ := thK_sound ih h2 g3
    exact ⟨us, g1, g2.trans q2, q1⟩
  | dt ds =>
    obtain ⟨xs, h2, rfl⟩ := Option.map_eq_some_iff.mp h
    obtain ⟨us, g1, g2, g3⟩ := r
    obtain ⟨q1, q2⟩ := thK_sound ih h2 g3
    exact ⟨us, g1, g2.trans q2, q1⟩
  | ins c ds =>
    obtain ⟨xs, h2, rfl⟩ := Option.map_eq_some_iff.mp h
    obtain ⟨dx, us, g1, g2, g3⟩ := r
    obtain ⟨q1, q2⟩ := thK_sound ih h2 g3
    exact ⟨dx, us, g1, g2.trans q2, q1⟩
end
theorem end_sound {fx : List Addr} {st s1 st' : Store} {c : Ctl} {env' : En.Env} {r : R} {Q : VK} (W : Valid L H (fx ++ cm) cm st) (e : endR st.length c s1 = .ok r st')
    (q : ∀ v H', Po L fx st.length H cm st v r H' cm st' → Q v H') : Cok L fx st.length H cm st env' s1 { nx := fun _ H' => Q .non H', rt := Q } c := by
  have hlen := W.len
  have base : ∀ {H' : Hp} {cm' : List Addr}, Stp st.length H cm st H' cm' s1 → ∃ ex, cm' = cm ++ ex ∧ (∀ a ∈ ex, H a = none) ∧ OldOk cm.length s1 ∧ Stp st.length H cm st H' cm (s1.take st.length) := fun {H' cm'} p => by
    obtain ⟨ex, rfl, hx⟩ := p.step.new
    refine ⟨ex, rfl, hx, ?_, ⟨p.step.ext, ⟨[], by simp, by simp⟩, p.step.trk⟩, fun b' hb' old n o hn e => ?_, ?_⟩
    · rw [hlen]; exact p.kp _ (Nat.le_refl _) W.old
    · rw [List.getElem?_take_of_lt (Nat.lt_of_lt_of_le hn hb')] at e
      exact p.kp b' hb' old n o hn e
    · rw [List.length_take]
      have := p.len
      omega
  have sub1 : ∀ {ex : List Addr}, ∀ a ∈ fx ++ cm, a ∈ fx ++ (cm ++ ex) := fun {ex} a m => by
    rw [← List.append_assoc]; exact List.mem_append_left _ m
  have exn : ∀ {ex : List Addr}, (∀ a ∈ ex, H a = none) → ∀ a ∈ ex, a ∉ fx ++ cm := fun {ex} hx a m m2 => by
    obtain ⟨u, hu⟩ := W.trk a m2
    rw [hx a m] at hu
    cases hu
  have val : ∀ {d : D}, c = .ret (.v d) → Cok L fx st.length H cm st env' s1 { nx := fun _ H' => Q .non H', rt := Q } c := fun {d} hc => by
    subst hc
    simp only [endR] at e
    split at e
    · rename_i hcb
      cases e
      intro v H' cm' po
      obtain ⟨p, W1, r1⟩ := po.d
      obtain ⟨ex, rfl, hx, old, p2⟩ := base p
      rw [← hlen] at hcb
      refine q v H' ⟨p2, by rw [← hlen]; exact W1.cut old sub1 fun a m => List.mem_append_right _ m, ?_⟩
      exact ((rep_narrow_ take_idx).1 r1 hcb).less sub1
    · split at e
      · rename_i d' hd'
        cases e
        intro v H' cm' po
        obtain ⟨p, W1, r1⟩ := po.d
        obtain ⟨ex, rfl, hx, old, p2⟩ := base p
        refine q v H' ⟨p2, by rw [← hlen]; exact W1.cut old sub1 fun a m => List.mem_append_right _ m, ?_⟩
        rw [← hlen] at hd'
        exact th_sound W1 sub1 (exn hx) 8 v d d' hd' r1
      · cases e
  cases c with
  | nx =>
    simp only [endR, Out.ok.injEq] at e
    obtain ⟨rfl, rfl⟩ := e
    intro σ' H' cm' p W1 S1
    obtain ⟨ex, rfl, hx, old, p2⟩ := base p
    refine q .non H' ⟨p2, ?_, .non⟩
    rw [← hlen]
    exact W1.cut old sub1 fun a m => List.mem_append_right _ m
  | bk => cases e
  | ct => cases e
  | ret r0 =>
    cases r0 with
    | v d => exact val rfl
    | n o =>
      simp only [endR] at e
      split at e
      · rename_i hcb
        cases e
        intro v H' cm' po
        obtain ⟨p, a, rfl, hp, hn, W1, o1⟩ := po
        obtain ⟨ex, rfl, hx, old, p2⟩ := base p
        have s2 : ∀ z ∈ fx ++ cm ++ [a], z ∈ fx ++ (cm ++ ex) ++ [a] := fun z m => by
          rcases List.mem_append.mp m with m | m
          · exact List.mem_append_left _ (sub1 z m)
          · exact List.mem_append_right _ m
        refine q _ H' ⟨p2, a, rfl, hp, fun m => hn (sub1 a m), ?_, ?_⟩
        · rw [← hlen]
          exact W1.cut old s2 fun z m => List.mem_append_left _ (List.mem_append_right _ m)
        · rw [← hlen] at hcb
          exact (orep_narrow take_idx o1 hcb).less s2
      · split at e
        · rename_i o' ho'
          cases e
          intro v H' cm' po
          obtain ⟨p, a, rfl, hp, hn, W1, o1⟩ := po
          obtain ⟨ex, rfl, hx, old, p2⟩ := base p
          have s2 : ∀ z ∈ fx ++ cm ++ [a], z ∈ fx ++ (cm ++ ex) ++ [a] := fun z m => by
            rcases List.mem_append.mp m with m | m
            · exact List.mem_append_left _ (sub1 z m)
            · exact List.mem_append_right _ m
          refine q _ H' ⟨p2, a, rfl, hp, fun m => hn (sub1 a m), ?_, ?_⟩
          · rw [← hlen]
            exact W1.cut old s2 fun z m => List.mem_append_left _ (List.mem_append_right _ m)
          · rw [← hlen] at ho'
            refine thO_sound W1 s2 (fun z m m2 => ?_) ho' o1
            rcases List.mem_append.mp m2 with m2 | m2
            · exact exn hx z m m2
            · rw [List.mem_singleton.mp m2] at m
              exact hn (List.mem_append_right _ (List.mem_append_right _ m))
        · cases e
  | retc n =>
    simp only [endR] at e
    split at e
    · rename_i o ho
      split at e
      · rename_i hcb
        simp only [Bool.and_eq_true, decide_eq_true_eq] at hcb
        cases e
        intro v H' cm' p W1 r1
        obtain ⟨ex, rfl, hx, old, p2⟩ := base p
        cases r1 with
        | @cell _ a hc =>
          have hn : ¬ n < cm.length := by rw [hlen]; omega
          have hex : a ∈ ex := by
            rw [List.getElem?_append_right (Nat.le_of_not_lt hn)] at hc
            exact List.mem_of_getElem? hc
          have s2 : ∀ z ∈ fx ++ cm ++ [a], z ∈ fx ++ (cm ++ ex) := fun z m => by
            rcases List.mem_append.mp m with m | m
            · exact sub1 z m
            · rw [List.mem_singleton.mp m]
              exact List.mem_append_right _ (List.mem_append_right _ hex)
          refine q _ H' ⟨p2, a, rfl, hx a hex, fun m => ?_, ?_, ?_⟩
          · obtain ⟨u, hu⟩ := W.trk a m
            rw [hx a hex] at hu
            cases hu
          · rw [← hlen]
            exact W1.cut old s2 fun z m => List.mem_append_left _ (List.mem_append_right _ m)
          · have o1 := W1.cell ho hc
            rw [← hlen] at hcb
            exact (orep_narrow take_idx o1 hcb.2).less s2
      · cases e
    · cases e
end
structure DI where
  x : Str
  q : Str
  st : Stmt
  N : List Str
  d : En.Def
  keep : Bool := false
structure CI where
  nm : Str
  ini : Nat
  ms : List (Str × Nat)
structure TB where
  ds : List DI
  fns : List (Str × Nat)
  gls : List (Str × Nat)
  blt : List Str
  cls : List CI
  cnm : List (Str × Nat)
  na : List (Nat × Str)
  gl : Nat → D
  gd : Nat → List (Str × D)
  F : Nat
def fp (x : Str) (n : Nat) : Str × Nat := (x, n)
def fq (n : Nat) (x : Str) : Nat × Str := (n, x)
structure Den where
  fn : Nat → Nat → List D → Store → Out R
  ini : Nat → Nat → List D → Store → Out R
def TB.meth (T : TB) (c : Nat) (m : Str) : Option Nat := (T.cls[c]?).bind fun ci => ci.ms.lookup m
def TB.glo (T : TB) (f : Den) : Glo := { fn := f.fn, ini := f.ini, gl := T.gl, gd := T.gd, me := T.meth, na := fun c x => decide ((c, x) ∈ T.na), F := T.F }
def DI.run (i : DI) (G : Glo) (b : Nat) : List D → Store → Out R := if i.keep then runK G b i.d else runF G i.d
def TB.lev (T : TB) : Nat → Den × (Nat → Nat → List D → Store → Out R)
  | 0 => (⟨fun _ _ _ _ => .no, fun _ _ _ _ => .no⟩, fun _ _ _ _ => .no)
  | k + 1 => (⟨fun j b xs s => (match T.ds[j]? with
      | some i => i.run (T.glo (T.lev k).1) b xs s
      | none => .no), (T.lev k).2⟩,
    fun c b xs s => (match (T.cls[c]?).bind fun ci => T.ds[ci.ini]? with
      | some i => runK (T.glo (T.lev k).1) b i.d xs s
      | none => .no))
def TB.den (T : TB) (k : Nat) : Den := (T.lev k).1
theorem den_succ {T : TB} {j : Nat} {i : DI} (h : T.ds[j]? = some i) (k b : Nat) : (T.den (k + 1)).fn j b = i.run (T.glo (T.den k)) b := by
  funext xs s
  simp only [TB.den, TB.lev, h]
theorem ini_succ {T : TB} {c : Nat} {ci : CI} {i : DI} (h : T.cls[c]? = some ci) (h2 : T.ds[ci.ini]? = some i) (k b : Nat) : (T.den (k + 2)).ini c b = runK (T.glo (T.den k)) b i.d := by
  funext xs s
  simp only [TB.den, TB.lev, h, Option.bind_some, h2]
def DI.ps (i : DI) : List Str := i.N.take i.d.params
def TB.sc (T : TB) (i : DI) : SC := { N := i.N, sc := defScope i.st, fnc := fun _ => true, fns := T.fns, gls := T.gls, cls := T.cnm, blt := T.blt }
def scB (N P : List Str) (sc : Scope) : Bool :=
  decide (sc.kind = .function) && !sc.isCoroutine && !sc.isGenerator && decide N.Nodup && decide (N.take P.length = P) && P.all (fun x => decide (sc.names.lookup x = some .local) || decide (sc.names.lookup x = some .cell)) && sc.names.all (fun y => !decide (y.2 = .free))
theorem scope_by {N P : List Str} {sc : Scope} (h : scB N P sc = true) : FnScope N P sc := by
  unfold scB at h
  simp only [Bool.and_eq_true, Bool.not_eq_true', decide_eq_true_eq, List.all_eq_true, Bool.or_eq_true, decide_eq_false_iff_not] at h
  obtain ⟨⟨⟨⟨⟨⟨h1, h2⟩, h3⟩, h4⟩, h5⟩, h6⟩, h7⟩ := h
  exact ⟨h1, h2, h3, h4, h5, h6, h7⟩
def chkD (T : TB) (n : Nat) (i : DI) : Bool := scB i.N i.ps (defScope i.st) && decide (i.N.length = i.d.slots) && decide (i.d.params ≤ i.d.slots) && chkSs n (T.sc i) (defBody i.st) i.d.body
def chkT' (T : TB) (n : Nat) : Bool := T.fns.all (fun p => decide (p.2 < T.ds.length)) && T.cnm.all (fun p => ((T.cls[p.2]?).bind fun ci => T.ds[ci.ini]?).isSome) && T.cls.all (fun ci => ci.ms.all fun p => decide (p.2 < T.ds.length)) && T.ds.all (chkD T n)
/-- what the program's top has written -/
structure Txt (L : Lk) (T : TB) (fa : Nat → Addr) (w : World) (K : PySem.W.Frag) (mg : Str → Option Value) : Prop where
  hK : K = L.K
  df : ∀ j i, T.ds[j]? = some i → ∃ fd, Fun K i.x i.q i.st (fa j) fd ∧ Binds K fd i.ps []
  fn : ∀ p ∈ T.fns, mg p.1 = some (.ref (fa p.2))
  gls : ∀ x j, (x, j) ∈ T.gls → ∃ u v, mg x = some u ∧ RelV v u ∧ ∀ (H : Hp) (fb cm : List Addr), Rep L H fb cm v (T.gl j)
  blt : ∀ x ∈ T.blt, mg x = none
  gd : GdOk L w T.gd
  cn : ∀ p ∈ T.cnm, mg p.1 = some (.ref (L.ca p.2))
  mks : ∀ c ci, T.cls[c]? = some ci → Cls K (L.ca c) ∧ Mk K (L.ca c) (fa ci.ini) ∧ ∀ p ∈ ci.ms, Meth K (L.ca c) p.1 (fa p.2)
  na : ∀ p ∈ T.na, Cls K (L.ca p.1) ∧ NoAttr K (L.ca p.1) p.2
theorem env_start {L : Lk} {H : Hp} {fb cm : List Addr} {N : List Str} {d : En.Def} {vs : List V} {ds : List D} (h : Reps L H fb cm vs ds) (hN : N.length = d.slots) : Slots L H fb cm (envOf d ds) (L2.start N vs) := by
  have hl := h.length
  refine ⟨by simp [envOf, L2.start, hN, hl], fun i x e => ?_⟩
  unfold envOf at e
  by_cases hi : i < ds.length
  · rw [List.getElem?_append_left (by simpa using hi), List.getElem?_map] at e
    simp only [Option.map_eq_some_iff, Option.some.injEq, exists_eq_right] at e
    obtain ⟨v, h1, h2⟩ := h.get e
    refine ⟨v, ?_, h2⟩
    unfold L2.start
    rw [List.getElem?_append_left (by simpa [hl] using hi), List.getElem?_map, h1]
    rfl
  · rw [List.getElem?_append_right (by simp; omega), List.getElem?_replicate] at e
    split at e <;> cases e
section
variable {P : Program} {w : World} {K : PySem.W.Frag} {mg : Str → Option Value} {base : Heap} {L : Lk} {T : TB} {fa : Nat → Addr}
def PF (P : Program) (w : World) (K : PySem.W.Frag) (mg : Str → Option Value) (base : Heap) (L : Lk) (T : TB) (fa : Nat → Addr) (k : Nat) : Prop := ∀ j i fd, T.ds[j]? = some i → Fun K i.x i.q i.st (fa j) fd → FnOk P w K mg base CX0 k (fa j) fd i.ps (spF L ((T.den k).fn j))
def PI' (P : Program) (w : World) (K : PySem.W.Frag) (mg : Str → Option Value) (base : Heap) (L : Lk) (T : TB) (fa : Nat → Addr) (k : Nat) : Prop := ∀ c ci i fd, T.cls[c]? = some ci → T.ds[ci.ini]? = some i → Fun K i.x i.q i.st (fa ci.ini) fd → FnOk P w K mg base CX0 k (fa ci.ini) fd i.ps (spF L ((T.lev k).2 c))
theorem ctx_ok (X : Txt L T fa w K mg) {n : Nat} (c : chkT' T n = true) {k : Nat} (h1 : PF P w K mg base L T fa k) (h2 : ∀ k', k = k' + 1 → PI' P w K mg base L T fa k') {i : DI} (S : FnScope i.N i.ps (defScope i.st)) {f : Addr} {cdv : Value} {A : Around} {outer : List PySem.Env} {s : Shared} {H : Hp} {E : XK}
    (hr : Room k (A.deeper (envOfC i.q (defScope i.st) s.heap.objs.size f cdv))) : CtxOk L (T.glo (T.den k)) k (cxOf CX0 P w K mg base i.N i.q (defScope i.st) f cdv A outer s H E).nox (T.sc i) := by
  unfold chkT' at c
  simp only [Bool.and_eq_true, List.all_eq_true, decide_eq_true_eq] at c
  exact {
    hN := rfl
    nd := S.nd
    hs := rfl
    fn := rfl
    calm := rfl
    room := hr
    xe := rfl
    hK := X.hK
    fns := fun x j m => by
      have hx := c.1.1.1 (x, j) m
      obtain ⟨fd, F, B⟩ := X.df j _ (List.getElem?_eq_getElem hx)
      exact ⟨fa j, fd, _, X.fn _ m, F.kp, B, h1 j _ fd (List.getElem?_eq_getElem hx) F⟩
    gls := X.gls
    blt := X.blt
    gd := X.gd
    cls := fun x j m => by
      have hx := c.1.1.2 (x, j) m
      obtain ⟨i', hi'⟩ := Option.isSome_iff_exists.mp hx
      obtain ⟨ci, hci, hi'⟩ := Option.bind_eq_some_iff.mp hi'
      obtain ⟨fd, F, B⟩ := X.df ci.ini _ hi'
      refine ⟨fa ci.ini, fd, _, (X.mks j ci hci).2.1, X.cn _ m, B, fun hz => ?_, fun k' hk => ?_⟩
      · subst hz
        intros
        rfl
      · subst hk
        exact h2 k' rfl j ci i' fd hci hi' F
    me := fun j m i' h => by
      have h : (T.cls[j]?).bind (fun ci => ci.ms.lookup m) = some i' := h
      obtain ⟨ci, hci, hl⟩ := Option.bind_eq_some_iff.mp h
      have hmem : (m, i') ∈ ci.ms := by
        have : ∀ l : List (Str × Nat), l.lookup m = some i' → (m, i') ∈ l := fun l => by
          induction l with
          | nil => intro h; cases h
          | cons p l ih =>
            intro h
            obtain ⟨a, b⟩ := p
            rw [List.lookup_cons] at h
            by_cases hb : m = a
            · subst hb
              simp at h
              subst h
              exact List.mem_cons_self
            · have : (m == a) = false := by simpa using hb
              rw [this] at h
              exact List.mem_cons_of_mem _ (ih h)
        exact this _ hl
      have hx := c.1.2 ci (List.mem_of_getElem? hci) _ hmem
      obtain ⟨fd, F, B⟩ := X.df i' _ (List.getElem?_eq_getElem hx)
      obtain ⟨q1, q2, q3⟩ := X.mks j ci hci
      exact ⟨fa i', fd, _, q1, q3 _ hmem, B, h1 i' _ fd (List.getElem?_eq_getElem hx) F⟩
    na := fun j f h => X.na (j, f) (by
      have h : decide ((j, f) ∈ T.na) = true := h
      exact of_decide_eq_true h) }
/-- a def keeps its promise, in both ways -/
theorem run_ok (X : Txt L T fa w K mg) {n : Nat} (c : chkT' T n = true) {k : Nat} (h1 : PF P w K mg base L T fa k) (h2 : ∀ k', k = k' + 1 → PI' P w K mg base L T fa k') {j : Nat} {i : DI} {f : Addr} {fd : FuncData} (hj : T.ds[j]? = some i) (F : Fun K i.x i.q i.st f fd)
    {g : Nat → List D → Store → Out R} (hg : (∀ b, g b = runF (T.glo (T.den k)) i.d) ∨ ∀ b, g b = runK (T.glo (T.den k)) b i.d) : FnOk P w K mg base CX0 (k + 1) f fd i.ps (spF L g) := by
  have cT := c
  unfold chkT' at c
  simp only [Bool.and_eq_true, List.all_eq_true, decide_eq_true_eq] at c
  have ci := c.2 i (List.mem_of_getElem? hj)
  unfold chkD at ci
  simp only [Bool.and_eq_true, decide_eq_true_eq] at ci
  obtain ⟨⟨⟨c1, c2⟩, c3⟩, c4⟩ := ci
  have S := scope_by c1
  have lenF : ∀ {ds st r st'}, runF (T.glo (T.den k)) i.d ds st = .ok r st' → ds.length = i.d.params := fun {ds st r st'} e => by
    unfold runF at e
    split at e
    · assumption
    · cases e
  have lenK : ∀ {b ds st r st'}, runK (T.glo (T.den k)) b i.d ds st = .ok r st' → ds.length = i.d.params := fun {b ds st r st'} e => by
    unfold runK at e
    split at e
    · assumption
    · cases e
  have len : ∀ {b ds st r st'}, g b ds st = .ok r st' → ds.length = i.d.params := fun {b ds st r st'} e => by
    rcases hg with hg | hg
    · rw [hg] at e; exact lenF e
    · rw [hg] at e; exact lenK e
  refine F.ok S (fun vs H Q E ⟨b, fx, ds, st, r, st', cm, e, hb, W, rs, _⟩ => ?_) fun cdv A outer s H vs Q E hr ⟨b, fx, ds, st, r, st', cm, e, hb, W, rs, q⟩ => ⟨_, pss_w, ?_⟩
  · rw [rs.length, len e, DI.ps, List.length_take, c2]
    omega
  · have C := ctx_ok (base := base) X cT h1 h2 S hr (E := E) (H := H) (outer := outer)
    have hl := len e
    rcases hg with hg | hg
    · rw [hg] at e
      unfold runF at e
      rw [if_pos hl] at e
      obtain ⟨⟨ct, env'⟩, s1, e1, e2⟩ := Out.bind_is e
      exact (all_sndS L (T.glo (T.den k)) k n).ss C c4 (envOf i.d ds) st ct env' s1 e1 (L2.start i.N vs) H fx cm W (env_start rs c2) (Nat.le_refl _) _ (end_sound W e2 fun v H' po => q v H' cm ⟨po.1.less hb, po.2⟩)
    · rw [hg] at e
      unfold runK at e
      rw [if_pos hl] at e
      obtain ⟨⟨ct, env'⟩, s1, e1, e2⟩ := Out.bind_is e
      refine (all_sndS L (T.glo (T.den k)) k n).ss C c4 (envOf i.d ds) st ct env' s1 e1 (L2.start i.N vs) H fx cm W (env_start rs c2) hb _ ?_
      cases ct with
      | nx =>
        cases e2
        exact fun σ' H' cm' p W' S' => q .non H' cm' ⟨p, W', .non⟩
      | ret r0 =>
        cases e2
        exact fun v H' cm' po => q v H' cm' po
      | bk => cases e2
      | ct => cases e2
      | retc n => cases e2
theorem pf_ok (X : Txt L T fa w K mg) {n : Nat} (c : chkT' T n = true) {k : Nat} (h1 : PF P w K mg base L T fa k) (h2 : ∀ k', k = k' + 1 → PI' P w K mg base L T fa k') : PF P w K mg base L T fa (k + 1) := fun j i fd hj F =>
  run_ok X c h1 h2 hj F (by
    cases hk : i.keep with
    | false => exact .inl fun b => by rw [den_succ hj, DI.run, hk]; rfl
    | true => exact .inr fun b => by rw [den_succ hj, DI.run, hk]; rfl)
theorem pi_ok (X : Txt L T fa w K mg) {n : Nat} (c : chkT' T n = true) {k : Nat} (h1 : PF P w K mg base L T fa k) (h2 : ∀ k', k = k' + 1 → PI' P w K mg base L T fa k') : PI' P w K mg base L T fa (k + 1) := fun cl ci i fd hc hj F =>
  run_ok X c h1 h2 hj F (.inr fun b => by
    funext xs s
    simp only [TB.lev, hc, Option.bind_some, hj]
    rfl)
theorem tab_all (X : Txt L T fa w K mg) {n : Nat} (c : chkT' T n = true) : ∀ k : Nat, PF P w K mg base L T fa k ∧ PI' P w K mg base L T fa k ∧ ∀ k', k = k' + 1 → PI' P w K mg base L T fa k'
  | 0 => ⟨fun j i fd hj F => ⟨fun vs H Q E z => (by obtain ⟨b, fx, ds, st, r, st', cm, e, _⟩ := z; cases e), fun A outer s H args us vs Q E hr he hb hv z => by obtain ⟨b, fx, ds, st, r, st', cm, e, _⟩ := z; cases e⟩,
    fun cl ci i fd hc hj F => ⟨fun vs H Q E z => (by obtain ⟨b, fx, ds, st, r, st', cm, e, _⟩ := z; cases e), fun A outer s H args us vs Q E hr he hb hv z => by obtain ⟨b, fx, ds, st, r, st', cm, e, _⟩ := z; cases e⟩, fun k' h => nomatch h⟩
  | k + 1 => by
    obtain ⟨i1, i2, i3⟩ := tab_all X c k
    exact ⟨pf_ok X c i1 i3, pi_ok X c i1 i3, fun k' h => by cases h; exact i2⟩
/-- lists of the text have no slots -/
def noSlots (K : PySem.W.Frag) : Bool := K.all fun p => match p.2.cls with
  | .type n => !(n == "list") || p.2.slots.isEmpty
  | _ => true
theorem look_all {K : PySem.W.Frag} {a : Addr} {o : Obj} {q : Addr × Obj → Bool} : K.all q = true → K.lookup a = some o → q (a, o) = true := by
  induction K with
  | nil => intro _ h; cases h
  | cons p K ih =>
    intro h e
    simp only [List.all_cons, Bool.and_eq_true] at h
    obtain ⟨b, u⟩ := p
    rw [List.lookup_cons] at e
    by_cases hb : a = b
    · subst hb
      simp only [beq_self_eq_true, Option.some.injEq] at e
      subst e
      exact h.1
    · have : (a == b) = false := by simpa using hb
      rw [this] at e
      exact ih h.2 e
def spLaw (K : PySem.W.Frag) (n : Nat) : Sp := fun vs H Q _ => ∃ (a : Addr) (ns : List Int), vs = [.ref a] ∧ SqL K H a (ns.map V.int) ∧ ns.length ≤ n ∧ ∀ H', Q (.bl true) H'
theorem Reps.ints {H : Hp} {fb cm : List Addr} : ∀ ns : List Int, Reps L H fb cm (ns.map V.int) (ns.map D.int)
  | [] => .nil
  | i :: ns => .cons (.int i) (Reps.ints ns)
theorem law_ok (X : Txt L T fa w K mg) {n k j m : Nat} (c : chkT' T n = true) (hs : noSlots K = true) {i : DI} {fd : FuncData} (hj : T.ds[j]? = some i) (F : Fun K i.x i.q i.st (fa j) fd)
    (math : ∀ ns : List Int, ns.length ≤ m → ∃ s, (T.den k).fn j 0 [.lst (ns.map .int)] [] = .ok (.v (.bl true)) s) : FnOk P w K mg base CX0 k (fa j) fd i.ps (spLaw K m) := by
  refine ((tab_all X c k).1 j i fd hj F).imp fun vs H Q E ⟨a, ns, e1, hS, hl, q⟩ => ?_
  subst e1
  obtain ⟨s, ev⟩ := math ns hl
  have W : Valid L H ([] ++ []) [] [] := ⟨rfl, .nil, (fun a m => nomatch m), (fun a m => nomatch m), fun n o e => by simp at e⟩
  refine ⟨0, [], [.lst (ns.map .int)], [], .v (.bl true), s, [], ev, Nat.le_refl _, W, .one ?_, fun v H' cm' po => ?_⟩
  · rcases hS with z | ⟨o, its, nn, h1, h2, h3, h4, h5, h6⟩
    · exact .lst (by simp) z (Reps.ints ns)
    · refine .kl ⟨its, nn, ?_, h5, h6⟩ (Reps.ints ns)
      have hz := look_all hs h1
      obtain ⟨c, d, da, sl⟩ := o
      cases h2; cases h3; cases h4
      simp at hz
      subst hz
      rw [← X.hK]
      exact h1
  · obtain ⟨_, _, r⟩ := po
    cases r
    exact q H'
end
end En

set_option Elab.async false
set_option linter.all false
set_option maxRecDepth 100000
set_option maxHeartbeats 4000000
namespace En
open PySem PySem.Spec PyProof.Rows L2
def cDraw : En.Def := { slots := 4, params := 2, body :=
    (.cons (.ifs (.e (.cmp .gt (.ix (.var 0) (.int 1)) (.int 1))) (.cons (.asg (.name 2) (.op .mod (.blt .int1 (.cons (.ix (.var 0) (.int 1)) .nil)) (.var 1)))
    (.cons (.asg (.sub (.var 0) (.int 1)) (.op .fdiv (.ix (.var 0) (.int 1)) (.var 1)))
    (.cons (.ret (.var 2))
    .nil))) .nil)
    (.cons (.asg (.sub (.var 0) (.int 2)) (.op .add (.ix (.var 0) (.int 2)) (.int 1)))
    (.cons (.asg (.name 3) (.op .mod (.blt .int1 (.cons (.op .add (.op .mod (.blt .int1 (.cons (.ix (.var 0) (.int 0)) .nil)) (.int 2147483647)) (.op .mul (.int 69621) (.ix (.var 0) (.int 2)))) .nil)) (.int 2147483647)))
    (.cons (.asg (.name 3) (.op .mod (.blt .int1 (.cons (.op .add (.op .add (.op .mul (.var 3) (.var 3)) (.op .mul (.int 48271) (.ix (.var 0) (.int 2)))) (.int 11)) .nil)) (.int 2147483629)))
    (.cons (.asg (.name 3) (.op .mod (.blt .int1 (.cons (.op .add (.op .mul (.var 3) (.var 3)) (.op .mod (.blt .int1 (.cons (.ix (.var 0) (.int 0)) .nil)) (.int 1000003))) .nil)) (.int 2147483587)))
    (.cons (.ret (.op .mod (.blt .int1 (.cons (.var 3) .nil)) (.var 1)))
    .nil)))))) }
theorem at3_0 {α : Type} (x y z : α) : atI [x, y, z] 0 = some x := rfl
theorem at3_1 {α : Type} (x y z : α) : atI [x, y, z] 1 = some y := rfl
theorem at3_2 {α : Type} (x y z : α) : atI [x, y, z] 2 = some z := rfl
theorem ix3_1 : ixN 3 1 = some 1 := rfl
theorem ix3_2 : ixN 3 2 = some 2 := rfl
theorem fmod_nn (a : Int) {m : Int} (h : 0 < m) : 0 ≤ a.fmod m ∧ a.fmod m < m := by
  rw [Int.fmod_eq_emod_of_nonneg _ (Int.le_of_lt h)]
  exact ⟨Int.emod_nonneg _ (by omega), Int.emod_lt_of_pos _ h⟩
theorem intOp_add (i j : Int) : intOp .add i j = some (i + j) := rfl
theorem intOp_sub (i j : Int) : intOp .sub i j = some (i - j) := rfl
theorem cmul_l {i : Int} (j : Int) (h1 : -18446744073709551616 < i) (h2 : i < 18446744073709551616) : CMulD i j = true := by
  unfold CMulD
  rw [decide_eq_true_eq]
  left
  have : (2 : Int) ^ 64 = 18446744073709551616 := by decide
  omega
theorem intOp_mul {i j : Int} (h1 : -18446744073709551616 < i) (h2 : i < 18446744073709551616) : intOp .mul i j = some (i * j) := by
  simp only [intOp, cmul_l j h1 h2, if_true]
theorem intOp_mod (i : Int) {j : Int} (h : j ≠ 0) : intOp .mod i j = some (i.fmod j) := by simp [intOp, h]
theorem mul_fm (x y : Int) {m : Int} (h : 0 < m) (h2 : m < 4294967296) : intOp .mul (x.fmod m) y = some (x.fmod m * y) := by
  have := fmod_nn x h
  exact intOp_mul (by omega) (by omega)
def drawA (c t : Int) : Int := (c.fmod 2147483647 + 69621 * t).fmod 2147483647
def drawB (c t : Int) : Int := (drawA c t * drawA c t + 48271 * t + 11).fmod 2147483629
def drawC (c t : Int) : Int := (drawB c t * drawB c t + c.fmod 1000003).fmod 2147483587
theorem mul_A (c t y : Int) : intOp .mul (drawA c t) y = some (drawA c t * y) := mul_fm _ _ (by decide) (by decide)
theorem mul_B (c t y : Int) : intOp .mul (drawB c t) y = some (drawB c t * y) := mul_fm _ _ (by decide) (by decide)
theorem draw_run (G : Glo) {c r t m : Int} {s : Store} (hm : 0 < m) (hm2 : m < 1000000000) : ∃ g c' r' t' : Int, 0 ≤ g ∧ g < m ∧
    runF G cDraw [.cell 0, .int m] (.lst [.int c, .int r, .int t] :: s) = .ok (.v (.int g)) (.lst [.int c', .int r', .int t'] :: s) := by
  have hne : m ≠ 0 := by omega
  have hna : m.natAbs < 1073741824 := by omega
  by_cases hr : (1 : Int) < r
  · refine ⟨r.fmod m, c, r.fdiv m, t, (fmod_nn _ hm).1, (fmod_nn _ hm).2, ?_⟩
    simp [runF, cDraw, envOf, exSs, exS, evT, evE, evEs, asG, ixR, seqOf, at3_0, at3_1, at3_2, cmpR, intCmp, hr, tru, opR, intOp, bltR, hne, hna, setR, ix3_1, okW, cb, endR]
  · refine ⟨(drawC c (t + 1)).fmod m, c, r, t + 1, (fmod_nn _ hm).1, (fmod_nn _ hm).2, ?_⟩
    have m1 : ∀ y, intOp .mul 69621 y = some (69621 * y) := fun y => intOp_mul (by decide) (by decide)
    have m2 : ∀ y, intOp .mul 48271 y = some (48271 * y) := fun y => intOp_mul (by decide) (by decide)
    have eA : (c.fmod 2147483647 + 69621 * (t + 1)).fmod 2147483647 = drawA c (t + 1) := rfl
    have eB : (drawA c (t + 1) * drawA c (t + 1) + 48271 * (t + 1) + 11).fmod 2147483629 = drawB c (t + 1) := rfl
    have eC : (drawB c (t + 1) * drawB c (t + 1) + c.fmod 1000003).fmod 2147483587 = drawC c (t + 1) := rfl
    simp [runF, cDraw, envOf, exSs, exS, evT, evE, evEs, asG, ixR, seqOf, at3_0, at3_1, at3_2, cmpR, intCmp, hr, tru, opR, intOp_add, intOp_mod, m1, m2, mul_A, mul_B, eA, eB, eC, bltR, hne, hna, setR, ix3_2, okW, cb, endR]

def cPool : En.Def := { slots := 4, params := 2, body :=
    (.cons (.asg (.name 2) (.int 0))
    (.cons (.ifs (.e (.cmp .lt (.var 1) (.blt .len (.cons (.var 0) .nil)))) (.cons (.asg (.name 2) (.blt .abs (.cons (.blt .int1 (.cons (.ix (.var 0) (.var 1)) .nil)) .nil)))
    .nil) .nil)
    (.cons (.asg (.name 3) (.int 0))
    (.cons (.ifs (.e (.cmp .ge (.var 2) (.op .pow (.int 10) (.int 18)))) (.cons (.asg (.name 3) (.var 2))
    .nil) .nil)
    (.cons (.ret (.lst (.cons (.var 2) (.cons (.var 3) (.cons (.int 0) .nil)))))
    .nil))))) }
theorem cbs_ints (b : Nat) (ns : List Int) : cbs b (ns.map D.int) = true := by
  induction ns with
  | nil => rfl
  | cons n ns ih => simp [cbs, cb, ih]
theorem pool_run (G : Glo) {ns : List Int} {p : Nat} : ∃ c r : Int, runF G cPool [.lst (ns.map .int), .int p] [] = .ok (.n (.lst [.int c, .int r, .int 0])) [] := by
  have hp : intOp .pow 10 18 = some 1000000000000000000 := by decide +kernel
  by_cases h : p < ns.length
  · have hi : (p : Int) < ((ns.length : Nat) : Int) := by omega
    have ha : atI (ns.map D.int) (p : Int) = some (.int ns[p]) := atI_nat (by rw [List.getElem?_map, List.getElem?_eq_getElem h]; rfl)
    generalize hc : (if ns[p] < 0 then -ns[p] else ns[p]) = c
    by_cases h2 : (1000000000000000000 : Int) ≤ c
    · exact ⟨c, c, by simp [runF, cPool, envOf, exSs, exS, evT, evE, evEs, asG, ixR, seqOf, ha, hi, cmpR, intCmp, lenD, tru, opR, hp, bltR, endR, hc, h2, cbO, cbs, cb]⟩
    · exact ⟨c, 0, by simp [runF, cPool, envOf, exSs, exS, evT, evE, evEs, asG, ixR, seqOf, ha, hi, cmpR, intCmp, lenD, tru, opR, hp, bltR, endR, hc, h2, cbO, cbs, cb]⟩
  · have hi : ¬ (p : Int) < ((ns.length : Nat) : Int) := by omega
    exact ⟨0, 0, by simp [runF, cPool, envOf, exSs, exS, evT, evE, evEs, asG, ixR, seqOf, hi, cmpR, intCmp, lenD, tru, opR, hp, bltR, endR, cbO, cbs, cb]⟩
/-- a def draws -/
def DrawOk (f : Nat → List D → Store → Out R) : Prop := ∀ (b : Nat) (c r t m : Int) (s : Store), 0 < m → m < 1000000000 → ∃ g c' r' t' : Int, 0 ≤ g ∧ g < m ∧ f b [.cell 0, .int m] (.lst [.int c, .int r, .int t] :: s) = .ok (.v (.int g)) (.lst [.int c', .int r', .int t'] :: s)
theorem draw_call {f : Nat → List D → Store → Out R} (h : DrawOk f) (b : Nat) (c r t m : Int) (s : Store) (hm : 0 < m) (hm2 : m < 1000000000) :
    ∃ g c' r' t' : Int, 0 ≤ g ∧ g < m ∧ callR f b [.cell 0, .int m] (.lst [.int c, .int r, .int t] :: s) = .ok (.v (.int g)) (.lst [.int c', .int r', .int t'] :: s) := by
  obtain ⟨g, c', r', t', h1, h2, h3⟩ := h b c r t m s hm hm2
  exact ⟨g, c', r', t', h1, h2, by simp [callR, cbs, cb, h3]⟩
def cPick (jd : Nat) : En.Def := { slots := 2, params := 2, body :=
    (.cons (.ret (.ix (.var 1) (.call jd (.cons (.var 0) (.cons (.blt .len (.cons (.var 1) .nil)) .nil)))))
    .nil) }
theorem atI_mem {α : Type} {xs : List α} {g : Int} (h1 : 0 ≤ g) (h2 : g < xs.length) : ∃ d, atI xs g = some d ∧ d ∈ xs := by
  obtain ⟨n, rfl⟩ := Int.eq_ofNat_of_zero_le h1
  have hn : n < xs.length := by omega
  exact ⟨xs[n], atI_nat (List.getElem?_eq_getElem hn), List.getElem_mem hn⟩
theorem pick_run (G : Glo) {jd : Nat} (hd : DrawOk (G.fn jd)) {c r t : Int} {s : Store} {row : List D} (h0 : 0 < row.length) (h1 : row.length < 1000000000) (hc : cbs (s.length + 1) row = true) :
    ∃ d c' r' t', d ∈ row ∧ runF G (cPick jd) [.cell 0, .lst row] (.lst [.int c, .int r, .int t] :: s) = .ok (.v d) (.lst [.int c', .int r', .int t'] :: s) := by
  obtain ⟨g, c', r', t', g1, g2, e⟩ := draw_call hd (s.length + 1) c r t row.length s (by omega) (by omega)
  obtain ⟨d, ha, hm⟩ := atI_mem g1 g2
  refine ⟨d, c', r', t', hm, ?_⟩
  have hcd := cbs_iff.mp hc d hm
  simp [runF, cPick, envOf, exSs, exS, evE, evEs, bltR, lenD, seqOf, e, ixR, ha, endR, hcd]
def cOrderB (jd : Nat) : ISs := .cons (.expr (.mt .append (.var 3) (.cons (.mt .popAt (.var 2) (.cons (.call jd (.cons (.var 0) (.cons (.blt .len (.cons (.var 2) .nil)) .nil))) .nil)) .nil))) .nil
def cOrder (jd : Nat) : En.Def := { slots := 5, params := 2, body :=
    (.cons (.asg (.name 2) (.mu (.blt .list (.cons (.var 1) .nil))))
    (.cons (.asg (.name 3) (.mu (.lst .nil)))
    (.cons (.for_ (.name 4) (.rng1 (.blt .len (.cons (.var 1) .nil))) (cOrderB jd))
    (.cons (.retF (.var 3))
    .nil)))) }
theorem ss_cons_0 {G : Glo} {b : Nat} {x : IS} {xs : ISs} {e e1 : En.Env} {s s1 : Store} (h : exS G b x e s = .ok (.nx, e1) s1) : exSs G b (.cons x xs) e s = exSs G b xs e1 s1 := by
  simp only [exSs, h, Out.bind_ok]
theorem ss_ret_0 {G : Glo} {b : Nat} {x : IS} {xs : ISs} {e e1 : En.Env} {s s1 : Store} {r : R} (h : exS G b x e s = .ok (.ret r, e1) s1) : exSs G b (.cons x xs) e s = .ok (.ret r, e1) s1 := by
  simp only [exSs, h, Out.bind_ok]
theorem ss_retc_0 {G : Glo} {b : Nat} {x : IS} {xs : ISs} {e e1 : En.Env} {s s1 : Store} {n : Nat} (h : exS G b x e s = .ok (.retc n, e1) s1) : exSs G b (.cons x xs) e s = .ok (.retc n, e1) s1 := by
  simp only [exSs, h, Out.bind_ok]
theorem s_for_0 {G : Glo} {b : Nat} {g : IG} {it : II} {a : ISs} {e : En.Env} {s s1 : Store} {ds : List D} {o : Out (Ctl × En.Env)} (h : evI G b it e s = .ok (.l ds) s1)
    (h2 : forL (fun d e1 s2 => (asG G b g d e1 s2).bind fun e2 s3 => exSs G b a e2 s3) ds e s1 = o) : exS G b (.for_ g it a) e s = o := by
  simp only [exS, h, Out.bind_ok, h2]
theorem run_of_0 {G : Glo} {d : En.Def} {xs : List D} {s s1 s' : Store} {c : Ctl} {e' : En.Env} {r : R} (hl : xs.length = d.params) (h : exSs G s.length d.body (envOf d xs) s = .ok (c, e') s1) (h2 : endR s.length c s1 = .ok r s') : runF G d xs s = .ok r s' := by
  simp only [runF, if_pos hl, h, Out.bind_ok, h2]
theorem forL_inv {f : D → En.Env → Store → Out (Ctl × En.Env)} (P : List D → En.Env → Store → Prop) : ∀ (ds : List D) (e : En.Env) (s : Store), P ds e s →
    (∀ d ds e s, P (d :: ds) e s → ∃ e' s', f d e s = .ok (.nx, e') s' ∧ P ds e' s') → ∃ e' s', forL f ds e s = .ok (.nx, e') s' ∧ P [] e' s'
  | [], e, s, h, _ => ⟨e, s, rfl, h⟩
  | d :: ds, e, s, h, st => by
    obtain ⟨e1, s1, h1, h2⟩ := st d ds e s h
    obtain ⟨e2, s2, h3, h4⟩ := forL_inv P ds e1 s1 h2 st
    exact ⟨e2, s2, by simp [forL, h1, Ctl.goes, h3], h4⟩
theorem app_0 {α : Type} (s : List α) (a : α) (r : List α) : (s ++ a :: r)[s.length]? = some a := by simp
theorem app_1 {α : Type} (s : List α) (a b : α) (r : List α) : (s ++ a :: b :: r)[s.length + 1]? = some b := by
  rw [List.getElem?_append_right (by omega)]
  have : s.length + 1 - s.length = 1 := by omega
  rw [this]
  rfl
theorem set_0 {α : Type} (s : List α) (a x : α) (r : List α) : (s ++ a :: r).set s.length x = s ++ x :: r := by
  rw [List.set_append_right _ _ (by omega)]
  simp
theorem set_1 {α : Type} (s : List α) (a b x : α) (r : List α) : (s ++ a :: b :: r).set (s.length + 1) x = s ++ a :: x :: r := by
  rw [List.set_append_right _ _ (by omega)]
  have : s.length + 1 - s.length = 1 := by omega
  rw [this]
  rfl
theorem ixN_lt {n : Nat} {g : Int} (h1 : 0 ≤ g) (h2 : g < n) : ixN n g = some g.toNat := by
  obtain ⟨k, rfl⟩ := Int.eq_ofNat_of_zero_le h1
  unfold ixN
  have : ¬ (k : Int) < 0 := by omega
  simp [this]
  omega
theorem erase_perm {α : Type} : ∀ (xs : List α) (n : Nat) (h : n < xs.length), List.Perm ([xs[n]] ++ xs.eraseIdx n) xs
  | x :: xs, 0, _ => by simp
  | x :: xs, n + 1, h => by
    have h' : n < xs.length := by simpa using h
    have := erase_perm xs n h'
    simp only [List.getElem_cons_succ, List.eraseIdx_cons_succ, List.singleton_append] at this ⊢
    exact (List.Perm.swap _ _ _).trans (List.Perm.cons _ this)
end En

set_option Elab.async false
set_option linter.all false
set_option maxRecDepth 100000
set_option maxHeartbeats 4000000
namespace En
open PySem PySem.Spec PyProof.Rows L2
theorem popAt_run {gd : Nat → List (Str × D)} {b n : Nat} {s : Store} {ds : List D} {g : Int} (h : s[n]? = some (.lst ds)) (g1 : 0 ≤ g) (g2 : g < ds.length) (hb : b ≤ n) (hl : ds.length ≤ 100000) :
    ∃ hg : g.toNat < ds.length, mtR gd b .popAt (.cell n) [.int g] s = .ok (.v ds[g.toNat]) (s.set n (.lst (ds.eraseIdx g.toNat))) := by
  have hg : g.toNat < ds.length := by omega
  have hgl : decide (-(2 ^ 63) ≤ g ∧ g < 2 ^ 63) = true := by
    rw [decide_eq_true_eq]
    have : (2 : Int) ^ 63 = 9223372036854775808 := by decide
    omega
  have el : (ds.eraseIdx g.toNat).length = ds.length - 1 := List.length_eraseIdx_of_lt hg
  have z1 : decide ((ds.eraseIdx g.toNat).length ≤ 100000) = true := by rw [decide_eq_true_eq]; omega
  have z2 : okW b n .non = true := by simp [okW, hb]
  refine ⟨hg, ?_⟩
  simp only [mtR, onLst, h, hgl, if_true, ixN_lt g1 g2, Option.bind_some, List.getElem?_eq_getElem hg, Option.map_some, z1, z2, Bool.and_self]
theorem append_run {gd : Nat → List (Str × D)} {b n : Nat} {s : Store} {ds : List D} {d : D} (h : s[n]? = some (.lst ds)) (hw : okW b n d = true) (hl : ds.length < 100000) :
    mtR gd b .append (.cell n) [d] s = .ok (.v .non) (s.set n (.lst (ds ++ [d]))) := by
  have z1 : decide ((ds ++ [d]).length ≤ 100000) = true := by rw [decide_eq_true_eq, List.length_append, List.length_singleton]; omega
  simp only [mtR, onLst, h, z1, hw, Bool.and_self, if_true]
theorem okW_own {b n : Nat} (d : D) (h : b ≤ n) : okW b n d = true := by simp [okW, h]
theorem isLst_cell {s : Store} {n : Nat} {ds : List D} (h : s[n]? = some (.lst ds)) : isLst s (.cell n) = true := by simp [isLst, seqOf, h]
theorem len_cell {s : Store} {n : Nat} {ds : List D} (h : s[n]? = some (.lst ds)) : bltR .len [.cell n] s = some (.v (.int ((ds.length : Nat) : Int))) := by simp [bltR, lenD, seqOf, h]
theorem len_lst {s : Store} {ds : List D} : bltR .len [.lst ds] s = some (.v (.int ((ds.length : Nat) : Int))) := by simp [bltR, lenD, seqOf]
theorem rng_ok {n : Nat} (h : n < 1000000000000000000) : decide (-(2 ^ 62) ≤ ((n : Nat) : Int) ∧ ((n : Nat) : Int) < 2 ^ 62) = true := by
  rw [decide_eq_true_eq]
  have : (2 : Int) ^ 62 = 4611686018427387904 := by decide
  omega
section
variable {G : Glo} {b : Nat} {e : En.Env} {s s1 s2 : Store}
theorem e_var_0 {i : Nat} {d : D} (h : e[i]? = some (some d)) : evE G b (.var i) e s = .ok (.v d) s := by simp only [evE, h]
theorem e_blt_0 {f : Blt} {es : IEs} {xs : List D} {r : R} (h : evEs G b es e s = .ok xs s1) (h2 : bltR f xs s1 = some r) : evE G b (.blt f es) e s = .ok r s1 := by simp only [evE, h, Out.bind_ok, h2, Out.of_some]
theorem e_call_0 {j : Nat} {es : IEs} {xs : List D} {o : Out R} (h : evEs G b es e s = .ok xs s1) (h2 : callR (G.fn j) b xs s1 = o) : evE G b (.call j es) e s = o := by simp only [evE, h, Out.bind_ok, h2]
theorem e_mt_0 {m : Mt} {a : IE} {es : IEs} {x : R} {xs : List D} {o : Out R} (h : evE G b a e s = .ok x s1) (h1 : isLst s1 x.d = true) (h2 : evEs G b es e s1 = .ok xs s2) (h3 : mtR G.gd b m x.d xs s2 = o) : evE G b (.mt m a es) e s = o := by
  simp only [evE, h, Out.bind_ok, h1, if_true, h2, h3]
theorem es_nil_0 : evEs G b .nil e s = .ok [] s := rfl
theorem es_cons_0 {a : IE} {es : IEs} {x : R} {xs : List D} (h : evE G b a e s = .ok x s1) (h2 : evEs G b es e s1 = .ok xs s2) : evEs G b (.cons a es) e s = .ok (x.d :: xs) s2 := by simp only [evEs, h, Out.bind_ok, h2]
theorem s_expr_0 {x : IE} {r : R} (h : evE G b x e s = .ok r s1) : exS G b (.expr x) e s = .ok (.nx, e) s1 := by simp only [exS, h, Out.bind_ok]
theorem i_rng1_0 {a : IE} {r : R} {n : Nat} (h : evE G b a e s = .ok r s1) (hr : r.d = .int ((n : Nat) : Int)) (hn : n < 1000000000000000000) : evI G b (.rng1 a) e s = .ok (.l (rngL 0 n)) s1 := by
  simp only [evI, h, Out.bind_ok, hr, rng_ok hn, if_true]
  rfl
end
theorem order_step (G : Glo) {jd : Nat} (hd : DrawOk (G.fn jd)) {c r t : Int} {s : Store} {row left done : List D} {d : D} {x : Option D} {ds : List D} (h1 : row.length < 100000) (hc : cbs 0 row = true) (hl : left.length = ds.length + 1) (hp : List.Perm (done ++ left) row) :
    ∃ (left' done' : List D) (x' : Option D) (c' r' t' : Int), left'.length = ds.length ∧ List.Perm (done' ++ left') row ∧
      ((asG G (s.length + 1) (.name 4) d [some (.cell 0), some (.lst row), some (.cell (s.length + 1)), some (.cell (s.length + 1 + 1)), x] (.lst [.int c, .int r, .int t] :: (s ++ [.lst left, .lst done]))).bind fun e2 s3 => exSs G (s.length + 1) (cOrderB jd) e2 s3) =
        .ok (.nx, [some (.cell 0), some (.lst row), some (.cell (s.length + 1)), some (.cell (s.length + 1 + 1)), x']) (.lst [.int c', .int r', .int t'] :: (s ++ [.lst left', .lst done'])) := by
  have hlen := hp.length_eq
  rw [List.length_append] at hlen
  obtain ⟨g, c', r', t', g1, g2, e⟩ := draw_call hd (s.length + 1) c r t left.length (s ++ [.lst left, .lst done]) (by omega) (by omega)
  have gl : ∀ P : O, (P :: (s ++ [.lst left, .lst done]))[s.length + 1]? = some (.lst left) := fun P => by rw [List.getElem?_cons_succ]; exact app_0 _ _ _
  obtain ⟨hg, e3⟩ := popAt_run (gd := G.gd) (b := s.length + 1) (gl (.lst [.int c', .int r', .int t'])) g1 g2 (Nat.le_refl _) (by omega)
  have el : (left.eraseIdx g.toNat).length = left.length - 1 := List.length_eraseIdx_of_lt hg
  refine ⟨left.eraseIdx g.toNat, done ++ [left[g.toNat]], some d, c', r', t', by rw [el]; omega, ?_, ?_⟩
  · rw [List.append_assoc]
    refine List.Perm.trans (List.Perm.append_left _ ?_) hp
    exact erase_perm left g.toNat hg
  · rw [List.set_cons_succ, set_0] at e3
    have gd : ∀ P : O, (P :: (s ++ [.lst (left.eraseIdx g.toNat), .lst done]))[s.length + 1 + 1]? = some (.lst done) := fun P => by rw [List.getElem?_cons_succ]; exact app_1 _ _ _ _
    have gd0 : ∀ P : O, (P :: (s ++ [.lst left, .lst done]))[s.length + 1 + 1]? = some (.lst done) := fun P => by rw [List.getElem?_cons_succ]; exact app_1 _ _ _ _
    have e4 := append_run (gd := G.gd) (b := s.length + 1) (gd (.lst [.int c', .int r', .int t'])) (okW_own left[g.toNat] (Nat.le_succ _)) (by omega)
    rw [List.set_cons_succ, set_1] at e4
    show exSs G (s.length + 1) (cOrderB jd) [some (.cell 0), some (.lst row), some (.cell (s.length + 1)), some (.cell (s.length + 1 + 1)), some d] _ = _
    refine (ss_cons_0 (s_expr_0 (e_mt_0 (e_var_0 rfl) (isLst_cell (gd0 _)) (es_cons_0 (e_mt_0 (e_var_0 rfl) (isLst_cell (gl _)) (es_cons_0 (e_call_0 (es_cons_0 (e_var_0 rfl) (es_cons_0 (e_blt_0 (es_cons_0 (e_var_0 rfl) es_nil_0) (len_cell (gl _))) es_nil_0)) e) es_nil_0) e3) es_nil_0) e4))).trans ?_
    rfl
theorem order_run (G : Glo) {jd : Nat} (hd : DrawOk (G.fn jd)) {c r t : Int} {s : Store} {row : List D} (h1 : row.length < 100000) (hc : cbs 0 row = true) :
    ∃ ds c' r' t', List.Perm ds row ∧ runF G (cOrder jd) [.cell 0, .lst row] (.lst [.int c, .int r, .int t] :: s) = .ok (.n (.lst ds)) (.lst [.int c', .int r', .int t'] :: s) := by
  have key : ∃ e' s', forL (fun d e1 s2 => (asG G (s.length + 1) (.name 4) d e1 s2).bind fun e2 s3 => exSs G (s.length + 1) (cOrderB jd) e2 s3)
      (rngL 0 row.length) [some (.cell 0), some (.lst row), some (.cell (s.length + 1)), some (.cell (s.length + 1 + 1)), none] (.lst [.int c, .int r, .int t] :: (s ++ [.lst row, .lst []])) = .ok (.nx, e') s' ∧
      ∃ (left done : List D) (x : Option D) (c r t : Int), left.length = 0 ∧ List.Perm (done ++ left) row ∧ e' = [some (.cell 0), some (.lst row), some (.cell (s.length + 1)), some (.cell (s.length + 1 + 1)), x] ∧ s' = .lst [.int c, .int r, .int t] :: (s ++ [.lst left, .lst done]) := by
    refine forL_inv (fun ds e s' => ∃ (left done : List D) (x : Option D) (c r t : Int), left.length = ds.length ∧ List.Perm (done ++ left) row ∧ e = [some (.cell 0), some (.lst row), some (.cell (s.length + 1)), some (.cell (s.length + 1 + 1)), x] ∧ s' = .lst [.int c, .int r, .int t] :: (s ++ [.lst left, .lst done])) _ _ _ ?_ ?_
    · exact ⟨row, [], none, c, r, t, by rw [rngL_len], by simp, rfl, rfl⟩
    · rintro d ds e s' ⟨left, done, x, c, r, t, hl, hp, rfl, rfl⟩
      obtain ⟨left', done', x', c', r', t', q1, q2, q3⟩ := order_step G hd (c := c) (r := r) (t := t) (s := s) (d := d) (x := x) h1 hc hl hp
      exact ⟨_, _, q3, left', done', x', c', r', t', q1, q2, rfl, rfl⟩
  obtain ⟨e', s', hk, left, done, x, c', r', t', hl, hp, rfl, rfl⟩ := key
  have hl0 : left = [] := List.eq_nil_of_length_eq_zero hl
  subst hl0
  rw [List.append_nil] at hp
  refine ⟨done, c', r', t', hp, ?_⟩
  have hcd : cbs (s.length + 1) done = true := cbs_iff.mpr fun d m => cb_mono (Nat.zero_le _) d (cbs_iff.mp hc d (hp.mem_iff.mp m))
  refine run_of_0 rfl (c := .retc (s.length + 1 + 1)) (e' := [some (.cell 0), some (.lst row), some (.cell (s.length + 1)), some (.cell (s.length + 1 + 1)), x]) (s1 := .lst [.int c', .int r', .int t'] :: (s ++ [.lst [], .lst done])) ?_ ?_
  · show exSs G (s.length + 1) _ [some (.cell 0), some (.lst row), none, none, none] _ = _
    refine (ss_cons_0 (e1 := [some (.cell 0), some (.lst row), some (.cell (s.length + 1)), none, none]) (s1 := .lst [.int c, .int r, .int t] :: (s ++ [.lst row])) ?_).trans ?_
    · simp [exS, evE, evEs, asG, bltR, seqOf]
    refine (ss_cons_0 (e1 := [some (.cell 0), some (.lst row), some (.cell (s.length + 1)), some (.cell (s.length + 1 + 1)), none]) (s1 := .lst [.int c, .int r, .int t] :: (s ++ [.lst row, .lst []])) ?_).trans ?_
    · simp [exS, evE, evEs, asG]
    refine (ss_cons_0 (s_for_0 (i_rng1_0 (e_blt_0 (es_cons_0 (e_var_0 rfl) es_nil_0) len_lst) rfl (by omega)) hk)).trans ?_
    exact ss_retc_0 (by simp [exS, evE])
  · simp [endR, app_1, cbO, hcd]
end En

set_option Elab.async false
set_option linter.all false
set_option maxRecDepth 100000
set_option maxHeartbeats 4000000
namespace En
open PySem PySem.Spec PyProof.Rows L2
@[irreducible] def xE (G : Glo) (b : Nat) (x : IE) (e : En.Env) (s : Store) : Out R := evE G b x e s
@[irreducible] def xEs (G : Glo) (b : Nat) (x : IEs) (e : En.Env) (s : Store) : Out (List D) := evEs G b x e s
@[irreducible] def xT (G : Glo) (b : Nat) (x : IT) (e : En.Env) (s : Store) : Out Bool := evT G b x e s
@[irreducible] def xI (G : Glo) (b : Nat) (x : II) (e : En.Env) (s : Store) : Out Itm := evI G b x e s
@[irreducible] def xO (G : Glo) (b : Nat) (x : IO) (e : En.Env) (s : Store) : Out (Option Int) := evO G b x e s
@[irreducible] def xC (G : Glo) (b : Nat) (x : IC) (e : En.Env) (s : Store) : Out Bool := evC G b x e s
@[irreducible] def xG (G : Glo) (b : Nat) (g : IG) (d : D) (e : En.Env) (s : Store) : Out En.Env := asG G b g d e s
@[irreducible] def xGs (G : Glo) (b : Nat) (g : IGs) (d : List D) (e : En.Env) (s : Store) : Out En.Env := asGs G b g d e s
@[irreducible] def xS (G : Glo) (b : Nat) (x : IS) (e : En.Env) (s : Store) : Out (Ctl × En.Env) := exS G b x e s
@[irreducible] def xSs (G : Glo) (b : Nat) (x : ISs) (e : En.Env) (s : Store) : Out (Ctl × En.Env) := exSs G b x e s

theorem ss_cons {G : Glo} {b : Nat} {x : IS} {xs : ISs} {e e1 : En.Env} {s s1 : Store} (h : xS G b x e s = .ok (.nx, e1) s1) : xSs G b (.cons x xs) e s = xSs G b xs e1 s1 := by
  simp only [xE, xEs, xT, xI, xO, xC, xS, xSs, xG, xGs] at *
  simp only [exSs, h, Out.bind_ok]
theorem ss_ret {G : Glo} {b : Nat} {x : IS} {xs : ISs} {e e1 : En.Env} {s s1 : Store} {r : R} (h : xS G b x e s = .ok (.ret r, e1) s1) : xSs G b (.cons x xs) e s = .ok (.ret r, e1) s1 := by
  simp only [xE, xEs, xT, xI, xO, xC, xS, xSs, xG, xGs] at *
  simp only [exSs, h, Out.bind_ok]
theorem ss_retc {G : Glo} {b : Nat} {x : IS} {xs : ISs} {e e1 : En.Env} {s s1 : Store} {n : Nat} (h : xS G b x e s = .ok (.retc n, e1) s1) : xSs G b (.cons x xs) e s = .ok (.retc n, e1) s1 := by
  simp only [xE, xEs, xT, xI, xO, xC, xS, xSs, xG, xGs] at *
  simp only [exSs, h, Out.bind_ok]
theorem run_of {G : Glo} {d : En.Def} {xs : List D} {s s1 s' : Store} {c : Ctl} {e' : En.Env} {r : R} (hl : xs.length = d.params) (h : xSs G s.length d.body (envOf d xs) s = .ok (c, e') s1) (h2 : endR s.length c s1 = .ok r s') : runF G d xs s = .ok r s' := by
  simp only [xE, xEs, xT, xI, xO, xC, xS, xSs, xG, xGs] at *
  simp only [runF, if_pos hl, h, Out.bind_ok, h2]
section
variable {G : Glo} {b : Nat} {e e1 e2 : En.Env} {s s1 s2 s3 : Store}
theorem e_var {i : Nat} {d : D} (h : e[i]? = some (some d)) : xE G b (.var i) e s = .ok (.v d) s := by
  simp only [xE, xEs, xT, xI, xO, xC, xS, xSs, xG, xGs] at *
  simp only [evE, h]
theorem e_blt {f : Blt} {es : IEs} {xs : List D} {r : R} (h : xEs G b es e s = .ok xs s1) (h2 : bltR f xs s1 = some r) : xE G b (.blt f es) e s = .ok r s1 := by
  simp only [xE, xEs, xT, xI, xO, xC, xS, xSs, xG, xGs] at *
  simp only [evE, h, Out.bind_ok, h2, Out.of_some]
theorem e_call {j : Nat} {es : IEs} {xs : List D} {o : Out R} (h : xEs G b es e s = .ok xs s1) (h2 : callR (G.fn j) b xs s1 = o) : xE G b (.call j es) e s = o := by
  simp only [xE, xEs, xT, xI, xO, xC, xS, xSs, xG, xGs] at *
  simp only [evE, h, Out.bind_ok, h2]
theorem e_mt {m : Mt} {a : IE} {es : IEs} {x : R} {xs : List D} {o : Out R} (h : xE G b a e s = .ok x s1) (h1 : isLst s1 x.d = true) (h2 : xEs G b es e s1 = .ok xs s2) (h3 : mtR G.gd b m x.d xs s2 = o) : xE G b (.mt m a es) e s = o := by
  simp only [xE, xEs, xT, xI, xO, xC, xS, xSs, xG, xGs] at *
  simp only [evE, h, Out.bind_ok, h1, if_true, h2, h3]
theorem es_nil : xEs G b .nil e s = .ok [] s := by
  simp only [xE, xEs, xT, xI, xO, xC, xS, xSs, xG, xGs] at *
  rfl
theorem es_cons {a : IE} {es : IEs} {x : R} {xs : List D} (h : xE G b a e s = .ok x s1) (h2 : xEs G b es e s1 = .ok xs s2) : xEs G b (.cons a es) e s = .ok (x.d :: xs) s2 := by
  simp only [xE, xEs, xT, xI, xO, xC, xS, xSs, xG, xGs] at *
  simp only [evEs, h, Out.bind_ok, h2]
theorem s_expr {x : IE} {r : R} (h : xE G b x e s = .ok r s1) : xS G b (.expr x) e s = .ok (.nx, e) s1 := by
  simp only [xE, xEs, xT, xI, xO, xC, xS, xSs, xG, xGs] at *
  simp only [exS, h, Out.bind_ok]
theorem i_rng1 {a : IE} {r : R} {n : Nat} (h : xE G b a e s = .ok r s1) (hr : r.d = .int ((n : Nat) : Int)) (hn : n < 1000000000000000000) : xI G b (.rng1 a) e s = .ok (.l (rngL 0 n)) s1 := by
  simp only [xE, xEs, xT, xI, xO, xC, xS, xSs, xG, xGs] at *
  simp only [evI, h, Out.bind_ok, hr, rng_ok hn, if_true]
  rfl
end
section
variable {G : Glo} {b : Nat} {e e1 e2 : En.Env} {s s1 s2 s3 : Store}
theorem e_op {o : Op2} {a c : IE} {x y : R} {r : R} (h : xE G b a e s = .ok x s1) (h2 : xE G b c e s1 = .ok y s2) (h3 : opR o x.d y.d s2 = some r) : xE G b (.op o a c) e s = .ok r s2 := by
  simp only [xE, xEs, xT, xI, xO, xC, xS, xSs, xG, xGs] at *
  simp only [evE, h, h2, Out.bind_ok, h3, Out.of_some]
theorem e_cmp {o : Cmp} {a c : IE} {x y : R} {k : Bool} (h : xE G b a e s = .ok x s1) (h2 : xE G b c e s1 = .ok y s2) (h3 : cmpR G.gd o x.d y.d s2 = some k) : xE G b (.cmp o a c) e s = .ok (.v (.bl k)) s2 := by
  simp only [xE, xEs, xT, xI, xO, xC, xS, xSs, xG, xGs] at *
  simp only [evE, h, h2, Out.bind_ok, h3, Option.map_some, Out.of_some]
theorem e_ix {a c : IE} {x y : R} {r : R} (h : xE G b a e s = .ok x s1) (h2 : xE G b c e s1 = .ok y s2) (h3 : ixR G.gd x.d y.d s2 = some r) : xE G b (.ix a c) e s = .ok r s2 := by
  simp only [xE, xEs, xT, xI, xO, xC, xS, xSs, xG, xGs] at *
  simp only [evE, h, h2, Out.bind_ok, h3, Out.of_some]
theorem e_tup {es : IEs} {xs : List D} (h : xEs G b es e s = .ok xs s1) (h2 : xs.length ≤ 100000) : xE G b (.tup es) e s = .ok (.v (.tup xs)) s1 := by
  simp only [xE, xEs, xT, xI, xO, xC, xS, xSs, xG, xGs] at *
  simp only [evE, h, Out.bind_ok, h2, if_true]
theorem e_lst {es : IEs} {xs : List D} (h : xEs G b es e s = .ok xs s1) (h2 : xs.length ≤ 100000) : xE G b (.lst es) e s = .ok (.n (.lst xs)) s1 := by
  simp only [xE, xEs, xT, xI, xO, xC, xS, xSs, xG, xGs] at *
  simp only [evE, h, Out.bind_ok, h2, if_true]
theorem e_mu {a : IE} {o : O} (h : xE G b a e s = .ok (.n o) s1) : xE G b (.mu a) e s = .ok (.v (.cell s1.length)) (s1 ++ [o]) := by
  simp only [xE, xEs, xT, xI, xO, xC, xS, xSs, xG, xGs] at *
  simp only [evE, h, Out.bind_ok]
theorem e_int {i : Int} : xE G b (.int i) e s = .ok (.v (.int i)) s := by
  simp only [xE, xEs, xT, xI, xO, xC, xS, xSs, xG, xGs] at *
  rfl
theorem e_str {i : Str} : xE G b (.str i) e s = .ok (.v (.str i)) s := by
  simp only [xE, xEs, xT, xI, xO, xC, xS, xSs, xG, xGs] at *
  rfl
theorem e_bl {i : Bool} : xE G b (.bl i) e s = .ok (.v (.bl i)) s := by
  simp only [xE, xEs, xT, xI, xO, xC, xS, xSs, xG, xGs] at *
  rfl
theorem e_non : xE G b .non e s = .ok (.v .non) s := by
  simp only [xE, xEs, xT, xI, xO, xC, xS, xSs, xG, xGs] at *
  rfl
theorem e_gl {j : Nat} : xE G b (.gl j) e s = .ok (.v (G.gl j)) s := by
  simp only [xE, xEs, xT, xI, xO, xC, xS, xSs, xG, xGs] at *
  rfl
theorem t_e {a : IE} {x : R} {k : Bool} (h : xE G b a e s = .ok x s1) (h2 : tru s1 x.d = some k) : xT G b (.e a) e s = .ok k s1 := by
  simp only [xE, xEs, xT, xI, xO, xC, xS, xSs, xG, xGs] at *
  simp only [evT, h, Out.bind_ok, h2, Out.of_some]
theorem t_not {t : IT} {k : Bool} (h : xT G b t e s = .ok k s1) : xT G b (.not t) e s = .ok (!k) s1 := by
  simp only [xE, xEs, xT, xI, xO, xC, xS, xSs, xG, xGs] at *
  simp only [evT, h, Out.bind_ok]
theorem t_not1 {t : IT} (h : xT G b t e s = .ok true s1) : xT G b (.not t) e s = .ok false s1 := by
  exact t_not h
theorem t_not0 {t : IT} (h : xT G b t e s = .ok false s1) : xT G b (.not t) e s = .ok true s1 := by
  exact t_not h
theorem t_or0 {t u : IT} {o : Out Bool} (h : xT G b t e s = .ok false s1) (h2 : xT G b u e s1 = o) : xT G b (.or t u) e s = o := by
  simp only [xE, xEs, xT, xI, xO, xC, xS, xSs, xG, xGs] at *
  simp only [evT, h, Out.bind_ok, Bool.false_eq_true, if_false, h2]
theorem t_or1 {t u : IT} (h : xT G b t e s = .ok true s1) : xT G b (.or t u) e s = .ok true s1 := by
  simp only [xE, xEs, xT, xI, xO, xC, xS, xSs, xG, xGs] at *
  simp only [evT, h, Out.bind_ok, if_true]
theorem t_and1 {t u : IT} {o : Out Bool} (h : xT G b t e s = .ok true s1) (h2 : xT G b u e s1 = o) : xT G b (.and t u) e s = o := by
  simp only [xE, xEs, xT, xI, xO, xC, xS, xSs, xG, xGs] at *
  simp only [evT, h, Out.bind_ok, if_true, h2]
theorem t_and0 {t u : IT} (h : xT G b t e s = .ok false s1) : xT G b (.and t u) e s = .ok false s1 := by
  simp only [xE, xEs, xT, xI, xO, xC, xS, xSs, xG, xGs] at *
  simp only [evT, h, Out.bind_ok, Bool.false_eq_true, if_false]
theorem s_name {i : Nat} {x : IE} {r : R} (h : xE G b x e s = .ok r s1) : xS G b (.asg (.name i) x) e s = .ok (.nx, e.set i (some r.d)) s1 := by
  simp only [xE, xEs, xT, xI, xO, xC, xS, xSs, xG, xGs] at *
  simp only [exS, h, Out.bind_ok, asG]
theorem s_ret {x : IE} {r : R} (h : xE G b x e s = .ok r s1) : xS G b (.ret x) e s = .ok (.ret r, e) s1 := by
  simp only [xE, xEs, xT, xI, xO, xC, xS, xSs, xG, xGs] at *
  simp only [exS, h, Out.bind_ok]
theorem s_retF {x : IE} {n : Nat} (h : xE G b x e s = .ok (.v (.cell n)) s1) : xS G b (.retF x) e s = .ok (.retc n, e) s1 := by
  simp only [xE, xEs, xT, xI, xO, xC, xS, xSs, xG, xGs] at *
  simp only [exS, h, Out.bind_ok]
theorem s_if1 {t : IT} {a c : ISs} {o : Out (Ctl × En.Env)} (h : xT G b t e s = .ok true s1) (h2 : xSs G b a e s1 = o) : xS G b (.ifs t a c) e s = o := by
  simp only [xE, xEs, xT, xI, xO, xC, xS, xSs, xG, xGs] at *
  simp only [exS, h, Out.bind_ok, if_true, h2]
theorem s_if0 {t : IT} {a c : ISs} {o : Out (Ctl × En.Env)} (h : xT G b t e s = .ok false s1) (h2 : xSs G b c e s1 = o) : xS G b (.ifs t a c) e s = o := by
  simp only [xE, xEs, xT, xI, xO, xC, xS, xSs, xG, xGs] at *
  simp only [exS, h, Out.bind_ok, Bool.false_eq_true, if_false, h2]
theorem ss_nil : xSs G b .nil e s = .ok (.nx, e) s := by
  simp only [xE, xEs, xT, xI, xO, xC, xS, xSs, xG, xGs] at *
  rfl
/-- one statement, then the rest -/
theorem ss_nx {x : IS} {xs : ISs} {o : Out (Ctl × En.Env)} (h : xS G b x e s = .ok (.nx, e1) s1) (h2 : xSs G b xs e1 s1 = o) : xSs G b (.cons x xs) e s = o := by
  rw [ss_cons h, h2]
theorem tru_bl {k : Bool} : tru s (.bl k) = some k := rfl
theorem callR_of {f : Nat → List D → Store → Out R} {xs : List D} {r : R} (h : cbs 0 xs = true) (h2 : f 0 xs [] = .ok r []) : callR f b xs s = .ok r s := by simp only [callR, h, if_true, h2]
theorem callR_at {f : Nat → List D → Store → Out R} {xs : List D} {o : Out R} (h : cbs 0 xs = false) (h2 : f b xs s = o) : callR f b xs s = o := by simp only [callR, h, Bool.false_eq_true, if_false, h2]
theorem e_lc {own : List (Str × Nat)} {g : IG} {it : II} {t : IC} {x : IE} {ds : List D} {r : List D} (h : xI G b it e s = .ok (.l ds) s1) (hl : ds.length ≤ 100000)
    (h2 : lcL (fun d s1 => (xG G b g d (wipeE e (own.map (·.2))) s1).bind fun e2 s2 => (xC G b t e2 s2).bind fun k s3 => if k then (xE G b x e2 s3).bind fun r s4 => .ok [r.d] s4 else .ok [] s3) ds s1 = .ok r s2) :
    xE G b (.lc own g it t x) e s = .ok (.n (.lst r)) s2 := by
  simp only [xE, xEs, xT, xI, xO, xC, xS, xSs, xG, xGs] at *
  simp only [evE, h, Out.bind_ok, hl, if_true, h2]
theorem i_seq {a : IE} {r : R} {ds : List D} (h : xE G b a e s = .ok r s1) (hr : r.d = .lst ds) : xI G b (.seq a) e s = .ok (.l ds) s1 := by
  simp only [xE, xEs, xT, xI, xO, xC, xS, xSs, xG, xGs] at *
  simp only [evI, h, Out.bind_ok, hr]
end
theorem lcL_inv {f : D → Store → Out (List D)} (P : List D → List D → Store → Prop) (st : ∀ d ds acc s, P (d :: ds) acc s → ∃ x s', f d s = .ok x s' ∧ P ds (acc ++ x) s') : ∀ (ds acc : List D) (s : Store), P ds acc s → ∃ r s', lcL f ds s = .ok r s' ∧ P [] (acc ++ r) s'
  | [], acc, s, h => ⟨[], s, rfl, by rw [List.append_nil]; exact h⟩
  | d :: ds, acc, s, h => by
    obtain ⟨x, s1, h1, h2⟩ := st d ds acc s h
    obtain ⟨r, s2, h3, h4⟩ := lcL_inv P st ds (acc ++ x) s1 h2
    exact ⟨x ++ r, s2, by simp only [lcL, h1, Out.bind_ok, h3], by rw [← List.append_assoc]; exact h4⟩
theorem rngL_mem : ∀ (n : Nat) (lo : Int) (d : D), d ∈ rngL lo n → ∃ i : Nat, i < n ∧ d = .int (lo + i)
  | 0, _, _, h => nomatch h
  | n + 1, lo, d, h => by
    simp only [rngL, List.mem_cons] at h
    rcases h with rfl | h
    · exact ⟨0, by omega, by simp⟩
    · obtain ⟨i, h1, rfl⟩ := rngL_mem n (lo + 1) d h
      exact ⟨i + 1, by omega, by congr 1; omega⟩
/-- a result that is a flat value, nothing left in the store -/
def okF (o : Out R) : Option D := match o with
  | .ok (.v d) [] => if (flat d).isSome then some d else none
  | _ => none
theorem okF_is {o : Out R} {d : D} (h : okF o = some d) : (flat d).isSome = true ∧ o = .ok (.v d) [] := by
  unfold okF at h
  split at h
  · split at h
    · rename_i hf
      cases h
      exact ⟨hf, rfl⟩
    · cases h
  · cases h
def okT (o : Out R) : Bool := match o with
  | .ok (.v (.bl true)) [] => true
  | _ => false
theorem okT_is {o : Out R} (h : okT o = true) : o = .ok (.v (.bl true)) [] := by
  unfold okT at h
  split at h
  · rfl
  · cases h
theorem flat_cb {d : D} (h : (flat d).isSome = true) : cb 0 d = true := by
  cases d <;> first | rfl | (simp [flat] at h)


end En

set_option Elab.async false
set_option linter.all false
set_option maxRecDepth 100000
set_option maxHeartbeats 4000000
namespace En
open PySem PySem.Spec PyProof.Rows L2
def gaOf (as : List Addr) (j : Nat) : Addr := as.getD j 0
def Ent (K : PySem.W.Frag) (i : DI) (f : Addr) : Prop := ∃ fd, Fun K i.x i.q i.st f fd ∧ ∀ us : List Value, us.length = i.ps.length → bindArgs fd ⟨us, []⟩ = pure (i.ps.zip us)
section
variable {K : PySem.W.Frag} {mg : Str → Option Value} {h : Heap} {i : DI} {x q : Str} {st : Stmt} {ps : List Str} {f C : Addr} {oc : Value} {od an : Option Addr} {sl : Array (Option Value)} {kV dc pm cd ct : Value}
theorem ent_mk (hx : i.x = x) (hq : i.q = q) (hst : i.st = st) (hp : i.ps = ps)
    (l : K.lookup f = some ⟨oc, od, .func (PySem.W.fnOf x q (defArgs st) (defBody st) (defScope st) .none kV dc pm an cd ct), sl⟩) (c : PySem.W.codeIn K cd q = true) (k : PySem.W.keepIn K (.ref f) = true)
    (b : ∀ (kV doc pm : Value) (an : Option Addr) (cdv ct : Value) (us : List Value), us.length = ps.length → bindArgs (PySem.W.fnOf x q (defArgs st) (defBody st) (defScope st) .none kV doc pm an cdv ct) ⟨us, []⟩ = pure (ps.zip us)) : Ent K i f := by
  subst hx hq hst hp
  exact ⟨_, fun_mk (st := i.st) l c k, b _ _ _ _ _ _⟩
theorem ent_fn (hx : i.x = x) (hq : i.q = x) (hst : i.st = st) (hp : i.ps = ps) (X : K.In h) (a : PySem.W.nsIn K mainGlobals x = some (some (.ref f)))
    (l : K.lookup f = some ⟨oc, od, .func (PySem.W.fnOf x x (defArgs st) (defBody st) (defScope st) .none kV dc pm an cd ct), sl⟩) (c : PySem.W.codeIn K cd x = true) (k : PySem.W.keepIn K (.ref f) = true)
    (b : ∀ (kV doc pm : Value) (an : Option Addr) (cdv ct : Value) (us : List Value), us.length = ps.length → bindArgs (PySem.W.fnOf x x (defArgs st) (defBody st) (defScope st) .none kV doc pm an cdv ct) ⟨us, []⟩ = pure (ps.zip us)) : Ent K i f := ent_mk hx hq hst hp l c k b
theorem ent_me (hx : i.x = x) (hq : i.q = q) (hst : i.st = st) (hp : i.ps = ps) (X : K.In h) (a : PySem.W.findIn K (.ref C) x = some (some (.ref f)))
    (l : K.lookup f = some ⟨oc, od, .func (PySem.W.fnOf x q (defArgs st) (defBody st) (defScope st) .none kV dc pm an cd ct), sl⟩) (c : PySem.W.codeIn K cd q = true) (k : PySem.W.keepIn K (.ref f) = true)
    (b : ∀ (kV doc pm : Value) (an : Option Addr) (cdv ct : Value) (us : List Value), us.length = ps.length → bindArgs (PySem.W.fnOf x q (defArgs st) (defBody st) (defScope st) .none kV doc pm an cdv ct) ⟨us, []⟩ = pure (ps.zip us)) : Ent K i f := ent_mk hx hq hst hp l c k b
end
def EntAll (K : PySem.W.Frag) : List DI → List Addr → Prop
  | [], _ => True
  | i :: is, f :: fs => Ent K i f ∧ EntAll K is fs
  | _ :: _, [] => False
theorem EntAll.at_ {K : PySem.W.Frag} : ∀ {is : List DI} {fs : List Addr} {j : Nat} {i : DI}, EntAll K is fs → is[j]? = some i → Ent K i (gaOf fs j)
  | [], _, _, _, _, h => by simp at h
  | _ :: _, [], _, _, a, _ => a.elim
  | _ :: _, _ :: _, 0, _, a, h => by
    simp at h
    subst h
    exact a.1
  | _ :: is, _ :: fs, j + 1, i, a, h => EntAll.at_ (j := j) a.2 (by simpa using h)
abbrev MkOne (K : PySem.W.Frag) (fa : Nat → Addr) (ci : CI) (C : Addr) : Prop := Cls K C ∧ Mk K C (fa ci.ini) ∧ ∀ p ∈ ci.ms, Meth K C p.1 (fa p.2)
def MkAll (K : PySem.W.Frag) (fa : Nat → Addr) : List CI → List Addr → Prop
  | [], _ => True
  | i :: is, f :: fs => MkOne K fa i f ∧ MkAll K fa is fs
  | _ :: _, [] => False
theorem MkAll.at_ {K : PySem.W.Frag} {fa : Nat → Addr} : ∀ {is : List CI} {fs : List Addr} {j : Nat} {i : CI}, MkAll K fa is fs → is[j]? = some i → MkOne K fa i (gaOf fs j)
  | [], _, _, _, _, h => by simp at h
  | _ :: _, [], _, _, a, _ => a.elim
  | _ :: _, _ :: _, 0, _, a, h => by
    simp at h
    subst h
    exact a.1
  | _ :: is, _ :: fs, j + 1, i, a, h => MkAll.at_ (j := j) a.2 (by simpa using h)
theorem cls_of {K : PySem.W.Frag} {h : Heap} {x : Str} {C : Addr} (X : K.In h) (a : PySem.W.nsIn K mainGlobals x = some (some (.ref C))) (pg : PySem.W.plainGet K C Str.empty = true) (hd : PySem.W.hasDictIn K C = true) (po : PySem.W.plainOver K C = true) (sa : PySem.W.findIn K (.ref C) "__setattr__" = some (some (.builtin "object.__setattr__"))) : Cls K C := ⟨pg, hd, po, sa⟩
theorem mk_of {K : PySem.W.Frag} {h : Heap} {x : Str} {C f : Addr} (X : K.In h) (a : PySem.W.nsIn K mainGlobals x = some (some (.ref C))) (i : PySem.W.findIn K (.ref C) "__init__" = some (some (.ref f))) (m : PySem.W.makesIn K C = true) (fn : PySem.W.isFn K (.ref f) = true) (kp : PySem.W.keepIn K (.ref C) = true) : Mk K C f := ⟨m, i, fn, kp⟩
theorem me_of {K : PySem.W.Frag} {h : Heap} {m : Str} {C f : Addr} (X : K.In h) (a : PySem.W.findIn K (.ref C) m = some (some (.ref f))) (fn : PySem.W.isFn K (.ref f) = true) (kp : PySem.W.keepIn K (.ref f) = true) : Meth K C m f := ⟨a, fn, kp⟩
theorem find_look {K : PySem.W.Frag} {h : Heap} {x m : Str} {C : Addr} {v : Value} (X : K.In h) (a : PySem.W.nsIn K mainGlobals x = some (some (.ref C))) (e : PySem.W.findIn K (.ref C) m = some (some v)) : PySem.W.findIn K (.ref C) m = some (some v) := e
theorem na_of {K : PySem.W.Frag} {h : Heap} {m : Str} {C : Addr} (X : K.In h) (c : Cls K C) (e : PySem.W.findIn K (.ref C) m = some none) : Cls K C ∧ NoAttr K C m := ⟨c, e⟩
/-- a def of the module, its promise, as the law's head wants it -/
theorem law_fn {P : Program} {w : World} {K : PySem.W.Frag} {mg : Str → Option Value} {L : Lk} {T : TB} {fs : List Addr} (X : Txt L T (gaOf fs) w K mg) {n k j m : Nat} (c : chkT' T n = true) (hs : noSlots K = true) {i : DI} {fa : Addr} {x : Str} (E : Ent K i (gaOf fs j)) (hj : T.ds[j]? = some i) (hm : mg i.x = some (.ref (gaOf fs j))) (hfa : mg i.x = some (.ref fa)) (hps : i.ps = [x])
    (math : ∀ ns : List Int, ns.length ≤ m → ∃ s, (T.den k).fn j 0 [.lst (ns.map .int)] [] = .ok (.v (.bl true)) s) :
    ∃ fd : FuncData, (∀ (s : Shared) (u : Value), BindsTo s fd ⟨[u], []⟩ [(x, u)]) ∧ ∀ base : Heap, K.In base → base.Ns mainGlobals mg → FnOk P w K mg base CX0 k fa fd [x] (spLaw K m) := by
  obtain ⟨fd, F, B⟩ := E
  have e := hfa.symm.trans hm
  cases e
  rw [hps] at B
  refine ⟨fd, fun s u => .of_eq (B [u] rfl), fun base _ _ => ?_⟩
  have := law_ok (P := P) (base := base) X c hs hj F math
  rw [hps] at this
  exact this
theorem look_mem {kvs : List (Str × D)} {z : Str} {d : D} (h : lookK kvs z = some d) : (z, d) ∈ kvs := by
  unfold lookK at h
  rw [Option.map_eq_some_iff] at h
  obtain ⟨p, h1, rfl⟩ := h
  have h2 := List.find?_some h1
  simp only [decide_eq_true_eq] at h2
  subst h2
  exact List.mem_of_find?_eq_some h1
abbrev Hold (L : Lk) (w : World) (a : Addr) (p : Str × D) : Prop := ∃ v, KDct L.K w a p.1 v ∧ ∀ (H : Hp) (fb cm : List Addr), Rep L H fb cm v p.2
theorem hold_mk {L : Lk} {w : World} {K : PySem.W.Frag} {h : Heap} {a : Addr} {x : Str} {d : D} {es : Array DictEntry} {n : Nat} {u : Value} {v : V} (X : K.In h) (hK : K = L.K) (l : K.lookup a = some ⟨.type "dict", none, .dict es n, #[]⟩) (k : PySem.W.KeysLit w.params es.toList) (e : PySem.W.nsIn K a x = some (some u)) (r : RelV v u) (hr : ∀ (H : Hp) (fb cm : List Addr), Rep L H fb cm v d) : Hold L w a (x, d) := by
  subst hK
  exact ⟨v, ⟨es, n, u, l, k, e, r⟩, hr⟩
theorem all_nil {α : Type} {P : α → Prop} : ∀ p ∈ ([] : List α), P p := fun p m => nomatch m
theorem all_cons {α : Type} {P : α → Prop} {a : α} {l : List α} (h : P a) (h2 : ∀ p ∈ l, P p) : ∀ p ∈ a :: l, P p := fun p m => by
  rcases List.mem_cons.mp m with rfl | m
  · exact h
  · exact h2 p m
abbrev Glv (L : Lk) (T : TB) (mg : Str → Option Value) (p : Str × Nat) : Prop := ∃ u v, mg p.1 = some u ∧ RelV v u ∧ ∀ (H : Hp) (fb cm : List Addr), Rep L H fb cm v (T.gl p.2)
abbrev Blv (mg : Str → Option Value) (x : Str) : Prop := mg x = none
theorem gl_val {L : Lk} {mg : Str → Option Value} {u : Value} {v : V} {d : D} {x : Str} (h : mg x = some u) (r : RelV v u) (hr : ∀ (H : Hp) (fb cm : List Addr), Rep L H fb cm v d) : ∃ u v, mg x = some u ∧ RelV v u ∧ ∀ (H : Hp) (fb cm : List Addr), Rep L H fb cm v d := ⟨u, v, h, r, hr⟩
theorem rep_kt {L : Lk} {K : PySem.W.Frag} {h : Heap} {a : Addr} {o : Obj} {its : Array Value} {n : Nat} {xs : List V} {ds : List D} (X : K.In h) (hK : K = L.K) (l : K.lookup a = some o) (c : o.cls = .type "tuple") (hd : o.data = .seq its n) (hz : its.size ≤ 1000) (hv : Vals xs its.toList) (hr : ∀ (H : Hp) (fb cm : List Addr), Reps L H fb cm xs ds) (H : Hp) (fb cm : List Addr) : Rep L H fb cm (.ref a) (.kt ds) :=
  .kt ⟨o, its, n, hK ▸ l, c, hd, Nat.le_trans hz (by decide), hv⟩ (hr H fb cm)
theorem ns_look {K : PySem.W.Frag} {h : Heap} {x : Str} {v : Value} (X : K.In h) (a : PySem.W.nsIn K mainGlobals x = some (some v)) : PySem.W.nsIn K mainGlobals x = some (some v) := a
theorem k_look {K : PySem.W.Frag} {h : Heap} {a : Addr} {o : Obj} (X : K.In h) (e : K.lookup a = some o) : K.lookup a = some o := e
theorem txt_mk {T : TB} {w : World} {K : PySem.W.Frag} {mg : Str → Option Value} {fs cs as : List Addr} {h : Heap} (KX : K.In h) (ents : EntAll K T.ds fs) (fns : ∀ p ∈ T.fns, mg p.1 = some (.ref (gaOf fs p.2))) (gls : ∀ p ∈ T.gls, Glv ⟨K, gaOf cs, gaOf as⟩ T mg p) (blts : ∀ x ∈ T.blt, Blv mg x)
    (gds : ∀ j, ∀ p ∈ T.gd j, Hold ⟨K, gaOf cs, gaOf as⟩ w (gaOf as j) p) (cn : ∀ p ∈ T.cnm, mg p.1 = some (.ref (gaOf cs p.2))) (mk : MkAll K (gaOf fs) T.cls cs) (na : ∀ p ∈ T.na, Cls K (gaOf cs p.1) ∧ NoAttr K (gaOf cs p.1) p.2) : Txt ⟨K, gaOf cs, gaOf as⟩ T (gaOf fs) w K mg :=
  ⟨rfl, fun j i hj => by
    obtain ⟨fd, F, B⟩ := ents.at_ hj
    exact ⟨fd, F, .all B⟩, fns, fun x j m => gls (x, j) m, blts, fun j z d h => gds j (z, d) (look_mem h), cn, fun c ci h => mk.at_ h, na⟩
theorem rel_int {i : Int} {t : Nat} : RelV (.int i) (.int i t) := ⟨t, rfl⟩
theorem rel_str {i : Str} {t : Nat} : RelV (.str i) (.str i t) := ⟨t, rfl⟩
theorem rel_bl {i : Bool} : RelV (.bl i) (.bool i) := rfl
theorem rel_non : RelV .non .none := rfl
theorem rel_ref {a : Addr} : RelV (.ref a) (.ref a) := rfl
theorem rep_ktG {L : Lk} {K : PySem.W.Frag} {h : Heap} {x : Str} {a : Addr} {o : Obj} {its : Array Value} {n : Nat} {xs : List V} {ds : List D} (X : K.In h) (g : PySem.W.nsIn K mainGlobals x = some (some (.ref a))) (hK : K = L.K) (l : K.lookup a = some o) (c : o.cls = .type "tuple") (hd : o.data = .seq its n) (hz : its.size ≤ 1000) (hv : Vals xs its.toList) (hr : ∀ (H : Hp) (fb cm : List Addr), Reps L H fb cm xs ds) (H : Hp) (fb cm : List Addr) : Rep L H fb cm (.ref a) (.kt ds) :=
  rep_kt X hK l c hd hz hv hr H fb cm
end En

set_option Elab.async false
set_option linter.all false
set_option maxRecDepth 100000
set_option maxHeartbeats 4000000
namespace En
open PySem PySem.Spec PyProof.Rows L2
section
variable {G : Glo} {b : Nat} {e e1 e2 : En.Env} {s s1 s2 s3 : Store}
theorem e_fld {a : IE} {f : Str} {x r : R} (h : xE G b a e s = .ok x s1) (h2 : fldR G.na x.d f s1 = some r) : xE G b (.fld a f) e s = .ok r s1 := by
  simp only [xE, xEs, xT, xI, xO, xC, xS, xSs, xG, xGs] at *
  simp only [evE, h, Out.bind_ok, h2, Out.of_some]
theorem e_mcall {a : IE} {m : Str} {es : IEs} {x : R} {c j : Nat} {fs : List (Str × D)} {xs : List D} {o : Out R} (h : xE G b a e s = .ok x s1) (h1 : objOf s1 x.d = some (c, fs)) (h2 : G.me c m = some j) (h3 : fs.lookup m = none)
    (h4 : xEs G b es e s1 = .ok xs s2) (h5 : callR (G.fn j) b (x.d :: xs) s2 = o) : xE G b (.mcall m a es) e s = o := by
  simp only [xE, xEs, xT, xI, xO, xC, xS, xSs, xG, xGs] at *
  simp only [evE, h, Out.bind_ok, h1, h2, h3, h4, h5]
theorem e_makeM {c : Nat} {es : IEs} {xs : List D} (h : xEs G b es e s = .ok xs s1) (h2 : G.ini c b (.cell s1.length :: xs) (s1 ++ [.ins c []]) = .ok (.v .non) s2) : xE G b (.makeM c es) e s = .ok (.v (.cell s1.length)) s2 := by
  simp only [xE, xEs, xT, xI, xO, xC, xS, xSs, xG, xGs] at *
  simp only [evE, h, Out.bind_ok, h2]
theorem e_isin {a : IE} {t u : Ty} {x : R} {k : Bool} (h : xE G b a e s = .ok x s1) (h1 : tyOf s1 x.d = some u) (h2 : u.isB = true) (h3 : isTy u t = k) : xE G b (.isin a t) e s = .ok (.v (.bl k)) s1 := by
  simp only [xE, xEs, xT, xI, xO, xC, xS, xSs, xG, xGs] at *
  simp only [evE, h, Out.bind_ok, h1, h2, if_true, h3]
theorem e_ite1 {t : IT} {a c : IE} {o : Out R} (h : xT G b t e s = .ok true s1) (h2 : xE G b a e s1 = o) : xE G b (.ite t a c) e s = o := by
  simp only [xE, xEs, xT, xI, xO, xC, xS, xSs, xG, xGs] at *
  simp only [evE, h, Out.bind_ok, if_true, h2]
theorem e_ite0 {t : IT} {a c : IE} {o : Out R} (h : xT G b t e s = .ok false s1) (h2 : xE G b c e s1 = o) : xE G b (.ite t a c) e s = o := by
  simp only [xE, xEs, xT, xI, xO, xC, xS, xSs, xG, xGs] at *
  simp only [evE, h, Out.bind_ok, Bool.false_eq_true, if_false, h2]
theorem e_neg {a : IE} {x : R} {i : Int} (h : xE G b a e s = .ok x s1) (h1 : x.d = .int i) : xE G b (.neg a) e s = .ok (.v (.int (-i))) s1 := by
  simp only [xE, xEs, xT, xI, xO, xC, xS, xSs, xG, xGs] at *
  simp only [evE, h, Out.bind_ok, h1]
theorem e_and1 {a c : IE} {x : R} {o : Out R} (h : xE G b a e s = .ok x s1) (h1 : x.d = .bl true) (h2 : xE G b c e s1 = o) : xE G b (.and a c) e s = o := by
  simp only [xE, xEs, xT, xI, xO, xC, xS, xSs, xG, xGs] at *
  simp only [evE, h, Out.bind_ok, h1, h2]
theorem e_and0 {a c : IE} {x : R} (h : xE G b a e s = .ok x s1) (h1 : x.d = .bl false) : xE G b (.and a c) e s = .ok (.v (.bl false)) s1 := by
  simp only [xE, xEs, xT, xI, xO, xC, xS, xSs, xG, xGs] at *
  simp only [evE, h, Out.bind_ok, h1]
theorem e_andk {a c : IE} {x y : R} {k l : Bool} (h : xE G b a e s = .ok x s) (h1 : x.d = .bl k) (h2 : xE G b c e s = .ok y s) (h3 : y = .v (.bl l)) : xE G b (.and a c) e s = .ok (.v (.bl (k && l))) s := by
  simp only [xE, xEs, xT, xI, xO, xC, xS, xSs, xG, xGs] at *
  cases k
  · simp only [evE, h, Out.bind_ok, h1, Bool.false_and]
  · simp only [evE, h, Out.bind_ok, h1, h2, h3, Bool.true_and]
theorem e_or1 {a c : IE} {x : R} (h : xE G b a e s = .ok x s1) (h1 : x.d = .bl true) : xE G b (.or a c) e s = .ok (.v (.bl true)) s1 := by
  simp only [xE, xEs, xT, xI, xO, xC, xS, xSs, xG, xGs] at *
  simp only [evE, h, Out.bind_ok, h1]
theorem e_or0 {a c : IE} {x : R} {o : Out R} (h : xE G b a e s = .ok x s1) (h1 : x.d = .bl false) (h2 : xE G b c e s1 = o) : xE G b (.or a c) e s = o := by
  simp only [xE, xEs, xT, xI, xO, xC, xS, xSs, xG, xGs] at *
  simp only [evE, h, Out.bind_ok, h1, h2]
theorem e_not {a : IE} {x : R} {k : Bool} (h : xE G b a e s = .ok x s1) (h1 : x.d = .bl k) : xE G b (.not a) e s = .ok (.v (.bl !k)) s1 := by
  simp only [xE, xEs, xT, xI, xO, xC, xS, xSs, xG, xGs] at *
  simp only [evE, h, Out.bind_ok, h1]
theorem e_dnewT : xE G b .dnewT e s = .ok (.n (.dt [])) s := by
  simp only [xE, xEs, xT, xI, xO, xC, xS, xSs, xG, xGs] at *
  rfl
theorem e_dnewK : xE G b .dnewK e s = .ok (.n (.dk [])) s := by
  simp only [xE, xEs, xT, xI, xO, xC, xS, xSs, xG, xGs] at *
  rfl
theorem e_disp {k v : IE} {x y : R} {q : Key} (h : xE G b k e s = .ok x s1) (h2 : xE G b v e s1 = .ok y s2) (h3 : keyOf x.d = some q) : xE G b (.disp k v) e s = .ok (.n (.dk [(q, y.d)])) s2 := by
  simp only [xE] at *
  simp only [evE, h, h2, Out.bind_ok, h3]
theorem e_muT : xE G b (.mu .dnewT) e s = .ok (.v (.cell s.length)) (s ++ [.dt []]) := by
  simp only [xE, xEs, xT, xI, xO, xC, xS, xSs, xG, xGs] at *
  rfl
theorem e_sl {a : IE} {lo hi : IO} {x r : R} {l h : Option Int} (h1 : xE G b a e s = .ok x s1) (h2 : xO G b lo e s1 = .ok l s2) (h3 : xO G b hi e s2 = .ok h s3) (h4 : slR x.d l h s3 = some r) : xE G b (.sl a lo hi) e s = .ok r s3 := by
  simp only [xE, xEs, xT, xI, xO, xC, xS, xSs, xG, xGs] at *
  simp only [evE, h1, h2, h3, Out.bind_ok, h4, Out.of_some]
theorem o_none : xO G b .none e s = .ok none s := by
  simp only [xE, xEs, xT, xI, xO, xC, xS, xSs, xG, xGs] at *
  rfl
theorem o_some {a : IE} {x : R} {i : Int} (h : xE G b a e s = .ok x s1) (h1 : x.d = .int i) : xO G b (.some a) e s = .ok (some i) s1 := by
  simp only [xE, xEs, xT, xI, xO, xC, xS, xSs, xG, xGs] at *
  simp only [evO, h, Out.bind_ok, h1]
theorem i_tup {a : IE} {r : R} {ds : List D} (h : xE G b a e s = .ok r s1) (hr : r.d = .tup ds) : xI G b (.seq a) e s = .ok (.l ds) s1 := by
  simp only [xE, xEs, xT, xI, xO, xC, xS, xSs, xG, xGs] at *
  simp only [evI, h, Out.bind_ok, hr]
theorem i_frz {a : IE} {r : R} {k : Bool} {ds : List D} (h : xE G b a e s = .ok r s1) (hr : frzSeq r.d = some (k, ds)) : xI G b (.seq a) e s = .ok (.l ds) s1 := by
  simp only [xE, xEs, xT, xI, xO, xC, xS, xSs, xG, xGs] at *
  simp only [evI, h, Out.bind_ok]
  generalize r.d = d at hr
  cases d <;> simp only [frzSeq, reduceCtorEq] at hr <;> cases hr <;> rfl
theorem i_zip {a c : IE} {x y : R} {k l : Bool} {xs ys : List D} (h : xE G b a e s = .ok x s1) (h2 : xE G b c e s1 = .ok y s2) (h3 : frzSeq x.d = some (k, xs)) (h4 : frzSeq y.d = some (l, ys)) : xI G b (.zip a c) e s = .ok (.l (pairs2 xs ys)) s2 := by
  simp only [xE, xEs, xT, xI, xO, xC, xS, xSs, xG, xGs] at *
  simp only [evI, h, h2, Out.bind_ok, h3, h4]
theorem i_cell {a : IE} {r : R} {n : Nat} {ds : List D} (h : xE G b a e s = .ok r s1) (hr : r.d = .cell n) (hn : s1[n]? = some (.lst ds)) : xI G b (.seq a) e s = .ok (.c n) s1 := by
  simp only [xE, xEs, xT, xI, xO, xC, xS, xSs, xG, xGs] at *
  simp only [evI, h, Out.bind_ok, hr, hn]
theorem s_name' {i : Nat} {x : IE} {r : R} (h : xE G b x e s = .ok r s1) (he : e.set i (some r.d) = e1) : xS G b (.asg (.name i) x) e s = .ok (.nx, e1) s1 := by
  rw [← he]; exact s_name h
theorem s_sub {a i x : IE} {r p q : R} (h : xE G b x e s = .ok r s1) (h1 : xE G b a e s1 = .ok p s2) (h2 : xE G b i e s2 = .ok q s3) {s4 : Store} (h3 : setR b p.d q.d r.d s3 = .ok () s4) : xS G b (.asg (.sub a i) x) e s = .ok (.nx, e) s4 := by
  simp only [xE, xEs, xT, xI, xO, xC, xS, xSs, xG, xGs] at *
  simp only [exS, h, Out.bind_ok, asG, h1, h2, h3]
theorem s_fld {a x : IE} {f : Str} {r p : R} (h : xE G b x e s = .ok r s1) (h1 : xE G b a e s1 = .ok p s2) (h3 : setF G.na b p.d f r.d s2 = .ok () s3) : xS G b (.asg (.fld a f) x) e s = .ok (.nx, e) s3 := by
  simp only [xE, xEs, xT, xI, xO, xC, xS, xSs, xG, xGs] at *
  simp only [exS, h, Out.bind_ok, asG, h1, h3]
theorem s_tup {gs : IGs} {x : IE} {r : R} {ds : List D} (h : xE G b x e s = .ok r s1) (hr : r.d = .tup ds ∨ r.d = .lst ds) (h2 : xGs G b gs ds e s1 = .ok e1 s2) : xS G b (.asg (.tup gs) x) e s = .ok (.nx, e1) s2 := by
  simp only [xE, xEs, xT, xI, xO, xC, xS, xSs, xG, xGs] at *
  rcases hr with hr | hr <;> simp only [exS, h, Out.bind_ok, asG, hr, h2]
theorem s_par {i j : Nat} {x y : IE} {r q : R} (h : xE G b x e s = .ok r s1) (h1 : xE G b y e s1 = .ok q s2) (he : (e.set i (some r.d)).set j (some q.d) = e1) : xS G b (.par i j x y) e s = .ok (.nx, e1) s2 := by
  simp only [xE, xEs, xT, xI, xO, xC, xS, xSs, xG, xGs] at *
  simp only [exS, h, Out.bind_ok, h1, he]
theorem s_aug {i : Nat} {o : Op2} {x : IE} {r : R} {n m k : Int} (h0 : e[i]? = some (some (.int n))) (h : xE G b x e s = .ok r s1) (hr : r.d = .int m) (ho : o = .add ∨ o = .sub) (h1 : intOp o n m = some k) (he : e.set i (some (.int k)) = e1) : xS G b (.aug i o x) e s = .ok (.nx, e1) s1 := by
  simp only [xE, xEs, xT, xI, xO, xC, xS, xSs, xG, xGs] at *
  simp only [exS, h0, h, Out.bind_ok, hr, h1, ho, if_true, he]
theorem s_pass : xS G b .pass e s = .ok (.nx, e) s := by
  simp only [xE, xEs, xT, xI, xO, xC, xS, xSs, xG, xGs] at *
  rfl
theorem s_brk : xS G b .brk e s = .ok (.bk, e) s := by
  simp only [xE, xEs, xT, xI, xO, xC, xS, xSs, xG, xGs] at *
  rfl
theorem s_cont : xS G b .cont e s = .ok (.ct, e) s := by
  simp only [xE, xEs, xT, xI, xO, xC, xS, xSs, xG, xGs] at *
  rfl
theorem s_retN : xS G b .retN e s = .ok (.ret (.v .non), e) s := by
  simp only [xE, xEs, xT, xI, xO, xC, xS, xSs, xG, xGs] at *
  rfl
theorem ss_ret' {x : IS} {xs : ISs} {r : R} (h : xS G b x e s = .ok (.ret r, e1) s1) : xSs G b (.cons x xs) e s = .ok (.ret r, e1) s1 := by
  exact ss_ret h
theorem ss_bk {x : IS} {xs : ISs} (h : xS G b x e s = .ok (.bk, e1) s1) : xSs G b (.cons x xs) e s = .ok (.bk, e1) s1 := by
  simp only [xE, xEs, xT, xI, xO, xC, xS, xSs, xG, xGs] at *
  simp only [exSs, h, Out.bind_ok]
theorem ss_ct {x : IS} {xs : ISs} (h : xS G b x e s = .ok (.ct, e1) s1) : xSs G b (.cons x xs) e s = .ok (.ct, e1) s1 := by
  simp only [xE, xEs, xT, xI, xO, xC, xS, xSs, xG, xGs] at *
  simp only [exSs, h, Out.bind_ok]
theorem g_name {i : Nat} {d : D} (he : e.set i (some d) = e1) : xG G b (.name i) d e s = .ok e1 s := by
  simp only [xE, xEs, xT, xI, xO, xC, xS, xSs, xG, xGs] at *
  simp only [asG, he]
theorem g_tup {gs : IGs} {ds : List D} {o : Out En.Env} (h : xGs G b gs ds e s = o) : xG G b (.tup gs) (.tup ds) e s = o := by
  simp only [xE, xEs, xT, xI, xO, xC, xS, xSs, xG, xGs] at *
  simp only [asG, h]
theorem gs_nil : xGs G b .nil [] e s = .ok e s := by
  simp only [xE, xEs, xT, xI, xO, xC, xS, xSs, xG, xGs] at *
  rfl
theorem gs_cons {g : IG} {gs : IGs} {d : D} {ds : List D} {o : Out En.Env} (h : xG G b g d e s = .ok e1 s1) (h2 : xGs G b gs ds e1 s1 = o) : xGs G b (.cons g gs) (d :: ds) e s = o := by
  simp only [xE, xEs, xT, xI, xO, xC, xS, xSs, xG, xGs] at *
  simp only [asGs, h, Out.bind_ok, h2]
/-- the body of a for, once -/
theorem b_for {g : IG} {a : ISs} {d : D} {o : Out (Ctl × En.Env)} (h : xG G b g d e s = .ok e1 s1) (h2 : xSs G b a e1 s1 = o) : ((xG G b g d e s).bind fun e2 s3 => xSs G b a e2 s3) = o := by
  simp only [xE, xEs, xT, xI, xO, xC, xS, xSs, xG, xGs] at *
  simp only [h, Out.bind_ok, h2]
/-- an item of a comprehension -/
theorem b_lc {own : List (Str × Nat)} {g : IG} {t : IC} {x : IE} {d : D} {r : R} (h : xG G b g d (wipeE e (own.map (·.2))) s = .ok e1 s1) (h2 : xC G b t e1 s1 = .ok true s2) (h3 : xE G b x e1 s2 = .ok r s3) :
    ((xG G b g d (wipeE e (own.map (·.2))) s).bind fun e2 s2 => (xC G b t e2 s2).bind fun k s3 => if k then (xE G b x e2 s3).bind fun r s4 => .ok [r.d] s4 else .ok [] s3) = .ok [r.d] s3 := by
  simp only [xE, xEs, xT, xI, xO, xC, xS, xSs, xG, xGs] at *
  simp only [h, h2, h3, Out.bind_ok, if_true]
theorem b_lc0 {own : List (Str × Nat)} {g : IG} {t : IC} {x : IE} {d : D} (h : xG G b g d (wipeE e (own.map (·.2))) s = .ok e1 s1) (h2 : xC G b t e1 s1 = .ok false s2) :
    ((xG G b g d (wipeE e (own.map (·.2))) s).bind fun e2 s2 => (xC G b t e2 s2).bind fun k s3 => if k then (xE G b x e2 s3).bind fun r s4 => .ok [r.d] s4 else .ok [] s3) = .ok [] s2 := by
  simp only [xE, xEs, xT, xI, xO, xC, xS, xSs, xG, xGs] at *
  simp only [h, h2, Out.bind_ok, Bool.false_eq_true, if_false]
theorem c_yes : xC G b .yes e s = .ok true s := by
  simp only [xE, xEs, xT, xI, xO, xC, xS, xSs, xG, xGs] at *
  rfl
theorem c_t {t : IT} {o : Out Bool} (h : xT G b t e s = o) : xC G b (.t t) e s = o := by
  simp only [xE, xEs, xT, xI, xO, xC, xS, xSs, xG, xGs] at *
  exact h
end
def bodyF (G : Glo) (b : Nat) (g : IG) (a : ISs) (d : D) (e : En.Env) (s : Store) : Out (Ctl × En.Env) := (xG G b g d e s).bind fun e2 s3 => xSs G b a e2 s3
theorem s_forB {G : Glo} {b : Nat} {g : IG} {it : II} {a : ISs} {e : En.Env} {s s1 : Store} {ds : List D} {o : Out (Ctl × En.Env)} (h : xI G b it e s = .ok (.l ds) s1) (h2 : forL (bodyF G b g a) ds e s1 = o) : xS G b (.for_ g it a) e s = o := by
  unfold bodyF at h2
  simp only [xE, xEs, xT, xI, xO, xC, xS, xSs, xG, xGs] at *
  exact s_for_0 h h2
theorem b_forB {G : Glo} {b : Nat} {g : IG} {a : ISs} {e e1 : En.Env} {s s1 : Store} {d : D} {o : Out (Ctl × En.Env)} (h : xG G b g d e s = .ok e1 s1) (h2 : xSs G b a e1 s1 = o) : bodyF G b g a d e s = o := by
  exact b_for h h2
def itemF (G : Glo) (b : Nat) (own : List (Str × Nat)) (g : IG) (t : IC) (x : IE) (e : En.Env) (d : D) (s : Store) : Out (List D) :=
  (xG G b g d (wipeE e (own.map (·.2))) s).bind fun e2 s2 => (xC G b t e2 s2).bind fun k s3 => if k then (xE G b x e2 s3).bind fun r s4 => .ok [r.d] s4 else .ok [] s3
theorem e_lcB {G : Glo} {b : Nat} {own : List (Str × Nat)} {g : IG} {it : II} {t : IC} {x : IE} {e : En.Env} {s s1 s2 : Store} {ds : List D} {r : List D} (h : xI G b it e s = .ok (.l ds) s1) (hl : ds.length ≤ 100000) (h2 : lcL (itemF G b own g t x e) ds s1 = .ok r s2) : xE G b (.lc own g it t x) e s = .ok (.n (.lst r)) s2 := by
  exact e_lc h hl h2
theorem e_lcC {G : Glo} {b : Nat} {own : List (Str × Nat)} {g : IG} {it : II} {t : IC} {x : IE} {e : En.Env} {s s1 s2 : Store} {n : Nat} {r : List D} (h : xI G b it e s = .ok (.c n) s1) (h2 : lcC (itemF G b own g t x e) n G.F 0 s1 = .ok r s2) (hl : r.length ≤ 100000) : xE G b (.lc own g it t x) e s = .ok (.n (.lst r)) s2 := by
  unfold itemF at h2
  simp only [xE, xEs, xT, xI, xO, xC, xS, xSs, xG, xGs] at *
  simp only [evE, h, Out.bind_ok, h2, hl, if_true]
theorem b_lcB {G : Glo} {b : Nat} {own : List (Str × Nat)} {g : IG} {t : IC} {x : IE} {e e1 : En.Env} {s s1 s2 s3 : Store} {d : D} {r : R} (h : xG G b g d (wipeE e (own.map (·.2))) s = .ok e1 s1) (h2 : xC G b t e1 s1 = .ok true s2) (h3 : xE G b x e1 s2 = .ok r s3) : itemF G b own g t x e d s = .ok [r.d] s3 := by
  exact b_lc h h2 h3
theorem b_lcB0 {G : Glo} {b : Nat} {own : List (Str × Nat)} {g : IG} {t : IC} {x : IE} {e e1 : En.Env} {s s1 s2 : Store} {d : D} (h : xG G b g d (wipeE e (own.map (·.2))) s = .ok e1 s1) (h2 : xC G b t e1 s1 = .ok false s2) : itemF G b own g t x e d s = .ok [] s2 := by
  exact b_lc0 h h2
theorem end_v {b : Nat} {d : D} {s1 : Store} (h : s1.length = b) (hd : cb b d = true) : endR b (.ret (.v d)) s1 = .ok (.v d) s1 := by
  subst h
  simp [endR, hd]
theorem end_n {b : Nat} {o : O} {s1 : Store} (h : s1.length = b) (hd : cbO b o = true) : endR b (.ret (.n o)) s1 = .ok (.n o) s1 := by
  subst h
  simp [endR, hd]
theorem end_int {b : Nat} {i : Int} {s1 : Store} (h : s1.length = b) : endR b (.ret (.v (.int i))) s1 = .ok (.v (.int i)) s1 := end_v h rfl
theorem end_bl {b : Nat} {i : Bool} {s1 : Store} (h : s1.length = b) : endR b (.ret (.v (.bl i))) s1 = .ok (.v (.bl i)) s1 := end_v h rfl
theorem dec0 {p : Prop} [Decidable p] (h : ¬ p) : some (decide p) = some false := by rw [decide_eq_false h]
theorem dec1 {p : Prop} [Decidable p] (h : p) : some (decide p) = some true := by rw [decide_eq_true h]
theorem obj_at {s : Store} {q c : Nat} {fs : List (Str × D)} (h : s[q]? = some (.ins c fs)) : objOf s (.cell q) = some (c, fs) := by simp only [objOf, h]
theorem run_F {i : DI} {G : Glo} {b : Nat} (h : i.keep = false) : i.run G b = runF G i.d := by simp [DI.run, h]
theorem run_K {i : DI} {G : Glo} {b : Nat} (h : i.keep = true) : i.run G b = runK G b i.d := by simp [DI.run, h]
theorem runK_ret {G : Glo} {b : Nat} {d : En.Def} {xs : List D} {s s1 : Store} {e' : En.Env} {r : R} (hl : xs.length = d.params) (h : xSs G b d.body (envOf d xs) s = .ok (.ret r, e') s1) : runK G b d xs s = .ok r s1 := by
  simp only [xE, xEs, xT, xI, xO, xC, xS, xSs, xG, xGs] at *
  simp only [runK, if_pos hl, h, Out.bind_ok, endK]
theorem runK_nx {G : Glo} {b : Nat} {d : En.Def} {xs : List D} {s s1 : Store} {e' : En.Env} (hl : xs.length = d.params) (h : xSs G b d.body (envOf d xs) s = .ok (.nx, e') s1) : runK G b d xs s = .ok (.v .non) s1 := by
  simp only [xE, xEs, xT, xI, xO, xC, xS, xSs, xG, xGs] at *
  simp only [runK, if_pos hl, h, Out.bind_ok, endK]
theorem forL_cons {f : D → En.Env → Store → Out (Ctl × En.Env)} {d : D} {ds : List D} {e e1 : En.Env} {s s1 : Store} {o : Out (Ctl × En.Env)} (h : f d e s = .ok (.nx, e1) s1) (h2 : forL f ds e1 s1 = o) : forL f (d :: ds) e s = o := by simp [forL, h, Ctl.goes, h2]
theorem lcL_cons {f : D → Store → Out (List D)} {d : D} {ds : List D} {s s1 s2 : Store} {x r : List D} (h : f d s = .ok x s1) (h2 : lcL f ds s1 = .ok r s2) : lcL f (d :: ds) s = .ok (x ++ r) s2 := by simp only [lcL, h, h2, Out.bind_ok]
/-- a comprehension without effect -/
theorem lcL_map {f : D → Store → Out (List D)} {s : Store} (g : D → D) : ∀ {ds : List D}, (∀ d ∈ ds, f d s = .ok [g d] s) → lcL f ds s = .ok (ds.map g) s
  | [], _ => rfl
  | d :: ds, h => lcL_cons (x := [g d]) (h d (by simp)) (lcL_map g fun a m => h a (List.mem_cons_of_mem _ m))
theorem run_ret {G : Glo} {d : En.Def} {xs : List D} {s s1 s' : Store} {e' : En.Env} {r r' : R} (hl : xs.length = d.params) (h : xSs G s.length d.body (envOf d xs) s = .ok (.ret r, e') s1) (h2 : endR s.length (.ret r) s1 = .ok r' s') : runF G d xs s = .ok r' s' := by
  exact run_of hl h h2
theorem eq_int {gd : Nat → List (Str × D)} {s : Store} (i j : Int) : cmpR gd .eq (.int i) (.int j) s = some (decide (i = j)) := by simp [cmpR, eqD, flat, scal]
theorem ne_int {gd : Nat → List (Str × D)} {s : Store} (i j : Int) : cmpR gd .ne (.int i) (.int j) s = some (!decide (i = j)) := by simp [cmpR, eqD, flat, scal]

end En
local macro_rules
  | `(tactic| exists $ts,*) => do
    let ts := ts.getElems
    let tries ← ts.mapM fun t => `(tactic| exact $t)
    let leaf ← `(tacticSeq| first $[| $tries:tactic]* | exact En.eq_int _ _ | exact En.ne_int _ _ | exact rfl | assumption | (simp only [List.set_cons_succ, List.set_cons_zero, En.R.d_v, En.R.d_lst]; done) | (simp only [List.set_cons_succ, List.set_cons_zero, En.R.d_v, En.R.d_lst]; exact rfl))
    `(tactic| first
      | exact En.es_nil
      | (apply En.es_cons; (focus exists $ts,*); (focus exists $ts,*))
      | exact En.e_int | exact En.e_str | exact En.e_bl | exact En.e_non | exact En.e_gl | exact En.e_dnewT | exact En.e_dnewK
      | (apply En.e_var; (focus exact rfl))
      | (apply En.e_op; (focus exists $ts,*); (focus exists $ts,*); (focus ($leaf)))
      | (apply En.e_cmp; (focus exists $ts,*); (focus exists $ts,*); (focus ($leaf)))
      | (apply En.e_ix; (focus exists $ts,*); (focus exists $ts,*); (focus ($leaf)))
      | (apply En.e_fld; (focus exists $ts,*); (focus ($leaf)))
      | (apply En.e_blt; (focus exists $ts,*); (focus ($leaf)))
      | (apply En.e_disp; (focus exists $ts,*); (focus exists $ts,*); (focus ($leaf)))
      | (apply En.e_neg; (focus exists $ts,*); (focus ($leaf)))
      | (apply En.e_not; (focus exists $ts,*); (focus ($leaf)))
      | (apply En.e_isin; (focus exists $ts,*); (focus ($leaf)); (focus exact rfl); (focus ($leaf)))
      | (apply En.e_tup; (focus exists $ts,*); (focus exact Nat.le_of_ble_eq_true rfl))
      | (apply En.e_lst; (focus exists $ts,*); (focus exact Nat.le_of_ble_eq_true rfl))
      | (apply En.e_mu; (focus exists $ts,*))
      | (apply En.e_call; (focus exists $ts,*); (focus ($leaf)))
      | (apply En.e_mcall; (focus exists $ts,*); (focus ($leaf)); (focus ($leaf)); (focus ($leaf)); (focus exists $ts,*); (focus ($leaf)))
      | (apply En.e_makeM; (focus exists $ts,*); (focus ($leaf)))
      | (apply En.e_mt; (focus exists $ts,*); (focus ($leaf)); (focus exists $ts,*); (focus ($leaf)))
      | (apply En.e_sl; (focus exists $ts,*); (focus exists $ts,*); (focus exists $ts,*); (focus ($leaf)))
      | exact En.o_none
      | (apply En.o_some; (focus exists $ts,*); (focus ($leaf)))
      | (apply En.t_e; (focus exists $ts,*); (focus ($leaf)))
      | (apply En.t_not1; (focus exists $ts,*))
      | (apply En.t_not0; (focus exists $ts,*))
      | (apply En.t_not; (focus exists $ts,*))
      | (apply En.t_or1; (focus exists $ts,*))
      | (apply En.t_or0; (focus exists $ts,*); (focus exists $ts,*))
      | (apply En.t_and1; (focus exists $ts,*); (focus exists $ts,*))
      | (apply En.t_and0; (focus exists $ts,*))
      | exact En.ss_nil
      | (apply En.ss_nx; (focus exists $ts,*); (focus exists $ts,*))
      | (apply En.ss_ret; (focus exists $ts,*))
      | (apply En.ss_retc; (focus exists $ts,*))
      | (apply En.s_name'; (focus exists $ts,*); (focus first | (simp only [List.set_cons_succ, List.set_cons_zero, En.R.d_v, En.R.d_lst]; exact rfl) | exact rfl))
      | (apply En.s_par; (focus exists $ts,*); (focus exists $ts,*); (focus first | (simp only [List.set_cons_succ, List.set_cons_zero, En.R.d_v, En.R.d_lst]; exact rfl) | exact rfl))
      | (apply En.s_sub; (focus exists $ts,*); (focus exists $ts,*); (focus exists $ts,*); (focus ($leaf)))
      | (apply En.s_fld; (focus exists $ts,*); (focus exists $ts,*); (focus ($leaf)))
      | (apply En.s_expr; (focus exists $ts,*))
      | (apply En.s_ret; (focus exists $ts,*))
      | (apply En.s_retF; (focus exists $ts,*))
      | (apply En.s_if1; (focus exists $ts,*); (focus exists $ts,*))
      | (apply En.s_if0; (focus exists $ts,*); (focus exists $ts,*))
      | (apply En.i_rng1; (focus exists $ts,*); (focus ($leaf)); (focus first | decide | omega))
      | (apply En.i_frz; (focus exists $ts,*); (focus ($leaf)))
      | (apply En.i_zip; (focus exists $ts,*); (focus exists $ts,*); (focus ($leaf)); (focus ($leaf)))
      | (apply En.s_forB; (focus exists $ts,*); (focus ($leaf)))
      | (apply En.b_forB; (focus exists $ts,*); (focus exists $ts,*))
      | (apply En.e_lcB; (focus exists $ts,*); (focus first | exact Nat.le_of_ble_eq_true rfl | ($leaf)); (focus ($leaf)))
      | (apply En.g_name; (focus first | (simp only [List.set_cons_succ, List.set_cons_zero, En.R.d_v, En.R.d_lst]; exact rfl) | exact rfl))
      | (apply En.g_tup; (focus exists $ts,*))
      | exact En.gs_nil
      | (apply En.gs_cons; (focus exists $ts,*); (focus exists $ts,*))
      | exact En.c_yes
      | (apply En.c_t; (focus exists $ts,*))
      | ($leaf))

set_option Elab.async false
set_option linter.all false
set_option maxRecDepth 100000
set_option maxHeartbeats 1000000
namespace En
open PySem PySem.Spec PyProof.Rows L2
/-- a pool -/
def pl (c r t : Int) : O := .lst [.int c, .int r, .int t]
def DrawAt (f : Nat → List D → Store → Out R) : Prop := ∀ (b n : Nat) (c r t m : Int) (s : Store), s[n]? = some (pl c r t) → 0 < m → m < 1000000000 →
  ∃ (g : Nat) (c' r' t' : Int), (g : Int) < m ∧ f b [.cell n, .int m] s = .ok (.v (.int (g : Nat))) (s.set n (pl c' r' t'))
theorem eq_strk {gd : Nat → List (Str × D)} {s : Store} {i j : Str} {k : Bool} (h : decide (i = j) = k) : cmpR gd .eq (.str i) (.str j) s = some k := by rw [← h]; simp [cmpR, eqD, flat, scal]
theorem gt_int {gd : Nat → List (Str × D)} {s : Store} (i j : Int) : cmpR gd .gt (.int i) (.int j) s = some (decide (j < i)) := rfl
theorem mod_op {s : Store} (i : Int) {j : Int} (h : 0 < j) : opR .mod (.int i) (.int j) s = some (.v (.int (i.fmod j))) := by
  simp only [opR, intOp_mod i (Int.ne_of_gt h), Option.map_some]
theorem fdiv_op {s : Store} (i : Int) {j : Int} (h : 0 < j) (h2 : j < 1000000000) : opR .fdiv (.int i) (.int j) s = some (.v (.int (i.fdiv j))) := by
  have : decide (j ≠ 0 ∧ j.natAbs < 1073741824) = true := by rw [decide_eq_true_eq]; omega
  simp only [opR, intOp, this, if_true, Option.map_some]
theorem add_op {s : Store} (i j : Int) : opR .add (.int i) (.int j) s = some (.v (.int (i + j))) := rfl
theorem sub_op {s : Store} (i j : Int) : opR .sub (.int i) (.int j) s = some (.v (.int (i - j))) := rfl
theorem mul_op {s : Store} (i j : Int) (h1 : -18446744073709551616 < i) (h2 : i < 18446744073709551616) : opR .mul (.int i) (.int j) s = some (.v (.int (i * j))) := by
  simp only [opR, intOp_mul h1 h2, Option.map_some]
theorem pl_ix0 {gd : Nat → List (Str × D)} {s : Store} {n : Nat} {c r t : Int} (h : s[n]? = some (pl c r t)) : ixR gd (.cell n) (.int 0) s = some (.v (.int c)) := by
  have h : s[n]? = some (.lst [.int c, .int r, .int t]) := h
  simp only [ixR, seqOf, h, at3_0, Option.map_some]
theorem pl_ix1 {gd : Nat → List (Str × D)} {s : Store} {n : Nat} {c r t : Int} (h : s[n]? = some (pl c r t)) : ixR gd (.cell n) (.int 1) s = some (.v (.int r)) := by
  have h : s[n]? = some (.lst [.int c, .int r, .int t]) := h
  simp only [ixR, seqOf, h, at3_1, Option.map_some]
theorem pl_ix2 {gd : Nat → List (Str × D)} {s : Store} {n : Nat} {c r t : Int} (h : s[n]? = some (pl c r t)) : ixR gd (.cell n) (.int 2) s = some (.v (.int t)) := by
  have h : s[n]? = some (.lst [.int c, .int r, .int t]) := h
  simp only [ixR, seqOf, h, at3_2, Option.map_some]
theorem pl_set1 {b : Nat} {s : Store} {n : Nat} {c r t : Int} (h : s[n]? = some (pl c r t)) (x : Int) : setR b (.cell n) (.int 1) (.int x) s = .ok () (s.set n (pl c x t)) := by
  have h : s[n]? = some (.lst [.int c, .int r, .int t]) := h
  have e : ixN [D.int c, D.int r, D.int t].length 1 = some 1 := rfl
  have w : okW b n (.int x) = true := by simp [okW, cb]
  simp only [setR, h, e, w, if_true]
  rfl
theorem pl_set2 {b : Nat} {s : Store} {n : Nat} {c r t : Int} (h : s[n]? = some (pl c r t)) (x : Int) : setR b (.cell n) (.int 2) (.int x) s = .ok () (s.set n (pl c r x)) := by
  have h : s[n]? = some (.lst [.int c, .int r, .int t]) := h
  have e : ixN [D.int c, D.int r, D.int t].length 2 = some 2 := rfl
  have w : okW b n (.int x) = true := by simp [okW, cb]
  simp only [setR, h, e, w, if_true]
  rfl
theorem lt_of_get {α : Type} {s : List α} {n : Nat} {x : α} (h : s[n]? = some x) : n < s.length := (List.getElem?_eq_some_iff.mp h).1
theorem set_get {α : Type} {s : List α} {n : Nat} {x y : α} (h : s[n]? = some x) : (s.set n y)[n]? = some y := by rw [List.getElem?_set_self (lt_of_get h)]
theorem draw_at (G : Glo) : DrawAt fun _ => runF G cDraw := fun b n c r t m s h hm hm2 => by
  by_cases hr : (1 : Int) < r
  · have hf := fmod_nn r hm
    refine ⟨(r.fmod m).toNat, c, r.fdiv m, t, by omega, ?_⟩
    have e : (((r.fmod m).toNat : Nat) : Int) = r.fmod m := Int.toNat_of_nonneg hf.1
    rw [e]
    apply run_ret rfl
    · unfold cDraw
      show xSs _ _ _ [some (.cell n), some (.int m), none, none] _ = _
      (exists pl_ix1 h, mod_op _ hm, fdiv_op _ hm hm2, dec1 hr, pl_set1 h _)
    · exact end_int (by simp)
  · have hf := fmod_nn (drawC c (t + 1)) hm
    refine ⟨((drawC c (t + 1)).fmod m).toNat, c, r, t + 1, by omega, ?_⟩
    have e : ((((drawC c (t + 1)).fmod m).toNat : Nat) : Int) = (drawC c (t + 1)).fmod m := Int.toNat_of_nonneg hf.1
    rw [e]
    have h2 := set_get (y := pl c r (t + 1)) h
    have eA : (c.fmod 2147483647 + 69621 * (t + 1)).fmod 2147483647 = drawA c (t + 1) := rfl
    have eB : (drawA c (t + 1) * drawA c (t + 1) + 48271 * (t + 1) + 11).fmod 2147483629 = drawB c (t + 1) := rfl
    have eC : (drawB c (t + 1) * drawB c (t + 1) + c.fmod 1000003).fmod 2147483587 = drawC c (t + 1) := rfl
    have bA := fmod_nn (c.fmod 2147483647 + 69621 * (t + 1)) (m := 2147483647) (by decide)
    rw [eA] at bA
    have bB := fmod_nn (drawA c (t + 1) * drawA c (t + 1) + 48271 * (t + 1) + 11) (m := 2147483629) (by decide)
    rw [eB] at bB
    have m1 := mod_op (s := s.set n (pl c r (t + 1))) (c.fmod 2147483647 + 69621 * (t + 1)) (j := 2147483647) (by decide)
    rw [eA] at m1
    have m2 := mod_op (s := s.set n (pl c r (t + 1))) (drawA c (t + 1) * drawA c (t + 1) + 48271 * (t + 1) + 11) (j := 2147483629) (by decide)
    rw [eB] at m2
    have m3 := mod_op (s := s.set n (pl c r (t + 1))) (drawB c (t + 1) * drawB c (t + 1) + c.fmod 1000003) (j := 2147483587) (by decide)
    rw [eC] at m3
    have q1 := mul_op (s := s.set n (pl c r (t + 1))) 69621 (t + 1) (by decide) (by decide)
    have q2 := mul_op (s := s.set n (pl c r (t + 1))) 48271 (t + 1) (by decide) (by decide)
    have q3 := mul_op (s := s.set n (pl c r (t + 1))) (drawA c (t + 1)) (drawA c (t + 1)) (by omega) (by omega)
    have q4 := mul_op (s := s.set n (pl c r (t + 1))) (drawB c (t + 1)) (drawB c (t + 1)) (by omega) (by omega)
    have m4 := mod_op (s := s.set n (pl c r (t + 1))) c (j := 2147483647) (by decide)
    have m5 := mod_op (s := s.set n (pl c r (t + 1))) c (j := 1000003) (by decide)
    have m6 := mod_op (s := s.set n (pl c r (t + 1))) (drawC c (t + 1)) hm
    apply run_ret rfl
    · unfold cDraw
      show xSs _ _ _ [some (.cell n), some (.int m), none, none] _ = _
      (exists pl_ix1 h, pl_ix2 h, dec0 hr, pl_set2 h _, pl_ix0 h2, pl_ix2 h2, q1, q2, q3, q4, m1, m2, m3, m4, m5, m6)
    · exact end_int (by simp)
/-- a draw, the store in a normal form -/
theorem draw_nx {f : Nat → List D → Store → Out R} (hd : DrawAt f) {s : Store} {n : Nat} (hn : n < s.length) (b : Nat) (c r t m : Int) (hm : 0 < m) (hm2 : m < 1000000000) :
    ∃ (g : Nat) (c' r' t' : Int), (g : Int) < m ∧ callR f b [.cell n, .int m] (s.set n (pl c r t)) = .ok (.v (.int (g : Nat))) (s.set n (pl c' r' t')) := by
  obtain ⟨g, c', r', t', h1, h2⟩ := hd b n c r t m (s.set n (pl c r t)) (by rw [List.getElem?_set_self hn]) hm hm2
  rw [List.set_set] at h2
  exact ⟨g, c', r', t', h1, callR_at rfl h2⟩
/-- a pick -/
theorem pick_at (G : Glo) {jd : Nat} (hd : DrawAt (G.fn jd)) {s : Store} {n : Nat} (hn : n < s.length) (c r t : Int) {row : List D} (h0 : 0 < row.length) (h1 : row.length < 1000000000) (hc : cbs s.length row = true) :
    ∃ d c' r' t', d ∈ row ∧ runF G (cPick jd) [.cell n, .lst row] (s.set n (pl c r t)) = .ok (.v d) (s.set n (pl c' r' t')) := by
  obtain ⟨g, c', r', t', g1, e⟩ := draw_nx hd hn s.length c r t row.length (by omega) (by omega)
  obtain ⟨d, ha, hm⟩ := atI_mem (xs := row) (g := (g : Int)) (by omega) g1
  refine ⟨d, c', r', t', hm, ?_⟩
  have hcd := cbs_iff.mp hc d hm
  have e2 : ixR G.gd (.lst row) (.int (g : Nat)) (s.set n (pl c' r' t')) = some (.v d) := by simp only [ixR, seqOf, ha, Option.map_some]
  have hl : (s.set n (pl c r t)).length = s.length := by simp
  apply run_ret rfl
  · rw [hl]
    unfold cPick
    show xSs _ _ _ [some (.cell n), some (.lst row)] _ = _
    (exists len_lst, e, e2)
  · rw [hl]
    exact end_v (by simp) hcd
end En

set_option Elab.async false
set_option linter.all false
set_option maxRecDepth 100000
set_option maxHeartbeats 1000000
namespace En
open PySem PySem.Spec PyProof.Rows L2
mutual
def plain : Nat → D → Bool
  | _, .non => true
  | _, .bl _ => true
  | _, .int _ => true
  | _, .str x => true
  | 0, _ => false
  | n + 1, .lst ds => decide (ds.length ≤ 100000) && plains n ds
  | n + 1, .tup ds => decide (ds.length ≤ 100000) && plains n ds
  | _, _ => false
def plains : Nat → List D → Bool
  | _, [] => true
  | n, d :: ds => plain n d && plains n ds
end
theorem plains_iff {n : Nat} : ∀ {ds : List D}, plains n ds = true ↔ ∀ d ∈ ds, plain n d = true
  | [] => by simp [plains]
  | d :: ds => by simp [plains, plains_iff]
theorem plain_cb : ∀ (n : Nat) (d : D), plain n d = true → cb 0 d = true
  | n, .non, _ => rfl
  | n, .bl _, _ => rfl
  | n, .int _, _ => rfl
  | n, .str _, _ => rfl
  | 0, .lst ds, h => by simp [plain] at h
  | 0, .tup ds, h => by simp [plain] at h
  | n + 1, .lst ds, h => by
    simp only [plain, Bool.and_eq_true] at h
    simp only [cb]
    exact cbs_iff.mpr fun d m => plain_cb n d (plains_iff.mp h.2 d m)
  | n + 1, .tup ds, h => by
    simp only [plain, Bool.and_eq_true] at h
    simp only [cb]
    exact cbs_iff.mpr fun d m => plain_cb n d (plains_iff.mp h.2 d m)
  | n, .dk _, h => by cases n <;> simp [plain] at h
  | n, .dt _, h => by cases n <;> simp [plain] at h
  | n, .obj _ _, h => by cases n <;> simp [plain] at h
  | n, .gd _, h => by cases n <;> simp [plain] at h
  | n, .kt _, h => by cases n <;> simp [plain] at h
  | n, .cell _, h => by cases n <;> simp [plain] at h
def cWhole : En.Def := { slots := 1, params := 1, body :=
    (.cons (.ret (.and (.isin (.var 0) .int) (.not (.isin (.var 0) .bool))))
    .nil) }
def sameB (js : Nat) : ISs := (.cons (.ifs (.not (.e (.call js (.cons (.ix (.var 0) (.var 2)) (.cons (.ix (.var 1) (.var 2)) .nil))))) (.cons (.ret (.bl false))
    .nil) .nil)
    .nil)
def cSame (jw js : Nat) : En.Def := { slots := 3, params := 2, body :=
    (.cons (.ifs (.e (.cmp .is_ (.var 1) .non)) (.cons (.ret (.cmp .is_ (.var 0) .non))
    .nil) .nil)
    (.cons (.ifs (.e (.isin (.var 1) .bool)) (.cons (.ret (.and (.isin (.var 0) .bool) (.cmp .eq (.var 0) (.var 1))))
    .nil) .nil)
    (.cons (.ifs (.e (.isin (.var 1) .int)) (.cons (.ret (.and (.call jw (.cons (.var 0) .nil)) (.cmp .eq (.var 0) (.var 1))))
    .nil) .nil)
    (.cons (.ifs (.e (.isin (.var 1) .str)) (.cons (.ret (.and (.isin (.var 0) .str) (.cmp .eq (.var 0) (.var 1))))
    .nil) .nil)
    (.cons (.ifs (.e (.isin (.var 1) .tuple)) (.cons (.ifs (.or (.not (.e (.isin (.var 0) .tuple))) (.e (.cmp .ne (.blt .len (.cons (.var 0) .nil)) (.blt .len (.cons (.var 1) .nil))))) (.cons (.ret (.bl false))
    .nil) .nil)
    .nil) (.cons (.ifs (.or (.not (.e (.isin (.var 0) .list))) (.e (.cmp .ne (.blt .len (.cons (.var 0) .nil)) (.blt .len (.cons (.var 1) .nil))))) (.cons (.ret (.bl false))
    .nil) .nil)
    .nil))
    (.cons (.for_ (.name 2) (.rng1 (.blt .len (.cons (.var 1) .nil))) (sameB js))
    (.cons (.ret (.bl true))
    .nil))))))) }
theorem eq_bl {gd : Nat → List (Str × D)} {s : Store} (i j : Bool) : cmpR gd .eq (.bl i) (.bl j) s = some (decide (i = j)) := by simp [cmpR, eqD, flat, scal]
theorem whole_int (G : Glo) (i : Int) (s : Store) : runF G cWhole [.int i] s = .ok (.v (.bl true)) s := by
  apply run_ret rfl
  · unfold cWhole
    show xSs _ _ _ [some (.int i)] _ = _
    apply ss_ret
    apply s_ret
    apply e_and1
    · (exists rfl)
    · exact rfl
    · apply e_not
      · (exists rfl)
      · exact rfl
  · exact end_bl rfl
def WholeOk (f : Nat → List D → Store → Out R) : Prop := ∀ i : Int, f 0 [.int i] [] = .ok (.v (.bl true)) []
/-- the same, up to a depth -/
def SameOk (n : Nat) (f : Nat → List D → Store → Out R) : Prop := ∀ d : D, plain n d = true → f 0 [d, d] [] = .ok (.v (.bl true)) []
theorem same_loop (G : Glo) {js n b : Nat} (ih : SameOk n (G.fn js)) {x y : D} {s : Store} {ds : List D} {k l : Bool} (hx : seqOf s x = some (k, ds)) (hy : seqOf s y = some (l, ds)) (hnx : ∀ z, x ≠ .str z) (hny : ∀ z, y ≠ .str z) (hp : plains n ds = true) :
    ∀ (dr : List D) (i : Nat) (x2 : Option D), ds.drop i = dr → ∃ x2', forL (bodyF G b (.name 2) (sameB js)) (rngL (i : Nat) dr.length) [some x, some y, x2] s = .ok (.nx, [some x, some y, x2']) s
  | [], i, x2, _ => ⟨x2, rfl⟩
  | d :: dr, i, x2, hd => by
    have hi : ds[i]? = some d := by
      have h1 : ds[i]? = (ds.drop i)[0]? := by simp
      rw [h1, hd]
      rfl
    have hd2 : ds.drop (i + 1) = dr := by
      have : ds.drop (i + 1) = (ds.drop i).drop 1 := by rw [List.drop_drop]
      rw [this, hd]
      rfl
    obtain ⟨x2', e⟩ := same_loop G (b := b) ih hx hy hnx hny hp dr (i + 1) (some (.int (i : Nat))) hd2
    have pd := plains_iff.mp hp d (List.mem_of_getElem? hi)
    have cd := plain_cb n d pd
    have i1 : ixR G.gd x (.int (i : Nat)) s = some (.v d) := by
      unfold ixR
      split
      · rename_i z _ _
        exact absurd rfl (hnx z)
      · rw [hx]
        simp only
        rw [atI_nat (v := d) hi]
        rfl
    have i2 : ixR G.gd y (.int (i : Nat)) s = some (.v d) := by
      unfold ixR
      split
      · rename_i z _ _
        exact absurd rfl (hny z)
      · rw [hy]
        simp only
        rw [atI_nat (v := d) hi]
        rfl
    have c1 : callR (G.fn js) b [d, d] s = .ok (.v (.bl true)) s := callR_of (by simp [cbs, cd]) (ih d pd)
    refine ⟨x2', forL_cons ?_ e⟩
    unfold sameB
    (exists i1, i2, c1)
theorem len_seq {s : Store} {x : D} {k : Bool} {ds : List D} (h : seqOf s x = some (k, ds)) (hn : ∀ z, x ≠ .str z) : bltR .len [x] s = some (.v (.int (ds.length : Nat))) := by
  have : lenD s x = some ds.length := by
    unfold lenD
    split
    · rename_i z
      exact absurd rfl (hn z)
    · rw [h]
  simp only [bltR, this, Option.map_some]
/-- two sequences of one kind and content -/
theorem same_seq (G : Glo) {jw js n : Nat} (ih : SameOk n (G.fn js)) {x y : D} {s : Store} {ds : List D} {k : Bool} (hx : seqOf s x = some (k, ds)) (hy : seqOf s y = some (k, ds)) (tx : tyOf s x = some (if k then .tuple else .list)) (ty : tyOf s y = some (if k then .tuple else .list)) (hl : ds.length ≤ 100000) (hp : plains n ds = true) :
    runF G (cSame jw js) [x, y] s = .ok (.v (.bl true)) s := by
  have hnx : ∀ z, x ≠ .str z := fun z e => by subst e; simp [seqOf] at hx
  have hny : ∀ z, y ≠ .str z := fun z e => by subst e; simp [seqOf] at hy
  have nn : isNon y = false := by
    cases y <;> first | rfl | simp [seqOf] at hy
  obtain ⟨x2', e⟩ := same_loop G (b := s.length) ih hx hy hnx hny hp ds 0 none rfl
  have lx := len_seq hx hnx
  have ly := len_seq hy hny
  have c1 : cmpR G.gd .is_ y .non s = some (isNon y) := rfl
  rw [nn] at c1
  have hl2 : ds.length < 1000000000000000000 := by omega
  apply run_ret rfl
  · unfold cSame
    show xSs _ _ _ [some x, some y, none] _ = _
    cases k
    · simp only [Bool.false_eq_true, if_false] at tx ty
      (exists c1, tx, ty, lx, ly, dec1 rfl, congrArg (fun b => some (!b)) (decide_eq_true rfl), e)
    · simp only [if_true] at tx ty
      (exists c1, tx, ty, lx, ly, dec1 rfl, congrArg (fun b => some (!b)) (decide_eq_true rfl), e)
  · exact end_bl rfl
theorem same_int (G : Glo) {jw js : Nat} (hw : WholeOk (G.fn jw)) (i : Int) (s : Store) : runF G (cSame jw js) [.int i, .int i] s = .ok (.v (.bl true)) s := by
  have c1 : callR (G.fn jw) s.length [.int i] s = .ok (.v (.bl true)) s := callR_of rfl (hw i)
  apply run_ret rfl
  · unfold cSame
    show xSs _ _ _ [some (.int i), some (.int i), none] _ = _
    apply ss_nx
    · (exists rfl)
    apply ss_nx
    · (exists rfl)
    apply ss_ret
    apply s_if1
    · (exists rfl)
    apply ss_ret
    apply s_ret
    apply e_and1
    · (exists c1)
    · exact rfl
    · (exists rfl)
  · simp [endR, cb]
theorem same_bl (G : Glo) {jw js : Nat} (i : Bool) (s : Store) : runF G (cSame jw js) [.bl i, .bl i] s = .ok (.v (.bl true)) s := by
  apply run_ret rfl
  · unfold cSame
    show xSs _ _ _ [some (.bl i), some (.bl i), none] _ = _
    apply ss_nx
    · (exists rfl)
    apply ss_ret
    apply s_if1
    · (exists rfl)
    apply ss_ret
    apply s_ret
    apply e_and1
    · (exists rfl)
    · exact rfl
    · (exists eq_bl _ _)
  · simp [endR, cb]
theorem same_str (G : Glo) {jw js : Nat} (i : Str) (s : Store) : runF G (cSame jw js) [.str i, .str i] s = .ok (.v (.bl true)) s := by
  apply run_ret rfl
  · unfold cSame
    show xSs _ _ _ [some (.str i), some (.str i), none] _ = _
    apply ss_nx
    · (exists rfl)
    apply ss_nx
    · (exists rfl)
    apply ss_nx
    · (exists rfl)
    apply ss_ret
    apply s_if1
    · (exists rfl)
    apply ss_ret
    apply s_ret
    apply e_and1
    · (exists rfl)
    · exact rfl
    · (exists eq_strk (k := true) (by simp))
  · simp [endR, cb]
theorem same_non (G : Glo) {jw js : Nat} (s : Store) : runF G (cSame jw js) [.non, .non] s = .ok (.v (.bl true)) s := by
  apply run_ret rfl
  · unfold cSame
    show xSs _ _ _ [some .non, some .non, none] _ = _
    (exists rfl)
  · simp [endR, cb, isNon]
theorem same_succ (G : Glo) {jw js n : Nat} (hw : WholeOk (G.fn jw)) (ih : SameOk n (G.fn js)) : SameOk (n + 1) fun _ => runF G (cSame jw js) := fun d h => by
  cases d with
  | non => exact same_non G _
  | bl i => exact same_bl G i _
  | int i => exact same_int G hw i _
  | str i => exact same_str G i _
  | lst ds =>
    simp only [plain, Bool.and_eq_true, decide_eq_true_eq] at h
    exact same_seq G ih (k := false) rfl rfl rfl rfl h.1 h.2
  | tup ds =>
    simp only [plain, Bool.and_eq_true, decide_eq_true_eq] at h
    exact same_seq G ih (k := true) rfl rfl rfl rfl h.1 h.2
  | dk _ => simp [plain] at h
  | dt _ => simp [plain] at h
  | obj _ _ => simp [plain] at h
  | gd _ => simp [plain] at h
  | kt _ => simp [plain] at h
  | cell _ => simp [plain] at h
theorem same_zero (G : Glo) {jw js : Nat} (hw : WholeOk (G.fn jw)) : SameOk 0 fun _ => runF G (cSame jw js) := fun d h => by
  cases d with
  | non => exact same_non G _
  | bl i => exact same_bl G i _
  | int i => exact same_int G hw i _
  | str i => exact same_str G i _
  | lst ds => simp [plain] at h
  | tup ds => simp [plain] at h
  | dk _ => simp [plain] at h
  | dt _ => simp [plain] at h
  | obj _ _ => simp [plain] at h
  | gd _ => simp [plain] at h
  | kt _ => simp [plain] at h
  | cell _ => simp [plain] at h
end En

set_option Elab.async false
set_option linter.all false
set_option maxRecDepth 100000
set_option maxHeartbeats 1000000
namespace En
open PySem PySem.Spec PyProof.Rows L2
theorem min2_nat {s : Store} (a b : Nat) : bltR .min2 [.int (a : Int), .int (b : Int)] s = some (.v (.int ((min a b : Nat) : Int))) := by
  simp only [bltR]
  by_cases h : b < a
  · have : (b : Int) < a := by omega
    rw [if_pos this, Nat.min_eq_right (by omega)]
  · have : ¬ (b : Int) < a := by omega
    rw [if_neg this, Nat.min_eq_left (by omega)]
theorem max2_nat {s : Store} (a b : Nat) : bltR .max2 [.int (a : Int), .int (b : Int)] s = some (.v (.int ((max a b : Nat) : Int))) := by
  simp only [bltR]
  by_cases h : b > a
  · have : (b : Int) > a := by omega
    rw [if_pos this, Nat.max_eq_right (by omega)]
  · have : ¬ (b : Int) > a := by omega
    rw [if_neg this, Nat.max_eq_left (by omega)]
theorem bx_nat (a b : Nat) : Builtin.bitXor (a : Int) (b : Int) = ((a ^^^ b : Nat) : Int) := by
  rw [Bits.bitXor_pp (by omega) (by omega)]
  rfl
theorem ba_nat (a b : Nat) : Builtin.bitAnd (a : Int) (b : Int) = ((a &&& b : Nat) : Int) := by
  rw [bitAnd_pp (by omega) (by omega)]
  rfl
theorem xor_nat {s : Store} (a b : Nat) : opR .bxor (.int (a : Int)) (.int (b : Int)) s = some (.v (.int ((a ^^^ b : Nat) : Int))) := by
  show some (R.v (.int (Builtin.bitXor (a : Int) (b : Int)))) = _
  rw [bx_nat]
theorem and_nat {s : Store} (a b : Nat) : opR .band (.int (a : Int)) (.int (b : Int)) s = some (.v (.int ((a &&& b : Nat) : Int))) := by
  show some (R.v (.int (Builtin.bitAnd (a : Int) (b : Int)))) = _
  rw [ba_nat]
theorem add_nat {s : Store} (a b : Nat) : opR .add (.int (a : Int)) (.int (b : Int)) s = some (.v (.int ((a + b : Nat) : Int))) := by
  show some (R.v (.int ((a : Int) + (b : Int)))) = _
  rw [Int.natCast_add]
theorem mul_nat {s : Store} (a b : Nat) (h : a < 1000) : opR .mul (.int (a : Int)) (.int (b : Int)) s = some (.v (.int ((a * b : Nat) : Int))) := by
  simp only [opR]
  rw [intOp_mul (by omega) (by omega), Int.natCast_mul]
  rfl
theorem fdiv2_nat {s : Store} (a : Nat) : opR .fdiv (.int (a : Int)) (.int 2) s = some (.v (.int ((a / 2 : Nat) : Int))) := by
  simp only [opR, intOp]
  rw [if_pos (by decide)]
  simp only [Option.map_some]
  rw [Int.fdiv_eq_ediv_of_nonneg _ (by omega)]
  rfl
theorem set_same {α : Type} {s : List α} {n : Nat} {x : α} (h : s[n]? = some x) : s.set n x = s := by
  apply List.ext_getElem?
  intro i
  by_cases hi : n = i
  · subst hi
    obtain ⟨hl, e⟩ := List.getElem?_eq_some_iff.mp h
    rw [List.getElem?_set_self hl, h]
  · rw [List.getElem?_set_ne hi]
theorem get_ne {α : Type} {s : List α} {n m : Nat} {x y : α} (h : s[n]? = some x) (h2 : s[m]? = some y) (h3 : x ≠ y) : n ≠ m := fun e => by
  subst e
  rw [h] at h2
  cases h2
  exact h3 rfl
theorem get_lt {α : Type} {s : List α} {n : Nat} {x : α} (h : s[n]? = some x) : n < s.length := (List.getElem?_eq_some_iff.mp h).1
theorem shl_nat {s : Store} (a b : Nat) (ha : a < 1000000) (hb : b ≤ 1000000) : opR .shl (.int (a : Nat)) (.int (b : Nat)) s = some (.v (.int ((a * 2 ^ b : Nat) : Int))) := by
  have : CPowD (a : Nat) (b : Nat) = true := by
    unfold CPowD
    rw [decide_eq_true_eq]
    refine ⟨by omega, by omega, ?_⟩
    have : (2 : Nat) ^ 64 = 18446744073709551616 := by decide
    omega
  simp only [opR, intOp, this, if_true, Option.map_some, Int.toNat_natCast]
  push_cast
  rfl
theorem shr_nat {s : Store} (a b : Nat) : opR .shr (.int (a : Nat)) (.int (b : Nat)) s = some (.v (.int ((a / 2 ^ b : Nat) : Int))) := by
  have : decide ((0 : Int) ≤ (b : Nat)) = true := by rw [decide_eq_true_eq]; omega
  simp only [opR, intOp, this, if_true, Option.map_some, Int.toNat_natCast]
  push_cast
  rfl
theorem sub_nat {s : Store} {a b : Nat} (h : b ≤ a) : opR .sub (.int (a : Nat)) (.int (b : Nat)) s = some (.v (.int ((a - b : Nat) : Int))) := by
  show some (R.v (.int ((a : Int) - (b : Int)))) = _
  rw [Int.ofNat_sub h]
theorem mul_natr {s : Store} (a b : Nat) (h : b < 1000) : opR .mul (.int (a : Int)) (.int (b : Int)) s = some (.v (.int ((a * b : Nat) : Int))) := by
  have : CMulD (a : Int) (b : Int) = true := by
    unfold CMulD
    rw [decide_eq_true_eq]
    right
    have : (2 : Int) ^ 64 = 18446744073709551616 := by decide
    omega
  simp only [opR, intOp, this, if_true, Option.map_some]
  push_cast
  rfl
theorem low1 (a : Nat) : a &&& 1 = a % 2 := Nat.and_one_is_mod a
variable {s : Store}
def wd (ls : List Nat) : List D := ls.map fun l => .int (l : Nat)
theorem wd_snoc (ls : List Nat) (l : Nat) : wd (ls ++ [l]) = wd ls ++ [.int (l : Nat)] := by simp [wd]
theorem wd_len (ls : List Nat) : (wd ls).length = ls.length := by simp [wd]
theorem app_own {gd : Nat → List (Str × D)} {b n : Nat} (s : Store) (ds : List D) (d : D) (hn : s.length = n) (hb : b ≤ n) (hl : ds.length < 100000) : mtR gd b .append (.cell n) [d] (s ++ [.lst ds]) = .ok (.v .non) (s ++ [.lst (ds ++ [d])]) := by
  subst hn
  rw [append_run (by simp) (okW_own d hb) hl]
  simp
theorem isl_own {n : Nat} (s : Store) (ds : List D) (hn : s.length = n) : isLst (s ++ [.lst ds]) (.cell n) = true := by
  subst hn
  exact isLst_cell (ds := ds) (by simp)
theorem take_app {α : Type} {n : Nat} {s r : List α} (h : s.length = n) : (s ++ r).take n = s := by
  subst h
  simp
theorem wd_cb (b : Nat) (ls : List Nat) : cbs b (wd ls) = true := by
  rw [cbs_iff]
  intro d m
  simp only [wd, List.mem_map] at m
  obtain ⟨l, _, rfl⟩ := m
  rfl
theorem drop_get {α : Type} {l r : List α} {a : α} {k : Nat} (h : l.drop k = a :: r) : l[k]? = some a ∧ l.drop (k + 1) = r := by
  have h1 : l[k]? = (l.drop k)[0]? := by simp
  refine ⟨by rw [h1, h]; rfl, ?_⟩
  have : l.drop (k + 1) = (l.drop k).drop 1 := by rw [List.drop_drop]
  rw [this, h]
  rfl
theorem at_wd {gd : Nat → List (Str × D)} {as : List Nat} {k a : Nat} (h : as[k]? = some a) : ixR gd (.lst (wd as)) (.int (k : Nat)) s = some (.v (.int (a : Nat))) := by
  simp only [ixR, seqOf]
  rw [atI_nat (v := .int (a : Nat)) (by simp [wd, h])]
  rfl
theorem len_wd {as : List Nat} : bltR .len [.lst (wd as)] s = some (.v (.int (as.length : Nat))) := by
  rw [len_lst, wd_len]
theorem eq_str {gd : Nat → List (Str × D)} {s : Store} {i j : Str} {k : Bool} (h : decide (i = j) = k) : cmpR gd .eq (.str i) (.str j) s = some k := by rw [← h]; simp [cmpR, eqD, flat, scal]
theorem rngL_wd (n : Nat) : ∀ k : Nat, rngL (k : Nat) n = wd ((List.range n).map (k + ·)) := by
  induction n with
  | zero => intro k; rfl
  | succ n ih =>
    intro k
    rw [List.range_succ_eq_map]
    simp only [rngL, wd, List.map_cons, List.map_map, Nat.add_zero]
    have := ih (k + 1)
    have e : ((k + 1 : Nat) : Int) = (k : Int) + 1 := by omega
    rw [e] at this
    rw [this, wd, List.map_map]
    congr 1
    apply List.map_congr_left
    intro a _
    simp only [Function.comp]
    congr 1
    omega
theorem rng0_wd (n : Nat) : rngL 0 n = wd (List.range n) := by
  have := rngL_wd n 0
  simp only [Nat.zero_add, List.map_id'] at this
  exact this
theorem sum_wd (ls : List Nat) : bltR .sum [.lst (wd ls)] s = some (.v (.int (ls.sum : Nat))) := by
  have h : intsOf (wd ls) = some (ls.map fun l : Nat => (l : Int)) := by
    induction ls with
    | nil => rfl
    | cons l ls ih =>
      have ih : intsOf (wd ls) = some (ls.map fun l : Nat => (l : Int)) := ih
      show intsOf (.int (l : Nat) :: wd ls) = _
      simp only [intsOf, ih, Option.map_some]
      rfl
  have h2 : ∀ ls : List Nat, (ls.map fun l : Nat => (l : Int)).sum = (ls.sum : Nat) := fun ls => by
    induction ls with
    | nil => rfl
    | cons l ls ih => simp [ih]
  simp only [bltR, seqOf, h, Option.map_some, h2]
theorem shl1 {s : Store} (b : Nat) (hb : b ≤ 1000000) : opR .shl (.int 1) (.int (b : Nat)) s = some (.v (.int ((2 ^ b : Nat) : Int))) := by
  have := shl_nat (s := s) 1 b (by decide) hb
  rw [Nat.one_mul] at this
  exact this
theorem pow_le {b c : Nat} (h : b ≤ c) : 2 ^ b ≤ 2 ^ c := Nat.pow_le_pow_right (by decide) h
theorem and1 {s : Store} (a : Nat) : opR .band (.int (a : Nat)) (.int 1) s = some (.v (.int ((a % 2 : Nat) : Int))) := by
  have := and_nat (s := s) a 1
  rw [low1] at this
  exact this
theorem lc_natm {F : Nat → Nat} {g : D → Store → Out (List D)} : ∀ ls : List Nat, (∀ l ∈ ls, g (.int (l : Nat)) s = .ok [.int (F l : Nat)] s) → lcL g (wd ls) s = .ok (wd (ls.map F)) s
  | [], _ => rfl
  | l :: ls, h => lcL_cons (x := [_]) (h l (by simp)) (lc_natm ls fun a m => h a (List.mem_cons_of_mem _ m))
theorem bit_num (x : Nat) : x % 2 = (decide (x % 2 = 1)).toNat := by
  have h : x % 2 = 0 ∨ x % 2 = 1 := by omega
  rcases h with h | h <;> rw [h] <;> rfl
theorem int1_nat (k : Bool) : bltR .int1 [.bl k] s = some (.v (.int (k.toNat : Nat))) := by cases k <;> rfl
theorem wd_mem {ls : List Nat} {d : D} (h : d ∈ wd ls) : ∃ l, l ∈ ls ∧ d = .int (l : Nat) := by
  simp only [wd, List.mem_map] at h
  obtain ⟨l, h1, h2⟩ := h
  exact ⟨l, h1, h2.symm⟩
theorem cat_wd {as bs : List Nat} (h : as.length + bs.length ≤ 100000) : opR .add (.lst (wd as)) (.lst (wd bs)) s = some (.n (.lst (wd (as ++ bs)))) := by
  have h2 : (wd as).length + (wd bs).length ≤ 100000 := by rw [wd_len, wd_len]; exact h
  simp only [opR, seqOf, h2, if_true]
  simp [wd]
theorem fold_max : ∀ (ls : List Nat) (a : Nat), ∃ M : Nat, (ls.map fun l : Nat => (l : Int)).foldl max (a : Int) = (M : Int) ∧ a ≤ M ∧ ∀ l ∈ ls, l ≤ M
  | [], a => ⟨a, rfl, Nat.le_refl _, by simp⟩
  | l :: ls, a => by
    obtain ⟨M, h1, h2, h3⟩ := fold_max ls (max a l)
    refine ⟨M, ?_, by omega, fun x hx => ?_⟩
    · rw [List.map_cons, List.foldl_cons]
      have : max (a : Int) (l : Int) = ((max a l : Nat) : Int) := by omega
      rw [this, h1]
    · rcases List.mem_cons.mp hx with rfl | hx
      · omega
      · exact h3 x hx
theorem max_wd {ls : List Nat} (h : ls ≠ []) : ∃ M : Nat, bltR .maxL [.lst (wd ls)] s = some (.v (.int (M : Nat))) ∧ ∀ l ∈ ls, l ≤ M := by
  cases ls with
  | nil => exact absurd rfl h
  | cons a ls =>
    obtain ⟨M, h1, h2, h3⟩ := fold_max ls a
    refine ⟨M, ?_, fun l hl => ?_⟩
    · have e : ∀ ls : List Nat, intsOf (wd ls) = some (ls.map fun l : Nat => (l : Int)) := fun ls => by
        induction ls with
        | nil => rfl
        | cons l ls ih =>
          show intsOf (.int (l : Nat) :: wd ls) = _
          simp only [intsOf, ih, Option.map_some]
          rfl
      simp only [bltR, seqOf, e, Option.bind_some, List.map_cons, maxI, h1, Option.map_some]
    · rcases List.mem_cons.mp hl with rfl | hl
      · exact h2
      · exact h3 l hl
end En

set_option linter.all false
namespace MC
structure W where
  I : Nat
  O : Nat
  B : Nat
  R : Nat
  rows : List (Nat × Nat)
structure WOk (w : W) : Prop where
  i : w.I ≤ 4
  o : w.O ≤ 24
  b : w.B ≤ 8
  j : w.B + 2 * w.I ≤ 12
  r : w.R < 2 ^ w.B
  len : w.rows.length = 2 ^ (w.B + w.I)
  all : ∀ p ∈ w.rows, p.1 < 2 ^ w.O ∧ p.2 < 2 ^ w.B
/-- the rows of a state -/
def rowsOf (w : W) (s : Nat) : List (Nat × Nat) := (w.rows.drop (s * 2 ^ w.I)).take (2 ^ w.I)
def succs (w : W) (s : Nat) : List Nat := (rowsOf w s).map (·.2)
def add1 (f : List Nat) (x : Nat) : List Nat := if x ∈ f then f else f ++ [x]
def addNew (f : List Nat) (xs : List Nat) : List Nat := xs.foldl add1 f
def bfs (w : W) : Nat → Nat → List Nat → List Nat
  | 0, _, f => f
  | n + 1, k, f => match f[k]? with
    | none => f
    | some s => bfs w n (k + 1) (addNew f (succs w s))
theorem add1_mem {f : List Nat} {x y : Nat} : y ∈ add1 f x ↔ y ∈ f ∨ y = x := by
  unfold add1
  split
  · rename_i h
    constructor
    · exact .inl
    · rintro (h2 | rfl)
      · exact h2
      · exact h
  · simp
theorem addNew_mem {y : Nat} : ∀ {xs f : List Nat}, y ∈ addNew f xs ↔ y ∈ f ∨ y ∈ xs
  | [], f => by simp [addNew]
  | x :: xs, f => by
    show y ∈ addNew (add1 f x) xs ↔ _
    rw [addNew_mem, add1_mem, List.mem_cons, or_assoc]
theorem add1_pre (f : List Nat) (x : Nat) : ∃ r, add1 f x = f ++ r := by
  unfold add1
  split
  · exact ⟨[], by simp⟩
  · exact ⟨[x], rfl⟩
theorem addNew_pre : ∀ (xs f : List Nat), ∃ r, addNew f xs = f ++ r
  | [], f => ⟨[], by simp [addNew]⟩
  | x :: xs, f => by
    obtain ⟨r, h⟩ := add1_pre f x
    obtain ⟨t, h2⟩ := addNew_pre xs (add1 f x)
    refine ⟨r ++ t, ?_⟩
    show addNew (add1 f x) xs = _
    rw [h2, h, List.append_assoc]
theorem add1_nodup {f : List Nat} {x : Nat} (h : f.Nodup) : (add1 f x).Nodup := by
  unfold add1
  split
  · exact h
  · rename_i hx
    rw [List.nodup_append]
    refine ⟨h, by simp, fun a ha b hb => ?_⟩
    rw [List.mem_singleton.mp hb]
    exact fun e => hx (e ▸ ha)
theorem addNew_nodup : ∀ {xs f : List Nat}, f.Nodup → (addNew f xs).Nodup
  | [], f, h => h
  | x :: xs, f, h => addNew_nodup (xs := xs) (add1_nodup h)
theorem nodup_le : ∀ (n : Nat) (l : List Nat), l.Nodup → (∀ x ∈ l, x < n) → l.length ≤ n
  | 0, l, _, h => by
    cases l with
    | nil => simp
    | cons a l => exact absurd (h a (by simp)) (by omega)
  | n + 1, l, hd, h => by
    by_cases hm : n ∈ l
    · have := nodup_le n (l.erase n) (hd.erase n) fun x hx => by
        rw [hd.mem_erase_iff] at hx
        have := h x hx.2
        have := hx.1
        omega
      rw [List.length_erase_of_mem hm] at this
      omega
    · have := nodup_le n l hd fun x hx => by
        have := h x hx
        have : x ≠ n := fun e => hm (e ▸ hx)
        omega
      omega
section
variable {w : W}
theorem succs_lt (h : WOk w) {s x : Nat} (hx : x ∈ succs w s) : x < 2 ^ w.B := by
  obtain ⟨p, hp, rfl⟩ := List.mem_map.mp hx
  exact (h.all p (List.mem_of_mem_drop (List.mem_of_mem_take hp))).2
theorem bfs_pre : ∀ (n k : Nat) (f : List Nat), ∃ r, bfs w n k f = f ++ r
  | 0, k, f => ⟨[], by simp [bfs]⟩
  | n + 1, k, f => by
    unfold bfs
    split
    · exact ⟨[], by simp⟩
    · rename_i s _
      obtain ⟨r, h⟩ := addNew_pre (succs w s) f
      obtain ⟨t, h2⟩ := bfs_pre n (k + 1) (addNew f (succs w s))
      exact ⟨r ++ t, by rw [h2, h, List.append_assoc]⟩
theorem bfs_ok (h : WOk w) : ∀ (n k : Nat) (f : List Nat), f.Nodup → (∀ x ∈ f, x < 2 ^ w.B) → (bfs w n k f).Nodup ∧ ∀ x ∈ bfs w n k f, x < 2 ^ w.B
  | 0, k, f, h1, h2 => ⟨h1, h2⟩
  | n + 1, k, f, h1, h2 => by
    unfold bfs
    split
    · exact ⟨h1, h2⟩
    · refine bfs_ok h n (k + 1) _ (addNew_nodup h1) fun x hx => ?_
      rcases addNew_mem.mp hx with hx | hx
      · exact h2 x hx
      · exact succs_lt h hx
theorem bfs_closed (h : WOk w) : ∀ (n k : Nat) (f : List Nat), f.Nodup → (∀ x ∈ f, x < 2 ^ w.B) → 256 ≤ n + k → (∀ i s, i < k → f[i]? = some s → ∀ x ∈ succs w s, x ∈ f) → ∀ s ∈ bfs w n k f, ∀ x ∈ succs w s, x ∈ bfs w n k f
  | 0, k, f, h1, h2, hk, hv => by
    intro s hs x hx
    have hl := nodup_le _ f h1 h2
    have hb : 2 ^ w.B ≤ 256 := Nat.pow_le_pow_right (n := 2) (by decide) h.b
    obtain ⟨i, hi, e⟩ := List.getElem_of_mem (show s ∈ f from hs)
    exact hv i s (by omega) (by rw [List.getElem?_eq_getElem hi, e]) x hx
  | n + 1, k, f, h1, h2, hk, hv => by
    unfold bfs
    split
    · rename_i hn
      intro s hs x hx
      have hl := List.getElem?_eq_none_iff.mp hn
      obtain ⟨i, hi, e⟩ := List.getElem_of_mem hs
      exact hv i s (by omega) (by rw [List.getElem?_eq_getElem hi, e]) x hx
    · rename_i s0 hs0
      refine bfs_closed h n (k + 1) _ (addNew_nodup h1) (fun x hx => ?_) (by omega) fun i s hi hs x hx => ?_
      · rcases addNew_mem.mp hx with hx | hx
        · exact h2 x hx
        · exact succs_lt h hx
      · obtain ⟨r, hr⟩ := addNew_pre (succs w s0) f
        have hkl := (List.getElem?_eq_some_iff.mp hs0).1
        have hs' : f[i]? = some s := by
          rw [hr, List.getElem?_append_left (by omega)] at hs
          exact hs
        by_cases e : i = k
        · subst e
          rw [hs0] at hs'
          cases hs'
          exact addNew_mem.mpr (.inr hx)
        · exact addNew_mem.mpr (.inl (hv i s (by omega) hs' x hx))
end
def isT (c : List (Nat × Nat)) (s : Nat) : Bool := c.any fun p => decide (s / 2 ^ p.1 % 2 = p.2)
def allT (cs : List (List (Nat × Nat))) (s : Nat) : Bool := cs.all fun c => isT c s
def inAll (c : List (Nat × Nat)) (st : List Nat) : Bool := st.all fun s => isT c s
def diffC (s B : Nat) : List (Nat × Nat) := (List.range B).map fun k => (k, 1 - s / 2 ^ k % 2)
def short1 (st : List Nat) (kept : List (Nat × Nat)) (p : Nat × Nat) : List (Nat × Nat) :=
  if inAll (kept.filter fun q => decide (q ≠ p)) st then kept.filter fun q => decide (q ≠ p) else kept
def short (st : List Nat) (c : List (Nat × Nat)) : List (Nat × Nat) := c.foldl (short1 st) c
def shortL1 (st : List Nat) (kept : List (Nat × Nat)) (k : Nat) : List (Nat × Nat) :=
  if inAll (kept.filter fun q => decide (q.1 ≠ k)) st then kept.filter fun q => decide (q.1 ≠ k) else kept
def shortL (st : List Nat) (B : Nat) (c : List (Nat × Nat)) : List (Nat × Nat) := (List.range B).foldl (shortL1 st) c
def clsStep (st : List Nat) (B : Nat) (cs : List (List (Nat × Nat))) (s : Nat) : List (List (Nat × Nat)) :=
  if s ∉ st ∧ allT cs s = true then cs ++ [short st (diffC s B)] else cs
def clsFor (st : List Nat) (B : Nat) : List (List (Nat × Nat)) := (List.range (2 ^ B)).foldl (clsStep st B) []
theorem short1_sub {st : List Nat} {kept : List (Nat × Nat)} {p q : Nat × Nat} (h : q ∈ short1 st kept p) : q ∈ kept := by
  unfold short1 at h
  split at h
  · exact (List.mem_filter.mp h).1
  · exact h
theorem fold_short_sub {st : List Nat} {q : Nat × Nat} : ∀ {ps kept : List (Nat × Nat)}, q ∈ ps.foldl (short1 st) kept → q ∈ kept
  | [], kept, h => h
  | p :: ps, kept, h => short1_sub (fold_short_sub (ps := ps) h)
theorem short_sub {st : List Nat} {c : List (Nat × Nat)} {q : Nat × Nat} (h : q ∈ short st c) : q ∈ c := fold_short_sub h
theorem fold_short_in {st : List Nat} : ∀ {ps kept : List (Nat × Nat)}, inAll kept st = true → inAll (ps.foldl (short1 st) kept) st = true
  | [], kept, h => h
  | p :: ps, kept, h => by
    refine fold_short_in (ps := ps) ?_
    unfold short1
    split
    · assumption
    · exact h
/-- the two ways to make it shorter are one -/
theorem short_eq (st : List Nat) (B s : Nat) : shortL st B (diffC s B) = short st (diffC s B) := by
  unfold shortL short
  have key : ∀ (ks : List Nat) (kept : List (Nat × Nat)), (∀ q ∈ kept, q.2 = 1 - s / 2 ^ q.1 % 2) → ks.foldl (shortL1 st) kept = (ks.map fun k => (k, 1 - s / 2 ^ k % 2)).foldl (short1 st) kept := by
    intro ks
    induction ks with
    | nil => intro kept _; rfl
    | cons k ks ih =>
      intro kept hk
      have e : shortL1 st kept k = short1 st kept (k, 1 - s / 2 ^ k % 2) := by
        have f : (kept.filter fun q => decide (q.1 ≠ k)) = kept.filter fun q => decide (q ≠ (k, 1 - s / 2 ^ k % 2)) := by
          apply List.filter_congr
          intro q hq
          rw [decide_eq_decide]
          have := hk q hq
          obtain ⟨a, b⟩ := q
          simp only at this ⊢
          subst this
          constructor
          · intro h e
            exact h (Prod.mk.inj e).1
          · intro h e
            subst e
            exact h rfl
        unfold shortL1 short1
        rw [f]
      simp only [List.foldl_cons, List.map_cons]
      rw [e]
      exact ih _ fun q hq => hk q (short1_sub hq)
  refine key (List.range B) _ fun q hq => ?_
  obtain ⟨k, _, rfl⟩ := List.mem_map.mp hq
  rfl
theorem diff_self (s B : Nat) : isT (diffC s B) s = false := by
  unfold isT diffC
  rw [List.any_eq_false]
  intro p hp
  obtain ⟨k, _, rfl⟩ := List.mem_map.mp hp
  simp only [decide_eq_true_eq]
  omega
theorem bits_eq {s t : Nat} : ∀ (B : Nat), s < 2 ^ B → t < 2 ^ B → (∀ k, k < B → s / 2 ^ k % 2 = t / 2 ^ k % 2) → s = t
  | 0, h1, h2, _ => by simp at h1 h2; omega
  | B + 1, h1, h2, h => by
    have h0 := h 0 (by omega)
    simp only [Nat.pow_zero, Nat.div_one] at h0
    have ih := bits_eq (s := s / 2) (t := t / 2) B (by rw [Nat.pow_succ] at h1; omega) (by rw [Nat.pow_succ] at h2; omega) fun k hk => by
      have := h (k + 1) (by omega)
      rw [Nat.pow_succ, Nat.mul_comm, ← Nat.div_div_eq_div_mul, ← Nat.div_div_eq_div_mul] at this
      exact this
    omega
theorem diff_other {s t B : Nat} (hs : s < 2 ^ B) (ht : t < 2 ^ B) (h : t ≠ s) : isT (diffC s B) t = true := by
  cases e : isT (diffC s B) t with
  | true => rfl
  | false =>
    exfalso
    apply h
    refine bits_eq B ht hs fun k hk => ?_
    unfold isT diffC at e
    rw [List.any_eq_false] at e
    have := e (k, 1 - s / 2 ^ k % 2) (List.mem_map.mpr ⟨k, List.mem_range.mpr hk, rfl⟩)
    simp only [decide_eq_true_eq] at this
    omega
theorem isT_sub {c d : List (Nat × Nat)} {s : Nat} (h : ∀ q ∈ c, q ∈ d) (hd : isT d s = false) : isT c s = false := by
  unfold isT at *
  rw [List.any_eq_false] at *
  exact fun q hq => hd q (h q hq)
/-- what the clauses for a set of states are -/
structure For (st : List Nat) (B n : Nat) (cs : List (List (Nat × Nat))) : Prop where
  ok : ∀ c ∈ cs, ∀ p ∈ c, p.1 < B ∧ p.2 ≤ 1
  inn : ∀ c ∈ cs, inAll c st = true
  out : ∀ s, s < n → s ∉ st → allT cs s = false
  len : cs.length ≤ n
theorem for_step {st : List Nat} {B n : Nat} {cs : List (List (Nat × Nat))} (hst : ∀ t ∈ st, t < 2 ^ B) (hn : n < 2 ^ B) (h : For st B n cs) : For st B (n + 1) (clsStep st B cs n) := by
  unfold clsStep
  split
  · rename_i hc
    obtain ⟨h1, h2⟩ := hc
    have sd : isT (short st (diffC n B)) n = false := isT_sub (fun q hq => short_sub hq) (diff_self n B)
    refine ⟨fun c hcm p hp => ?_, fun c hcm => ?_, fun s hs hns => ?_, by have := h.len; simp; omega⟩
    · rcases List.mem_append.mp hcm with hcm | hcm
      · exact h.ok c hcm p hp
      · rw [List.mem_singleton.mp hcm] at hp
        obtain ⟨k, hk, rfl⟩ := List.mem_map.mp (short_sub hp)
        exact ⟨List.mem_range.mp hk, by show 1 - _ ≤ 1; omega⟩
    · rcases List.mem_append.mp hcm with hcm | hcm
      · exact h.inn c hcm
      · rw [List.mem_singleton.mp hcm]
        refine fold_short_in ?_
        unfold inAll
        rw [List.all_eq_true]
        intro t ht
        exact diff_other hn (hst t ht) fun e => h1 (e ▸ ht)
    · unfold allT
      rw [List.all_append]
      by_cases e : s = n
      · subst e
        simp [sd]
      · have := h.out s (by omega) hns
        unfold allT at this
        simp [this]
  · rename_i hc
    refine ⟨h.ok, h.inn, fun s hs hns => ?_, by have := h.len; omega⟩
    by_cases e : s = n
    · subst e
      cases e2 : allT cs s with
      | false => rfl
      | true => exact absurd ⟨hns, e2⟩ hc
    · exact h.out s (by omega) hns
theorem for_all {st : List Nat} {B : Nat} (hst : ∀ t ∈ st, t < 2 ^ B) : ∀ n, n ≤ 2 ^ B → For st B n ((List.range n).foldl (clsStep st B) [])
  | 0, _ => ⟨by simp, by simp, by simp, by simp⟩
  | n + 1, h => by
    rw [List.range_succ, List.foldl_append]
    exact for_step hst (by omega) (for_all hst n (by omega))
theorem cls_for {st : List Nat} {B : Nat} (hst : ∀ t ∈ st, t < 2 ^ B) : For st B (2 ^ B) (clsFor st B) := for_all hst _ (Nat.le_refl _)
theorem cls_iff {st : List Nat} {B : Nat} (hst : ∀ t ∈ st, t < 2 ^ B) {s : Nat} (hs : s < 2 ^ B) : allT (clsFor st B) s = true ↔ s ∈ st := by
  have F := cls_for hst
  constructor
  · intro h
    by_cases hm : s ∈ st
    · exact hm
    · rw [F.out s hs hm] at h
      cases h
  · intro hm
    unfold allT
    rw [List.all_eq_true]
    intro c hc
    have := F.inn c hc
    unfold inAll at this
    rw [List.all_eq_true] at this
    exact this s hm
def inv (w : W) (cs : List (List (Nat × Nat))) : Bool := allT cs w.R && (List.range (2 ^ w.B)).all fun s => !allT cs s || (succs w s).all fun x => allT cs x
theorem inv_closed {w : W} (h : WOk w) {st : List Nat} (hst : ∀ t ∈ st, t < 2 ^ w.B) (hR : w.R ∈ st) (hc : ∀ s ∈ st, ∀ x ∈ succs w s, x ∈ st) : inv w (clsFor st w.B) = true := by
  unfold inv
  rw [Bool.and_eq_true, List.all_eq_true]
  refine ⟨(cls_iff hst h.r).mpr hR, fun s hs => ?_⟩
  have hs := List.mem_range.mp hs
  by_cases hm : s ∈ st
  · rw [Bool.or_eq_true]
    right
    rw [List.all_eq_true]
    intro x hx
    exact (cls_iff hst (succs_lt h hx)).mpr (hc s hm x hx)
  · rw [(cls_for hst).out s hs hm]
    rfl
theorem inv_open {w : W} (h : WOk w) {st : List Nat} (hst : ∀ t ∈ st, t < 2 ^ w.B) {s x : Nat} (hs : s ∈ st) (hx : x ∈ succs w s) (hn : x ∉ st) : inv w (clsFor st w.B) = false := by
  cases e : inv w (clsFor st w.B) with
  | false => rfl
  | true =>
    exfalso
    unfold inv at e
    rw [Bool.and_eq_true, List.all_eq_true] at e
    have := e.2 s (List.mem_range.mpr (hst s hs))
    rw [(cls_iff hst (hst s hs)).mpr hs, Bool.not_true, Bool.false_or, List.all_eq_true] at this
    exact hn ((cls_iff hst (succs_lt h hx)).mp (this x hx))
/-- what may be handed in as clauses: pairs of any integers -/
def okP (B : Nat) (p : List Int) : Bool := match p with
  | [a, b] => decide (0 ≤ a) && decide (a < B) && decide (0 ≤ b) && decide (b ≤ 1)
  | _ => false
def okC (B : Nat) (cs : List (List (List Int))) : Bool := cs.all fun c => c.all (okP B)
def toN (p : List Int) : Nat × Nat := match p with
  | [a, b] => (a.toNat, b.toNat)
  | _ => (0, 0)
def judged (w : W) (cs : List (List (List Int))) : Bool := okC w.B cs && inv w (cs.map fun c => c.map toN)
def ofN (cs : List (List (Nat × Nat))) : List (List (List Int)) := cs.map fun c => c.map fun p => [(p.1 : Int), (p.2 : Int)]
theorem judged_ofN {w : W} {cs : List (List (Nat × Nat))} (h : ∀ c ∈ cs, ∀ p ∈ c, p.1 < w.B ∧ p.2 ≤ 1) : judged w (ofN cs) = inv w cs := by
  have h1 : okC w.B (ofN cs) = true := by
    unfold okC ofN
    rw [List.all_eq_true]
    intro c hc
    obtain ⟨c', hc', rfl⟩ := List.mem_map.mp hc
    rw [List.all_eq_true]
    intro p hp
    obtain ⟨p', hp', rfl⟩ := List.mem_map.mp hp
    have := h c' hc' p' hp'
    simp only [okP, Bool.and_eq_true, decide_eq_true_eq]
    omega
  have h2 : (ofN cs).map (fun c => c.map toN) = cs := by
    unfold ofN
    rw [List.map_map]
    conv => rhs; rw [← List.map_id cs]
    apply List.map_congr_left
    intro c _
    simp only [Function.comp, List.map_map, id]
    conv => rhs; rw [← List.map_id c]
    apply List.map_congr_left
    intro p _
    simp [toN]
  unfold judged
  rw [h1, h2, Bool.true_and]
end MC

set_option Elab.async false
set_option linter.all false
set_option maxRecDepth 100000
set_option maxHeartbeats 4000000
namespace K19
open PySem PySem.Spec PyProof.Rows L2 En
def topS (i : Nat) : Stmt := PySem.Challenge.pw_chipmill_k19_clauses_of_the_reached.main.body.getD i (.Pass ⟨0, 0, 0, 0⟩)
def i_rows_of : DI := { x := "rows_of", q := "rows_of", st := topS 1, N := ["machine", "state"], d := { slots := 2, params := 2, body :=
    (.cons (.ret (.sl (.fld (.var 0) "rows") (.some (.op .shl (.var 1) (.fld (.var 0) "inputs"))) (.some (.op .shl (.op .add (.var 1) (.int 1)) (.fld (.var 0) "inputs")))))
    .nil) } }
def i_first_steps : DI := { x := "first_steps", q := "first_steps", st := topS 2, N := ["machine", "steps", "reached", "at", "state", "number", "row"], d := { slots := 7, params := 1, body :=
    (.cons (.asg (.name 1) (.mu (.disp (.fld (.var 0) "reset") .non)))
    (.cons (.asg (.name 2) (.mu (.lst (.cons (.fld (.var 0) "reset") .nil))))
    (.cons (.asg (.name 3) (.int 0))
    (.cons (.while_ (.e (.cmp .lt (.var 3) (.blt .len (.cons (.var 2) .nil)))) (.cons (.asg (.name 4) (.ix (.var 2) (.var 3)))
    (.cons (.for_ (.tup (.cons (.name 5) (.cons (.name 6) .nil))) (.enum (.call 0 (.cons (.var 0) (.cons (.var 4) .nil)))) (.cons (.ifs (.e (.cmp .notIn (.ix (.var 6) (.int 1)) (.var 1))) (.cons (.asg (.sub (.var 1) (.ix (.var 6) (.int 1))) (.tup (.cons (.var 4) (.cons (.var 5) .nil))))
    (.cons (.expr (.mt .append (.var 2) (.cons (.ix (.var 6) (.int 1)) .nil)))
    .nil)) .nil)
    .nil))
    (.cons (.aug 3 .add (.int 1))
    .nil))))
    (.cons (.retF (.var 1))
    .nil))))) } }
def i_reached_states : DI := { x := "reached_states", q := "reached_states", st := topS 3, N := ["machine"], d := { slots := 1, params := 1, body :=
    (.cons (.ret (.blt .list (.cons (.call 1 (.cons (.var 0) .nil)) .nil)))
    .nil) } }
def i_is_true : DI := { x := "is_true", q := "is_true", st := topS 4, N := ["clause", "state", "latch", "bit"], d := { slots := 4, params := 2, body :=
    (.cons (.for_ (.tup (.cons (.name 2) (.cons (.name 3) .nil))) (.seq (.var 0)) (.cons (.ifs (.e (.cmp .eq (.op .band (.op .shr (.var 1) (.var 2)) (.int 1)) (.var 3))) (.cons (.ret (.bl true))
    .nil) .nil)
    .nil))
    (.cons (.ret (.bl false))
    .nil)) } }
def i_all_true : DI := { x := "all_true", q := "all_true", st := topS 5, N := ["clauses", "state", "clause"], d := { slots := 3, params := 2, body :=
    (.cons (.for_ (.name 2) (.seq (.var 0)) (.cons (.ifs (.not (.e (.call 3 (.cons (.var 2) (.cons (.var 1) .nil))))) (.cons (.ret (.bl false))
    .nil) .nil)
    .nil))
    (.cons (.ret (.bl true))
    .nil)) } }
def i_is_true_in_all : DI := { x := "is_true_in_all", q := "is_true_in_all", st := topS 6, N := ["clause", "states", "state"], d := { slots := 3, params := 2, body :=
    (.cons (.for_ (.name 2) (.seq (.var 1)) (.cons (.ifs (.not (.e (.call 3 (.cons (.var 0) (.cons (.var 2) .nil))))) (.cons (.ret (.bl false))
    .nil) .nil)
    .nil))
    (.cons (.ret (.bl true))
    .nil)) } }
def i_shortened : DI := { x := "shortened", q := "shortened", st := topS 7, N := ["clause", "states", "kept", "pair", "rest", "other"], d := { slots := 6, params := 2, body :=
    (.cons (.asg (.name 2) (.blt .list (.cons (.var 0) .nil)))
    (.cons (.for_ (.name 3) (.seq (.var 0)) (.cons (.asg (.name 4) (.lc [("other", 5)] (.name 5) (.seq (.var 2)) (.t (.e (.cmp .ne (.var 5) (.var 3)))) (.var 5)))
    (.cons (.ifs (.e (.call 5 (.cons (.var 4) (.cons (.var 1) .nil)))) (.cons (.asg (.name 2) (.var 4))
    .nil) .nil)
    .nil)))
    (.cons (.ret (.blt .tuple (.cons (.var 2) .nil)))
    .nil))) } }
def i_clauses_of : DI := { x := "clauses_of", q := "clauses_of", st := topS 8, N := ["machine", "reached", "clauses", "state", "clause", "latch"], d := { slots := 6, params := 1, body :=
    (.cons (.asg (.name 1) (.call 2 (.cons (.var 0) .nil)))
    (.cons (.asg (.name 2) (.mu (.lst .nil)))
    (.cons (.for_ (.name 3) (.rng1 (.op .shl (.int 1) (.fld (.var 0) "state_bits"))) (.cons (.ifs (.and (.e (.cmp .notIn (.var 3) (.var 1))) (.e (.callS 4 (.cons (.var 2) (.cons (.var 3) .nil))))) (.cons (.asg (.name 4) (.lc [("latch", 5)] (.name 5) (.rng1 (.fld (.var 0) "state_bits")) .yes (.tup (.cons (.var 5) (.cons (.op .sub (.int 1) (.op .band (.op .shr (.var 3) (.var 5)) (.int 1))) .nil)))))
    (.cons (.expr (.mt .append (.var 2) (.cons (.call 6 (.cons (.var 4) (.cons (.var 1) .nil))) .nil)))
    .nil)) .nil)
    .nil))
    (.cons (.retF (.var 2))
    .nil)))) } }
def i_are_clauses : DI := { x := "are_clauses", q := "are_clauses", st := topS 9, N := ["clauses", "state_bits", "clause", "pair"], d := { slots := 4, params := 2, body :=
    (.cons (.for_ (.name 2) (.seq (.var 0)) (.cons (.for_ (.name 3) (.seq (.var 2)) (.cons (.ifs (.or (.e (.cmp .ne (.blt .len (.cons (.var 3) .nil)) (.int 2))) (.or (.not (.e (.chain .le .lt (.int 0) (.ix (.var 3) (.int 0)) (.var 1)))) (.not (.e (.chain .le .le (.int 0) (.ix (.var 3) (.int 1)) (.int 1)))))) (.cons (.ret (.bl false))
    .nil) .nil)
    .nil))
    .nil))
    (.cons (.ret (.bl true))
    .nil)) } }
def i_is_invariant : DI := { x := "is_invariant", q := "is_invariant", st := topS 10, N := ["machine", "clauses", "kept", "state", "row"], d := { slots := 5, params := 2, body :=
    (.cons (.ifs (.or (.not (.e (.call 8 (.cons (.var 1) (.cons (.fld (.var 0) "state_bits") .nil))))) (.not (.e (.call 4 (.cons (.var 1) (.cons (.fld (.var 0) "reset") .nil)))))) (.cons (.ret (.bl false))
    .nil) .nil)
    (.cons (.asg (.name 2) (.lc [("state", 3)] (.name 3) (.rng1 (.op .shl (.int 1) (.fld (.var 0) "state_bits"))) .yes (.call 4 (.cons (.var 1) (.cons (.var 3) .nil)))))
    (.cons (.for_ (.name 3) (.rng1 (.op .shl (.int 1) (.fld (.var 0) "state_bits"))) (.cons (.ifs (.e (.ix (.var 2) (.var 3))) (.cons (.for_ (.name 4) (.seq (.call 0 (.cons (.var 0) (.cons (.var 3) .nil)))) (.cons (.ifs (.not (.e (.ix (.var 2) (.ix (.var 4) (.int 1))))) (.cons (.ret (.bl false))
    .nil) .nil)
    .nil))
    .nil) .nil)
    .nil))
    (.cons (.ret (.bl true))
    .nil)))) } }
def i_check_counts : DI := { x := "check_counts", q := "check_counts", st := topS 20, N := ["inputs", "outputs", "state_bits"], d := { slots := 3, params := 3, body :=
    (.cons (.ifs (.e (.cmp .gt (.var 0) (.gl 0))) (.cons .never
    .nil) .nil)
    (.cons (.ifs (.e (.cmp .gt (.var 1) (.gl 1))) (.cons .never
    .nil) .nil)
    (.cons (.ifs (.e (.cmp .gt (.var 2) (.gl 2))) (.cons .never
    .nil) .nil)
    (.cons (.ifs (.e (.cmp .gt (.op .add (.var 2) (.op .mul (.int 2) (.var 0))) (.gl 3))) (.cons .never
    .nil) .nil)
    .nil)))) } }
def i_law_pool : DI := { x := "_law_pool", q := "_law_pool", st := topS 23, N := ["script", "place", "cell", "rest"], d := { slots := 4, params := 2, body :=
    (.cons (.asg (.name 2) (.int 0))
    (.cons (.ifs (.e (.cmp .lt (.var 1) (.blt .len (.cons (.var 0) .nil)))) (.cons (.asg (.name 2) (.blt .abs (.cons (.blt .int1 (.cons (.ix (.var 0) (.var 1)) .nil)) .nil)))
    .nil) .nil)
    (.cons (.asg (.name 3) (.int 0))
    (.cons (.ifs (.e (.cmp .ge (.var 2) (.op .pow (.int 10) (.int 18)))) (.cons (.asg (.name 3) (.var 2))
    .nil) .nil)
    (.cons (.ret (.lst (.cons (.var 2) (.cons (.var 3) (.cons (.int 0) .nil)))))
    .nil))))) } }
def i_law_draw : DI := { x := "_law_draw", q := "_law_draw", st := topS 24, N := ["pool", "many", "got", "one"], d := { slots := 4, params := 2, body :=
    (.cons (.ifs (.e (.cmp .gt (.ix (.var 0) (.int 1)) (.int 1))) (.cons (.asg (.name 2) (.op .mod (.blt .int1 (.cons (.ix (.var 0) (.int 1)) .nil)) (.var 1)))
    (.cons (.asg (.sub (.var 0) (.int 1)) (.op .fdiv (.ix (.var 0) (.int 1)) (.var 1)))
    (.cons (.ret (.var 2))
    .nil))) .nil)
    (.cons (.asg (.sub (.var 0) (.int 2)) (.op .add (.ix (.var 0) (.int 2)) (.int 1)))
    (.cons (.asg (.name 3) (.op .mod (.blt .int1 (.cons (.op .add (.op .mod (.blt .int1 (.cons (.ix (.var 0) (.int 0)) .nil)) (.int 2147483647)) (.op .mul (.int 69621) (.ix (.var 0) (.int 2)))) .nil)) (.int 2147483647)))
    (.cons (.asg (.name 3) (.op .mod (.blt .int1 (.cons (.op .add (.op .add (.op .mul (.var 3) (.var 3)) (.op .mul (.int 48271) (.ix (.var 0) (.int 2)))) (.int 11)) .nil)) (.int 2147483629)))
    (.cons (.asg (.name 3) (.op .mod (.blt .int1 (.cons (.op .add (.op .mul (.var 3) (.var 3)) (.op .mod (.blt .int1 (.cons (.ix (.var 0) (.int 0)) .nil)) (.int 1000003))) .nil)) (.int 2147483587)))
    (.cons (.ret (.op .mod (.blt .int1 (.cons (.var 3) .nil)) (.var 1)))
    .nil)))))) } }
def i_law_pick : DI := { x := "_law_pick", q := "_law_pick", st := topS 25, N := ["pool", "row"], d := { slots := 2, params := 2, body :=
    (.cons (.ret (.ix (.var 1) (.call 12 (.cons (.var 0) (.cons (.blt .len (.cons (.var 1) .nil)) .nil)))))
    .nil) } }
def i_law_whole : DI := { x := "_law_whole", q := "_law_whole", st := topS 26, N := ["value"], d := { slots := 1, params := 1, body :=
    (.cons (.ret (.and (.isin (.var 0) .int) (.not (.isin (.var 0) .bool))))
    .nil) } }
def i_law_same : DI := { x := "_law_same", q := "_law_same", st := topS 27, N := ["value", "due", "k"], d := { slots := 3, params := 2, body :=
    (.cons (.ifs (.e (.cmp .is_ (.var 1) .non)) (.cons (.ret (.cmp .is_ (.var 0) .non))
    .nil) .nil)
    (.cons (.ifs (.e (.isin (.var 1) .bool)) (.cons (.ret (.and (.isin (.var 0) .bool) (.cmp .eq (.var 0) (.var 1))))
    .nil) .nil)
    (.cons (.ifs (.e (.isin (.var 1) .int)) (.cons (.ret (.and (.call 14 (.cons (.var 0) .nil)) (.cmp .eq (.var 0) (.var 1))))
    .nil) .nil)
    (.cons (.ifs (.e (.isin (.var 1) .str)) (.cons (.ret (.and (.isin (.var 0) .str) (.cmp .eq (.var 0) (.var 1))))
    .nil) .nil)
    (.cons (.ifs (.e (.isin (.var 1) .tuple)) (.cons (.ifs (.or (.not (.e (.isin (.var 0) .tuple))) (.e (.cmp .ne (.blt .len (.cons (.var 0) .nil)) (.blt .len (.cons (.var 1) .nil))))) (.cons (.ret (.bl false))
    .nil) .nil)
    .nil) (.cons (.ifs (.or (.not (.e (.isin (.var 0) .list))) (.e (.cmp .ne (.blt .len (.cons (.var 0) .nil)) (.blt .len (.cons (.var 1) .nil))))) (.cons (.ret (.bl false))
    .nil) .nil)
    .nil))
    (.cons (.for_ (.name 2) (.rng1 (.blt .len (.cons (.var 1) .nil))) (.cons (.ifs (.not (.e (.call 15 (.cons (.ix (.var 0) (.var 2)) (.cons (.ix (.var 1) (.var 2)) .nil))))) (.cons (.ret (.bl false))
    .nil) .nil)
    .nil))
    (.cons (.ret (.bl true))
    .nil))))))) } }
def i_law_machine : DI := { x := "_law_machine", q := "_law_machine", st := topS 28, N := ["pool", "inputs", "bits", "outputs", "rare", "rows", "k", "shown"], d := { slots := 8, params := 1, body :=
    (.cons (.asg (.name 1) (.call 13 (.cons (.var 0) (.cons (.lst (.cons (.int 0) (.cons (.int 1) (.cons (.int 1) (.cons (.int 2) .nil))))) .nil))))
    (.cons (.asg (.name 2) (.call 13 (.cons (.var 0) (.cons (.lst (.cons (.int 0) (.cons (.int 1) (.cons (.int 2) (.cons (.int 2) (.cons (.int 3) (.cons (.int 3) .nil))))))) .nil))))
    (.cons (.asg (.name 3) (.call 13 (.cons (.var 0) (.cons (.lst (.cons (.int 1) (.cons (.int 1) (.cons (.int 2) (.cons (.int 0) .nil))))) .nil))))
    (.cons (.asg (.name 4) (.call 12 (.cons (.var 0) (.cons (.int 3) .nil))))
    (.cons (.asg (.name 5) (.mu (.lst .nil)))
    (.cons (.for_ (.name 6) (.rng1 (.op .shl (.int 1) (.op .add (.var 2) (.var 1)))) (.cons (.asg (.name 7) (.call 12 (.cons (.var 0) (.cons (.op .shl (.int 1) (.var 3)) .nil))))
    (.cons (.ifs (.and (.e (.cmp .gt (.var 4) (.int 0))) (.e (.cmp .gt (.call 12 (.cons (.var 0) (.cons (.int 5) .nil))) (.int 0)))) (.cons (.asg (.name 7) (.int 0))
    .nil) .nil)
    (.cons (.expr (.mt .append (.var 5) (.cons (.tup (.cons (.var 7) (.cons (.call 12 (.cons (.var 0) (.cons (.op .shl (.int 1) (.var 2)) .nil))) .nil))) .nil)))
    .nil))))
    (.cons (.ret (.lst (.cons (.var 1) (.cons (.var 3) (.cons (.var 2) (.cons (.call 12 (.cons (.var 0) (.cons (.op .shl (.int 1) (.var 2)) .nil))) (.cons (.var 5) .nil)))))))
    .nil))))))) } }
def i_law_order : DI := { x := "_law_order", q := "_law_order", st := topS 29, N := ["pool", "row", "left", "done", "k"], d := { slots := 5, params := 2, body :=
    (.cons (.asg (.name 2) (.mu (.blt .list (.cons (.var 1) .nil))))
    (.cons (.asg (.name 3) (.mu (.lst .nil)))
    (.cons (.for_ (.name 4) (.rng1 (.blt .len (.cons (.var 1) .nil))) (.cons (.expr (.mt .append (.var 3) (.cons (.mt .popAt (.var 2) (.cons (.call 12 (.cons (.var 0) (.cons (.blt .len (.cons (.var 2) .nil)) .nil))) .nil)) .nil)))
    .nil))
    (.cons (.retF (.var 3))
    .nil)))) } }
def i_law_counter : DI := { x := "_law_counter", q := "_law_counter", st := topS 30, N := ["pool", "inputs", "bits", "many", "step", "other", "times", "rows", "state", "number", "after"], d := { slots := 11, params := 1, body :=
    (.cons (.asg (.tup (.cons (.name 1) (.cons (.name 2) .nil))) (.call 13 (.cons (.var 0) (.cons (.lst (.cons (.tup (.cons (.int 0) (.cons (.int 8) .nil))) (.cons (.tup (.cons (.int 1) (.cons (.int 8) .nil))) (.cons (.tup (.cons (.int 2) (.cons (.int 8) .nil))) (.cons (.tup (.cons (.int 0) (.cons (.int 7) .nil))) (.cons (.tup (.cons (.int 2) (.cons (.int 6) .nil))) (.cons (.tup (.cons (.int 3) (.cons (.int 6) .nil))) (.cons (.tup (.cons (.int 4) (.cons (.int 4) .nil))) (.cons (.tup (.cons (.int 4) (.cons (.int 2) .nil))) .nil))))))))) .nil))))
    (.cons (.asg (.name 3) (.op .shl (.int 1) (.var 2)))
    (.cons (.asg (.name 4) (.call 12 (.cons (.var 0) (.cons (.var 3) .nil))))
    (.cons (.asg (.name 5) (.call 12 (.cons (.var 0) (.cons (.var 3) .nil))))
    (.cons (.asg (.name 6) (.call 13 (.cons (.var 0) (.cons (.lst (.cons (.int 1) (.cons (.int 1) (.cons (.int 3) (.cons (.int 2) .nil))))) .nil))))
    (.cons (.asg (.name 7) (.mu (.lst .nil)))
    (.cons (.for_ (.name 8) (.rng1 (.var 3)) (.cons (.for_ (.name 9) (.rng1 (.op .shl (.int 1) (.var 1))) (.cons (.asg (.name 10) (.op .mod (.blt .int1 (.cons (.op .add (.op .add (.op .mul (.var 8) (.ix (.lst (.cons (.var 6) (.cons (.int 1) .nil))) (.blt .int1 (.cons (.cmp .eq (.var 9) (.int 0)) .nil)))) (.var 4)) (.op .mul (.var 5) (.var 9))) .nil)) (.var 3)))
    (.cons (.expr (.mt .append (.var 7) (.cons (.tup (.cons (.op .mod (.blt .int1 (.cons (.op .add (.op .add (.op .mul (.var 8) (.int 70001)) (.op .mul (.var 9) (.int 1299709))) (.var 4)) .nil)) (.op .shl (.int 1) (.int 24))) (.cons (.var 10) .nil))) .nil)))
    .nil)))
    .nil))
    (.cons (.ret (.lst (.cons (.var 1) (.cons (.int 24) (.cons (.var 2) (.cons (.call 12 (.cons (.var 0) (.cons (.var 3) .nil))) (.cons (.var 7) .nil)))))))
    .nil)))))))) } }
def i_law_longer : DI := { x := "_law_longer", q := "_law_longer", st := topS 31, N := ["pool", "inputs", "bits", "home", "rows", "state", "number", "after", "k"], d := { slots := 9, params := 1, body :=
    (.cons (.ifs (.e (.cmp .eq (.call 12 (.cons (.var 0) (.cons (.int 4) .nil))) (.int 0))) (.cons (.ret (.call 18 (.cons (.var 0) .nil)))
    .nil) .nil)
    (.cons (.asg (.name 1) (.call 12 (.cons (.var 0) (.cons (.int 2) .nil))))
    (.cons (.asg (.name 2) (.op .add (.int 4) (.call 12 (.cons (.var 0) (.cons (.int 2) .nil)))))
    (.cons (.asg (.name 3) (.lc [("k", 8)] (.name 8) (.rng1 (.op .add (.int 1) (.call 12 (.cons (.var 0) (.cons (.int 6) .nil))))) .yes (.call 12 (.cons (.var 0) (.cons (.op .shl (.int 1) (.var 2)) .nil)))))
    (.cons (.asg (.name 4) (.mu (.lst .nil)))
    (.cons (.for_ (.name 5) (.rng1 (.op .shl (.int 1) (.var 2))) (.cons (.for_ (.name 6) (.rng1 (.op .shl (.int 1) (.var 1))) (.cons (.asg (.name 7) (.call 13 (.cons (.var 0) (.cons (.var 3) .nil))))
    (.cons (.ifs (.and (.e (.cmp .notIn (.var 5) (.var 3))) (.e (.cmp .eq (.call 12 (.cons (.var 0) (.cons (.int 2) .nil))) (.int 1)))) (.cons (.asg (.name 7) (.call 12 (.cons (.var 0) (.cons (.op .shl (.int 1) (.var 2)) .nil))))
    .nil) .nil)
    (.cons (.expr (.mt .append (.var 4) (.cons (.tup (.cons (.int 0) (.cons (.var 7) .nil))) .nil)))
    .nil))))
    .nil))
    (.cons (.ret (.lst (.cons (.var 1) (.cons (.int 1) (.cons (.var 2) (.cons (.ix (.var 3) (.int 0)) (.cons (.var 4) .nil)))))))
    .nil))))))) } }
def i_law_true : DI := { x := "_law_true", q := "_law_true", st := topS 32, N := ["clause", "state", "pair"], d := { slots := 3, params := 2, body :=
    (.cons (.ret (.cmp .gt (.blt .len (.cons (.lc [("pair", 2)] (.name 2) (.seq (.var 0)) (.t (.e (.cmp .eq (.op .band (.op .shr (.var 1) (.ix (.var 2) (.int 0))) (.int 1)) (.ix (.var 2) (.int 1))))) (.var 2)) .nil)) (.int 0)))
    .nil) } }
def i_law_clauses_for : DI := { x := "_law_clauses_for", q := "_law_clauses_for", st := topS 33, N := ["states", "bits", "clauses", "state", "clause", "k", "rest", "pair", "one"], d := { slots := 9, params := 2, body :=
    (.cons (.asg (.name 2) (.mu (.lst .nil)))
    (.cons (.for_ (.name 3) (.rng1 (.op .shl (.int 1) (.var 1))) (.cons (.ifs (.and (.e (.cmp .notIn (.var 3) (.var 0))) (.e (.cmp .eq (.blt .len (.cons (.lc [("one", 8)] (.name 8) (.seq (.var 2)) (.t (.not (.e (.call 20 (.cons (.var 8) (.cons (.var 3) .nil)))))) (.var 8)) .nil)) (.int 0)))) (.cons (.asg (.name 4) (.lc [("k", 5)] (.name 5) (.rng1 (.var 1)) .yes (.tup (.cons (.var 5) (.cons (.op .sub (.int 1) (.op .band (.op .shr (.var 3) (.var 5)) (.int 1))) .nil)))))
    (.cons (.for_ (.name 5) (.rng1 (.var 1)) (.cons (.asg (.name 6) (.lc [("pair", 7)] (.name 7) (.seq (.var 4)) (.t (.e (.cmp .ne (.ix (.var 7) (.int 0)) (.var 5)))) (.var 7)))
    (.cons (.ifs (.e (.cmp .eq (.blt .len (.cons (.lc [("one", 8)] (.name 8) (.seq (.var 0)) (.t (.not (.e (.call 20 (.cons (.var 6) (.cons (.var 8) .nil)))))) (.var 8)) .nil)) (.int 0))) (.cons (.asg (.name 4) (.var 6))
    .nil) .nil)
    .nil)))
    (.cons (.expr (.mt .append (.var 2) (.cons (.blt .tuple (.cons (.var 4) .nil)) .nil)))
    .nil))) .nil)
    .nil))
    (.cons (.retF (.var 2))
    .nil))) } }
def i_law_closed : DI := { x := "_law_closed", q := "_law_closed", st := topS 34, N := ["world", "states", "found", "state", "k", "number", "after"], d := { slots := 7, params := 2, body :=
    (.cons (.asg (.name 2) (.mu (.lst .nil)))
    (.cons (.for_ (.name 3) (.seq (.var 1)) (.cons (.ifs (.e (.cmp .notIn (.var 3) (.var 2))) (.cons (.expr (.mt .append (.var 2) (.cons (.var 3) .nil)))
    .nil) .nil)
    .nil))
    (.cons (.for_ (.name 4) (.rng1 (.int 256)) (.cons (.ifs (.e (.cmp .ge (.var 4) (.blt .len (.cons (.var 2) .nil)))) (.cons .brk
    .nil) .nil)
    (.cons (.for_ (.name 5) (.rng1 (.op .shl (.int 1) (.ix (.var 0) (.int 0)))) (.cons (.asg (.name 6) (.ix (.ix (.ix (.var 0) (.int 4)) (.op .add (.op .shl (.ix (.var 2) (.var 4)) (.ix (.var 0) (.int 0))) (.var 5))) (.int 1)))
    (.cons (.ifs (.e (.cmp .notIn (.var 6) (.var 2))) (.cons (.expr (.mt .append (.var 2) (.cons (.var 6) .nil)))
    .nil) .nil)
    .nil)))
    .nil)))
    (.cons (.retF (.var 2))
    .nil)))) } }
def i_law_judged : DI := { x := "_law_judged", q := "_law_judged", st := topS 35, N := ["world", "clauses", "clause", "pair", "good", "state", "number", "one"], d := { slots := 8, params := 2, body :=
    (.cons (.for_ (.name 2) (.seq (.var 1)) (.cons (.for_ (.name 3) (.seq (.var 2)) (.cons (.ifs (.or (.e (.cmp .ne (.blt .len (.cons (.var 3) .nil)) (.int 2))) (.or (.e (.cmp .lt (.ix (.var 3) (.int 0)) (.int 0))) (.or (.e (.cmp .ge (.ix (.var 3) (.int 0)) (.ix (.var 0) (.int 2)))) (.or (.e (.cmp .lt (.ix (.var 3) (.int 1)) (.int 0))) (.e (.cmp .gt (.ix (.var 3) (.int 1)) (.int 1))))))) (.cons (.ret (.bl false))
    .nil) .nil)
    .nil))
    .nil))
    (.cons (.asg (.name 4) (.mu (.lst .nil)))
    (.cons (.for_ (.name 5) (.rng1 (.op .shl (.int 1) (.ix (.var 0) (.int 2)))) (.cons (.expr (.mt .append (.var 4) (.cons (.cmp .eq (.blt .len (.cons (.lc [("one", 7)] (.name 7) (.seq (.var 1)) (.t (.not (.e (.call 20 (.cons (.var 7) (.cons (.var 5) .nil)))))) (.var 7)) .nil)) (.int 0)) .nil)))
    .nil))
    (.cons (.ifs (.not (.e (.ix (.var 4) (.ix (.var 0) (.int 3))))) (.cons (.ret (.bl false))
    .nil) .nil)
    (.cons (.for_ (.name 5) (.rng1 (.op .shl (.int 1) (.ix (.var 0) (.int 2)))) (.cons (.for_ (.name 6) (.rng1 (.op .shl (.int 1) (.ix (.var 0) (.int 0)))) (.cons (.ifs (.and (.e (.ix (.var 4) (.var 5))) (.not (.e (.ix (.var 4) (.ix (.ix (.ix (.var 0) (.int 4)) (.op .add (.op .shl (.var 5) (.ix (.var 0) (.int 0))) (.var 6))) (.int 1)))))) (.cons (.ret (.bl false))
    .nil) .nil)
    .nil))
    .nil))
    (.cons (.ret (.bl true))
    .nil)))))) } }
def i_law_some_clause : DI := { x := "_law_some_clause", q := "_law_some_clause", st := topS 36, N := ["pool", "bits", "clause", "k"], d := { slots := 4, params := 2, body :=
    (.cons (.asg (.name 2) (.mu (.lst .nil)))
    (.cons (.for_ (.name 3) (.rng1 (.var 1)) (.cons (.ifs (.e (.cmp .eq (.call 12 (.cons (.var 0) (.cons (.int 2) .nil))) (.int 1))) (.cons (.expr (.mt .append (.var 2) (.cons (.tup (.cons (.var 3) (.cons (.call 12 (.cons (.var 0) (.cons (.int 2) .nil))) .nil))) .nil)))
    .nil) .nil)
    .nil))
    (.cons (.ret (.blt .tuple (.cons (.var 2) .nil)))
    .nil))) } }
def i_law_bent : DI := { x := "_law_bent", q := "_law_bent", st := topS 37, N := ["pool", "world", "right", "kind", "bits", "at", "spot", "latch", "bit", "pair", "clause", "k"], d := { slots := 12, params := 3, body :=
    (.cons (.asg (.name 3) (.call 12 (.cons (.var 0) (.cons (.int 11) .nil))))
    (.cons (.asg (.name 4) (.ix (.var 1) (.int 2)))
    (.cons (.ifs (.e (.cmp .eq (.var 3) (.int 0))) (.cons (.ret (.call 17 (.cons (.var 0) (.cons (.op .add (.var 2) (.sl (.var 2) .none (.some (.int 1)))) .nil))))
    .nil) .nil)
    (.cons (.ifs (.e (.cmp .eq (.var 3) (.int 1))) (.cons (.ret (.op .add (.var 2) (.lst (.cons (.tup .nil) .nil))))
    .nil) .nil)
    (.cons (.ifs (.e (.cmp .eq (.var 3) (.int 2))) (.cons (.ret (.op .add (.var 2) (.lst (.cons (.blt .tuple (.cons (.lc [("k", 11)] (.name 11) (.rng1 (.var 4)) .yes (.tup (.cons (.var 11) (.cons (.op .sub (.int 1) (.op .band (.op .shr (.ix (.var 1) (.int 3)) (.var 11)) (.int 1))) .nil)))) .nil)) .nil))))
    .nil) .nil)
    (.cons (.ifs (.e (.cmp .eq (.var 3) (.int 3))) (.cons (.ret (.op .add (.var 2) (.lst (.cons (.tup (.cons (.tup (.cons (.call 13 (.cons (.var 0) (.cons (.lst (.cons (.var 4) (.cons (.op .add (.var 4) (.int 1)) (.cons (.neg (.int 1)) (.cons (.op .pow (.int 10) (.int 9)) (.cons (.op .pow (.int 10) (.int 30)) .nil)))))) .nil))) (.cons (.call 12 (.cons (.var 0) (.cons (.int 2) .nil))) .nil))) .nil)) .nil))))
    .nil) .nil)
    (.cons (.ifs (.or (.e (.cmp .eq (.var 3) (.int 4))) (.e (.cmp .eq (.blt .len (.cons (.var 2) .nil)) (.int 0)))) (.cons (.ret (.lc [("k", 11)] (.name 11) (.rng1 (.call 12 (.cons (.var 0) (.cons (.int 3) .nil)))) .yes (.call 24 (.cons (.var 0) (.cons (.var 4) .nil)))))
    .nil) .nil)
    (.cons (.asg (.name 5) (.call 12 (.cons (.var 0) (.cons (.blt .len (.cons (.var 2) .nil)) .nil))))
    (.cons (.ifs (.e (.cmp .eq (.var 3) (.int 5))) (.cons (.ret (.op .add (.sl (.var 2) .none (.some (.var 5))) (.sl (.var 2) (.some (.op .add (.var 5) (.int 1))) .none)))
    .nil) .nil)
    (.cons (.asg (.name 6) (.call 12 (.cons (.var 0) (.cons (.blt .len (.cons (.ix (.var 2) (.var 5)) .nil)) .nil))))
    (.cons (.asg (.tup (.cons (.name 7) (.cons (.name 8) .nil))) (.ix (.ix (.var 2) (.var 5)) (.var 6)))
    (.cons (.asg (.name 9) (.tup (.cons (.var 7) (.cons (.op .sub (.int 1) (.var 8)) .nil))))
    (.cons (.ifs (.e (.cmp .eq (.var 3) (.int 6))) (.cons (.asg (.name 9) (.tup (.cons (.var 7) (.cons (.call 13 (.cons (.var 0) (.cons (.lst (.cons (.int 2) (.cons (.neg (.int 1)) (.cons (.op .pow (.int 10) (.int 30)) .nil)))) .nil))) .nil))))
    .nil) .nil)
    (.cons (.ifs (.e (.cmp .eq (.var 3) (.int 7))) (.cons (.asg (.name 9) (.call 13 (.cons (.var 0) (.cons (.lst (.cons (.tup (.cons (.var 7) .nil)) (.cons (.tup (.cons (.var 7) (.cons (.var 8) (.cons (.int 0) .nil)))) (.cons (.tup .nil) (.cons (.tup (.cons (.neg (.int 1)) (.cons (.var 8) .nil))) .nil))))) .nil))))
    .nil) .nil)
    (.cons (.asg (.name 10) (.op .add (.op .add (.sl (.ix (.var 2) (.var 5)) .none (.some (.var 6))) (.tup (.cons (.var 9) .nil))) (.sl (.ix (.var 2) (.var 5)) (.some (.op .add (.var 6) (.int 1))) .none)))
    (.cons (.ifs (.e (.cmp .eq (.var 3) (.int 8))) (.cons (.asg (.name 10) (.op .add (.sl (.ix (.var 2) (.var 5)) .none (.some (.var 6))) (.sl (.ix (.var 2) (.var 5)) (.some (.op .add (.var 6) (.int 1))) .none)))
    .nil) .nil)
    (.cons (.ifs (.e (.cmp .eq (.var 3) (.int 9))) (.cons (.asg (.name 10) (.op .add (.ix (.var 2) (.var 5)) (.tup (.cons (.var 9) .nil))))
    .nil) .nil)
    (.cons (.ret (.op .add (.op .add (.sl (.var 2) .none (.some (.var 5))) (.lst (.cons (.var 10) .nil))) (.sl (.var 2) (.some (.op .add (.var 5) (.int 1))) .none)))
    .nil)))))))))))))))))) } }
def i_law_said : DI := { x := "_law_said", q := "_law_said", st := topS 38, N := ["pool", "machine", "clauses", "due", "form", "handed", "clause", "pair"], d := { slots := 8, params := 4, body :=
    (.cons (.asg (.name 4) (.call 12 (.cons (.var 0) (.cons (.int 3) .nil))))
    (.cons (.asg (.name 5) (.lc [("clause", 6)] (.name 6) (.seq (.var 2)) .yes (.blt .tuple (.cons (.var 6) .nil))))
    (.cons (.ifs (.e (.cmp .eq (.var 4) (.int 1))) (.cons (.asg (.name 5) (.blt .tuple (.cons (.lc [("clause", 6)] (.name 6) (.seq (.var 2)) .yes (.blt .tuple (.cons (.lc [("pair", 7)] (.name 7) (.seq (.var 6)) .yes (.blt .list (.cons (.var 7) .nil))) .nil))) .nil)))
    .nil) .nil)
    (.cons (.ifs (.e (.cmp .eq (.var 4) (.int 2))) (.cons (.asg (.name 5) (.lc [("clause", 6)] (.name 6) (.seq (.var 2)) .yes (.blt .list (.cons (.var 6) .nil))))
    .nil) .nil)
    (.cons (.ifs (.not (.e (.call 15 (.cons (.call 9 (.cons (.var 1) (.cons (.var 5) .nil))) (.cons (.var 3) .nil))))) (.cons (.ret (.bl false))
    .nil) .nil)
    (.cons (.ret (.call 15 (.cons (.lc [("clause", 6)] (.name 6) (.seq (.var 5)) .yes (.blt .tuple (.cons (.lc [("pair", 7)] (.name 7) (.seq (.var 6)) .yes (.blt .tuple (.cons (.var 7) .nil))) .nil))) (.cons (.var 2) .nil))))
    .nil)))))) } }
def i_law_right : DI := { x := "_law_right", q := "_law_right", st := topS 39, N := ["pool", "machine", "world", "due", "told", "more", "closed", "right", "k", "bent", "outside", "at", "rows", "other", "state"], d := { slots := 15, params := 3, body :=
    (.cons (.asg (.name 3) (.call 21 (.cons (.call 22 (.cons (.var 2) (.cons (.lst (.cons (.ix (.var 2) (.int 3)) .nil)) .nil))) (.cons (.ix (.var 2) (.int 2)) .nil))))
    (.cons (.asg (.name 4) (.mu (.call 7 (.cons (.var 1) .nil))))
    (.cons (.ifs (.not (.e (.callS 15 (.cons (.var 4) (.cons (.var 3) .nil))))) (.cons (.ret (.bl false))
    .nil) .nil)
    (.cons (.expr (.mt .append (.var 4) (.cons (.tup .nil) .nil)))
    (.cons (.ifs (.not (.e (.call 15 (.cons (.call 7 (.cons (.var 1) .nil)) (.cons (.var 3) .nil))))) (.cons (.ret (.bl false))
    .nil) .nil)
    (.cons (.ifs (.or (.not (.e (.call 26 (.cons (.var 0) (.cons (.var 1) (.cons (.var 3) (.cons (.bl true) .nil))))))) (.not (.e (.call 26 (.cons (.var 0) (.cons (.var 1) (.cons (.lst .nil) (.cons (.bl true) .nil)))))))) (.cons (.ret (.bl false))
    .nil) .nil)
    (.cons (.asg (.name 5) (.lc [("k", 8)] (.name 8) (.rng1 (.call 12 (.cons (.var 0) (.cons (.int 3) .nil)))) .yes (.call 12 (.cons (.var 0) (.cons (.op .shl (.int 1) (.ix (.var 2) (.int 2))) .nil)))))
    (.cons (.asg (.name 6) (.call 22 (.cons (.var 2) (.cons (.op .add (.lst (.cons (.ix (.var 2) (.int 3)) .nil)) (.var 5)) .nil))))
    (.cons (.asg (.name 7) (.call 21 (.cons (.var 6) (.cons (.ix (.var 2) (.int 2)) .nil))))
    (.cons (.ifs (.not (.e (.call 26 (.cons (.var 0) (.cons (.var 1) (.cons (.var 7) (.cons (.bl true) .nil))))))) (.cons (.ret (.bl false))
    .nil) .nil)
    (.cons (.for_ (.name 8) (.rng1 (.int 5)) (.cons (.asg (.name 9) (.call 25 (.cons (.var 0) (.cons (.var 2) (.cons (.var 7) .nil)))))
    (.cons (.ifs (.not (.e (.call 26 (.cons (.var 0) (.cons (.var 1) (.cons (.var 9) (.cons (.call 23 (.cons (.var 2) (.cons (.var 9) .nil))) .nil))))))) (.cons (.ret (.bl false))
    .nil) .nil)
    .nil)))
    (.cons (.asg (.name 10) (.lc [("state", 14)] (.name 14) (.rng1 (.op .shl (.int 1) (.ix (.var 2) (.int 2)))) (.t (.e (.cmp .notIn (.var 14) (.var 6)))) (.var 14)))
    (.cons (.ifs (.e (.cmp .gt (.blt .len (.cons (.var 10) .nil)) (.int 0))) (.cons (.asg (.name 11) (.op .add (.op .shl (.call 13 (.cons (.var 0) (.cons (.var 6) .nil))) (.ix (.var 2) (.int 0))) (.call 12 (.cons (.var 0) (.cons (.op .shl (.int 1) (.ix (.var 2) (.int 0))) .nil)))))
    (.cons (.asg (.name 12) (.op .add (.op .add (.sl (.ix (.var 2) (.int 4)) .none (.some (.var 11))) (.lst (.cons (.tup (.cons (.ix (.ix (.ix (.var 2) (.int 4)) (.var 11)) (.int 0)) (.cons (.call 13 (.cons (.var 0) (.cons (.var 10) .nil))) .nil))) .nil))) (.sl (.ix (.var 2) (.int 4)) (.some (.op .add (.var 11) (.int 1))) .none)))
    (.cons (.asg (.name 13) (.make 0 (.cons (.ix (.var 2) (.int 0)) (.cons (.ix (.var 2) (.int 1)) (.cons (.ix (.var 2) (.int 2)) (.cons (.ix (.var 2) (.int 3)) (.cons (.blt .list (.cons (.var 12) .nil)) .nil)))))))
    (.cons (.ifs (.not (.e (.call 26 (.cons (.var 0) (.cons (.var 13) (.cons (.var 7) (.cons (.bl false) .nil))))))) (.cons (.ret (.bl false))
    .nil) .nil)
    .nil)))) .nil)
    (.cons (.ret (.call 26 (.cons (.var 0) (.cons (.var 1) (.cons (.var 7) (.cons (.bl true) .nil))))))
    .nil)))))))))))))) } }
def i_law : DI := { x := "law", q := "law", st := topS 40, N := ["script", "pool", "worlds", "machines", "at", "one"], d := { slots := 6, params := 1, body :=
    (.cons (.asg (.name 1) (.mu (.call 11 (.cons (.var 0) (.cons (.int 0) .nil)))))
    (.cons (.asg (.name 2) (.mu (.lst (.cons (.call 16 (.cons (.var 1) .nil)) (.cons (.call 16 (.cons (.var 1) .nil)) .nil)))))
    (.cons (.ifs (.e (.cmp .eq (.call 12 (.cons (.var 1) (.cons (.int 6) .nil))) (.int 0))) (.cons (.asg (.sub (.var 2) (.int 0)) (.call 19 (.cons (.var 1) .nil)))
    .nil) .nil)
    (.cons (.asg (.name 3) (.lc [("one", 5)] (.name 5) (.seq (.var 2)) .yes (.make 0 (.cons (.ix (.var 5) (.int 0)) (.cons (.ix (.var 5) (.int 1)) (.cons (.ix (.var 5) (.int 2)) (.cons (.ix (.var 5) (.int 3)) (.cons (.blt .list (.cons (.ix (.var 5) (.int 4)) .nil)) .nil))))))))
    (.cons (.asg (.name 1) (.mu (.call 11 (.cons (.var 0) (.cons (.int 1) .nil)))))
    (.cons (.for_ (.name 4) (.seq (.lst (.cons (.int 0) (.cons (.int 1) (.cons (.int 0) .nil))))) (.cons (.ifs (.not (.e (.call 27 (.cons (.var 1) (.cons (.ix (.var 3) (.var 4)) (.cons (.ix (.var 2) (.var 4)) .nil)))))) (.cons (.ret (.bl false))
    .nil) .nil)
    .nil))
    (.cons (.ret (.bl true))
    .nil))))))) } }
def i_Machine___init__ : DI := { x := "__init__", q := "Machine.__init__", st := inClass (topS 21) 0, N := ["self", "inputs", "outputs", "state_bits", "reset", "rows", "row"], d := { slots := 7, params := 6, body :=
    (.cons (.expr (.call 10 (.cons (.var 1) (.cons (.var 2) (.cons (.var 3) .nil)))))
    (.cons (.asg (.fld (.var 0) "inputs") (.var 1))
    (.cons (.asg (.fld (.var 0) "outputs") (.var 2))
    (.cons (.asg (.fld (.var 0) "state_bits") (.var 3))
    (.cons (.asg (.fld (.var 0) "reset") (.var 4))
    (.cons (.asg (.fld (.var 0) "rows") (.blt .tuple (.cons (.lc [("row", 6)] (.name 6) (.seq (.var 5)) .yes (.blt .tuple (.cons (.var 6) .nil))) .nil)))
    (.cons (.ifs (.not (.e (.mcall "has_right_rows" (.var 0) .nil))) (.cons .never
    .nil) .nil)
    .nil))))))) } }
def i_Machine_has_right_rows : DI := { x := "has_right_rows", q := "Machine.has_right_rows", st := inClass (topS 21) 1, N := ["self", "states", "output", "state"], d := { slots := 4, params := 1, body :=
    (.cons (.asg (.name 1) (.op .shl (.int 1) (.fld (.var 0) "state_bits")))
    (.cons (.ifs (.or (.e (.cmp .ne (.blt .len (.cons (.fld (.var 0) "rows") .nil)) (.op .shl (.int 1) (.op .add (.fld (.var 0) "state_bits") (.fld (.var 0) "inputs"))))) (.not (.e (.chain .le .lt (.int 0) (.fld (.var 0) "reset") (.var 1))))) (.cons (.ret (.bl false))
    .nil) .nil)
    (.cons (.for_ (.tup (.cons (.name 2) (.cons (.name 3) .nil))) (.seq (.fld (.var 0) "rows")) (.cons (.ifs (.or (.not (.e (.chain .le .lt (.int 0) (.var 2) (.op .shl (.int 1) (.fld (.var 0) "outputs"))))) (.not (.e (.chain .le .lt (.int 0) (.var 3) (.var 1))))) (.cons (.ret (.bl false))
    .nil) .nil)
    .nil))
    (.cons (.ret (.bl true))
    .nil)))) } }
def gl : Nat → D
  | 0 => (.int 4)
  | 1 => (.int 24)
  | 2 => (.int 8)
  | 3 => (.int 12)
  | _ => .non
def gd : Nat → List (Str × D)
  | _ => []
def tb : TB := { ds := [i_rows_of, i_first_steps, i_reached_states, i_is_true, i_all_true, i_is_true_in_all, i_shortened, i_clauses_of, i_are_clauses, i_is_invariant, i_check_counts, i_law_pool, i_law_draw, i_law_pick, i_law_whole, i_law_same, i_law_machine, i_law_order, i_law_counter, i_law_longer, i_law_true, i_law_clauses_for, i_law_closed, i_law_judged, i_law_some_clause, i_law_bent, i_law_said, i_law_right, i_law, i_Machine___init__, i_Machine_has_right_rows], fns := [fp "rows_of" 0, fp "first_steps" 1, fp "reached_states" 2, fp "is_true" 3, fp "all_true" 4, fp "is_true_in_all" 5, fp "shortened" 6, fp "clauses_of" 7, fp "are_clauses" 8, fp "is_invariant" 9, fp "check_counts" 10, fp "_law_pool" 11, fp "_law_draw" 12, fp "_law_pick" 13, fp "_law_whole" 14, fp "_law_same" 15, fp "_law_machine" 16, fp "_law_order" 17, fp "_law_counter" 18, fp "_law_longer" 19, fp "_law_true" 20, fp "_law_clauses_for" 21, fp "_law_closed" 22, fp "_law_judged" 23, fp "_law_some_clause" 24, fp "_law_bent" 25, fp "_law_said" 26, fp "_law_right" 27, fp "law" 28], gls := [("INPUT_LIMIT", 0), ("OUTPUT_LIMIT", 1), ("STATE_LIMIT", 2), ("JOINT_LIMIT", 3)], blt := ["len", "enumerate", "list", "tuple", "range", "abs", "int", "isinstance", "bool", "str"], cls := [{ nm := "Machine", ini := 29, ms := [fp "has_right_rows" 30] }], cnm := [("Machine", 0)], na := [fq 0 "inputs", fq 0 "outputs", fq 0 "state_bits", fq 0 "reset", fq 0 "rows"], gl := gl, gd := gd, F := 1000000 }
theorem chk : chkT' tb 300 = true := by decide +kernel
end K19

set_option Elab.async false
set_option linter.all false
set_option maxRecDepth 100000
set_option maxHeartbeats 1000000
namespace En
open PySem PySem.Spec PyProof.Rows L2
theorem g_frz {G : Glo} {b : Nat} {gs : IGs} {d : D} {e : En.Env} {s : Store} {k : Bool} {ds : List D} {o : Out En.Env} (h : frzSeq d = some (k, ds)) (h2 : xGs G b gs ds e s = o) : xG G b (.tup gs) d e s = o := by
  simp only [xG, xGs] at *
  cases d <;> simp only [frzSeq, reduceCtorEq, Option.some.injEq, Prod.mk.injEq] at h
  · obtain ⟨_, rfl⟩ := h
    simp only [asG, h2]
  · obtain ⟨_, rfl⟩ := h
    simp only [asG, h2]
  · obtain ⟨_, rfl⟩ := h
    simp only [asG, h2]
theorem forL_ret {f : D → En.Env → Store → Out (Ctl × En.Env)} {d : D} {ds : List D} {e e1 : En.Env} {s s1 : Store} {r : R} (h : f d e s = .ok (.ret r, e1) s1) : forL f (d :: ds) e s = .ok (.ret r, e1) s1 := by simp [forL, h, Ctl.goes, Ctl.out]
theorem frz_seq {d : D} {k : Bool} {ds : List D} {s : Store} (h : frzSeq d = some (k, ds)) : seqOf s d = some (k, ds) := by
  cases d <;> simp only [frzSeq, reduceCtorEq, Option.some.injEq, Prod.mk.injEq] at h <;> obtain ⟨rfl, rfl⟩ := h <;> rfl
theorem frz_ix {gd : Nat → List (Str × D)} {d : D} {k : Bool} {ds : List D} {s : Store} {i : Nat} {x : D} (h : frzSeq d = some (k, ds)) (hx : ds[i]? = some x) : ixR gd d (.int (i : Nat)) s = some (.v x) := by
  cases d <;> simp only [frzSeq, reduceCtorEq, Option.some.injEq, Prod.mk.injEq] at h <;> obtain ⟨rfl, rfl⟩ := h <;>
    (simp only [ixR, seqOf]; rw [atI_nat (v := x) hx]; rfl)
def All2 {α β : Type} (R : α → β → Prop) : List α → List β → Prop
  | [], [] => True
  | a :: as, b :: bs => R a b ∧ All2 R as bs
  | _, _ => False
theorem All2.map {α β : Type} {R : α → β → Prop} {f : β → α} (h : ∀ b, R (f b) b) : ∀ bs : List β, All2 R (bs.map f) bs
  | [] => trivial
  | b :: bs => ⟨h b, All2.map h bs⟩
theorem All2.maps {α β γ : Type} {R : α → β → Prop} {f : γ → α} {g : γ → β} : ∀ {bs : List γ}, (∀ b ∈ bs, R (f b) (g b)) → All2 R (bs.map f) (bs.map g)
  | [], _ => trivial
  | b :: bs, h => ⟨h b (by simp), All2.maps fun a m => h a (List.mem_cons_of_mem _ m)⟩
/-- a comprehension that leaves some out -/
theorem lc_filter {α : Type} {f : α → D} {P : α → Bool} {g : D → Store → Out (List D)} {s : Store} : ∀ (ls : List α), (∀ l ∈ ls, g (f l) s = .ok (if P l then [f l] else []) s) → lcL g (ls.map f) s = .ok ((ls.filter P).map f) s
  | [], _ => rfl
  | l :: ls, h => by
    have ih := lc_filter (f := f) (P := P) (g := g) (s := s) ls fun a m => h a (List.mem_cons_of_mem _ m)
    have := lcL_cons (h l (by simp)) ih
    rw [List.map_cons, this, List.filter_cons]
    cases P l <;> rfl
/-- a comprehension without effect, over things of a kind -/
theorem lc_mapg {α : Type} {f : α → D} {h : α → D} {g : D → Store → Out (List D)} {s : Store} : ∀ (ls : List α), (∀ l ∈ ls, g (f l) s = .ok [h l] s) → lcL g (ls.map f) s = .ok (ls.map h) s
  | [], _ => rfl
  | l :: ls, hh => lcL_cons (x := [_]) (hh l (by simp)) (lc_mapg ls fun a m => hh a (List.mem_cons_of_mem _ m))
end En
namespace K19
open PySem PySem.Spec PyProof.Rows L2 En
open MC (isT allT inAll diffC short short1 shortL shortL1 clsFor clsStep)
variable {s : Store} {f : Den}
def encP (p : Nat × Nat) : D := .tup [.int (p.1 : Nat), .int (p.2 : Nat)]
def encC (c : List (Nat × Nat)) : List D := c.map encP
theorem encC_cb (b : Nat) (c : List (Nat × Nat)) : cbs b (encC c) = true := cbs_iff.mpr fun d m => by
  obtain ⟨p, _, rfl⟩ := List.mem_map.mp m
  rfl
/-- a pair, a clause, clauses, in any written form -/
def NP (d : D) (p : Nat × Nat) : Prop := ∃ k, frzSeq d = some (k, [.int (p.1 : Nat), .int (p.2 : Nat)])
def NC (d : D) (c : List (Nat × Nat)) : Prop := cb 0 d = true ∧ ∃ k ds, frzSeq d = some (k, ds) ∧ All2 NP ds c
def NCs (d : D) (cs : List (List (Nat × Nat))) : Prop := cb 0 d = true ∧ ∃ k ds, frzSeq d = some (k, ds) ∧ All2 NC ds cs
theorem nc_lst (c : List (Nat × Nat)) : NC (.lst (encC c)) c := ⟨encC_cb 0 c, false, _, rfl, All2.map (fun p => ⟨true, rfl⟩) c⟩
theorem nc_tup (c : List (Nat × Nat)) : NC (.tup (encC c)) c := ⟨encC_cb 0 c, true, _, rfl, All2.map (fun p => ⟨true, rfl⟩) c⟩
def encCs (cs : List (List (Nat × Nat))) : List D := cs.map fun c => .tup (encC c)
theorem encCs_cb (b : Nat) (cs : List (List (Nat × Nat))) : cbs b (encCs cs) = true := cbs_iff.mpr fun d m => by
  obtain ⟨p, _, rfl⟩ := List.mem_map.mp m
  exact encC_cb b p
theorem ncs_lst (cs : List (List (Nat × Nat))) : NCs (.lst (encCs cs)) cs := ⟨encCs_cb 0 cs, false, _, rfl, All2.map nc_tup cs⟩
def g23 : IG := .tup (.cons (.name 2) (.cons (.name 3) .nil))
def itB : ISs := (.cons (.ifs (.e (.cmp .eq (.op .band (.op .shr (.var 1) (.var 2)) (.int 1)) (.var 3))) (.cons (.ret (.bl true))
    .nil) .nil)
    .nil)
theorem dnat {a b : Nat} : decide ((a : Int) = (b : Int)) = decide (a = b) := by
  rw [decide_eq_decide]
  omega
theorem it_loop {G : Glo} {b : Nat} {d : D} {t : Nat} : ∀ (ds : List D) (c : List (Nat × Nat)) (x2 x3 : Option D), All2 NP ds c → ∃ x2' x3',
    forL (bodyF G b g23 itB) ds [some d, some (.int (t : Nat)), x2, x3] s = .ok (if isT c t then .ret (.v (.bl true)) else .nx, [some d, some (.int (t : Nat)), x2', x3']) s
  | [], [], x2, x3, _ => ⟨x2, x3, rfl⟩
  | q :: ds, p :: c, x2, x3, h => by
    obtain ⟨⟨k, hq⟩, hr⟩ := h
    have g1 : ∀ (o : Out (Ctl × En.Env)), xSs G b itB [some d, some (.int (t : Nat)), some (.int (p.1 : Nat)), some (.int (p.2 : Nat))] s = o → bodyF G b g23 itB q [some d, some (.int (t : Nat)), x2, x3] s = o := fun o ho => by
      apply b_forB
      · unfold g23
        apply g_frz hq
        (exists rfl)
      · exact ho
    have e1 : cmpR G.gd .eq (.int ((t / 2 ^ p.1 % 2 : Nat) : Int)) (.int (p.2 : Nat)) s = some (decide (t / 2 ^ p.1 % 2 = p.2)) := by rw [En.eq_int, dnat]
    by_cases hp : t / 2 ^ p.1 % 2 = p.2
    · have : isT (p :: c) t = true := by simp [isT, hp]
      rw [this]
      refine ⟨some (.int (p.1 : Nat)), some (.int (p.2 : Nat)), forL_ret (g1 _ ?_)⟩
      unfold itB
      (exists shr_nat _ _, and1 _, e1, dec1 hp)
    · have : isT (p :: c) t = isT c t := by simp [isT, hp]
      rw [this]
      obtain ⟨y2, y3, e⟩ := it_loop ds c (some (.int (p.1 : Nat))) (some (.int (p.2 : Nat))) hr
      refine ⟨y2, y3, forL_cons (g1 _ ?_) e⟩
      unfold itB
      (exists shr_nat _ _, and1 _, e1, dec0 hp)
  | [], _ :: _, _, _, h => h.elim
  | _ :: _, [], _, _, h => h.elim
theorem is_true_run {G : Glo} (b : Nat) {d : D} {c : List (Nat × Nat)} (t : Nat) (h : NC d c) : i_is_true.run G b [d, .int (t : Nat)] s = .ok (.v (.bl (isT c t))) s := by
  rw [run_F rfl]
  obtain ⟨_, k, ds, hd, ha⟩ := h
  obtain ⟨x2, x3, e⟩ := it_loop (G := G) (b := s.length) (s := s) (d := d) (t := t) ds c none none ha
  cases ht : isT c t
  · rw [ht] at e
    apply run_ret rfl
    · unfold i_is_true
      show xSs _ _ _ [some d, some (.int (t : Nat)), none, none] _ = _
      apply ss_nx
      · apply s_forB
        · (exists hd)
        · exact e
      · (exists rfl)
    · exact end_bl rfl
  · rw [ht] at e
    apply run_ret rfl
    · unfold i_is_true
      show xSs _ _ _ [some d, some (.int (t : Nat)), none, none] _ = _
      apply ss_ret
      apply s_forB
      · (exists hd)
      · exact e
    · exact end_bl rfl
def T3 (f : Den) : Prop := ∀ {d : D} {c : List (Nat × Nat)} (t : Nat), NC d c → f.fn 3 0 [d, .int (t : Nat)] [] = .ok (.v (.bl (isT c t))) []
def atB : ISs := (.cons (.ifs (.not (.e (.call 3 (.cons (.var 2) (.cons (.var 1) .nil))))) (.cons (.ret (.bl false))
    .nil) .nil)
    .nil)
theorem at_loop (hT : T3 f) {b : Nat} {d : D} {t : Nat} : ∀ (ds : List D) (cs : List (List (Nat × Nat))) (x2 : Option D), All2 NC ds cs → ∃ x2',
    forL (bodyF (tb.glo f) b (.name 2) atB) ds [some d, some (.int (t : Nat)), x2] s = .ok (if allT cs t then .nx else .ret (.v (.bl false)), [some d, some (.int (t : Nat)), x2']) s
  | [], [], x2, _ => ⟨x2, rfl⟩
  | q :: ds, c :: cs, x2, h => by
    obtain ⟨hq, hr⟩ := h
    have c1 := callR_of (b := b) (s := s) (by simp [cbs, cb, hq.1]) (hT t hq)
    cases ht : isT c t
    · have : allT (c :: cs) t = false := by simp [allT, ht]
      rw [this]
      rw [ht] at c1
      refine ⟨some q, forL_ret (e1 := [some d, some (.int (t : Nat)), some q]) ?_⟩
      unfold atB
      (exists c1)
    · have : allT (c :: cs) t = allT cs t := by simp [allT, ht]
      rw [this]
      rw [ht] at c1
      obtain ⟨y2, e⟩ := at_loop hT (b := b) (d := d) (t := t) ds cs (some q) hr
      refine ⟨y2, forL_cons ?_ e⟩
      unfold atB
      (exists c1)
  | [], _ :: _, _, h => h.elim
  | _ :: _, [], _, h => h.elim
theorem all_true_run (hT : T3 f) (b : Nat) {d : D} {cs : List (List (Nat × Nat))} (t : Nat) (h : NCs d cs) : i_all_true.run (tb.glo f) b [d, .int (t : Nat)] s = .ok (.v (.bl (allT cs t))) s := by
  rw [run_F rfl]
  obtain ⟨_, k, ds, hd, ha⟩ := h
  obtain ⟨x2, e⟩ := at_loop hT (b := s.length) (s := s) (d := d) (t := t) ds cs none ha
  cases ht : allT cs t
  · rw [ht] at e
    apply run_ret rfl
    · unfold i_all_true
      show xSs _ _ _ [some d, some (.int (t : Nat)), none] _ = _
      apply ss_ret
      apply s_forB
      · (exists hd)
      · exact e
    · exact end_bl rfl
  · rw [ht] at e
    apply run_ret rfl
    · unfold i_all_true
      show xSs _ _ _ [some d, some (.int (t : Nat)), none] _ = _
      apply ss_nx
      · apply s_forB
        · (exists hd)
        · exact e
      · (exists rfl)
    · exact end_bl rfl
def iaB : ISs := (.cons (.ifs (.not (.e (.call 3 (.cons (.var 0) (.cons (.var 2) .nil))))) (.cons (.ret (.bl false))
    .nil) .nil)
    .nil)
theorem ia_loop (hT : T3 f) {b : Nat} {d st : D} {c : List (Nat × Nat)} (h : NC d c) : ∀ (ts : List Nat) (x2 : Option D), ∃ x2',
    forL (bodyF (tb.glo f) b (.name 2) iaB) (wd ts) [some d, some st, x2] s = .ok (if inAll c ts then .nx else .ret (.v (.bl false)), [some d, some st, x2']) s
  | [], x2 => ⟨x2, rfl⟩
  | t :: ts, x2 => by
    have c1 := callR_of (b := b) (s := s) (by simp [cbs, cb, h.1]) (hT t h)
    cases ht : isT c t
    · have : inAll c (t :: ts) = false := by simp [inAll, ht]
      rw [this]
      rw [ht] at c1
      refine ⟨some (.int (t : Nat)), forL_ret (e1 := [some d, some st, some (.int (t : Nat))]) ?_⟩
      unfold iaB
      (exists c1)
    · have : inAll c (t :: ts) = inAll c ts := by simp [inAll, ht]
      rw [this]
      rw [ht] at c1
      obtain ⟨y2, e⟩ := ia_loop hT (b := b) (st := st) h ts (some (.int (t : Nat)))
      refine ⟨y2, forL_cons ?_ e⟩
      unfold iaB
      (exists c1)
theorem in_all_run (hT : T3 f) (b : Nat) {d : D} {c : List (Nat × Nat)} (h : NC d c) (ts : List Nat) : i_is_true_in_all.run (tb.glo f) b [d, .lst (wd ts)] s = .ok (.v (.bl (inAll c ts))) s := by
  rw [run_F rfl]
  obtain ⟨x2, e⟩ := ia_loop hT (b := s.length) (s := s) (st := .lst (wd ts)) h ts none
  cases ht : inAll c ts
  · rw [ht] at e
    apply run_ret rfl
    · unfold i_is_true_in_all
      show xSs _ _ _ [some d, some (.lst (wd ts)), none] _ = _
      apply ss_ret
      apply s_forB
      · (exists rfl)
      · exact e
    · exact end_bl rfl
  · rw [ht] at e
    apply run_ret rfl
    · unfold i_is_true_in_all
      show xSs _ _ _ [some d, some (.lst (wd ts)), none] _ = _
      apply ss_nx
      · apply s_forB
        · (exists rfl)
        · exact e
      · (exists rfl)
    · exact end_bl rfl
theorem ne_pair {gd : Nat → List (Str × D)} (p q : Nat × Nat) : cmpR gd .ne (encP q) (encP p) s = some (decide (q ≠ p)) := by
  obtain ⟨a, b⟩ := p
  obtain ⟨c, d⟩ := q
  simp [cmpR, eqD, encP, flat, thaw, toPy, toPys, SeqAt.shaped, PyData.eqv]
  refine ⟨⟨⟨rfl, ?_⟩, rfl, ?_⟩, ?_⟩
  · simp [PyData.depth, PyData.depthAll]
  · simp [PyData.depth, PyData.depthAll]
  · simp only [PyData.eqvAll, PyData.eqv, Bool.and_true]
    have h : ∀ x y : Nat, ((x : Int) == (y : Int)) = decide (x = y) := fun x y => by
      rw [← dnat]
      rfl
    rw [h, h]
end K19

set_option Elab.async false
set_option linter.all false
set_option maxRecDepth 100000
set_option maxHeartbeats 1000000
namespace K19
open PySem PySem.Spec PyProof.Rows L2 En
open MC (isT allT inAll diffC short short1 shortL shortL1 clsFor clsStep)
variable {s : Store} {f : Den}
def T4 (f : Den) : Prop := ∀ {d : D} {cs : List (List (Nat × Nat))} (t : Nat), NCs d cs → f.fn 4 0 [d, .int (t : Nat)] [] = .ok (.v (.bl (allT cs t))) []
def T5 (f : Den) : Prop := ∀ {d : D} {c : List (Nat × Nat)} (ts : List Nat), NC d c → f.fn 5 0 [d, .lst (wd ts)] [] = .ok (.v (.bl (inAll c ts))) []
def shB : ISs := (.cons (.asg (.name 4) (.lc [("other", 5)] (.name 5) (.seq (.var 2)) (.t (.e (.cmp .ne (.var 5) (.var 3)))) (.var 5)))
    (.cons (.ifs (.e (.call 5 (.cons (.var 4) (.cons (.var 1) .nil)))) (.cons (.asg (.name 2) (.var 4))
    .nil) .nil)
    .nil))
theorem filt_len {α : Type} (P : α → Bool) (c : List α) : (c.filter P).length ≤ c.length := List.length_filter_le P c
theorem sh_step (h5 : T5 f) {b : Nat} {c0 kept : List (Nat × Nat)} {ts : List Nat} {p : Nat × Nat} {x3 x4 x5 : Option D} (hl : kept.length < 1000) : ∃ x4',
    bodyF (tb.glo f) b (.name 3) shB (encP p) [some (.lst (encC c0)), some (.lst (wd ts)), some (.lst (encC kept)), x3, x4, x5] s = .ok (.nx, [some (.lst (encC c0)), some (.lst (wd ts)), some (.lst (encC (short1 ts kept p))), some (encP p), x4', x5]) s := by
  have it : ∀ q ∈ kept, itemF (tb.glo f) b [("other", 5)] (.name 5) (.t (.e (.cmp .ne (.var 5) (.var 3)))) (.var 5) [some (.lst (encC c0)), some (.lst (wd ts)), some (.lst (encC kept)), some (encP p), x4, x5] (encP q) s = .ok (if decide (q ≠ p) then [encP q] else []) s := fun q _ => by
    have n1 := ne_pair (s := s) (gd := (tb.glo f).gd) p q
    by_cases hq : q ≠ p
    · rw [decide_eq_true hq] at n1 ⊢
      apply b_lcB (r := .v (encP q))
      · apply g_name
        exact rfl
      · (exists n1)
      · (exists rfl)
    · rw [decide_eq_false hq] at n1 ⊢
      apply b_lcB0
      · apply g_name
        exact rfl
      · (exists n1)
  have lc := lc_filter (f := encP) (P := fun q => decide (q ≠ p)) (s := s) kept it
  have hlen : (encC kept).length ≤ 100000 := by simp only [encC, List.length_map]; omega
  have c5 := callR_of (b := b) (s := s) (by simp [cbs, cb, encC_cb, wd_cb]) (h5 ts (nc_lst (kept.filter fun q => decide (q ≠ p))))
  cases hi : inAll (kept.filter fun q => decide (q ≠ p)) ts
  · rw [hi] at c5
    have e : short1 ts kept p = kept := by simp only [short1, hi, Bool.false_eq_true, if_false]
    rw [e]
    refine ⟨some (.lst (encC (kept.filter fun q => decide (q ≠ p)))), ?_⟩
    unfold shB
    (exists hlen, lc, c5)
  · rw [hi] at c5
    have e : short1 ts kept p = kept.filter fun q => decide (q ≠ p) := by simp only [short1, hi, if_true]
    rw [e]
    refine ⟨some (.lst (encC (kept.filter fun q => decide (q ≠ p)))), ?_⟩
    unfold shB
    (exists hlen, lc, c5)
theorem short1_len (ts : List Nat) (kept : List (Nat × Nat)) (p : Nat × Nat) : (short1 ts kept p).length ≤ kept.length := by
  unfold short1
  split
  · exact filt_len _ _
  · exact Nat.le_refl _
theorem sh_loop (h5 : T5 f) {b : Nat} {c0 : List (Nat × Nat)} {ts : List Nat} {x5 : Option D} : ∀ (ps kept : List (Nat × Nat)) (x3 x4 : Option D), kept.length < 1000 → ∃ x3' x4',
    forL (bodyF (tb.glo f) b (.name 3) shB) (encC ps) [some (.lst (encC c0)), some (.lst (wd ts)), some (.lst (encC kept)), x3, x4, x5] s = .ok (.nx, [some (.lst (encC c0)), some (.lst (wd ts)), some (.lst (encC (ps.foldl (short1 ts) kept))), x3', x4', x5]) s
  | [], kept, x3, x4, _ => ⟨x3, x4, rfl⟩
  | p :: ps, kept, x3, x4, hl => by
    obtain ⟨y4, st⟩ := sh_step (s := s) h5 (b := b) (c0 := c0) (kept := kept) (ts := ts) (p := p) (x3 := x3) (x4 := x4) (x5 := x5) hl
    obtain ⟨z3, z4, e⟩ := sh_loop h5 (b := b) (c0 := c0) (ts := ts) (x5 := x5) ps (short1 ts kept p) (some (encP p)) y4 (Nat.lt_of_le_of_lt (short1_len ts kept p) hl)
    exact ⟨z3, z4, forL_cons st e⟩
theorem short_run (h5 : T5 f) (b : Nat) (c : List (Nat × Nat)) (ts : List Nat) (hl : c.length < 1000) : i_shortened.run (tb.glo f) b [.lst (encC c), .lst (wd ts)] s = .ok (.v (.tup (encC (short ts c)))) s := by
  rw [run_F rfl]
  obtain ⟨x3, x4, e⟩ := sh_loop (s := s) h5 (b := s.length) (c0 := c) (ts := ts) (x5 := none) c c none none hl
  apply run_ret rfl
  · unfold i_shortened
    show xSs _ _ _ [some (.lst (encC c)), some (.lst (wd ts)), none, none, none, none] _ = _
    apply ss_nx
    · (exists rfl)
    apply ss_nx
    · apply s_forB
      · (exists rfl)
      · exact e
    · (exists rfl)
  · exact end_v rfl (encC_cb _ _)
def T6 (f : Den) : Prop := ∀ (c : List (Nat × Nat)) (ts : List Nat), c.length < 1000 → f.fn 6 0 [.lst (encC c), .lst (wd ts)] [] = .ok (.v (.tup (encC (short ts c)))) []
theorem encCs_snoc (cs : List (List (Nat × Nat))) (c : List (Nat × Nat)) : encCs (cs ++ [c]) = encCs cs ++ [.tup (encC c)] := by simp [encCs]
/-- `x in ns` -/
theorem flats_wd : ∀ ls : List Nat, flats (wd ls) = some (ls.map fun l : Nat => V.int (l : Int))
  | [] => rfl
  | l :: ls => by
    show flats (.int (l : Nat) :: wd ls) = _
    simp only [flats, flat, Option.bind_some, flats_wd ls, Option.map_some]
    rfl
theorem inV_wd (x : Nat) : ∀ ls : List Nat, inV (.int (x : Int)) (ls.map fun l : Nat => V.int (l : Int)) = decide (x ∈ ls)
  | [] => by simp [inV]
  | l :: ls => by
    have ih := inV_wd x ls
    unfold inV at *
    rw [List.map_cons, List.any_cons, ih]
    have : eqV (.int (l : Int)) (.int (x : Int)) = decide (l = x) := by
      show ((l : Int) == (x : Int)) = _
      rw [← dnat]
      rfl
    rw [this, Bool.eq_iff_iff]
    simp only [Bool.or_eq_true, decide_eq_true_eq, List.mem_cons]
    constructor
    · rintro (h | h)
      · exact .inl h.symm
      · exact .inr h
    · rintro (h | h)
      · exact .inl h.symm
      · exact .inr h
theorem in_wd {gd : Nat → List (Str × D)} {d : D} {k : Bool} {ls : List Nat} (h : seqOf s d = some (k, wd ls)) (x : Nat) : cmpR gd .in_ (.int (x : Nat)) d s = some (decide (x ∈ ls)) := by
  simp only [cmpR, En.inR, h, flat, Option.bind_some, flats_wd, Option.map_some, inV_wd]
theorem nin_wd {gd : Nat → List (Str × D)} {d : D} {k : Bool} {ls : List Nat} (h : seqOf s d = some (k, wd ls)) (x : Nat) : cmpR gd .notIn (.int (x : Nat)) d s = some (decide (x ∉ ls)) := by
  simp only [cmpR, En.inR, h, flat, Option.bind_some, flats_wd, Option.map_some, inV_wd, decide_not]
def mObj (w : MC.W) : D := .obj 0 [("inputs", .int (w.I : Nat)), ("outputs", .int (w.O : Nat)), ("state_bits", .int (w.B : Nat)), ("reset", .int (w.R : Nat)), ("rows", .tup (encC w.rows))]
theorem mfld {na : Nat → Str → Bool} {w : MC.W} {x : Str} {d : D} (h : na 0 x = true) (hx : ([("inputs", .int (w.I : Nat)), ("outputs", .int (w.O : Nat)), ("state_bits", .int (w.B : Nat)), ("reset", .int (w.R : Nat)), ("rows", .tup (encC w.rows))] : List (Str × D)).lookup x = some d) : fldR na (mObj w) x s = some (.v d) := by
  unfold mObj
  simp only [fldR, objOf, Option.bind_some, h, if_true, hx, Option.map_some]
theorem m_cb (w : MC.W) : cb 0 (mObj w) = true := by simp [mObj, cb, cbf, encC_cb]
def T2 (f : Den) (w : MC.W) (reached : List Nat) : Prop := f.fn 2 0 [mObj w] [] = .ok (.n (.lst (wd reached))) []
def coB : ISs := (.cons (.ifs (.and (.e (.cmp .notIn (.var 3) (.var 1))) (.e (.callS 4 (.cons (.var 2) (.cons (.var 3) .nil))))) (.cons (.asg (.name 4) (.lc [("latch", 5)] (.name 5) (.rng1 (.fld (.var 0) "state_bits")) .yes (.tup (.cons (.var 5) (.cons (.op .sub (.int 1) (.op .band (.op .shr (.var 3) (.var 5)) (.int 1))) .nil)))))
    (.cons (.expr (.mt .append (.var 2) (.cons (.call 6 (.cons (.var 4) (.cons (.var 1) .nil))) .nil)))
    .nil)) .nil)
    .nil)
theorem e_callS {G : Glo} {b j : Nat} {es : IEs} {e : En.Env} {s s1 : Store} {xs : List D} {o : Out R} (h : xEs G b es e s = .ok xs s1) (h2 : snapR (G.fn j) xs s1 = o) : xE G b (.callS j es) e s = o := by
  simp only [xE, xEs] at *
  simp only [evE, h, Out.bind_ok, h2]
theorem snap_of {g : Nat → List D → Store → Out R} {xs ys : List D} {k : Bool} (h : xs.map (thawA s) = ys) (hc : cbs 0 ys = true) (h2 : g 0 ys [] = .ok (.v (.bl k)) []) : snapR g xs s = .ok (.v (.bl k)) s := by
  simp only [snapR, h, hc, if_true, h2]
  rfl
theorem dif_item {G : Glo} {b : Nat} {e0 e1 e2 e4 e5 : Option D} {t : Nat} (k : Nat) : itemF G b [("latch", 5)] (.name 5) .yes (.tup (.cons (.var 5) (.cons (.op .sub (.int 1) (.op .band (.op .shr (.var 3) (.var 5)) (.int 1))) .nil))) [e0, e1, e2, some (.int (t : Nat)), e4, e5] (.int (k : Nat)) s = .ok [encP (k, 1 - t / 2 ^ k % 2)] s := by
  have z : opR .sub (.int 1) (.int ((t / 2 ^ k % 2 : Nat) : Int)) s = some (.v (.int ((1 - t / 2 ^ k % 2 : Nat) : Int))) := sub_nat (a := 1) (by omega)
  apply b_lcB (r := .v (encP (k, 1 - t / 2 ^ k % 2)))
  · apply g_name
    exact rfl
  · exact c_yes
  · apply Eq.trans
    · (exists shr_nat _ _, and1 _, z)
    · exact rfl
theorem rng_nat (n : Nat) : rngL 0 n = (List.range n).map fun k : Nat => D.int (k : Nat) := rng0_wd n
theorem co_step (h4 : T4 f) (h6 : T6 f) {w : MC.W} (hB : w.B ≤ 8) {b : Nat} (hb : s.length = b) {reached : List Nat} {cs : List (List (Nat × Nat))} (hl : cs.length < 1000) {t : Nat} {x3 x4 x5 : Option D} : ∃ x4',
    bodyF (tb.glo f) b (.name 3) coB (.int (t : Nat)) [some (mObj w), some (.lst (wd reached)), some (.cell b), x3, x4, x5] (s ++ [.lst (encCs cs)]) =
      .ok (.nx, [some (mObj w), some (.lst (wd reached)), some (.cell b), some (.int (t : Nat)), x4', x5]) (s ++ [.lst (encCs (clsStep reached w.B cs t))]) := by
  have n1 := nin_wd (s := s ++ [.lst (encCs cs)]) (gd := (tb.glo f).gd) (d := .lst (wd reached)) (k := false) (ls := reached) rfl t
  have th : [D.cell b, D.int (t : Nat)].map (thawA (s ++ [.lst (encCs cs)])) = [.lst (encCs cs), .int (t : Nat)] := by
    subst hb
    simp [thawA]
  have c4 := snap_of th (by simp [cbs, cb, encCs_cb]) (h4 t (ncs_lst cs))
  by_cases hr : t ∈ reached
  · have e : clsStep reached w.B cs t = cs := by simp [clsStep, hr]
    rw [e]
    refine ⟨x4, ?_⟩
    have hr2 : ¬ (t ∉ reached) := fun h => h hr
    rw [decide_eq_false hr2] at n1
    unfold coB
    (exists n1)
  · rw [decide_eq_true hr] at n1
    cases ha : allT cs t
    · have e : clsStep reached w.B cs t = cs := by simp [clsStep, ha]
      rw [e]
      rw [ha] at c4
      refine ⟨x4, ?_⟩
      unfold coB
      apply b_forB
      · (exists rfl)
      apply ss_nx
      · apply s_if0
        · apply t_and1
          · (exists n1)
          · apply t_e
            · apply e_callS
              · (exists rfl)
              · exact c4
            · exact rfl
        · exact ss_nil
      · exact ss_nil
    · have e : clsStep reached w.B cs t = cs ++ [short reached (diffC t w.B)] := by simp [clsStep, ha, hr]
      rw [e, encCs_snoc]
      rw [ha] at c4
      refine ⟨some (.lst (encC (diffC t w.B))), ?_⟩
      have lc := lc_mapg (f := fun k : Nat => D.int (k : Nat)) (h := fun k => encP (k, 1 - t / 2 ^ k % 2)) (s := s ++ [.lst (encCs cs)]) (List.range w.B) fun k _ => dif_item (G := tb.glo f) (b := b) (e0 := some (mObj w)) (e1 := some (.lst (wd reached))) (e2 := some (.cell b)) (e4 := x4) (e5 := x5) (t := t) k
      rw [← rng_nat] at lc
      have ec : ((List.range w.B).map fun k => encP (k, 1 - t / 2 ^ k % 2)) = encC (diffC t w.B) := by simp [encC, diffC]
      rw [ec] at lc
      have hlen : (rngL 0 w.B).length ≤ 100000 := by rw [rngL_len]; omega
      have h18 : w.B < 1000000000000000000 := by omega
      have c6 := callR_of (b := b) (s := s ++ [.lst (encCs cs)]) (by simp [cbs, cb, encC_cb, wd_cb]) (h6 (diffC t w.B) reached (by simp [diffC]; omega))
      have m := app_own (gd := (tb.glo f).gd) (b := b) s (encCs cs) (.tup (encC (short reached (diffC t w.B)))) hb (Nat.le_refl _) (by simp only [encCs, List.length_map]; omega)
      unfold coB
      apply b_forB
      · (exists rfl)
      apply ss_nx
      · apply s_if1
        · apply t_and1
          · (exists n1)
          · apply t_e
            · apply e_callS
              · (exists rfl)
              · exact c4
            · exact rfl
        · apply ss_nx
          · apply s_name'
            · apply e_lcB
              · apply i_rng1
                · (exists mfld (x := "state_bits") rfl rfl)
                · exact rfl
                · exact h18
              · exact hlen
              · exact lc
            · exact rfl
          · (exists isl_own s (encCs cs) hb, c6, m)
      · exact ss_nil
theorem co_loop (h4 : T4 f) (h6 : T6 f) {w : MC.W} (hB : w.B ≤ 8) {b : Nat} (hb : s.length = b) {reached : List Nat} : ∀ (ts : List Nat) (cs : List (List (Nat × Nat))) (x3 x4 x5 : Option D), cs.length + ts.length < 1000 → ∃ x3' x4',
    forL (bodyF (tb.glo f) b (.name 3) coB) (wd ts) [some (mObj w), some (.lst (wd reached)), some (.cell b), x3, x4, x5] (s ++ [.lst (encCs cs)]) =
      .ok (.nx, [some (mObj w), some (.lst (wd reached)), some (.cell b), x3', x4', x5]) (s ++ [.lst (encCs (ts.foldl (clsStep reached w.B) cs))])
  | [], cs, x3, x4, x5, _ => ⟨x3, x4, rfl⟩
  | t :: ts, cs, x3, x4, x5, hl => by
    simp only [List.length_cons] at hl
    obtain ⟨y4, st⟩ := co_step h4 h6 hB hb (s := s) (reached := reached) (cs := cs) (by omega) (t := t) (x3 := x3) (x4 := x4) (x5 := x5)
    have hlen : (clsStep reached w.B cs t).length ≤ cs.length + 1 := by
      unfold clsStep
      split <;> simp
    obtain ⟨z3, z4, e⟩ := co_loop h4 h6 hB hb (reached := reached) ts (clsStep reached w.B cs t) (some (.int (t : Nat))) y4 x5 (by omega)
    exact ⟨z3, z4, forL_cons st e⟩
theorem clauses_of_run (h4 : T4 f) (h6 : T6 f) {w : MC.W} (hB : w.B ≤ 8) {reached : List Nat} (h2 : T2 f w reached) (b : Nat) : i_clauses_of.run (tb.glo f) b [mObj w] s = .ok (.n (.lst (encCs (clsFor reached w.B)))) s := by
  rw [run_F rfl]
  have hN : 2 ^ w.B ≤ 256 := pow_le hB
  obtain ⟨x3, x4, e⟩ := co_loop h4 h6 hB (s := s) rfl (reached := reached) (List.range (2 ^ w.B)) [] none none none (by simp; omega)
  rw [← rng0_wd] at e
  have c2 := callR_of (b := s.length) (s := s) (xs := [mObj w]) (by simp [cbs, m_cb]) h2
  have sh := shl1 (s := s ++ [.lst (encCs [])]) w.B (by omega)
  have h18 : 2 ^ w.B < 1000000000000000000 := by omega
  apply run_of rfl
  · unfold i_clauses_of
    show xSs _ _ _ [some (mObj w), none, none, none, none, none] _ = _
    apply ss_nx
    · (exists c2)
    apply ss_nx
    · (exists rfl)
    apply ss_nx
    · apply s_forB
      · apply i_rng1
        · apply e_op
          · (exists rfl)
          · (exists mfld (x := "state_bits") rfl rfl)
          · exact sh
        · exact rfl
        · exact h18
      · exact e
    · (exists rfl)
  · have e1 : (s ++ [O.lst (encCs (clsFor reached w.B))])[s.length]? = some (.lst (encCs (clsFor reached w.B))) := by simp
    simp only [endR]
    rw [show (List.range (2 ^ w.B)).foldl (clsStep reached w.B) [] = clsFor reached w.B from rfl, e1]
    simp [cbO, encCs_cb]
end K19

set_option Elab.async false
set_option linter.all false
set_option maxRecDepth 100000
set_option maxHeartbeats 1000000
namespace En
open PySem PySem.Spec PyProof.Rows L2
/-- over a list in a cell, where nothing changes -/
theorem lcC_is {f : D → Store → Out (List D)} {n : Nat} {s : Store} {ds : List D} (h : s[n]? = some (.lst ds)) (hf : ∀ d ∈ ds, ∃ x, f d s = .ok x s) : ∀ (F i : Nat), i ≤ ds.length → ds.length < F + i → lcC f n F i s = lcL f (ds.drop i) s
  | 0, i, h1, hF => by
    exfalso
    omega
  | F + 1, i, h1, hF => by
    unfold lcC
    simp only [h]
    cases hd : ds[i]? with
    | none =>
      rw [List.drop_of_length_le (List.getElem?_eq_none_iff.mp hd)]
      rfl
    | some d =>
      obtain ⟨hi, e⟩ := List.getElem?_eq_some_iff.mp hd
      obtain ⟨x, hx⟩ := hf d (List.mem_of_getElem? hd)
      rw [List.drop_eq_getElem_cons hi, e]
      simp only [hx, Out.bind_ok, lcL]
      rw [lcC_is h hf F (i + 1) (by omega) (by omega)]
/-- how many an `if` leaves -/
theorem lc_count {α : Type} {R : D → α → Prop} {P : α → Bool} {g : D → Store → Out (List D)} {s : Store} : ∀ (ds : List D) (as : List α), All2 R ds as → (∀ d a, R d a → d ∈ ds → a ∈ as → g d s = .ok (if P a then [d] else []) s) →
    ∃ r, lcL g ds s = .ok r s ∧ r.length = (as.filter P).length
  | [], [], _, _ => ⟨[], rfl, rfl⟩
  | d :: ds, a :: as, h, hg => by
    obtain ⟨r, h1, h2⟩ := lc_count (P := P) (g := g) (s := s) ds as h.2 fun d' a' hr hd ha => hg d' a' hr (List.mem_cons_of_mem _ hd) (List.mem_cons_of_mem _ ha)
    refine ⟨_, lcL_cons (hg d a h.1 (by simp) (by simp)) h1, ?_⟩
    rw [List.filter_cons, List.length_append, h2]
    cases P a <;> simp
    omega
  | [], _ :: _, h, _ => h.elim
  | _ :: _, [], h, _ => h.elim
end En
namespace K19
open PySem PySem.Spec PyProof.Rows L2 En
open MC (isT allT inAll diffC short short1 shortL shortL1 clsFor clsStep)
variable {s : Store} {f : Den}
theorem All2.len {α β : Type} {R : α → β → Prop} : ∀ {as : List α} {bs : List β}, All2 R as bs → as.length = bs.length
  | [], [], _ => rfl
  | a :: as, b :: bs, h => by simp [All2.len h.2]
  | [], _ :: _, h => h.elim
  | _ :: _, [], h => h.elim
theorem gt0 {gd : Nat → List (Str × D)} (n : Nat) : cmpR gd .gt (.int (n : Nat)) (.int 0) s = some (decide (0 < n)) := by
  show some (decide _) = _
  rw [show decide ((0 : Int) < (n : Nat)) = decide (0 < n) from by rw [decide_eq_decide]; omega]
theorem law_true_run {G : Glo} (b : Nat) {d : D} {c : List (Nat × Nat)} (t : Nat) (h : NC d c) (hl : c.length ≤ 100000) : i_law_true.run G b [d, .int (t : Nat)] s = .ok (.v (.bl (isT c t))) s := by
  rw [run_F rfl]
  obtain ⟨_, k, ds, hd, ha⟩ := h
  obtain ⟨r, lc, hr⟩ := lc_count (P := fun p : Nat × Nat => decide (t / 2 ^ p.1 % 2 = p.2)) (g := itemF G s.length [("pair", 2)] (.name 2) (.t (.e (.cmp .eq (.op .band (.op .shr (.var 1) (.ix (.var 2) (.int 0))) (.int 1)) (.ix (.var 2) (.int 1))))) (.var 2) [some d, some (.int (t : Nat)), none]) (s := s) ds c ha fun q p hq _ _ => by
    obtain ⟨k', hq⟩ := hq
    have i0 : ixR G.gd q (.int 0) s = some (.v (.int (p.1 : Nat))) := frz_ix (i := 0) hq rfl
    have i1 : ixR G.gd q (.int 1) s = some (.v (.int (p.2 : Nat))) := frz_ix (i := 1) hq rfl
    have e1 : cmpR G.gd .eq (.int ((t / 2 ^ p.1 % 2 : Nat) : Int)) (.int (p.2 : Nat)) s = some (decide (t / 2 ^ p.1 % 2 = p.2)) := by rw [En.eq_int, dnat]
    by_cases hp : t / 2 ^ p.1 % 2 = p.2
    · rw [decide_eq_true hp] at e1 ⊢
      apply b_lcB (r := .v q)
      · apply g_name
        exact rfl
      · (exists i0, i1, shr_nat _ _, and1 _, e1)
      · (exists rfl)
    · rw [decide_eq_false hp] at e1 ⊢
      apply b_lcB0
      · apply g_name
        exact rfl
      · (exists i0, i1, shr_nat _ _, and1 _, e1)
  have hlen : ds.length ≤ 100000 := by rw [All2.len ha]; exact hl
  have e2 : decide (0 < r.length) = isT c t := by
    rw [hr, Bool.eq_iff_iff, decide_eq_true_eq, List.length_filter_pos_iff]
    unfold isT
    rw [List.any_eq_true]
  have cg : cmpR G.gd .gt (.int (r.length : Nat)) (.int 0) s = some (isT c t) := by rw [gt0, e2]
  apply run_ret rfl
  · unfold i_law_true
    show xSs _ _ _ [some d, some (.int (t : Nat)), none] _ = _
    (exists hd, hlen, lc, len_lst, cg)
  · exact end_bl rfl
def T20 (f : Den) : Prop := ∀ {d : D} {c : List (Nat × Nat)} (t : Nat), NC d c → c.length ≤ 100000 → f.fn 20 0 [d, .int (t : Nat)] [] = .ok (.v (.bl (isT c t))) []
theorem eq0 {gd : Nat → List (Str × D)} (n : Nat) : cmpR gd .eq (.int (n : Nat)) (.int 0) s = some (decide (n = 0)) := by
  rw [En.eq_int, show ((0 : Int)) = ((0 : Nat) : Int) from rfl, dnat]
/-- no clause is false -/
theorem filt_zero {α : Type} {P : α → Bool} {l : List α} : decide ((l.filter fun a => !P a).length = 0) = l.all P := by
  rw [Bool.eq_iff_iff, decide_eq_true_eq, List.length_eq_zero_iff, List.filter_eq_nil_iff, List.all_eq_true]
  constructor
  · intro h a ha
    have := h a ha
    simpa using this
  · intro h a ha
    simp [h a ha]
def cfLen (i : Nat) : IE := .blt .len (.cons (.lc [("one", 8)] (.name 8) (.seq (.var i)) (.t (.not (.e (.call 20 (.cons (.var 8) (.cons (.var 3) .nil)))))) (.var 8)) .nil)
theorem cf_all (h20 : T20 f) {b n : Nat} {cs : List (List (Nat × Nat))} {t : Nat} {e0 e1 e4 e5 e6 e7 e8 : Option D} (hs : s[n]? = some (.lst (encCs cs))) (hl : cs.length < 1000) (hc : ∀ c ∈ cs, c.length ≤ 1000) :
    ∃ r : List D, decide (r.length = 0) = allT cs t ∧ xE (tb.glo f) b (.lc [("one", 8)] (.name 8) (.seq (.var 2)) (.t (.not (.e (.call 20 (.cons (.var 8) (.cons (.var 3) .nil)))))) (.var 8)) [e0, e1, some (.cell n), some (.int (t : Nat)), e4, e5, e6, e7, e8] s = .ok (.n (.lst r)) s := by
  have it : ∀ d c, NC d c → d ∈ encCs cs → c ∈ cs → itemF (tb.glo f) b [("one", 8)] (.name 8) (.t (.not (.e (.call 20 (.cons (.var 8) (.cons (.var 3) .nil)))))) (.var 8) [e0, e1, some (.cell n), some (.int (t : Nat)), e4, e5, e6, e7, e8] d s = .ok (if !isT c t then [d] else []) s := fun d c hd _ hm => by
    have c1 := callR_of (b := b) (s := s) (by simp [cbs, cb, hd.1]) (h20 t hd (by have := hc c hm; omega))
    cases ht : isT c t
    · rw [ht] at c1
      apply b_lcB (r := .v d)
      · apply g_name
        exact rfl
      · (exists c1)
      · (exists rfl)
    · rw [ht] at c1
      apply b_lcB0
      · apply g_name
        exact rfl
      · (exists c1)
  have A : All2 NC (encCs cs) cs := All2.map nc_tup cs
  obtain ⟨r, lc, hr⟩ := lc_count (P := fun c => !isT c t) (s := s) (encCs cs) cs A it
  have hx : ∀ d ∈ encCs cs, ∃ x, itemF (tb.glo f) b [("one", 8)] (.name 8) (.t (.not (.e (.call 20 (.cons (.var 8) (.cons (.var 3) .nil)))))) (.var 8) [e0, e1, some (.cell n), some (.int (t : Nat)), e4, e5, e6, e7, e8] d s = .ok x s := fun d hd => by
    obtain ⟨c, hc', rfl⟩ := List.mem_map.mp hd
    exact ⟨_, it _ c (nc_tup c) hd hc'⟩
  have el : (encCs cs).length = cs.length := by simp [encCs]
  have lcc := lcC_is hs hx 1000000 0 (by omega) (by omega)
  rw [List.drop_zero, lc] at lcc
  have hr2 := filt_len (fun c => !isT c t) cs
  refine ⟨r, ?_, ?_⟩
  · rw [hr]
    exact filt_zero
  · apply e_lcC (n := n)
    · apply i_cell (ds := encCs cs)
      · (exists rfl)
      · exact rfl
      · exact hs
    · exact lcc
    · omega
def krB : ISs := (.cons (.asg (.name 6) (.lc [("pair", 7)] (.name 7) (.seq (.var 4)) (.t (.e (.cmp .ne (.ix (.var 7) (.int 0)) (.var 5)))) (.var 7)))
    (.cons (.ifs (.e (.cmp .eq (.blt .len (.cons (.lc [("one", 8)] (.name 8) (.seq (.var 0)) (.t (.not (.e (.call 20 (.cons (.var 6) (.cons (.var 8) .nil)))))) (.var 8)) .nil)) (.int 0))) (.cons (.asg (.name 4) (.var 6))
    .nil) .nil)
    .nil))
theorem kr_step (h20 : T20 f) {b k : Nat} {st : List Nat} {kept : List (Nat × Nat)} {e1 e2 e3 e5 e6 e7 e8 : Option D} (hl : kept.length < 1000) (hs : st.length < 1000) : ∃ e6',
    bodyF (tb.glo f) b (.name 5) krB (.int (k : Nat)) [some (.lst (wd st)), e1, e2, e3, some (.lst (encC kept)), e5, e6, e7, e8] s =
      .ok (.nx, [some (.lst (wd st)), e1, e2, e3, some (.lst (encC (shortL1 st kept k))), some (.int (k : Nat)), e6', e7, e8]) s := by
  have it : ∀ q ∈ kept, itemF (tb.glo f) b [("pair", 7)] (.name 7) (.t (.e (.cmp .ne (.ix (.var 7) (.int 0)) (.var 5)))) (.var 7) [some (.lst (wd st)), e1, e2, e3, some (.lst (encC kept)), some (.int (k : Nat)), e6, e7, e8] (encP q) s = .ok (if decide (q.1 ≠ k) then [encP q] else []) s := fun q _ => by
    have i0 : ixR (tb.glo f).gd (encP q) (.int 0) s = some (.v (.int (q.1 : Nat))) := rfl
    have n1 : cmpR (tb.glo f).gd .ne (.int (q.1 : Nat)) (.int (k : Nat)) s = some (decide (q.1 ≠ k)) := by
      rw [En.ne_int, dnat, decide_not]
    by_cases hq : q.1 ≠ k
    · rw [decide_eq_true hq] at n1 ⊢
      apply b_lcB (r := .v (encP q))
      · apply g_name
        exact rfl
      · (exists i0, n1)
      · (exists rfl)
    · rw [decide_eq_false hq] at n1 ⊢
      apply b_lcB0
      · apply g_name
        exact rfl
      · (exists i0, n1)
  have lc := lc_filter (f := encP) (P := fun q : Nat × Nat => decide (q.1 ≠ k)) (s := s) kept it
  have hlen : (encC kept).length ≤ 100000 := by simp only [encC, List.length_map]; omega
  have hfl := filt_len (fun q : Nat × Nat => decide (q.1 ≠ k)) kept
  generalize hrest : (kept.filter fun q => decide (q.1 ≠ k)) = rest at *
  have it2 : ∀ t ∈ st, itemF (tb.glo f) b [("one", 8)] (.name 8) (.t (.not (.e (.call 20 (.cons (.var 6) (.cons (.var 8) .nil)))))) (.var 8) [some (.lst (wd st)), e1, e2, e3, some (.lst (encC kept)), some (.int (k : Nat)), some (.lst (encC rest)), e7, e8] (.int (t : Nat)) s = .ok (if !isT rest t then [.int (t : Nat)] else []) s := fun t _ => by
    have c1 := callR_of (b := b) (s := s) (by simp [cbs, cb, encC_cb]) (h20 t (nc_lst rest) (by omega))
    cases ht : isT rest t
    · rw [ht] at c1
      apply b_lcB (r := .v (.int (t : Nat)))
      · apply g_name
        exact rfl
      · (exists c1)
      · (exists rfl)
    · rw [ht] at c1
      apply b_lcB0
      · apply g_name
        exact rfl
      · (exists c1)
  have lc2 := lc_filter (f := fun t : Nat => D.int (t : Nat)) (P := fun t => !isT rest t) (s := s) st it2
  have hst : (wd st).length ≤ 100000 := by rw [wd_len]; omega
  have cz : cmpR (tb.glo f).gd .eq (.int ((((st.filter fun t => !isT rest t).map fun t : Nat => D.int (t : Nat)).length : Nat) : Int)) (.int 0) s = some (inAll rest st) := by
    rw [eq0, List.length_map]
    exact congrArg some filt_zero
  cases hi : inAll rest st
  · have e : shortL1 st kept k = kept := by simp only [shortL1, hrest, hi, Bool.false_eq_true, if_false]
    rw [e]
    rw [hi] at cz
    refine ⟨some (.lst (encC rest)), ?_⟩
    unfold krB
    (exists hlen, lc, hst, lc2, len_lst, cz)
  · have e : shortL1 st kept k = rest := by simp only [shortL1, hrest, hi, if_true]
    rw [e]
    rw [hi] at cz
    refine ⟨some (.lst (encC rest)), ?_⟩
    unfold krB
    (exists hlen, lc, hst, lc2, len_lst, cz)
theorem shortL1_len (st : List Nat) (kept : List (Nat × Nat)) (k : Nat) : (shortL1 st kept k).length ≤ kept.length := by
  unfold shortL1
  split
  · exact filt_len _ _
  · exact Nat.le_refl _
theorem kr_loop (h20 : T20 f) {b : Nat} {st : List Nat} {e1 e2 e3 e7 e8 : Option D} (hs : st.length < 1000) : ∀ (ks : List Nat) (kept : List (Nat × Nat)) (e5 e6 : Option D), kept.length < 1000 → ∃ e5' e6',
    forL (bodyF (tb.glo f) b (.name 5) krB) (wd ks) [some (.lst (wd st)), e1, e2, e3, some (.lst (encC kept)), e5, e6, e7, e8] s =
      .ok (.nx, [some (.lst (wd st)), e1, e2, e3, some (.lst (encC (ks.foldl (shortL1 st) kept))), e5', e6', e7, e8]) s
  | [], kept, e5, e6, _ => ⟨e5, e6, rfl⟩
  | k :: ks, kept, e5, e6, hl => by
    obtain ⟨y6, e⟩ := kr_step (s := s) h20 (b := b) (k := k) (st := st) (kept := kept) (e1 := e1) (e2 := e2) (e3 := e3) (e5 := e5) (e6 := e6) (e7 := e7) (e8 := e8) hl hs
    obtain ⟨z5, z6, e'⟩ := kr_loop h20 (b := b) (e1 := e1) (e2 := e2) (e3 := e3) (e7 := e7) (e8 := e8) hs ks (shortL1 st kept k) (some (.int (k : Nat))) y6 (Nat.lt_of_le_of_lt (shortL1_len st kept k) hl)
    exact ⟨z5, z6, forL_cons e e'⟩
end K19

set_option Elab.async false
set_option linter.all false
set_option maxRecDepth 100000
set_option maxHeartbeats 1000000
namespace En
open PySem PySem.Spec PyProof.Rows L2
theorem s_while {G : Glo} {b : Nat} {t : IT} {a : ISs} {e : En.Env} {s : Store} {o : Out (Ctl × En.Env)} (h : whileL (xT G b t) (xSs G b a) G.F e s = o) : xS G b (.while_ t a) e s = o := by
  have h1 : xT G b t = evT G b t := by funext e s; simp only [xT]
  have h2 : xSs G b a = exSs G b a := by funext e s; simp only [xSs]
  rw [h1, h2] at h
  simp only [xS]
  simp only [exS, h]
theorem wh_step {t : En.Env → Store → Out Bool} {f : En.Env → Store → Out (Ctl × En.Env)} {F : Nat} {e e1 : En.Env} {s s1 s2 : Store} {o : Out (Ctl × En.Env)} (h : t e s = .ok true s1) (h2 : f e s1 = .ok (.nx, e1) s2) (h3 : whileL t f F e1 s2 = o) : whileL t f (F + 1) e s = o := by
  simp [whileL, h, h2, Ctl.goes, h3]
theorem wh_end {t : En.Env → Store → Out Bool} {f : En.Env → Store → Out (Ctl × En.Env)} {F : Nat} {e : En.Env} {s s1 : Store} (h : t e s = .ok false s1) : whileL t f (F + 1) e s = .ok (.nx, e) s1 := by
  simp [whileL, h]
theorem forL_bk {f : D → En.Env → Store → Out (Ctl × En.Env)} {d : D} {ds : List D} {e e1 : En.Env} {s s1 : Store} (h : f d e s = .ok (.bk, e1) s1) : forL f (d :: ds) e s = .ok (.nx, e1) s1 := by simp [forL, h, Ctl.goes, Ctl.out]
theorem sIx_nat (n d x : Nat) : HT.sIx n d (some (x : Int)) = min x n := by
  unfold HT.sIx
  have : ¬ ((x : Int) < 0) := by omega
  simp [this]
end En
namespace K19
open PySem PySem.Spec PyProof.Rows L2 En
open MC (isT allT inAll diffC short short1 shortL shortL1 clsFor clsStep rowsOf succs add1 addNew bfs)
variable {s : Store} {f : Den}
def cfB : ISs := (.cons (.ifs (.and (.e (.cmp .notIn (.var 3) (.var 0))) (.e (.cmp .eq (.blt .len (.cons (.lc [("one", 8)] (.name 8) (.seq (.var 2)) (.t (.not (.e (.call 20 (.cons (.var 8) (.cons (.var 3) .nil)))))) (.var 8)) .nil)) (.int 0)))) (.cons (.asg (.name 4) (.lc [("k", 5)] (.name 5) (.rng1 (.var 1)) .yes (.tup (.cons (.var 5) (.cons (.op .sub (.int 1) (.op .band (.op .shr (.var 3) (.var 5)) (.int 1))) .nil)))))
    (.cons (.for_ (.name 5) (.rng1 (.var 1)) krB)
    (.cons (.expr (.mt .append (.var 2) (.cons (.blt .tuple (.cons (.var 4) .nil)) .nil)))
    .nil))) .nil)
    .nil)
theorem kdif_item {G : Glo} {b : Nat} {e0 e1 e2 e4 e5 e6 e7 e8 : Option D} {t : Nat} (k : Nat) : itemF G b [("k", 5)] (.name 5) .yes (.tup (.cons (.var 5) (.cons (.op .sub (.int 1) (.op .band (.op .shr (.var 3) (.var 5)) (.int 1))) .nil))) [e0, e1, e2, some (.int (t : Nat)), e4, e5, e6, e7, e8] (.int (k : Nat)) s = .ok [encP (k, 1 - t / 2 ^ k % 2)] s := by
  have z : opR .sub (.int 1) (.int ((t / 2 ^ k % 2 : Nat) : Int)) s = some (.v (.int ((1 - t / 2 ^ k % 2 : Nat) : Int))) := sub_nat (a := 1) (by omega)
  apply b_lcB (r := .v (encP (k, 1 - t / 2 ^ k % 2)))
  · apply g_name
    exact rfl
  · exact c_yes
  · apply Eq.trans
    · (exists shr_nat _ _, and1 _, z)
    · exact rfl
theorem cf_step (h20 : T20 f) {B : Nat} (hB : B ≤ 8) {b : Nat} (hb : s.length = b) {st : List Nat} (hst : st.length < 1000) {cs : List (List (Nat × Nat))} (hl : cs.length < 1000) (hc : ∀ c ∈ cs, c.length ≤ 1000) {t : Nat} {x3 x4 x5 x6 x7 x8 : Option D} : ∃ x4' x5' x6',
    bodyF (tb.glo f) b (.name 3) cfB (.int (t : Nat)) [some (.lst (wd st)), some (.int (B : Nat)), some (.cell b), x3, x4, x5, x6, x7, x8] (s ++ [.lst (encCs cs)]) =
      .ok (.nx, [some (.lst (wd st)), some (.int (B : Nat)), some (.cell b), some (.int (t : Nat)), x4', x5', x6', x7, x8]) (s ++ [.lst (encCs (clsStep st B cs t))]) := by
  have n1 := nin_wd (s := s ++ [.lst (encCs cs)]) (gd := (tb.glo f).gd) (d := .lst (wd st)) (k := false) (ls := st) rfl t
  have hcell : (s ++ [O.lst (encCs cs)])[b]? = some (.lst (encCs cs)) := by subst hb; simp
  by_cases hr : t ∈ st
  · have e : clsStep st B cs t = cs := by simp [clsStep, hr]
    rw [e]
    refine ⟨x4, x5, x6, ?_⟩
    have hr2 : ¬ (t ∉ st) := fun h => h hr
    rw [decide_eq_false hr2] at n1
    unfold cfB
    (exists n1)
  · rw [decide_eq_true hr] at n1
    obtain ⟨r, hr0, e1⟩ := cf_all h20 (s := s ++ [.lst (encCs cs)]) (b := b) (n := b) (t := t) (e0 := some (.lst (wd st))) (e1 := some (.int (B : Nat))) (e4 := x4) (e5 := x5) (e6 := x6) (e7 := x7) (e8 := x8) hcell hl hc
    have cz : cmpR (tb.glo f).gd .eq (.int (r.length : Nat)) (.int 0) (s ++ [.lst (encCs cs)]) = some (allT cs t) := by rw [eq0, hr0]
    cases ha : allT cs t
    · have e : clsStep st B cs t = cs := by simp [clsStep, ha]
      rw [e]
      rw [ha] at cz
      refine ⟨x4, x5, x6, ?_⟩
      unfold cfB
      apply b_forB
      · (exists rfl)
      apply ss_nx
      · apply s_if0
        · apply t_and1
          · (exists n1)
          · apply t_e
            · apply e_cmp
              · apply e_blt
                · apply es_cons
                  · exact e1
                  · exact es_nil
                · exact len_lst
              · (exists rfl)
              · exact cz
            · exact rfl
        · exact ss_nil
      · exact ss_nil
    · have e : clsStep st B cs t = cs ++ [short st (diffC t B)] := by simp [clsStep, ha, hr]
      rw [e, encCs_snoc, ← MC.short_eq]
      rw [ha] at cz
      have lc := lc_mapg (f := fun k : Nat => D.int (k : Nat)) (h := fun k => encP (k, 1 - t / 2 ^ k % 2)) (s := s ++ [.lst (encCs cs)]) (List.range B) fun k _ => kdif_item (G := tb.glo f) (b := b) (e0 := some (.lst (wd st))) (e1 := some (.int (B : Nat))) (e2 := some (.cell b)) (e4 := x4) (e5 := x5) (e6 := x6) (e7 := x7) (e8 := x8) (t := t) k
      rw [← rng_nat] at lc
      have ec : ((List.range B).map fun k => encP (k, 1 - t / 2 ^ k % 2)) = encC (diffC t B) := by simp [encC, diffC]
      rw [ec] at lc
      have hlen : (rngL 0 B).length ≤ 100000 := by rw [rngL_len]; omega
      have h18 : B < 1000000000000000000 := by omega
      obtain ⟨y5, y6, el⟩ := kr_loop h20 (s := s ++ [.lst (encCs cs)]) (b := b) (st := st) (e1 := some (.int (B : Nat))) (e2 := some (.cell b)) (e3 := some (.int (t : Nat))) (e7 := x7) (e8 := x8) hst (List.range B) (diffC t B) x5 x6 (by simp [diffC]; omega)
      rw [← rng0_wd] at el
      have m := app_own (gd := (tb.glo f).gd) (b := b) s (encCs cs) (.tup (encC (shortL st B (diffC t B)))) hb (Nat.le_refl _) (by simp only [encCs, List.length_map]; omega)
      have bt : ∀ (ds : List D) (s : Store), bltR .tuple [.lst ds] s = some (.v (.tup ds)) := fun ds s => rfl
      refine ⟨some (.lst (encC (shortL st B (diffC t B)))), y5, y6, ?_⟩
      unfold cfB
      apply b_forB
      · (exists rfl)
      apply ss_nx
      · apply s_if1
        · apply t_and1
          · (exists n1)
          · apply t_e
            · apply e_cmp
              · apply e_blt
                · apply es_cons
                  · exact e1
                  · exact es_nil
                · exact len_lst
              · (exists rfl)
              · exact cz
            · exact rfl
        · apply ss_nx
          · apply s_name'
            · apply e_lcB
              · apply i_rng1
                · (exists rfl)
                · exact rfl
                · exact h18
              · exact hlen
              · exact lc
            · exact rfl
          apply ss_nx
          · apply s_forB
            · apply i_rng1
              · (exists rfl)
              · exact rfl
              · exact h18
            · exact el
          · (exists isl_own s (encCs cs) hb, bt _ _, m)
      · exact ss_nil
theorem short_len (st : List Nat) : ∀ (ps kept : List (Nat × Nat)), (ps.foldl (short1 st) kept).length ≤ kept.length
  | [], _ => Nat.le_refl _
  | p :: ps, kept => Nat.le_trans (short_len st ps _) (short1_len st kept p)
theorem cf_loop (h20 : T20 f) {B : Nat} (hB : B ≤ 8) {b : Nat} (hb : s.length = b) {st : List Nat} (hst : st.length < 1000) : ∀ (ts : List Nat) (cs : List (List (Nat × Nat))) (x3 x4 x5 x6 x7 x8 : Option D), cs.length + ts.length < 1000 → (∀ c ∈ cs, c.length ≤ 1000) → ∃ x3' x4' x5' x6',
    forL (bodyF (tb.glo f) b (.name 3) cfB) (wd ts) [some (.lst (wd st)), some (.int (B : Nat)), some (.cell b), x3, x4, x5, x6, x7, x8] (s ++ [.lst (encCs cs)]) =
      .ok (.nx, [some (.lst (wd st)), some (.int (B : Nat)), some (.cell b), x3', x4', x5', x6', x7, x8]) (s ++ [.lst (encCs (ts.foldl (clsStep st B) cs))])
  | [], cs, x3, x4, x5, x6, x7, x8, _, _ => ⟨x3, x4, x5, x6, rfl⟩
  | t :: ts, cs, x3, x4, x5, x6, x7, x8, hl, hc => by
    simp only [List.length_cons] at hl
    obtain ⟨y4, y5, y6, e⟩ := cf_step h20 hB hb (s := s) hst (cs := cs) (by omega) hc (t := t) (x3 := x3) (x4 := x4) (x5 := x5) (x6 := x6) (x7 := x7) (x8 := x8)
    have hlen : (clsStep st B cs t).length ≤ cs.length + 1 := by
      unfold clsStep
      split <;> simp
    obtain ⟨z3, z4, z5, z6, e'⟩ := cf_loop h20 hB hb hst ts (clsStep st B cs t) (some (.int (t : Nat))) y4 y5 y6 x7 x8 (by omega) fun c hm => by
      unfold clsStep at hm
      split at hm
      · rcases List.mem_append.mp hm with hm | hm
        · exact hc c hm
        · rw [List.mem_singleton.mp hm]
          have := short_len st (diffC t B) (diffC t B)
          have h2 : (diffC t B).length = B := by simp [diffC]
          unfold short
          omega
      · exact hc c hm
    exact ⟨z3, z4, z5, z6, forL_cons e e'⟩
theorem clauses_for_run (h20 : T20 f) {B : Nat} (hB : B ≤ 8) {st : List Nat} (hst : st.length < 1000) (b : Nat) : i_law_clauses_for.run (tb.glo f) b [.lst (wd st), .int (B : Nat)] s = .ok (.n (.lst (encCs (clsFor st B)))) s := by
  rw [run_F rfl]
  have hN : 2 ^ B ≤ 256 := pow_le hB
  obtain ⟨x3, x4, x5, x6, e⟩ := cf_loop h20 hB (s := s) rfl hst (List.range (2 ^ B)) [] none none none none none none (by simp; omega) (by simp)
  rw [← rng0_wd] at e
  have sh := shl1 (s := s ++ [.lst (encCs [])]) B (by omega)
  have h18 : 2 ^ B < 1000000000000000000 := by omega
  apply run_of rfl
  · unfold i_law_clauses_for
    show xSs _ _ _ [some (.lst (wd st)), some (.int (B : Nat)), none, none, none, none, none, none, none] _ = _
    apply ss_nx
    · (exists rfl)
    apply ss_nx
    · apply s_forB
      · apply i_rng1
        · apply e_op
          · (exists rfl)
          · (exists rfl)
          · exact sh
        · exact rfl
        · exact h18
      · exact e
    · (exists rfl)
  · have e1 : (s ++ [O.lst (encCs (clsFor st B))])[s.length]? = some (.lst (encCs (clsFor st B))) := by simp
    simp only [endR]
    rw [show (List.range (2 ^ B)).foldl (clsStep st B) [] = clsFor st B from rfl, e1]
    simp [cbO, encCs_cb]
theorem rows_bound {w : MC.W} (h : MC.WOk w) {t : Nat} (ht : t < 2 ^ w.B) : (t + 1) * 2 ^ w.I ≤ w.rows.length := by
  rw [h.len, Nat.pow_add]
  exact Nat.mul_le_mul_right _ ht
theorem rowsOf_len {w : MC.W} (h : MC.WOk w) {t : Nat} (ht : t < 2 ^ w.B) : (rowsOf w t).length = 2 ^ w.I := by
  have := rows_bound h ht
  rw [Nat.succ_mul] at this
  simp only [rowsOf, List.length_take, List.length_drop]
  omega
theorem rows_of_run {G : Glo} (hn : ∀ x, x ∈ (["inputs", "rows"] : List Str) → G.na 0 x = true) {w : MC.W} (h : MC.WOk w) (b : Nat) {t : Nat} (ht : t < 2 ^ w.B) : i_rows_of.run G b [mObj w, .int (t : Nat)] s = .ok (.v (.tup (encC (rowsOf w t)))) s := by
  rw [run_F rfl]
  have hB : 2 ^ w.B ≤ 256 := pow_le h.b
  have hb := rows_bound h ht
  have s1 := shl_nat (s := s) t w.I (by omega) (by have := h.i; omega)
  have a1 : opR .add (.int (t : Nat)) (.int 1) s = some (.v (.int ((t + 1 : Nat) : Int))) := add_nat t 1
  have s2 := shl_nat (s := s) (t + 1) w.I (by omega) (by have := h.i; omega)
  have sl : slR (.tup (encC w.rows)) (some ((t * 2 ^ w.I : Nat) : Int)) (some (((t + 1) * 2 ^ w.I : Nat) : Int)) s = some (.v (.tup (encC (rowsOf w t)))) := by
    have el : (encC w.rows).length = w.rows.length := by simp [encC]
    have hs : t * 2 ^ w.I ≤ (t + 1) * 2 ^ w.I := Nat.mul_le_mul_right _ (Nat.le_succ t)
    simp only [slR, seqOf, isTupD, true_or, if_true, sIx_nat, el]
    rw [Nat.min_eq_left hb, Nat.min_eq_left (Nat.le_trans hs hb)]
    have hd : (t + 1) * 2 ^ w.I - t * 2 ^ w.I = 2 ^ w.I := by rw [Nat.succ_mul, Nat.add_sub_cancel_left]
    rw [hd]
    simp [encC, rowsOf, List.map_take, List.map_drop]
  have f1 := mfld (s := s) (na := G.na) (w := w) (x := "rows") (hn _ (by simp)) rfl
  have f2 := mfld (s := s) (na := G.na) (w := w) (x := "inputs") (hn _ (by simp)) rfl
  apply run_ret rfl
  · unfold i_rows_of
    show xSs _ _ _ [some (mObj w), some (.int (t : Nat))] _ = _
    apply ss_ret
    apply s_ret
    apply e_sl
    · (exists f1)
    · apply o_some
      · (exists f2, s1)
      · exact rfl
    · apply o_some
      · (exists f2, a1, s2)
      · exact rfl
    · exact sl
  · exact end_v rfl (encC_cb _ _)
def T0 (f : Den) (w : MC.W) : Prop := ∀ t : Nat, t < 2 ^ w.B → f.fn 0 0 [mObj w, .int (t : Nat)] [] = .ok (.v (.tup (encC (rowsOf w t)))) []
end K19

set_option Elab.async false
set_option linter.all false
set_option maxRecDepth 100000
set_option maxHeartbeats 1000000
namespace K19
open PySem PySem.Spec PyProof.Rows L2 En
open MC (isT allT inAll diffC short short1 shortL shortL1 clsFor clsStep rowsOf succs add1 addNew bfs)
variable {s : Store} {f : Den}
/-- the dict's keys are these -/
def Keys (kvs : List (Key × D)) (fd : List Nat) : Prop := (kvs.map (·.1) = fd.map fun x : Nat => (Sum.inl (x : Int) : Key)) ∧ ∀ kv ∈ kvs, cb 0 kv.2 = true
theorem keys_look {kvs : List (Key × D)} {fd : List Nat} (h : Keys kvs fd) (x : Nat) : (lookK kvs (.inl (x : Int))).isSome = decide (x ∈ fd) := by
  unfold lookK
  rw [Option.isSome_map, Bool.eq_iff_iff, decide_eq_true_eq, List.find?_isSome]
  simp only [decide_eq_true_eq]
  constructor
  · rintro ⟨kv, hm, hk⟩
    have : kv.1 ∈ kvs.map (·.1) := List.mem_map.mpr ⟨kv, hm, rfl⟩
    rw [h.1, hk] at this
    obtain ⟨y, hy, e⟩ := List.mem_map.mp this
    have : (y : Int) = (x : Int) := Sum.inl.inj e
    have : y = x := by omega
    exact this ▸ hy
  · intro hx
    have : (Sum.inl (x : Int) : Key) ∈ kvs.map (·.1) := by
      rw [h.1]
      exact List.mem_map.mpr ⟨x, hx, rfl⟩
    obtain ⟨kv, hm, hk⟩ := List.mem_map.mp this
    exact ⟨kv, hm, hk⟩
theorem keys_nin {gd : Nat → List (Str × D)} {n : Nat} {kvs : List (Key × D)} {fd : List Nat} (h : Keys kvs fd) (hs : s[n]? = some (.dk kvs)) (x : Nat) : cmpR gd .notIn (.int (x : Nat)) (.cell n) s = some (decide (x ∉ fd)) := by
  have e : dget gd s (.cell n) (.int (x : Nat)) = some (lookK kvs (.inl (x : Int))) := by
    simp only [dget, dkOf, hs]
    rfl
  simp only [cmpR, En.inR, seqOf, hs, e, Option.map_some, keys_look h, decide_not]
theorem keys_set {b n : Nat} {kvs : List (Key × D)} {fd : List Nat} (h : Keys kvs fd) (hs : s[n]? = some (.dk kvs)) (hb : b ≤ n) {x : Nat} (hx : x ∉ fd) (d : D) (hd : cb 0 d = true) (hl : fd.length < 1000) : ∃ kvs', Keys kvs' (fd ++ [x]) ∧ setR b (.cell n) (.int (x : Nat)) d s = .ok () (s.set n (.dk kvs')) := by
  have e : keyOf (.int (x : Nat)) = some (.inl (x : Int)) := rfl
  have w : okW b n d = true := okW_own d hb
  have len : kvs.length = fd.length := by
    have := congrArg List.length h.1
    simpa using this
  have hl2 : decide (kvs.length < 100000) = true := by rw [decide_eq_true_eq]; omega
  have na : (kvs.any fun kv => decide (kv.1 = (Sum.inl (x : Int) : Key))) = false := by
    rw [List.any_eq_false]
    intro kv hm hk
    have hk := of_decide_eq_true hk
    have : kv.1 ∈ kvs.map (·.1) := List.mem_map.mpr ⟨kv, hm, rfl⟩
    rw [h.1, hk] at this
    obtain ⟨y, hy, e⟩ := List.mem_map.mp this
    have : (y : Int) = (x : Int) := Sum.inl.inj e
    have : y = x := by omega
    exact hx (this ▸ hy)
  refine ⟨kvs ++ [(.inl (x : Int), d)], ?_, ?_⟩
  · refine ⟨by simp [h.1], fun kv m => ?_⟩
    rcases List.mem_append.mp m with m | m
    · exact h.2 kv m
    · rw [List.mem_singleton.mp m]
      exact hd
  · simp only [setR, hs, e, w, hl2, Bool.and_self, if_true, En.putK, na, Bool.false_eq_true, if_false]
def fsI : ISs := (.cons (.ifs (.e (.cmp .notIn (.ix (.var 6) (.int 1)) (.var 1))) (.cons (.asg (.sub (.var 1) (.ix (.var 6) (.int 1))) (.tup (.cons (.var 4) (.cons (.var 5) .nil))))
    (.cons (.expr (.mt .append (.var 2) (.cons (.ix (.var 6) (.int 1)) .nil)))
    .nil)) .nil)
    .nil)
def g56 : IG := .tup (.cons (.name 5) (.cons (.name 6) .nil))
theorem fs_inner {G : Glo} {b : Nat} (hb : s.length = b) {M : D} {at_ t : Nat} : ∀ (ps : List (Nat × Nat)) (i : Nat) (kvs : List (Key × D)) (fd : List Nat) (x5 x6 : Option D), Keys kvs fd → fd.length + ps.length < 1000 → ∃ kvs' x5' x6', Keys kvs' (addNew fd (ps.map (·.2))) ∧
    forL (bodyF G b g56 fsI) (enumL i (encC ps)) [some M, some (.cell b), some (.cell (b + 1)), some (.int (at_ : Nat)), some (.int (t : Nat)), x5, x6] (s ++ [.dk kvs, .lst (wd fd)]) =
      .ok (.nx, [some M, some (.cell b), some (.cell (b + 1)), some (.int (at_ : Nat)), some (.int (t : Nat)), x5', x6']) (s ++ [.dk kvs', .lst (wd (addNew fd (ps.map (·.2))))])
  | [], i, kvs, fd, x5, x6, hk, _ => ⟨kvs, x5, x6, hk, rfl⟩
  | p :: ps, i, kvs, fd, x5, x6, hk, hl => by
    simp only [List.length_cons] at hl
    have c0 : ∀ (kvs : List (Key × D)) (o : O), (s ++ [O.dk kvs, o])[b]? = some (.dk kvs) := fun kvs o => by subst hb; simp
    have c1 : ∀ (o : O) (ls : List D), (s ++ [o, O.lst ls])[b + 1]? = some (.lst ls) := fun o ls => by subst hb; simp
    have i1 : ∀ s : Store, ixR G.gd (encP p) (.int 1) s = some (.v (.int (p.2 : Nat))) := fun _ => rfl
    have n1 := keys_nin (gd := G.gd) hk (c0 kvs (.lst (wd fd))) p.2
    have ga : ∀ (e4 e5 e6 : Option D) (S : Store), xG G b g56 (.tup [.int (i : Nat), encP p]) [some M, some (.cell b), some (.cell (b + 1)), some (.int (at_ : Nat)), e4, e5, e6] S = .ok [some M, some (.cell b), some (.cell (b + 1)), some (.int (at_ : Nat)), e4, some (.int (i : Nat)), some (encP p)] S := fun e4 e5 e6 S => by
      unfold g56
      (exists rfl)
    by_cases hm : p.2 ∈ fd
    · have e : add1 fd p.2 = fd := by simp [add1, hm]
      obtain ⟨kvs', y5, y6, hk', er⟩ := fs_inner (G := G) hb (M := M) (at_ := at_) (t := t) ps (i + 1) kvs fd (some (.int (i : Nat))) (some (encP p)) hk (by omega)
      have ea : addNew fd ((p :: ps).map (·.2)) = addNew fd (ps.map (·.2)) := by
        show addNew (add1 fd p.2) (ps.map (·.2)) = _
        rw [e]
      rw [ea]
      have hm2 : ¬ (p.2 ∉ fd) := fun h => h hm
      rw [decide_eq_false hm2] at n1
      refine ⟨kvs', y5, y6, hk', forL_cons ?_ er⟩
      apply b_forB
      · exact ga _ _ _ _
      · unfold fsI
        (exists i1 _, n1)
    · have e : add1 fd p.2 = fd ++ [p.2] := by simp [add1, hm]
      rw [decide_eq_true hm] at n1
      obtain ⟨kv1, hk1, st⟩ := keys_set (b := b) hk (c0 kvs (.lst (wd fd))) (Nat.le_refl _) hm (.tup [.int (t : Nat), .int (i : Nat)]) rfl (by omega)
      have st2 : (s ++ [O.dk kvs, .lst (wd fd)]).set b (.dk kv1) = s ++ [.dk kv1, .lst (wd fd)] := by subst hb; simp
      rw [st2] at st
      have m := append_run (gd := G.gd) (b := b) (c1 (.dk kv1) (wd fd)) (okW_own (.int (p.2 : Nat)) (Nat.le_succ b)) (by rw [wd_len]; omega)
      have st3 : (s ++ [O.dk kv1, .lst (wd fd)]).set (b + 1) (.lst (wd fd ++ [.int (p.2 : Nat)])) = s ++ [.dk kv1, .lst (wd (fd ++ [p.2]))] := by subst hb; simp [wd]
      rw [st3] at m
      obtain ⟨kvs', y5, y6, hk', er⟩ := fs_inner (G := G) hb (M := M) (at_ := at_) (t := t) ps (i + 1) kv1 (fd ++ [p.2]) (some (.int (i : Nat))) (some (encP p)) hk1 (by simp; omega)
      have ea : addNew fd ((p :: ps).map (·.2)) = addNew (fd ++ [p.2]) (ps.map (·.2)) := by
        show addNew (add1 fd p.2) (ps.map (·.2)) = _
        rw [e]
      rw [ea]
      refine ⟨kvs', y5, y6, hk', forL_cons ?_ er⟩
      apply b_forB
      · exact ga _ _ _ _
      · unfold fsI
        (exists i1 _, n1, st, isLst_cell (c1 (.dk kv1) (wd fd)), m)
def fsB : ISs := (.cons (.asg (.name 4) (.ix (.var 2) (.var 3)))
    (.cons (.for_ (.tup (.cons (.name 5) (.cons (.name 6) .nil))) (.enum (.call 0 (.cons (.var 0) (.cons (.var 4) .nil)))) fsI)
    (.cons (.aug 3 .add (.int 1))
    .nil)))
def fsT : IT := (.e (.cmp .lt (.var 3) (.blt .len (.cons (.var 2) .nil))))
theorem i_enum {G : Glo} {b : Nat} {a : IE} {e : En.Env} {s s1 : Store} {r : R} {ds : List D} (h : xE G b a e s = .ok r s1) (hr : r.d = .tup ds) : xI G b (.enum a) e s = .ok (.l (enumL 0 ds)) s1 := by
  simp only [xE, xI] at *
  simp only [evI, h, Out.bind_ok, hr]
theorem fs_while {w : MC.W} (hw : MC.WOk w) (h0 : T0 f w) {b : Nat} (hb : s.length = b) : ∀ (n k F : Nat) (kvs : List (Key × D)) (fd : List Nat) (x4 x5 x6 : Option D), n < F → 256 ≤ n + k → fd.Nodup → (∀ x ∈ fd, x < 2 ^ w.B) → Keys kvs fd → ∃ kvs' x3' x4' x5' x6', Keys kvs' (bfs w n k fd) ∧
    whileL (xT (tb.glo f) b fsT) (xSs (tb.glo f) b fsB) F [some (mObj w), some (.cell b), some (.cell (b + 1)), some (.int (k : Nat)), x4, x5, x6] (s ++ [.dk kvs, .lst (wd fd)]) =
      .ok (.nx, [some (mObj w), some (.cell b), some (.cell (b + 1)), x3', x4', x5', x6']) (s ++ [.dk kvs', .lst (wd (bfs w n k fd))]) := by
  intro n
  have hB : 2 ^ w.B ≤ 256 := pow_le hw.b
  have hI : 2 ^ w.I ≤ 16 := pow_le (c := 4) hw.i
  induction n with
  | zero =>
    intro k F kvs fd x4 x5 x6 hF hk hd hx hK
    have hl := MC.nodup_le _ fd hd hx
    obtain ⟨F', rfl⟩ : ∃ F', F = F' + 1 := ⟨F - 1, by omega⟩
    have c1 : (s ++ [O.dk kvs, .lst (wd fd)])[b + 1]? = some (.lst (wd fd)) := by subst hb; simp
    have ln := len_cell c1
    rw [wd_len] at ln
    refine ⟨kvs, _, x4, x5, x6, hK, wh_end ?_⟩
    unfold fsT
    (exists ln, dec0 (by omega))
  | succ n ih =>
    intro k F kvs fd x4 x5 x6 hF hk hd hx hK
    have hl := MC.nodup_le _ fd hd hx
    obtain ⟨F', rfl⟩ : ∃ F', F = F' + 1 := ⟨F - 1, by omega⟩
    have c1 : (s ++ [O.dk kvs, .lst (wd fd)])[b + 1]? = some (.lst (wd fd)) := by subst hb; simp
    have ln := len_cell c1
    rw [wd_len] at ln
    cases hg : fd[k]? with
    | none =>
      have hkl := List.getElem?_eq_none_iff.mp hg
      have e : bfs w (n + 1) k fd = fd := by simp only [bfs, hg]
      rw [e]
      refine ⟨kvs, _, x4, x5, x6, hK, wh_end ?_⟩
      unfold fsT
      (exists ln, dec0 (by omega))
    | some t =>
      have hkl := (List.getElem?_eq_some_iff.mp hg).1
      have ht : t < 2 ^ w.B := hx t (List.mem_of_getElem? hg)
      have e : bfs w (n + 1) k fd = bfs w n (k + 1) (addNew fd (succs w t)) := by simp only [bfs, hg]
      have rl := rowsOf_len hw ht
      obtain ⟨kv1, y5, y6, hK1, ei⟩ := fs_inner (G := tb.glo f) (s := s) hb (M := mObj w) (at_ := k) (t := t) (rowsOf w t) 0 kvs fd x5 x6 hK (by omega)
      have es : addNew fd ((rowsOf w t).map (·.2)) = addNew fd (succs w t) := rfl
      rw [es] at hK1 ei
      obtain ⟨kv2, z3, z4, z5, z6, hK2, ew⟩ := ih (k + 1) F' kv1 (addNew fd (succs w t)) (some (.int (t : Nat))) y5 y6 (by omega) (by omega) (MC.addNew_nodup hd) (fun x m => by
        rcases MC.addNew_mem.mp m with m | m
        · exact hx x m
        · exact MC.succs_lt hw m) hK1
      rw [e]
      have ix : ixR (tb.glo f).gd (.cell (b + 1)) (.int (k : Nat)) (s ++ [O.dk kvs, .lst (wd fd)]) = some (.v (.int (t : Nat))) := by
        simp only [ixR, seqOf, c1]
        rw [atI_nat (v := .int (t : Nat)) (by simp [wd, hg])]
        rfl
      have c0 := callR_of (b := b) (s := s ++ [O.dk kvs, .lst (wd fd)]) (by simp [cbs, cb, m_cb]) (h0 t ht)
      refine ⟨kv2, z3, z4, z5, z6, hK2, wh_step (s1 := s ++ [O.dk kvs, .lst (wd fd)]) (e1 := [some (mObj w), some (.cell b), some (.cell (b + 1)), some (.int ((k + 1 : Nat) : Int)), some (.int (t : Nat)), y5, y6]) (s2 := s ++ [.dk kv1, .lst (wd (addNew fd (succs w t)))]) ?_ ?_ ew⟩
      · unfold fsT
        (exists ln, dec1 (by omega))
      · unfold fsB
        apply ss_nx
        · (exists ix)
        apply ss_nx
        · apply s_forB
          · apply i_enum
            · (exists c0)
            · exact rfl
          · exact ei
        apply ss_nx
        · apply s_aug
          · exact rfl
          · (exists rfl)
          · exact rfl
          · exact .inl rfl
          · exact rfl
          · exact rfl
        · exact ss_nil
end K19

set_option Elab.async false
set_option linter.all false
set_option maxRecDepth 100000
set_option maxHeartbeats 1000000
namespace K19
open PySem PySem.Spec PyProof.Rows L2 En
open MC (isT allT inAll diffC short short1 shortL shortL1 clsFor clsStep rowsOf succs add1 addNew bfs)
variable {s : Store} {f : Den}
theorem cbk_all {b : Nat} : ∀ {kvs : List (Key × D)}, (∀ kv ∈ kvs, cb 0 kv.2 = true) → cbk b kvs = true
  | [], _ => rfl
  | (k, d) :: kvs, h => by
    simp only [cbk, Bool.and_eq_true]
    exact ⟨cb_mono (Nat.zero_le b) d (h (k, d) (by simp)), cbk_all fun kv m => h kv (List.mem_cons_of_mem _ m)⟩
theorem first_steps_run {w : MC.W} (hw : MC.WOk w) (h0 : T0 f w) (b : Nat) : ∃ kvs, Keys kvs (bfs w 256 0 [w.R]) ∧ i_first_steps.run (tb.glo f) b [mObj w] s = .ok (.n (.dk kvs)) s := by
  rw [run_F rfl]
  obtain ⟨kvs, x3, x4, x5, x6, hK, e⟩ := fs_while hw h0 (s := s) rfl 256 0 1000000 [(.inl (w.R : Int), .non)] [w.R] none none none (by decide) (by decide) (by simp) (fun x m => by rw [List.mem_singleton.mp m]; exact hw.r) ⟨rfl, fun kv m => by rw [List.mem_singleton.mp m]; rfl⟩
  refine ⟨kvs, hK, ?_⟩
  have f1 := fun s : Store => mfld (s := s) (na := (tb.glo f).na) (w := w) (x := "reset") rfl rfl
  have c0 : (s ++ [O.dk kvs, .lst (wd (bfs w 256 0 [w.R]))])[s.length]? = some (.dk kvs) := by simp
  have hl : s ++ [O.dk [(Sum.inl (w.R : Int), .non)], .lst (wd [w.R])] = (s ++ [.dk [(Sum.inl (w.R : Int), .non)]]) ++ [.lst [.int (w.R : Nat)]] := by simp [wd]
  have hn : s.length + 1 = (s ++ [O.dk [(Sum.inl (w.R : Int), .non)]]).length := by simp
  apply run_of rfl
  · unfold i_first_steps
    show xSs _ _ _ [some (mObj w), none, none, none, none, none, none] _ = _
    apply ss_nx (e1 := [some (mObj w), some (.cell s.length), none, none, none, none, none]) (s1 := s ++ [.dk [(Sum.inl (w.R : Int), .non)]])
    · apply s_name'
      · apply e_mu
        apply Eq.trans
        · (exists f1 _)
        · exact rfl
      · exact rfl
    apply ss_nx (e1 := [some (mObj w), some (.cell s.length), some (.cell (s.length + 1)), none, none, none, none]) (s1 := s ++ [O.dk [(Sum.inl (w.R : Int), .non)], .lst (wd [w.R])])
    · rw [hl]
      apply s_name'
      · apply e_mu
        apply Eq.trans
        · (exists f1 _)
        · exact rfl
      · rw [← hn]
        exact rfl
    apply ss_nx
    · (exists rfl)
    apply ss_nx
    · apply s_while
      exact e
    · (exists rfl)
  · simp only [endR]
    rw [c0]
    have cc : cbO s.length (.dk kvs) = true := cbk_all hK.2
    simp [cc, take_app]
def T1 (f : Den) (w : MC.W) : Prop := ∃ kvs, Keys kvs (bfs w 256 0 [w.R]) ∧ f.fn 1 0 [mObj w] [] = .ok (.n (.dk kvs)) []
theorem reached_run {w : MC.W} (h1 : T1 f w) (b : Nat) : i_reached_states.run (tb.glo f) b [mObj w] s = .ok (.n (.lst (wd (bfs w 256 0 [w.R])))) s := by
  rw [run_F rfl]
  obtain ⟨kvs, hK, e⟩ := h1
  have c1 := callR_of (b := s.length) (s := s) (xs := [mObj w]) (by simp [cbs, m_cb]) e
  have ek : (kvs.map fun kv => keyD kv.1) = wd (bfs w 256 0 [w.R]) := by
    have : (kvs.map fun kv => keyD kv.1) = (kvs.map (·.1)).map keyD := by rw [List.map_map]; rfl
    rw [this, hK.1, List.map_map]
    rfl
  have bl : bltR .list [.dk kvs] s = some (.n (.lst (wd (bfs w 256 0 [w.R])))) := by
    simp only [bltR, seqOf, dkOf, Option.map_some, ek]
  apply run_ret rfl
  · unfold i_reached_states
    show xSs _ _ _ [some (mObj w)] _ = _
    (exists c1, bl)
  · exact end_n rfl (wd_cb _ _)
def wObj (w : MC.W) : D := .lst [.int (w.I : Nat), .int (w.O : Nat), .int (w.B : Nat), .int (w.R : Nat), .lst (encC w.rows)]
theorem w_ix (gd : Nat → List (Str × D)) (w : MC.W) (s : Store) : ixR gd (wObj w) (.int 0) s = some (.v (.int (w.I : Nat))) ∧ ixR gd (wObj w) (.int 1) s = some (.v (.int (w.O : Nat))) ∧ ixR gd (wObj w) (.int 2) s = some (.v (.int (w.B : Nat))) ∧ ixR gd (wObj w) (.int 3) s = some (.v (.int (w.R : Nat))) ∧ ixR gd (wObj w) (.int 4) s = some (.v (.lst (encC w.rows))) := ⟨rfl, rfl, rfl, rfl, rfl⟩
theorem w_cb (w : MC.W) : cb 0 (wObj w) = true := by simp [wObj, cb, cbs, encC_cb]
def clA : ISs := (.cons (.ifs (.e (.cmp .notIn (.var 3) (.var 2))) (.cons (.expr (.mt .append (.var 2) (.cons (.var 3) .nil)))
    .nil) .nil)
    .nil)
theorem add_step {G : Glo} {b j : Nat} (hb : s.length = b) {e : En.Env} {x : Nat} {fd : List Nat} (hl : fd.length < 1000) (h2 : e[2]? = some (some (.cell b))) (hj : e[j]? = some (some (.int (x : Nat)))) :
    xS G b (.ifs (.e (.cmp .notIn (.var j) (.var 2))) (.cons (.expr (.mt .append (.var 2) (.cons (.var j) .nil))) .nil) .nil) e (s ++ [.lst (wd fd)]) = .ok (.nx, e) (s ++ [.lst (wd (add1 fd x))]) := by
  have hc : (s ++ [O.lst (wd fd)])[b]? = some (.lst (wd fd)) := by subst hb; simp
  have n1 := nin_wd (s := s ++ [.lst (wd fd)]) (gd := G.gd) (d := .cell b) (k := false) (ls := fd) (by simp only [seqOf, hc]) x
  by_cases hm : x ∈ fd
  · have hm2 : ¬ (x ∉ fd) := fun h => h hm
    rw [decide_eq_false hm2] at n1
    have e1 : add1 fd x = fd := by simp [add1, hm]
    rw [e1]
    apply s_if0
    · apply t_e
      · apply e_cmp
        · exact e_var hj
        · exact e_var h2
        · exact n1
      · exact rfl
    · exact ss_nil
  · rw [decide_eq_true hm] at n1
    have e1 : add1 fd x = fd ++ [x] := by simp [add1, hm]
    rw [e1, wd_snoc]
    have m := app_own (gd := G.gd) (b := b) s (wd fd) (.int (x : Nat)) hb (Nat.le_refl _) (by rw [wd_len]; omega)
    apply s_if1
    · apply t_e
      · apply e_cmp
        · exact e_var hj
        · exact e_var h2
        · exact n1
      · exact rfl
    · apply ss_nx
      · apply s_expr
        apply e_mt
        · exact e_var h2
        · exact isl_own s (wd fd) hb
        · apply es_cons
          · exact e_var hj
          · exact es_nil
        · exact m
      · exact ss_nil
theorem add1_len (fd : List Nat) (x : Nat) : (add1 fd x).length ≤ fd.length + 1 := by
  unfold add1
  split <;> simp
theorem clA_loop {G : Glo} {b : Nat} (hb : s.length = b) {W S : D} {x4 x5 x6 : Option D} : ∀ (xs fd : List Nat) (x3 : Option D), fd.length + xs.length < 1000 → ∃ x3',
    forL (bodyF G b (.name 3) clA) (wd xs) [some W, some S, some (.cell b), x3, x4, x5, x6] (s ++ [.lst (wd fd)]) = .ok (.nx, [some W, some S, some (.cell b), x3', x4, x5, x6]) (s ++ [.lst (wd (addNew fd xs))])
  | [], fd, x3, _ => ⟨x3, rfl⟩
  | x :: xs, fd, x3, hl => by
    simp only [List.length_cons] at hl
    have := add1_len fd x
    obtain ⟨y3, e⟩ := clA_loop (G := G) hb (W := W) (S := S) (x4 := x4) (x5 := x5) (x6 := x6) xs (add1 fd x) (some (.int (x : Nat))) (by omega)
    refine ⟨y3, forL_cons ?_ e⟩
    apply b_forB
    · (exists rfl)
    · unfold clA
      apply ss_nx
      · exact add_step hb (x := x) (by omega) rfl rfl
      · exact ss_nil
def clI : ISs := (.cons (.asg (.name 6) (.ix (.ix (.ix (.var 0) (.int 4)) (.op .add (.op .shl (.ix (.var 2) (.var 4)) (.ix (.var 0) (.int 0))) (.var 5))) (.int 1)))
    (.cons (.ifs (.e (.cmp .notIn (.var 6) (.var 2))) (.cons (.expr (.mt .append (.var 2) (.cons (.var 6) .nil)))
    .nil) .nil)
    .nil))
theorem rowsOf_get {w : MC.W} (h : MC.WOk w) {t i : Nat} {p : Nat × Nat} (hp : (rowsOf w t)[i]? = some p) : w.rows[t * 2 ^ w.I + i]? = some p := by
  unfold MC.rowsOf at hp
  rw [List.getElem?_take] at hp
  split at hp
  · rw [List.getElem?_drop] at hp
    exact hp
  · cases hp
theorem clI_loop {G : Glo} {b : Nat} (hb : s.length = b) {w : MC.W} (hw : MC.WOk w) {S : D} {k t : Nat} (ht : t < 2 ^ w.B) {x3 : Option D} : ∀ (pr : List (Nat × Nat)) (i : Nat) (fd : List Nat) (x5 x6 : Option D), (rowsOf w t).drop i = pr → fd[k]? = some t → fd.length + pr.length < 1000 → ∃ x5' x6',
    forL (bodyF G b (.name 5) clI) (rngL (i : Nat) pr.length) [some (wObj w), some S, some (.cell b), x3, some (.int (k : Nat)), x5, x6] (s ++ [.lst (wd fd)]) = .ok (.nx, [some (wObj w), some S, some (.cell b), x3, some (.int (k : Nat)), x5', x6']) (s ++ [.lst (wd (addNew fd (pr.map (·.2))))])
  | [], i, fd, x5, x6, _, _, _ => ⟨x5, x6, rfl⟩
  | p :: pr, i, fd, x5, x6, hd, hk, hl => by
    simp only [List.length_cons] at hl
    obtain ⟨h1, h2⟩ := drop_get hd
    have := add1_len fd p.2
    obtain ⟨r, hr⟩ := MC.add1_pre fd p.2
    have hk2 : (add1 fd p.2)[k]? = some t := by
      rw [hr, List.getElem?_append_left (List.getElem?_eq_some_iff.mp hk).1]
      exact hk
    obtain ⟨y5, y6, e⟩ := clI_loop (G := G) hb hw (S := S) ht (x3 := x3) pr (i + 1) (add1 fd p.2) (some (.int (i : Nat))) (some (.int (p.2 : Nat))) h2 hk2 (by omega)
    refine ⟨y5, y6, forL_cons ?_ e⟩
    have hc : (s ++ [O.lst (wd fd)])[b]? = some (.lst (wd fd)) := by subst hb; simp
    have hB : 2 ^ w.B ≤ 256 := pow_le hw.b
    have g := w_ix G.gd w (s ++ [.lst (wd fd)])
    have i1 : ixR G.gd (.cell b) (.int (k : Nat)) (s ++ [.lst (wd fd)]) = some (.v (.int (t : Nat))) := by
      simp only [ixR, seqOf, hc]
      rw [atI_nat (v := .int (t : Nat)) (by simp [wd, hk])]
      rfl
    have sh := shl_nat (s := s ++ [.lst (wd fd)]) t w.I (by omega) (by have := hw.i; omega)
    have ad := add_nat (s := s ++ [.lst (wd fd)]) (t * 2 ^ w.I) i
    have i2 : ixR G.gd (.lst (encC w.rows)) (.int ((t * 2 ^ w.I + i : Nat) : Int)) (s ++ [.lst (wd fd)]) = some (.v (encP p)) := frz_ix (d := .lst (encC w.rows)) rfl (by simp [encC, rowsOf_get hw h1])
    have i3 : ixR G.gd (encP p) (.int 1) (s ++ [.lst (wd fd)]) = some (.v (.int (p.2 : Nat))) := rfl
    apply b_forB
    · (exists rfl)
    · unfold clI
      apply ss_nx (e1 := [some (wObj w), some S, some (.cell b), x3, some (.int (k : Nat)), some (.int (i : Nat)), some (.int (p.2 : Nat))])
      · (exists g.1, g.2.2.2.2, i1, sh, ad, i2, i3)
      apply ss_nx
      · exact add_step hb (x := p.2) (by omega) rfl rfl
      · exact ss_nil
def clB : ISs := (.cons (.ifs (.e (.cmp .ge (.var 4) (.blt .len (.cons (.var 2) .nil)))) (.cons .brk
    .nil) .nil)
    (.cons (.for_ (.name 5) (.rng1 (.op .shl (.int 1) (.ix (.var 0) (.int 0)))) clI)
    .nil))
theorem s_brk1 {G : Glo} {b : Nat} {t : IT} {xs : ISs} {e : En.Env} {s : Store} (h : xT G b t e s = .ok true s) : xSs G b (.cons (.ifs t (.cons .brk .nil) .nil) xs) e s = .ok (.bk, e) s := by
  apply ss_bk
  apply s_if1 h
  apply ss_bk
  exact s_brk
theorem clB_loop {G : Glo} {b : Nat} (hb : s.length = b) {w : MC.W} (hw : MC.WOk w) {S : D} {x3 : Option D} : ∀ (n k : Nat) (fd : List Nat) (x4 x5 x6 : Option D), n + k = 256 → fd.Nodup → (∀ x ∈ fd, x < 2 ^ w.B) → ∃ x4' x5' x6',
    forL (bodyF G b (.name 4) clB) (rngL (k : Nat) n) [some (wObj w), some S, some (.cell b), x3, x4, x5, x6] (s ++ [.lst (wd fd)]) = .ok (.nx, [some (wObj w), some S, some (.cell b), x3, x4', x5', x6']) (s ++ [.lst (wd (bfs w n k fd))])
  | 0, k, fd, x4, x5, x6, _, _, _ => ⟨x4, x5, x6, rfl⟩
  | n + 1, k, fd, x4, x5, x6, hn, hd, hx => by
    have hB : 2 ^ w.B ≤ 256 := pow_le hw.b
    have hI : 2 ^ w.I ≤ 16 := pow_le (c := 4) hw.i
    have hl := MC.nodup_le _ fd hd hx
    have hc : (s ++ [O.lst (wd fd)])[b]? = some (.lst (wd fd)) := by subst hb; simp
    have ln := len_cell hc
    rw [wd_len] at ln
    have g := w_ix G.gd w (s ++ [.lst (wd fd)])
    have ge : ∀ (i j : Nat), cmpR G.gd .ge (.int (i : Nat)) (.int (j : Nat)) (s ++ [.lst (wd fd)]) = some (decide (j ≤ i)) := fun i j => by
      show some (decide _) = _
      rw [show decide ((j : Int) ≤ (i : Int)) = decide (j ≤ i) from by rw [decide_eq_decide]; omega]
    have g1 := ge k fd.length
    cases hg : fd[k]? with
    | none =>
      have hkl := List.getElem?_eq_none_iff.mp hg
      have e : bfs w (n + 1) k fd = fd := by simp only [bfs, hg]
      rw [e]
      rw [decide_eq_true hkl] at g1
      refine ⟨some (.int (k : Nat)), x5, x6, forL_bk (e1 := [some (wObj w), some S, some (.cell b), x3, some (.int (k : Nat)), x5, x6]) ?_⟩
      apply b_forB
      · (exists rfl)
      · unfold clB
        apply s_brk1
        (exists ln, g1)
    | some t =>
      have hkl := (List.getElem?_eq_some_iff.mp hg).1
      have ht : t < 2 ^ w.B := hx t (List.mem_of_getElem? hg)
      have e : bfs w (n + 1) k fd = bfs w n (k + 1) (addNew fd (succs w t)) := by simp only [bfs, hg]
      have rl := rowsOf_len hw ht
      rw [decide_eq_false (by omega : ¬ fd.length ≤ k)] at g1
      obtain ⟨y5, y6, ei⟩ := clI_loop (G := G) hb hw (S := S) (k := k) ht (x3 := x3) (rowsOf w t) 0 fd x5 x6 rfl hg (by omega)
      rw [rl] at ei
      obtain ⟨z4, z5, z6, er⟩ := clB_loop (G := G) hb hw (S := S) (x3 := x3) n (k + 1) (addNew fd (succs w t)) (some (.int (k : Nat))) y5 y6 (by omega) (MC.addNew_nodup hd) (fun x m => by
        rcases MC.addNew_mem.mp m with m | m
        · exact hx x m
        · exact MC.succs_lt hw m)
      rw [e]
      have sh := shl1 (s := s ++ [.lst (wd fd)]) w.I (by have := hw.i; omega)
      have h18 : 2 ^ w.I < 1000000000000000000 := by omega
      refine ⟨z4, z5, z6, forL_cons ?_ er⟩
      apply b_forB
      · (exists rfl)
      · unfold clB
        apply ss_nx
        · (exists ln, g1)
        apply ss_nx
        · apply s_forB
          · apply i_rng1
            · (exists g.1, sh)
            · exact rfl
            · exact h18
          · exact ei
        · exact ss_nil
theorem closed_run {G : Glo} {w : MC.W} (hw : MC.WOk w) {st : List Nat} (hst : ∀ x ∈ st, x < 2 ^ w.B) (hl : st.length < 500) (b : Nat) : i_law_closed.run G b [wObj w, .lst (wd st)] s = .ok (.n (.lst (wd (bfs w 256 0 (addNew [] st))))) s := by
  rw [run_F rfl]
  obtain ⟨y3, e1⟩ := clA_loop (G := G) (s := s) rfl (W := wObj w) (S := .lst (wd st)) (x4 := none) (x5 := none) (x6 := none) st [] none (by simp; omega)
  obtain ⟨z4, z5, z6, e2⟩ := clB_loop (G := G) (s := s) rfl hw (S := .lst (wd st)) (x3 := y3) 256 0 (addNew [] st) none none none (by decide) (MC.addNew_nodup (by simp)) (fun x m => by
    rcases MC.addNew_mem.mp m with m | m
    · simp at m
    · exact hst x m)
  apply run_of rfl
  · unfold i_law_closed
    show xSs _ _ _ [some (wObj w), some (.lst (wd st)), none, none, none, none, none] _ = _
    apply ss_nx
    · (exists rfl)
    apply ss_nx
    · apply s_forB
      · (exists rfl)
      · exact e1
    apply ss_nx
    · apply s_forB
      · apply i_rng1 (n := 256)
        · (exists rfl)
        · exact rfl
        · decide
      · exact e2
    · (exists rfl)
  · have e1 : (s ++ [O.lst (wd (bfs w 256 0 (addNew [] st)))])[s.length]? = some (.lst (wd (bfs w 256 0 (addNew [] st)))) := by simp
    simp only [endR]
    rw [e1]
    simp [cbO, wd_cb]
end K19

set_option Elab.async false
set_option linter.all false
set_option maxRecDepth 100000
set_option maxHeartbeats 1000000
namespace En
open PySem PySem.Spec PyProof.Rows L2
theorem e_chain1 {G : Glo} {b : Nat} {o o' : Cmp} {a c d : IE} {e : En.Env} {s s1 s2 s3 : Store} {x y z : R} {k : Bool} (h : xE G b a e s = .ok x s1) (h2 : xE G b c e s1 = .ok y s2) (h3 : cmpR G.gd o x.d y.d s2 = some true) (h4 : xE G b d e s2 = .ok z s3) (h5 : cmpR G.gd o' y.d z.d s3 = some k) : xE G b (.chain o o' a c d) e s = .ok (.v (.bl k)) s3 := by
  simp only [xE] at *
  simp only [evE, h, h2, Out.bind_ok, h3, Out.of_some, if_true, h4, h5, Option.map_some]
theorem e_chain0 {G : Glo} {b : Nat} {o o' : Cmp} {a c d : IE} {e : En.Env} {s s1 s2 : Store} {x y : R} (h : xE G b a e s = .ok x s1) (h2 : xE G b c e s1 = .ok y s2) (h3 : cmpR G.gd o x.d y.d s2 = some false) : xE G b (.chain o o' a c d) e s = .ok (.v (.bl false)) s2 := by
  simp only [xE] at *
  simp only [evE, h, h2, Out.bind_ok, h3, Out.of_some, Bool.false_eq_true, if_false]
/-- a loop that looks whether all are right -/
theorem forL_all {α : Type} {R : D → α → Prop} {P : α → Bool} {I : En.Env → Prop} {f : D → En.Env → Store → Out (Ctl × En.Env)} {s : Store} : ∀ (ds : List D) (as : List α), All2 R ds as →
    (∀ d a e, R d a → a ∈ as → I e → if P a = true then ∃ e', f d e s = .ok (.nx, e') s ∧ I e' else ∃ e', f d e s = .ok (.ret (.v (.bl false)), e') s) → ∀ e, I e →
    if as.all P = true then ∃ e', forL f ds e s = .ok (.nx, e') s ∧ I e' else ∃ e', forL f ds e s = .ok (.ret (.v (.bl false)), e') s
  | [], [], _, _, e, hI => ⟨e, rfl, hI⟩
  | d :: ds, a :: as, h, hf, e, hI => by
    have h1 := hf d a e h.1 (by simp) hI
    rw [List.all_cons]
    cases hp : P a
    · rw [hp] at h1
      simp only [Bool.false_eq_true, if_false, Bool.false_and] at h1 ⊢
      obtain ⟨e', h1⟩ := h1
      exact ⟨e', forL_ret h1⟩
    · rw [hp] at h1
      simp only [if_true, Bool.true_and] at h1 ⊢
      obtain ⟨e', h1, hI'⟩ := h1
      have ih := forL_all ds as h.2 (fun d a e r m => hf d a e r (List.mem_cons_of_mem _ m)) e' hI'
      split at ih
      · rename_i hq
        rw [if_pos hq]
        obtain ⟨e2, h2, hI2⟩ := ih
        exact ⟨e2, forL_cons h1 h2, hI2⟩
      · rename_i hq
        rw [if_neg hq]
        obtain ⟨e2, h2⟩ := ih
        exact ⟨e2, forL_cons h1 h2⟩
  | [], _ :: _, h, _, _, _ => h.elim
  | _ :: _, [], h, _, _, _ => h.elim
/-- the numbers of a range -/
theorem all2_rng : ∀ (ns : List Nat), All2 (fun d n => d = .int ((n : Nat) : Int)) (ns.map fun n : Nat => D.int (n : Nat)) ns
  | [] => trivial
  | n :: ns => ⟨rfl, all2_rng ns⟩
end En
namespace K19
open PySem PySem.Spec PyProof.Rows L2 En
open MC (isT allT inAll diffC short short1 shortL shortL1 clsFor clsStep rowsOf succs add1 addNew bfs okP okC toN judged inv)
variable {s : Store} {f : Den}
/-- any clauses in any written form -/
def GP (d : D) (p : List Int) : Prop := ∃ k, frzSeq d = some (k, p.map .int)
def GC (d : D) (c : List (List Int)) : Prop := cb 0 d = true ∧ ∃ k ds, frzSeq d = some (k, ds) ∧ All2 GP ds c
def GCs (d : D) (cs : List (List (List Int))) : Prop := cb 0 d = true ∧ ∃ k ds, frzSeq d = some (k, ds) ∧ All2 GC ds cs
theorem All2.imp {α β γ : Type} {R : α → β → Prop} {S : α → γ → Prop} {g : β → γ} : ∀ {as : List α} {bs : List β}, All2 R as bs → (∀ a b, R a b → b ∈ bs → S a (g b)) → All2 S as (bs.map g)
  | [], [], _, _ => trivial
  | a :: as, b :: bs, h, hi => ⟨hi a b h.1 (by simp), All2.imp h.2 fun a' b' r m => hi a' b' r (List.mem_cons_of_mem _ m)⟩
  | [], _ :: _, h, _ => h.elim
  | _ :: _, [], h, _ => h.elim
theorem gp_np {B : Nat} {d : D} {p : List Int} (h : GP d p) (ho : okP B p = true) : NP d (toN p) := by
  obtain ⟨k, h⟩ := h
  match p, ho, h with
  | [a, b], ho, h =>
    simp only [okP, Bool.and_eq_true, decide_eq_true_eq] at ho
    refine ⟨k, ?_⟩
    rw [h]
    simp only [toN, List.map_cons, List.map_nil]
    rw [Int.toNat_of_nonneg ho.1.1.1, Int.toNat_of_nonneg ho.1.2]
theorem gc_nc {B : Nat} {d : D} {c : List (List Int)} (h : GC d c) (ho : c.all (okP B) = true) : NC d (c.map toN) := by
  obtain ⟨hc, k, ds, hd, ha⟩ := h
  exact ⟨hc, k, ds, hd, All2.imp ha fun a b r m => gp_np r (List.all_eq_true.mp ho b m)⟩
theorem gcs_ncs {B : Nat} {d : D} {cs : List (List (List Int))} (h : GCs d cs) (ho : okC B cs = true) : NCs d (cs.map fun c => c.map toN) := by
  obtain ⟨hc, k, ds, hd, ha⟩ := h
  exact ⟨hc, k, ds, hd, All2.imp ha fun a b r m => gc_nc r (List.all_eq_true.mp ho b m)⟩
theorem len_frz {d : D} {k : Bool} {ds : List D} (h : frzSeq d = some (k, ds)) : bltR .len [d] s = some (.v (.int (ds.length : Nat))) := by
  cases d <;> simp only [frzSeq, reduceCtorEq, Option.some.injEq, Prod.mk.injEq] at h <;> obtain ⟨rfl, rfl⟩ := h <;> simp [bltR, lenD, seqOf]
def acI : ISs := (.cons (.ifs (.or (.e (.cmp .ne (.blt .len (.cons (.var 3) .nil)) (.int 2))) (.or (.not (.e (.chain .le .lt (.int 0) (.ix (.var 3) (.int 0)) (.var 1)))) (.not (.e (.chain .le .le (.int 0) (.ix (.var 3) (.int 1)) (.int 1)))))) (.cons (.ret (.bl false))
    .nil) .nil)
    .nil)
theorem le_int {gd : Nat → List (Str × D)} (i j : Int) : cmpR gd .le (.int i) (.int j) s = some (decide (i ≤ j)) := rfl
theorem lt_int {gd : Nat → List (Str × D)} (i j : Int) : cmpR gd .lt (.int i) (.int j) s = some (decide (i < j)) := rfl
theorem ac_pair {G : Glo} {b B : Nat} {e0 e2 e3 : Option D} {d : D} {p : List Int} (h : GP d p) :
    bodyF G b (.name 3) acI d [e0, some (.int (B : Nat)), e2, e3] s = if okP B p = true then .ok (.nx, [e0, some (.int (B : Nat)), e2, some d]) s else .ok (.ret (.v (.bl false)), [e0, some (.int (B : Nat)), e2, some d]) s := by
  obtain ⟨k, h⟩ := h
  have ln := len_frz (s := s) h
  rw [List.length_map] at ln
  have n2 : cmpR G.gd .ne (.int (p.length : Nat)) (.int 2) s = some (!decide (p.length = 2)) := by
    rw [En.ne_int, show ((2 : Int)) = ((2 : Nat) : Int) from rfl, dnat]
  have start : ∀ o, xSs G b acI [e0, some (.int (B : Nat)), e2, some d] s = o → bodyF G b (.name 3) acI d [e0, some (.int (B : Nat)), e2, e3] s = o := fun o ho => by
    apply b_forB
    · (exists rfl)
    · exact ho
  by_cases h2 : p.length = 2
  · match p, h2, h, ln, n2 with
    | [a, c], h2, h, ln, n2 =>
      have i0 : ixR G.gd d (.int 0) s = some (.v (.int a)) := frz_ix (i := 0) h rfl
      have i1 : ixR G.gd d (.int 1) s = some (.v (.int c)) := frz_ix (i := 1) h rfl
      have n2 : cmpR G.gd .ne (.int (([a, c] : List Int).length : Nat)) (.int 2) s = some false := n2
      apply start
      -- the first chain
      have ch1 : xE G b (.chain .le .lt (.int 0) (.ix (.var 3) (.int 0)) (.var 1)) [e0, some (.int (B : Nat)), e2, some d] s = .ok (.v (.bl (decide (0 ≤ a) && decide (a < B)))) s := by
        by_cases ha : 0 ≤ a
        · rw [decide_eq_true ha, Bool.true_and]
          apply e_chain1
          · (exists rfl)
          · (exists i0)
          · exact dec1 ha
          · (exists rfl)
          · exact lt_int _ _
        · rw [decide_eq_false ha, Bool.false_and]
          apply e_chain0
          · (exists rfl)
          · (exists i0)
          · exact dec0 ha
      have ch2 : xE G b (.chain .le .le (.int 0) (.ix (.var 3) (.int 1)) (.int 1)) [e0, some (.int (B : Nat)), e2, some d] s = .ok (.v (.bl (decide (0 ≤ c) && decide (c ≤ 1)))) s := by
        by_cases hc : 0 ≤ c
        · rw [decide_eq_true hc, Bool.true_and]
          apply e_chain1
          · (exists rfl)
          · (exists i1)
          · exact dec1 hc
          · (exists rfl)
          · exact le_int _ _
        · rw [decide_eq_false hc, Bool.false_and]
          apply e_chain0
          · (exists rfl)
          · (exists i1)
          · exact dec0 hc
      have ho : okP B [a, c] = ((decide (0 ≤ a) && decide (a < B)) && (decide (0 ≤ c) && decide (c ≤ 1))) := by simp only [okP, Bool.and_assoc]
      rw [ho]
      have first : xT G b (.e (.cmp .ne (.blt .len (.cons (.var 3) .nil)) (.int 2))) [e0, some (.int (B : Nat)), e2, some d] s = .ok false s := by
        apply t_e
        · apply e_cmp
          · (exists ln)
          · (exists rfl)
          · exact n2
        · exact rfl
      cases k1 : (decide (0 ≤ a) && decide (a < (B : Int)))
      · rw [k1] at ch1
        simp only [Bool.false_and, Bool.false_eq_true, if_false]
        unfold acI
        apply ss_ret
        apply s_if1
        · apply t_or0 first
          apply t_or1
          apply t_not0
          exact t_e ch1 rfl
        · (exists rfl)
      · rw [k1] at ch1
        cases k2 : (decide (0 ≤ c) && decide (c ≤ (1 : Int)))
        · rw [k2] at ch2
          simp only [Bool.true_and, Bool.false_eq_true, if_false]
          unfold acI
          apply ss_ret
          apply s_if1
          · apply t_or0 first
            apply t_or0
            · apply t_not1
              exact t_e ch1 rfl
            · apply t_not0
              exact t_e ch2 rfl
          · (exists rfl)
        · rw [k2] at ch2
          simp only [Bool.true_and, if_true]
          unfold acI
          apply ss_nx
          · apply s_if0
            · apply t_or0 first
              apply t_or0
              · apply t_not1
                exact t_e ch1 rfl
              · apply t_not1
                exact t_e ch2 rfl
            · (exists rfl)
          · (exists rfl)
  · have ho : okP B p = false := by
      match p, h2 with
      | [], _ => rfl
      | [_], _ => rfl
      | _ :: _ :: _ :: _, _ => rfl
    rw [ho, if_neg (by simp)]
    rw [decide_eq_false h2] at n2
    apply start
    unfold acI
    apply ss_ret
    apply s_if1
    · apply t_or1
      apply t_e
      · apply e_cmp
        · (exists ln)
        · (exists rfl)
        · exact n2
      · exact rfl
    · (exists rfl)
def acB : ISs := (.cons (.for_ (.name 3) (.seq (.var 2)) acI) .nil)
theorem are_run {G : Glo} (b : Nat) {d : D} {cs : List (List (List Int))} (B : Nat) (h : GCs d cs) : i_are_clauses.run G b [d, .int (B : Nat)] s = .ok (.v (.bl (okC B cs))) s := by
  rw [run_F rfl]
  obtain ⟨_, k, ds, hd, ha⟩ := h
  have L := forL_all (f := bodyF G s.length (.name 2) acB) (s := s) (P := fun c => c.all (okP B)) (I := fun e => ∃ e2 e3, e = [some d, some (.int (B : Nat)), e2, e3]) ds cs ha (fun q c e hq hm he => by
    obtain ⟨e2, e3, rfl⟩ := he
    obtain ⟨_, k', qs, hqs, hqa⟩ := hq
    have L := forL_all (f := bodyF G s.length (.name 3) acI) (s := s) (P := okP B) (I := fun e => ∃ e3, e = [some d, some (.int (B : Nat)), some q, e3]) qs c hqa (fun r p e hr _ he => by
      obtain ⟨e3, rfl⟩ := he
      have := ac_pair (G := G) (b := s.length) (s := s) (B := B) (e0 := some d) (e2 := some q) (e3 := e3) hr
      split
      · rename_i hp
        rw [if_pos hp] at this
        exact ⟨_, this, _, rfl⟩
      · rename_i hp
        rw [if_neg hp] at this
        exact ⟨_, this⟩) _ ⟨e3, rfl⟩
    split
    · rename_i hp
      rw [if_pos hp] at L
      obtain ⟨e', L, y3, rfl⟩ := L
      refine ⟨_, ?_, some q, y3, rfl⟩
      apply b_forB
      · (exists rfl)
      · unfold acB
        apply ss_nx
        · apply s_forB
          · (exists hqs)
          · exact L
        · exact ss_nil
    · rename_i hp
      rw [if_neg hp] at L
      obtain ⟨e', L⟩ := L
      refine ⟨e', ?_⟩
      apply b_forB
      · (exists rfl)
      · unfold acB
        apply ss_ret
        apply s_forB
        · (exists hqs)
        · exact L) _ ⟨none, none, rfl⟩
  have e0 : cs.all (fun c => c.all (okP B)) = okC B cs := rfl
  rw [e0] at L
  cases hp : okC B cs
  · rw [hp, if_neg (by simp)] at L
    obtain ⟨e', L⟩ := L
    apply run_ret rfl
    · unfold i_are_clauses
      show xSs _ _ _ [some d, some (.int (B : Nat)), none, none] _ = _
      apply ss_ret
      apply s_forB
      · (exists hd)
      · exact L
    · exact end_bl rfl
  · rw [hp, if_pos rfl] at L
    obtain ⟨e', L, y2, y3, rfl⟩ := L
    apply run_ret rfl
    · unfold i_are_clauses
      show xSs _ _ _ [some d, some (.int (B : Nat)), none, none] _ = _
      apply ss_nx
      · apply s_forB
        · (exists hd)
        · exact L
      · (exists rfl)
    · exact end_bl rfl
end K19

set_option Elab.async false
set_option linter.all false
set_option maxRecDepth 100000
set_option maxHeartbeats 1000000
namespace K19
open PySem PySem.Spec PyProof.Rows L2 En
open MC (isT allT inAll diffC short short1 shortL shortL1 clsFor clsStep rowsOf succs add1 addNew bfs okP okC toN judged inv)
variable {s : Store} {f : Den}
def T8 (f : Den) : Prop := ∀ {d : D} {cs : List (List (List Int))} (B : Nat), GCs d cs → f.fn 8 0 [d, .int (B : Nat)] [] = .ok (.v (.bl (okC B cs))) []
def kbs (cs : List (List (Nat × Nat))) (n : Nat) : List D := (List.range n).map fun t => .bl (allT cs t)
theorem kbs_get {gd : Nat → List (Str × D)} {cs : List (List (Nat × Nat))} {n t : Nat} (h : t < n) : ixR gd (.lst (kbs cs n)) (.int (t : Nat)) s = some (.v (.bl (allT cs t))) := frz_ix (d := .lst (kbs cs n)) rfl (by simp [kbs, h])
def ivI : ISs := (.cons (.ifs (.not (.e (.ix (.var 2) (.ix (.var 4) (.int 1))))) (.cons (.ret (.bl false))
    .nil) .nil)
    .nil)
def ivB : ISs := (.cons (.ifs (.e (.ix (.var 2) (.var 3))) (.cons (.for_ (.name 4) (.seq (.call 0 (.cons (.var 0) (.cons (.var 3) .nil)))) ivI)
    .nil) .nil)
    .nil)
theorem all_map {α β : Type} (g : α → β) (P : β → Bool) (l : List α) : (l.map g).all P = l.all fun a => P (g a) := by
  rw [List.all_map]
  rfl
theorem inv_run (h8 : T8 f) (h4 : T4 f) {w : MC.W} (hw : MC.WOk w) (h0 : T0 f w) (b : Nat) {d : D} {cls : List (List (List Int))} (hd : GCs d cls) : i_is_invariant.run (tb.glo f) b [mObj w, d] s = .ok (.v (.bl (judged w cls))) s := by
  rw [run_F rfl]
  have hB : 2 ^ w.B ≤ 256 := pow_le hw.b
  have fB := mfld (s := s) (na := (tb.glo f).na) (w := w) (x := "state_bits") rfl rfl
  have fR := mfld (s := s) (na := (tb.glo f).na) (w := w) (x := "reset") rfl rfl
  have c8 := callR_of (b := s.length) (s := s) (by simp [cbs, cb, hd.1]) (h8 w.B hd)
  cases ho : okC w.B cls
  · have hj : judged w cls = false := by simp [MC.judged, ho]
    rw [hj]
    rw [ho] at c8
    apply run_ret rfl
    · unfold i_is_invariant
      show xSs _ _ _ [some (mObj w), some d, none, none, none] _ = _
      (exists fB, c8)
    · exact end_bl rfl
  · rw [ho] at c8
    have hn := gcs_ncs hd ho
    have hj : judged w cls = inv w (cls.map fun c => c.map toN) := by simp [MC.judged, ho]
    rw [hj]
    generalize (cls.map fun c => c.map toN) = cs at hn
    have c4 := fun t : Nat => callR_of (b := s.length) (s := s) (by simp [cbs, cb, hn.1]) (h4 t hn)
    cases hR : allT cs w.R
    · have hi : inv w cs = false := by simp [MC.inv, hR]
      rw [hi]
      have c4R := c4 w.R
      rw [hR] at c4R
      apply run_ret rfl
      · unfold i_is_invariant
        show xSs _ _ _ [some (mObj w), some d, none, none, none] _ = _
        (exists fB, fR, c8, c4R)
      · exact end_bl rfl
    · have c4R := c4 w.R
      rw [hR] at c4R
      have lc := lc_mapg (f := fun k : Nat => D.int (k : Nat)) (h := fun t => .bl (allT cs t)) (g := itemF (tb.glo f) s.length [("state", 3)] (.name 3) .yes (.call 4 (.cons (.var 1) (.cons (.var 3) .nil))) [some (mObj w), some d, none, none, none]) (s := s) (List.range (2 ^ w.B)) (fun t _ => by
        apply b_lcB (r := .v (.bl (allT cs t)))
        · apply g_name
          exact rfl
        · exact c_yes
        · (exists c4 t))
      rw [← rng_nat] at lc
      have hlen : (rngL 0 (2 ^ w.B)).length ≤ 100000 := by rw [rngL_len]; omega
      have h18 : 2 ^ w.B < 1000000000000000000 := by omega
      have sh := shl1 (s := s) w.B (by have := hw.b; omega)
      -- the outer loop
      have L := forL_all (f := bodyF (tb.glo f) s.length (.name 3) ivB) (s := s) (P := fun t => !allT cs t || (succs w t).all fun x => allT cs x) (I := fun e => ∃ e3 e4, e = [some (mObj w), some d, some (.lst (kbs cs (2 ^ w.B))), e3, e4]) ((List.range (2 ^ w.B)).map fun n : Nat => D.int (n : Nat)) (List.range (2 ^ w.B)) (all2_rng _) (fun q t e hq hm he => by
        subst hq
        obtain ⟨e3, e4, rfl⟩ := he
        have ht := List.mem_range.mp hm
        have k1 := kbs_get (s := s) (gd := (tb.glo f).gd) (cs := cs) ht
        have c0 := callR_of (b := s.length) (s := s) (by simp [cbs, cb, m_cb]) (h0 t ht)
        cases ha : allT cs t
        · rw [ha] at k1
          simp only [Bool.not_false, Bool.true_or, if_true]
          refine ⟨_, ?_, some (.int (t : Nat)), e4, rfl⟩
          unfold ivB
          (exists k1)
        · rw [ha] at k1
          simp only [Bool.not_true, Bool.false_or]
          have L := forL_all (f := bodyF (tb.glo f) s.length (.name 4) ivI) (s := s) (R := fun d p => d = encP p) (P := fun p : Nat × Nat => allT cs p.2) (I := fun e => ∃ e4, e = [some (mObj w), some d, some (.lst (kbs cs (2 ^ w.B))), some (.int (t : Nat)), e4]) (encC (rowsOf w t)) (rowsOf w t) (All2.map (f := encP) (fun _ => rfl) _) (fun q p e hq hm he => by
            subst hq
            obtain ⟨e4, rfl⟩ := he
            have hp : p.2 < 2 ^ w.B := MC.succs_lt hw (List.mem_map.mpr ⟨p, hm, rfl⟩)
            have k2 := kbs_get (s := s) (gd := (tb.glo f).gd) (cs := cs) hp
            have i1 : ixR (tb.glo f).gd (encP p) (.int 1) s = some (.v (.int (p.2 : Nat))) := rfl
            cases hx : allT cs p.2
            · rw [hx] at k2
              simp only [Bool.false_eq_true, if_false]
              refine ⟨[some (mObj w), some d, some (.lst (kbs cs (2 ^ w.B))), some (.int (t : Nat)), some (encP p)], ?_⟩
              unfold ivI
              (exists i1, k2)
            · rw [hx] at k2
              simp only [if_true]
              refine ⟨_, ?_, some (encP p), rfl⟩
              unfold ivI
              (exists i1, k2)) _ ⟨e4, rfl⟩
          have eA : (rowsOf w t).all (fun p => allT cs p.2) = (succs w t).all fun x => allT cs x := by
            unfold MC.succs
            rw [all_map]
          rw [eA] at L
          split
          · rename_i hA
            rw [if_pos hA] at L
            obtain ⟨e', L, y4, rfl⟩ := L
            refine ⟨_, ?_, some (.int (t : Nat)), y4, rfl⟩
            unfold ivB
            apply b_forB
            · (exists rfl)
            apply ss_nx
            · apply s_if1
              · (exists k1)
              · apply ss_nx
                · apply s_forB
                  · apply i_frz
                    · (exists c0)
                    · exact rfl
                  · exact L
                · exact ss_nil
            · exact ss_nil
          · rename_i hA
            rw [if_neg hA] at L
            obtain ⟨e', L⟩ := L
            refine ⟨e', ?_⟩
            unfold ivB
            apply b_forB
            · (exists rfl)
            apply ss_ret
            apply s_if1
            · (exists k1)
            · apply ss_ret
              apply s_forB
              · apply i_frz
                · (exists c0)
                · exact rfl
              · exact L) _ ⟨none, none, rfl⟩
      rw [← rng_nat] at L
      have eI : inv w cs = (List.range (2 ^ w.B)).all fun t => !allT cs t || (succs w t).all fun x => allT cs x := by simp [MC.inv, hR]
      rw [← eI] at L
      have pre : ∀ o, xSs (tb.glo f) s.length (.cons (.for_ (.name 3) (.rng1 (.op .shl (.int 1) (.fld (.var 0) "state_bits"))) ivB) (.cons (.ret (.bl true)) .nil)) [some (mObj w), some d, some (.lst (kbs cs (2 ^ w.B))), none, none] s = o →
          xSs (tb.glo f) s.length i_is_invariant.d.body [some (mObj w), some d, none, none, none] s = o := fun o hO => by
        unfold i_is_invariant
        apply ss_nx
        · (exists fB, fR, c8, c4R)
        apply ss_nx (e1 := [some (mObj w), some d, some (.lst (kbs cs (2 ^ w.B))), none, none])
        · apply s_name'
          · apply e_lcB
            · apply i_rng1
              · (exists fB, sh)
              · exact rfl
              · exact h18
            · exact hlen
            · exact lc
          · exact rfl
        · exact hO
      cases hI : inv w cs
      · rw [hI, if_neg (by simp)] at L
        obtain ⟨e', L⟩ := L
        apply run_ret rfl
        · apply pre
          apply ss_ret
          apply s_forB
          · apply i_rng1
            · (exists fB, sh)
            · exact rfl
            · exact h18
          · exact L
        · exact end_bl rfl
      · rw [hI, if_pos rfl] at L
        obtain ⟨e', L, y3, y4, rfl⟩ := L
        apply run_ret rfl
        · apply pre
          apply ss_nx
          · apply s_forB
            · apply i_rng1
              · (exists fB, sh)
              · exact rfl
              · exact h18
            · exact L
          · (exists rfl)
        · exact end_bl rfl
end K19

set_option Elab.async false
set_option linter.all false
set_option maxRecDepth 100000
set_option maxHeartbeats 1000000
namespace K19
open PySem PySem.Spec PyProof.Rows L2 En
open MC (isT allT inAll diffC short short1 shortL shortL1 clsFor clsStep rowsOf succs add1 addNew bfs okP okC toN judged inv)
variable {s : Store} {f : Den}
def juI : ISs := (.cons (.ifs (.or (.e (.cmp .ne (.blt .len (.cons (.var 3) .nil)) (.int 2))) (.or (.e (.cmp .lt (.ix (.var 3) (.int 0)) (.int 0))) (.or (.e (.cmp .ge (.ix (.var 3) (.int 0)) (.ix (.var 0) (.int 2)))) (.or (.e (.cmp .lt (.ix (.var 3) (.int 1)) (.int 0))) (.e (.cmp .gt (.ix (.var 3) (.int 1)) (.int 1))))))) (.cons (.ret (.bl false))
    .nil) .nil)
    .nil)
theorem ju_pair {G : Glo} {b : Nat} {w : MC.W} {e1 e2 e3 e4 e5 e6 e7 : Option D} {d : D} {p : List Int} (h : GP d p) :
    bodyF G b (.name 3) juI d [some (wObj w), e1, e2, e3, e4, e5, e6, e7] s = if okP w.B p = true then .ok (.nx, [some (wObj w), e1, e2, some d, e4, e5, e6, e7]) s else .ok (.ret (.v (.bl false)), [some (wObj w), e1, e2, some d, e4, e5, e6, e7]) s := by
  obtain ⟨k, h⟩ := h
  have ln := len_frz (s := s) h
  rw [List.length_map] at ln
  have n2 : cmpR G.gd .ne (.int (p.length : Nat)) (.int 2) s = some (!decide (p.length = 2)) := by
    rw [En.ne_int, show ((2 : Int)) = ((2 : Nat) : Int) from rfl, dnat]
  have gw := (w_ix G.gd w s).2.2.1
  have start : ∀ o, xSs G b juI [some (wObj w), e1, e2, some d, e4, e5, e6, e7] s = o → bodyF G b (.name 3) juI d [some (wObj w), e1, e2, e3, e4, e5, e6, e7] s = o := fun o ho => by
    apply b_forB
    · (exists rfl)
    · exact ho
  have yes : ∀ t : IT, juI = (.cons (.ifs t (.cons (.ret (.bl false)) .nil) .nil) .nil) → xT G b t [some (wObj w), e1, e2, some d, e4, e5, e6, e7] s = .ok true s → xSs G b juI [some (wObj w), e1, e2, some d, e4, e5, e6, e7] s = .ok (.ret (.v (.bl false)), [some (wObj w), e1, e2, some d, e4, e5, e6, e7]) s := fun t ht hx => by
    rw [ht]
    apply ss_ret
    apply s_if1 hx
    (exists rfl)
  by_cases h2 : p.length = 2
  · match p, h2, h, ln, n2 with
    | [a, c], h2, h, ln, n2 =>
      have i0 : ixR G.gd d (.int 0) s = some (.v (.int a)) := frz_ix (i := 0) h rfl
      have i1 : ixR G.gd d (.int 1) s = some (.v (.int c)) := frz_ix (i := 1) h rfl
      have n2 : cmpR G.gd .ne (.int (([a, c] : List Int).length : Nat)) (.int 2) s = some false := n2
      apply start
      have first : xT G b (.e (.cmp .ne (.blt .len (.cons (.var 3) .nil)) (.int 2))) [some (wObj w), e1, e2, some d, e4, e5, e6, e7] s = .ok false s := by
        apply t_e
        · apply e_cmp
          · (exists ln)
          · (exists rfl)
          · exact n2
        · exact rfl
      have q1 : xT G b (.e (.cmp .lt (.ix (.var 3) (.int 0)) (.int 0))) [some (wObj w), e1, e2, some d, e4, e5, e6, e7] s = .ok (decide (a < 0)) s := by
        apply t_e
        · apply e_cmp
          · (exists i0)
          · (exists rfl)
          · exact lt_int _ _
        · exact rfl
      have q2 : xT G b (.e (.cmp .ge (.ix (.var 3) (.int 0)) (.ix (.var 0) (.int 2)))) [some (wObj w), e1, e2, some d, e4, e5, e6, e7] s = .ok (decide ((w.B : Int) ≤ a)) s := by
        apply t_e
        · apply e_cmp
          · (exists i0)
          · (exists gw)
          · exact rfl
        · exact rfl
      have q3 : xT G b (.e (.cmp .lt (.ix (.var 3) (.int 1)) (.int 0))) [some (wObj w), e1, e2, some d, e4, e5, e6, e7] s = .ok (decide (c < 0)) s := by
        apply t_e
        · apply e_cmp
          · (exists i1)
          · (exists rfl)
          · exact lt_int _ _
        · exact rfl
      have q4 : xT G b (.e (.cmp .gt (.ix (.var 3) (.int 1)) (.int 1))) [some (wObj w), e1, e2, some d, e4, e5, e6, e7] s = .ok (decide (1 < c)) s := by
        apply t_e
        · apply e_cmp
          · (exists i1)
          · (exists rfl)
          · exact gt_int _ _
        · exact rfl
      by_cases d1 : a < 0
      · rw [decide_eq_true d1] at q1
        have ho : ¬ okP w.B [a, c] = true := by
          simp only [okP, Bool.and_eq_true, decide_eq_true_eq]
          omega
        rw [if_neg ho]
        exact yes _ rfl (t_or0 first (t_or1 q1))
      rw [decide_eq_false d1] at q1
      by_cases d2 : (w.B : Int) ≤ a
      · rw [decide_eq_true d2] at q2
        have ho : ¬ okP w.B [a, c] = true := by
          simp only [okP, Bool.and_eq_true, decide_eq_true_eq]
          omega
        rw [if_neg ho]
        exact yes _ rfl (t_or0 first (t_or0 q1 (t_or1 q2)))
      rw [decide_eq_false d2] at q2
      by_cases d3 : c < 0
      · rw [decide_eq_true d3] at q3
        have ho : ¬ okP w.B [a, c] = true := by
          simp only [okP, Bool.and_eq_true, decide_eq_true_eq]
          omega
        rw [if_neg ho]
        exact yes _ rfl (t_or0 first (t_or0 q1 (t_or0 q2 (t_or1 q3))))
      rw [decide_eq_false d3] at q3
      by_cases d4 : 1 < c
      · rw [decide_eq_true d4] at q4
        have ho : ¬ okP w.B [a, c] = true := by
          simp only [okP, Bool.and_eq_true, decide_eq_true_eq]
          omega
        rw [if_neg ho]
        exact yes _ rfl (t_or0 first (t_or0 q1 (t_or0 q2 (t_or0 q3 q4))))
      rw [decide_eq_false d4] at q4
      have ho : okP w.B [a, c] = true := by
        simp only [okP, Bool.and_eq_true, decide_eq_true_eq]
        omega
      rw [if_pos ho]
      unfold juI
      apply ss_nx
      · exact s_if0 (t_or0 first (t_or0 q1 (t_or0 q2 (t_or0 q3 q4)))) ss_nil
      · exact ss_nil
  · have ho : okP w.B p = false := by
      match p, h2 with
      | [], _ => rfl
      | [_], _ => rfl
      | _ :: _ :: _ :: _, _ => rfl
    rw [ho, if_neg (by simp)]
    rw [decide_eq_false h2] at n2
    apply start
    refine yes _ rfl (t_or1 ?_)
    apply t_e
    · apply e_cmp
      · (exists ln)
      · (exists rfl)
      · exact n2
    · exact rfl
def juB : ISs := (.cons (.for_ (.name 3) (.seq (.var 2)) juI) .nil)
def ju1 : IS := .for_ (.name 2) (.seq (.var 1)) juB
theorem ju1_run {G : Glo} {b : Nat} {w : MC.W} {d : D} {cs : List (List (List Int))} (h : GCs d cs) :
    if okC w.B cs = true then ∃ e2 e3, xS G b ju1 [some (wObj w), some d, none, none, none, none, none, none] s = .ok (.nx, [some (wObj w), some d, e2, e3, none, none, none, none]) s
    else ∃ e', xS G b ju1 [some (wObj w), some d, none, none, none, none, none, none] s = .ok (.ret (.v (.bl false)), e') s := by
  obtain ⟨_, k, ds, hd, ha⟩ := h
  have L := forL_all (f := bodyF G b (.name 2) juB) (s := s) (P := fun c => c.all (okP w.B)) (I := fun e => ∃ e2 e3, e = [some (wObj w), some d, e2, e3, none, none, none, none]) ds cs ha (fun q c e hq hm he => by
    obtain ⟨e2, e3, rfl⟩ := he
    obtain ⟨_, k', qs, hqs, hqa⟩ := hq
    have L := forL_all (f := bodyF G b (.name 3) juI) (s := s) (P := okP w.B) (I := fun e => ∃ e3, e = [some (wObj w), some d, some q, e3, none, none, none, none]) qs c hqa (fun r p e hr _ he => by
      obtain ⟨e3, rfl⟩ := he
      have := ju_pair (G := G) (b := b) (s := s) (w := w) (e1 := some d) (e2 := some q) (e3 := e3) (e4 := none) (e5 := none) (e6 := none) (e7 := none) hr
      split
      · rename_i hp
        rw [if_pos hp] at this
        exact ⟨_, this, _, rfl⟩
      · rename_i hp
        rw [if_neg hp] at this
        exact ⟨_, this⟩) _ ⟨e3, rfl⟩
    split
    · rename_i hp
      rw [if_pos hp] at L
      obtain ⟨e', L, y3, rfl⟩ := L
      refine ⟨_, ?_, some q, y3, rfl⟩
      apply b_forB
      · (exists rfl)
      · unfold juB
        apply ss_nx
        · apply s_forB
          · (exists hqs)
          · exact L
        · exact ss_nil
    · rename_i hp
      rw [if_neg hp] at L
      obtain ⟨e', L⟩ := L
      refine ⟨e', ?_⟩
      apply b_forB
      · (exists rfl)
      · unfold juB
        apply ss_ret
        apply s_forB
        · (exists hqs)
        · exact L) _ ⟨none, none, rfl⟩
  have e0 : cs.all (fun c => c.all (okP w.B)) = okC w.B cs := rfl
  rw [e0] at L
  split
  · rename_i hp
    rw [if_pos hp] at L
    obtain ⟨e', L, y2, y3, rfl⟩ := L
    refine ⟨y2, y3, ?_⟩
    unfold ju1
    apply s_forB
    · (exists hd)
    · exact L
  · rename_i hp
    rw [if_neg hp] at L
    obtain ⟨e', L⟩ := L
    refine ⟨e', ?_⟩
    unfold ju1
    apply s_forB
    · (exists hd)
    · exact L
def juG : ISs := (.cons (.expr (.mt .append (.var 4) (.cons (.cmp .eq (.blt .len (.cons (.lc [("one", 7)] (.name 7) (.seq (.var 1)) (.t (.not (.e (.call 20 (.cons (.var 7) (.cons (.var 5) .nil)))))) (.var 7)) .nil)) (.int 0)) .nil)))
    .nil)
theorem juG_loop (h20 : T20 f) {b : Nat} (hb : s.length = b) {w : MC.W} {d : D} {cs : List (List (Nat × Nat))} (hd : NCs d cs) (hl : cs.length < 10000) (hc : ∀ c ∈ cs, c.length ≤ 10000) {e2 e3 e6 e7 : Option D} : ∀ (m t : Nat) (e5 : Option D), t + m < 1000 → ∃ e5',
    forL (bodyF (tb.glo f) b (.name 5) juG) (rngL (t : Nat) m) [some (wObj w), some d, e2, e3, some (.cell b), e5, e6, e7] (s ++ [.lst (kbs cs t)]) = .ok (.nx, [some (wObj w), some d, e2, e3, some (.cell b), e5', e6, e7]) (s ++ [.lst (kbs cs (t + m))])
  | 0, t, e5, _ => ⟨e5, rfl⟩
  | m + 1, t, e5, hm => by
    obtain ⟨_, k, ds, hds, ha⟩ := hd
    have it : ∀ q c, NC q c → q ∈ ds → c ∈ cs → itemF (tb.glo f) b [("one", 7)] (.name 7) (.t (.not (.e (.call 20 (.cons (.var 7) (.cons (.var 5) .nil)))))) (.var 7) [some (wObj w), some d, e2, e3, some (.cell b), some (.int (t : Nat)), e6, e7] q (s ++ [.lst (kbs cs t)]) = .ok (if !isT c t then [q] else []) (s ++ [.lst (kbs cs t)]) := fun q c hq _ hm => by
      have c1 := callR_of (b := b) (s := s ++ [.lst (kbs cs t)]) (by simp [cbs, cb, hq.1]) (h20 t hq (by have := hc c hm; omega))
      cases ht : isT c t
      · rw [ht] at c1
        apply b_lcB (r := .v q)
        · apply g_name
          exact rfl
        · (exists c1)
        · (exists rfl)
      · rw [ht] at c1
        apply b_lcB0
        · apply g_name
          exact rfl
        · (exists c1)
    obtain ⟨r, lc, hr⟩ := lc_count (P := fun c => !isT c t) ds cs ha it
    have hlen : ds.length ≤ 100000 := by rw [All2.len ha]; omega
    have cz : cmpR (tb.glo f).gd .eq (.int (r.length : Nat)) (.int 0) (s ++ [.lst (kbs cs t)]) = some (allT cs t) := by
      rw [eq0, hr]
      exact congrArg some filt_zero
    have kl : (kbs cs t).length = t := by simp [kbs]
    have ks : kbs cs t ++ [.bl (allT cs t)] = kbs cs (t + 1) := by simp [kbs, List.range_succ]
    have mm := app_own (gd := (tb.glo f).gd) (b := b) s (kbs cs t) (.bl (allT cs t)) hb (Nat.le_refl _) (by omega)
    rw [ks] at mm
    obtain ⟨y5, e⟩ := juG_loop h20 hb (w := w) ⟨by assumption, k, ds, hds, ha⟩ hl hc (e2 := e2) (e3 := e3) (e6 := e6) (e7 := e7) m (t + 1) (some (.int (t : Nat))) (by omega)
    have : t + 1 + m = t + (m + 1) := by omega
    rw [this] at e
    refine ⟨y5, forL_cons ?_ e⟩
    apply b_forB
    · (exists rfl)
    unfold juG
    apply ss_nx
    · apply s_expr
      apply e_mt
      · (exists rfl)
      · exact isl_own s (kbs cs t) hb
      · apply es_cons
        · apply e_cmp
          · apply e_blt
            · apply es_cons
              · apply e_lcB
                · (exists hds)
                · exact hlen
                · exact lc
              · exact es_nil
            · exact len_lst
          · (exists rfl)
          · exact cz
        · exact es_nil
      · exact mm
    · exact ss_nil
end K19

set_option Elab.async false
set_option linter.all false
set_option maxRecDepth 100000
set_option maxHeartbeats 1000000
namespace K19
open PySem PySem.Spec PyProof.Rows L2 En
open MC (isT allT inAll diffC short short1 shortL shortL1 clsFor clsStep rowsOf succs add1 addNew bfs okP okC toN judged inv)
variable {s : Store} {f : Den}
def juN : ISs := (.cons (.ifs (.and (.e (.ix (.var 4) (.var 5))) (.not (.e (.ix (.var 4) (.ix (.ix (.ix (.var 0) (.int 4)) (.op .add (.op .shl (.var 5) (.ix (.var 0) (.int 0))) (.var 6))) (.int 1)))))) (.cons (.ret (.bl false))
    .nil) .nil)
    .nil)
def juS : ISs := (.cons (.for_ (.name 6) (.rng1 (.op .shl (.int 1) (.ix (.var 0) (.int 0)))) juN) .nil)
theorem good_ix {gd : Nat → List (Str × D)} {b n t : Nat} (hb : s.length = b) {cs : List (List (Nat × Nat))} (h : t < n) : ixR gd (.cell b) (.int (t : Nat)) (s ++ [.lst (kbs cs n)]) = some (.v (.bl (allT cs t))) := by
  have hc : (s ++ [O.lst (kbs cs n)])[b]? = some (.lst (kbs cs n)) := by subst hb; simp
  simp only [ixR, seqOf, hc]
  rw [atI_nat (v := .bl (allT cs t)) (by simp [kbs, h])]
  rfl
theorem judged_run (h20 : T20 f) {w : MC.W} (hw : MC.WOk w) (b : Nat) {d : D} {cls : List (List (List Int))} (hd : GCs d cls) (hl : cls.length < 10000) (hlc : ∀ c ∈ cls, c.length ≤ 10000) : i_law_judged.run (tb.glo f) b [wObj w, d] s = .ok (.v (.bl (judged w cls))) s := by
  rw [run_F rfl]
  have hB : 2 ^ w.B ≤ 256 := pow_le hw.b
  have hI : 2 ^ w.I ≤ 16 := pow_le (c := 4) hw.i
  have J1 := ju1_run (G := tb.glo f) (b := s.length) (s := s) (w := w) hd
  cases ho : okC w.B cls
  · have hj : judged w cls = false := by simp [MC.judged, ho]
    rw [hj]
    rw [ho, if_neg (by simp)] at J1
    obtain ⟨e', J1⟩ := J1
    apply run_ret rfl
    · unfold i_law_judged
      show xSs _ _ _ [some (wObj w), some d, none, none, none, none, none, none] _ = _
      exact ss_ret J1
    · exact end_bl rfl
  · rw [ho, if_pos rfl] at J1
    obtain ⟨e2, e3, J1⟩ := J1
    have hn := gcs_ncs hd ho
    have hj : judged w cls = inv w (cls.map fun c => c.map toN) := by simp [MC.judged, ho]
    rw [hj]
    have hl' : (cls.map fun c => c.map toN).length < 10000 := by simpa using hl
    have hlc' : ∀ c ∈ (cls.map fun c => c.map toN), c.length ≤ 10000 := fun c hm => by
      obtain ⟨c', hm', rfl⟩ := List.mem_map.mp hm
      simpa using hlc c' hm'
    generalize (cls.map fun c => c.map toN) = cs at hn hl' hlc'
    obtain ⟨y5, eG⟩ := juG_loop h20 (s := s) rfl (w := w) hn hl' hlc' (e2 := e2) (e3 := e3) (e6 := none) (e7 := none) (2 ^ w.B) 0 none (by omega)
    rw [Nat.zero_add] at eG
    have g0 := w_ix (tb.glo f).gd w (s ++ [.lst (kbs cs 0)])
    have g1 := w_ix (tb.glo f).gd w (s ++ [.lst (kbs cs (2 ^ w.B))])
    have sh0 := shl1 (s := s ++ [.lst (kbs cs 0)]) w.B (by have := hw.b; omega)
    have sh1 := shl1 (s := s ++ [.lst (kbs cs (2 ^ w.B))]) w.B (by have := hw.b; omega)
    have shI := shl1 (s := s ++ [.lst (kbs cs (2 ^ w.B))]) w.I (by have := hw.i; omega)
    have h18 : 2 ^ w.B < 1000000000000000000 := by omega
    have h18I : 2 ^ w.I < 1000000000000000000 := by omega
    have gR := good_ix (s := s) (gd := (tb.glo f).gd) rfl (cs := cs) hw.r
    have pre : ∀ o, xSs (tb.glo f) s.length (.cons (.ifs (.not (.e (.ix (.var 4) (.ix (.var 0) (.int 3))))) (.cons (.ret (.bl false)) .nil) .nil) (.cons (.for_ (.name 5) (.rng1 (.op .shl (.int 1) (.ix (.var 0) (.int 2)))) juS) (.cons (.ret (.bl true)) .nil))) [some (wObj w), some d, e2, e3, some (.cell s.length), y5, none, none] (s ++ [.lst (kbs cs (2 ^ w.B))]) = o →
        xSs (tb.glo f) s.length i_law_judged.d.body [some (wObj w), some d, none, none, none, none, none, none] s = o := fun o hO => by
      unfold i_law_judged
      apply ss_nx J1
      apply ss_nx (e1 := [some (wObj w), some d, e2, e3, some (.cell s.length), none, none, none]) (s1 := s ++ [.lst (kbs cs 0)])
      · apply s_name'
        · apply e_mu
          (exists rfl)
        · exact rfl
      apply ss_nx
      · apply s_forB
        · apply i_rng1
          · (exists g0.2.2.1, sh0)
          · exact rfl
          · exact h18
        · exact eG
      · exact hO
    cases hR : allT cs w.R
    · have hi : inv w cs = false := by simp [MC.inv, hR]
      rw [hi]
      rw [hR] at gR
      apply run_of rfl
      · apply pre
        apply Eq.trans
        · (exists g1.2.2.2.1, gR)
        · exact rfl
      · simp [endR, cb]
    · rw [hR] at gR
      have L := forL_all (f := bodyF (tb.glo f) s.length (.name 5) juS) (s := s ++ [.lst (kbs cs (2 ^ w.B))]) (P := fun t => !allT cs t || (succs w t).all fun x => allT cs x) (I := fun e => ∃ e5 e6, e = [some (wObj w), some d, e2, e3, some (.cell s.length), e5, e6, none]) ((List.range (2 ^ w.B)).map fun n : Nat => D.int (n : Nat)) (List.range (2 ^ w.B)) (all2_rng _) (fun q t e hq hm he => by
        subst hq
        obtain ⟨e5, e6, rfl⟩ := he
        have ht := List.mem_range.mp hm
        have k1 := good_ix (s := s) (gd := (tb.glo f).gd) rfl (cs := cs) ht
        have sht := shl_nat (s := s ++ [.lst (kbs cs (2 ^ w.B))]) t w.I (by omega) (by have := hw.i; omega)
        -- the numbers
        have L := forL_all (f := bodyF (tb.glo f) s.length (.name 6) juN) (s := s ++ [.lst (kbs cs (2 ^ w.B))]) (R := fun d (i : Nat) => d = .int (i : Nat)) (P := fun i : Nat => !allT cs t || match (rowsOf w t)[i]? with | some p => allT cs p.2 | none => true) (I := fun e => ∃ e6, e = [some (wObj w), some d, e2, e3, some (.cell s.length), some (.int (t : Nat)), e6, none]) ((List.range (2 ^ w.I)).map fun n : Nat => D.int (n : Nat)) (List.range (2 ^ w.I)) (all2_rng _) (fun q i e hq hm he => by
          subst hq
          obtain ⟨e6, rfl⟩ := he
          have hi := List.mem_range.mp hm
          have hil : i < (rowsOf w t).length := by rw [rowsOf_len hw ht]; exact hi
          have hp := List.getElem?_eq_getElem hil
          generalize (rowsOf w t)[i] = p at hp
          rw [hp]
          have hp2 : p.2 < 2 ^ w.B := MC.succs_lt hw (List.mem_map.mpr ⟨p, List.mem_of_getElem? hp, rfl⟩)
          have k2 := good_ix (s := s) (gd := (tb.glo f).gd) rfl (cs := cs) hp2
          have ad := add_nat (s := s ++ [.lst (kbs cs (2 ^ w.B))]) (t * 2 ^ w.I) i
          have i2 : ixR (tb.glo f).gd (.lst (encC w.rows)) (.int ((t * 2 ^ w.I + i : Nat) : Int)) (s ++ [.lst (kbs cs (2 ^ w.B))]) = some (.v (encP p)) := frz_ix (d := .lst (encC w.rows)) rfl (by simp [encC, rowsOf_get hw hp])
          have i3 : ixR (tb.glo f).gd (encP p) (.int 1) (s ++ [.lst (kbs cs (2 ^ w.B))]) = some (.v (.int (p.2 : Nat))) := rfl
          cases ha : allT cs t
          · rw [ha] at k1
            simp only [Bool.not_false, Bool.true_or, if_true]
            refine ⟨_, ?_, some (.int (i : Nat)), rfl⟩
            unfold juN
            (exists k1)
          · rw [ha] at k1
            simp only [Bool.not_true, Bool.false_or]
            have second : ∀ x, allT cs p.2 = x → xE (tb.glo f) s.length (.ix (.var 4) (.ix (.ix (.ix (.var 0) (.int 4)) (.op .add (.op .shl (.var 5) (.ix (.var 0) (.int 0))) (.var 6))) (.int 1))) [some (wObj w), some d, e2, e3, some (.cell s.length), some (.int (t : Nat)), some (.int (i : Nat)), none] (s ++ [.lst (kbs cs (2 ^ w.B))]) = .ok (.v (.bl x)) (s ++ [.lst (kbs cs (2 ^ w.B))]) := fun x hx => by
              rw [hx] at k2
              (exists g1.2.2.2.2, g1.1, sht, ad, i2, i3, k2)
            cases hx : allT cs p.2
            · simp only [Bool.false_eq_true, if_false]
              refine ⟨[some (wObj w), some d, e2, e3, some (.cell s.length), some (.int (t : Nat)), some (.int (i : Nat)), none], ?_⟩
              unfold juN
              apply b_forB
              · (exists rfl)
              apply ss_ret
              apply s_if1
              · apply t_and1
                · (exists k1)
                · apply t_not0
                  exact t_e (second _ hx) rfl
              · (exists rfl)
            · simp only [if_true]
              refine ⟨_, ?_, some (.int (i : Nat)), rfl⟩
              unfold juN
              apply b_forB
              · (exists rfl)
              apply ss_nx
              · apply s_if0
                · apply t_and1
                  · (exists k1)
                  · apply t_not1
                    exact t_e (second _ hx) rfl
                · exact ss_nil
              · exact ss_nil) _ ⟨e6, rfl⟩
        rw [← rng_nat] at L
        have eA : ((List.range (2 ^ w.I)).all fun i : Nat => !allT cs t || match (rowsOf w t)[i]? with | some p => allT cs p.2 | none => true) = (!allT cs t || (succs w t).all fun x => allT cs x) := by
          rw [Bool.eq_iff_iff, List.all_eq_true, Bool.or_eq_true, List.all_eq_true]
          constructor
          · intro h
            cases ha : allT cs t
            · exact .inl rfl
            · refine .inr fun x hx => ?_
              obtain ⟨p, hp, rfl⟩ := List.mem_map.mp hx
              obtain ⟨i, hi, e⟩ := List.getElem_of_mem hp
              have := h i (List.mem_range.mpr (by rw [← rowsOf_len hw ht]; exact hi))
              rw [ha, List.getElem?_eq_getElem hi, e] at this
              simpa using this
          · intro h i hi
            rcases h with h | h
            · rw [h]
              rfl
            · have hil : i < (rowsOf w t).length := by rw [rowsOf_len hw ht]; exact List.mem_range.mp hi
              rw [List.getElem?_eq_getElem hil]
              have := h _ (List.mem_map.mpr ⟨_, List.getElem_mem hil, rfl⟩)
              simp [this]
        rw [eA] at L
        split
        · rename_i hA
          rw [if_pos hA] at L
          obtain ⟨e', L, y6, rfl⟩ := L
          refine ⟨_, ?_, some (.int (t : Nat)), y6, rfl⟩
          unfold juS
          apply b_forB
          · (exists rfl)
          apply ss_nx
          · apply s_forB
            · apply i_rng1
              · (exists g1.1, shI)
              · exact rfl
              · exact h18I
            · exact L
          · exact ss_nil
        · rename_i hA
          rw [if_neg hA] at L
          obtain ⟨e', L⟩ := L
          refine ⟨e', ?_⟩
          unfold juS
          apply b_forB
          · (exists rfl)
          apply ss_ret
          apply s_forB
          · apply i_rng1
            · (exists g1.1, shI)
            · exact rfl
            · exact h18I
          · exact L) _ ⟨y5, none, rfl⟩
      rw [← rng_nat] at L
      have eI : inv w cs = (List.range (2 ^ w.B)).all fun t => !allT cs t || (succs w t).all fun x => allT cs x := by simp [MC.inv, hR]
      rw [← eI] at L
      cases hv : inv w cs
      · rw [hv, if_neg (by simp)] at L
        obtain ⟨e', L⟩ := L
        apply run_of rfl
        · apply pre
          apply ss_nx
          · (exists g1.2.2.2.1, gR)
          · apply ss_ret
            apply s_forB
            · apply i_rng1
              · (exists g1.2.2.1, sh1)
              · exact rfl
              · exact h18
            · exact L
        · simp [endR, cb]
      · rw [hv, if_pos rfl] at L
        obtain ⟨e', L, y5', y6', rfl⟩ := L
        apply run_of rfl
        · apply pre
          apply ss_nx
          · (exists g1.2.2.2.1, gR)
          apply ss_nx
          · apply s_forB
            · apply i_rng1
              · (exists g1.2.2.1, sh1)
              · exact rfl
              · exact h18
            · exact L
          · (exists rfl)
        · simp [endR, cb]
end K19

set_option Elab.async false
set_option linter.all false
set_option maxRecDepth 100000
set_option maxHeartbeats 1000000
namespace K19
open PySem PySem.Spec PyProof.Rows L2 En
open MC (isT allT inAll diffC short short1 shortL shortL1 clsFor clsStep rowsOf succs add1 addNew bfs okP okC toN judged inv)
variable {s X : Store} {f : Den} {n : Nat}
abbrev stp (s : Store) (n : Nat) (P : Int × Int × Int) : Store := s.set n (pl P.1 P.2.1 P.2.2)
def Pol (s : Store) (n : Nat) (P : Int × Int × Int) : Prop := s[n]? = some (pl P.1 P.2.1 P.2.2)
theorem Pol.same {P : Int × Int × Int} (h : Pol s n P) : stp s n P = s := set_same h
theorem Pol.lt {P : Int × Int × Int} (h : Pol s n P) : n < s.length := get_lt h
theorem Pol.set {P P' : Int × Int × Int} (h : Pol s n P) : Pol (stp s n P') n P' := by
  unfold Pol
  rw [List.getElem?_set_self h.lt]
theorem stp2 {P P' : Int × Int × Int} : stp (stp s n P) n P' = stp s n P' := List.set_set ..
theorem Pol.app {P : Int × Int × Int} (h : Pol s n P) (r : Store) : Pol (s ++ r) n P := by
  unfold Pol at *
  rw [List.getElem?_append_left (get_lt h)]
  exact h
theorem stp_app {P P' : Int × Int × Int} (h : Pol s n P) (r : Store) : stp (s ++ r) n P' = stp s n P' ++ r := List.set_append_left _ _ (get_lt h)
theorem draw_x (hd : DrawAt (f.fn 12)) {P : Int × Int × Int} (hp : Pol X n P) (b top : Nat) (h0 : 0 < top) (h1 : top < 1000000000) : ∃ (l : Nat) (P' : Int × Int × Int), l < top ∧ callR (f.fn 12) b [.cell n, .int (top : Nat)] X = .ok (.v (.int (l : Nat))) (stp X n P') := by
  obtain ⟨l, c', r', t', h2, e⟩ := draw_nx hd hp.lt b P.1 P.2.1 P.2.2 top (by omega) (by omega)
  rw [show X.set n (pl P.1 P.2.1 P.2.2) = X from hp.same] at e
  exact ⟨l, (c', r', t'), by omega, e⟩
def encI (p : List Int) : List D := p.map .int
def eP (p : List Int) : D := .tup (encI p)
def ePL (p : List Int) : D := .lst (encI p)
def eT (c : List (List Int)) : D := .tup (c.map eP)
def eTL (c : List (List Int)) : D := .tup (c.map ePL)
def eL (c : List (List Int)) : D := .lst (c.map eP)
def encG (cls : List (List (List Int))) : D := .lst (cls.map eT)
def encG1 (cls : List (List (List Int))) : D := .tup (cls.map eTL)
def encG2 (cls : List (List (List Int))) : D := .lst (cls.map eL)
theorem encI_cb (b : Nat) (p : List Int) : cbs b (encI p) = true := cbs_ints b p
theorem cbs_map {α : Type} {g : α → D} {b : Nat} (h : ∀ a, cb b (g a) = true) (l : List α) : cbs b (l.map g) = true := cbs_iff.mpr fun d m => by
  obtain ⟨a, _, rfl⟩ := List.mem_map.mp m
  exact h a
theorem eP_cb (b : Nat) (p : List Int) : cb b (eP p) = true := encI_cb b p
theorem ePL_cb (b : Nat) (p : List Int) : cb b (ePL p) = true := encI_cb b p
theorem eT_cb (b : Nat) (c : List (List Int)) : cb b (eT c) = true := cbs_map (eP_cb b) c
theorem eTL_cb (b : Nat) (c : List (List Int)) : cb b (eTL c) = true := cbs_map (ePL_cb b) c
theorem eL_cb (b : Nat) (c : List (List Int)) : cb b (eL c) = true := cbs_map (eP_cb b) c
theorem encG_cb (b : Nat) (c : List (List (List Int))) : cb b (encG c) = true := cbs_map (eT_cb b) c
theorem gcs0 (cls : List (List (List Int))) : GCs (encG cls) cls := ⟨encG_cb 0 cls, false, _, rfl, All2.map (fun c => ⟨eT_cb 0 c, true, _, rfl, All2.map (fun p => ⟨true, rfl⟩) c⟩) cls⟩
theorem gcs1 (cls : List (List (List Int))) : GCs (encG1 cls) cls := ⟨cbs_map (eTL_cb 0) cls, true, _, rfl, All2.map (fun c => ⟨eTL_cb 0 c, true, _, rfl, All2.map (fun p => ⟨false, rfl⟩) c⟩) cls⟩
theorem gcs2 (cls : List (List (List Int))) : GCs (encG2 cls) cls := ⟨cbs_map (eL_cb 0) cls, false, _, rfl, All2.map (fun c => ⟨eL_cb 0 c, false, _, rfl, All2.map (fun p => ⟨true, rfl⟩) c⟩) cls⟩
/-- not too large -/
def Small (cls : List (List (List Int))) : Prop := cls.length < 10000 ∧ ∀ c ∈ cls, c.length < 10000 ∧ ∀ p ∈ c, p.length < 10000
theorem encG_plain {cls : List (List (List Int))} (h : Small cls) : En.plain 3 (encG cls) = true := by
  simp only [encG, En.plain, Bool.and_eq_true, decide_eq_true_eq, List.length_map]
  refine ⟨by have := h.1; omega, plains_iff.mpr fun d m => ?_⟩
  obtain ⟨c, hc, rfl⟩ := List.mem_map.mp m
  simp only [eT, En.plain, Bool.and_eq_true, decide_eq_true_eq, List.length_map]
  refine ⟨by have := (h.2 c hc).1; omega, plains_iff.mpr fun d m => ?_⟩
  obtain ⟨p, hp, rfl⟩ := List.mem_map.mp m
  simp only [eP, encI, En.plain, Bool.and_eq_true, decide_eq_true_eq, List.length_map]
  refine ⟨by have := (h.2 c hc).2 p hp; omega, plains_iff.mpr fun d m => ?_⟩
  obtain ⟨i, _, rfl⟩ := List.mem_map.mp m
  rfl
theorem same_c (hs : SameOk 3 (f.fn 15)) (b : Nat) {d : D} (h : En.plain 3 d = true) : callR (f.fn 15) b [d, d] X = .ok (.v (.bl true)) X :=
  callR_of (by simp [cbs, plain_cb 3 d h]) (hs d h)
def T9 (f : Den) (w : MC.W) : Prop := ∀ {d : D} {cls : List (List (List Int))}, GCs d cls → f.fn 9 0 [mObj w, d] [] = .ok (.v (.bl (judged w cls))) []
theorem tup_l (ds : List D) : bltR .tuple [.lst ds] s = some (.v (.tup ds)) := rfl
theorem tup_t (ds : List D) : bltR .tuple [.tup ds] s = some (.v (.tup ds)) := rfl
theorem lst_t (ds : List D) : bltR .list [.tup ds] s = some (.n (.lst ds)) := rfl
def lcP (f : Blt) : IE := .lc [("pair", 7)] (.name 7) (.seq (.var 6)) .yes (.blt f (.cons (.var 7) .nil))
theorem in_pairs {G : Glo} {b : Nat} {e0 e1 e2 e3 e4 e5 e7 : Option D} {d : D} {k : Bool} {ds es : List D} (h : frzSeq d = some (k, ds)) (hl : ds.length ≤ 100000) {fn : Blt} (hi : ∀ env : En.Env, env.length = 8 → lcL (itemF G b [("pair", 7)] (.name 7) .yes (.blt fn (.cons (.var 7) .nil)) env) ds s = .ok es s) :
    xE G b (.blt .tuple (.cons (lcP fn) .nil)) [e0, e1, e2, e3, e4, e5, some d, e7] s = .ok (.v (.tup es)) s := by
  unfold lcP
  apply e_blt
  · apply es_cons
    · apply e_lcB
      · apply i_frz
        · exact e_var rfl
        · exact h
      · exact hl
      · exact hi _ rfl
    · exact es_nil
  · exact tup_l _
theorem pair_items {α : Type} {G : Glo} {b : Nat} {fn : Blt} {g h : α → D} (hb : ∀ a (s : Store), ∃ r : R, r.d = h a ∧ bltR fn [g a] s = some r) (env : En.Env) (he : env.length = 8) (l : List α) : lcL (itemF G b [("pair", 7)] (.name 7) .yes (.blt fn (.cons (.var 7) .nil)) env) (l.map g) s = .ok (l.map h) s := by
  refine lc_mapg (f := g) (h := h) l fun a _ => ?_
  obtain ⟨r, h1, h2⟩ := hb a s
  rw [← h1]
  apply b_lcB (r := r)
  · apply g_name
    exact rfl
  · exact c_yes
  · apply e_blt
    · apply es_cons
      · apply e_var (d := g a)
        show ((wipeE env [7]).set 7 (some (g a)))[7]? = _
        rw [List.getElem?_set_self (by simp [wipeE, he])]
      · exact es_nil
    · exact h2
def lcC1 (x : IE) (i : Nat) : IE := .lc [("clause", 6)] (.name 6) (.seq (.var i)) .yes x
theorem lc_env {G : Glo} {b : Nat} {x : IE} {i : Nat} {e : En.Env} {H : D} {k : Bool} {ds es : List D} (hv : e[i]? = some (some H)) (hH : frzSeq H = some (k, ds)) (hl : ds.length ≤ 100000) (hi : lcL (itemF G b [("clause", 6)] (.name 6) .yes x e) ds s = .ok es s) : xE G b (lcC1 x i) e s = .ok (.n (.lst es)) s := by
  unfold lcC1
  apply e_lcB
  · apply i_frz
    · exact e_var hv
    · exact hH
  · exact hl
  · exact hi
/-- an item: the tuple of its pairs, made anew -/
theorem it_pairs {G : Glo} {b : Nat} {fn : Blt} {e0 e1 e2 e3 e4 e5 e6 e7 : Option D} {g g' : List (List Int) → D} {q q' : List Int → D} {c : List (List Int)} {k : Bool} (hg : frzSeq (g c) = some (k, c.map q)) (hl : c.length ≤ 100000) (hb : ∀ a (s : Store), ∃ r : R, r.d = q' a ∧ bltR fn [q a] s = some r) (he : D.tup (c.map q') = g' c) :
    itemF G b [("clause", 6)] (.name 6) .yes (.blt .tuple (.cons (lcP fn) .nil)) [e0, e1, e2, e3, e4, e5, e6, e7] (g c) s = .ok [g' c] s := by
  rw [← he]
  apply b_lcB (r := .v (.tup (c.map q')))
  · apply g_name
    exact rfl
  · exact c_yes
  · exact in_pairs (d := g c) hg (by simpa using hl) fun env h8 => pair_items hb env h8 c
theorem said_run (hd : DrawAt (f.fn 12)) (hs : SameOk 3 (f.fn 15)) {w : MC.W} (h9 : T9 f w) {P : Int × Int × Int} (hp : Pol X n P) {cls : List (List (List Int))} (hS : Small cls) (b : Nat) : ∃ P', i_law_said.run (tb.glo f) b [.cell n, mObj w, encG cls, .bl (judged w cls)] X = .ok (.v (.bl true)) (stp X n P') := by
  rw [run_F rfl]
  obtain ⟨form, P1, hf, e1⟩ := draw_x hd hp X.length 3 (by decide) (by decide)
  refine ⟨P1, ?_⟩
  have hlen : ∀ (g : List (List Int) → D), (cls.map g).length ≤ 100000 := fun g => by
    have := hS.1
    simp only [List.length_map]
    omega
  have hlc : ∀ c ∈ cls, c.length ≤ 100000 := fun c hc => by
    have := (hS.2 c hc).1
    omega
  generalize hX1 : stp X n P1 = X1 at *
  have hl1 : X1.length = X.length := by rw [← hX1]; simp
  -- the last look
  have fin : ∀ (H : D) (k : Bool) (g : List (List Int) → D) (k' : Bool) (q : List Int → D), frzSeq H = some (k, cls.map g) → (∀ c, frzSeq (g c) = some (k', c.map q)) → (∀ a (s : Store), ∃ r : R, r.d = eP a ∧ bltR .tuple [q a] s = some r) → GCs H cls →
      xSs (tb.glo f) X.length (.cons (.ifs (.not (.e (.call 15 (.cons (.call 9 (.cons (.var 1) (.cons (.var 5) .nil))) (.cons (.var 3) .nil))))) (.cons (.ret (.bl false)) .nil) .nil) (.cons (.ret (.call 15 (.cons (lcC1 (.blt .tuple (.cons (lcP .tuple) .nil)) 5) (.cons (.var 2) .nil)))) .nil)) [some (.cell n), some (mObj w), some (encG cls), some (.bl (judged w cls)), some (.int (form : Nat)), some H, none, none] X1 =
        .ok (.ret (.v (.bl true)), [some (.cell n), some (mObj w), some (encG cls), some (.bl (judged w cls)), some (.int (form : Nat)), some H, none, none]) X1 := fun H k g k' q hH hg hq hG => by
    have c9 := callR_of (b := X.length) (s := X1) (xs := [mObj w, H]) (by simp [cbs, m_cb, hG.1]) (h9 hG)
    have s1 := same_c (X := X1) hs X.length (d := .bl (judged w cls)) rfl
    have s2 := same_c (X := X1) hs X.length (encG_plain hS)
    have lc := lc_mapg (f := g) (h := eT) (g := itemF (tb.glo f) X.length [("clause", 6)] (.name 6) .yes (.blt .tuple (.cons (lcP .tuple) .nil)) [some (.cell n), some (mObj w), some (encG cls), some (.bl (judged w cls)), some (.int (form : Nat)), some H, none, none]) (s := X1) cls fun c hc => it_pairs (hg c) (hlc c hc) hq rfl
    apply ss_nx
    · (exists c9, s1)
    apply ss_ret
    apply s_ret
    apply e_call
    · apply es_cons
      · exact lc_env rfl hH (hlen g) lc
      · (exists rfl)
    · exact s2
  have qt : ∀ a (s : Store), ∃ r : R, r.d = eP a ∧ bltR .tuple [eP a] s = some r := fun a s => ⟨.v (eP a), rfl, rfl⟩
  have ql : ∀ a (s : Store), ∃ r : R, r.d = eP a ∧ bltR .tuple [ePL a] s = some r := fun a s => ⟨.v (eP a), rfl, rfl⟩
  have qm : ∀ a (s : Store), ∃ r : R, r.d = ePL a ∧ bltR .list [eP a] s = some r := fun a s => ⟨.n (.lst (encI a)), rfl, rfl⟩
  -- the first form
  have lc0 := lc_mapg (f := eT) (h := eT) (g := itemF (tb.glo f) X.length [("clause", 6)] (.name 6) .yes (.blt .tuple (.cons (.var 6) .nil)) [some (.cell n), some (mObj w), some (encG cls), some (.bl (judged w cls)), some (.int (form : Nat)), none, none, none]) (s := X1) cls fun c hc => by
    apply b_lcB (r := .v (eT c))
    · apply g_name
      exact rfl
    · exact c_yes
    · (exists tup_t (c.map eP))
  have a0 : xE (tb.glo f) X.length (lcC1 (.blt .tuple (.cons (.var 6) .nil)) 2) [some (.cell n), some (mObj w), some (encG cls), some (.bl (judged w cls)), some (.int (form : Nat)), none, none, none] X1 = .ok (.n (.lst (cls.map eT))) X1 := lc_env rfl rfl (hlen eT) lc0
  have lc1 := lc_mapg (f := eT) (h := eTL) (g := itemF (tb.glo f) X.length [("clause", 6)] (.name 6) .yes (.blt .tuple (.cons (lcP .list) .nil)) [some (.cell n), some (mObj w), some (encG cls), some (.bl (judged w cls)), some (.int (form : Nat)), some (encG cls), none, none]) (s := X1) cls fun c hc => it_pairs (g := eT) (g' := eTL) (q := eP) (q' := ePL) (k := true) rfl (hlc c hc) qm rfl
  have a1 : xE (tb.glo f) X.length (lcC1 (.blt .tuple (.cons (lcP .list) .nil)) 2) [some (.cell n), some (mObj w), some (encG cls), some (.bl (judged w cls)), some (.int (form : Nat)), some (encG cls), none, none] X1 = .ok (.n (.lst (cls.map eTL))) X1 := lc_env rfl rfl (hlen eT) lc1
  have lc2 := lc_mapg (f := eT) (h := eL) (g := itemF (tb.glo f) X.length [("clause", 6)] (.name 6) .yes (.blt .list (.cons (.var 6) .nil)) [some (.cell n), some (mObj w), some (encG cls), some (.bl (judged w cls)), some (.int (form : Nat)), some (encG cls), none, none]) (s := X1) cls fun c hc => by
    apply b_lcB (r := .n (.lst (c.map eP)))
    · apply g_name
      exact rfl
    · exact c_yes
    · (exists lst_t (c.map eP))
  have a2 : xE (tb.glo f) X.length (lcC1 (.blt .list (.cons (.var 6) .nil)) 2) [some (.cell n), some (mObj w), some (encG cls), some (.bl (judged w cls)), some (.int (form : Nat)), some (encG cls), none, none] X1 = .ok (.n (.lst (cls.map eL))) X1 := lc_env rfl rfl (hlen eT) lc2
  apply run_ret (e' := [some (.cell n), some (mObj w), some (encG cls), some (.bl (judged w cls)), some (.int (form : Nat)), some (if form = 1 then encG1 cls else if form = 2 then encG2 cls else encG cls), none, none]) (r := .v (.bl true)) (s1 := X1) rfl
  · unfold i_law_said
    show xSs _ _ _ [some (.cell n), some (mObj w), some (encG cls), some (.bl (judged w cls)), none, none, none, none] _ = _
    apply ss_nx
    · (exists e1)
    apply ss_nx (e1 := [some (.cell n), some (mObj w), some (encG cls), some (.bl (judged w cls)), some (.int (form : Nat)), some (encG cls), none, none])
    · apply s_name'
      · exact a0
      · exact rfl
    have c : form = 0 ∨ form = 1 ∨ form = 2 := by omega
    rcases c with rfl | rfl | rfl
    · apply ss_nx
      · (exists dec0 (by decide))
      apply ss_nx
      · (exists dec0 (by decide))
      exact fin (encG cls) false eT true eP rfl (fun _ => rfl) qt (gcs0 cls)
    · apply ss_nx (e1 := [some (.cell n), some (mObj w), some (encG cls), some (.bl (judged w cls)), some (.int ((1 : Nat) : Int)), some (encG1 cls), none, none])
      · apply s_if1
        · (exists dec1 rfl)
        · apply ss_nx
          · apply s_name'
            · apply e_blt
              · apply es_cons
                · exact a1
                · exact es_nil
              · exact tup_l _
            · exact rfl
          · exact ss_nil
      apply ss_nx
      · (exists dec0 (by decide))
      exact fin (encG1 cls) true eTL true ePL rfl (fun _ => rfl) ql (gcs1 cls)
    · apply ss_nx
      · (exists dec0 (by decide))
      apply ss_nx (e1 := [some (.cell n), some (mObj w), some (encG cls), some (.bl (judged w cls)), some (.int ((2 : Nat) : Int)), some (encG2 cls), none, none])
      · apply s_if1
        · (exists dec1 rfl)
        · apply ss_nx
          · apply s_name'
            · exact a2
            · exact rfl
          · exact ss_nil
      exact fin (encG2 cls) false eL false eP rfl (fun _ => rfl) qt (gcs2 cls)
  · exact end_bl hl1
end K19

set_option Elab.async false
set_option linter.all false
set_option maxRecDepth 100000
set_option maxHeartbeats 1000000
namespace En
open PySem PySem.Spec PyProof.Rows L2
theorem rng_loop {f : D → En.Env → Store → Out (Ctl × En.Env)} {N : Nat} {Q : Nat → En.Env → Store → Prop} (st : ∀ k e S, k < N → Q k e S → ∃ e' S', f (.int (k : Nat)) e S = .ok (.nx, e') S' ∧ Q (k + 1) e' S') : ∀ (m k : Nat) (e : En.Env) (S : Store), k + m = N → Q k e S → ∃ e' S', forL f (rngL (k : Nat) m) e S = .ok (.nx, e') S' ∧ Q N e' S'
  | 0, k, e, S, h, q => ⟨e, S, rfl, by have : k = N := by omega
                                       exact this ▸ q⟩
  | m + 1, k, e, S, h, q => by
    obtain ⟨e1, S1, h1, q1⟩ := st k e S (by omega) q
    obtain ⟨e2, S2, h2, q2⟩ := rng_loop st m (k + 1) e1 S1 (by omega) q1
    exact ⟨e2, S2, forL_cons h1 h2, q2⟩
end En
namespace K19
open PySem PySem.Spec PyProof.Rows L2 En
open MC (isT allT inAll diffC short short1 shortL shortL1 clsFor clsStep rowsOf succs add1 addNew bfs okP okC toN judged inv)
variable {s X : Store} {f : Den} {n : Nat}
theorem draw_r (hd : DrawAt (f.fn 12)) {P : Int × Int × Int} (hn : n < X.length) (r : Store) (b top : Nat) (h0 : 0 < top) (h1 : top < 1000000000) : ∃ (l : Nat) (P' : Int × Int × Int), l < top ∧ callR (f.fn 12) b [.cell n, .int (top : Nat)] (stp X n P ++ r) = .ok (.v (.int (l : Nat))) (stp X n P' ++ r) := by
  obtain ⟨l, c', r', t', h2, e⟩ := draw_nx hd (s := X ++ r) (n := n) (by rw [List.length_append]; omega) b P.1 P.2.1 P.2.2 top (by omega) (by omega)
  rw [List.set_append_left _ _ hn, List.set_append_left _ _ hn] at e
  exact ⟨l, (c', r', t'), by omega, e⟩
def PickD (f : Den) : Prop := ∀ {X : Store} {n : Nat} {P : Int × Int × Int} (hn : n < X.length) (r : Store) (b : Nat) (row : List D), 0 < row.length → row.length < 1000000 → cbs 0 row = true → ∃ d P', d ∈ row ∧ callR (f.fn 13) b [.cell n, .lst row] (stp X n P ++ r) = .ok (.v d) (stp X n P' ++ r)
theorem pick_run' (hd : DrawAt (f.fn 12)) {P : Int × Int × Int} (hn : n < X.length) (r : Store) (b : Nat) (row : List D) (h0 : 0 < row.length) (h1 : row.length < 1000000) (hc : cbs 0 row = true) : ∃ d P', d ∈ row ∧ i_law_pick.run (tb.glo f) b [.cell n, .lst row] (stp X n P ++ r) = .ok (.v d) (stp X n P' ++ r) := by
  rw [run_F rfl]
  obtain ⟨d, c, rr, t, hm, e⟩ := pick_at (tb.glo f) (jd := 12) hd (s := X ++ r) (n := n) (by rw [List.length_append]; omega) P.1 P.2.1 P.2.2 (row := row) h0 (by omega) (cbs_iff.mpr fun d m => cb_mono (Nat.zero_le _) d (cbs_iff.mp hc d m))
  rw [List.set_append_left _ _ hn, List.set_append_left _ _ hn] at e
  exact ⟨d, (c, rr, t), hm, e⟩
theorem pick_n (hp : PickD f) {P : Int × Int × Int} (hn : n < X.length) (r : Store) (b : Nat) (row : List Nat) (h0 : 0 < row.length) (h1 : row.length < 1000000) : ∃ (l : Nat) (P' : Int × Int × Int), l ∈ row ∧ callR (f.fn 13) b [.cell n, .lst (wd row)] (stp X n P ++ r) = .ok (.v (.int (l : Nat))) (stp X n P' ++ r) := by
  obtain ⟨d, P', hm, e⟩ := hp hn r b (wd row) (by rw [wd_len]; exact h0) (by rw [wd_len]; exact h1) (wd_cb _ _)
  obtain ⟨l, hl, rfl⟩ := wd_mem hm
  exact ⟨l, P', hl, e⟩
theorem pick_x (hp : PickD f) {P : Int × Int × Int} (h : Pol X n P) (b : Nat) (row : List Nat) (h0 : 0 < row.length) (h1 : row.length < 1000000) : ∃ (l : Nat) (P' : Int × Int × Int), l ∈ row ∧ callR (f.fn 13) b [.cell n, .lst (wd row)] X = .ok (.v (.int (l : Nat))) (stp X n P') := by
  obtain ⟨l, P', h2, e⟩ := pick_n hp h.lt [] b row h0 h1 (P := P)
  simp only [List.append_nil, h.same] at e
  exact ⟨l, P', h2, e⟩
theorem sl {P : Int × Int × Int} : (stp X n P).length = X.length := by simp
theorem encC_snoc (c : List (Nat × Nat)) (p : Nat × Nat) : encC (c ++ [p]) = encC c ++ [encP p] := by simp [encC]
/-- a world is given, its rows from an own cell -/
theorem world_end {b : Nat} {I O B R : Nat} {rows : List (Nat × Nat)} (hb : X.length = b) : endR b (.ret (.n (.lst [.int (I : Nat), .int (O : Nat), .int (B : Nat), .int (R : Nat), .cell b]))) (X ++ [.lst (encC rows)]) = .ok (.n (.lst [.int (I : Nat), .int (O : Nat), .int (B : Nat), .int (R : Nat), .lst (encC rows)])) X := by
  have h1 : cbO b (.lst [.int (I : Nat), .int (O : Nat), .int (B : Nat), .int (R : Nat), .cell b]) = false := by simp [cbO, cbs, cb]
  have hc : (X ++ [En.O.lst (encC rows)])[b]? = some (.lst (encC rows)) := by subst hb; simp
  have hi : ∀ (k i : Nat), thD (X ++ [En.O.lst (encC rows)]) b k (.int (i : Nat)) = some (.int (i : Nat)) := fun k i => by cases k <;> rfl
  have hp : ∀ c : List (Nat × Nat), thL (thD (X ++ [En.O.lst (encC rows)]) b 7) (encC c) = some (encC c) := fun c => by
    induction c with
    | nil => rfl
    | cons p c ih =>
      show thL _ (encP p :: encC c) = _
      have : thD (X ++ [En.O.lst (encC rows)]) b 7 (encP p) = some (encP p) := rfl
      simp only [thL, this, Option.bind_some, ih, Option.map_some]
      rfl
  have h3 : thD (X ++ [En.O.lst (encC rows)]) b 8 (.cell b) = some (.lst (encC rows)) := by
    have : cb b (.cell b) = false := by simp [cb]
    rw [thD, this]
    simp only [Bool.false_eq_true, if_false, hc, hp, Option.map_some]
  simp only [endR, h1, Bool.false_eq_true, if_false, thO, thL, hi, h3, Option.bind_some, Option.map_some, take_app hb]
/-- a drawn world -/
def WorldOut (f : Den) (j : Nat) : Prop := ∀ {X : Store} {n : Nat} {P : Int × Int × Int}, Pol X n P → ∀ b : Nat, ∃ (w : MC.W) (P' : Int × Int × Int), MC.WOk w ∧ callR (f.fn j) b [.cell n] X = .ok (.n (.lst [.int (w.I : Nat), .int (w.O : Nat), .int (w.B : Nat), .int (w.R : Nat), .lst (encC w.rows)])) (stp X n P')
def maB : ISs := (.cons (.asg (.name 7) (.call 12 (.cons (.var 0) (.cons (.op .shl (.int 1) (.var 3)) .nil))))
    (.cons (.ifs (.and (.e (.cmp .gt (.var 4) (.int 0))) (.e (.cmp .gt (.call 12 (.cons (.var 0) (.cons (.int 5) .nil))) (.int 0)))) (.cons (.asg (.name 7) (.int 0))
    .nil) .nil)
    (.cons (.expr (.mt .append (.var 5) (.cons (.tup (.cons (.var 7) (.cons (.call 12 (.cons (.var 0) (.cons (.op .shl (.int 1) (.var 2)) .nil))) .nil))) .nil)))
    .nil)))
theorem machine_run (hd : DrawAt (f.fn 12)) (hp : PickD f) {P : Int × Int × Int} (hP : Pol X n P) (b : Nat) : ∃ (w : MC.W) (P' : Int × Int × Int), MC.WOk w ∧ i_law_machine.run (tb.glo f) b [.cell n] X = .ok (.n (.lst [.int (w.I : Nat), .int (w.O : Nat), .int (w.B : Nat), .int (w.R : Nat), .lst (encC w.rows)])) (stp X n P') := by
  rw [run_F rfl]
  have hn := hP.lt
  obtain ⟨I, P1, hI, e1⟩ := pick_x hp hP X.length [0, 1, 1, 2] (by decide) (by decide)
  obtain ⟨B, P2, hB, e2⟩ := pick_x hp (hP.set (P' := P1)) X.length [0, 1, 2, 2, 3, 3] (by decide) (by decide)
  rw [stp2] at e2
  obtain ⟨O, P3, hO, e3⟩ := pick_x hp (hP.set (P' := P2)) X.length [1, 1, 2, 0] (by decide) (by decide)
  rw [stp2] at e3
  obtain ⟨ra, P4, hra, e4⟩ := draw_x hd (hP.set (P' := P3)) X.length 3 (by decide) (by decide)
  rw [stp2] at e4
  have hI2 : I ≤ 2 := by
    simp only [List.mem_cons, List.not_mem_nil, or_false] at hI
    omega
  have hB2 : B ≤ 3 := by
    simp only [List.mem_cons, List.not_mem_nil, or_false] at hB
    omega
  have hO2 : O ≤ 2 := by
    simp only [List.mem_cons, List.not_mem_nil, or_false] at hO
    omega
  have pB : 2 ^ B ≤ 8 := pow_le (c := 3) hB2
  have pO : 2 ^ O ≤ 4 := pow_le (c := 2) hO2
  have pN : 2 ^ (B + I) ≤ 32 := pow_le (c := 5) (by omega)
  have tB := Nat.two_pow_pos B
  have tO := Nat.two_pow_pos O
  have shB : ∀ S : Store, opR .shl (.int 1) (.int (B : Nat)) S = some (.v (.int ((2 ^ B : Nat) : Int))) := fun S => shl1 B (by omega)
  have shO : ∀ S : Store, opR .shl (.int 1) (.int (O : Nat)) S = some (.v (.int ((2 ^ O : Nat) : Int))) := fun S => shl1 O (by omega)
  have gt : ∀ (x : Nat) (S : Store), cmpR (tb.glo f).gd .gt (.int (x : Nat)) (.int 0) S = some (decide (0 < x)) := fun x S => gt0 x
  obtain ⟨e', S', eL, P5, rows, x6, x7, rfl, rfl, hlen, hrows⟩ := rng_loop (f := bodyF (tb.glo f) X.length (.name 6) maB) (N := 2 ^ (B + I))
    (Q := fun k e S => ∃ (P : Int × Int × Int) (rows : List (Nat × Nat)) (x6 x7 : Option D), e = [some (.cell n), some (.int (I : Nat)), some (.int (B : Nat)), some (.int (O : Nat)), some (.int (ra : Nat)), some (.cell X.length), x6, x7] ∧ S = stp X n P ++ [.lst (encC rows)] ∧ rows.length = k ∧ ∀ p ∈ rows, p.1 < 2 ^ O ∧ p.2 < 2 ^ B)
    (fun k e S hk hq => by
      obtain ⟨P, rows, x6, x7, rfl, rfl, hl, hr⟩ := hq
      obtain ⟨sh, Q1, h1, d1⟩ := draw_r hd (P := P) hn [.lst (encC rows)] X.length (2 ^ O) tO (by omega)
      obtain ⟨fl, Q2, h2, d2⟩ := draw_r hd (P := Q1) hn [.lst (encC rows)] X.length 5 (by decide) (by decide)
      have app : ∀ (Q : Int × Int × Int) (p : Nat × Nat), mtR (tb.glo f).gd X.length .append (.cell X.length) [encP p] (stp X n Q ++ [.lst (encC rows)]) = .ok (.v .non) (stp X n Q ++ [.lst (encC (rows ++ [p]))]) := fun Q p => by
        rw [encC_snoc]
        exact app_own _ _ _ sl (Nat.le_refl _) (by simp only [encC, List.length_map]; omega)
      have il : ∀ (Q : Int × Int × Int), isLst (stp X n Q ++ [.lst (encC rows)]) (.cell X.length) = true := fun Q => isl_own _ _ sl
      have g1 := gt ra (stp X n Q1 ++ [.lst (encC rows)])
      have g2 := gt fl (stp X n Q2 ++ [.lst (encC rows)])
      have ok : ∀ (Q : Int × Int × Int) (x : Nat), x < 2 ^ O → (∃ e7, e7 = some (D.int (x : Nat))) → ∃ (t : Nat) (Q' : Int × Int × Int), t < 2 ^ B ∧ xSs (tb.glo f) X.length (.cons (.expr (.mt .append (.var 5) (.cons (.tup (.cons (.var 7) (.cons (.call 12 (.cons (.var 0) (.cons (.op .shl (.int 1) (.var 2)) .nil))) .nil))) .nil))) .nil) [some (.cell n), some (.int (I : Nat)), some (.int (B : Nat)), some (.int (O : Nat)), some (.int (ra : Nat)), some (.cell X.length), some (.int (k : Nat)), some (.int (x : Nat))] (stp X n Q ++ [.lst (encC rows)]) =
          .ok (.nx, [some (.cell n), some (.int (I : Nat)), some (.int (B : Nat)), some (.int (O : Nat)), some (.int (ra : Nat)), some (.cell X.length), some (.int (k : Nat)), some (.int (x : Nat))]) (stp X n Q' ++ [.lst (encC (rows ++ [(x, t)]))]) := fun Q x hx _ => by
        obtain ⟨t, Q', ht, dt⟩ := draw_r hd (P := Q) hn [.lst (encC rows)] X.length (2 ^ B) tB (by omega)
        refine ⟨t, Q', ht, ?_⟩
        (exists il _, shB _, dt, app Q' (x, t))
      have step : ∀ (Q : Int × Int × Int) (x : Nat), x < 2 ^ O → (∀ o, xSs (tb.glo f) X.length (.cons (.expr (.mt .append (.var 5) (.cons (.tup (.cons (.var 7) (.cons (.call 12 (.cons (.var 0) (.cons (.op .shl (.int 1) (.var 2)) .nil))) .nil))) .nil))) .nil) [some (.cell n), some (.int (I : Nat)), some (.int (B : Nat)), some (.int (O : Nat)), some (.int (ra : Nat)), some (.cell X.length), some (.int (k : Nat)), some (.int (x : Nat))] (stp X n Q ++ [.lst (encC rows)]) = o → bodyF (tb.glo f) X.length (.name 6) maB (.int (k : Nat)) [some (.cell n), some (.int (I : Nat)), some (.int (B : Nat)), some (.int (O : Nat)), some (.int (ra : Nat)), some (.cell X.length), x6, x7] (stp X n P ++ [.lst (encC rows)]) = o) →
          ∃ e' S', bodyF (tb.glo f) X.length (.name 6) maB (.int (k : Nat)) [some (.cell n), some (.int (I : Nat)), some (.int (B : Nat)), some (.int (O : Nat)), some (.int (ra : Nat)), some (.cell X.length), x6, x7] (stp X n P ++ [.lst (encC rows)]) = .ok (.nx, e') S' ∧
            ∃ (P : Int × Int × Int) (rows : List (Nat × Nat)) (x6 x7 : Option D), e' = [some (.cell n), some (.int (I : Nat)), some (.int (B : Nat)), some (.int (O : Nat)), some (.int (ra : Nat)), some (.cell X.length), x6, x7] ∧ S' = stp X n P ++ [.lst (encC rows)] ∧ rows.length = k + 1 ∧ ∀ p ∈ rows, p.1 < 2 ^ O ∧ p.2 < 2 ^ B := fun Q x hx st => by
        obtain ⟨t, Q', ht, ex⟩ := ok Q x hx ⟨_, rfl⟩
        refine ⟨_, _, st _ ex, Q', rows ++ [(x, t)], _, _, rfl, rfl, by simp [hl], fun p m => ?_⟩
        rcases List.mem_append.mp m with m | m
        · exact hr p m
        · rw [List.mem_singleton.mp m]
          exact ⟨hx, ht⟩
      by_cases k1 : 0 < ra
      · rw [decide_eq_true k1] at g1
        by_cases k2 : 0 < fl
        · rw [decide_eq_true k2] at g2
          refine step Q2 0 tO fun o ho => ?_
          unfold maB
          apply b_forB
          · (exists rfl)
          apply ss_nx
          · (exists shO _, d1)
          apply ss_nx
          · (exists g1, d2, g2)
          · exact ho
        · rw [decide_eq_false k2] at g2
          refine step Q2 sh h1 fun o ho => ?_
          unfold maB
          apply b_forB
          · (exists rfl)
          apply ss_nx
          · (exists shO _, d1)
          apply ss_nx
          · (exists g1, d2, g2)
          · exact ho
      · rw [decide_eq_false k1] at g1
        refine step Q1 sh h1 fun o ho => ?_
        unfold maB
        apply b_forB
        · (exists rfl)
        apply ss_nx
        · (exists shO _, d1)
        apply ss_nx
        · (exists g1)
        · exact ho) (2 ^ (B + I)) 0 [some (.cell n), some (.int (I : Nat)), some (.int (B : Nat)), some (.int (O : Nat)), some (.int (ra : Nat)), some (.cell X.length), none, none] (stp X n P4 ++ [.lst (encC [])]) (by omega) ⟨P4, [], none, none, rfl, rfl, rfl, by simp⟩
  obtain ⟨R, P6, hR, e6⟩ := draw_r hd (P := P5) hn [.lst (encC rows)] X.length (2 ^ B) tB (by omega)
  refine ⟨⟨I, O, B, R, rows⟩, P6, ⟨by show I ≤ 4; omega, by show O ≤ 24; omega, by show B ≤ 8; omega, by show B + 2 * I ≤ 12; omega, hR, hlen, hrows⟩, ?_⟩
  have adI := add_nat (s := stp X n P4 ++ [.lst (encC [])]) B I
  have shN := shl1 (s := stp X n P4 ++ [.lst (encC [])]) (B + I) (by omega)
  have h18 : 2 ^ (B + I) < 1000000000000000000 := by omega
  apply run_of rfl
  · unfold i_law_machine
    show xSs _ _ _ [some (.cell n), none, none, none, none, none, none, none] _ = _
    apply ss_nx
    · apply s_name'
      · apply e_call
        · (exists rfl)
        · exact e1
      · exact rfl
    apply ss_nx
    · apply s_name'
      · apply e_call
        · (exists rfl)
        · exact e2
      · exact rfl
    apply ss_nx
    · apply s_name'
      · apply e_call
        · (exists rfl)
        · exact e3
      · exact rfl
    apply ss_nx
    · (exists e4)
    apply ss_nx (e1 := [some (.cell n), some (.int (I : Nat)), some (.int (B : Nat)), some (.int (O : Nat)), some (.int (ra : Nat)), some (.cell X.length), none, none]) (s1 := stp X n P4 ++ [.lst (encC [])])
    · apply s_name'
      · apply e_mu
        (exists rfl)
      · rw [sl]
        exact rfl
    apply ss_nx
    · apply s_forB
      · apply i_rng1
        · (exists adI, shN)
        · exact rfl
        · exact h18
      · exact eL
    · (exists shB _, e6)
  · exact world_end sl
end K19

set_option Elab.async false
set_option linter.all false
set_option maxRecDepth 100000
set_option maxHeartbeats 1000000
namespace K19
open PySem PySem.Spec PyProof.Rows L2 En
open MC (isT allT inAll diffC short short1 shortL shortL1 clsFor clsStep rowsOf succs add1 addNew bfs okP okC toN judged inv)
variable {s X : Store} {f : Den} {n : Nat}
theorem mod_nat {a m : Nat} (h : 0 < m) : opR .mod (.int (a : Nat)) (.int (m : Nat)) s = some (.v (.int ((a % m : Nat) : Int))) := by
  rw [mod_op _ (by omega), Int.fmod_eq_emod_of_nonneg _ (by omega)]
  rfl
theorem int1_int (i : Int) : bltR .int1 [.int i] s = some (.v (.int i)) := rfl
theorem app_row {G : Glo} (Q : Int × Int × Int) (rows : List (Nat × Nat)) (p : Nat × Nat) (hl : rows.length < 50000) : mtR G.gd X.length .append (.cell X.length) [encP p] (stp X n Q ++ [.lst (encC rows)]) = .ok (.v .non) (stp X n Q ++ [.lst (encC (rows ++ [p]))]) := by
  rw [encC_snoc]
  exact app_own _ _ _ sl (Nat.le_refl _) (by simp only [encC, List.length_map]; omega)
theorem isl_row (Q : Int × Int × Int) (rows : List (Nat × Nat)) : isLst (stp X n Q ++ [.lst (encC rows)]) (.cell X.length) = true := isl_own _ _ sl
def coI : ISs := (.cons (.asg (.name 10) (.op .mod (.blt .int1 (.cons (.op .add (.op .add (.op .mul (.var 8) (.ix (.lst (.cons (.var 6) (.cons (.int 1) .nil))) (.blt .int1 (.cons (.cmp .eq (.var 9) (.int 0)) .nil)))) (.var 4)) (.op .mul (.var 5) (.var 9))) .nil)) (.var 3)))
    (.cons (.expr (.mt .append (.var 7) (.cons (.tup (.cons (.op .mod (.blt .int1 (.cons (.op .add (.op .add (.op .mul (.var 8) (.int 70001)) (.op .mul (.var 9) (.int 1299709))) (.var 4)) .nil)) (.op .shl (.int 1) (.int 24))) (.cons (.var 10) .nil))) .nil)))
    .nil))
def coO : ISs := (.cons (.for_ (.name 9) (.rng1 (.op .shl (.int 1) (.var 1))) coI) .nil)
theorem co_turn {G : Glo} {Q : Int × Int × Int} {rows : List (Nat × Nat)} {e0 e1 e2 e9 e10 : Option D} {m st ot ti k j : Nat} (hm : 0 < m) (hk : k < 1000) (hj : j < 1000) (hti : ti < 1000) (hl : rows.length < 50000) : ∃ p : Nat × Nat, p.1 < 2 ^ 24 ∧ p.2 < m ∧
    bodyF G X.length (.name 9) coI (.int (j : Nat)) [e0, e1, e2, some (.int (m : Nat)), some (.int (st : Nat)), some (.int (ot : Nat)), some (.int (ti : Nat)), some (.cell X.length), some (.int (k : Nat)), e9, e10] (stp X n Q ++ [.lst (encC rows)]) =
      .ok (.nx, [e0, e1, e2, some (.int (m : Nat)), some (.int (st : Nat)), some (.int (ot : Nat)), some (.int (ti : Nat)), some (.cell X.length), some (.int (k : Nat)), some (.int (j : Nat)), some (.int (p.2 : Nat))]) (stp X n Q ++ [.lst (encC (rows ++ [p]))]) := by
  obtain ⟨tt, htt, hix⟩ : ∃ tt : Nat, tt < 1000 ∧ ixR G.gd (.lst [.int (ti : Nat), .int 1]) (.int ((decide (j = 0)).toNat : Nat)) (stp X n Q ++ [.lst (encC rows)]) = some (.v (.int (tt : Nat))) := by
    by_cases h : j = 0
    · exact ⟨1, by decide, by rw [decide_eq_true h]; rfl⟩
    · exact ⟨ti, hti, by rw [decide_eq_false h]; rfl⟩
  have e0' := eq0 (s := stp X n Q ++ [.lst (encC rows)]) (gd := G.gd) j
  have m1 := mul_nat (s := stp X n Q ++ [.lst (encC rows)]) k tt hk
  have a1 := add_nat (s := stp X n Q ++ [.lst (encC rows)]) (k * tt) st
  have m2 := mul_natr (s := stp X n Q ++ [.lst (encC rows)]) ot j hj
  have a2 := add_nat (s := stp X n Q ++ [.lst (encC rows)]) (k * tt + st) (ot * j)
  have md := mod_nat (s := stp X n Q ++ [.lst (encC rows)]) (a := k * tt + st + ot * j) hm
  have m3 := mul_nat (s := stp X n Q ++ [.lst (encC rows)]) k 70001 hk
  have m4 := mul_nat (s := stp X n Q ++ [.lst (encC rows)]) j 1299709 hj
  have a3 := add_nat (s := stp X n Q ++ [.lst (encC rows)]) (k * 70001) (j * 1299709)
  have a4 := add_nat (s := stp X n Q ++ [.lst (encC rows)]) (k * 70001 + j * 1299709) st
  have sh := shl1 (s := stp X n Q ++ [.lst (encC rows)]) 24 (by decide)
  have md2 := mod_nat (s := stp X n Q ++ [.lst (encC rows)]) (a := k * 70001 + j * 1299709 + st) (m := 2 ^ 24) (by decide)
  generalize hx : (k * tt + st + ot * j) % m = x at md
  generalize hy : (k * 70001 + j * 1299709 + st) % 2 ^ 24 = y at md2
  have hxm : x < m := by rw [← hx]; exact Nat.mod_lt _ hm
  have hy2 : y < 2 ^ 24 := by rw [← hy]; exact Nat.mod_lt _ (by decide)
  refine ⟨(y, x), hy2, hxm, ?_⟩
  unfold coI
  apply b_forB
  · (exists rfl)
  apply ss_nx
  · apply s_name'
    · apply e_op
      · apply e_blt
        · apply es_cons
          · apply e_op
            · apply e_op
              · apply e_op
                · (exists rfl)
                · apply e_ix
                  · (exists rfl)
                  · apply e_blt
                    · apply es_cons
                      · apply e_cmp
                        · (exists rfl)
                        · (exists rfl)
                        · exact e0'
                      · exact es_nil
                    · exact int1_nat _
                  · exact hix
                · exact m1
              · (exists rfl)
              · exact a1
            · apply e_op
              · (exists rfl)
              · (exists rfl)
              · exact m2
            · exact a2
          · exact es_nil
        · exact int1_int _
      · (exists rfl)
      · exact md
    · exact rfl
  apply ss_nx
  · apply s_expr
    apply e_mt
    · (exists rfl)
    · exact isl_row Q rows
    · apply es_cons
      · apply e_tup
        · apply es_cons
          · apply e_op
            · apply e_blt
              · apply es_cons
                · apply e_op
                  · apply e_op
                    · apply e_op
                      · (exists rfl)
                      · (exists rfl)
                      · exact m3
                    · apply e_op
                      · (exists rfl)
                      · (exists rfl)
                      · exact m4
                    · exact a3
                  · (exists rfl)
                  · exact a4
                · exact es_nil
              · exact int1_int _
            · apply e_op
              · (exists rfl)
              · (exists rfl)
              · exact sh
            · exact md2
          · (exists rfl)
        · exact Nat.le_of_ble_eq_true rfl
      · exact es_nil
    · exact app_row Q rows (y, x) hl
  · exact ss_nil
/-- the shapes of counters -/
def shapes : List (Nat × Nat) := [(0, 8), (1, 8), (2, 8), (0, 7), (2, 6), (3, 6), (4, 4), (4, 2)]
theorem shapes_ok : ∀ p ∈ shapes, p.1 ≤ 4 ∧ p.2 ≤ 8 ∧ p.2 + 2 * p.1 ≤ 12 ∧ p.2 + p.1 ≤ 10 := by decide
theorem counter_run (hd : DrawAt (f.fn 12)) (hp : PickD f) {P : Int × Int × Int} (hP : Pol X n P) (b : Nat) : ∃ (w : MC.W) (P' : Int × Int × Int), MC.WOk w ∧ i_law_counter.run (tb.glo f) b [.cell n] X = .ok (.n (.lst [.int (w.I : Nat), .int (w.O : Nat), .int (w.B : Nat), .int (w.R : Nat), .lst (encC w.rows)])) (stp X n P') := by
  rw [run_F rfl]
  have hn := hP.lt
  obtain ⟨d, P1, hdm, e1⟩ := hp hn [] X.length (encC shapes) (P := P) (by decide) (by decide) (encC_cb _ _)
  simp only [List.append_nil, hP.same] at e1
  obtain ⟨⟨I, B⟩, hsh, rfl⟩ := List.mem_map.mp hdm
  obtain ⟨hI, hB, hJ, hBI⟩ := shapes_ok _ hsh
  simp only at hI hB hJ hBI
  have pB : 2 ^ B ≤ 256 := pow_le hB
  have pI : 2 ^ I ≤ 16 := pow_le (c := 4) hI
  have pN : 2 ^ (B + I) ≤ 1024 := pow_le (c := 10) hBI
  have tB := Nat.two_pow_pos B
  have tI := Nat.two_pow_pos I
  obtain ⟨st, P2, hst, e2⟩ := draw_x hd (hP.set (P' := P1)) X.length (2 ^ B) tB (by omega)
  rw [stp2] at e2
  obtain ⟨ot, P3, hot, e3⟩ := draw_x hd (hP.set (P' := P2)) X.length (2 ^ B) tB (by omega)
  rw [stp2] at e3
  obtain ⟨ti, P4, hti, e4⟩ := pick_x hp (hP.set (P' := P3)) X.length [1, 1, 3, 2] (by decide) (by decide)
  rw [stp2] at e4
  have hti2 : ti < 1000 := by
    simp only [List.mem_cons, List.not_mem_nil, or_false] at hti
    omega
  have shB := shl1 (s := stp X n P1) B (by omega)
  have shI : ∀ S : Store, opR .shl (.int 1) (.int (I : Nat)) S = some (.v (.int ((2 ^ I : Nat) : Int))) := fun S => shl1 I (by omega)
  have hB18 : 2 ^ B < 1000000000000000000 := by omega
  have hI18 : 2 ^ I < 1000000000000000000 := by omega
  obtain ⟨e', S', eL, rows, x8, x9, x10, rfl, rfl, hlen, hrows⟩ := rng_loop (f := bodyF (tb.glo f) X.length (.name 8) coO) (N := 2 ^ B)
    (Q := fun k e S => ∃ (rows : List (Nat × Nat)) (x8 x9 x10 : Option D), e = [some (.cell n), some (.int (I : Nat)), some (.int (B : Nat)), some (.int ((2 ^ B : Nat) : Int)), some (.int (st : Nat)), some (.int (ot : Nat)), some (.int (ti : Nat)), some (.cell X.length), x8, x9, x10] ∧ S = stp X n P4 ++ [.lst (encC rows)] ∧ rows.length = k * 2 ^ I ∧ ∀ p ∈ rows, p.1 < 2 ^ 24 ∧ p.2 < 2 ^ B)
    (fun k e S hk hq => by
      obtain ⟨rows, x8, x9, x10, rfl, rfl, hl, hr⟩ := hq
      obtain ⟨e', S', eL, rows2, y9, y10, rfl, rfl, hlen, hrows⟩ := rng_loop (f := bodyF (tb.glo f) X.length (.name 9) coI) (N := 2 ^ I)
        (Q := fun j e S => ∃ (rows : List (Nat × Nat)) (x9 x10 : Option D), e = [some (.cell n), some (.int (I : Nat)), some (.int (B : Nat)), some (.int ((2 ^ B : Nat) : Int)), some (.int (st : Nat)), some (.int (ot : Nat)), some (.int (ti : Nat)), some (.cell X.length), some (.int (k : Nat)), x9, x10] ∧ S = stp X n P4 ++ [.lst (encC rows)] ∧ rows.length = k * 2 ^ I + j ∧ ∀ p ∈ rows, p.1 < 2 ^ 24 ∧ p.2 < 2 ^ B)
        (fun j e S hj hq => by
          obtain ⟨rows, x9, x10, rfl, rfl, hl, hr⟩ := hq
          have hk2 : k * 2 ^ I ≤ 256 * 16 := Nat.mul_le_mul (by omega) pI
          obtain ⟨p, h1, h2, ex⟩ := co_turn (G := tb.glo f) (X := X) (n := n) (Q := P4) (rows := rows) (e0 := some (.cell n)) (e1 := some (.int (I : Nat))) (e2 := some (.int (B : Nat))) (e9 := x9) (e10 := x10) (m := 2 ^ B) (st := st) (ot := ot) (ti := ti) (k := k) (j := j) tB (by omega) (by omega) hti2 (by omega)
          refine ⟨_, _, ex, rows ++ [p], _, _, rfl, rfl, by simp [hl]; omega, fun q m => ?_⟩
          rcases List.mem_append.mp m with m | m
          · exact hr q m
          · rw [List.mem_singleton.mp m]
            exact ⟨h1, h2⟩) (2 ^ I) 0 [some (.cell n), some (.int (I : Nat)), some (.int (B : Nat)), some (.int ((2 ^ B : Nat) : Int)), some (.int (st : Nat)), some (.int (ot : Nat)), some (.int (ti : Nat)), some (.cell X.length), some (.int (k : Nat)), x9, x10] (stp X n P4 ++ [.lst (encC rows)]) (by omega) ⟨rows, x9, x10, rfl, rfl, by omega, hr⟩
      refine ⟨_, _, ?_, rows2, some (.int (k : Nat)), y9, y10, rfl, rfl, by rw [hlen, Nat.succ_mul], hrows⟩
      unfold coO
      apply b_forB
      · (exists rfl)
      apply ss_nx
      · apply s_forB
        · apply i_rng1
          · (exists shI _)
          · exact rfl
          · exact hI18
        · exact eL
      · exact ss_nil) (2 ^ B) 0 [some (.cell n), some (.int (I : Nat)), some (.int (B : Nat)), some (.int ((2 ^ B : Nat) : Int)), some (.int (st : Nat)), some (.int (ot : Nat)), some (.int (ti : Nat)), some (.cell X.length), none, none, none] (stp X n P4 ++ [.lst (encC [])]) (by omega) ⟨[], none, none, none, rfl, rfl, by simp, by simp⟩
  obtain ⟨R, P6, hR, e6⟩ := draw_r hd (P := P4) hn [.lst (encC rows)] X.length (2 ^ B) tB (by omega)
  refine ⟨⟨I, 24, B, R, rows⟩, P6, ⟨hI, by show 24 ≤ 24; omega, hB, hJ, hR, by rw [hlen, Nat.pow_add], hrows⟩, ?_⟩
  apply run_of rfl
  · unfold i_law_counter
    show xSs _ _ _ [some (.cell n), none, none, none, none, none, none, none, none, none, none] _ = _
    apply ss_nx (e1 := [some (.cell n), some (.int (I : Nat)), some (.int (B : Nat)), none, none, none, none, none, none, none, none]) (s1 := stp X n P1)
    · apply s_tup (r := .v (encP (I, B)))
      · apply e_call
        · (exists rfl)
        · exact e1
      · exact .inl rfl
      · (exists rfl)
    apply ss_nx
    · (exists shB)
    apply ss_nx
    · (exists e2)
    apply ss_nx
    · (exists e3)
    apply ss_nx
    · apply s_name'
      · apply e_call
        · (exists rfl)
        · exact e4
      · exact rfl
    apply ss_nx (e1 := [some (.cell n), some (.int (I : Nat)), some (.int (B : Nat)), some (.int ((2 ^ B : Nat) : Int)), some (.int (st : Nat)), some (.int (ot : Nat)), some (.int (ti : Nat)), some (.cell X.length), none, none, none]) (s1 := stp X n P4 ++ [.lst (encC [])])
    · apply s_name'
      · apply e_mu
        (exists rfl)
      · rw [sl]
        exact rfl
    apply ss_nx
    · apply s_forB
      · apply i_rng1
        · (exists rfl)
        · exact rfl
        · exact hB18
      · exact eL
    · (exists e6)
  · exact world_end sl
end K19

set_option Elab.async false
set_option linter.all false
set_option maxRecDepth 100000
set_option maxHeartbeats 1000000
namespace En
open PySem PySem.Spec PyProof.Rows L2
theorem lcr_loop {g : D → Store → Out (List D)} {N : Nat} {Q : Nat → List D → Store → Prop} (st : ∀ k acc S, k < N → Q k acc S → ∃ x S', g (.int (k : Nat)) S = .ok x S' ∧ Q (k + 1) (acc ++ x) S') : ∀ (m k : Nat) (acc : List D) (S : Store), k + m = N → Q k acc S → ∃ r S', lcL g (rngL (k : Nat) m) S = .ok r S' ∧ Q N (acc ++ r) S'
  | 0, k, acc, S, h, q => ⟨[], S, rfl, by have : k = N := by omega
                                          rw [List.append_nil]
                                          exact this ▸ q⟩
  | m + 1, k, acc, S, h, q => by
    obtain ⟨x, S1, h1, q1⟩ := st k acc S (by omega) q
    obtain ⟨r, S2, h2, q2⟩ := lcr_loop st m (k + 1) (acc ++ x) S1 (by omega) q1
    refine ⟨x ++ r, S2, lcL_cons h1 h2, ?_⟩
    rw [← List.append_assoc]
    exact q2
end En
namespace K19
open PySem PySem.Spec PyProof.Rows L2 En
open MC (isT allT inAll diffC short short1 shortL shortL1 clsFor clsStep rowsOf succs add1 addNew bfs okP okC toN judged inv)
variable {s X : Store} {f : Den} {n : Nat}
/-- drawn numbers in a comprehension -/
theorem lc_draws (hd : DrawAt (f.fn 12)) {P : Int × Int × Int} (hn : n < X.length) {G : Glo} (hG : G.fn 12 = f.fn 12) {own : List (Str × Nat)} {g : IG} {x : IE} {e : En.Env} {b top N : Nat} (h0 : 0 < top) (h1 : top < 1000000000)
    (it : ∀ (k : Nat) (S S' : Store) (l : Nat), callR (f.fn 12) b [.cell n, .int (top : Nat)] S = .ok (.v (.int (l : Nat))) S' → itemF G b own g .yes x e (.int (k : Nat)) S = .ok [.int (l : Nat)] S') : ∃ (ls : List Nat) (P' : Int × Int × Int), ls.length = N ∧ (∀ l ∈ ls, l < top) ∧ lcL (itemF G b own g .yes x e) (rngL 0 N) (stp X n P) = .ok (wd ls) (stp X n P') := by
  obtain ⟨r, S', e1, ls, P', hr, hl, hm, hS⟩ := lcr_loop (g := itemF G b own g .yes x e) (N := N)
    (Q := fun k acc S => ∃ (ls : List Nat) (P' : Int × Int × Int), acc = wd ls ∧ ls.length = k ∧ (∀ l ∈ ls, l < top) ∧ S = stp X n P')
    (fun k acc S hk hq => by
      obtain ⟨ls, P', rfl, hl, hm, rfl⟩ := hq
      obtain ⟨l, P2, hl2, e2⟩ := draw_r hd (P := P') hn [] b top h0 h1
      simp only [List.append_nil] at e2
      refine ⟨_, _, it k _ _ l e2, ls ++ [l], P2, by rw [wd_snoc], by simp [hl], fun a m => ?_, rfl⟩
      rcases List.mem_append.mp m with m | m
      · exact hm a m
      · rw [List.mem_singleton.mp m]
        exact hl2) N 0 [] (stp X n P) (by omega) ⟨[], P, rfl, rfl, by simp, rfl⟩
  rw [List.nil_append] at hr
  subst hr hS
  exact ⟨ls, P', hl, hm, e1⟩
def loI : ISs := (.cons (.asg (.name 7) (.call 13 (.cons (.var 0) (.cons (.var 3) .nil))))
    (.cons (.ifs (.and (.e (.cmp .notIn (.var 5) (.var 3))) (.e (.cmp .eq (.call 12 (.cons (.var 0) (.cons (.int 2) .nil))) (.int 1)))) (.cons (.asg (.name 7) (.call 12 (.cons (.var 0) (.cons (.op .shl (.int 1) (.var 2)) .nil))))
    .nil) .nil)
    (.cons (.expr (.mt .append (.var 4) (.cons (.tup (.cons (.int 0) (.cons (.var 7) .nil))) .nil)))
    .nil)))
def loO : ISs := (.cons (.for_ (.name 6) (.rng1 (.op .shl (.int 1) (.var 1))) loI) .nil)
theorem lo_turn (hd : DrawAt (f.fn 12)) (hp : PickD f) {P : Int × Int × Int} (hn : n < X.length) {rows : List (Nat × Nat)} {home : List Nat} {I B k j : Nat} {x6 x7 x8 : Option D} (h0 : 0 < home.length) (hh : home.length < 100) (hB : B ≤ 8) (hm : ∀ l ∈ home, l < 2 ^ B) (hl : rows.length < 50000) : ∃ (t : Nat) (Q : Int × Int × Int) (x7' : Option D), t < 2 ^ B ∧
    bodyF (tb.glo f) X.length (.name 6) loI (.int (j : Nat)) [some (.cell n), some (.int (I : Nat)), some (.int (B : Nat)), some (.lst (wd home)), some (.cell X.length), some (.int (k : Nat)), x6, x7, x8] (stp X n P ++ [.lst (encC rows)]) =
      .ok (.nx, [some (.cell n), some (.int (I : Nat)), some (.int (B : Nat)), some (.lst (wd home)), some (.cell X.length), some (.int (k : Nat)), some (.int (j : Nat)), x7', x8]) (stp X n Q ++ [.lst (encC (rows ++ [(0, t)]))]) := by
  have pB : 2 ^ B ≤ 256 := pow_le hB
  have tB := Nat.two_pow_pos B
  obtain ⟨a, P1, ha, e1⟩ := pick_n hp hn (P := P) [.lst (encC rows)] X.length home h0 (by omega)
  obtain ⟨y, P2, hy, e2⟩ := draw_r hd hn (P := P1) [.lst (encC rows)] X.length 2 (by decide) (by decide)
  obtain ⟨z, P3, hz, e3⟩ := draw_r hd hn (P := P2) [.lst (encC rows)] X.length (2 ^ B) tB (by omega)
  have nn : ∀ S : Store, cmpR (tb.glo f).gd .notIn (.int (k : Nat)) (.lst (wd home)) S = some (decide (k ∉ home)) := fun S => nin_wd rfl k
  have shB : ∀ S : Store, opR .shl (.int 1) (.int (B : Nat)) S = some (.v (.int ((2 ^ B : Nat) : Int))) := fun S => shl1 B (by omega)
  have last : ∀ (Q : Int × Int × Int) (t : Nat), xSs (tb.glo f) X.length (.cons (.expr (.mt .append (.var 4) (.cons (.tup (.cons (.int 0) (.cons (.var 7) .nil))) .nil))) .nil) [some (.cell n), some (.int (I : Nat)), some (.int (B : Nat)), some (.lst (wd home)), some (.cell X.length), some (.int (k : Nat)), some (.int (j : Nat)), some (.int (t : Nat)), x8] (stp X n Q ++ [.lst (encC rows)]) =
      .ok (.nx, [some (.cell n), some (.int (I : Nat)), some (.int (B : Nat)), some (.lst (wd home)), some (.cell X.length), some (.int (k : Nat)), some (.int (j : Nat)), some (.int (t : Nat)), x8]) (stp X n Q ++ [.lst (encC (rows ++ [(0, t)]))]) := fun Q t => by
    (exists isl_row Q rows, app_row Q rows (0, t) hl)
  by_cases hk : k ∉ home
  · have n1 := fun S => (nn S).trans (dec1 hk)
    by_cases hy1 : y = 1
    · refine ⟨z, P3, some (.int (z : Nat)), hz, ?_⟩
      have c1 : cmpR (tb.glo f).gd .eq (.int (y : Nat)) (.int 1) (stp X n P2 ++ [.lst (encC rows)]) = some true := by subst hy1; exact En.eq_int _ _
      unfold loI
      apply b_forB
      · (exists rfl)
      apply ss_nx
      · (exists e1)
      apply ss_nx
      · (exists n1 _, e2, c1, shB _, e3)
      · exact last P3 z
    · refine ⟨a, P2, some (.int (a : Nat)), hm a ha, ?_⟩
      have c1 : cmpR (tb.glo f).gd .eq (.int (y : Nat)) (.int 1) (stp X n P2 ++ [.lst (encC rows)]) = some false := by
        rw [En.eq_int]
        exact dec0 (by omega)
      unfold loI
      apply b_forB
      · (exists rfl)
      apply ss_nx
      · (exists e1)
      apply ss_nx
      · (exists n1 _, e2, c1)
      · exact last P2 a
  · have n1 := fun S => (nn S).trans (dec0 hk)
    refine ⟨a, P1, some (.int (a : Nat)), hm a ha, ?_⟩
    unfold loI
    apply b_forB
    · (exists rfl)
    apply ss_nx
    · (exists e1)
    apply ss_nx
    · (exists n1 _)
    · exact last P1 a
theorem longer_run (hd : DrawAt (f.fn 12)) (hp : PickD f) (hC : WorldOut f 18) {P : Int × Int × Int} (hP : Pol X n P) (b : Nat) : ∃ (w : MC.W) (P' : Int × Int × Int), MC.WOk w ∧ i_law_longer.run (tb.glo f) b [.cell n] X = .ok (.n (.lst [.int (w.I : Nat), .int (w.O : Nat), .int (w.B : Nat), .int (w.R : Nat), .lst (encC w.rows)])) (stp X n P') := by
  rw [run_F rfl]
  have hn := hP.lt
  obtain ⟨c, P0, hc, e0⟩ := draw_x hd hP X.length 4 (by decide) (by decide)
  by_cases hc0 : c = 0
  · obtain ⟨w, P1, hw, e1⟩ := hC (hP.set (P' := P0)) X.length
    rw [stp2] at e1
    refine ⟨w, P1, hw, ?_⟩
    apply run_ret rfl
    · unfold i_law_longer
      show xSs _ _ _ [some (.cell n), none, none, none, none, none, none, none, none] _ = _
      apply ss_ret
      apply s_if1
      · (exists e0, dec1 (by omega))
      · apply ss_ret
        apply s_ret
        apply e_call
        · (exists rfl)
        · exact e1
    · exact end_n sl (by simp [cbO, cbs, cb, encC_cb])
  obtain ⟨I, P1, hI, e1⟩ := draw_x hd (hP.set (P' := P0)) X.length 2 (by decide) (by decide)
  rw [stp2] at e1
  obtain ⟨B', P2, hB', e2⟩ := draw_x hd (hP.set (P' := P1)) X.length 2 (by decide) (by decide)
  rw [stp2] at e2
  obtain ⟨m, P3, hm, e3⟩ := draw_x hd (hP.set (P' := P2)) X.length 6 (by decide) (by decide)
  rw [stp2] at e3
  have pB : 2 ^ (4 + B') ≤ 32 := pow_le (c := 5) (by omega)
  have pI : 2 ^ I ≤ 2 := pow_le (c := 1) (by omega)
  have tB := Nat.two_pow_pos (4 + B')
  have tI := Nat.two_pow_pos I
  have shB : ∀ S : Store, opR .shl (.int 1) (.int ((4 + B' : Nat) : Int)) S = some (.v (.int ((2 ^ (4 + B') : Nat) : Int))) := fun S => shl1 (4 + B') (by omega)
  have shI : ∀ S : Store, opR .shl (.int 1) (.int (I : Nat)) S = some (.v (.int ((2 ^ I : Nat) : Int))) := fun S => shl1 I (by omega)
  obtain ⟨home, P4, hhl, hhm, e4⟩ := lc_draws hd (P := P3) hn (G := tb.glo f) rfl (own := [("k", 8)]) (g := .name 8) (x := .call 12 (.cons (.var 0) (.cons (.op .shl (.int 1) (.var 2)) .nil))) (e := [some (.cell n), some (.int (I : Nat)), some (.int ((4 + B' : Nat) : Int)), none, none, none, none, none, none]) (b := X.length) (top := 2 ^ (4 + B')) (N := 1 + m) tB (by omega) (fun k S S' l h => by
    apply b_lcB (r := .v (.int (l : Nat)))
    · apply g_name
      exact rfl
    · exact c_yes
    · (exists shB _, h))
  obtain ⟨e', S', eL, P5, rows, x5, x6, x7, rfl, rfl, hlen, hrows⟩ := rng_loop (f := bodyF (tb.glo f) X.length (.name 5) loO) (N := 2 ^ (4 + B'))
    (Q := fun k e S => ∃ (Q : Int × Int × Int) (rows : List (Nat × Nat)) (x5 x6 x7 : Option D), e = [some (.cell n), some (.int (I : Nat)), some (.int ((4 + B' : Nat) : Int)), some (.lst (wd home)), some (.cell X.length), x5, x6, x7, none] ∧ S = stp X n Q ++ [.lst (encC rows)] ∧ rows.length = k * 2 ^ I ∧ ∀ p ∈ rows, p.1 < 2 ^ 1 ∧ p.2 < 2 ^ (4 + B'))
    (fun k e S hk hq => by
      obtain ⟨Q, rows, x5, x6, x7, rfl, rfl, hl, hr⟩ := hq
      obtain ⟨e', S', eL, Q2, rows2, y6, y7, rfl, rfl, hlen, hrows⟩ := rng_loop (f := bodyF (tb.glo f) X.length (.name 6) loI) (N := 2 ^ I)
        (Q := fun j e S => ∃ (Q : Int × Int × Int) (rows : List (Nat × Nat)) (x6 x7 : Option D), e = [some (.cell n), some (.int (I : Nat)), some (.int ((4 + B' : Nat) : Int)), some (.lst (wd home)), some (.cell X.length), some (.int (k : Nat)), x6, x7, none] ∧ S = stp X n Q ++ [.lst (encC rows)] ∧ rows.length = k * 2 ^ I + j ∧ ∀ p ∈ rows, p.1 < 2 ^ 1 ∧ p.2 < 2 ^ (4 + B'))
        (fun j e S hj hq => by
          obtain ⟨Q, rows, x6, x7, rfl, rfl, hl, hr⟩ := hq
          have hk2 : k * 2 ^ I ≤ 32 * 2 := Nat.mul_le_mul (by omega) pI
          obtain ⟨t, Q', y7, ht, ex⟩ := lo_turn hd hp (P := Q) hn (rows := rows) (home := home) (I := I) (B := 4 + B') (k := k) (j := j) (x6 := x6) (x7 := x7) (x8 := none) (by omega) (by omega) (by omega) hhm (by omega)
          refine ⟨_, _, ex, Q', rows ++ [(0, t)], _, _, rfl, rfl, by simp [hl]; omega, fun q m => ?_⟩
          rcases List.mem_append.mp m with m | m
          · exact hr q m
          · rw [List.mem_singleton.mp m]
            exact ⟨by show 0 < 2 ^ 1; decide, ht⟩) (2 ^ I) 0 [some (.cell n), some (.int (I : Nat)), some (.int ((4 + B' : Nat) : Int)), some (.lst (wd home)), some (.cell X.length), some (.int (k : Nat)), x6, x7, none] (stp X n Q ++ [.lst (encC rows)]) (by omega) ⟨Q, rows, x6, x7, rfl, rfl, by omega, hr⟩
      refine ⟨_, _, ?_, Q2, rows2, some (.int (k : Nat)), y6, y7, rfl, rfl, by rw [hlen, Nat.succ_mul], hrows⟩
      unfold loO
      apply b_forB
      · (exists rfl)
      apply ss_nx
      · apply s_forB
        · apply i_rng1
          · (exists shI _)
          · exact rfl
          · omega
        · exact eL
      · exact ss_nil) (2 ^ (4 + B')) 0 [some (.cell n), some (.int (I : Nat)), some (.int ((4 + B' : Nat) : Int)), some (.lst (wd home)), some (.cell X.length), none, none, none, none] (stp X n P4 ++ [.lst (encC [])]) (by omega) ⟨P4, [], none, none, none, rfl, rfl, by simp, by simp⟩
  obtain ⟨R, hR0⟩ : ∃ R, home[0]? = some R := ⟨home[0]'(by omega), List.getElem?_eq_getElem _⟩
  have hR := hhm R (List.mem_of_getElem? hR0)
  refine ⟨⟨I, 1, 4 + B', R, rows⟩, P5, ⟨by show I ≤ 4; omega, by show 1 ≤ 24; omega, by show 4 + B' ≤ 8; omega, by show 4 + B' + 2 * I ≤ 12; omega, hR, by rw [hlen, Nat.pow_add 2 (4 + B') I], hrows⟩, ?_⟩
  have a4 : ∀ S : Store, opR .add (.int 4) (.int (B' : Nat)) S = some (.v (.int ((4 + B' : Nat) : Int))) := fun S => add_nat 4 B'
  have a1 : ∀ S : Store, opR .add (.int 1) (.int (m : Nat)) S = some (.v (.int ((1 + m : Nat) : Int))) := fun S => add_nat 1 m
  have r0 : ∀ S : Store, ixR (tb.glo f).gd (.lst (wd home)) (.int 0) S = some (.v (.int (R : Nat))) := fun S => at_wd (k := 0) hR0
  apply run_of rfl
  · unfold i_law_longer
    show xSs _ _ _ [some (.cell n), none, none, none, none, none, none, none, none] _ = _
    apply ss_nx
    · apply s_if0
      · (exists e0, dec0 (by omega))
      · exact ss_nil
    apply ss_nx
    · (exists e1)
    apply ss_nx
    · (exists e2, a4 _)
    apply ss_nx
    · apply s_name'
      · apply e_lcB
        · apply i_rng1
          · (exists e3, a1 _)
          · exact rfl
          · omega
        · rw [rngL_len]; omega
        · exact e4
      · exact rfl
    apply ss_nx (e1 := [some (.cell n), some (.int (I : Nat)), some (.int ((4 + B' : Nat) : Int)), some (.lst (wd home)), some (.cell X.length), none, none, none, none]) (s1 := stp X n P4 ++ [.lst (encC [])])
    · apply s_name'
      · apply e_mu
        (exists rfl)
      · rw [sl]
        exact rfl
    apply ss_nx
    · apply s_forB
      · apply i_rng1
        · (exists shB _)
        · exact rfl
        · omega
      · exact eL
    · (exists r0 _)
  · exact world_end sl
end K19

set_option Elab.async false
set_option linter.all false
set_option maxRecDepth 100000
set_option maxHeartbeats 1000000
namespace En
open PySem PySem.Spec PyProof.Rows L2
/-- an order, the pool in any cell -/
theorem order_at (G : Glo) {jd : Nat} (hd : DrawAt (G.fn jd)) {X : Store} {n : Nat} (hn : n < X.length) (c r t : Int) {row : List D} (h1 : row.length < 100000) (hc : cbs 0 row = true) :
    ∃ ds c' r' t', List.Perm ds row ∧ runF G (cOrder jd) [.cell n, .lst row] (X.set n (pl c r t)) = .ok (.n (.lst ds)) (X.set n (pl c' r' t')) := by
  have sl : ∀ o, (X.set n o).length = X.length := fun o => by simp
  have step : ∀ (k : Nat) (e : En.Env) (S : Store), k < row.length →
      (∃ (left done : List D) (x : Option D) (c r t : Int), left.length + k = row.length ∧ List.Perm (done ++ left) row ∧ e = [some (.cell n), some (.lst row), some (.cell X.length), some (.cell (X.length + 1)), x] ∧ S = X.set n (pl c r t) ++ [.lst left, .lst done]) →
      ∃ e' S', bodyF G X.length (.name 4) (cOrderB jd) (.int (k : Nat)) e S = .ok (.nx, e') S' ∧
        ∃ (left done : List D) (x : Option D) (c r t : Int), left.length + (k + 1) = row.length ∧ List.Perm (done ++ left) row ∧ e' = [some (.cell n), some (.lst row), some (.cell X.length), some (.cell (X.length + 1)), x] ∧ S' = X.set n (pl c r t) ++ [.lst left, .lst done] := by
    rintro k e S hk ⟨left, done, x, c, r, t, hl, hp, rfl, rfl⟩
    have hlen := hp.length_eq
    rw [List.length_append] at hlen
    obtain ⟨g, c', r', t', g2, e⟩ := draw_nx hd (s := X ++ [.lst left, .lst done]) (n := n) (by simp; omega) X.length c r t left.length (by omega) (by omega)
    rw [List.set_append_left _ _ hn, List.set_append_left _ _ hn] at e
    have gl : ∀ o : O, (X.set n o ++ [.lst left, .lst done])[X.length]? = some (.lst left) := fun o => by
      rw [List.getElem?_append_right (by simp)]
      simp
    obtain ⟨hg, e3⟩ := popAt_run (gd := G.gd) (b := X.length) (gl (pl c' r' t')) (Int.ofNat_nonneg g) g2 (Nat.le_refl _) (by omega)
    have e3' : (X.set n (pl c' r' t') ++ [O.lst left, .lst done]).set X.length (.lst (left.eraseIdx (g : Int).toNat)) = X.set n (pl c' r' t') ++ [.lst (left.eraseIdx (g : Int).toNat), .lst done] := by
      rw [List.set_append_right _ _ (by simp)]
      simp
    rw [e3'] at e3
    have el : (left.eraseIdx (g : Int).toNat).length = left.length - 1 := List.length_eraseIdx_of_lt hg
    have gd : ∀ (o : O) (l : List D), (X.set n o ++ [.lst l, .lst done])[X.length + 1]? = some (.lst done) := fun o l => by
      rw [List.getElem?_append_right (by simp)]
      simp
    have e4 := append_run (gd := G.gd) (b := X.length) (d := left[(g : Int).toNat]) (gd (pl c' r' t') (left.eraseIdx (g : Int).toNat)) (okW_own _ (by omega)) (by omega)
    have e4' : (X.set n (pl c' r' t') ++ [O.lst (left.eraseIdx (g : Int).toNat), .lst done]).set (X.length + 1) (.lst (done ++ [left[(g : Int).toNat]])) = X.set n (pl c' r' t') ++ [.lst (left.eraseIdx (g : Int).toNat), .lst (done ++ [left[(g : Int).toNat]])] := by
      rw [List.set_append_right _ _ (by simp)]
      simp
    rw [e4'] at e4
    refine ⟨_, _, ?_, left.eraseIdx (g : Int).toNat, done ++ [left[(g : Int).toNat]], some (.int (k : Nat)), c', r', t', by rw [el]; omega, ?_, rfl, rfl⟩
    · apply b_forB
      · apply g_name
        exact rfl
      unfold cOrderB
      apply ss_nx
      · apply s_expr
        apply e_mt
        · (exists rfl)
        · exact isLst_cell (gd _ _)
        · apply es_cons
          · apply e_mt
            · (exists rfl)
            · exact isLst_cell (gl _)
            · apply es_cons
              · apply e_call
                · apply es_cons
                  · (exists rfl)
                  · apply es_cons
                    · apply e_blt
                      · (exists rfl)
                      · exact len_cell (gl _)
                    · exact es_nil
                · exact e
              · exact es_nil
            · exact e3
          · exact es_nil
        · exact e4
      · exact ss_nil
    · rw [List.append_assoc]
      refine List.Perm.trans (List.Perm.append_left _ ?_) hp
      exact erase_perm left (g : Int).toNat hg
  obtain ⟨e', S', eL, left, done, x, c', r', t', hl, hp, rfl, rfl⟩ := rng_loop step row.length 0 [some (.cell n), some (.lst row), some (.cell X.length), some (.cell (X.length + 1)), none] (X.set n (pl c r t) ++ [.lst row, .lst []]) (by omega) ⟨row, [], none, c, r, t, by omega, by simp, rfl, rfl⟩
  have hl0 : left = [] := List.eq_nil_of_length_eq_zero (by omega)
  subst hl0
  rw [List.append_nil] at hp
  refine ⟨done, c', r', t', hp, ?_⟩
  have hcd : cbs X.length done = true := cbs_iff.mpr fun d m => cb_mono (Nat.zero_le _) d (cbs_iff.mp hc d (hp.mem_iff.mp m))
  have hlr : bltR .list [.lst row] (X.set n (pl c r t)) = some (.n (.lst row)) := rfl
  apply run_of (c := .retc (X.length + 1)) (e' := [some (.cell n), some (.lst row), some (.cell X.length), some (.cell (X.length + 1)), x]) (s1 := X.set n (pl c' r' t') ++ [.lst [], .lst done]) rfl
  · rw [sl]
    unfold cOrder
    show xSs _ _ _ [some (.cell n), some (.lst row), none, none, none] _ = _
    apply ss_nx (e1 := [some (.cell n), some (.lst row), some (.cell X.length), none, none]) (s1 := X.set n (pl c r t) ++ [.lst row])
    · apply s_name'
      · apply e_mu
        (exists hlr)
      · rw [sl]
        exact rfl
    apply ss_nx (e1 := [some (.cell n), some (.lst row), some (.cell X.length), some (.cell (X.length + 1)), none]) (s1 := X.set n (pl c r t) ++ [.lst row, .lst []])
    · have : X.set n (pl c r t) ++ [O.lst row, .lst []] = X.set n (pl c r t) ++ [.lst row] ++ [.lst []] := by simp
      rw [this]
      apply s_name'
      · apply e_mu
        (exists rfl)
      · have : (X.set n (pl c r t) ++ [O.lst row]).length = X.length + 1 := by simp
        rw [this]
        exact rfl
    apply ss_nx
    · apply s_forB
      · apply i_rng1
        · apply e_blt
          · (exists rfl)
          · exact len_lst
        · exact rfl
        · omega
      · exact eL
    apply ss_retc
    apply s_retF
    (exists rfl)
  · rw [sl]
    have hg : (X.set n (pl c' r' t') ++ [O.lst [], .lst done])[X.length + 1]? = some (.lst done) := by
      rw [List.getElem?_append_right (by simp)]
      simp
    have ht : (X.set n (pl c' r' t') ++ [O.lst [], .lst done]).take X.length = X.set n (pl c' r' t') := by
      have := take_app (n := X.length) (s := X.set n (pl c' r' t')) (r := [O.lst [], .lst done]) (by simp)
      exact this
    have hle : decide (X.length ≤ X.length + 1) = true := by simp
    simp only [endR, hg, hle, cbO, hcd, Bool.and_self, if_true, ht]
end En
namespace K19
open PySem PySem.Spec PyProof.Rows L2 En
open MC (isT allT inAll diffC short short1 shortL shortL1 clsFor clsStep rowsOf succs add1 addNew bfs okP okC toN judged inv)
variable {s X : Store} {f : Den} {n : Nat}
def OrdOut (f : Den) : Prop := ∀ {X : Store} {n : Nat} {P : Int × Int × Int}, Pol X n P → ∀ (b : Nat) (row : List D), row.length < 100000 → cbs 0 row = true → ∃ ds P', List.Perm ds row ∧ callR (f.fn 17) b [.cell n, .lst row] X = .ok (.n (.lst ds)) (stp X n P')
theorem order_run' (hd : DrawAt (f.fn 12)) {P : Int × Int × Int} (hP : Pol X n P) (b : Nat) (row : List D) (h1 : row.length < 100000) (hc : cbs 0 row = true) : ∃ ds P', List.Perm ds row ∧ i_law_order.run (tb.glo f) b [.cell n, .lst row] X = .ok (.n (.lst ds)) (stp X n P') := by
  rw [run_F rfl]
  obtain ⟨ds, c, r, t, hp, e⟩ := order_at (tb.glo f) (jd := 12) hd hP.lt P.1 P.2.1 P.2.2 h1 hc
  rw [show X.set n (pl P.1 P.2.1 P.2.2) = X from hP.same] at e
  exact ⟨ds, (c, r, t), hp, e⟩
theorem imgs {cls : List (List (List Int))} : ∀ {ds : List D}, (∀ d ∈ ds, d ∈ cls.map eT) → ∃ cls' : List (List (List Int)), ds = cls'.map eT ∧ ∀ c ∈ cls', c ∈ cls
  | [], _ => ⟨[], rfl, by simp⟩
  | d :: ds, h => by
    obtain ⟨cls', h1, h2⟩ := imgs (ds := ds) fun a m => h a (List.mem_cons_of_mem _ m)
    obtain ⟨c, hc, e⟩ := List.mem_map.mp (h d (by simp))
    refine ⟨c :: cls', by rw [List.map_cons, e, h1], fun a m => ?_⟩
    rcases List.mem_cons.mp m with rfl | m
    · exact hc
    · exact h2 a m
def ClsOut (f : Den) : Prop := ∀ {X : Store} {n : Nat} {P : Int × Int × Int}, Pol X n P → ∀ (b B : Nat), B ≤ 8 → ∃ (c : List (List Int)) (P' : Int × Int × Int), c.length ≤ 8 ∧ (∀ p ∈ c, p.length = 2) ∧ callR (f.fn 24) b [.cell n, .int (B : Nat)] X = .ok (.v (eT c)) (stp X n P')
def soB : ISs := (.cons (.ifs (.e (.cmp .eq (.call 12 (.cons (.var 0) (.cons (.int 2) .nil))) (.int 1))) (.cons (.expr (.mt .append (.var 2) (.cons (.tup (.cons (.var 3) (.cons (.call 12 (.cons (.var 0) (.cons (.int 2) .nil))) .nil))) .nil)))
    .nil) .nil)
    .nil)
theorem app_cl {G : Glo} (Q : Int × Int × Int) (c : List (List Int)) (p : List Int) (hl : c.length < 1000) : mtR G.gd X.length .append (.cell X.length) [eP p] (stp X n Q ++ [.lst (c.map eP)]) = .ok (.v .non) (stp X n Q ++ [.lst ((c ++ [p]).map eP)]) := by
  have := app_own (gd := G.gd) (b := X.length) (n := X.length) (stp X n Q) (c.map eP) (eP p) sl (Nat.le_refl _) (by simp only [List.length_map]; omega)
  rw [this, List.map_append]
  rfl
theorem some_clause_run (hd : DrawAt (f.fn 12)) {P : Int × Int × Int} (hP : Pol X n P) (b B : Nat) (hB : B ≤ 8) : ∃ (c : List (List Int)) (P' : Int × Int × Int), c.length ≤ 8 ∧ (∀ p ∈ c, p.length = 2) ∧ i_law_some_clause.run (tb.glo f) b [.cell n, .int (B : Nat)] X = .ok (.v (eT c)) (stp X n P') := by
  rw [run_F rfl]
  have hn := hP.lt
  obtain ⟨e', S', eL, Q, c, x3, rfl, rfl, hl, hm⟩ := rng_loop (f := bodyF (tb.glo f) X.length (.name 3) soB) (N := B)
    (Q := fun k e S => ∃ (Q : Int × Int × Int) (c : List (List Int)) (x3 : Option D), e = [some (.cell n), some (.int (B : Nat)), some (.cell X.length), x3] ∧ S = stp X n Q ++ [.lst (c.map eP)] ∧ c.length ≤ k ∧ ∀ p ∈ c, p.length = 2)
    (fun k e S hk hq => by
      obtain ⟨Q, c, x3, rfl, rfl, hl, hm⟩ := hq
      obtain ⟨y, P1, hy, e1⟩ := draw_r hd hn (P := Q) [.lst (c.map eP)] X.length 2 (by decide) (by decide)
      obtain ⟨z, P2, hz, e2⟩ := draw_r hd hn (P := P1) [.lst (c.map eP)] X.length 2 (by decide) (by decide)
      by_cases h1 : y = 1
      · subst h1
        have il : isLst (stp X n P1 ++ [.lst (c.map eP)]) (.cell X.length) = true := isl_own _ _ sl
        refine ⟨_, _, ?_, P2, c ++ [[(k : Int), (z : Int)]], some (.int (k : Nat)), rfl, rfl, by simp; omega, fun p m => ?_⟩
        · unfold soB
          (exists e1, il, e2, app_cl P2 c [(k : Int), (z : Int)] (by omega))
        · rcases List.mem_append.mp m with m | m
          · exact hm p m
          · rw [List.mem_singleton.mp m]
            rfl
      · refine ⟨_, _, ?_, P1, c, some (.int (k : Nat)), rfl, rfl, by omega, hm⟩
        have c1 : cmpR (tb.glo f).gd .eq (.int (y : Nat)) (.int 1) (stp X n P1 ++ [.lst (c.map eP)]) = some false := by
          rw [En.eq_int]
          exact dec0 (by omega)
        unfold soB
        (exists e1, c1)) B 0 [some (.cell n), some (.int (B : Nat)), some (.cell X.length), none] (stp X n P ++ [.lst (([] : List (List Int)).map eP)]) (by omega) ⟨P, [], none, rfl, rfl, by simp, by simp⟩
  refine ⟨c, Q, by omega, hm, ?_⟩
  have bt : bltR .tuple [.cell X.length] (stp X n Q ++ [.lst (c.map eP)]) = some (.v (eT c)) := by
    have : (stp X n Q ++ [O.lst (c.map eP)])[X.length]? = some (.lst (c.map eP)) := by
      rw [List.getElem?_append_right (by simp)]
      simp
    simp [bltR, seqOf, this, eT]
  apply run_of rfl
  · unfold i_law_some_clause
    show xSs _ _ _ [some (.cell n), some (.int (B : Nat)), none, none] _ = _
    apply ss_nx (e1 := [some (.cell n), some (.int (B : Nat)), some (.cell X.length), none]) (s1 := stp X n P ++ [.lst (([] : List (List Int)).map eP)])
    · rw [hP.same]
      apply s_name'
      · apply e_mu
        (exists rfl)
      · exact rfl
    apply ss_nx
    · apply s_forB
      · apply i_rng1
        · (exists rfl)
        · exact rfl
        · omega
      · exact eL
    · (exists bt)
  · simp only [endR, eT_cb, if_true]
    rw [take_app sl]
end K19

set_option Elab.async false
set_option linter.all false
set_option maxRecDepth 100000
set_option maxHeartbeats 1000000
namespace En
open PySem PySem.Spec PyProof.Rows L2
section
variable {s : Store}
theorem sl_to {ds : List D} {k : Nat} (h : k ≤ ds.length) : slR (.lst ds) none (some (k : Nat)) s = some (.n (.lst (ds.take k))) := by
  simp only [slR, seqOf, sIx_nat, Nat.min_eq_left h]
  rw [show HT.sIx ds.length 0 none = 0 from rfl]
  simp
theorem sl_from {ds : List D} {k : Nat} (h : k ≤ ds.length) : slR (.lst ds) (some (k : Nat)) none s = some (.n (.lst (ds.drop k))) := by
  simp only [slR, seqOf, sIx_nat, Nat.min_eq_left h]
  rw [show HT.sIx ds.length ds.length none = ds.length from rfl, List.take_of_length_le (by simp)]
theorem slt_to {ds : List D} {k : Nat} (h : k ≤ ds.length) : slR (.tup ds) none (some (k : Nat)) s = some (.v (.tup (ds.take k))) := by
  simp only [slR, seqOf, sIx_nat, Nat.min_eq_left h]
  rw [show HT.sIx ds.length 0 none = 0 from rfl]
  simp [isTupD]
theorem slt_from {ds : List D} {k : Nat} (h : k ≤ ds.length) : slR (.tup ds) (some (k : Nat)) none s = some (.v (.tup (ds.drop k))) := by
  simp only [slR, seqOf, sIx_nat, Nat.min_eq_left h]
  rw [show HT.sIx ds.length ds.length none = ds.length from rfl, List.take_of_length_le (by simp)]
  simp [isTupD]
theorem cat_l {as bs : List D} (h : as.length + bs.length ≤ 100000) : opR .add (.lst as) (.lst bs) s = some (.n (.lst (as ++ bs))) := by
  simp only [opR, seqOf, h, if_true]
theorem cat_t {as bs : List D} (h : as.length + bs.length ≤ 100000) : opR .add (.tup as) (.tup bs) s = some (.v (.tup (as ++ bs))) := by
  simp [opR, seqOf, h, isTupD]
end
end En
namespace K19
open PySem PySem.Spec PyProof.Rows L2 En
open MC (isT allT inAll diffC short short1 shortL shortL1 clsFor clsStep rowsOf succs add1 addNew bfs okP okC toN judged inv)
variable {s X : Store} {f : Den} {n : Nat}
theorem pick_d (hp : PickD f) {P : Int × Int × Int} (h : Pol X n P) (b : Nat) (row : List D) (h0 : 0 < row.length) (h1 : row.length < 1000000) (hc : cbs 0 row = true) : ∃ (d : D) (P' : Int × Int × Int), d ∈ row ∧ callR (f.fn 13) b [.cell n, .lst row] X = .ok (.v d) (stp X n P') := by
  obtain ⟨d, P', h2, e⟩ := hp h.lt [] b row h0 h1 hc (P := P)
  simp only [List.append_nil, h.same] at e
  exact ⟨d, P', h2, e⟩
abbrev eB (n : Nat) (w : MC.W) (cls : List (List (List Int))) (x3 x4 x5 x6 x7 x8 x9 x10 x11 : Option D) : En.Env := [some (.cell n), some (wObj w), some (encG cls), x3, x4, x5, x6, x7, x8, x9, x10, x11]
/-- what right clauses are like -/
structure Nice (cls : List (List (List Int))) : Prop where
  len : cls.length ≤ 256
  cl : ∀ c ∈ cls, c ≠ [] ∧ c.length ≤ 8
  pr : ∀ c ∈ cls, ∀ p ∈ c, p.length = 2
theorem Nice.small {cls : List (List (List Int))} (h : Nice cls) : Small cls := ⟨by have := h.len; omega, fun c hc => ⟨by have := (h.cl c hc).2; omega, fun p hp => by have := h.pr c hc p hp; omega⟩⟩
theorem small_app {as bs : List (List (List Int))} (h : Small as) (h2 : as.length ≤ 600) (h3 : bs.length ≤ 600) (h4 : ∀ c ∈ bs, c.length < 10000 ∧ ∀ p ∈ c, p.length < 10000) : Small (as ++ bs) := by
  refine ⟨by simp; omega, fun c hc => ?_⟩
  rcases List.mem_append.mp hc with hc | hc
  · exact h.2 c hc
  · exact h4 c hc
/-- clauses put in the place of one -/
theorem small_mid {cls bs : List (List (List Int))} (h : Nice cls) (a : Nat) (h3 : bs.length ≤ 600) (h4 : ∀ c ∈ bs, c.length < 10000 ∧ ∀ p ∈ c, p.length < 10000) : Small (cls.take a ++ bs ++ cls.drop (a + 1)) := by
  have hs := h.small
  refine ⟨?_, fun c hc => ?_⟩
  · have := h.len
    simp only [List.length_append, List.length_take, List.length_drop]
    omega
  · rcases List.mem_append.mp hc with hc | hc
    · rcases List.mem_append.mp hc with hc | hc
      · exact hs.2 c (List.mem_of_mem_take hc)
      · exact h4 c hc
    · exact hs.2 c (List.mem_of_mem_drop hc)
theorem g_ix {gd : Nat → List (Str × D)} {cls : List (List (List Int))} {a : Nat} {c : List (List Int)} (h : cls[a]? = some c) : ixR gd (encG cls) (.int (a : Nat)) s = some (.v (eT c)) := frz_ix (d := encG cls) rfl (by simp [h])
theorem t_ix {gd : Nat → List (Str × D)} {c : List (List Int)} {a : Nat} {p : List Int} (h : c[a]? = some p) : ixR gd (eT c) (.int (a : Nat)) s = some (.v (eP p)) := frz_ix (d := eT c) rfl (by simp [h])
theorem g_to {cls : List (List (List Int))} {a : Nat} (h : a ≤ cls.length) : slR (encG cls) none (some (a : Nat)) s = some (.n (.lst ((cls.take a).map eT))) := by
  rw [List.map_take]
  exact sl_to (by simpa using h)
theorem g_from {cls : List (List (List Int))} {a : Nat} (h : a ≤ cls.length) : slR (encG cls) (some (a : Nat)) none s = some (.n (.lst ((cls.drop a).map eT))) := by
  rw [List.map_drop]
  exact sl_from (by simpa using h)
theorem t_to {c : List (List Int)} {a : Nat} (h : a ≤ c.length) : slR (eT c) none (some (a : Nat)) s = some (.v (eT (c.take a))) := by
  unfold eT
  rw [List.map_take]
  exact slt_to (by simpa using h)
theorem t_from {c : List (List Int)} {a : Nat} (h : a ≤ c.length) : slR (eT c) (some (a : Nat)) none s = some (.v (eT (c.drop a))) := by
  unfold eT
  rw [List.map_drop]
  exact slt_from (by simpa using h)
theorem g_cat {as bs : List (List (List Int))} (h : as.length + bs.length ≤ 1000) : opR .add (.lst (as.map eT)) (.lst (bs.map eT)) s = some (.n (.lst ((as ++ bs).map eT))) := by
  rw [List.map_append]
  exact cat_l (by simp; omega)
theorem t_cat {as bs : List (List Int)} (h : as.length + bs.length ≤ 1000) : opR .add (eT as) (eT bs) s = some (.v (eT (as ++ bs))) := by
  unfold eT
  rw [List.map_append]
  exact cat_t (by simp; omega)
def beRet : ISs := (.cons (.ret (.op .add (.op .add (.sl (.var 2) .none (.some (.var 5))) (.lst (.cons (.var 10) .nil))) (.sl (.var 2) (.some (.op .add (.var 5) (.int 1))) .none))) .nil)
def be9 : ISs := (.cons (.ifs (.e (.cmp .eq (.var 3) (.int 9))) (.cons (.asg (.name 10) (.op .add (.ix (.var 2) (.var 5)) (.tup (.cons (.var 9) .nil)))) .nil) .nil) beRet)
def be8 : ISs := (.cons (.ifs (.e (.cmp .eq (.var 3) (.int 8))) (.cons (.asg (.name 10) (.op .add (.sl (.ix (.var 2) (.var 5)) .none (.some (.var 6))) (.sl (.ix (.var 2) (.var 5)) (.some (.op .add (.var 6) (.int 1))) .none))) .nil) .nil) be9)
def beC : ISs := (.cons (.asg (.name 10) (.op .add (.op .add (.sl (.ix (.var 2) (.var 5)) .none (.some (.var 6))) (.tup (.cons (.var 9) .nil))) (.sl (.ix (.var 2) (.var 5)) (.some (.op .add (.var 6) (.int 1))) .none))) be8)
def be7 : ISs := (.cons (.ifs (.e (.cmp .eq (.var 3) (.int 7))) (.cons (.asg (.name 9) (.call 13 (.cons (.var 0) (.cons (.lst (.cons (.tup (.cons (.var 7) .nil)) (.cons (.tup (.cons (.var 7) (.cons (.var 8) (.cons (.int 0) .nil)))) (.cons (.tup .nil) (.cons (.tup (.cons (.neg (.int 1)) (.cons (.var 8) .nil))) .nil))))) .nil)))) .nil) .nil) beC)
def be6 : ISs := (.cons (.ifs (.e (.cmp .eq (.var 3) (.int 6))) (.cons (.asg (.name 9) (.tup (.cons (.var 7) (.cons (.call 13 (.cons (.var 0) (.cons (.lst (.cons (.int 2) (.cons (.neg (.int 1)) (.cons (.op .pow (.int 10) (.int 30)) .nil)))) .nil))) .nil)))) .nil) .nil) be7)
def beP : ISs := (.cons (.asg (.name 6) (.call 12 (.cons (.var 0) (.cons (.blt .len (.cons (.ix (.var 2) (.var 5)) .nil)) .nil))))
    (.cons (.asg (.tup (.cons (.name 7) (.cons (.name 8) .nil))) (.ix (.ix (.var 2) (.var 5)) (.var 6)))
    (.cons (.asg (.name 9) (.tup (.cons (.var 7) (.cons (.op .sub (.int 1) (.var 8)) .nil)))) be6)))
def be5 : ISs := (.cons (.ifs (.e (.cmp .eq (.var 3) (.int 5))) (.cons (.ret (.op .add (.sl (.var 2) .none (.some (.var 5))) (.sl (.var 2) (.some (.op .add (.var 5) (.int 1))) .none))) .nil) .nil) beP)
def beA : ISs := (.cons (.asg (.name 5) (.call 12 (.cons (.var 0) (.cons (.blt .len (.cons (.var 2) .nil)) .nil)))) be5)
/-- the last lines -/
theorem be_ret {w : MC.W} {cls : List (List (List Int))} (hN : Nice cls) {a : Nat} (ha : a < cls.length) (c : List (List Int)) {x3 x4 x6 x7 x8 x9 x11 : Option D} {b : Nat} {G : Glo} : xSs G b beRet (eB n w cls x3 x4 (some (.int (a : Nat))) x6 x7 x8 x9 (some (eT c)) x11) s = .ok (.ret (.n (.lst ((cls.take a ++ [c] ++ cls.drop (a + 1)).map eT))), eB n w cls x3 x4 (some (.int (a : Nat))) x6 x7 x8 x9 (some (eT c)) x11) s := by
  have hl := hN.len
  have e1 := g_to (s := s) (cls := cls) (a := a) (by omega)
  have e2 := g_from (s := s) (cls := cls) (a := a + 1) (by omega)
  have e3 := g_cat (s := s) (as := cls.take a) (bs := [c]) (by simp; omega)
  have e4 := g_cat (s := s) (as := cls.take a ++ [c]) (bs := cls.drop (a + 1)) (by simp; omega)
  have e5 := add_nat (s := s) a 1
  unfold beRet
  apply ss_ret
  apply s_ret
  apply e_op
  · apply e_op
    · (exists e1)
    · (exists rfl)
    · exact e3
  · (exists e5, e2)
  · exact e4
theorem be_c {w : MC.W} {cls : List (List (List Int))} (hN : Nice cls) {a sp : Nat} (ha : a < cls.length) {c : List (List Int)} (hc : cls[a]? = some c) (hsp : sp < c.length) {k : Nat} {q : List Int} (hq : q.length ≤ 3) {x4 x7 x8 x10 x11 : Option D} {b : Nat} {G : Glo} : ∃ c' e', c'.length < 10000 ∧ (∀ p ∈ c', p.length < 10000) ∧
    xSs G b beC (eB n w cls (some (.int (k : Nat))) x4 (some (.int (a : Nat))) (some (.int (sp : Nat))) x7 x8 (some (eP q)) x10 x11) s = .ok (.ret (.n (.lst ((cls.take a ++ [c'] ++ cls.drop (a + 1)).map eT))), e') s := by
  have hcm := List.mem_of_getElem? hc
  have hl := (hN.cl c hcm).2
  have hpr := hN.pr c hcm
  have e0 := g_ix (s := s) (gd := G.gd) hc
  have e1 := t_to (s := s) (c := c) (a := sp) (by omega)
  have e2 := t_from (s := s) (c := c) (a := sp + 1) (by omega)
  have e3 := t_cat (s := s) (as := c.take sp) (bs := [q]) (by simp; omega)
  have e4 := t_cat (s := s) (as := c.take sp ++ [q]) (bs := c.drop (sp + 1)) (by simp; omega)
  have e5 := add_nat (s := s) sp 1
  have e6 := t_cat (s := s) (as := c.take sp) (bs := c.drop (sp + 1)) (by simp; omega)
  have e7 := t_cat (s := s) (as := c) (bs := [q]) (by simp; omega)
  have start : ∀ o, xSs G b be8 (eB n w cls (some (.int (k : Nat))) x4 (some (.int (a : Nat))) (some (.int (sp : Nat))) x7 x8 (some (eP q)) (some (eT (c.take sp ++ [q] ++ c.drop (sp + 1)))) x11) s = o → xSs G b beC (eB n w cls (some (.int (k : Nat))) x4 (some (.int (a : Nat))) (some (.int (sp : Nat))) x7 x8 (some (eP q)) x10 x11) s = o := fun o ho => by
    unfold beC
    apply ss_nx
    · apply s_name'
      · apply e_op
        · apply e_op
          · (exists e0, e1)
          · (exists rfl)
          · exact e3
        · (exists e0, e5, e2)
        · exact e4
      · exact rfl
    · exact ho
  have pm : ∀ p ∈ c.take sp ++ [q] ++ c.drop (sp + 1), p.length < 10000 := fun p m => by
    rcases List.mem_append.mp m with m | m
    · rcases List.mem_append.mp m with m | m
      · have := hpr p (List.mem_of_mem_take m); omega
      · rw [List.mem_singleton.mp m]; omega
    · have := hpr p (List.mem_of_mem_drop m); omega
  by_cases k8 : k = 8
  · subst k8
    refine ⟨c.take sp ++ c.drop (sp + 1), ?ea, by simp; omega, fun p m => ?m, ?x⟩
    case x =>
      apply start
      unfold be8
      apply ss_nx (e1 := eB n w cls (some (.int ((8 : Nat) : Int))) x4 (some (.int (a : Nat))) (some (.int (sp : Nat))) x7 x8 (some (eP q)) (some (eT (c.take sp ++ c.drop (sp + 1)))) x11)
      · apply s_if1
        · (exists dec1 rfl)
        · apply ss_nx
          · apply s_name'
            · apply e_op
              · (exists e0, e1)
              · (exists e0, e5, e2)
              · exact e6
            · exact rfl
          · exact ss_nil
      unfold be9
      apply ss_nx
      · apply s_if0
        · (exists dec0 (by decide))
        · exact ss_nil
      · exact be_ret hN ha _
    case m =>
      rcases List.mem_append.mp m with m | m
      · have := hpr p (List.mem_of_mem_take m); omega
      · have := hpr p (List.mem_of_mem_drop m); omega
  have n8 : cmpR G.gd .eq (.int (k : Nat)) (.int 8) s = some false := by
    rw [En.eq_int]
    exact dec0 (by omega)
  by_cases k9 : k = 9
  · subst k9
    refine ⟨c ++ [q], ?eb, by simp; omega, fun p m => ?mb, ?xb⟩
    case xb =>
      apply start
      unfold be8
      apply ss_nx
      · apply s_if0
        · (exists n8)
        · exact ss_nil
      unfold be9
      apply ss_nx (e1 := eB n w cls (some (.int ((9 : Nat) : Int))) x4 (some (.int (a : Nat))) (some (.int (sp : Nat))) x7 x8 (some (eP q)) (some (eT (c ++ [q]))) x11)
      · apply s_if1
        · (exists dec1 rfl)
        · apply ss_nx
          · apply s_name'
            · apply e_op
              · (exists e0)
              · (exists rfl)
              · exact e7
            · exact rfl
          · exact ss_nil
      · exact be_ret hN ha _
    case mb =>
      rcases List.mem_append.mp m with m | m
      · have := hpr p m; omega
      · rw [List.mem_singleton.mp m]; omega
  have n9 : cmpR G.gd .eq (.int (k : Nat)) (.int 9) s = some false := by
    rw [En.eq_int]
    exact dec0 (by omega)
  refine ⟨c.take sp ++ [q] ++ c.drop (sp + 1), ?ec, by simp; omega, pm, ?xc⟩
  case xc =>
    apply start
    unfold be8
    apply ss_nx
    · apply s_if0
      · (exists n8)
      · exact ss_nil
    unfold be9
    apply ss_nx
    · apply s_if0
      · (exists n9)
      · exact ss_nil
    · exact be_ret hN ha _
end K19

set_option Elab.async false
set_option linter.all false
set_option maxRecDepth 100000
set_option maxHeartbeats 1000000
namespace K19
open PySem PySem.Spec PyProof.Rows L2 En
open MC (isT allT inAll diffC short short1 shortL shortL1 clsFor clsStep rowsOf succs add1 addNew bfs okP okC toN judged inv)
variable {s X : Store} {f : Den} {n : Nat}
theorem be_7 (hp : PickD f) {P : Int × Int × Int} (hP : Pol X n P) {w : MC.W} {cls : List (List (List Int))} (hN : Nice cls) {a sp : Nat} (ha : a < cls.length) {c : List (List Int)} (hc : cls[a]? = some c) (hsp : sp < c.length) {k : Nat} {q : List Int} (hq : q.length ≤ 3) {l m : Int} {x4 x10 x11 : Option D} {b : Nat} : ∃ c' e' P', c'.length < 10000 ∧ (∀ p ∈ c', p.length < 10000) ∧
    xSs (tb.glo f) b be7 (eB n w cls (some (.int (k : Nat))) x4 (some (.int (a : Nat))) (some (.int (sp : Nat))) (some (.int l)) (some (.int m)) (some (eP q)) x10 x11) X = .ok (.ret (.n (.lst ((cls.take a ++ [c'] ++ cls.drop (a + 1)).map eT))), e') (stp X n P') := by
  by_cases k7 : k = 7
  · subst k7
    obtain ⟨d, P1, hd, e1⟩ := pick_d hp hP b [eP [l], eP [l, m, 0], eP [], eP [-1, m]] (by simp) (by simp) (by simp [cbs, eP_cb])
    obtain ⟨q', hq', rfl⟩ : ∃ q' : List Int, q'.length ≤ 3 ∧ d = eP q' := by
      simp only [List.mem_cons, List.not_mem_nil, or_false] at hd
      rcases hd with rfl | rfl | rfl | rfl
      · exact ⟨_, by simp, rfl⟩
      · exact ⟨_, by simp, rfl⟩
      · exact ⟨_, by simp, rfl⟩
      · exact ⟨_, by simp, rfl⟩
    obtain ⟨c', e', h1, h2, h3⟩ := be_c (s := stp X n P1) (n := n) (w := w) hN ha hc hsp (k := 7) hq' (x4 := x4) (x7 := some (.int l)) (x8 := some (.int m)) (x10 := x10) (x11 := x11) (b := b) (G := tb.glo f)
    refine ⟨c', e', P1, h1, h2, ?_⟩
    unfold be7
    apply ss_nx (e1 := eB n w cls (some (.int ((7 : Nat) : Int))) x4 (some (.int (a : Nat))) (some (.int (sp : Nat))) (some (.int l)) (some (.int m)) (some (eP q')) x10 x11) (s1 := stp X n P1)
    · apply s_if1
      · (exists dec1 rfl)
      · apply ss_nx
        · apply s_name'
          · apply e_call
            · (exists rfl)
            · exact e1
          · exact rfl
        · exact ss_nil
    · exact h3
  · obtain ⟨c', e', h1, h2, h3⟩ := be_c (s := X) (n := n) (w := w) hN ha hc hsp (k := k) hq (x4 := x4) (x7 := some (.int l)) (x8 := some (.int m)) (x10 := x10) (x11 := x11) (b := b) (G := tb.glo f)
    refine ⟨c', e', P, h1, h2, ?_⟩
    have n7 : cmpR (tb.glo f).gd .eq (.int (k : Nat)) (.int 7) X = some false := by
      rw [En.eq_int]
      exact dec0 (by omega)
    rw [hP.same]
    unfold be7
    apply ss_nx
    · apply s_if0
      · (exists n7)
      · exact ss_nil
    · exact h3
theorem be_p (hd : DrawAt (f.fn 12)) (hp : PickD f) {P : Int × Int × Int} (hP : Pol X n P) {w : MC.W} {cls : List (List (List Int))} (hN : Nice cls) {a : Nat} (ha : a < cls.length) {k : Nat} {x4 x6 x7 x8 x9 x10 x11 : Option D} {b : Nat} : ∃ c' e' P', c'.length < 10000 ∧ (∀ p ∈ c', p.length < 10000) ∧
    xSs (tb.glo f) b beP (eB n w cls (some (.int (k : Nat))) x4 (some (.int (a : Nat))) x6 x7 x8 x9 x10 x11) X = .ok (.ret (.n (.lst ((cls.take a ++ [c'] ++ cls.drop (a + 1)).map eT))), e') (stp X n P') := by
  obtain ⟨c, hc⟩ : ∃ c, cls[a]? = some c := ⟨_, List.getElem?_eq_getElem ha⟩
  have hcm := List.mem_of_getElem? hc
  obtain ⟨hne, hcl⟩ := hN.cl c hcm
  have hc0 : 0 < c.length := List.length_pos_iff.mpr hne
  obtain ⟨sp, P1, hsp, e1⟩ := draw_x hd hP b c.length hc0 (by omega)
  obtain ⟨p, hpp⟩ : ∃ p, c[sp]? = some p := ⟨_, List.getElem?_eq_getElem hsp⟩
  have hp2 := hN.pr c hcm p (List.mem_of_getElem? hpp)
  obtain ⟨l, m, rfl⟩ : ∃ l m : Int, p = [l, m] := by
    match p, hp2 with
    | [l, m], _ => exact ⟨l, m, rfl⟩
  have i0 := g_ix (s := X) (gd := (tb.glo f).gd) hc
  have ln : bltR .len [eT c] X = some (.v (.int (c.length : Nat))) := by
    rw [len_frz (d := eT c) rfl, List.length_map]
  have i1 := g_ix (s := stp X n P1) (gd := (tb.glo f).gd) hc
  have i2 := t_ix (s := stp X n P1) (gd := (tb.glo f).gd) hpp
  have start : ∀ o, xSs (tb.glo f) b be6 (eB n w cls (some (.int (k : Nat))) x4 (some (.int (a : Nat))) (some (.int (sp : Nat))) (some (.int l)) (some (.int m)) (some (eP [l, 1 - m])) x10 x11) (stp X n P1) = o → xSs (tb.glo f) b beP (eB n w cls (some (.int (k : Nat))) x4 (some (.int (a : Nat))) x6 x7 x8 x9 x10 x11) X = o := fun o ho => by
    unfold beP
    apply ss_nx
    · apply s_name'
      · apply e_call
        · (exists i0, ln)
        · exact e1
      · exact rfl
    apply ss_nx (e1 := eB n w cls (some (.int (k : Nat))) x4 (some (.int (a : Nat))) (some (.int (sp : Nat))) (some (.int l)) (some (.int m)) x9 x10 x11) (s1 := stp X n P1)
    · apply s_tup (r := .v (eP [l, m]))
      · apply e_ix
        · (exists i1)
        · (exists rfl)
        · exact i2
      · exact .inl rfl
      · (exists rfl)
    apply ss_nx
    · apply s_name'
      · apply e_tup
        · (exists sub_op 1 m)
        · exact Nat.le_of_ble_eq_true rfl
      · exact rfl
    · exact ho
  by_cases k6 : k = 6
  · subst k6
    obtain ⟨d, P2, hdm, e2⟩ := pick_d hp (hP.set (P' := P1)) b [.int 2, .int (-1), .int 1000000000000000000000000000000] (by simp) (by simp) rfl
    rw [stp2] at e2
    obtain ⟨y, rfl⟩ : ∃ y : Int, d = .int y := by
      simp only [List.mem_cons, List.not_mem_nil, or_false] at hdm
      rcases hdm with rfl | rfl | rfl <;> exact ⟨_, rfl⟩
    have pw : opR .pow (.int 10) (.int 30) (stp X n P1) = some (.v (.int 1000000000000000000000000000000)) := rfl
    obtain ⟨c', e', P3, h1, h2, h3⟩ := be_7 hp (hP.set (P' := P2)) (w := w) hN ha hc hsp (k := 6) (q := [l, y]) (by simp) (l := l) (m := m) (x4 := x4) (x10 := x10) (x11 := x11) (b := b)
    rw [stp2] at h3
    refine ⟨c', e', P3, h1, h2, ?_⟩
    apply start
    unfold be6
    apply ss_nx (e1 := eB n w cls (some (.int ((6 : Nat) : Int))) x4 (some (.int (a : Nat))) (some (.int (sp : Nat))) (some (.int l)) (some (.int m)) (some (eP [l, y])) x10 x11) (s1 := stp X n P2)
    · apply s_if1
      · (exists dec1 rfl)
      · apply ss_nx
        · apply s_name'
          · apply e_tup
            · apply es_cons
              · (exists rfl)
              · apply es_cons
                · apply e_call
                  · (exists pw)
                  · exact e2
                · exact es_nil
            · exact Nat.le_of_ble_eq_true rfl
          · exact rfl
        · exact ss_nil
    · exact h3
  · obtain ⟨c', e', P3, h1, h2, h3⟩ := be_7 hp (hP.set (P' := P1)) (w := w) hN ha hc hsp (k := k) (q := [l, 1 - m]) (by simp) (l := l) (m := m) (x4 := x4) (x10 := x10) (x11 := x11) (b := b)
    rw [stp2] at h3
    refine ⟨c', e', P3, h1, h2, ?_⟩
    have n6 : cmpR (tb.glo f).gd .eq (.int (k : Nat)) (.int 6) (stp X n P1) = some false := by
      rw [En.eq_int]
      exact dec0 (by omega)
    apply start
    unfold be6
    apply ss_nx
    · apply s_if0
      · (exists n6)
      · exact ss_nil
    · exact h3
theorem be_a (hd : DrawAt (f.fn 12)) (hp : PickD f) {P : Int × Int × Int} (hP : Pol X n P) {w : MC.W} {cls : List (List (List Int))} (hN : Nice cls) (h0 : 0 < cls.length) {k : Nat} {x4 x5 x6 x7 x8 x9 x10 x11 : Option D} {b : Nat} : ∃ cls' e' P', Small cls' ∧
    xSs (tb.glo f) b beA (eB n w cls (some (.int (k : Nat))) x4 x5 x6 x7 x8 x9 x10 x11) X = .ok (.ret (.n (.lst (cls'.map eT))), e') (stp X n P') := by
  have hl := hN.len
  obtain ⟨a, P1, ha, e1⟩ := draw_x hd hP b cls.length h0 (by omega)
  have ln : bltR .len [encG cls] X = some (.v (.int (cls.length : Nat))) := by
    rw [len_frz (d := encG cls) rfl, List.length_map]
  have start : ∀ o, xSs (tb.glo f) b be5 (eB n w cls (some (.int (k : Nat))) x4 (some (.int (a : Nat))) x6 x7 x8 x9 x10 x11) (stp X n P1) = o → xSs (tb.glo f) b beA (eB n w cls (some (.int (k : Nat))) x4 x5 x6 x7 x8 x9 x10 x11) X = o := fun o ho => by
    unfold beA
    apply ss_nx
    · apply s_name'
      · apply e_call
        · (exists ln)
        · exact e1
      · exact rfl
    · exact ho
  by_cases k5 : k = 5
  · subst k5
    have q1 := g_to (s := stp X n P1) (cls := cls) (a := a) (by omega)
    have q2 := g_from (s := stp X n P1) (cls := cls) (a := a + 1) (by omega)
    have q3 := g_cat (s := stp X n P1) (as := cls.take a) (bs := cls.drop (a + 1)) (by simp; omega)
    have q5 := add_nat (s := stp X n P1) a 1
    have := small_mid hN a (bs := []) (by simp) (by simp)
    rw [List.append_nil] at this
    refine ⟨_, eB n w cls (some (.int ((5 : Nat) : Int))) x4 (some (.int (a : Nat))) x6 x7 x8 x9 x10 x11, P1, this, ?zx1⟩
    case zx1 =>
      apply start
      unfold be5
      apply ss_ret
      apply s_if1
      · (exists dec1 rfl)
      · apply ss_ret
        apply s_ret
        apply e_op
        · (exists q1)
        · (exists q5, q2)
        · exact q3
  · obtain ⟨c', e', P3, h1, h2, h3⟩ := be_p hd hp (hP.set (P' := P1)) (w := w) hN ha (k := k) (x4 := x4) (x6 := x6) (x7 := x7) (x8 := x8) (x9 := x9) (x10 := x10) (x11 := x11) (b := b)
    rw [stp2] at h3
    have n5 : cmpR (tb.glo f).gd .eq (.int (k : Nat)) (.int 5) (stp X n P1) = some false := by
      rw [En.eq_int]
      exact dec0 (by omega)
    refine ⟨_, e', P3, small_mid hN a (bs := [c']) (by simp) (fun c hc => by rw [List.mem_singleton.mp hc]; exact ⟨h1, h2⟩), ?_⟩
    apply start
    unfold be5
    apply ss_nx
    · apply s_if0
      · (exists n5)
      · exact ss_nil
    · exact h3
def be4 : ISs := (.cons (.ifs (.or (.e (.cmp .eq (.var 3) (.int 4))) (.e (.cmp .eq (.blt .len (.cons (.var 2) .nil)) (.int 0)))) (.cons (.ret (.lc [("k", 11)] (.name 11) (.rng1 (.call 12 (.cons (.var 0) (.cons (.int 3) .nil)))) .yes (.call 24 (.cons (.var 0) (.cons (.var 4) .nil))))) .nil) .nil) beA)
theorem be_4 (hd : DrawAt (f.fn 12)) (hp : PickD f) (hC : ClsOut f) {P : Int × Int × Int} (hP : Pol X n P) {w : MC.W} (hw : MC.WOk w) {cls : List (List (List Int))} (hN : Nice cls) {k : Nat} {x5 x6 x7 x8 x9 x10 x11 : Option D} {b : Nat} : ∃ cls' e' P', Small cls' ∧
    xSs (tb.glo f) b be4 (eB n w cls (some (.int (k : Nat))) (some (.int (w.B : Nat))) x5 x6 x7 x8 x9 x10 x11) X = .ok (.ret (.n (.lst (cls'.map eT))), e') (stp X n P') := by
  have ln : bltR .len [encG cls] X = some (.v (.int (cls.length : Nat))) := by
    rw [len_frz (d := encG cls) rfl, List.length_map]
  by_cases k4 : k = 4 ∨ cls.length = 0
  · obtain ⟨m, P1, hm, e1⟩ := draw_x hd hP b 3 (by decide) (by decide)
    obtain ⟨r, S', e2, cs, P2, hr, hl, hcs, hS⟩ := lcr_loop (g := itemF (tb.glo f) b [("k", 11)] (.name 11) .yes (.call 24 (.cons (.var 0) (.cons (.var 4) .nil))) (eB n w cls (some (.int (k : Nat))) (some (.int (w.B : Nat))) x5 x6 x7 x8 x9 x10 x11)) (N := m)
      (Q := fun k acc S => ∃ (cs : List (List (List Int))) (P' : Int × Int × Int), acc = cs.map eT ∧ cs.length = k ∧ (∀ c ∈ cs, c.length < 10000 ∧ ∀ p ∈ c, p.length < 10000) ∧ S = stp X n P')
      (fun i acc S hi hq => by
        obtain ⟨cs, P', rfl, hl, hm, rfl⟩ := hq
        obtain ⟨c, P2, hc1, hc2, e2⟩ := hC (hP.set (P' := P')) b w.B hw.b
        rw [stp2] at e2
        refine ⟨[eT c], _, ?_, cs ++ [c], P2, by simp, by simp [hl], fun a m => ?_, rfl⟩
        · apply b_lcB (r := .v (eT c))
          · apply g_name
            exact rfl
          · exact c_yes
          · apply e_call
            · (exists rfl)
            · exact e2
        · rcases List.mem_append.mp m with m | m
          · exact hm a m
          · rw [List.mem_singleton.mp m]
            exact ⟨by omega, fun p hp => by have := hc2 p hp; omega⟩) m 0 [] (stp X n P1) (by omega) ⟨[], P1, rfl, rfl, by simp, rfl⟩
    rw [List.nil_append] at hr
    subst hr hS
    refine ⟨cs, eB n w cls (some (.int (k : Nat))) (some (.int (w.B : Nat))) x5 x6 x7 x8 x9 x10 x11, P2, ⟨by omega, hcs⟩, ?zx2⟩
    case zx2 =>
      unfold be4
      apply ss_ret
      apply s_if1
      · by_cases h4 : k = 4
        · subst h4
          apply t_or1
          (exists dec1 rfl)
        · have n4 : cmpR (tb.glo f).gd .eq (.int (k : Nat)) (.int 4) X = some false := by
            rw [En.eq_int]
            exact dec0 (by omega)
          have z : cmpR (tb.glo f).gd .eq (.int (cls.length : Nat)) (.int 0) X = some true := by
            rw [eq0]
            exact dec1 (by omega)
          apply t_or0
          · (exists n4)
          · (exists ln, z)
      · apply ss_ret
        apply s_ret
        apply e_lcB
        · apply i_rng1
          · (exists e1)
          · exact rfl
          · omega
        · rw [rngL_len]; omega
        · exact e2
  · have n4 : cmpR (tb.glo f).gd .eq (.int (k : Nat)) (.int 4) X = some false := by
      rw [En.eq_int]
      exact dec0 (by omega)
    have z : cmpR (tb.glo f).gd .eq (.int (cls.length : Nat)) (.int 0) X = some false := by
      rw [eq0]
      exact dec0 (by omega)
    obtain ⟨cls', e', P', h1, h2⟩ := be_a hd hp hP (w := w) hN (by omega) (k := k) (x4 := some (.int (w.B : Nat))) (x5 := x5) (x6 := x6) (x7 := x7) (x8 := x8) (x9 := x9) (x10 := x10) (x11 := x11) (b := b)
    refine ⟨cls', e', P', h1, ?_⟩
    unfold be4
    apply ss_nx
    · apply s_if0
      · apply t_or0
        · (exists n4)
        · (exists ln, z)
      · exact ss_nil
    · exact h2
/-- the clause against the reset state -/
theorem lc_natD {G : Glo} {b : Nat} {w : MC.W} {cls : List (List (List Int))} {x4 x3 x5 x6 x7 x8 x9 x10 x11 : Option D} (ns : List Nat) : lcL (itemF G b [("k", 11)] (.name 11) .yes (.tup (.cons (.var 11) (.cons (.op .sub (.int 1) (.op .band (.op .shr (.ix (.var 1) (.int 3)) (.var 11)) (.int 1))) .nil))) (eB n w cls x3 x4 x5 x6 x7 x8 x9 x10 x11)) (wd ns) s = .ok ((ns.map fun k : Nat => [(k : Int), ((1 - w.R / 2 ^ k % 2 : Nat) : Int)]).map eP) s := by
  rw [List.map_map]
  refine lc_mapg (f := fun k : Nat => D.int (k : Nat)) (h := eP ∘ fun k : Nat => [(k : Int), ((1 - w.R / 2 ^ k % 2 : Nat) : Int)]) ns fun k _ => ?_
  show _ = Out.ok [D.tup [.int (k : Nat), .int ((1 - w.R / 2 ^ k % 2 : Nat) : Int)]] s
  have gR := (w_ix G.gd w s).2.2.2.1
  have sb : opR .sub (.int 1) (.int ((w.R / 2 ^ k % 2 : Nat) : Int)) s = some (.v (.int ((1 - w.R / 2 ^ k % 2 : Nat) : Int))) := sub_nat (a := 1) (by omega)
  have sh := shr_nat (s := s) w.R k
  have an := and1 (s := s) (w.R / 2 ^ k)
  apply b_lcB (r := .v (.tup [.int (k : Nat), .int ((1 - w.R / 2 ^ k % 2 : Nat) : Int)]))
  · apply g_name
    exact rfl
  · exact c_yes
  · apply Eq.trans
    · (exists gR, sh, an, sb)
    · exact rfl
def BentOut (f : Den) (w : MC.W) : Prop := ∀ {X : Store} {n : Nat} {P : Int × Int × Int}, Pol X n P → ∀ (b : Nat) {cls : List (List (List Int))}, Nice cls → ∃ cls' P', Small cls' ∧ callR (f.fn 25) b [.cell n, wObj w, encG cls] X = .ok (.n (.lst (cls'.map eT))) (stp X n P')
theorem bent_run (hd : DrawAt (f.fn 12)) (hp : PickD f) (hC : ClsOut f) (hO : OrdOut f) {P : Int × Int × Int} (hP : Pol X n P) {w : MC.W} (hw : MC.WOk w) (b : Nat) {cls : List (List (List Int))} (hN : Nice cls) : ∃ cls' P', Small cls' ∧
    i_law_bent.run (tb.glo f) b [.cell n, wObj w, encG cls] X = .ok (.n (.lst (cls'.map eT))) (stp X n P') := by
  rw [run_F rfl]
  have hl := hN.len
  have hs := hN.small
  obtain ⟨k, P1, hk, e1⟩ := draw_x hd hP X.length 11 (by decide) (by decide)
  have hP1 := hP.set (P' := P1)
  have gw := (w_ix (tb.glo f).gd w (stp X n P1)).2.2.1
  have gR := (w_ix (tb.glo f).gd w (stp X n P1)).2.2.2.1
  have fin : ∀ (cls' : List (List (List Int))) (e' : En.Env) (P' : Int × Int × Int), Small cls' → xSs (tb.glo f) X.length i_law_bent.d.body [some (.cell n), some (wObj w), some (encG cls), none, none, none, none, none, none, none, none, none] X = .ok (.ret (.n (.lst (cls'.map eT))), e') (stp X n P') → ∃ cls' P', Small cls' ∧ runF (tb.glo f) i_law_bent.d [.cell n, wObj w, encG cls] X = .ok (.n (.lst (cls'.map eT))) (stp X n P') := fun cls' e' P' h1 h2 => by
    refine ⟨cls', P', h1, ?_⟩
    apply run_ret rfl
    · exact h2
    · exact end_n sl (cbs_map (eT_cb _) cls')
  have start : ∀ o, xSs (tb.glo f) X.length (match i_law_bent.d.body with | .cons _ (.cons _ r) => r | _ => .nil) (eB n w cls (some (.int (k : Nat))) (some (.int (w.B : Nat))) none none none none none none none) (stp X n P1) = o → xSs (tb.glo f) X.length i_law_bent.d.body [some (.cell n), some (wObj w), some (encG cls), none, none, none, none, none, none, none, none, none] X = o := fun o ho => by
    unfold i_law_bent at ho ⊢
    apply ss_nx
    · (exists e1)
    apply ss_nx
    · (exists gw)
    · exact ho
  have ne : ∀ j : Nat, k ≠ j → cmpR (tb.glo f).gd .eq (.int (k : Nat)) (.int (j : Nat)) (stp X n P1) = some false := fun j h => by
    rw [En.eq_int]
    exact dec0 (by omega)
  by_cases k0 : k = 0
  · subst k0
    have q1 := g_to (s := stp X n P1) (cls := cls) (a := min 1 cls.length) (Nat.min_le_right _ _)
    have q1' : slR (encG cls) none (some 1) (stp X n P1) = some (.n (.lst ((cls.take (min 1 cls.length)).map eT))) := by
      by_cases h0 : cls.length = 0
      · have : cls = [] := List.eq_nil_of_length_eq_zero h0
        subst this
        rfl
      · rw [Nat.min_eq_left (by omega)] at q1 ⊢
        exact q1
    have q2 := g_cat (s := stp X n P1) (as := cls) (bs := cls.take (min 1 cls.length)) (by simp; omega)
    obtain ⟨ds, P2, hp2, e2⟩ := hO hP1 X.length ((cls ++ cls.take (min 1 cls.length)).map eT) (by simp; omega) (cbs_map (eT_cb 0) _)
    rw [stp2] at e2
    obtain ⟨cls', rfl, hm⟩ := imgs (cls := cls ++ cls.take (min 1 cls.length)) (ds := ds) fun d m => hp2.mem_iff.mp m
    have hlen : cls'.length = (cls ++ cls.take (min 1 cls.length)).length := by
      have := hp2.length_eq
      simpa using this
    refine fin cls' (eB n w cls (some (.int ((0 : Nat) : Int))) (some (.int (w.B : Nat))) none none none none none none none) P2 ⟨?l0, fun c hc => ?c0⟩ ?x0
    case l0 =>
      rw [hlen]
      simp
      omega
    case c0 =>
      rcases List.mem_append.mp (hm c hc) with h | h
      · exact hs.2 c h
      · exact hs.2 c (List.mem_of_mem_take h)
    case x0 =>
      apply start
      apply ss_ret
      apply s_if1
      · (exists dec1 rfl)
      · apply ss_ret
        apply s_ret
        apply e_call
        · apply es_cons
          · (exists rfl)
          · apply es_cons
            · apply e_op
              · (exists rfl)
              · (exists q1')
              · exact q2
            · exact es_nil
        · exact e2
  have n0 := ne 0 k0
  by_cases k1 : k = 1
  · subst k1
    have q2 := g_cat (s := stp X n P1) (as := cls) (bs := [[]]) (by simp; omega)
    refine fin (cls ++ [[]]) (eB n w cls (some (.int ((1 : Nat) : Int))) (some (.int (w.B : Nat))) none none none none none none none) P1 (small_app hs (by omega) (by simp) (by simp)) ?x1
    case x1 =>
      apply start
      apply ss_nx
      · apply s_if0
        · (exists n0)
        · exact ss_nil
      apply ss_ret
      apply s_if1
      · (exists dec1 rfl)
      · apply ss_ret
        apply s_ret
        apply e_op
        · (exists rfl)
        · (exists rfl)
        · exact q2
  have n1 := ne 1 k1
  by_cases k2 : k = 2
  · subst k2
    have hb8 := hw.b
    have q2 := g_cat (s := stp X n P1) (as := cls) (bs := [(List.range w.B).map fun k : Nat => [(k : Int), ((1 - w.R / 2 ^ k % 2 : Nat) : Int)]]) (by simp; omega)
    refine fin (cls ++ [(List.range w.B).map fun k : Nat => [(k : Int), ((1 - w.R / 2 ^ k % 2 : Nat) : Int)]]) (eB n w cls (some (.int ((2 : Nat) : Int))) (some (.int (w.B : Nat))) none none none none none none none) P1 (small_app hs (by omega) (by simp) (fun c hc => ?c2)) ?x2
    case c2 =>
      rw [List.mem_singleton.mp hc]
      refine ⟨by simp; omega, fun p hp => ?_⟩
      obtain ⟨k, _, rfl⟩ := List.mem_map.mp hp
      simp
    case x2 =>
      apply start
      apply ss_nx
      · apply s_if0
        · (exists n0)
        · exact ss_nil
      apply ss_nx
      · apply s_if0
        · (exists n1)
        · exact ss_nil
      apply ss_ret
      apply s_if1
      · (exists dec1 rfl)
      · apply ss_ret
        apply s_ret
        apply e_op
        · (exists rfl)
        · apply e_lst
          · apply es_cons
            · apply e_blt
              · apply es_cons
                · apply e_lcB
                  · apply i_rng1 (n := w.B)
                    · (exists rfl)
                    · exact rfl
                    · omega
                  · rw [rngL_len]; omega
                  · rw [rng0_wd]; exact lc_natD (List.range w.B)
                · exact es_nil
              · exact tup_l _
            · exact es_nil
          · exact Nat.le_of_ble_eq_true rfl
        · exact q2
  have n2 := ne 2 k2
  by_cases k3 : k = 3
  · subst k3
    obtain ⟨d, P2, hdm, e2⟩ := pick_d hp hP1 X.length [.int (w.B : Nat), .int ((w.B + 1 : Nat) : Int), .int (-1), .int 1000000000, .int 1000000000000000000000000000000] (by simp) (by simp) rfl
    rw [stp2] at e2
    obtain ⟨y, rfl⟩ : ∃ y : Int, d = .int y := by
      simp only [List.mem_cons, List.not_mem_nil, or_false] at hdm
      rcases hdm with rfl | rfl | rfl | rfl | rfl <;> exact ⟨_, rfl⟩
    obtain ⟨z, P3, hz, e3⟩ := draw_x hd (hP.set (P' := P2)) X.length 2 (by decide) (by decide)
    rw [stp2] at e3
    have pw : opR .pow (.int 10) (.int 30) (stp X n P1) = some (.v (.int 1000000000000000000000000000000)) := rfl
    have pw9 : opR .pow (.int 10) (.int 9) (stp X n P1) = some (.v (.int 1000000000)) := rfl
    have ad := add_nat (s := stp X n P1) w.B 1
    have q2 := g_cat (s := stp X n P3) (as := cls) (bs := [[[y, (z : Int)]]]) (by simp; omega)
    refine fin (cls ++ [[[y, (z : Int)]]]) (eB n w cls (some (.int ((3 : Nat) : Int))) (some (.int (w.B : Nat))) none none none none none none none) P3 (small_app hs (by omega) (by simp) (by simp)) ?x3
    case x3 =>
      apply start
      apply ss_nx
      · apply s_if0
        · (exists n0)
        · exact ss_nil
      apply ss_nx
      · apply s_if0
        · (exists n1)
        · exact ss_nil
      apply ss_nx
      · apply s_if0
        · (exists n2)
        · exact ss_nil
      apply ss_ret
      apply s_if1
      · (exists dec1 rfl)
      · apply ss_ret
        apply s_ret
        apply e_op
        · (exists rfl)
        · apply e_lst
          · apply es_cons
            · apply e_tup
              · apply es_cons
                · apply e_tup
                  · apply es_cons
                    · apply e_call
                      · (exists ad, pw9, pw)
                      · exact e2
                    · apply es_cons
                      · apply e_call
                        · (exists rfl)
                        · exact e3
                      · exact es_nil
                  · exact Nat.le_of_ble_eq_true rfl
                · exact es_nil
              · exact Nat.le_of_ble_eq_true rfl
            · exact es_nil
          · exact Nat.le_of_ble_eq_true rfl
        · exact q2
  have n3 := ne 3 k3
  obtain ⟨cls', e', P', h1, h2⟩ := be_4 hd hp hC hP1 hw hN (k := k) (x5 := none) (x6 := none) (x7 := none) (x8 := none) (x9 := none) (x10 := none) (x11 := none) (b := X.length)
  rw [stp2] at h2
  refine fin cls' e' P' h1 ?_
  apply start
  apply ss_nx
  · apply s_if0
    · (exists n0)
    · exact ss_nil
  apply ss_nx
  · apply s_if0
    · (exists n1)
    · exact ss_nil
  apply ss_nx
  · apply s_if0
    · (exists n2)
    · exact ss_nil
  apply ss_nx
  · apply s_if0
    · (exists n3)
    · exact ss_nil
  · exact h2
end K19

set_option Elab.async false
set_option linter.all false
set_option maxRecDepth 100000
set_option maxHeartbeats 1000000
namespace En
open PySem PySem.Spec PyProof.Rows L2
theorem e_make {G : Glo} {b c : Nat} {es : IEs} {xs : List D} {e : En.Env} {s s1 s2 : Store} {fs : List (Str × D)} (h : xEs G b es e s = .ok xs s1) (h2 : G.ini c s1.length (.cell s1.length :: xs) (s1 ++ [.ins c []]) = .ok (.v .non) s2) (h3 : s2[s1.length]? = some (.ins c fs)) (h4 : cbf s1.length fs = true) : xE G b (.make c es) e s = .ok (.n (.ins c fs)) (s2.take s1.length) := by
  simp only [xE, xEs] at *
  simp only [evE, h, Out.bind_ok, h2, h3, h4, decide_true, Bool.and_self, if_true]
theorem putA_at {s : Store} {b n c : Nat} {fs : List (Str × D)} {na : Nat → Str → Bool} {x : Str} {d : D} (h : s[n]? = some (.ins c fs)) (hn : na c x = true) (hw : okW b n d = true) (hl : fs.length < 900) : setF na b (.cell n) x d s = .ok () (s.set n (.ins c (putA x d fs))) := by
  have hl : decide (fs.length < 900) = true := by simp [hl]
  simp only [setF, h, hn, hw, hl, Bool.and_self, if_true]
theorem fld_cell {s : Store} {na : Nat → Str → Bool} {q c : Nat} {fs : List (Str × D)} {f : Str} {d : D} (h : s[q]? = some (.ins c fs)) (hn : na c f = true) (hf : fs.lookup f = some d) : fldR na (.cell q) f s = some (.v d) := by
  simp only [fldR, objOf, h, Option.bind_some, hn, if_true, hf, Option.map_some]
end En
namespace K19
open PySem PySem.Spec PyProof.Rows L2 En
open MC (isT allT inAll diffC short short1 shortL shortL1 clsFor clsStep rowsOf succs add1 addNew bfs okP okC toN judged inv)
variable {s X : Store} {f : Den} {n : Nat}
def mFs (w : MC.W) : List (Str × D) := [("inputs", .int (w.I : Nat)), ("outputs", .int (w.O : Nat)), ("state_bits", .int (w.B : Nat)), ("reset", .int (w.R : Nat)), ("rows", .tup (encC w.rows))]
theorem na_ok (x : Str) (h : x ∈ (["inputs", "outputs", "state_bits", "reset", "rows"] : List Str)) : (tb.glo f).na 0 x = true := by
  simp only [List.mem_cons, List.not_mem_nil, or_false] at h
  rcases h with rfl | rfl | rfl | rfl | rfl <;> rfl
theorem counts_run (b : Nat) {w : MC.W} (hw : MC.WOk w) : i_check_counts.run (tb.glo f) b [.int (w.I : Nat), .int (w.O : Nat), .int (w.B : Nat)] s = .ok (.v .non) s := by
  rw [run_F rfl]
  have h1 := hw.i
  have h2 := hw.o
  have h3 := hw.b
  have h4 := hw.j
  have q1 : cmpR (tb.glo f).gd .gt (.int (w.I : Nat)) (.int 4) s = some false := (En.gt_int _ _).trans (dec0 (by omega))
  have q2 : cmpR (tb.glo f).gd .gt (.int (w.O : Nat)) (.int 24) s = some false := (En.gt_int _ _).trans (dec0 (by omega))
  have q3 : cmpR (tb.glo f).gd .gt (.int (w.B : Nat)) (.int 8) s = some false := (En.gt_int _ _).trans (dec0 (by omega))
  have q4 : cmpR (tb.glo f).gd .gt (.int ((w.B + 2 * w.I : Nat) : Int)) (.int 12) s = some false := (En.gt_int _ _).trans (dec0 (by omega))
  have m : opR .mul (.int 2) (.int (w.I : Nat)) s = some (.v (.int ((2 * w.I : Nat) : Int))) := mul_nat 2 w.I (by decide)
  have a := add_nat (s := s) w.B (2 * w.I)
  apply run_of (c := .nx) rfl
  · unfold i_check_counts
    show xSs _ _ _ [some (.int (w.I : Nat)), some (.int (w.O : Nat)), some (.int (w.B : Nat))] _ = _
    apply ss_nx
    · apply s_if0
      · apply t_e
        · apply e_cmp
          · (exists rfl)
          · exact e_gl
          · exact q1
        · exact rfl
      · exact ss_nil
    apply ss_nx
    · apply s_if0
      · apply t_e
        · apply e_cmp
          · (exists rfl)
          · exact e_gl
          · exact q2
        · exact rfl
      · exact ss_nil
    apply ss_nx
    · apply s_if0
      · apply t_e
        · apply e_cmp
          · (exists rfl)
          · exact e_gl
          · exact q3
        · exact rfl
      · exact ss_nil
    apply ss_nx
    · apply s_if0
      · apply t_e
        · apply e_cmp
          · (exists m, a)
          · exact e_gl
          · exact q4
        · exact rfl
      · exact ss_nil
    · exact ss_nil
  · simp [endR]
def hrB : ISs := (.cons (.ifs (.or (.not (.e (.chain .le .lt (.int 0) (.var 2) (.op .shl (.int 1) (.fld (.var 0) "outputs"))))) (.not (.e (.chain .le .lt (.int 0) (.var 3) (.var 1))))) (.cons (.ret (.bl false))
    .nil) .nil)
    .nil)
theorem rows_right (b : Nat) {w : MC.W} (hw : MC.WOk w) (hs : s[n]? = some (.ins 0 (mFs w))) : i_Machine_has_right_rows.run (tb.glo f) b [.cell n] s = .ok (.v (.bl true)) s := by
  rw [run_F rfl]
  have fB := fld_cell (na := (tb.glo f).na) (f := "state_bits") (d := .int (w.B : Nat)) hs (na_ok "state_bits" (by simp)) rfl
  have fI := fld_cell (na := (tb.glo f).na) (f := "inputs") (d := .int (w.I : Nat)) hs (na_ok "inputs" (by simp)) rfl
  have fO := fld_cell (na := (tb.glo f).na) (f := "outputs") (d := .int (w.O : Nat)) hs (na_ok "outputs" (by simp)) rfl
  have fR := fld_cell (na := (tb.glo f).na) (f := "reset") (d := .int (w.R : Nat)) hs (na_ok "reset" (by simp)) rfl
  have fr := fld_cell (na := (tb.glo f).na) (f := "rows") (d := .tup (encC w.rows)) hs (na_ok "rows" (by simp)) rfl
  have h1 := hw.i
  have h2 := hw.o
  have h3 := hw.b
  have shB := shl1 (s := s) w.B (by omega)
  have shO := shl1 (s := s) w.O (by omega)
  have ad := add_nat (s := s) w.B w.I
  have shN := shl1 (s := s) (w.B + w.I) (by omega)
  have ln : bltR .len [.tup (encC w.rows)] s = some (.v (.int ((2 ^ (w.B + w.I) : Nat) : Int))) := by
    rw [len_frz (d := .tup (encC w.rows)) rfl]
    simp [encC, hw.len]
  have ne : cmpR (tb.glo f).gd .ne (.int ((2 ^ (w.B + w.I) : Nat) : Int)) (.int ((2 ^ (w.B + w.I) : Nat) : Int)) s = some false := by rw [En.ne_int]; simp
  have c0 : ∀ x : Nat, cmpR (tb.glo f).gd .le (.int 0) (.int (x : Nat)) s = some true := fun x => (le_int _ _).trans (dec1 (by omega))
  have cl : ∀ x y : Nat, x < y → cmpR (tb.glo f).gd .lt (.int (x : Nat)) (.int (y : Nat)) s = some true := fun x y h => (lt_int _ _).trans (dec1 (by omega))
  have L := forL_all (R := fun d (p : Nat × Nat) => d = encP p) (P := fun _ => true) (I := fun e => ∃ e2 e3, e = [some (.cell n), some (.int ((2 ^ w.B : Nat) : Int)), e2, e3]) (f := bodyF (tb.glo f) s.length (.tup (.cons (.name 2) (.cons (.name 3) .nil))) hrB) (s := s) (encC w.rows) w.rows (by
    have := All2.map (R := fun d (p : Nat × Nat) => d = encP p) (f := encP) (fun _ => rfl) w.rows
    exact this) (fun d p e hd hm he => by
      subst hd
      obtain ⟨e2, e3, rfl⟩ := he
      obtain ⟨p1, p2⟩ := hw.all p hm
      simp only [if_true]
      refine ⟨_, ?_, some (.int (p.1 : Nat)), some (.int (p.2 : Nat)), rfl⟩
      unfold hrB
      apply b_forB
      · unfold encP
        (exists rfl)
      apply ss_nx
      · apply s_if0
        · apply t_or0
          · apply t_not1
            apply t_e
            · apply e_chain1
              · (exists rfl)
              · (exists rfl)
              · exact c0 p.1
              · (exists fO, shO)
              · exact cl _ _ p1
            · exact rfl
          · apply t_not1
            apply t_e
            · apply e_chain1
              · (exists rfl)
              · (exists rfl)
              · exact c0 p.2
              · (exists rfl)
              · exact cl _ _ p2
            · exact rfl
        · exact ss_nil
      · exact ss_nil) [some (.cell n), some (.int ((2 ^ w.B : Nat) : Int)), none, none] ⟨none, none, rfl⟩
  have ha : w.rows.all (fun _ => true) = true := by simp
  rw [ha, if_pos rfl] at L
  obtain ⟨e', L, e2, e3, rfl⟩ := L
  apply run_ret rfl
  · unfold i_Machine_has_right_rows
    show xSs _ _ _ [some (.cell n), none, none, none] _ = _
    apply ss_nx
    · (exists fB, shB)
    apply ss_nx
    · apply s_if0
      · apply t_or0
        · (exists fr, ln, fB, fI, ad, shN, ne)
        · apply t_not1
          apply t_e
          · apply e_chain1
            · (exists rfl)
            · (exists fR)
            · exact c0 w.R
            · (exists rfl)
            · exact cl _ _ hw.r
          · exact rfl
      · exact ss_nil
    apply ss_nx
    · apply s_forB
      · (exists fr)
      · exact L
    · (exists rfl)
  · exact end_bl rfl
def T10 (f : Den) (w : MC.W) : Prop := f.fn 10 0 [.int (w.I : Nat), .int (w.O : Nat), .int (w.B : Nat)] [] = .ok (.v .non) []
def T30 (f : Den) (w : MC.W) : Prop := ∀ (b n : Nat) (S : Store), S[n]? = some (.ins 0 (mFs w)) → f.fn 30 b [.cell n] S = .ok (.v (.bl true)) S
theorem set_app {Y : Store} {o o' : O} : (Y ++ [o]).set Y.length o' = Y ++ [o'] := by simp
theorem get_app {Y : Store} {o : O} : (Y ++ [o])[Y.length]? = some o := by simp
theorem init_run {w : MC.W} (hw : MC.WOk w) (h10 : T10 f w) (h30 : T30 f w) (Y : Store) : runK (tb.glo f) Y.length i_Machine___init__.d [.cell Y.length, .int (w.I : Nat), .int (w.O : Nat), .int (w.B : Nat), .int (w.R : Nat), .lst (encC w.rows)] (Y ++ [.ins 0 []]) = .ok (.v .non) (Y ++ [.ins 0 (mFs w)]) := by
  have h1 := hw.i
  have h3 := hw.b
  have hlen : w.rows.length ≤ 100000 := by
    rw [hw.len]
    have : 2 ^ (w.B + w.I) ≤ 2 ^ 12 := pow_le (by omega)
    omega
  have c10 := fun S : Store => callR_of (b := Y.length) (s := S) (by rfl : cbs 0 [D.int (w.I : Nat), .int (w.O : Nat), .int (w.B : Nat)] = true) h10
  have st : ∀ (x : Str) (d : D) (fs : List (Str × D)), x ∈ (["inputs", "outputs", "state_bits", "reset", "rows"] : List Str) → fs.length < 900 → setF (tb.glo f).na Y.length (.cell Y.length) x d (Y ++ [.ins 0 fs]) = .ok () (Y ++ [.ins 0 (putA x d fs)]) := fun x d fs hx hl => by
    rw [putA_at get_app (na_ok x hx) (okW_own d (Nat.le_refl _)) hl, set_app]
  have s1 := st "inputs" (.int (w.I : Nat)) [] (by simp) (by simp)
  have s2 := st "outputs" (.int (w.O : Nat)) [("inputs", .int (w.I : Nat))] (by simp) (by simp)
  have s3 := st "state_bits" (.int (w.B : Nat)) [("inputs", .int (w.I : Nat)), ("outputs", .int (w.O : Nat))] (by simp) (by simp)
  have s4 := st "reset" (.int (w.R : Nat)) [("inputs", .int (w.I : Nat)), ("outputs", .int (w.O : Nat)), ("state_bits", .int (w.B : Nat))] (by simp) (by simp)
  have s5 := st "rows" (.tup (encC w.rows)) [("inputs", .int (w.I : Nat)), ("outputs", .int (w.O : Nat)), ("state_bits", .int (w.B : Nat)), ("reset", .int (w.R : Nat))] (by simp) (by simp)
  have lc := lc_mapg (f := encP) (h := encP) (g := itemF (tb.glo f) Y.length [("row", 6)] (.name 6) .yes (.blt .tuple (.cons (.var 6) .nil)) [some (.cell Y.length), some (.int (w.I : Nat)), some (.int (w.O : Nat)), some (.int (w.B : Nat)), some (.int (w.R : Nat)), some (.lst (encC w.rows)), none]) (s := Y ++ [.ins 0 [("inputs", .int (w.I : Nat)), ("outputs", .int (w.O : Nat)), ("state_bits", .int (w.B : Nat)), ("reset", .int (w.R : Nat))]]) w.rows fun p _ => by
    apply b_lcB (r := .v (encP p))
    · apply g_name
      exact rfl
    · exact c_yes
    · (exists tup_t [D.int (p.1 : Nat), .int (p.2 : Nat)])
  have c30 : callR ((tb.glo f).fn 30) Y.length [.cell Y.length] (Y ++ [.ins 0 (mFs w)]) = .ok (.v (.bl true)) (Y ++ [.ins 0 (mFs w)]) := callR_at (by simp [cbs, cb]) (h30 _ _ _ get_app)
  have ob : objOf (Y ++ [.ins 0 (mFs w)]) (.cell Y.length) = some (0, mFs w) := by simp only [objOf, get_app]
  apply runK_nx rfl
  · unfold i_Machine___init__
    show xSs _ _ _ [some (.cell Y.length), some (.int (w.I : Nat)), some (.int (w.O : Nat)), some (.int (w.B : Nat)), some (.int (w.R : Nat)), some (.lst (encC w.rows)), none] _ = _
    apply ss_nx
    · (exists c10 _)
    apply ss_nx
    · (exists s1)
    apply ss_nx
    · (exists s2)
    apply ss_nx
    · (exists s3)
    apply ss_nx
    · (exists s4)
    apply ss_nx
    · apply s_fld
      · apply e_blt
        · apply es_cons
          · apply e_lcB
            · (exists rfl)
            · simpa [encC] using hlen
            · exact lc
          · exact es_nil
        · exact tup_l _
      · (exists rfl)
      · exact s5
    apply ss_nx
    · apply s_if0
      · apply t_not1
        apply t_e
        · apply e_mcall
          · (exists rfl)
          · exact ob
          · exact rfl
          · exact rfl
          · exact es_nil
          · exact c30
        · exact rfl
      · exact ss_nil
    · exact ss_nil
def TI (f : Den) (w : MC.W) : Prop := ∀ Y : Store, f.ini 0 Y.length [.cell Y.length, .int (w.I : Nat), .int (w.O : Nat), .int (w.B : Nat), .int (w.R : Nat), .lst (encC w.rows)] (Y ++ [.ins 0 []]) = .ok (.v .non) (Y ++ [.ins 0 (mFs w)])
/-- a machine is made -/
theorem make_m {w : MC.W} (hi : TI f w) {b : Nat} {es : IEs} {e : En.Env} {s s1 : Store} (h : xEs (tb.glo f) b es e s = .ok [.int (w.I : Nat), .int (w.O : Nat), .int (w.B : Nat), .int (w.R : Nat), .lst (encC w.rows)] s1) : xE (tb.glo f) b (.make 0 es) e s = .ok (.n (.ins 0 (mFs w))) s1 := by
  have := e_make (G := tb.glo f) h (hi s1) get_app (by simp [mFs, cbf, cb, encC_cb])
  rw [this]
  simp
theorem m_d (w : MC.W) : (R.n (.ins 0 (mFs w))).d = mObj w := rfl
end K19

set_option Elab.async false
set_option linter.all false
set_option maxRecDepth 100000
set_option maxHeartbeats 1000000
namespace K19
open PySem PySem.Spec PyProof.Rows L2 En
open MC (isT allT inAll diffC short short1 shortL shortL1 clsFor clsStep rowsOf succs add1 addNew bfs okP okC toN judged inv ofN)
variable {s X : Store} {f : Den} {n : Nat}
/-- a closed set of states -/
structure Cl (w : MC.W) (st : List Nat) : Prop where
  nd : st.Nodup
  lt : ∀ x ∈ st, x < 2 ^ w.B
  r : w.R ∈ st
  cl : ∀ s ∈ st, ∀ x ∈ succs w s, x ∈ st
theorem cl_of {w : MC.W} (hw : MC.WOk w) {l : List Nat} (hl : ∀ x ∈ l, x < 2 ^ w.B) : Cl w (bfs w 256 0 (addNew [] (w.R :: l))) := by
  have h1 : (addNew [] (w.R :: l)).Nodup := MC.addNew_nodup List.nodup_nil
  have h2 : ∀ x ∈ addNew [] (w.R :: l), x < 2 ^ w.B := fun x hx => by
    rcases MC.addNew_mem.mp hx with hx | hx
    · cases hx
    · rcases List.mem_cons.mp hx with rfl | hx
      · exact hw.r
      · exact hl x hx
  obtain ⟨a, b⟩ := MC.bfs_ok hw 256 0 _ h1 h2
  refine ⟨a, b, ?_, MC.bfs_closed hw 256 0 _ h1 h2 (by omega) (fun i s hi => by omega)⟩
  obtain ⟨r, hr⟩ := MC.bfs_pre (w := w) 256 0 (addNew [] (w.R :: l))
  rw [hr]
  exact List.mem_append.mpr (.inl (MC.addNew_mem.mpr (.inr (by simp))))
theorem add_one (x : Nat) : addNew [] [x] = [x] := by simp [MC.addNew, MC.add1]
theorem Cl.len {w : MC.W} (hw : MC.WOk w) {st : List Nat} (h : Cl w st) : st.length ≤ 256 := by
  have := MC.nodup_le _ st h.nd h.lt
  have := pow_le (b := w.B) (c := 8) hw.b
  omega
theorem cls_len (st : List Nat) (B : Nat) : ∀ (ts : List Nat) (cs : List (List (Nat × Nat))), (∀ c ∈ cs, c.length ≤ B) → ∀ c ∈ ts.foldl (clsStep st B) cs, c.length ≤ B
  | [], cs, h => h
  | t :: ts, cs, h => by
    refine cls_len st B ts _ fun c hc => ?_
    unfold clsStep at hc
    split at hc
    · rcases List.mem_append.mp hc with hc | hc
      · exact h c hc
      · rw [List.mem_singleton.mp hc]
        have := short_len st (diffC t B) (diffC t B)
        have e : (diffC t B).length = B := by simp [MC.diffC]
        unfold MC.short
        omega
    · exact h c hc
theorem nice_of {w : MC.W} (hw : MC.WOk w) {st : List Nat} (h : Cl w st) : Nice (ofN (clsFor st w.B)) := by
  have F := MC.cls_for h.lt
  have p8 := pow_le (b := w.B) (c := 8) hw.b
  refine ⟨by have := F.len; simp only [MC.ofN, List.length_map]; omega, fun c hc => ?_, fun c hc p hp => ?_⟩
  · obtain ⟨c', hc', rfl⟩ := List.mem_map.mp hc
    refine ⟨fun e => ?_, ?_⟩
    · have e : c' = [] := List.map_eq_nil_iff.mp e
      subst e
      have := F.inn [] hc'
      unfold MC.inAll at this
      rw [List.all_eq_true] at this
      have := this w.R h.r
      cases this
    · have := cls_len st w.B (List.range (2 ^ w.B)) [] (by simp) c' hc'
      have := hw.b
      simp only [List.length_map]
      omega
  · obtain ⟨c', hc', rfl⟩ := List.mem_map.mp hc
    obtain ⟨p', hp', rfl⟩ := List.mem_map.mp hp
    rfl
theorem judged_cl {w : MC.W} (hw : MC.WOk w) {st : List Nat} (h : Cl w st) : judged w (ofN (clsFor st w.B)) = true := by
  rw [MC.judged_ofN (MC.cls_for h.lt).ok]
  exact MC.inv_closed hw h.lt h.r h.cl
theorem judged_nil (w : MC.W) : judged w [] = true := by
  simp [MC.judged, MC.okC, MC.inv, MC.allT]
/-- a machine with one row bent -/
def bentW (w : MC.W) (a x : Nat) : MC.W := { w with rows := w.rows.take a ++ [((w.rows.getD a (0, 0)).1, x)] ++ w.rows.drop (a + 1) }
theorem bentW_ok {w : MC.W} (hw : MC.WOk w) {a x : Nat} (ha : a < w.rows.length) (hx : x < 2 ^ w.B) : MC.WOk (bentW w a x) := by
  refine ⟨hw.i, hw.o, hw.b, hw.j, hw.r, ?_, fun p hp => ?_⟩
  · show (w.rows.take a ++ [_] ++ w.rows.drop (a + 1)).length = 2 ^ (w.B + w.I)
    rw [← hw.len]
    simp
    omega
  · have hp : p ∈ w.rows.take a ++ [((w.rows.getD a (0, 0)).1, x)] ++ w.rows.drop (a + 1) := hp
    rcases List.mem_append.mp hp with hp | hp
    · rcases List.mem_append.mp hp with hp | hp
      · exact hw.all p (List.mem_of_mem_take hp)
      · rw [List.mem_singleton.mp hp]
        refine ⟨?_, hx⟩
        have : w.rows.getD a (0, 0) ∈ w.rows := by
          rw [List.getD_eq_getElem?_getD, List.getElem?_eq_getElem ha]
          exact List.getElem_mem ha
        exact (hw.all _ this).1
    · exact hw.all p (List.mem_of_mem_drop hp)
theorem bentW_get {w : MC.W} {a x : Nat} (ha : a < w.rows.length) : (bentW w a x).rows[a]? = some ((w.rows.getD a (0, 0)).1, x) := by
  show (w.rows.take a ++ [_] ++ w.rows.drop (a + 1))[a]? = _
  rw [List.append_assoc, List.getElem?_append_right (by simp; omega)]
  have : a - (w.rows.take a).length = 0 := by simp; omega
  rw [this]
  rfl
theorem judged_bent {w : MC.W} (hw : MC.WOk w) {st : List Nat} (h : Cl w st) {t j x : Nat} (ht : t ∈ st) (hj : j < 2 ^ w.I) (hx : x < 2 ^ w.B) (hn : x ∉ st) : judged (bentW w (t * 2 ^ w.I + j) x) (ofN (clsFor st w.B)) = false := by
  have hlt := h.lt t ht
  have hb := rows_bound hw hlt
  rw [Nat.succ_mul] at hb
  have ha : t * 2 ^ w.I + j < w.rows.length := by omega
  have hw2 := bentW_ok hw ha hx
  rw [MC.judged_ofN (w := bentW w (t * 2 ^ w.I + j) x) (MC.cls_for h.lt).ok]
  refine MC.inv_open hw2 (st := st) h.lt (s := t) (x := x) ht ?_ hn
  have hg := bentW_get (w := w) (x := x) ha
  show x ∈ (rowsOf (bentW w (t * 2 ^ w.I + j) x) t).map (·.2)
  refine List.mem_map.mpr ⟨_, List.mem_of_getElem? (i := j) (?_ : _ = some ((w.rows.getD (t * 2 ^ w.I + j) (0, 0)).1, x)), rfl⟩
  show (((bentW w (t * 2 ^ w.I + j) x).rows.drop (t * 2 ^ w.I)).take (2 ^ w.I))[j]? = _
  rw [List.getElem?_take, if_pos hj, List.getElem?_drop]
  exact hg
theorem encG_ofN (cs : List (List (Nat × Nat))) : encG (ofN cs) = .lst (encCs cs) := by
  simp only [encG, encCs, MC.ofN, List.map_map]
  congr 1
  apply List.map_congr_left
  intro c _
  simp only [Function.comp, eT, encC, List.map_map]
  rfl
end K19

set_option Elab.async false
set_option linter.all false
set_option maxRecDepth 100000
set_option maxHeartbeats 1000000
namespace K19
open PySem PySem.Spec PyProof.Rows L2 En
open MC (isT allT inAll diffC short short1 shortL shortL1 clsFor clsStep rowsOf succs add1 addNew bfs okP okC toN judged inv ofN)
variable {s X : Store} {f : Den} {n : Nat}
structure All (f : Den) : Prop where
  draw : DrawAt (f.fn 12)
  pick : PickD f
  same : SameOk 3 (f.fn 15)
  closed : ∀ {w : MC.W}, MC.WOk w → ∀ st : List Nat, (∀ x ∈ st, x < 2 ^ w.B) → st.length < 500 → f.fn 22 0 [wObj w, .lst (wd st)] [] = .ok (.n (.lst (wd (bfs w 256 0 (addNew [] st))))) []
  cfor : ∀ (B : Nat), B ≤ 8 → ∀ st : List Nat, st.length < 1000 → f.fn 21 0 [.lst (wd st), .int (B : Nat)] [] = .ok (.n (.lst (encCs (clsFor st B)))) []
  cof : ∀ {w : MC.W}, MC.WOk w → f.fn 7 0 [mObj w] [] = .ok (.n (.lst (encCs (clsFor (bfs w 256 0 [w.R]) w.B)))) []
  said : ∀ {w : MC.W}, MC.WOk w → ∀ {X : Store} {n : Nat} {P : Int × Int × Int}, Pol X n P → ∀ (b : Nat) {cls : List (List (List Int))}, Small cls → ∃ P', f.fn 26 b [.cell n, mObj w, encG cls, .bl (judged w cls)] X = .ok (.v (.bl true)) (stp X n P')
  jud : ∀ {w : MC.W}, MC.WOk w → ∀ {cls : List (List (List Int))}, Small cls → f.fn 23 0 [wObj w, encG cls] [] = .ok (.v (.bl (judged w cls))) []
  bent : ∀ {w : MC.W}, MC.WOk w → BentOut f w
  ini : ∀ {w : MC.W}, MC.WOk w → TI f w
def E15 (n : Nat) (w : MC.W) (x3 x4 x5 x6 x7 x8 x9 x10 x11 x12 x13 : Option D) : En.Env := [some (.cell n), some (mObj w), some (wObj w), x3, x4, x5, x6, x7, x8, x9, x10, x11, x12, x13, none]
def riB : ISs := (.cons (.asg (.name 9) (.call 25 (.cons (.var 0) (.cons (.var 2) (.cons (.var 7) .nil)))))
    (.cons (.ifs (.not (.e (.call 26 (.cons (.var 0) (.cons (.var 1) (.cons (.var 9) (.cons (.call 23 (.cons (.var 2) (.cons (.var 9) .nil))) .nil))))))) (.cons (.ret (.bl false))
    .nil) .nil)
    .nil))
theorem said_x (hA : All f) {w : MC.W} (hw : MC.WOk w) {P : Int × Int × Int} (hP : Pol X n P) (b : Nat) {cls : List (List (List Int))} (hS : Small cls) : ∃ P', callR (f.fn 26) b [.cell n, mObj w, encG cls, .bl (judged w cls)] X = .ok (.v (.bl true)) (stp X n P') := by
  obtain ⟨P', e⟩ := hA.said hw hP b hS
  exact ⟨P', callR_at (by simp [cbs, cb]) e⟩
/-- not said false: go on -/
theorem s_said {G : Glo} {b : Nat} {t : IE} {e : En.Env} {s s1 : Store} (h : xE G b t e s = .ok (.v (.bl true)) s1) : xS G b (.ifs (.not (.e t)) (.cons (.ret (.bl false)) .nil) .nil) e s = .ok (.nx, e) s1 := s_if0 (t_not1 (t_e h rfl)) ss_nil
theorem ri_loop (hA : All f) {w : MC.W} (hw : MC.WOk w) {cls : List (List (List Int))} (hN : Nice cls) {b : Nat} {x3 x4 x5 x6 : Option D} {P : Int × Int × Int} (hP : Pol X n P) : ∃ x8 x9 P', forL (bodyF (tb.glo f) b (.name 8) riB) (rngL 0 5) (E15 n w x3 x4 x5 x6 (some (encG cls)) none none none none none none) X = .ok (.nx, E15 n w x3 x4 x5 x6 (some (encG cls)) x8 x9 none none none none) (stp X n P') := by
  obtain ⟨e', S', eL, x8, x9, P', rfl, rfl⟩ := rng_loop (f := bodyF (tb.glo f) b (.name 8) riB) (N := 5)
    (Q := fun k e S => ∃ (x8 x9 : Option D) (P' : Int × Int × Int), e = E15 n w x3 x4 x5 x6 (some (encG cls)) x8 x9 none none none none ∧ S = stp X n P')
    (fun k e S hk hq => by
      obtain ⟨x8, x9, P1, rfl, rfl⟩ := hq
      obtain ⟨cls', P2, hS, e1⟩ := hA.bent hw (hP.set (P' := P1)) b hN
      rw [stp2] at e1
      obtain ⟨P3, e2⟩ := said_x hA hw (hP.set (P' := P2)) b hS
      rw [stp2] at e2
      have e3 := callR_of (b := b) (s := stp X n P2) (xs := [wObj w, encG cls']) (by simp [cbs, w_cb, encG_cb]) (hA.jud hw hS)
      refine ⟨_, _, ?_, some (.int (k : Nat)), some (encG cls'), P3, rfl, rfl⟩
      unfold riB E15
      apply b_forB
      · apply g_name
        exact rfl
      apply ss_nx (e1 := [some (.cell n), some (mObj w), some (wObj w), x3, x4, x5, x6, some (encG cls), some (.int (k : Nat)), some (encG cls'), none, none, none, none, none]) (s1 := stp X n P2)
      · apply s_name'
        · apply e_call
          · (exists rfl)
          · exact e1
        · exact rfl
      apply ss_nx
      · apply s_said
        apply e_call
        · apply es_cons
          · (exists rfl)
          · apply es_cons
            · (exists rfl)
            · apply es_cons
              · (exists rfl)
              · apply es_cons
                · apply e_call
                  · (exists rfl)
                  · exact e3
                · exact es_nil
        · exact e2
      · exact ss_nil) 5 0 (E15 n w x3 x4 x5 x6 (some (encG cls)) none none none none none none) X (by omega) ⟨none, none, P, rfl, hP.same.symm⟩
  exact ⟨x8, x9, P', eL⟩
theorem cat_enc {s : Store} {as bs : List (Nat × Nat)} (h : as.length + bs.length ≤ 100000) : opR .add (.lst (encC as)) (.lst (encC bs)) s = some (.n (.lst (encC (as ++ bs)))) := by
  have : encC (as ++ bs) = encC as ++ encC bs := by simp [encC]
  rw [this]
  exact cat_l (by simpa [encC] using h)
def riO : ISs := (.cons (.asg (.name 11) (.op .add (.op .shl (.call 13 (.cons (.var 0) (.cons (.var 6) .nil))) (.ix (.var 2) (.int 0))) (.call 12 (.cons (.var 0) (.cons (.op .shl (.int 1) (.ix (.var 2) (.int 0))) .nil)))))
    (.cons (.asg (.name 12) (.op .add (.op .add (.sl (.ix (.var 2) (.int 4)) .none (.some (.var 11))) (.lst (.cons (.tup (.cons (.ix (.ix (.ix (.var 2) (.int 4)) (.var 11)) (.int 0)) (.cons (.call 13 (.cons (.var 0) (.cons (.var 10) .nil))) .nil))) .nil))) (.sl (.ix (.var 2) (.int 4)) (.some (.op .add (.var 11) (.int 1))) .none)))
    (.cons (.asg (.name 13) (.make 0 (.cons (.ix (.var 2) (.int 0)) (.cons (.ix (.var 2) (.int 1)) (.cons (.ix (.var 2) (.int 2)) (.cons (.ix (.var 2) (.int 3)) (.cons (.blt .list (.cons (.var 12) .nil)) .nil)))))))
    (.cons (.ifs (.not (.e (.call 26 (.cons (.var 0) (.cons (.var 13) (.cons (.var 7) (.cons (.bl false) .nil))))))) (.cons (.ret (.bl false))
    .nil) .nil)
    .nil))))
theorem ri_other (hA : All f) {w : MC.W} (hw : MC.WOk w) {st out : List Nat} (hc : Cl w st) (ho : ∀ x ∈ out, x < 2 ^ w.B ∧ x ∉ st) (h0 : 0 < out.length) (hol : out.length ≤ 256) {b : Nat} {x3 x4 x5 x8 x9 : Option D} {P : Int × Int × Int} (hP : Pol X n P) : ∃ x11 x12 x13 P', xSs (tb.glo f) b riO (E15 n w x3 x4 x5 (some (.lst (wd st))) (some (.lst (encCs (clsFor st w.B)))) x8 x9 (some (.lst (wd out))) none none none) X = .ok (.nx, E15 n w x3 x4 x5 (some (.lst (wd st))) (some (.lst (encCs (clsFor st w.B)))) x8 x9 (some (.lst (wd out))) x11 x12 x13) (stp X n P') := by
  have hl := hc.len hw
  have hI : 2 ^ w.I ≤ 16 := pow_le (c := 4) hw.i
  have tI := Nat.two_pow_pos w.I
  have hB : 2 ^ w.B ≤ 256 := pow_le hw.b
  obtain ⟨t, P1, ht, e1⟩ := pick_x hA.pick hP b st (List.length_pos_of_mem hc.r) (by omega)
  obtain ⟨j, P2, hj, e2⟩ := draw_x hA.draw (hP.set (P' := P1)) b (2 ^ w.I) tI (by omega)
  rw [stp2] at e2
  obtain ⟨x, P3, hx, e3⟩ := pick_x hA.pick (hP.set (P' := P2)) b out h0 (by omega)
  rw [stp2] at e3
  obtain ⟨hxB, hxn⟩ := ho x hx
  have htl := hc.lt t ht
  have hbd := rows_bound hw htl
  rw [Nat.succ_mul] at hbd
  have hrl : w.rows.length ≤ 4096 := by
    rw [hw.len]
    have h1 := hw.j
    have : 2 ^ (w.B + w.I) ≤ 2 ^ 12 := pow_le (by omega)
    omega
  have ha : t * 2 ^ w.I + j < w.rows.length := by omega
  have hw2 := bentW_ok hw ha hxB
  have hS := (nice_of hw hc).small
  obtain ⟨P4, e4⟩ := said_x hA hw2 (hP.set (P' := P3)) b hS
  rw [stp2, judged_bent hw hc ht hj hxB hxn, encG_ofN] at e4
  generalize hat : t * 2 ^ w.I + j = a at *
  have gw1 := w_ix (tb.glo f).gd w X
  have gw2 := w_ix (tb.glo f).gd w (stp X n P1)
  have gw3 := w_ix (tb.glo f).gd w (stp X n P2)
  have gw4 := w_ix (tb.glo f).gd w (stp X n P3)
  have sh := shl_nat (s := stp X n P1) t w.I (by omega) (by have := hw.i; omega)
  have sh1 := shl1 (s := stp X n P1) w.I (by have := hw.i; omega)
  have ad := add_nat (s := stp X n P2) (t * 2 ^ w.I) j
  rw [hat] at ad
  have ad1 := add_nat (s := stp X n P3) a 1
  have rl : (encC w.rows).length = w.rows.length := by simp [encC]
  have q1 : slR (.lst (encC w.rows)) none (some (a : Nat)) (stp X n P2) = some (.n (.lst (encC (w.rows.take a)))) := by
    rw [sl_to (by omega)]
    simp [encC, List.map_take]
  have q2 : slR (.lst (encC w.rows)) (some ((a + 1 : Nat) : Int)) none (stp X n P3) = some (.n (.lst (encC (w.rows.drop (a + 1))))) := by
    rw [sl_from (by omega)]
    simp [encC, List.map_drop]
  have i1 : ixR (tb.glo f).gd (.lst (encC w.rows)) (.int (a : Nat)) (stp X n P2) = some (.v (encP (w.rows.getD a (0, 0)))) := frz_ix (d := .lst (encC w.rows)) rfl (by
    rw [List.getD_eq_getElem?_getD, List.getElem?_eq_getElem ha]
    simp [encC, ha])
  have i2 : ixR (tb.glo f).gd (encP (w.rows.getD a (0, 0))) (.int 0) (stp X n P2) = some (.v (.int ((w.rows.getD a (0, 0)).1 : Nat))) := rfl
  have c1 := cat_enc (s := stp X n P3) (as := w.rows.take a) (bs := [((w.rows.getD a (0, 0)).1, x)]) (by simp; omega)
  have c2 := cat_enc (s := stp X n P3) (as := w.rows.take a ++ [((w.rows.getD a (0, 0)).1, x)]) (bs := w.rows.drop (a + 1)) (by simp; omega)
  refine ⟨some (.int (a : Nat)), some (.lst (encC (bentW w a x).rows)), some (mObj (bentW w a x)), P4, ?_⟩
  unfold riO E15
  apply ss_nx
  · apply s_name'
    · apply e_op
      · apply e_op
        · apply e_call
          · (exists rfl)
          · exact e1
        · (exists gw2.1)
        · exact sh
      · apply e_call
        · (exists gw2.1, sh1)
        · exact e2
      · exact ad
    · exact rfl
  apply ss_nx
  · apply s_name'
    · apply e_op
      · apply e_op
        · (exists gw3.2.2.2.2, q1)
        · apply e_lst
          · apply es_cons
            · apply e_tup
              · apply es_cons
                · (exists gw3.2.2.2.2, i1, i2)
                · apply es_cons
                  · apply e_call
                    · (exists rfl)
                    · exact e3
                  · exact es_nil
              · exact Nat.le_of_ble_eq_true rfl
            · exact es_nil
          · exact Nat.le_of_ble_eq_true rfl
        · exact c1
      · (exists gw4.2.2.2.2, ad1, q2)
      · exact c2
    · exact rfl
  apply ss_nx (e1 := [some (.cell n), some (mObj w), some (wObj w), x3, x4, x5, some (.lst (wd st)), some (.lst (encCs (clsFor st w.B))), x8, x9, some (.lst (wd out)), some (.int (a : Nat)), some (.lst (encC (bentW w a x).rows)), some (mObj (bentW w a x)), none]) (s1 := stp X n P3)
  · apply s_name'
    · apply make_m (w := bentW w a x) (hA.ini hw2)
      apply es_cons (x := .v (.int (w.I : Nat)))
      · (exists gw4.1)
      apply es_cons (x := .v (.int (w.O : Nat)))
      · (exists gw4.2.1)
      apply es_cons (x := .v (.int (w.B : Nat)))
      · (exists gw4.2.2.1)
      apply es_cons (x := .v (.int (w.R : Nat)))
      · (exists gw4.2.2.2.1)
      apply es_cons (x := .n (.lst (encC (bentW w a x).rows)))
      · apply e_blt
        · (exists rfl)
        · exact rfl
      · exact es_nil
    · exact rfl
  apply ss_nx
  · apply s_said
    apply e_call
    · (exists rfl)
    · exact e4
  · exact ss_nil
end K19

set_option Elab.async false
set_option linter.all false
set_option maxRecDepth 100000
set_option maxHeartbeats 1000000
namespace K19
open PySem PySem.Spec PyProof.Rows L2 En
open MC (isT allT inAll diffC short short1 shortL shortL1 clsFor clsStep rowsOf succs add1 addNew bfs okP okC toN judged inv ofN)
variable {s X : Store} {f : Den} {n : Nat}
theorem encCs_plain {w : MC.W} (hw : MC.WOk w) {st : List Nat} (hc : Cl w st) : En.plain 3 (.lst (encCs (clsFor st w.B))) = true := by
  rw [← encG_ofN]
  exact encG_plain (nice_of hw hc).small
theorem right_run (hA : All f) {w : MC.W} (hw : MC.WOk w) {P : Int × Int × Int} (hP : Pol X n P) (b : Nat) : ∃ P', i_law_right.run (tb.glo f) b [.cell n, mObj w, wObj w] X = .ok (.v (.bl true)) (stp X n P') := by
  rw [run_F rfl]
  have hb8 := hw.b
  have hB : 2 ^ w.B ≤ 256 := pow_le hb8
  have tB := Nat.two_pow_pos w.B
  -- the reached states
  have hc0 : Cl w (bfs w 256 0 [w.R]) := by
    have := cl_of hw (l := []) (by simp)
    rw [add_one] at this
    exact this
  have k1 : f.fn 22 0 [wObj w, .lst [.int (w.R : Nat)]] [] = .ok (.n (.lst (wd (bfs w 256 0 [w.R])))) [] := by
    have := hA.closed hw [w.R] (by simpa using hw.r) (by simp)
    rw [add_one] at this
    exact this
  have k2 := hA.cfor w.B hb8 (bfs w 256 0 [w.R]) (by have := hc0.len hw; omega)
  have k3 := hA.cof hw
  have hp0 := encCs_plain hw hc0
  have hj0 := judged_cl hw hc0
  have hs0 := (nice_of hw hc0).small
  have hl0 : (encCs (clsFor (bfs w 256 0 [w.R]) w.B)).length ≤ 256 := by
    have := (nice_of hw hc0).len
    simpa [encCs, MC.ofN] using this
  generalize hst0 : bfs w 256 0 [w.R] = st0 at *
  -- the store from here on
  have hPt := hP.app [.lst (encCs (clsFor st0 w.B) ++ [.tup []])]
  have lY : (X ++ [O.lst (encCs (clsFor st0 w.B) ++ [.tup []])]).length = X.length + 1 := by simp
  have f1 := callR_of (b := X.length) (s := X) (xs := [wObj w, .lst [.int (w.R : Nat)]]) (by simp [cbs, cb, w_cb]) k1
  have f2 := callR_of (b := X.length) (s := X) (xs := [.lst (wd st0), .int (w.B : Nat)]) (by simp [cbs, cb, wd_cb]) k2
  have f3 := fun S : Store => callR_of (b := X.length) (s := S) (xs := [mObj w]) (by simp [cbs, m_cb]) k3
  have f4 : snapR ((tb.glo f).fn 15) [.cell X.length, .lst (encCs (clsFor st0 w.B))] (X ++ [.lst (encCs (clsFor st0 w.B))]) = .ok (.v (.bl true)) (X ++ [.lst (encCs (clsFor st0 w.B))]) := by
    refine snap_of (ys := [.lst (encCs (clsFor st0 w.B)), .lst (encCs (clsFor st0 w.B))]) ?_ (by simp [cbs, cb, encCs_cb]) (hA.same _ hp0)
    simp [thawA]
  have f5 := app_own (gd := (tb.glo f).gd) (b := X.length) (n := X.length) X (encCs (clsFor st0 w.B)) (.tup []) rfl (Nat.le_refl _) (by omega)
  have f5l : isLst (X ++ [.lst (encCs (clsFor st0 w.B))]) (.cell X.length) = true := isl_own _ _ rfl
  have f6 := fun S : Store => same_c (X := S) hA.same X.length hp0
  generalize hY : X ++ [O.lst (encCs (clsFor st0 w.B) ++ [.tup []])] = Y at *
  -- said
  obtain ⟨P1, s1⟩ := said_x hA hw hPt X.length hs0
  rw [hj0, encG_ofN] at s1
  obtain ⟨P2, s2⟩ := said_x hA hw (hPt.set (P' := P1)) X.length (cls := []) ⟨by simp, by simp⟩
  rw [stp2, judged_nil] at s2
  obtain ⟨m, P3, hm, d1⟩ := draw_x hA.draw (hPt.set (P' := P2)) X.length 3 (by decide) (by decide)
  rw [stp2] at d1
  have gw := fun S : Store => w_ix (tb.glo f).gd w S
  have shB : ∀ S : Store, opR .shl (.int 1) (.int (w.B : Nat)) S = some (.v (.int ((2 ^ w.B : Nat) : Int))) := fun S => shl1 w.B (by omega)
  obtain ⟨more, P4, hml, hmm, d2⟩ := lc_draws hA.draw (P := P3) hPt.lt (G := tb.glo f) rfl (own := [("k", 8)]) (g := .name 8) (x := .call 12 (.cons (.var 0) (.cons (.op .shl (.int 1) (.ix (.var 2) (.int 2))) .nil))) (e := [some (.cell n), some (mObj w), some (wObj w), some (.lst (encCs (clsFor st0 w.B))), some (.cell X.length), none, none, none, none, none, none, none, none, none, none]) (b := X.length) (top := 2 ^ w.B) (N := m) tB (by omega) (fun k S S' l h => by
    apply b_lcB (r := .v (.int (l : Nat)))
    · apply g_name
      exact rfl
    · exact c_yes
    · (exists (gw S).2.2.1, shB _, h))
  -- the closed set
  have hc := cl_of hw (l := more) hmm
  have k4 := hA.closed hw (w.R :: more) (fun x hx => by
    rcases List.mem_cons.mp hx with rfl | hx
    · exact hw.r
    · exact hmm x hx) (by simp; omega)
  generalize hst : bfs w 256 0 (addNew [] (w.R :: more)) = st at *
  have hcl := hc.len hw
  have k5 := hA.cfor w.B hb8 st (by omega)
  have f7 := callR_of (b := X.length) (s := stp Y n P4) (xs := [wObj w, .lst (wd (w.R :: more))]) (by simp [cbs, cb, w_cb, wd_cb]) k4
  have f8 := callR_of (b := X.length) (s := stp Y n P4) (xs := [.lst (wd st), .int (w.B : Nat)]) (by simp [cbs, cb, wd_cb]) k5
  have ct : opR .add (.lst [.int (w.R : Nat)]) (.lst (wd more)) (stp Y n P4) = some (.n (.lst (wd (w.R :: more)))) := cat_wd (as := [w.R]) (by simp; omega)
  have hN := nice_of hw hc
  have hj := judged_cl hw hc
  obtain ⟨P5, s3⟩ := said_x hA hw (hPt.set (P' := P4)) X.length hN.small
  rw [stp2, hj, encG_ofN] at s3
  obtain ⟨x8, x9, P6, eL⟩ := ri_loop hA hw hN (b := X.length) (x3 := some (.lst (encCs (clsFor st0 w.B)))) (x4 := some (.cell X.length)) (x5 := some (.lst (wd more))) (x6 := some (.lst (wd st))) (hPt.set (P' := P5))
  rw [stp2, encG_ofN] at eL
  -- outside
  have lo := lc_filter (f := fun k : Nat => D.int (k : Nat)) (P := fun k => decide (k ∉ st)) (g := itemF (tb.glo f) X.length [("state", 14)] (.name 14) (.t (.e (.cmp .notIn (.var 14) (.var 6)))) (.var 14) (E15 n w (some (.lst (encCs (clsFor st0 w.B)))) (some (.cell X.length)) (some (.lst (wd more))) (some (.lst (wd st))) (some (.lst (encCs (clsFor st w.B)))) x8 x9 none none none none)) (s := stp Y n P6) (List.range (2 ^ w.B)) fun k _ => by
    have nn : cmpR (tb.glo f).gd .notIn (.int (k : Nat)) (.lst (wd st)) (stp Y n P6) = some (decide (k ∉ st)) := nin_wd rfl k
    by_cases hk : k ∉ st
    · rw [decide_eq_true hk] at nn ⊢
      unfold E15
      apply b_lcB (r := .v (.int (k : Nat)))
      · apply g_name
        exact rfl
      · (exists nn)
      · (exists rfl)
    · rw [decide_eq_false hk] at nn ⊢
      unfold E15
      apply b_lcB0
      · apply g_name
        exact rfl
      · (exists nn)
  have hom : ∀ x ∈ (List.range (2 ^ w.B)).filter (fun k => decide (k ∉ st)), x < 2 ^ w.B ∧ x ∉ st := fun x hx => by
    rw [List.mem_filter, List.mem_range, decide_eq_true_eq] at hx
    exact hx
  have hol : ((List.range (2 ^ w.B)).filter (fun k => decide (k ∉ st))).length ≤ 256 := by
    have := List.length_filter_le (fun k => decide (k ∉ st)) (List.range (2 ^ w.B))
    simp only [List.length_range] at this
    omega
  generalize hout : (List.range (2 ^ w.B)).filter (fun k => decide (k ∉ st)) = out at *
  have lo : lcL (itemF (tb.glo f) X.length [("state", 14)] (.name 14) (.t (.e (.cmp .notIn (.var 14) (.var 6)))) (.var 14) (E15 n w (some (.lst (encCs (clsFor st0 w.B)))) (some (.cell X.length)) (some (.lst (wd more))) (some (.lst (wd st))) (some (.lst (encCs (clsFor st w.B)))) x8 x9 none none none none)) (wd (List.range (2 ^ w.B))) (stp Y n P6) = .ok (wd out) (stp Y n P6) := lo
  have gtz := gt0 (gd := (tb.glo f).gd) (s := stp Y n P6) out.length
  have ll := len_wd (s := stp Y n P6) (as := out)
  -- the branch
  have br : ∃ x11 x12 x13 P7, xS (tb.glo f) X.length (.ifs (.e (.cmp .gt (.blt .len (.cons (.var 10) .nil)) (.int 0))) riO .nil) (E15 n w (some (.lst (encCs (clsFor st0 w.B)))) (some (.cell X.length)) (some (.lst (wd more))) (some (.lst (wd st))) (some (.lst (encCs (clsFor st w.B)))) x8 x9 (some (.lst (wd out))) none none none) (stp Y n P6) =
      .ok (.nx, E15 n w (some (.lst (encCs (clsFor st0 w.B)))) (some (.cell X.length)) (some (.lst (wd more))) (some (.lst (wd st))) (some (.lst (encCs (clsFor st w.B)))) x8 x9 (some (.lst (wd out))) x11 x12 x13) (stp Y n P7) := by
    by_cases h0 : 0 < out.length
    · obtain ⟨x11, x12, x13, P7, e⟩ := ri_other hA hw hc hom h0 hol (b := X.length) (x3 := some (.lst (encCs (clsFor st0 w.B)))) (x4 := some (.cell X.length)) (x5 := some (.lst (wd more))) (x8 := x8) (x9 := x9) (hPt.set (P' := P6))
      rw [stp2] at e
      refine ⟨x11, x12, x13, P7, ?_⟩
      apply s_if1
      · rw [decide_eq_true h0] at gtz
        unfold E15
        (exists ll, gtz)
      · exact e
    · refine ⟨none, none, none, P6, ?_⟩
      apply s_if0
      · rw [decide_eq_false h0] at gtz
        unfold E15
        (exists ll, gtz)
      · exact ss_nil
  obtain ⟨x11, x12, x13, P7, br⟩ := br
  obtain ⟨P8, s4⟩ := said_x hA hw (hPt.set (P' := P7)) X.length hN.small
  rw [stp2, hj, encG_ofN] at s4
  refine ⟨P8, ?_⟩
  apply run_ret (r := .v (.bl true)) (s1 := stp Y n P8) (e' := E15 n w (some (.lst (encCs (clsFor st0 w.B)))) (some (.cell X.length)) (some (.lst (wd more))) (some (.lst (wd st))) (some (.lst (encCs (clsFor st w.B)))) x8 x9 (some (.lst (wd out))) x11 x12 x13) rfl
  · unfold i_law_right
    show xSs _ _ _ [some (.cell n), some (mObj w), some (wObj w), none, none, none, none, none, none, none, none, none, none, none, none] _ = _
    apply ss_nx
    · apply s_name'
      · apply e_call
        · apply es_cons
          · apply e_call
            · (exists (gw X).2.2.2.1)
            · exact f1
          · (exists (gw X).2.2.1)
        · exact f2
      · exact rfl
    apply ss_nx (e1 := [some (.cell n), some (mObj w), some (wObj w), some (.lst (encCs (clsFor st0 w.B))), some (.cell X.length), none, none, none, none, none, none, none, none, none, none]) (s1 := X ++ [.lst (encCs (clsFor st0 w.B))])
    · apply s_name'
      · apply e_mu
        (exists f3 X)
      · exact rfl
    apply ss_nx
    · apply s_said
      apply e_callS
      · (exists rfl)
      · exact f4
    apply ss_nx (e1 := [some (.cell n), some (mObj w), some (wObj w), some (.lst (encCs (clsFor st0 w.B))), some (.cell X.length), none, none, none, none, none, none, none, none, none, none]) (s1 := Y)
    · apply s_expr
      apply e_mt
      · (exists rfl)
      · exact f5l
      · (exists rfl)
      · exact f5
    apply ss_nx
    · apply s_said
      apply e_call
      · (exists f3 Y)
      · exact f6 Y
    apply ss_nx
    · apply s_if0
      · apply t_or0
        · apply t_not1
          apply t_e
          · apply e_call
            · (exists rfl)
            · exact s1
          · exact rfl
        · apply t_not1
          apply t_e
          · apply e_call
            · (exists rfl)
            · exact s2
          · exact rfl
      · exact ss_nil
    apply ss_nx
    · apply s_name'
      · apply e_lcB
        · apply i_rng1
          · (exists d1)
          · exact rfl
          · omega
        · rw [rngL_len]; omega
        · exact d2
      · exact rfl
    apply ss_nx
    · apply s_name'
      · apply e_call
        · apply es_cons
          · (exists rfl)
          · apply es_cons
            · apply e_op
              · (exists (gw (stp Y n P4)).2.2.2.1)
              · (exists rfl)
              · exact ct
            · exact es_nil
        · exact f7
      · exact rfl
    apply ss_nx
    · apply s_name'
      · apply e_call
        · (exists (gw (stp Y n P4)).2.2.1)
        · exact f8
      · exact rfl
    apply ss_nx
    · apply s_said
      apply e_call
      · (exists rfl)
      · exact s3
    apply ss_nx
    · apply s_forB
      · apply i_rng1 (n := 5)
        · (exists rfl)
        · exact rfl
        · omega
      · exact eL
    apply ss_nx (e1 := E15 n w (some (.lst (encCs (clsFor st0 w.B)))) (some (.cell X.length)) (some (.lst (wd more))) (some (.lst (wd st))) (some (.lst (encCs (clsFor st w.B)))) x8 x9 (some (.lst (wd out))) none none none) (s1 := stp Y n P6)
    · apply s_name'
      · apply e_lcB
        · apply i_rng1
          · unfold E15
            (exists (gw (stp Y n P6)).2.2.1, shB _)
          · exact rfl
          · omega
        · rw [rngL_len]; omega
        · rw [rng0_wd]; exact lo
      · exact rfl
    apply ss_nx
    · exact br
    apply ss_ret
    apply s_ret
    unfold E15
    apply e_call
    · (exists rfl)
    · exact s4
  · have ht : (stp Y n P8).take X.length = stp X n P8 := by
      rw [← hY, stp_app hP]
      exact take_app sl
    simp only [endR, cb, if_true, ht]
end K19

set_option Elab.async false
set_option linter.all false
set_option maxRecDepth 100000
set_option maxHeartbeats 1000000
namespace K19
open PySem PySem.Spec PyProof.Rows L2 En
open MC (isT allT inAll diffC short short1 shortL shortL1 clsFor clsStep rowsOf succs add1 addNew bfs okP okC toN judged inv ofN)
variable {s X : Store} {f : Den} {n : Nat}
structure Lw (f : Den) : Prop where
  draw : DrawAt (f.fn 12)
  pool : ∀ (ns : List Int) (p : Nat), ∃ c r : Int, f.fn 11 0 [.lst (ns.map .int), .int (p : Nat)] [] = .ok (.n (pl c r 0)) []
  mach : WorldOut f 16
  longer : WorldOut f 19
  ini : ∀ {w : MC.W}, MC.WOk w → TI f w
  right : ∀ {w : MC.W}, MC.WOk w → ∀ {X : Store} {n : Nat} {P : Int × Int × Int}, Pol X n P → ∀ b : Nat, ∃ P', f.fn 27 b [.cell n, mObj w, wObj w] X = .ok (.v (.bl true)) (stp X n P')
def laB : ISs := (.cons (.ifs (.not (.e (.call 27 (.cons (.var 1) (.cons (.ix (.var 3) (.var 4)) (.cons (.ix (.var 2) (.var 4)) .nil)))))) (.cons (.ret (.bl false))
    .nil) .nil)
    .nil)
theorem law_run (hA : Lw f) (ns : List Int) : ∃ s, runF (tb.glo f) i_law.d [.lst (ns.map .int)] [] = .ok (.v (.bl true)) s := by
  obtain ⟨c, r, e0⟩ := hA.pool ns 0
  obtain ⟨c', r', e0'⟩ := hA.pool ns 1
  have p0 : Pol [pl c r 0] 0 (c, r, 0) := rfl
  obtain ⟨w1, P1, hw1, e1⟩ := hA.mach p0 0
  have p1 : Pol (stp [pl c r 0] 0 P1) 0 P1 := rfl
  obtain ⟨w2, P2, hw2, e2⟩ := hA.mach p1 0
  have hX : stp (stp [pl c r 0] 0 P1) 0 P2 = [pl P2.1 P2.2.1 P2.2.2] := rfl
  rw [hX] at e2
  have p2 : Pol [pl P2.1 P2.2.1 P2.2.2, .lst [wObj w1, wObj w2]] 0 P2 := rfl
  obtain ⟨d, P3, hd, e3⟩ := draw_x hA.draw p2 0 6 (by decide) (by decide)
  have hX3 : stp [pl P2.1 P2.2.1 P2.2.2, .lst [wObj w1, wObj w2]] 0 P3 = [pl P3.1 P3.2.1 P3.2.2, .lst [wObj w1, wObj w2]] := rfl
  rw [hX3] at e3
  have p3 : Pol [pl P3.1 P3.2.1 P3.2.2, .lst [wObj w1, wObj w2]] 0 P3 := rfl
  -- the first world, maybe another
  have br : ∃ (w : MC.W) (P : Int × Int × Int), MC.WOk w ∧ xS (tb.glo f) 0 (.ifs (.e (.cmp .eq (.call 12 (.cons (.var 1) (.cons (.int 6) .nil))) (.int 0))) (.cons (.asg (.sub (.var 2) (.int 0)) (.call 19 (.cons (.var 1) .nil))) .nil) .nil) [some (.lst (ns.map .int)), some (.cell 0), some (.cell 1), none, none, none] [pl P2.1 P2.2.1 P2.2.2, .lst [wObj w1, wObj w2]] =
      .ok (.nx, [some (.lst (ns.map .int)), some (.cell 0), some (.cell 1), none, none, none]) [pl P.1 P.2.1 P.2.2, .lst [wObj w, wObj w2]] := by
    by_cases hd0 : d = 0
    · obtain ⟨w, P4, hw, e4⟩ := hA.longer p3 0
      have hX4 : stp [pl P3.1 P3.2.1 P3.2.2, .lst [wObj w1, wObj w2]] 0 P4 = [pl P4.1 P4.2.1 P4.2.2, .lst [wObj w1, wObj w2]] := rfl
      rw [hX4] at e4
      refine ⟨w, P4, hw, ?_⟩
      have st : setR 0 (.cell 1) (.int 0) (wObj w) [pl P4.1 P4.2.1 P4.2.2, .lst [wObj w1, wObj w2]] = .ok () [pl P4.1 P4.2.1 P4.2.2, .lst [wObj w, wObj w2]] := rfl
      apply s_if1
      · (exists e3, dec1 (by omega))
      · apply ss_nx
        · apply s_sub
          · apply e_call
            · (exists rfl)
            · exact e4
          · (exists rfl)
          · (exists rfl)
          · exact st
        · exact ss_nil
    · refine ⟨w1, P3, hw1, ?_⟩
      apply s_if0
      · (exists e3, dec0 (by omega))
      · exact ss_nil
  obtain ⟨w, P, hw, br⟩ := br
  have c0 : callR (f.fn 11) 0 [.lst (ns.map .int), .int 0] [] = .ok (.n (pl c r 0)) [] := callR_of (by simp [cbs, cb, cbs_ints]) e0
  have c1 : ∀ S : Store, callR (f.fn 11) 0 [.lst (ns.map .int), .int 1] S = .ok (.n (pl c' r' 0)) S := fun S => callR_of (by simp [cbs, cb, cbs_ints]) e0'
  -- the machines
  have mk : ∀ (e : En.Env) (S : Store) {v : MC.W}, e.length = 6 → MC.WOk v → itemF (tb.glo f) 0 [("one", 5)] (.name 5) .yes (.make 0 (.cons (.ix (.var 5) (.int 0)) (.cons (.ix (.var 5) (.int 1)) (.cons (.ix (.var 5) (.int 2)) (.cons (.ix (.var 5) (.int 3)) (.cons (.blt .list (.cons (.ix (.var 5) (.int 4)) .nil)) .nil)))))) e (wObj v) S = .ok [mObj v] S := fun e S v he hv => by
    have gw := w_ix (tb.glo f).gd v S
    have v5 : ((wipeE e [5]).set 5 (some (wObj v)))[5]? = some (some (wObj v)) := by rw [List.getElem?_set_self (by simp [wipeE, he])]
    have r5 : xE (tb.glo f) 0 (.var 5) ((wipeE e [5]).set 5 (some (wObj v))) S = .ok (.v (wObj v)) S := e_var v5
    apply b_lcB (r := .n (.ins 0 (mFs v))) (e1 := (wipeE e [5]).set 5 (some (wObj v)))
    · apply g_name
      exact rfl
    · exact c_yes
    · apply make_m (hA.ini hv)
      apply es_cons (x := .v (.int (v.I : Nat)))
      · exact e_ix r5 e_int gw.1
      apply es_cons (x := .v (.int (v.O : Nat)))
      · exact e_ix r5 e_int gw.2.1
      apply es_cons (x := .v (.int (v.B : Nat)))
      · exact e_ix r5 e_int gw.2.2.1
      apply es_cons (x := .v (.int (v.R : Nat)))
      · exact e_ix r5 e_int gw.2.2.2.1
      apply es_cons (x := .n (.lst (encC v.rows)))
      · apply e_blt
        · apply es_cons
          · exact e_ix r5 e_int gw.2.2.2.2
          · exact es_nil
        · exact rfl
      · exact es_nil
  have lc := lcC_is (f := itemF (tb.glo f) 0 [("one", 5)] (.name 5) .yes (.make 0 (.cons (.ix (.var 5) (.int 0)) (.cons (.ix (.var 5) (.int 1)) (.cons (.ix (.var 5) (.int 2)) (.cons (.ix (.var 5) (.int 3)) (.cons (.blt .list (.cons (.ix (.var 5) (.int 4)) .nil)) .nil)))))) [some (.lst (ns.map .int)), some (.cell 0), some (.cell 1), none, none, none]) (n := 1) (s := [pl P.1 P.2.1 P.2.2, .lst [wObj w, wObj w2]]) (ds := [wObj w, wObj w2]) rfl (fun d hd => by
    simp only [List.mem_cons, List.not_mem_nil, or_false] at hd
    rcases hd with rfl | rfl
    · exact ⟨_, mk _ _ rfl hw⟩
    · exact ⟨_, mk _ _ rfl hw2⟩) 1000000 0 (by simp) (by simp)
  have lc2 : lcL (itemF (tb.glo f) 0 [("one", 5)] (.name 5) .yes (.make 0 (.cons (.ix (.var 5) (.int 0)) (.cons (.ix (.var 5) (.int 1)) (.cons (.ix (.var 5) (.int 2)) (.cons (.ix (.var 5) (.int 3)) (.cons (.blt .list (.cons (.ix (.var 5) (.int 4)) .nil)) .nil)))))) [some (.lst (ns.map .int)), some (.cell 0), some (.cell 1), none, none, none]) [wObj w, wObj w2] [pl P.1 P.2.1 P.2.2, .lst [wObj w, wObj w2]] = .ok [mObj w, mObj w2] [pl P.1 P.2.1 P.2.2, .lst [wObj w, wObj w2]] := by
    have m1 := mk [some (.lst (ns.map .int)), some (.cell 0), some (.cell 1), none, none, none] [pl P.1 P.2.1 P.2.2, .lst [wObj w, wObj w2]] rfl hw
    have m2 := mk [some (.lst (ns.map .int)), some (.cell 0), some (.cell 1), none, none, none] [pl P.1 P.2.1 P.2.2, .lst [wObj w, wObj w2]] rfl hw2
    exact lcL_cons (x := [_]) m1 (lcL_cons (x := [_]) m2 rfl)
  rw [List.drop_zero, lc2] at lc
  -- a turn
  have turn : ∀ (i : Nat) (v : MC.W) (Q : Int × Int × Int) (x4 : Option D), MC.WOk v → ixR (tb.glo f).gd (.lst [mObj w, mObj w2]) (.int (i : Nat)) [pl P.1 P.2.1 P.2.2, .lst [wObj w, wObj w2], pl Q.1 Q.2.1 Q.2.2] = some (.v (mObj v)) → ixR (tb.glo f).gd (.cell 1) (.int (i : Nat)) [pl P.1 P.2.1 P.2.2, .lst [wObj w, wObj w2], pl Q.1 Q.2.1 Q.2.2] = some (.v (wObj v)) → ∃ Q' : Int × Int × Int,
      bodyF (tb.glo f) 0 (.name 4) laB (.int (i : Nat)) [some (.lst (ns.map .int)), some (.cell 2), some (.cell 1), some (.lst [mObj w, mObj w2]), x4, none] [pl P.1 P.2.1 P.2.2, .lst [wObj w, wObj w2], pl Q.1 Q.2.1 Q.2.2] =
        .ok (.nx, [some (.lst (ns.map .int)), some (.cell 2), some (.cell 1), some (.lst [mObj w, mObj w2]), some (.int (i : Nat)), none]) [pl P.1 P.2.1 P.2.2, .lst [wObj w, wObj w2], pl Q'.1 Q'.2.1 Q'.2.2] := fun i v Q x4 hv h1 h2 => by
    obtain ⟨Q', e⟩ := hA.right hv (X := [pl P.1 P.2.1 P.2.2, .lst [wObj w, wObj w2], pl Q.1 Q.2.1 Q.2.2]) (n := 2) (P := Q) rfl 0
    have e : callR (f.fn 27) 0 [.cell 2, mObj v, wObj v] [pl P.1 P.2.1 P.2.2, .lst [wObj w, wObj w2], pl Q.1 Q.2.1 Q.2.2] = .ok (.v (.bl true)) [pl P.1 P.2.1 P.2.2, .lst [wObj w, wObj w2], pl Q'.1 Q'.2.1 Q'.2.2] := callR_at rfl e
    refine ⟨Q', ?_⟩
    unfold laB
    apply b_forB
    · apply g_name
      exact rfl
    apply ss_nx
    · apply s_said
      apply e_call
      · apply es_cons
        · (exists rfl)
        · apply es_cons
          · apply e_ix
            · (exists rfl)
            · (exists rfl)
            · exact h1
          · apply es_cons
            · apply e_ix
              · (exists rfl)
              · (exists rfl)
              · exact h2
            · exact es_nil
      · exact e
    · exact ss_nil
  obtain ⟨Q1, t1⟩ := turn 0 w (c', r', 0) none hw rfl rfl
  obtain ⟨Q2, t2⟩ := turn 1 w2 Q1 (some (.int ((0 : Nat) : Int))) hw2 rfl rfl
  obtain ⟨Q3, t3⟩ := turn 0 w Q2 (some (.int ((1 : Nat) : Int))) hw rfl rfl
  refine ⟨_, run_ret (e' := [some (.lst (ns.map .int)), some (.cell 2), some (.cell 1), some (.lst [mObj w, mObj w2]), some (.int ((0 : Nat) : Int)), none]) (s1 := [pl P.1 P.2.1 P.2.2, .lst [wObj w, wObj w2], pl Q3.1 Q3.2.1 Q3.2.2]) (r := .v (.bl true)) rfl ?_ rfl⟩
  unfold i_law
  show xSs _ 0 _ [some (.lst (ns.map .int)), none, none, none, none, none] [] = _
  apply ss_nx
  · apply s_name'
    · apply e_mu
      (exists c0)
    · exact rfl
  apply ss_nx (e1 := [some (.lst (ns.map .int)), some (.cell 0), some (.cell 1), none, none, none]) (s1 := [pl P2.1 P2.2.1 P2.2.2] ++ [.lst [wObj w1, wObj w2]])
  · apply s_name'
    · apply e_mu
      apply e_lst
      · apply es_cons (x := .n (.lst [.int (w1.I : Nat), .int (w1.O : Nat), .int (w1.B : Nat), .int (w1.R : Nat), .lst (encC w1.rows)]))
        · apply e_call
          · (exists rfl)
          · exact e1
        · apply es_cons (x := .n (.lst [.int (w2.I : Nat), .int (w2.O : Nat), .int (w2.B : Nat), .int (w2.R : Nat), .lst (encC w2.rows)]))
          · apply e_call
            · (exists rfl)
            · exact e2
          · exact es_nil
      · exact Nat.le_of_ble_eq_true rfl
    · exact rfl
  apply ss_nx
  · exact br
  apply ss_nx (e1 := [some (.lst (ns.map .int)), some (.cell 0), some (.cell 1), some (.lst [mObj w, mObj w2]), none, none])
  · apply s_name'
    · apply e_lcC
      · apply i_cell
        · (exists rfl)
        · exact rfl
        · exact rfl
      · exact lc
      · exact Nat.le_of_ble_eq_true rfl
    · exact rfl
  apply ss_nx (e1 := [some (.lst (ns.map .int)), some (.cell 2), some (.cell 1), some (.lst [mObj w, mObj w2]), none, none]) (s1 := [pl P.1 P.2.1 P.2.2, .lst [wObj w, wObj w2]] ++ [pl c' r' 0])
  · apply s_name'
    · apply e_mu
      (exists c1 _)
    · exact rfl
  apply ss_nx
  · apply s_forB
    · apply i_frz
      · (exists rfl)
      · exact rfl
    · exact forL_cons t1 (forL_cons t2 (forL_cons t3 rfl))
  · exact ss_ret (s_ret e_bl)
theorem draw_ok (k : Nat) : DrawAt ((tb.den (k + 1)).fn 12) := fun b n c r t m s h h1 h2 => by
  rw [den_succ (i := i_law_draw) rfl]
  exact draw_at (tb.glo (tb.den k)) b n c r t m s h h1 h2
theorem whole_ok (k : Nat) : WholeOk ((tb.den (k + 1)).fn 14) := fun i => by
  rw [den_succ (i := i_law_whole) rfl]
  exact whole_int (tb.glo (tb.den k)) i []
theorem same0_ok (k : Nat) : SameOk 0 ((tb.den (k + 2)).fn 15) := fun d h => by
  rw [den_succ (i := i_law_same) rfl]
  exact same_zero (tb.glo (tb.den (k + 1))) (jw := 14) (js := 15) (whole_ok k) d h
theorem same_lv : ∀ (m k : Nat), SameOk m ((tb.den (k + m + 2)).fn 15)
  | 0, k => same0_ok k
  | m + 1, k => fun d h => by
    have hh : k + (m + 1) + 2 = (k + m + 2) + 1 := by omega
    rw [hh, den_succ (i := i_law_same) rfl]
    exact same_succ (tb.glo (tb.den (k + m + 2))) (jw := 14) (js := 15) (whole_ok (k + m + 1)) (same_lv m k) d h
theorem pick_lv (k : Nat) : PickD (tb.den (k + 2)) := fun hn r b row h0 h1 hc => by
  obtain ⟨d, P', q1, e⟩ := pick_run' (draw_ok k) hn r b row h0 h1 hc
  refine ⟨d, P', q1, callR_at rfl ?_⟩
  rw [den_succ (i := i_law_pick) rfl]
  exact e
theorem t3_lv (k : Nat) : T3 (tb.den (k + 1)) := fun t h => by
  rw [den_succ (i := i_is_true) rfl]
  exact is_true_run 0 t h
theorem t4_lv (k : Nat) : T4 (tb.den (k + 2)) := fun t h => by
  rw [den_succ (i := i_all_true) rfl]
  exact all_true_run (t3_lv k) 0 t h
theorem t5_lv (k : Nat) : T5 (tb.den (k + 2)) := fun ts h => by
  rw [den_succ (i := i_is_true_in_all) rfl]
  exact in_all_run (t3_lv k) 0 h ts
theorem t6_lv (k : Nat) : T6 (tb.den (k + 3)) := fun c ts hl => by
  rw [den_succ (i := i_shortened) rfl]
  exact short_run (t5_lv k) 0 c ts hl
theorem t0_lv (k : Nat) {w : MC.W} (hw : MC.WOk w) : T0 (tb.den (k + 1)) w := fun t ht => by
  rw [den_succ (i := i_rows_of) rfl]
  exact rows_of_run (fun x hx => by
    simp only [List.mem_cons, List.not_mem_nil, or_false] at hx
    rcases hx with rfl | rfl <;> exact na_ok _ (by simp)) hw 0 ht
theorem t1_lv (k : Nat) {w : MC.W} (hw : MC.WOk w) : T1 (tb.den (k + 2)) w := by
  obtain ⟨kvs, h1, h2⟩ := first_steps_run (s := []) hw (t0_lv k hw) 0
  refine ⟨kvs, h1, ?_⟩
  rw [den_succ (i := i_first_steps) rfl]
  exact h2
theorem t2_lv (k : Nat) {w : MC.W} (hw : MC.WOk w) : T2 (tb.den (k + 3)) w (bfs w 256 0 [w.R]) := by
  unfold T2
  rw [den_succ (i := i_reached_states) rfl]
  exact reached_run (t1_lv k hw) 0
theorem t20_lv (k : Nat) : T20 (tb.den (k + 1)) := fun t h hl => by
  rw [den_succ (i := i_law_true) rfl]
  exact law_true_run 0 t h hl
theorem t8_lv (k : Nat) : T8 (tb.den (k + 1)) := fun B h => by
  rw [den_succ (i := i_are_clauses) rfl]
  exact are_run 0 B h
theorem t9_lv (k : Nat) {w : MC.W} (hw : MC.WOk w) : T9 (tb.den (k + 3)) w := fun hd => by
  rw [den_succ (i := i_is_invariant) rfl]
  exact inv_run (t8_lv (k + 1)) (t4_lv k) hw (t0_lv (k + 1) hw) 0 hd
theorem cls_lv (k : Nat) : ClsOut (tb.den (k + 2)) := fun hP b B hB => by
  obtain ⟨c, P', h1, h2, e⟩ := some_clause_run (draw_ok k) hP b B hB
  refine ⟨c, P', h1, h2, callR_at rfl ?_⟩
  rw [den_succ (i := i_law_some_clause) rfl]
  exact e
theorem ord_lv (k : Nat) : OrdOut (tb.den (k + 2)) := fun hP b row h1 hc => by
  obtain ⟨ds, P', h2, e⟩ := order_run' (draw_ok k) hP b row h1 hc
  refine ⟨ds, P', h2, callR_at rfl ?_⟩
  rw [den_succ (i := i_law_order) rfl]
  exact e
theorem bent_lv (k : Nat) {w : MC.W} (hw : MC.WOk w) : BentOut (tb.den (k + 3)) w := fun hP b cls hN => by
  obtain ⟨cls', P', h1, e⟩ := bent_run (draw_ok (k + 1)) (pick_lv k) (cls_lv k) (ord_lv k) hP hw b hN
  refine ⟨cls', P', h1, callR_at rfl ?_⟩
  rw [den_succ (i := i_law_bent) rfl]
  exact e
theorem mach_lv (k : Nat) : WorldOut (tb.den (k + 3)) 16 := fun hP b => by
  obtain ⟨w, P', h1, e⟩ := machine_run (draw_ok (k + 1)) (pick_lv k) hP b
  refine ⟨w, P', h1, callR_at rfl ?_⟩
  rw [den_succ (i := i_law_machine) rfl]
  exact e
theorem count_lv (k : Nat) : WorldOut (tb.den (k + 3)) 18 := fun hP b => by
  obtain ⟨w, P', h1, e⟩ := counter_run (draw_ok (k + 1)) (pick_lv k) hP b
  refine ⟨w, P', h1, callR_at rfl ?_⟩
  rw [den_succ (i := i_law_counter) rfl]
  exact e
theorem longer_lv (k : Nat) : WorldOut (tb.den (k + 4)) 19 := fun hP b => by
  obtain ⟨w, P', h1, e⟩ := longer_run (draw_ok (k + 2)) (pick_lv (k + 1)) (count_lv k) hP b
  refine ⟨w, P', h1, callR_at rfl ?_⟩
  rw [den_succ (i := i_law_longer) rfl]
  exact e
theorem ini_lv (k : Nat) {w : MC.W} (hw : MC.WOk w) : TI (tb.den (k + 3)) w := fun Y => by
  have h10 : T10 (tb.den (k + 1)) w := by
    unfold T10
    rw [den_succ (i := i_check_counts) rfl]
    exact counts_run 0 hw
  have h30 : T30 (tb.den (k + 1)) w := fun b n S hS => by
    rw [den_succ (i := i_Machine_has_right_rows) rfl]
    exact rows_right b hw hS
  rw [show k + 3 = (k + 1) + 2 from rfl, ini_succ (ci := { nm := "Machine", ini := 29, ms := [fp "has_right_rows" 30] }) (i := i_Machine___init__) rfl rfl]
  exact init_run hw h10 h30 Y
theorem all_lv (k : Nat) : All (tb.den (k + 6)) where
  draw := draw_ok (k + 5)
  pick := pick_lv (k + 4)
  same := same_lv 3 (k + 1)
  closed := fun hw st h1 h2 => by
    rw [den_succ (i := i_law_closed) rfl]
    exact closed_run hw h1 h2 0
  cfor := fun B hB st h => by
    rw [den_succ (i := i_law_clauses_for) rfl]
    exact clauses_for_run (t20_lv (k + 4)) hB h 0
  cof := fun hw => by
    rw [den_succ (i := i_clauses_of) rfl]
    exact clauses_of_run (t4_lv (k + 3)) (t6_lv (k + 2)) hw.b (t2_lv (k + 2) hw) 0
  said := fun hw X n P hP b cls hS => by
    obtain ⟨P', e⟩ := said_run (draw_ok (k + 4)) (same_lv 3 k) (t9_lv (k + 2) hw) hP hS b
    refine ⟨P', ?_⟩
    rw [den_succ (i := i_law_said) rfl]
    exact e
  jud := fun hw cls hS => by
    rw [den_succ (i := i_law_judged) rfl]
    exact judged_run (t20_lv (k + 4)) hw 0 (gcs0 _) hS.1 (fun c hc => by have := (hS.2 c hc).1; omega)
  bent := bent_lv (k + 3)
  ini := ini_lv (k + 3)
theorem lw_lv (k : Nat) : Lw (tb.den (k + 7)) where
  draw := draw_ok (k + 6)
  pool := fun ns p => by
    rw [den_succ (i := i_law_pool) rfl]
    obtain ⟨c, r, h⟩ := pool_run (tb.glo (tb.den (k + 6))) (ns := ns) (p := p)
    exact ⟨c, r, h⟩
  mach := mach_lv (k + 4)
  longer := longer_lv (k + 3)
  ini := ini_lv (k + 4)
  right := fun hw X n P hP b => by
    obtain ⟨P', e⟩ := right_run (all_lv k) hw hP b
    refine ⟨P', ?_⟩
    rw [den_succ (i := i_law_right) rfl]
    exact e
def lv : Nat := 60
theorem math (ns : List Int) : ∃ s, (tb.den 60).fn 28 0 [.lst (ns.map .int)] [] = .ok (.v (.bl true)) s := by
  rw [show (60 : Nat) = 59 + 1 from rfl, den_succ (i := i_law) rfl, run_F rfl]
  exact law_run (lw_lv 52) ns
end K19

set_option Elab.async false
open PySem PySem.W PyProof.Rows
set_option maxRecDepth 100000 in
set_option maxHeartbeats 0 in
theorem PySem.Challenge.cw_chipmill_k19_clauses_of_the_reached_holds : PySem.Challenge.rw_chipmill_k19_clauses_of_the_reached.Holds := by
  w_on; o_law; k_head; (case hw => w_witness2)
  k_fill
  refine L2.walk_of (l := PySem.Challenge.rw_chipmill_k19_clauses_of_the_reached) (n := 63) (k := K19.lv) (x := "script") (CX := fun _ => L2.CX0) (sp := fun w => En.spLaw _ 63) rfl (by decide) rfl ⟨rfl, by decide, by decide⟩ (fun w h Y => PySem.W.kIn_of Y) ?F (fun _ _ a ns hl _ hS => ⟨a, ns, rfl, hS, hl, fun _ => rfl⟩) (fun _ _ _ _ _ h => h)
  case F =>
    intro w mg fa h KX G hmg
    have aC0 := En.ns_look (x := "Machine") KX (by k_is)
    have C0 := En.cls_of KX aC0 (by k_is) (by k_is) (by k_is) (by k_is)
    have a0 := En.ns_look (x := "rows_of") KX (by k_is)
    have E0 := En.ent_fn (i := K19.i_rows_of) (x := "rows_of") (st := K19.topS 1) (ps := ["machine", "state"]) rfl rfl rfl rfl KX a0 (by k_is) (by k_is) (by k_is) (fun _ _ _ _ _ _ us hl => match us, hl with | [_, _], _ => rfl)
    have a1 := En.ns_look (x := "first_steps") KX (by k_is)
    have E1 := En.ent_fn (i := K19.i_first_steps) (x := "first_steps") (st := K19.topS 2) (ps := ["machine"]) rfl rfl rfl rfl KX a1 (by k_is) (by k_is) (by k_is) (fun _ _ _ _ _ _ us hl => match us, hl with | [_], _ => rfl)
    have a2 := En.ns_look (x := "reached_states") KX (by k_is)
    have E2 := En.ent_fn (i := K19.i_reached_states) (x := "reached_states") (st := K19.topS 3) (ps := ["machine"]) rfl rfl rfl rfl KX a2 (by k_is) (by k_is) (by k_is) (fun _ _ _ _ _ _ us hl => match us, hl with | [_], _ => rfl)
    have a3 := En.ns_look (x := "is_true") KX (by k_is)
    have E3 := En.ent_fn (i := K19.i_is_true) (x := "is_true") (st := K19.topS 4) (ps := ["clause", "state"]) rfl rfl rfl rfl KX a3 (by k_is) (by k_is) (by k_is) (fun _ _ _ _ _ _ us hl => match us, hl with | [_, _], _ => rfl)
    have a4 := En.ns_look (x := "all_true") KX (by k_is)
    have E4 := En.ent_fn (i := K19.i_all_true) (x := "all_true") (st := K19.topS 5) (ps := ["clauses", "state"]) rfl rfl rfl rfl KX a4 (by k_is) (by k_is) (by k_is) (fun _ _ _ _ _ _ us hl => match us, hl with | [_, _], _ => rfl)
    have a5 := En.ns_look (x := "is_true_in_all") KX (by k_is)
    have E5 := En.ent_fn (i := K19.i_is_true_in_all) (x := "is_true_in_all") (st := K19.topS 6) (ps := ["clause", "states"]) rfl rfl rfl rfl KX a5 (by k_is) (by k_is) (by k_is) (fun _ _ _ _ _ _ us hl => match us, hl with | [_, _], _ => rfl)
    have a6 := En.ns_look (x := "shortened") KX (by k_is)
    have E6 := En.ent_fn (i := K19.i_shortened) (x := "shortened") (st := K19.topS 7) (ps := ["clause", "states"]) rfl rfl rfl rfl KX a6 (by k_is) (by k_is) (by k_is) (fun _ _ _ _ _ _ us hl => match us, hl with | [_, _], _ => rfl)
    have a7 := En.ns_look (x := "clauses_of") KX (by k_is)
    have E7 := En.ent_fn (i := K19.i_clauses_of) (x := "clauses_of") (st := K19.topS 8) (ps := ["machine"]) rfl rfl rfl rfl KX a7 (by k_is) (by k_is) (by k_is) (fun _ _ _ _ _ _ us hl => match us, hl with | [_], _ => rfl)
    have a8 := En.ns_look (x := "are_clauses") KX (by k_is)
    have E8 := En.ent_fn (i := K19.i_are_clauses) (x := "are_clauses") (st := K19.topS 9) (ps := ["clauses", "state_bits"]) rfl rfl rfl rfl KX a8 (by k_is) (by k_is) (by k_is) (fun _ _ _ _ _ _ us hl => match us, hl with | [_, _], _ => rfl)
    have a9 := En.ns_look (x := "is_invariant") KX (by k_is)
    have E9 := En.ent_fn (i := K19.i_is_invariant) (x := "is_invariant") (st := K19.topS 10) (ps := ["machine", "clauses"]) rfl rfl rfl rfl KX a9 (by k_is) (by k_is) (by k_is) (fun _ _ _ _ _ _ us hl => match us, hl with | [_, _], _ => rfl)
    have a10 := En.ns_look (x := "check_counts") KX (by k_is)
    have E10 := En.ent_fn (i := K19.i_check_counts) (x := "check_counts") (st := K19.topS 20) (ps := ["inputs", "outputs", "state_bits"]) rfl rfl rfl rfl KX a10 (by k_is) (by k_is) (by k_is) (fun _ _ _ _ _ _ us hl => match us, hl with | [_, _, _], _ => rfl)
    have a11 := En.ns_look (x := "_law_pool") KX (by k_is)
    have E11 := En.ent_fn (i := K19.i_law_pool) (x := "_law_pool") (st := K19.topS 23) (ps := ["script", "place"]) rfl rfl rfl rfl KX a11 (by k_is) (by k_is) (by k_is) (fun _ _ _ _ _ _ us hl => match us, hl with | [_, _], _ => rfl)
    have a12 := En.ns_look (x := "_law_draw") KX (by k_is)
    have E12 := En.ent_fn (i := K19.i_law_draw) (x := "_law_draw") (st := K19.topS 24) (ps := ["pool", "many"]) rfl rfl rfl rfl KX a12 (by k_is) (by k_is) (by k_is) (fun _ _ _ _ _ _ us hl => match us, hl with | [_, _], _ => rfl)
    have a13 := En.ns_look (x := "_law_pick") KX (by k_is)
    have E13 := En.ent_fn (i := K19.i_law_pick) (x := "_law_pick") (st := K19.topS 25) (ps := ["pool", "row"]) rfl rfl rfl rfl KX a13 (by k_is) (by k_is) (by k_is) (fun _ _ _ _ _ _ us hl => match us, hl with | [_, _], _ => rfl)
    have a14 := En.ns_look (x := "_law_whole") KX (by k_is)
    have E14 := En.ent_fn (i := K19.i_law_whole) (x := "_law_whole") (st := K19.topS 26) (ps := ["value"]) rfl rfl rfl rfl KX a14 (by k_is) (by k_is) (by k_is) (fun _ _ _ _ _ _ us hl => match us, hl with | [_], _ => rfl)
    have a15 := En.ns_look (x := "_law_same") KX (by k_is)
    have E15 := En.ent_fn (i := K19.i_law_same) (x := "_law_same") (st := K19.topS 27) (ps := ["value", "due"]) rfl rfl rfl rfl KX a15 (by k_is) (by k_is) (by k_is) (fun _ _ _ _ _ _ us hl => match us, hl with | [_, _], _ => rfl)
    have a16 := En.ns_look (x := "_law_machine") KX (by k_is)
    have E16 := En.ent_fn (i := K19.i_law_machine) (x := "_law_machine") (st := K19.topS 28) (ps := ["pool"]) rfl rfl rfl rfl KX a16 (by k_is) (by k_is) (by k_is) (fun _ _ _ _ _ _ us hl => match us, hl with | [_], _ => rfl)
    have a17 := En.ns_look (x := "_law_order") KX (by k_is)
    have E17 := En.ent_fn (i := K19.i_law_order) (x := "_law_order") (st := K19.topS 29) (ps := ["pool", "row"]) rfl rfl rfl rfl KX a17 (by k_is) (by k_is) (by k_is) (fun _ _ _ _ _ _ us hl => match us, hl with | [_, _], _ => rfl)
    have a18 := En.ns_look (x := "_law_counter") KX (by k_is)
    have E18 := En.ent_fn (i := K19.i_law_counter) (x := "_law_counter") (st := K19.topS 30) (ps := ["pool"]) rfl rfl rfl rfl KX a18 (by k_is) (by k_is) (by k_is) (fun _ _ _ _ _ _ us hl => match us, hl with | [_], _ => rfl)
    have a19 := En.ns_look (x := "_law_longer") KX (by k_is)
    have E19 := En.ent_fn (i := K19.i_law_longer) (x := "_law_longer") (st := K19.topS 31) (ps := ["pool"]) rfl rfl rfl rfl KX a19 (by k_is) (by k_is) (by k_is) (fun _ _ _ _ _ _ us hl => match us, hl with | [_], _ => rfl)
    have a20 := En.ns_look (x := "_law_true") KX (by k_is)
    have E20 := En.ent_fn (i := K19.i_law_true) (x := "_law_true") (st := K19.topS 32) (ps := ["clause", "state"]) rfl rfl rfl rfl KX a20 (by k_is) (by k_is) (by k_is) (fun _ _ _ _ _ _ us hl => match us, hl with | [_, _], _ => rfl)
    have a21 := En.ns_look (x := "_law_clauses_for") KX (by k_is)
    have E21 := En.ent_fn (i := K19.i_law_clauses_for) (x := "_law_clauses_for") (st := K19.topS 33) (ps := ["states", "bits"]) rfl rfl rfl rfl KX a21 (by k_is) (by k_is) (by k_is) (fun _ _ _ _ _ _ us hl => match us, hl with | [_, _], _ => rfl)
    have a22 := En.ns_look (x := "_law_closed") KX (by k_is)
    have E22 := En.ent_fn (i := K19.i_law_closed) (x := "_law_closed") (st := K19.topS 34) (ps := ["world", "states"]) rfl rfl rfl rfl KX a22 (by k_is) (by k_is) (by k_is) (fun _ _ _ _ _ _ us hl => match us, hl with | [_, _], _ => rfl)
    have a23 := En.ns_look (x := "_law_judged") KX (by k_is)
    have E23 := En.ent_fn (i := K19.i_law_judged) (x := "_law_judged") (st := K19.topS 35) (ps := ["world", "clauses"]) rfl rfl rfl rfl KX a23 (by k_is) (by k_is) (by k_is) (fun _ _ _ _ _ _ us hl => match us, hl with | [_, _], _ => rfl)
    have a24 := En.ns_look (x := "_law_some_clause") KX (by k_is)
    have E24 := En.ent_fn (i := K19.i_law_some_clause) (x := "_law_some_clause") (st := K19.topS 36) (ps := ["pool", "bits"]) rfl rfl rfl rfl KX a24 (by k_is) (by k_is) (by k_is) (fun _ _ _ _ _ _ us hl => match us, hl with | [_, _], _ => rfl)
    have a25 := En.ns_look (x := "_law_bent") KX (by k_is)
    have E25 := En.ent_fn (i := K19.i_law_bent) (x := "_law_bent") (st := K19.topS 37) (ps := ["pool", "world", "right"]) rfl rfl rfl rfl KX a25 (by k_is) (by k_is) (by k_is) (fun _ _ _ _ _ _ us hl => match us, hl with | [_, _, _], _ => rfl)
    have a26 := En.ns_look (x := "_law_said") KX (by k_is)
    have E26 := En.ent_fn (i := K19.i_law_said) (x := "_law_said") (st := K19.topS 38) (ps := ["pool", "machine", "clauses", "due"]) rfl rfl rfl rfl KX a26 (by k_is) (by k_is) (by k_is) (fun _ _ _ _ _ _ us hl => match us, hl with | [_, _, _, _], _ => rfl)
    have a27 := En.ns_look (x := "_law_right") KX (by k_is)
    have E27 := En.ent_fn (i := K19.i_law_right) (x := "_law_right") (st := K19.topS 39) (ps := ["pool", "machine", "world"]) rfl rfl rfl rfl KX a27 (by k_is) (by k_is) (by k_is) (fun _ _ _ _ _ _ us hl => match us, hl with | [_, _, _], _ => rfl)
    have a28 := En.ns_look (x := "law") KX (by k_is)
    have E28 := En.ent_fn (i := K19.i_law) (x := "law") (st := K19.topS 40) (ps := ["script"]) rfl rfl rfl rfl KX a28 (by k_is) (by k_is) (by k_is) (fun _ _ _ _ _ _ us hl => match us, hl with | [_], _ => rfl)
    have a29 := En.find_look (m := "__init__") KX aC0 (by k_is)
    have E29 := En.ent_me (i := K19.i_Machine___init__) (x := "__init__") (q := "Machine.__init__") (st := L2.inClass (K19.topS 21) 0) (ps := ["self", "inputs", "outputs", "state_bits", "reset", "rows"]) rfl rfl rfl rfl KX a29 (by k_is) (by k_is) (by k_is) (fun _ _ _ _ _ _ us hl => match us, hl with | [_, _, _, _, _, _], _ => rfl)
    have a30 := En.find_look (m := "has_right_rows") KX aC0 (by k_is)
    have E30 := En.ent_me (i := K19.i_Machine_has_right_rows) (x := "has_right_rows") (q := "Machine.has_right_rows") (st := L2.inClass (K19.topS 21) 1) (ps := ["self"]) rfl rfl rfl rfl KX a30 (by k_is) (by k_is) (by k_is) (fun _ _ _ _ _ _ us hl => match us, hl with | [_], _ => rfl)
    have g0 := En.ns_look (x := "INPUT_LIMIT") KX (by k_is)
    have g1 := En.ns_look (x := "OUTPUT_LIMIT") KX (by k_is)
    have g2 := En.ns_look (x := "STATE_LIMIT") KX (by k_is)
    have g3 := En.ns_look (x := "JOINT_LIMIT") KX (by k_is)
    have X := En.txt_mk (as := []) (fs := [_, _, _, _, _, _, _, _, _, _, _, _, _, _, _, _, _, _, _, _, _, _, _, _, _, _, _, _, _, _, _]) (cs := [_]) (T := K19.tb) (w := w) KX
      ⟨E0, ⟨E1, ⟨E2, ⟨E3, ⟨E4, ⟨E5, ⟨E6, ⟨E7, ⟨E8, ⟨E9, ⟨E10, ⟨E11, ⟨E12, ⟨E13, ⟨E14, ⟨E15, ⟨E16, ⟨E17, ⟨E18, ⟨E19, ⟨E20, ⟨E21, ⟨E22, ⟨E23, ⟨E24, ⟨E25, ⟨E26, ⟨E27, ⟨E28, ⟨E29, ⟨E30, True.intro⟩⟩⟩⟩⟩⟩⟩⟩⟩⟩⟩⟩⟩⟩⟩⟩⟩⟩⟩⟩⟩⟩⟩⟩⟩⟩⟩⟩⟩⟩⟩
      (En.all_cons (PySem.W.mg_of KX G a0) (En.all_cons (PySem.W.mg_of KX G a1) (En.all_cons (PySem.W.mg_of KX G a2) (En.all_cons (PySem.W.mg_of KX G a3) (En.all_cons (PySem.W.mg_of KX G a4) (En.all_cons (PySem.W.mg_of KX G a5) (En.all_cons (PySem.W.mg_of KX G a6) (En.all_cons (PySem.W.mg_of KX G a7) (En.all_cons (PySem.W.mg_of KX G a8) (En.all_cons (PySem.W.mg_of KX G a9) (En.all_cons (PySem.W.mg_of KX G a10) (En.all_cons (PySem.W.mg_of KX G a11) (En.all_cons (PySem.W.mg_of KX G a12) (En.all_cons (PySem.W.mg_of KX G a13) (En.all_cons (PySem.W.mg_of KX G a14) (En.all_cons (PySem.W.mg_of KX G a15) (En.all_cons (PySem.W.mg_of KX G a16) (En.all_cons (PySem.W.mg_of KX G a17) (En.all_cons (PySem.W.mg_of KX G a18) (En.all_cons (PySem.W.mg_of KX G a19) (En.all_cons (PySem.W.mg_of KX G a20) (En.all_cons (PySem.W.mg_of KX G a21) (En.all_cons (PySem.W.mg_of KX G a22) (En.all_cons (PySem.W.mg_of KX G a23) (En.all_cons (PySem.W.mg_of KX G a24) (En.all_cons (PySem.W.mg_of KX G a25) (En.all_cons (PySem.W.mg_of KX G a26) (En.all_cons (PySem.W.mg_of KX G a27) (En.all_cons (PySem.W.mg_of KX G a28) En.all_nil)))))))))))))))))))))))))))))
      (En.all_cons ⟨_, (.int 4), PySem.W.mg_of KX G g0, En.rel_int, fun H fb cm => (.int 4)⟩ (En.all_cons ⟨_, (.int 24), PySem.W.mg_of KX G g1, En.rel_int, fun H fb cm => (.int 24)⟩ (En.all_cons ⟨_, (.int 8), PySem.W.mg_of KX G g2, En.rel_int, fun H fb cm => (.int 8)⟩ (En.all_cons ⟨_, (.int 12), PySem.W.mg_of KX G g3, En.rel_int, fun H fb cm => (.int 12)⟩ En.all_nil))))
      (En.all_cons (PySem.W.mg_none_of KX G (by k_is)) (En.all_cons (PySem.W.mg_none_of KX G (by k_is)) (En.all_cons (PySem.W.mg_none_of KX G (by k_is)) (En.all_cons (PySem.W.mg_none_of KX G (by k_is)) (En.all_cons (PySem.W.mg_none_of KX G (by k_is)) (En.all_cons (PySem.W.mg_none_of KX G (by k_is)) (En.all_cons (PySem.W.mg_none_of KX G (by k_is)) (En.all_cons (PySem.W.mg_none_of KX G (by k_is)) (En.all_cons (PySem.W.mg_none_of KX G (by k_is)) (En.all_cons (PySem.W.mg_none_of KX G (by k_is)) En.all_nil))))))))))
      (fun j => En.all_nil)
      (En.all_cons (PySem.W.mg_of KX G aC0) En.all_nil)
      ⟨⟨C0, En.mk_of KX aC0 a29 (by k_is) (by k_is) (by k_is), (En.all_cons (En.me_of KX a30 (by k_is) (by k_is)) En.all_nil)⟩, True.intro⟩
      (En.all_cons (En.na_of KX C0 (by k_is)) (En.all_cons (En.na_of KX C0 (by k_is)) (En.all_cons (En.na_of KX C0 (by k_is)) (En.all_cons (En.na_of KX C0 (by k_is)) (En.all_cons (En.na_of KX C0 (by k_is)) En.all_nil)))))
    exact En.law_fn X K19.chk (by rfl) E28 rfl (PySem.W.mg_of KX G a28) hmg rfl (fun ns hn => K19.math ns)

