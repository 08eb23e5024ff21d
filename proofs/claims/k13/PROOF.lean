import PyProof.Rows.All
import Wide.All
import OpenK.AllK
import Wide.FinOn
import HandS.ForMost
import HandS.Walk
import KE.GoesEnum
import KE.GoesMore
import KE.GoesZip
import HandS.More
import HandS.IsInst
import HandS.TupAny
import HandS.NoneIn
import HandS.HeadWalk
import PySem.Challenge.RW_chipmill_k13_words_of_bits
set_option Elab.async false
set_option linter.all false
set_option maxRecDepth 100000
set_option maxHeartbeats 1000000
namespace En
open PySem PySem.Spec PyProof.Rows L2
theorem meets_enum1 {v : Value} {o : Obj} {H : Heap → Prop} (B : Begins v o H) :
    Meets (Builtin.«enumerate.__new__» ⟨[.type "enumerate", v], []⟩) (fun _ R s => H s.heap ∧
      R (.ok (.ret (.ref (s.heap.push o).objs.size))) { s with heap := (s.heap.push o).push { cls := .type "enumerate", data := .fields #[.none, .bool false, .ref s.heap.objs.size, rawInt 0, .none, .none] } }) :=
  .of_wp fun prog w A R s h => by
    obtain ⟨hp, g, d, tk, os⟩ := s
    obtain ⟨h1, h⟩ := h
    have hsub := sub_enumerate
    have q1 : ∀ {A' : Around} {E : Value → Shared → Prop} {Q : Value → Shared → Prop}, Q (.ref hp.objs.size) ⟨hp.push o, g, d, tk, os⟩ → wpAny (model prog w) A' (pyIter v) Q E ⟨hp, g, d, tk, os⟩ :=
      fun q => B.iter prog w _ _ ⟨hp, g, d, tk, os⟩ _ h1 q
    wp_walk using q1
    refine wpAny_stack_any fun st => wpAny_pure ?_
    split
    · rename_i c _ _ _ _ _
      cases (c == Value.type "enumerate")
      · wp_walk using q1
        exact ⟨_, rfl, h⟩
      · wp_walk using q1
        exact ⟨_, rfl, h⟩
    · wp_walk using q1
      exact ⟨_, rfl, h⟩
section
variable {prog : Program} {w : World} {A : Around} {E : Value → Shared → Prop} {s : Shared}
theorem call_enum1 {v : Value} {o : Obj} {H : Heap → Prop} {Q : Value → Shared → Prop} (B : Begins v o H) (h1 : H s.heap)
    (h : ∀ h', IsEnum h' (s.heap.objs.size + 1) s.heap.objs.size 0 .none → h'.get? s.heap.objs.size = some o → h'.objs.size = s.heap.objs.size + 2 →
      (∀ b o, s.heap.get? b = some o → h'.get? b = some o) → Q (.ref (s.heap.objs.size + 1)) { s with heap := h' }) :
    wpAny (model prog w) A (call (.type "enumerate") [v]) Q E s := by
  refine callType_new F.called_enumerate (by decide) (F.typeCall_enumerate_1 _) (F.newCall_enumerate_1 _) (fun obj => F.args_object_init_2 obj _) F.entry_enumerate_new (meets_enum1 B) ⟨h1, ?_⟩
  have hz : (s.heap.push o).objs.size = s.heap.objs.size + 1 := Heap.size_push ..
  show _ ∧ _
  rw [hz]
  have he : IsEnum ((s.heap.push o).push { cls := .type "enumerate", data := .fields #[.none, .bool false, .ref s.heap.objs.size, rawInt 0, .none, .none] }) (s.heap.objs.size + 1) s.heap.objs.size 0 .none := by
    have q := Heap.get?_push_size (s.heap.push o) (o := { cls := .type "enumerate", data := .fields #[.none, .bool false, .ref s.heap.objs.size, rawInt 0, .none, .none] }) rfl
    rw [hz] at q
    exact q
  exact ⟨⟨_, he, rfl⟩, h _ he (Heap.get?_push_of_some _ (Heap.get?_push_size _ B.free)) (by rw [Heap.size_push, hz]) fun b o x => Heap.get?_push_of_some _ (Heap.get?_push_of_some _ x)⟩
end
/-- the tuple at a, each item in a new pair -/
def IteT (K : PySem.W.Frag) (a : Addr) : It :=
  ⟨fun i H => ∃ (xs : List V) (x : V), SqT K H a xs ∧ xs[i]? = some x, fun i H v H' => ∃ T x, v = .ref T ∧ H T = none ∧ H' = upd H T (.tup [.int (i : Nat), x]) ∧ ∀ xs, SqT K H a xs → xs[i]? = some x, fun i H => ∃ xs : List V, SqT K H a xs ∧ xs.length ≤ i⟩
theorem tup_ne {h : Heap} {a it : Addr} {i : Nat} {its : Array Value} (p : IsTup h a its) (q : h.IsTupleIter it a i) : a ≠ it := fun z => by
  obtain ⟨o, h1, h2, _⟩ := p
  obtain ⟨o', h3, h4, _⟩ := q
  rw [z, h3] at h1
  cases h1
  rw [h4] at h2
  exact absurd h2 (by simp)
theorem turn_enumT {P : Program} {w : World} {K : PySem.W.Frag} {elts : List Expr} {kk : Nat} {tpos : Pos} (a e it : Addr) :
    Turn P w K (.Tuple elts kk tpos) (IteT K a) [e, it] e (fun i h => (∃ old, IsEnum h e it ((i : Nat) : Int) old) ∧ h.IsTupleIter it a i ∧ e ≠ it ∧ e ≠ a) where
  mem := by simp
  obj := fun i h st b hb => by
    obtain ⟨⟨old, he⟩, ⟨o, ho, hc, hd⟩, _⟩ := st
    rcases (show b = e ∨ b = it by simpa using hb) with z | z
    · rw [z]; exact ⟨_, he, fun v q => nomatch q⟩
    · rw [z]; exact ⟨o, ho, fun v q => by rw [hd] at q; cases q⟩
  keep := fun i h h' st k => let ⟨⟨old, he⟩, hi, hne⟩ := st; ⟨⟨old, k e (by simp) _ he⟩, hi.at fun o q => k it (by simp) o q, hne⟩
  item := by
    intro X hP hw hK hc i pins s σ H E I hf st hg
    subst hP hw hK
    obtain ⟨⟨old, he⟩, hit, hne, hna⟩ := st
    obtain ⟨xs, x, hq, hx⟩ := hg
    obtain ⟨its, rv, p, hz⟩ := I.tuple hq
    obtain ⟨u, hu, ru⟩ := rv.get hx
    have hel : e < s.heap.objs.size := Heap.lt_size he
    have hil : it < s.heap.objs.size := by obtain ⟨_, q, _⟩ := hit; exact Heap.lt_size q
    have hlt : i < its.toArray.size := by
      have q := (List.getElem?_eq_some_iff.mp hu).1
      simpa using q
    have dr := Draws.tuple (prog := X.prog) (w := X.w) (A := X.A.in1) (I.ok.hd hc) it a (tup_ne p hit) its.toArray
    refine wpAny_pyNext_enum_itemD dr he ⟨hit, p⟩ hlt hne (by simp [hne, hna]) fun y h' tk hy ho hit' hT hsz hk => ?_
    have ey : y = u := Option.some.inj (hy.symm.trans (by simpa using hu))
    subst ey
    refine ⟨_, rfl, wpAny_letOwnedTupleGo_enum (s := { s with heap := h', toks := tk + 1 }) ho fun h'' he' sb => ?_⟩
    have hT2 : h''.get? s.heap.objs.size = some { cls := .type "tuple", data := .seq #[.int i tk, y] } := (sb.2 _ (Nat.ne_of_gt hel)).trans hT
    have new : ObjOk X.prog X.w (upd H s.heap.objs.size (.tup [.int (i : Nat), x])) h'' s.heap.objs.size (.tup [.int (i : Nat), x]) :=
      ⟨by show 2 ≤ sizeLine; decide, [.int i tk, y], .cons ⟨_, rfl⟩ (.cons ru .nil), ⟨_, hT2, rfl, _, rfl⟩⟩
    have I1 : Inv X pins σ (upd H s.heap.objs.size (.tup [.int (i : Nat), x])) { s with heap := h'', toks := tk + 1 } :=
      I.turnedNew (ch := [e, it]) (fun b ob hb q => (sb.2 b (fun z => hb (by simp [z]))).trans (hk b ob (fun z => hb (by simp [z])) (fun z => hb (by simp [z])) q)) hf (Nat.le_refl _) new
    refine ⟨.ref s.heap.objs.size, _, I1, rfl, ⟨_, x, rfl, I.hok.fresh (Nat.le_refl _), rfl, fun ys hy => by rw [I.tuple_inj hy hq]; exact hx⟩, ⟨⟨y, ?_⟩, hit'.1.at fun o q => (sb.2 it (Ne.symm hne)).trans q, hne, hna⟩, fun b hb => ?_⟩
    · have e1 : ((i + 1 : Nat) : Int) = (i : Int) + 1 := by omega
      rw [e1]; exact he'
    · have hb' : b < s.heap.objs.size := by
        rcases (show b = e ∨ b = it by simpa using hb) with z | z
        · rw [z]; exact hel
        · rw [z]; exact hil
      rw [upd_ne (Nat.ne_of_lt hb')]
      exact (hf b hb).1
  done := by
    intro X hP hw hK hc i pins s σ H E I hf st hg
    subst hP hw hK
    obtain ⟨⟨old, he⟩, hit, hne, hna⟩ := st
    obtain ⟨xs, hq, hx⟩ := hg
    obtain ⟨its, rv, p, hz⟩ := I.tuple hq
    obtain ⟨f0, f1, f2, f3, f4, f5⟩ := hf it (by simp)
    have hl := rv.length
    have dr := Draws.tuple (prog := X.prog) (w := X.w) (A := X.A.in1) (I.ok.hd hc) it a (tup_ne p hit) its.toArray
    by_cases hi : i = its.toArray.size
    · subst hi
      exact wpAny_pyNext_enum_endD dr he ⟨hit, p⟩ fun h' eb => ⟨rfl, I.turned (t' := s.toks) (fun b o hb q => eb b o hb q) f0 f1 f3 f4 f5⟩
    · have hT : s.TypeIs (.ref e) "enumerate" := ⟨_, he, rfl⟩
      have nn : its.toArray[i]? = none := by
        rw [Array.getElem?_eq_none]
        simp only [List.size_toArray]
        omega
      unfold pyNext
      refine wpAny_bind (wpAny_attempt (wpAny_callSpecial?_slot (name := Str.ofString "__next__") hT F.slot_enumerate_next
        (wpAny_call_entry F.slot_enumerate_next hT F.entry_enumerate_next ?_ (F.args_enumerate_next_1 _))))
      show wpAny _ _ (field (.ref e) 2 >>= _) _ _ _
      refine wpAny_bind (wpAny_field he rfl (x := .ref it) rfl ?_)
      refine wpAny_bind (wpAny_nextOf_tuple_end (I.ok.hd hc) hit p nn fun h' y he' hx' => ?_)
      obtain ⟨o, ho, hcc⟩ := hx'
      refine wpAny_bind (wpAny_isInstance (T := "StopIteration") (b := true) ⟨o, ho, hcc⟩ isSubtype_stop ?_)
      exact wpAny_pure ⟨rfl, I.turned (t' := s.toks) (fun b o hb q => he' b o hb q) f0 f1 f3 f4 f5⟩
  self := fun A i s Q E st h => let ⟨⟨_, he⟩, _⟩ := st; wpAny_pyIter_enum he h
def iEnumT (K : PySem.W.Frag) (ta : TA) : TI := fun σ H R => ta σ H fun vs H1 => ∃ a xs, vs = [.ref a] ∧ SqT K H1 a xs ∧ R (IteT K a) H1
theorem pi_enumT {X : Cx} {e : Expr} {ta : TA} {p pos tpos : Pos} {elts : List Expr} {kk : Nat} (hg : Gl X "enumerate") (hm : X.mg "enumerate" = none) (ha : PA X [e] ta) (hs : starEach [e] X.env = [(false, eval e X.env)] := by rfl) :
    PI X (.Tuple elts kk tpos) (.Call (.Name "enumerate" p) [e] [] pos) (iEnumT X.K ta) := by
  refine ⟨fun pins s σ H R I h => ?_⟩
  refine Call_ (ld_blt I hg hm boot_enumerate (PyProof.Rows.callWith_type1 (thn (ha.run pos pins s σ H _ I h) fun us s1 ⟨vs, H1, I1, r1, q1⟩ => ?_) hs rfl))
  obtain ⟨a, xs, ex, hq, q⟩ := q1
  subst ex
  cases r1 with
  | cons r rr =>
    cases rr
    cases r
    obtain ⟨its, rv, p', hz⟩ := I1.tuple hq
    have hal : a < s1.heap.objs.size := p'.lt
    refine call_enum1 (begins_tuple a its.toArray) p' fun h' he hit hsz hk => wpAny_pyIter_enum he ?_
    have I2 : Inv X pins σ H1 { s1 with heap := h' } := I1.kept (t' := s1.toks) hk
    refine ⟨s1.heap.objs.size + 1, [s1.heap.objs.size + 1, s1.heap.objs.size], _, _, H1, rfl, I2, turn_enumT a (s1.heap.objs.size + 1) s1.heap.objs.size, ⟨⟨.none, he⟩, ⟨_, hit, rfl, rfl⟩, Nat.succ_ne_self _, Nat.ne_of_gt (Nat.lt_succ_of_lt hal)⟩, fun b hb => ?_, q⟩
    have hle : s1.heap.objs.size ≤ b := by
      rcases (show b = s1.heap.objs.size + 1 ∨ b = s1.heap.objs.size by simpa using hb) with z | z
      · rw [z]; exact Nat.le_add_right _ _
      · rw [z]; exact Nat.le_refl _
    exact I1.fpOk hle (I1.hok.fresh hle)

def SqK (K : PySem.W.Frag) (H : Hp) : Bool → Addr → List V → Prop
  | true => SqT K H
  | false => SqL K H
def SrcIt (h : Heap) : Bool → Addr → Addr → Nat → Prop
  | true => fun it a i => h.IsTupleIter it a i
  | false => fun it a i => h.IsListIter it a i
def SrcOb (h : Heap) : Bool → Addr → Array Value → Prop
  | true => fun a xs => h.IsTuple a xs
  | false => fun a xs => h.IsList a xs
def srcO : Bool → Addr → Obj
  | true => fun a => { cls := .type "tuple_iterator", data := .fields #[.ref a, .int 0 0] }
  | false => fun a => { cls := .type "list_iterator", data := .fields #[.ref a, .int 0 0] }
theorem src_draws {prog : Program} {w : World} {A : Around} (hh : A.handled = none) : ∀ (k : Bool) (it a : Addr) (hne : a ≠ it) (items : Array Value), Draws prog w A it [it, a] items.size (fun i v => items[i]? = some v) (fun i h => SrcIt h k it a i ∧ SrcOb h k a items)
  | true, it, a, hne, items => .tuple hh it a hne items
  | false, it, a, hne, items => .list hh it a hne items
theorem src_begins : ∀ (k : Bool) (a : Addr) (items : Array Value), Begins (.ref a) (srcO k a) fun h => SrcOb h k a items
  | true, a, items => begins_tuple a items
  | false, a, items => begins_list a items
theorem src_start {h : Heap} {it a : Addr} : ∀ {k : Bool}, h.get? it = some (srcO k a) → SrcIt h k it a 0
  | true, e => ⟨_, e, rfl, rfl⟩
  | false, e => ⟨_, e, rfl, rfl⟩
theorem src_cell {h : Heap} {it a : Addr} {i : Nat} : ∀ {k : Bool}, SrcIt h k it a i → ∃ o, h.get? it = some o ∧ ∀ v, o.data ≠ .cell v
  | true, ⟨o, e, _, d⟩ => ⟨o, e, fun v q => by rw [d] at q; cases q⟩
  | false, ⟨o, e, _, d⟩ => ⟨o, e, fun v q => by rw [d] at q; cases q⟩
theorem src_at {h h' : Heap} {it a : Addr} {i : Nat} : ∀ {k : Bool}, SrcIt h k it a i → (∀ o, h.get? it = some o → h'.get? it = some o) → SrcIt h' k it a i
  | true, st, q => st.at q
  | false, st, q => st.at q
theorem src_inv {X : Cx} {pins : List (Addr × Obj)} {σ : L2.St} {H : Hp} {s : Shared} {a : Addr} {xs : List V} (I : Inv X pins σ H s) : ∀ {k : Bool}, SqK X.K H k a xs → ∃ its : List Value, Vals xs its ∧ SrcOb s.heap k a its.toArray ∧ a < s.heap.objs.size
  | true, h => let ⟨its, r, p, _⟩ := I.tuple h; ⟨its, r, p, p.lt⟩
  | false, h => let ⟨its, r, p, _⟩ := I.list h; ⟨its, r, p.isList, p.lt⟩
theorem src_inj {X : Cx} {pins : List (Addr × Obj)} {σ : L2.St} {H : Hp} {s : Shared} {a : Addr} {xs ys : List V} (I : Inv X pins σ H s) : ∀ {k : Bool}, SqK X.K H k a xs → SqK X.K H k a ys → xs = ys
  | true, h, q => I.tuple_inj h q
  | false, h, q => I.list_inj h q
/-- the two sources as they stand at each turn, the items in new pairs -/
def ItzM (K : PySem.W.Frag) (k1 k2 : Bool) (a b : Addr) : It :=
  ⟨fun i H => ∃ (xs ys : List V) (x y : V), SqK K H k1 a xs ∧ SqK K H k2 b ys ∧ xs[i]? = some x ∧ ys[i]? = some y,
    fun i H v H' => ∃ T x y, v = .ref T ∧ H T = none ∧ H' = upd H T (.tup [x, y]) ∧ (∀ xs, SqK K H k1 a xs → xs[i]? = some x) ∧ ∀ ys, SqK K H k2 b ys → ys[i]? = some y,
    fun i H => ∃ xs ys : List V, SqK K H k1 a xs ∧ SqK K H k2 b ys ∧ i ≤ xs.length ∧ i ≤ ys.length ∧ (i = xs.length ∨ i = ys.length)⟩
theorem sep_of {z TI TO i1 i2 a b : Addr} (D : ZipApart z TI TO i1 i2 a b) : ZipSep2 z TI TO i1 i2 [i1, a] [i2, b] where
  TIz := D.TIz
  TOz := D.TOz
  TITO := D.TITO
  TIi1 := D.TIi1
  mem1 := by simp
  zf1 := by simp [Ne.symm D.i1z, Ne.symm D.l1z]
  Tf1 := by simp [D.TOi1, Ne.symm D.l1TO]
  TIi2 := D.TIi2
  mem2 := by simp
  zf2 := by simp [Ne.symm D.i2z, Ne.symm D.l2z]
  Tf2 := by simp [D.TOi2, Ne.symm D.l2TO]
  sep1_2 := by simp [D.i12, Ne.symm D.l2i1]
  sep2_1 := by simp [Ne.symm D.i12, Ne.symm D.l1i2]
theorem turn_zipM {P : Program} {w : World} {K : PySem.W.Frag} {elts : List Expr} {kk : Nat} {tpos : Pos} {k1 k2 : Bool} {a b z TI TO i1 i2 : Addr} (D : ZipApart z TI TO i1 i2 a b) :
    Turn P w K (.Tuple elts kk tpos) (ItzM K k1 k2 a b) [z, TI, TO, i1, i2] z (fun i h => IsZip h z TI TO .none ∧ IsPair h TI (.ref i1) (.ref i2) ∧ (∃ x y, IsPair h TO x y) ∧ SrcIt h k1 i1 a i ∧ SrcIt h k2 i2 b i) where
  mem := by simp
  obj := fun i h st c hc => by
    obtain ⟨hz, hTI, ⟨x, y, hTO⟩, h1, h2⟩ := st
    simp only [List.mem_cons, List.not_mem_nil, or_false] at hc
    rcases hc with q | q | q | q | q <;> subst q
    · exact ⟨_, hz, fun v q => nomatch q⟩
    · exact ⟨_, hTI, fun v q => nomatch q⟩
    · exact ⟨_, hTO, fun v q => nomatch q⟩
    · exact src_cell h1
    · exact src_cell h2
  keep := fun i h h' st k => by
    obtain ⟨hz, hTI, ⟨x, y, hTO⟩, h1, h2⟩ := st
    exact ⟨k z (by simp) _ hz, k TI (by simp) _ hTI, ⟨x, y, k TO (by simp) _ hTO⟩, src_at h1 fun o q => k i1 (by simp) o q, src_at h2 fun o q => k i2 (by simp) o q⟩
  item := by
    intro X hP hw hK hc i pins s σ H E I hf st hg
    subst hP hw hK
    obtain ⟨hz, hTI, ⟨x0, y0, hTO⟩, h1, h2⟩ := st
    obtain ⟨xs, ys, x, y, hqx, hqy, hx, hy⟩ := hg
    obtain ⟨its, rv, p, _⟩ := src_inv I hqx
    obtain ⟨its2, rv2, p2, _⟩ := src_inv I hqy
    obtain ⟨u, hu, ru⟩ := rv.get hx
    obtain ⟨u2, hu2, ru2⟩ := rv2.get hy
    have hzl : z < s.heap.objs.size := Heap.lt_size hz
    have l1 : i < its.toArray.size := by simpa using (List.getElem?_eq_some_iff.mp hu).1
    have l2 : i < its2.toArray.size := by simpa using (List.getElem?_eq_some_iff.mp hu2).1
    have hh : X.A.in1.handled = none := I.ok.hd hc
    refine wpAny_pyNext_zipD2_item (sep_of D) (src_draws hh k1 i1 a D.l1i1 its.toArray) (src_draws hh k2 i2 b D.l2i2 its2.toArray) hz hTI hTO ⟨h1, p⟩ ⟨h2, p2⟩ l1 l2 fun w1 w2 h' tk e1 e2 z' TO' h1' h2' hT hsz hk => ?_
    have q1 : w1 = u := Option.some.inj (e1.symm.trans (by simpa using hu))
    have q2 : w2 = u2 := Option.some.inj (e2.symm.trans (by simpa using hu2))
    subst q1 q2
    refine ⟨_, rfl, wpAny_letOwnedTupleGo_zip (s := { s with heap := h', toks := tk }) z' fun h'' z'' sb => ?_⟩
    have hT2 : h''.get? s.heap.objs.size = some { cls := .type "tuple", data := .seq #[w1, w2] } := (sb.2 _ (Nat.ne_of_gt hzl)).trans hT
    have new : ObjOk X.prog X.w (upd H s.heap.objs.size (.tup [x, y])) h'' s.heap.objs.size (.tup [x, y]) :=
      ⟨by show 2 ≤ sizeLine; decide, [w1, w2], .cons ru (.cons ru2 .nil), ⟨_, hT2, rfl, _, rfl⟩⟩
    have I1 : Inv X pins σ (upd H s.heap.objs.size (.tup [x, y])) { s with heap := h'', toks := tk } :=
      I.turnedNew (t' := tk) (ch := [z, TI, TO, i1, i2]) (fun c o hb q => (sb.2 c (fun q' => hb (by simp [q']))).trans (hk c o (fun q' => hb (by simp [q'])) (fun q' => hb (by simp [q'])) (fun q' => hb (by simp [q'])) (fun q' => hb (by simp [q'])) q)) hf (Nat.le_refl _) new
    refine ⟨.ref s.heap.objs.size, _, I1, rfl, ⟨_, x, y, rfl, I.hok.fresh (Nat.le_refl _), rfl, fun l hl => by rw [src_inj I hl hqx]; exact hx, fun l hl => by rw [src_inj I hl hqy]; exact hy⟩, ⟨z'', ?_, ⟨w1, w2, ?_⟩, ?_, ?_⟩, fun c hcm => ?_⟩
    · exact (sb.2 _ D.TIz).trans (hk _ _ D.TIz D.TITO D.TIi1 D.TIi2 hTI)
    · exact (sb.2 _ D.TOz).trans TO'
    · exact src_at h1'.1 fun o q => (sb.2 _ D.i1z).trans q
    · exact src_at h2'.1 fun o q => (sb.2 _ D.i2z).trans q
    · have hlt : c < s.heap.objs.size := by
        simp only [List.mem_cons, List.not_mem_nil, or_false] at hcm
        rcases hcm with q | q | q | q | q <;> subst q
        · exact hzl
        · exact Heap.lt_size hTI
        · exact Heap.lt_size hTO
        · obtain ⟨_, e, _⟩ := src_cell h1; exact Heap.lt_size e
        · obtain ⟨_, e, _⟩ := src_cell h2; exact Heap.lt_size e
      rw [upd_ne (Nat.ne_of_lt hlt)]
      exact (hf c hcm).1
  done := by
    intro X hP hw hK hc i pins s σ H E I hf st hg
    subst hP hw hK
    obtain ⟨hz, hTI, ⟨x0, y0, hTO⟩, h1, h2⟩ := st
    obtain ⟨xs, ys, hqx, hqy, le1, le2, hend⟩ := hg
    obtain ⟨its, rv, p, _⟩ := src_inv I hqx
    obtain ⟨its2, rv2, p2, _⟩ := src_inv I hqy
    have l1 := rv.length
    have l2 := rv2.length
    have hh : X.A.in1.handled = none := I.ok.hd hc
    refine wpAny_pyNext_zipD2_end (i := i) (sep_of D) (src_draws hh k1 i1 a D.l1i1 its.toArray) (src_draws hh k2 i2 b D.l2i2 its2.toArray) hz hTI hTO ⟨h1, p⟩ ⟨h2, p2⟩ (by simp; omega) (by simp; omega) (by simp; omega) fun h' tk hk => ⟨rfl, I.turnedL (t' := tk) (ch := [z, TI, TO, i1, i2]) (fun c o hb q =>
      hk c o (fun q' => hb (by simp [q'])) (fun q' => hb (by simp [q'])) (fun q' => hb (by simp [q'])) (fun q' => hb (by simp [q'])) q) hf⟩
  self := fun A i s Q E st h => wpAny_pyIter_zip st.1 h
def iZipM (K : PySem.W.Frag) (ta : TA) : TI := fun σ H R => ta σ H fun vs H1 => ∃ a b xs ys k1 k2, vs = [.ref a, .ref b] ∧ SqK K H1 k1 a xs ∧ SqK K H1 k2 b ys ∧ R (ItzM K k1 k2 a b) H1
theorem pi_zipM {X : Cx} {e e2 : Expr} {ta : TA} {p pos tpos : Pos} {elts : List Expr} {kk : Nat} (hg : Gl X "zip") (hm : X.mg "zip" = none) (ha : PA X [e, e2] ta)
    (hs : starEach [e, e2] X.env = (false, eval e X.env) :: starEach [e2] X.env := by rfl) (hpl : (backTo pos (starEach [e2] X.env)).any (·.1) = false := by rfl) :
    PI X (.Tuple elts kk tpos) (.Call (.Name "zip" p) [e, e2] [] pos) (iZipM X.K ta) := by
  refine ⟨fun pins s σ H R I h => ?_⟩
  refine Call_ (ld_blt I hg hm PyProof.Rows.boot_zip (PyProof.Rows.callWith_type1 (thn (ha.run pos pins s σ H _ I h) fun us s1 ⟨vs, H1, I1, r1, q1⟩ => ?_) hs hpl))
  obtain ⟨a, b, xs, ys, k1, k2, ex, hqx, hqy, q⟩ := q1
  subst ex
  cases r1 with
  | cons r rr =>
    cases rr with
    | cons r' rr =>
      cases rr
      cases r
      cases r'
      obtain ⟨its, rv, p1, lt1⟩ := src_inv I1 hqx
      obtain ⟨its2, rv2, p2, lt2⟩ := src_inv I1 hqy
      refine zip_begins2 (src_begins k1 a its.toArray) (src_begins k2 b its2.toArray) p1 p2 fun h' hz hTI hTO h1 h2 hsz hk => wpAny_pyIter_zip hz ?_
      have I2 : Inv X pins σ H1 { s1 with heap := h' } := I1.kept (t' := s1.toks) hk
      refine ⟨s1.heap.objs.size + 4, [s1.heap.objs.size + 4, s1.heap.objs.size + 2, s1.heap.objs.size + 3, s1.heap.objs.size, s1.heap.objs.size + 1], _, _, H1, rfl, I2, turn_zipM (PySem.W.ktu_apart s1.heap.objs.size a b lt1 lt2), ⟨hz, hTI, ⟨_, _, hTO⟩, src_start h1, src_start h2⟩, fun c hcm => ?_, q⟩
      have hle : s1.heap.objs.size ≤ c := by
        have e' : c = s1.heap.objs.size + 4 ∨ c = s1.heap.objs.size + 2 ∨ c = s1.heap.objs.size + 3 ∨ c = s1.heap.objs.size ∨ c = s1.heap.objs.size + 1 := by simpa using hcm
        rcases e' with q | q | q | q | q <;> rw [q]
        · exact Nat.le_add_right _ _
        · exact Nat.le_add_right _ _
        · exact Nat.le_add_right _ _
        · exact Nat.le_refl _
        · exact Nat.le_add_right _ _
      exact I1.fpOk hle (I1.hok.fresh hle)
end En

set_option Elab.async false
set_option linter.all false
set_option maxRecDepth 100000
namespace En
open PySem PySem.Spec PyProof.Rows L2

/-- plain data; cell n: the n-th thing that may still change -/
inductive D where
  | non | bl (b : Bool) | int (i : Int) | str (x : Str)
  | tup (ds : List D) | lst (ds : List D)
  | dk (kvs : List (Key × D)) | dt (kvs : List (List Key × D))
  | obj (c : Nat) (fs : List (Str × D))
  | gd (j : Nat)
  | kt (ds : List D)
  | cell (n : Nat)
/-- what a cell holds -/
inductive O where
  | lst (ds : List D) | dk (kvs : List (Key × D)) | dt (kvs : List (List Key × D)) | ins (c : Nat) (fs : List (Str × D))
abbrev Env := List (Option D)
abbrev Store := List O

/-- where the program's classes and its dicts of the top lie -/
structure Lk where
  K : PySem.W.Frag
  ca : Nat → Addr
  ga : Nat → Addr

def KT (K : PySem.W.Frag) (a : Addr) (xs : List V) : Prop :=
  ∃ (o : Obj) (its : Array Value) (n : Nat), K.lookup a = some o ∧ o.cls = .type "tuple" ∧ o.data = .seq its n ∧ its.size ≤ sizeLine ∧ Vals xs its.toList

/-- a list of the text's own -/
def KL (K : PySem.W.Frag) (a : Addr) (xs : List V) : Prop :=
  ∃ (its : Array Value) (n : Nat), K.lookup a = some { cls := .type "list", data := .seq its n } ∧ its.size ≤ sizeLine ∧ Vals xs its.toList
mutual
inductive Rep (L : Lk) (H : Hp) (fb cm : List Addr) : V → D → Prop
  | non : Rep L H fb cm .non .non
  | bl (b : Bool) : Rep L H fb cm (.bl b) (.bl b)
  | int (i : Int) : Rep L H fb cm (.int i) (.int i)
  | str (x : Str) : Rep L H fb cm (.str x) (.str x)
  | tup {a : Addr} {xs : List V} {ds : List D} : a ∉ fb → H a = some (.tup xs) → Reps L H fb cm xs ds → Rep L H fb cm (.ref a) (.tup ds)
  | lst {a : Addr} {xs : List V} {ds : List D} : a ∉ fb → Rd H a (.lst xs) → Reps L H fb cm xs ds → Rep L H fb cm (.ref a) (.lst ds)
  | dk {a : Addr} {xs : List (Key × V)} {ds : List (Key × D)} : a ∉ fb → Rd H a (.dK xs) → xs.map (·.1) = ds.map (·.1) → Reps L H fb cm (xs.map (·.2)) (ds.map (·.2)) → Rep L H fb cm (.ref a) (.dk ds)
  | dt {a : Addr} {xs : List (List Key × V)} {ds : List (List Key × D)} : a ∉ fb → Rd H a (.dT xs) → xs.map (·.1) = ds.map (·.1) → Reps L H fb cm (xs.map (·.2)) (ds.map (·.2)) → Rep L H fb cm (.ref a) (.dt ds)
  | obj {a dx : Addr} {c : Nat} {fs : List (Str × V)} {ds : List (Str × D)} : a ∉ fb → H a = some (.ins (L.ca c) dx fs) → fs.map (·.1) = ds.map (·.1) → Reps L H fb cm (fs.map (·.2)) (ds.map (·.2)) → Rep L H fb cm (.ref a) (.obj c ds)
  | gd (j : Nat) : Rep L H fb cm (.ref (L.ga j)) (.gd j)
  | kt {a : Addr} {xs : List V} {ds : List D} : KT L.K a xs → Reps L H fb cm xs ds → Rep L H fb cm (.ref a) (.kt ds)
  | kl {a : Addr} {xs : List V} {ds : List D} : KL L.K a xs → Reps L H fb cm xs ds → Rep L H fb cm (.ref a) (.lst ds)
  | cell {n : Nat} {a : Addr} : cm[n]? = some a → Rep L H fb cm (.ref a) (.cell n)
inductive Reps (L : Lk) (H : Hp) (fb cm : List Addr) : List V → List D → Prop
  | nil : Reps L H fb cm [] []
  | cons {v : V} {vs : List V} {d : D} {ds : List D} : Rep L H fb cm v d → Reps L H fb cm vs ds → Reps L H fb cm (v :: vs) (d :: ds)
end
/-- what lies in the cell at a -/
def ORep (L : Lk) (H : Hp) (fb cm : List Addr) (a : Addr) : O → Prop
  | .lst ds => ∃ xs, H a = some (.lst xs) ∧ Reps L H fb cm xs ds
  | .dk ds => ∃ xs, H a = some (.dK xs) ∧ xs.map (·.1) = ds.map (·.1) ∧ Reps L H fb cm (xs.map (·.2)) (ds.map (·.2))
  | .dt ds => ∃ xs, H a = some (.dT xs) ∧ xs.map (·.1) = ds.map (·.1) ∧ Reps L H fb cm (xs.map (·.2)) (ds.map (·.2))
  | .ins c ds => ∃ dx fs, H a = some (.ins (L.ca c) dx fs) ∧ fs.map (·.1) = ds.map (·.1) ∧ Reps L H fb cm (fs.map (·.2)) (ds.map (·.2))

/-- all but the cells is as it was -/
def Ext (cm : List Addr) (H H' : Hp) : Prop := ∀ a o, a ∉ cm → H a = some o → H' a = some o
theorem Ext.refl (cm : List Addr) (H : Hp) : Ext cm H H := fun _ _ _ h => h
theorem Ext.rd {cm : List Addr} {H H' : Hp} {a : Addr} {u : HO} (e : Ext cm H H') (h : a ∉ cm) (r : Rd H a u) : Rd H' a u := by
  rcases r with r | ⟨o, r⟩
  · exact .inl (e a _ h r)
  · exact .inr ⟨o, e a _ h r⟩
theorem Rd.some {H : Hp} {a : Addr} {u : HO} (r : Rd H a u) : ∃ o, H a = Option.some o := by
  rcases r with r | ⟨o, r⟩
  · exact ⟨_, r⟩
  · exact ⟨_, r⟩

section
variable {L : Lk} {H H' : Hp} {fb cm ex : List Addr}
/-- one step for all: a map of places -/
theorem rep_map {fb' cm' : List Addr} (ht : ∀ a xs, a ∉ fb → H a = some (.tup xs) → a ∉ fb' ∧ H' a = some (.tup xs)) (hr : ∀ a u, a ∉ fb → Rd H a u → a ∉ fb' ∧ Rd H' a u)
    (hi : ∀ a C dx fs, a ∉ fb → H a = some (.ins C dx fs) → a ∉ fb' ∧ H' a = some (.ins C dx fs)) (hc : ∀ (n : Nat) (a : Addr), cm[n]? = some a → cm'[n]? = some a) :
    (∀ {v : V} {d : D}, Rep L H fb cm v d → Rep L H' fb' cm' v d) ∧ ∀ {vs : List V} {ds : List D}, Reps L H fb cm vs ds → Reps L H' fb' cm' vs ds := by
  have key : ∀ {v : V} {d : D}, Rep L H fb cm v d → Rep L H' fb' cm' v d := fun {v d} h => by
    refine Rep.rec (motive_1 := fun v d _ => Rep L H' fb' cm' v d) (motive_2 := fun vs ds _ => Reps L H' fb' cm' vs ds) .non .bl .int .str ?_ ?_ ?_ ?_ ?_ .gd (fun k _ r => .kt k r) (fun k _ r => .kl k r) ?_ .nil ?_ h
    · exact fun n t _ r => .tup (ht _ _ n t).1 (ht _ _ n t).2 r
    · exact fun n t _ r => .lst (hr _ _ n t).1 (hr _ _ n t).2 r
    · exact fun n t e _ r => .dk (hr _ _ n t).1 (hr _ _ n t).2 e r
    · exact fun n t e _ r => .dt (hr _ _ n t).1 (hr _ _ n t).2 e r
    · exact fun n t e _ r => .obj (hi _ _ _ _ n t).1 (hi _ _ _ _ n t).2 e r
    · exact fun e => .cell (hc _ _ e)
    · exact fun _ _ r rs => .cons r rs
  refine ⟨key, fun {vs ds} h => ?_⟩
  refine Reps.rec (motive_1 := fun v d _ => Rep L H' fb' cm' v d) (motive_2 := fun vs ds _ => Reps L H' fb' cm' vs ds) .non .bl .int .str ?_ ?_ ?_ ?_ ?_ .gd (fun k _ r => .kt k r) (fun k _ r => .kl k r) ?_ .nil ?_ h
  · exact fun n t _ r => .tup (ht _ _ n t).1 (ht _ _ n t).2 r
  · exact fun n t _ r => .lst (hr _ _ n t).1 (hr _ _ n t).2 r
  · exact fun n t e _ r => .dk (hr _ _ n t).1 (hr _ _ n t).2 e r
  · exact fun n t e _ r => .dt (hr _ _ n t).1 (hr _ _ n t).2 e r
  · exact fun n t e _ r => .obj (hi _ _ _ _ n t).1 (hi _ _ _ _ n t).2 e r
  · exact fun e => .cell (hc _ _ e)
  · exact fun _ _ r rs => .cons r rs
theorem rep_ext_ (e : Ext fb H H') : (∀ {v : V} {d : D}, Rep L H fb cm v d → Rep L H' fb cm v d) ∧ ∀ {vs : List V} {ds : List D}, Reps L H fb cm vs ds → Reps L H' fb cm vs ds :=
  rep_map (fun a xs n t => ⟨n, e _ _ n t⟩) (fun a u n r => ⟨n, e.rd n r⟩) (fun a C dx fs n h => ⟨n, e _ _ n h⟩) fun _ _ h => h
theorem Rep.ext {v : V} {d : D} (h : Rep L H fb cm v d) (e : Ext fb H H') : Rep L H' fb cm v d := (rep_ext_ e).1 h
theorem Reps.ext {vs : List V} {ds : List D} (h : Reps L H fb cm vs ds) (e : Ext fb H H') : Reps L H' fb cm vs ds := (rep_ext_ e).2 h
theorem nin_app {a : Addr} {u : HO} (hx : ∀ b ∈ ex, H b = none) (n : a ∉ fb) (r : H a = some u) : a ∉ fb ++ ex := fun z => by
  rcases List.mem_append.mp z with z | z
  · exact n z
  · rw [hx a z] at r; cases r
/-- more is forbidden, all of it new -/
theorem rep_more_ (hx : ∀ b ∈ ex, H b = none) : (∀ {v : V} {d : D}, Rep L H fb cm v d → Rep L H (fb ++ ex) cm v d) ∧ ∀ {vs : List V} {ds : List D}, Reps L H fb cm vs ds → Reps L H (fb ++ ex) cm vs ds :=
  rep_map (fun a xs n t => ⟨nin_app hx n t, t⟩) (fun a u n r => ⟨let ⟨_, q⟩ := Rd.some r; nin_app hx n q, r⟩) (fun a C dx fs n h => ⟨nin_app hx n h, h⟩) fun n a h => h
theorem Rep.more {v : V} {d : D} (h : Rep L H fb cm v d) (hx : ∀ b ∈ ex, H b = none) : Rep L H (fb ++ ex) cm v d := (rep_more_ hx).1 h
theorem Reps.more {vs : List V} {ds : List D} (h : Reps L H fb cm vs ds) (hx : ∀ b ∈ ex, H b = none) : Reps L H (fb ++ ex) cm vs ds := (rep_more_ hx).2 h
/-- less is forbidden -/
theorem rep_less_ {fb' : List Addr} (hs : ∀ b ∈ fb', b ∈ fb) : (∀ {v : V} {d : D}, Rep L H fb cm v d → Rep L H fb' cm v d) ∧ ∀ {vs : List V} {ds : List D}, Reps L H fb cm vs ds → Reps L H fb' cm vs ds :=
  rep_map (fun a xs n t => ⟨fun q => n (hs _ q), t⟩) (fun a u n r => ⟨fun q => n (hs _ q), r⟩) (fun a C dx fs n h => ⟨fun q => n (hs _ q), h⟩) fun n a h => h
theorem Rep.less {fb' : List Addr} {v : V} {d : D} (h : Rep L H fb cm v d) (hs : ∀ b ∈ fb', b ∈ fb) : Rep L H fb' cm v d := (rep_less_ hs).1 h
theorem Reps.less {fb' : List Addr} {vs : List V} {ds : List D} (h : Reps L H fb cm vs ds) (hs : ∀ b ∈ fb', b ∈ fb) : Reps L H fb' cm vs ds := (rep_less_ hs).2 h
/-- more cells -/
theorem rep_wide_ : (∀ {v : V} {d : D}, Rep L H fb cm v d → Rep L H fb (cm ++ ex) v d) ∧ ∀ {vs : List V} {ds : List D}, Reps L H fb cm vs ds → Reps L H fb (cm ++ ex) vs ds :=
  rep_map (fun a xs n t => ⟨n, t⟩) (fun a u n r => ⟨n, r⟩) (fun a C dx fs n h => ⟨n, h⟩) fun n a h => by
    rw [List.getElem?_append_left]
    · exact h
    · exact (List.getElem?_eq_some_iff.mp h).1
theorem Rep.wide {v : V} {d : D} (h : Rep L H fb cm v d) : Rep L H fb (cm ++ ex) v d := rep_wide_.1 h
theorem Reps.wide {vs : List V} {ds : List D} (h : Reps L H fb cm vs ds) : Reps L H fb (cm ++ ex) vs ds := rep_wide_.2 h
theorem ORep.ext {a : Addr} {o : O} (h : ORep L H fb cm a o) (e : Ext fb H H') (s : H' a = H a) : ORep L H' fb cm a o := by
  cases o with
  | lst ds => obtain ⟨xs, h1, h2⟩ := h; exact ⟨xs, s.trans h1, h2.ext e⟩
  | dk ds => obtain ⟨xs, h1, h2, h3⟩ := h; exact ⟨xs, s.trans h1, h2, h3.ext e⟩
  | dt ds => obtain ⟨xs, h1, h2, h3⟩ := h; exact ⟨xs, s.trans h1, h2, h3.ext e⟩
  | ins c ds => obtain ⟨dx, xs, h1, h2, h3⟩ := h; exact ⟨dx, xs, s.trans h1, h2, h3.ext e⟩
theorem ORep.some {a : Addr} {o : O} (h : ORep L H fb cm a o) : ∃ u, H a = Option.some u := by
  cases o with
  | lst ds => obtain ⟨xs, h1, h2⟩ := h; exact ⟨_, h1⟩
  | dk ds => obtain ⟨xs, h1, h2, h3⟩ := h; exact ⟨_, h1⟩
  | dt ds => obtain ⟨xs, h1, h2, h3⟩ := h; exact ⟨_, h1⟩
  | ins c ds => obtain ⟨dx, xs, h1, h2, h3⟩ := h; exact ⟨_, h1⟩
theorem ORep.more {a : Addr} {o : O} (h : ORep L H fb cm a o) (hx : ∀ b ∈ ex, H b = none) : ORep L H (fb ++ ex) cm a o := by
  cases o with
  | lst ds => obtain ⟨xs, h1, h2⟩ := h; exact ⟨xs, h1, h2.more hx⟩
  | dk ds => obtain ⟨xs, h1, h2, h3⟩ := h; exact ⟨xs, h1, h2, h3.more hx⟩
  | dt ds => obtain ⟨xs, h1, h2, h3⟩ := h; exact ⟨xs, h1, h2, h3.more hx⟩
  | ins c ds => obtain ⟨dx, xs, h1, h2, h3⟩ := h; exact ⟨dx, xs, h1, h2, h3.more hx⟩
theorem ORep.less {fb' : List Addr} {a : Addr} {o : O} (h : ORep L H fb cm a o) (hs : ∀ b ∈ fb', b ∈ fb) : ORep L H fb' cm a o := by
  cases o with
  | lst ds => obtain ⟨xs, h1, h2⟩ := h; exact ⟨xs, h1, h2.less hs⟩
  | dk ds => obtain ⟨xs, h1, h2, h3⟩ := h; exact ⟨xs, h1, h2, h3.less hs⟩
  | dt ds => obtain ⟨xs, h1, h2, h3⟩ := h; exact ⟨xs, h1, h2, h3.less hs⟩
  | ins c ds => obtain ⟨dx, xs, h1, h2, h3⟩ := h; exact ⟨dx, xs, h1, h2, h3.less hs⟩
theorem ORep.wide {a : Addr} {o : O} (h : ORep L H fb cm a o) : ORep L H fb (cm ++ ex) a o := by
  cases o with
  | lst ds => obtain ⟨xs, h1, h2⟩ := h; exact ⟨xs, h1, h2.wide⟩
  | dk ds => obtain ⟨xs, h1, h2, h3⟩ := h; exact ⟨xs, h1, h2, h3.wide⟩
  | dt ds => obtain ⟨xs, h1, h2, h3⟩ := h; exact ⟨xs, h1, h2, h3.wide⟩
  | ins c ds => obtain ⟨dx, xs, h1, h2, h3⟩ := h; exact ⟨dx, xs, h1, h2, h3.wide⟩
end

section
variable {L : Lk} {H : Hp} {fb cm : List Addr}
theorem Reps.length : ∀ {vs : List V} {ds : List D}, Reps L H fb cm vs ds → vs.length = ds.length
  | _, _, .nil => rfl
  | _, _, .cons _ r => by rw [List.length_cons, List.length_cons, r.length]
theorem Reps.get : ∀ {vs : List V} {ds : List D} {i : Nat} {d : D}, Reps L H fb cm vs ds → ds[i]? = some d → ∃ v, vs[i]? = some v ∧ Rep L H fb cm v d
  | _, _, _, _, .nil, e => by simp at e
  | _, _, 0, _, .cons r _, e => by simp at e; subst e; exact ⟨_, rfl, r⟩
  | _, _, i + 1, _, .cons _ t, e => by
    obtain ⟨v, h1, h2⟩ := t.get (i := i) (by simpa using e)
    exact ⟨v, by simpa using h1, h2⟩
theorem Reps.getV : ∀ {vs : List V} {ds : List D} {i : Nat} {v : V}, Reps L H fb cm vs ds → vs[i]? = some v → ∃ d, ds[i]? = some d ∧ Rep L H fb cm v d
  | _, _, _, _, .nil, e => by simp at e
  | _, _, 0, _, .cons r _, e => by simp at e; subst e; exact ⟨_, rfl, r⟩
  | _, _, i + 1, _, .cons _ t, e => by
    obtain ⟨v, h1, h2⟩ := t.getV (i := i) (by simpa using e)
    exact ⟨v, by simpa using h1, h2⟩
theorem Reps.append : ∀ {vs ws : List V} {ds es : List D}, Reps L H fb cm vs ds → Reps L H fb cm ws es → Reps L H fb cm (vs ++ ws) (ds ++ es)
  | _, _, _, _, .nil, s => s
  | _, _, _, _, .cons r t, s => .cons r (t.append s)
theorem Reps.one {v : V} {d : D} (r : Rep L H fb cm v d) : Reps L H fb cm [v] [d] := .cons r .nil
theorem Reps.set {v : V} {d : D} (r : Rep L H fb cm v d) : ∀ {vs : List V} {ds : List D} (i : Nat), Reps L H fb cm vs ds → Reps L H fb cm (vs.set i v) (ds.set i d)
  | _, _, _, .nil => .nil
  | _, _, 0, .cons _ t => .cons r t
  | _, _, i + 1, .cons q t => .cons q (Reps.set r i t)
theorem Reps.take : ∀ {vs : List V} {ds : List D} (n : Nat), Reps L H fb cm vs ds → Reps L H fb cm (vs.take n) (ds.take n)
  | _, _, 0, _ => .nil
  | _, _, _ + 1, .nil => .nil
  | _, _, n + 1, .cons r t => .cons r (t.take n)
theorem Reps.drop : ∀ {vs : List V} {ds : List D} (n : Nat), Reps L H fb cm vs ds → Reps L H fb cm (vs.drop n) (ds.drop n)
  | _, _, 0, r => r
  | _, _, _ + 1, .nil => .nil
  | _, _, n + 1, .cons _ t => t.drop n
theorem Reps.eraseIdx : ∀ {vs : List V} {ds : List D} (i : Nat), Reps L H fb cm vs ds → Reps L H fb cm (vs.eraseIdx i) (ds.eraseIdx i)
  | _, _, _, .nil => .nil
  | _, _, 0, .cons _ t => t
  | _, _, i + 1, .cons q t => .cons q (t.eraseIdx i)
theorem Reps.dropLast : ∀ {vs : List V} {ds : List D}, Reps L H fb cm vs ds → Reps L H fb cm vs.dropLast ds.dropLast
  | _, _, .nil => .nil
  | _, _, .cons _ .nil => .nil
  | _, _, .cons q (.cons r t) => .cons q (Reps.dropLast (.cons r t))
theorem Reps.reverse {vs : List V} {ds : List D} (h : Reps L H fb cm vs ds) : Reps L H fb cm vs.reverse ds.reverse := by
  induction ds generalizing vs with
  | nil => cases h; exact .nil
  | cons d ds ih =>
    cases h with
    | cons r t =>
      rw [List.reverse_cons, List.reverse_cons]
      exact (ih t).append (.one r)
theorem Reps.nil_iff {vs : List V} {ds : List D} (h : Reps L H fb cm vs ds) : vs.isEmpty = ds.isEmpty := by
  cases h <;> rfl
end
structure Valid (L : Lk) (H : Hp) (fb cm : List Addr) (st : Store) : Prop where
  len : cm.length = st.length
  nd : cm.Nodup
  sub : ∀ a ∈ cm, a ∈ fb
  trk : ∀ a ∈ fb, ∃ u, H a = some u
  cells : ∀ (n : Nat) (o : O), st[n]? = some o → ∃ a, cm[n]? = some a ∧ ORep L H fb cm a o
structure Slots (L : Lk) (H : Hp) (fb cm : List Addr) (env : Env) (σ : L2.St) : Prop where
  len : env.length = σ.length
  at_ : ∀ (i : Nat) (d : D), env[i]? = some (some d) → ∃ v, σ[i]? = some (some v) ∧ Rep L H fb cm v d
structure Step (H : Hp) (cm : List Addr) (H' : Hp) (cm' : List Addr) : Prop where
  ext : Ext cm H H'
  new : ∃ ex, cm' = cm ++ ex ∧ ∀ a ∈ ex, H a = none
  trk : ∀ a u, H a = some u → ∃ u', H' a = some u'
theorem Step.refl (H : Hp) (cm : List Addr) : Step H cm H cm := ⟨.refl _ _, ⟨[], by simp, by simp⟩, fun _ u h => ⟨u, h⟩⟩
theorem Step.free {H H' : Hp} {cm cm' : List Addr} (s : Step H cm H' cm') {a : Addr} (h : H' a = none) : H a = none := by
  cases q : H a with
  | none => rfl
  | some u =>
    obtain ⟨u', h'⟩ := s.trk a u q
    rw [h] at h'; cases h'
theorem Step.nin {H H' : Hp} {cm cm' : List Addr} (s : Step H cm H' cm') {a : Addr} {u : HO} (n : a ∉ cm) (h : H a = some u) : a ∉ cm' := by
  obtain ⟨ex, rfl, hx⟩ := s.new
  exact nin_app hx n h
theorem Step.trans {H H1 H2 : Hp} {cm cm1 cm2 : List Addr} (s : Step H cm H1 cm1) (t : Step H1 cm1 H2 cm2) : Step H cm H2 cm2 := by
  refine ⟨fun a o n h => t.ext a o (s.nin n h) (s.ext a o n h), ?_, fun a u h => ?_⟩
  · obtain ⟨ex, rfl, hx⟩ := s.new
    obtain ⟨ex2, rfl, hx2⟩ := t.new
    refine ⟨ex ++ ex2, by rw [List.append_assoc], fun a ha => ?_⟩
    rcases List.mem_append.mp ha with z | z
    · exact hx a z
    · exact s.free (hx2 a z)
  · obtain ⟨u1, h1⟩ := s.trk a u h
    exact t.trk a u1 h1
section
variable {L : Lk} {H H' : Hp} {fx fb cm cm' : List Addr} {st : Store} {env : Env} {σ : L2.St}
theorem Rep.step {v : V} {d : D} (h : Rep L H (fx ++ cm) cm v d) (s : Step H cm H' cm') : Rep L H' (fx ++ cm') cm' v d := by
  obtain ⟨ex, rfl, hx⟩ := s.new
  rw [← List.append_assoc]
  exact ((h.more hx).ext fun a o n => s.ext a o fun z => n (List.mem_append_left _ (List.mem_append_right _ z))).wide
theorem Reps.step {vs : List V} {ds : List D} (h : Reps L H (fx ++ cm) cm vs ds) (s : Step H cm H' cm') : Reps L H' (fx ++ cm') cm' vs ds := by
  obtain ⟨ex, rfl, hx⟩ := s.new
  rw [← List.append_assoc]
  exact ((h.more hx).ext fun a o n => s.ext a o fun z => n (List.mem_append_left _ (List.mem_append_right _ z))).wide
theorem Slots.step (h : Slots L H (fx ++ cm) cm env σ) (s : Step H cm H' cm') : Slots L H' (fx ++ cm') cm' env σ := ⟨h.len, fun i d e => let ⟨v, h1, h2⟩ := h.at_ i d e; ⟨v, h1, h2.step s⟩⟩
theorem Slots.set (h : Slots L H fb cm env σ) {v : V} {d : D} (r : Rep L H fb cm v d) (i : Nat) : Slots L H fb cm (env.set i (some d)) (σ.set i (some v)) := by
  refine ⟨by rw [List.length_set, List.length_set, h.len], fun j d' e => ?_⟩
  by_cases hj : i = j
  · subst hj
    by_cases hi : i < env.length
    · rw [List.getElem?_set_self hi] at e
      cases e
      exact ⟨v, by rw [List.getElem?_set_self (by rw [← h.len]; exact hi)], r⟩
    · rw [List.getElem?_eq_none (by rw [List.length_set]; omega)] at e
      cases e
  · rw [List.getElem?_set_ne hj] at e ⊢
    exact h.at_ j d' e
/-- a slot is forgotten -/
theorem Slots.unset (h : Slots L H fb cm env σ) (i : Nat) : Slots L H fb cm (env.set i none) (σ.set i none) := by
  refine ⟨by rw [List.length_set, List.length_set, h.len], fun j d' e => ?_⟩
  by_cases hj : i = j
  · subst hj
    by_cases hi : i < env.length
    · rw [List.getElem?_set_self hi] at e
      cases e
    · rw [List.getElem?_eq_none (by rw [List.length_set]; omega)] at e
      cases e
  · rw [List.getElem?_set_ne hj] at e ⊢
    exact h.at_ j d' e
theorem Valid.cell (h : Valid L H fb cm st) {n : Nat} {o : O} {a : Addr} (e : st[n]? = some o) (c : cm[n]? = some a) : ORep L H fb cm a o := by
  obtain ⟨b, h1, h2⟩ := h.cells n o e
  rw [h1] at c
  cases c
  exact h2
theorem Valid.nin (h : Valid L H fb cm st) {a : Addr} (n : H a = none) : a ∉ fb := fun z => by
  obtain ⟨u, q⟩ := h.trk a z
  rw [n] at q
  cases q
/-- all that stood stands -/
theorem Valid.keep (h : Valid L H fb cm st) (e : ∀ a u, H a = Option.some u → H' a = Option.some u) : Valid L H' fb cm st :=
  ⟨h.len, h.nd, h.sub, fun a m => let ⟨u, q⟩ := h.trk a m; ⟨u, e a u q⟩, fun n o q => by
    obtain ⟨a, h1, h2⟩ := h.cells n o q
    obtain ⟨u, h3⟩ := h2.some
    exact ⟨a, h1, h2.ext (fun b o _ => e b o) ((e a u h3).trans h3.symm)⟩⟩
theorem Valid.less {fb' : List Addr} (h : Valid L H fb cm st) (hs : ∀ b ∈ fb', b ∈ fb) (hc : ∀ a ∈ cm, a ∈ fb') : Valid L H fb' cm st :=
  ⟨h.len, h.nd, hc, fun a m => h.trk a (hs a m), fun n o q => let ⟨a, h1, h2⟩ := h.cells n o q; ⟨a, h1, h2.less hs⟩⟩
theorem Step.keep (e : ∀ a u, H a = some u → H' a = some u) : Step H cm H' cm := ⟨fun a o _ => e a o, ⟨[], by simp, by simp⟩, fun a u h => ⟨u, e a u h⟩⟩
theorem keep_new {p : Addr} {o : HO} (n : H p = none) : ∀ a u, H a = some u → upd H p o a = some u := fun a u h => by
  rw [upd_ne (ne_of_none h n)]
  exact h
/-- a new thing, not to be known by the rest -/
theorem Valid.new {p : Addr} {u : HO} (h : Valid L H fb cm st) (n : H p = none) : Valid L (upd H p u) (fb ++ [p]) cm st :=
  ⟨h.len, h.nd, fun a m => List.mem_append_left _ (h.sub a m), fun a m => by
    rcases List.mem_append.mp m with m | m
    · obtain ⟨w, q⟩ := h.trk a m
      exact ⟨w, keep_new n a w q⟩
    · rw [List.mem_singleton.mp m]
      exact ⟨u, upd_same⟩, fun m o q => by
    have hx : ∀ b ∈ [p], H b = none := fun b z => by
      rw [List.mem_singleton.mp z]
      exact n
    obtain ⟨a, h1, h2⟩ := h.cells m o q
    obtain ⟨w, h3⟩ := h2.some
    exact ⟨a, h1, (h2.more hx).ext (fun b o _ => keep_new n b o) ((keep_new n a w h3).trans h3.symm)⟩⟩
theorem Reps.new {p : Addr} {u : HO} {vs : List V} {ds : List D} (h : Reps L H fb cm vs ds) (n : H p = none) : Reps L (upd H p u) (fb ++ [p]) cm vs ds :=
  (h.more fun b z => by rw [List.mem_singleton.mp z]; exact n).ext fun b o _ => keep_new n b o
theorem Rep.new {p : Addr} {u : HO} {v : V} {d : D} (h : Rep L H fb cm v d) (n : H p = none) : Rep L (upd H p u) (fb ++ [p]) cm v d :=
  (h.more fun b z => by rw [List.mem_singleton.mp z]; exact n).ext fun b o _ => keep_new n b o
end

end En

set_option Elab.async false
set_option linter.all false
set_option maxRecDepth 100000
namespace En
open PySem PySem.Spec PyProof.Rows L2

inductive Out (α : Type) where
  | ok (a : α) (s : Store) | ex (x : D) (s : Store) | no
def Out.bind {α β : Type} : Out α → (α → Store → Out β) → Out β
  | .ok a s, f => f a s
  | .ex x s, _ => .ex x s
  | .no, _ => .no
def Out.of {α : Type} (s : Store) : Option α → Out α
  | some a => .ok a s
  | none => .no
@[simp] theorem Out.bind_ok {α β : Type} (a : α) (s : Store) (f : α → Store → Out β) : (Out.ok a s).bind f = f a s := rfl
@[simp] theorem Out.bind_no {α β : Type} (f : α → Store → Out β) : (Out.no : Out α).bind f = .no := rfl
@[simp] theorem Out.bind_ex {α β : Type} (x : D) (s : Store) (f : α → Store → Out β) : (Out.ex x s : Out α).bind f = .ex x s := rfl
@[simp] theorem Out.of_some {α : Type} (s : Store) (a : α) : Out.of s (some a) = .ok a s := rfl
@[simp] theorem Out.of_none {α : Type} (s : Store) : Out.of s (none : Option α) = .no := rfl
theorem Out.bind_is {α β : Type} {x : Out α} {f : α → Store → Out β} {b : β} {s : Store} (h : x.bind f = .ok b s) : ∃ a s1, x = .ok a s1 ∧ f a s1 = .ok b s := by
  cases x with
  | ok a s1 => exact ⟨a, s1, rfl, h⟩
  | ex x s1 => cases h
  | no => cases h
theorem Out.of_is {α : Type} {x : Option α} {a : α} {s s' : Store} (h : Out.of s x = .ok a s') : x = some a ∧ s' = s := by
  cases x with
  | some b => cases h; exact ⟨rfl, rfl⟩
  | none => cases h

/-- a result: a value, or a new thing that nobody else knows -/
inductive R where
  | v (d : D) | n (o : O)
def O.d : O → D
  | .lst ds => .lst ds | .dk kvs => .dk kvs | .dt kvs => .dt kvs | .ins c fs => .obj c fs
def R.d : R → D
  | .v d => d
  | .n o => o.d
@[simp] theorem R.d_v (d : D) : (R.v d).d = d := rfl
@[simp] theorem R.d_lst (ds : List D) : (R.n (.lst ds)).d = .lst ds := rfl
@[simp] theorem R.d_dk (ds : List (Key × D)) : (R.n (.dk ds)).d = .dk ds := rfl
@[simp] theorem R.d_dt (ds : List (List Key × D)) : (R.n (.dt ds)).d = .dt ds := rfl
@[simp] theorem R.d_ins (c : Nat) (fs : List (Str × D)) : (R.n (.ins c fs)).d = .obj c fs := rfl

mutual
/-- all cells in it are below b -/
def cb (b : Nat) : D → Bool
  | .tup ds => cbs b ds
  | .kt ds => cbs b ds
  | .lst ds => cbs b ds
  | .dk kvs => cbk b kvs
  | .dt kvs => cbt b kvs
  | .obj _ fs => cbf b fs
  | .cell n => decide (n < b)
  | _ => true
def cbs (b : Nat) : List D → Bool
  | [] => true
  | d :: ds => cb b d && cbs b ds
def cbk (b : Nat) : List (Key × D) → Bool
  | [] => true
  | (_, d) :: ds => cb b d && cbk b ds
def cbt (b : Nat) : List (List Key × D) → Bool
  | [] => true
  | (_, d) :: ds => cb b d && cbt b ds
def cbf (b : Nat) : List (Str × D) → Bool
  | [] => true
  | (_, d) :: ds => cb b d && cbf b ds
end
def cbO (b : Nat) : O → Bool
  | .lst ds => cbs b ds
  | .dk kvs => cbk b kvs
  | .dt kvs => cbt b kvs
  | .ins _ fs => cbf b fs
/-- d may be written into cell n by code whose own cells begin at b -/
def okW (b n : Nat) (d : D) : Bool := decide (b ≤ n) || cb 0 d

def seqOf (s : Store) : D → Option (Bool × List D)
  | .lst ds => some (false, ds)
  | .tup ds => some (true, ds)
  | .kt ds => some (true, ds)
  | .cell n => match s[n]? with
    | some (.lst ds) => some (false, ds)
    | _ => none
  | _ => none
def dkOf (s : Store) : D → Option (List (Key × D))
  | .dk kvs => some kvs
  | .cell n => match s[n]? with
    | some (.dk kvs) => some kvs
    | _ => none
  | _ => none
def dtOf (s : Store) : D → Option (List (List Key × D))
  | .dt kvs => some kvs
  | .cell n => match s[n]? with
    | some (.dt kvs) => some kvs
    | _ => none
  | _ => none
def objOf (s : Store) : D → Option (Nat × List (Str × D))
  | .obj c fs => some (c, fs)
  | .cell n => match s[n]? with
    | some (.ins c fs) => some (c, fs)
    | _ => none
  | _ => none
def keyOf : D → Option Key
  | .int i => some (.inl i)
  | .str x => some (.inr x)
  | _ => none
def keysOf : List D → Option (List Key)
  | [] => some []
  | d :: ds => (keyOf d).bind fun k => (keysOf ds).map fun ks => k :: ks
def intsOf : List D → Option (List Int)
  | [] => some []
  | .int i :: ds => (intsOf ds).map fun ks => i :: ks
  | _ :: _ => none
def blsOf : List D → Option (List Bool)
  | [] => some []
  | .bl i :: ds => (blsOf ds).map fun ks => i :: ks
  | _ :: _ => none
def strsOf : List D → Option (List Str)
  | [] => some []
  | .str i :: ds => (strsOf ds).map fun ks => i :: ks
  | _ :: _ => none
/-- a flat value: none, bool, int, text -/
def flat : D → Option V
  | .non => some .non
  | .bl b => some (.bl b)
  | .int i => some (.int i)
  | .str x => some (.str x)
  | _ => none
def flats : List D → Option (List V)
  | [] => some []
  | d :: ds => (flat d).bind fun k => (flats ds).map fun ks => k :: ks
mutual
def toPy : D → Option PyData
  | .non => some .none
  | .bl b => some (.bool b)
  | .int i => some (.int i)
  | .str x => some (.str x)
  | .tup ds => (toPys ds).map .tuple
  | .kt ds => (toPys ds).map .tuple
  | .lst ds => (toPys ds).map .list
  | _ => none
def toPys : List D → Option (List PyData)
  | [] => some []
  | d :: ds => (toPy d).bind fun p => (toPys ds).map fun ps => p :: ps
end
/-- the content of a list cell in place of the cell -/
def thaw (s : Store) (d : D) : D := match d with
  | .cell n => match s[n]? with
    | some (.lst ds) => .lst ds
    | _ => d
  | _ => d
/-- == -/
def eqD (s : Store) (x y : D) : Option Bool :=
  match flat x, flat y with
  | some a, some b => if scal a b then some (decide (a = b)) else none
  | _, _ => (toPy (thaw s x)).bind fun p => (toPy (thaw s y)).bind fun q => if SeqAt.shaped p && SeqAt.shaped q then some (PyData.eqv p q) else none
/-- truth -/
def tru (s : Store) (d : D) : Option Bool := match d with
  | .non => some false
  | .bl b => some b
  | .int i => some (i != 0)
  | .str x => if x.length ≤ 100000 then some ((x.length : Int) != 0) else none
  | d => match seqOf s d with
    | some (_, ds) => some !ds.isEmpty
    | none => (dkOf s d).map fun kvs => !kvs.isEmpty
def lenD (s : Store) (d : D) : Option Nat := match d with
  | .str x => if x.length ≤ 100000 then some x.length else none
  | d => match seqOf s d with
    | some (_, ds) => some ds.length
    | none => (dkOf s d).map fun kvs => kvs.length
def lookK {κ α : Type} [DecidableEq κ] (kvs : List (κ × α)) (k : κ) : Option α := (kvs.find? fun kv => decide (kv.1 = k)).map (·.2)
/-- what a dict holds at a key: (it can be asked, what it holds) -/
def dget (gd : Nat → List (Str × D)) (s : Store) (d k : D) : Option (Option D) := match d with
  | .gd j => match k with
    | .str x => (lookK (gd j) x).map some
    | _ => none
  | d => match dkOf s d with
    | some kvs => (keyOf k).map fun q => lookK kvs q
    | none => match dtOf s d, k with
      | some kvs, .tup ks => (keysOf ks).map fun q => lookK kvs q
      | _, _ => none

inductive Op2 where
  | add | sub | mul | fdiv | mod | pow | shl | shr | band | bor | bxor
  deriving DecidableEq
inductive Cmp where
  | eq | ne | lt | le | gt | ge | is_ | isNot | in_ | notIn
  deriving DecidableEq
def CMulD (i j : Int) : Bool := decide ((-(2 ^ 64) < i ∧ i < 2 ^ 64) ∨ (-(2 ^ 64) < j ∧ j < 2 ^ 64))
def CPowD (i j : Int) : Bool := decide (0 ≤ j ∧ j ≤ 1000000 ∧ i.natAbs < 2 ^ 64)
def intOp (o : Op2) (i j : Int) : Option Int := match o with
  | .add => some (i + j)
  | .sub => some (i - j)
  | .mul => if CMulD i j then some (i * j) else none
  | .fdiv => if decide (j ≠ 0 ∧ j.natAbs < 1073741824) then some (i.fdiv j) else none
  | .mod => if decide (j ≠ 0) then some (i.fmod j) else none
  | .pow => if CPowD i j then some (i ^ j.toNat) else none
  | .shl => if CPowD i j then some (i * 2 ^ j.toNat) else none
  | .shr => if decide (0 ≤ j) then some (i / 2 ^ j.toNat) else none
  | .band => some (Builtin.bitAnd i j)
  | .bor => some (Builtin.bitOr i j)
  | .bxor => some (Builtin.bitXor i j)
def isTupD : D → Bool
  | .tup _ => true
  | _ => false
def opR (o : Op2) (x y : D) (s : Store) : Option R := match x, y with
  | .int i, .int j => (intOp o i j).map fun k => .v (.int k)
  | .str a, .str b => match o with
    | .add => if a.length + b.length ≤ 100000 then some (.v (.str (a ++ b))) else none
    | _ => none
  | x, y => match o with
    | .add => match seqOf s x, seqOf s y with
      | some (false, xs), some (false, ys) => if xs.length + ys.length ≤ 100000 then some (.n (.lst (xs ++ ys))) else none
      | some (true, xs), some (true, ys) => if xs.length + ys.length ≤ 100000 ∧ (isTupD x && isTupD y || !xs.isEmpty && !ys.isEmpty) = true then some (.v (.tup (xs ++ ys))) else none
      | _, _ => none
    | .mul => match seqOf s x, y with
      | some (false, xs), .int k => if decide (-(2 ^ 63) ≤ k ∧ k < 2 ^ 63 ∧ xs.length * k.toNat ≤ 100000) then some (.n (.lst (List.replicate k.toNat xs).flatten)) else none
      | _, _ => none
    | _ => none
def intCmp (c : Cmp) (i j : Int) : Option Bool := match c with
  | .lt => some (decide (i < j))
  | .le => some (decide (i ≤ j))
  | .gt => some (decide (j < i))
  | .ge => some (decide (j ≤ i))
  | _ => none
def isNon : D → Bool
  | .non => true
  | _ => false
def inR (gd : Nat → List (Str × D)) (x y : D) (s : Store) : Option Bool := match seqOf s y with
  | some (_, ds) => (flat x).bind fun v => (flats ds).map fun vs => inV v vs
  | none => match x, y with
    | .str i, .str j => some (!(Builtin.Str.occurrences j i 0 j.length 1).isEmpty)
    | x, .gd _ => none
    | x, y => (dget gd s y x).map fun o => o.isSome
def cmpR (gd : Nat → List (Str × D)) (c : Cmp) (x y : D) (s : Store) : Option Bool := match c with
  | .eq => eqD s x y
  | .ne => (eqD s x y).map (!·)
  | .is_ => if isNon y then some (isNon x) else none
  | .isNot => if isNon y then some !(isNon x) else none
  | .in_ => inR gd x y s
  | .notIn => (inR gd x y s).map (!·)
  | c => match x, y with
    | .int i, .int j => intCmp c i j
    | .str i, .str j => if c = .lt then some (decide (i.cps.toList < j.cps.toList)) else none
    | .tup xs, .tup ys => if c = .lt then (intsOf xs).bind fun is => (intsOf ys).map fun js => HT.lexLt is js else none
    | _, _ => none

inductive Ty where
  | non | bool | int | str | tuple | list | dict | own (c : Nat)
  deriving DecidableEq
def tyOf (s : Store) : D → Option Ty
  | .non => some .non
  | .bl _ => some .bool
  | .int _ => some .int
  | .str _ => some .str
  | .tup _ => some .tuple
  | .kt _ => some .tuple
  | .lst _ => some .list
  | .dk _ => some .dict
  | .dt _ => none
  | .obj c _ => some (.own c)
  | .gd _ => none
  | .cell n => match s[n]? with
    | some (.lst _) => some .list
    | some (.dk _) => some .dict
    | some (.dt _) => some .dict
    | some (.ins c _) => some (.own c)
    | none => none
def Ty.isB : Ty → Bool
  | .own _ => false
  | _ => true
/-- isinstance: among the built-in types -/
def isTy (t u : Ty) : Bool := decide (t = u) || (decide (t = .bool) && decide (u = .int))
inductive Blt where
  | len | abs | max2 | min2 | int1 | sum | maxL | minL | any | all | sorted | list | tuple | str | range_
  deriving DecidableEq
def isort : List Int → List Int
  | [] => []
  | x :: xs => ins x (isort xs)
where ins (x : Int) : List Int → List Int
  | [] => [x]
  | y :: ys => if x ≤ y then x :: y :: ys else y :: ins x ys
def maxI : List Int → Option Int
  | [] => none
  | x :: xs => some (xs.foldl max x)
def minI : List Int → Option Int
  | [] => none
  | x :: xs => some (xs.foldl min x)
def bltR (b : Blt) (xs : List D) (s : Store) : Option R := match b, xs with
  | .len, [x] => (lenD s x).map fun (n : Nat) => R.v (.int (n : Int))
  | .abs, [.int i] => some (.v (.int (if i < 0 then -i else i)))
  | .max2, [.int i, .int j] => some (.v (.int (if j > i then j else i)))
  | .min2, [.int i, .int j] => some (.v (.int (if j < i then j else i)))
  | .int1, [.int i] => some (.v (.int i))
  | .int1, [.bl k] => some (.v (.int (if k then 1 else 0)))
  | .sum, [x] => match seqOf s x with
    | some (false, ds) => (intsOf ds).map fun ns => .v (.int ns.sum)
    | _ => none
  | .maxL, [x] => match seqOf s x with
    | some (false, ds) => (intsOf ds).bind fun ns => (maxI ns).map fun m => .v (.int m)
    | _ => none
  | .minL, [x] => match seqOf s x with
    | some (false, ds) => (intsOf ds).bind fun ns => (minI ns).map fun m => .v (.int m)
    | _ => none
  | .any, [x] => match seqOf s x with
    | some (false, ds) => (blsOf ds).map fun ns => .v (.bl (ns.any id))
    | _ => none
  | .all, [x] => match seqOf s x with
    | some (false, ds) => (blsOf ds).map fun ns => .v (.bl (ns.all id))
    | _ => none
  | .list, [x] => match seqOf s x with
    | some (_, ds) => some (.n (.lst ds))
    | _ => none
  | .tuple, [x] => match seqOf s x with
    | some (k, ds) => if k = false ∨ isTupD x = true then some (.v (.tup ds)) else some (.v x)
    | _ => none
  | .str, [.int i] => if i.natAbs.log2 < 1920 then some (.v (.str (toString i))) else none
  | _, _ => none

inductive Mt where
  | append | pop0 | popAt | extend | reverse | clear | index | get1 | get2 | insert
  deriving DecidableEq
/-- a list in a cell is changed -/
def onLst (b : Nat) (s : Store) (x : D) (f : List D → Option (D × List D)) (w : D) : Out R := match x with
  | .cell n => match s[n]? with
    | some (.lst ds) => match f ds with
      | some (r, ds') => if okW b n w && decide (ds'.length ≤ 100000) then .ok (.v r) (s.set n (.lst ds')) else .no
      | none => .no
    | _ => .no
  | _ => .no
def firstEq (v : V) : List V → Option Nat
  | [] => none
  | x :: xs => if eqV x v then some 0 else (firstEq v xs).map (· + 1)
def mtR (gd : Nat → List (Str × D)) (b : Nat) (m : Mt) (x : D) (xs : List D) (s : Store) : Out R := match m, xs with
  | .append, [y] => onLst b s x (fun ds => some (.non, ds ++ [y])) y
  | .pop0, [] => onLst b s x (fun ds => ds[ds.length - 1]?.map fun d => (d, ds.dropLast)) .non
  | .popAt, [.int i] => onLst b s x (fun ds => if decide (-(2 ^ 63) ≤ i ∧ i < 2 ^ 63) then (ixN ds.length i).bind fun k => ds[k]?.map fun d => (d, ds.eraseIdx k) else none) .non
  | .reverse, [] => onLst b s x (fun ds => some (.non, ds.reverse)) .non
  | .clear, [] => onLst b s x (fun _ => some (.non, [])) .non
  | .extend, [y] => match seqOf s y with
    | some (false, es) => onLst b s x (fun ds => some (.non, ds ++ es)) (.lst es)
    | _ => .no
  | .index, [y] => match seqOf s x with
    | some (false, ds) => Out.of s ((flat y).bind fun v => (flats ds).bind fun vs => (firstEq v vs).map fun (j : Nat) => R.v (.int (j : Int)))
    | _ => .no
  | .get1, [k] => Out.of s ((dget gd s x k).map fun o => .v (o.getD .non))
  | .get2, [k, y] => Out.of s ((dget gd s x k).map fun o => .v (o.getD y))
  | _, _ => .no
def isLst (s : Store) (d : D) : Bool := match seqOf s d with
  | some (false, _) => true
  | _ => false
/-- o[i] -/
def ixR (gd : Nat → List (Str × D)) (x i : D) (s : Store) : Option R := match x, i with
  | .str z, .int i => if z.length ≤ 100000 then (atI z.cps.toList i).map fun c => .v (.str ⟨#[c]⟩) else none
  | x, i => match seqOf s x, i with
    | some (_, ds), .int i => (atI ds i).map .v
    | _, i => match dget gd s x i with
      | some (some d) => some (.v d)
      | _ => none
/-- o[lo:hi] -/
def slR (x : D) (lo hi : Option Int) (s : Store) : Option R := match seqOf s x with
  | some (false, ds) => some (.n (.lst ((ds.drop (HT.sIx ds.length 0 lo)).take (HT.sIx ds.length ds.length hi - HT.sIx ds.length 0 lo))))
  | some (true, ds) => if isTupD x = true ∨ ¬ (HT.sIx ds.length 0 lo = 0 ∧ HT.sIx ds.length ds.length hi = ds.length) then
      some (.v (.tup ((ds.drop (HT.sIx ds.length 0 lo)).take (HT.sIx ds.length ds.length hi - HT.sIx ds.length 0 lo)))) else some (.v x)
  | none => none
def putK {κ α : Type} [DecidableEq κ] (kvs : List (κ × α)) (k : κ) (v : α) : List (κ × α) :=
  if kvs.any fun kv => decide (kv.1 = k) then kvs.map fun kv => if kv.1 = k then (kv.1, v) else kv else kvs ++ [(k, v)]
/-- o[i] = d -/
def setR (b : Nat) (x i d : D) (s : Store) : Out Unit := match x with
  | .cell n => match s[n]? with
    | some (.lst ds) => match i with
      | .int k => match ixN ds.length k with
        | some j => if okW b n d then .ok () (s.set n (.lst (ds.set j d))) else .no
        | none => .no
      | _ => .no
    | some (.dk kvs) => match keyOf i with
      | some k => if okW b n d && decide (kvs.length < 100000) then .ok () (s.set n (.dk (putK kvs k d))) else .no
      | none => .no
    | some (.dt kvs) => match i with
      | .tup ks => match keysOf ks with
        | some k => if okW b n d && decide (kvs.length < 100000) then .ok () (s.set n (.dt (putK kvs k d))) else .no
        | none => .no
      | _ => .no
    | _ => .no
  | _ => .no
def fldR (na : Nat → Str → Bool) (x : D) (f : Str) (s : Store) : Option R := (objOf s x).bind fun p => if na p.1 f then (p.2.lookup f).map .v else none
def putA {α : Type} (f : Str) (v : α) : List (Str × α) → List (Str × α)
  | [] => [(f, v)]
  | (g, w) :: r => if g = f then (g, v) :: r else (g, w) :: putA f v r
/-- o.f = d -/
def setF (na : Nat → Str → Bool) (b : Nat) (x : D) (f : Str) (d : D) (s : Store) : Out Unit := match x with
  | .cell n => match s[n]? with
    | some (.ins c fs) => if na c f && okW b n d && decide (fs.length < 900) then .ok () (s.set n (.ins c (putA f d fs))) else .no
    | _ => .no
  | _ => .no

mutual
inductive IE where
  | var (i : Nat) | int (i : Int) | str (x : Str) | bl (b : Bool) | non
  | gl (j : Nat)
  | op (o : Op2) (a c : IE) | neg (a : IE)
  | cmp (o : Cmp) (a c : IE) | chain (o o' : Cmp) (a c d : IE)
  | and (a c : IE) | or (a c : IE) | not (a : IE)
  | ite (t : IT) (a c : IE)
  | tup (es : IEs) | lst (es : IEs) | dnewK | dnewT
  | ix (a i : IE) | sl (a : IE) (lo hi : IO)
  | call (j : Nat) (es : IEs) | callS (j : Nat) (es : IEs)
  | blt (f : Blt) (es : IEs)
  | isin (a : IE) (t : Ty)
  | mt (m : Mt) (a : IE) (es : IEs)
  | fld (a : IE) (f : Str)
  | mcall (m : Str) (a : IE) (es : IEs)
  | make (c : Nat) (es : IEs) | makeM (c : Nat) (es : IEs)
  | mu (a : IE)
  | lc (own : List (Str × Nat)) (g : IG) (it : II) (t : IC) (e : IE)
  | lc2 (own : List (Str × Nat)) (vs : List Nat) (g : IG) (it : II) (t : IC) (g' : IG) (it' : II) (t' : IC) (e : IE)
inductive IEs where
  | nil | cons (e : IE) (es : IEs)
/-- a test -/
inductive IT where
  | e (a : IE) | and (t u : IT) | or (t u : IT) | not (t : IT)
/-- a part of a slice -/
inductive IO where
  | none | some (e : IE)
/-- what is walked -/
inductive II where
  | seq (a : IE) | rng1 (a : IE) | rng2 (a c : IE) | rng3 (a c d : IE) | enum (a : IE) | zip (a c : IE)
/-- a comprehension's test -/
inductive IC where
  | yes | t (t : IT)
/-- a target -/
inductive IG where
  | name (i : Nat) | tup (gs : IGs) | sub (a i : IE) | fld (a : IE) (f : Str)
inductive IGs where
  | nil | cons (g : IG) (gs : IGs)
end
mutual
inductive IS where
  | asg (g : IG) (e : IE)
  | par (i j : Nat) (a c : IE)
  | aug (i : Nat) (o : Op2) (e : IE)
  | expr (e : IE)
  | ret (e : IE) | retF (e : IE) | retN
  | ifs (t : IT) (a c : ISs)
  | while_ (t : IT) (a : ISs)
  | for_ (g : IG) (it : II) (a : ISs)
  | brk | cont | pass | never
inductive ISs where
  | nil | cons (s : IS) (ss : ISs)
end

structure Glo where
  fn : Nat → Nat → List D → Store → Out R
  ini : Nat → Nat → List D → Store → Out R
  gl : Nat → D
  gd : Nat → List (Str × D)
  me : Nat → Str → Option Nat
  na : Nat → Str → Bool
  F : Nat

inductive Itm where
  | l (ds : List D) | c (n : Nat)
def wipeE (e : Env) : List Nat → Env
  | [] => e
  | v :: vs => (wipeE e vs).set v none
def pairs2 : List D → List D → List D
  | x :: xs, y :: ys => .tup [x, y] :: pairs2 xs ys
  | _, _ => []
def enumL : Nat → List D → List D
  | _, [] => []
  | i, d :: ds => .tup [.int (i : Nat), d] :: enumL (i + 1) ds
def rngL (lo : Int) : Nat → List D
  | 0 => []
  | n + 1 => .int lo :: rngL (lo + 1) n
def rngC (lo c : Int) : Nat → List D
  | 0 => []
  | n + 1 => .int lo :: rngC (lo + c) c n
/-- a comprehension over items -/
def lcL (f : D → Store → Out (List D)) : List D → Store → Out (List D)
  | [], s => .ok [] s
  | d :: ds, s => (f d s).bind fun x s1 => (lcL f ds s1).bind fun r s2 => .ok (x ++ r) s2

/-- a call whose arguments hold no cells sees no cells -/
def callR (f : Nat → List D → Store → Out R) (b : Nat) (xs : List D) (s : Store) : Out R :=
  if cbs 0 xs then match f 0 xs [] with
    | .ok r [] => .ok r s
    | _ => f b xs s
  else f b xs s
/-- what lies in a cell, as it stands -/
def thawA (s : Store) (d : D) : D := match d with
  | .cell n => match s[n]? with
    | some (.lst ds) => .lst ds
    | some (.dk ds) => .dk ds
    | some (.dt ds) => .dt ds
    | _ => d
  | _ => d
def flatR : R → Bool
  | .v d => (flat d).isSome
  | .n (.lst ds) => (flats ds).isSome
  | _ => false
/-- a call that looks at what the cells hold, changes none, and gives a flat thing -/
def snapR (f : Nat → List D → Store → Out R) (xs : List D) (s : Store) : Out R :=
  let ys := xs.map (thawA s)
  if cbs 0 ys then match f 0 ys [] with
    | .ok r [] => if flatR r then .ok r s else .no
    | _ => .no
  else .no
/-- a sequence that does not change -/
def frzSeq : D → Option (Bool × List D)
  | .lst ds => some (false, ds)
  | .tup ds => some (true, ds)
  | .kt ds => some (true, ds)
  | _ => none
mutual
def evE (G : Glo) (b : Nat) : IE → Env → Store → Out R
  | .var i, e, s => (match e[i]? with
    | some (some d) => .ok (.v d) s
    | _ => .no)
  | .int i, _, s => .ok (.v (.int i)) s
  | .str x, _, s => .ok (.v (.str x)) s
  | .bl x, _, s => .ok (.v (.bl x)) s
  | .non, _, s => .ok (.v .non) s
  | .gl j, _, s => .ok (.v (G.gl j)) s
  | .op o a c, e, s => (evE G b a e s).bind fun x s1 => (evE G b c e s1).bind fun y s2 => Out.of s2 (opR o x.d y.d s2)
  | .neg a, e, s => (evE G b a e s).bind fun x s1 => (match x.d with
    | .int i => .ok (.v (.int (-i))) s1
    | _ => .no)
  | .cmp o a c, e, s => (evE G b a e s).bind fun x s1 => (evE G b c e s1).bind fun y s2 => Out.of s2 ((cmpR G.gd o x.d y.d s2).map fun k => .v (.bl k))
  | .chain o o' a c d, e, s => (evE G b a e s).bind fun x s1 => (evE G b c e s1).bind fun y s2 => (Out.of s2 (cmpR G.gd o x.d y.d s2)).bind fun k s3 =>
      if k then (evE G b d e s3).bind fun z s4 => Out.of s4 ((cmpR G.gd o' y.d z.d s4).map fun k => .v (.bl k)) else .ok (.v (.bl false)) s3
  | .and a c, e, s => (evE G b a e s).bind fun x s1 => (match x.d with
    | .bl true => evE G b c e s1
    | .bl false => .ok (.v (.bl false)) s1
    | _ => .no)
  | .or a c, e, s => (evE G b a e s).bind fun x s1 => (match x.d with
    | .bl true => .ok (.v (.bl true)) s1
    | .bl false => evE G b c e s1
    | _ => .no)
  | .not a, e, s => (evE G b a e s).bind fun x s1 => (match x.d with
    | .bl k => .ok (.v (.bl !k)) s1
    | _ => .no)
  | .ite t a c, e, s => (evT G b t e s).bind fun k s1 => if k then evE G b a e s1 else evE G b c e s1
  | .tup es, e, s => (evEs G b es e s).bind fun xs s1 => if xs.length ≤ 100000 then .ok (.v (.tup xs)) s1 else .no
  | .lst es, e, s => (evEs G b es e s).bind fun xs s1 => if xs.length ≤ 100000 then .ok (.n (.lst xs)) s1 else .no
  | .dnewK, _, s => .ok (.n (.dk [])) s
  | .dnewT, _, s => .ok (.n (.dt [])) s
  | .ix a i, e, s => (evE G b a e s).bind fun x s1 => (evE G b i e s1).bind fun y s2 => Out.of s2 (ixR G.gd x.d y.d s2)
  | .sl a lo hi, e, s => (evE G b a e s).bind fun x s1 => (evO G b lo e s1).bind fun l s2 => (evO G b hi e s2).bind fun h s3 => Out.of s3 (slR x.d l h s3)
  | .call j es, e, s => (evEs G b es e s).bind fun xs s1 => callR (G.fn j) b xs s1
  | .callS j es, e, s => (evEs G b es e s).bind fun xs s1 => snapR (G.fn j) xs s1
  | .blt f es, e, s => (evEs G b es e s).bind fun xs s1 => Out.of s1 (bltR f xs s1)
  | .isin a t, e, s => (evE G b a e s).bind fun x s1 => (match tyOf s1 x.d with
    | some u => if u.isB then .ok (.v (.bl (isTy u t))) s1 else .no
    | none => .no)
  | .mt m a es, e, s => (evE G b a e s).bind fun x s1 => if isLst s1 x.d then (evEs G b es e s1).bind fun xs s2 => mtR G.gd b m x.d xs s2 else .no
  | .fld a f, e, s => (evE G b a e s).bind fun x s1 => Out.of s1 (fldR G.na x.d f s1)
  | .mcall m a es, e, s => (evE G b a e s).bind fun x s1 => (match objOf s1 x.d with
    | some (c, fs) => (match G.me c m, fs.lookup m with
      | some j, none => (evEs G b es e s1).bind fun xs s2 => callR (G.fn j) b (x.d :: xs) s2
      | _, _ => .no)
    | none => .no)
  | .make c es, e, s => (evEs G b es e s).bind fun xs s1 => (G.ini c s1.length (.cell s1.length :: xs) (s1 ++ [.ins c []])).bind fun r s2 => (match r, s2[s1.length]? with
    | .v .non, some (.ins c' fs) => if decide (c' = c) && cbf s1.length fs then .ok (.n (.ins c fs)) (s2.take s1.length) else .no
    | _, _ => .no)
  | .makeM c es, e, s => (evEs G b es e s).bind fun xs s1 => (G.ini c b (.cell s1.length :: xs) (s1 ++ [.ins c []])).bind fun r s2 => (match r with
    | .v .non => .ok (.v (.cell s1.length)) s2
    | _ => .no)
  | .mu a, e, s => (evE G b a e s).bind fun x s1 => (match x with
    | .n o => .ok (.v (.cell s1.length)) (s1 ++ [o])
    | .v _ => .no)
  | .lc own g it t x, e, s => (evI G b it e s).bind fun m s0 => (match m with
    | .l ds => if ds.length ≤ 100000 then (lcL (fun d s1 => (asG G b g d (wipeE e (own.map (·.2))) s1).bind fun e2 s2 => (evC G b t e2 s2).bind fun k s3 =>
        if k then (evE G b x e2 s3).bind fun r s4 => .ok [r.d] s4 else .ok [] s3) ds s0).bind fun r s5 => .ok (.n (.lst r)) s5 else .no
    | .c _ => .no)
  | .lc2 own vs g it t g' it' t' x, e, s => (evI G b it e s).bind fun m s0 => (match m with
    | .l ds => (lcL (fun d s1 => (asG G b g d (wipeE e (own.map (·.2))) s1).bind fun e2 s2 => (evC G b t e2 s2).bind fun k s3 =>
        if k then (evI G b it' e2 s3).bind fun m' s4 => (match m' with
          | .l ds' => lcL (fun d' s5 => (asG G b g' d' (wipeE e2 vs) s5).bind fun e3 s6 => (evC G b t' e3 s6).bind fun k' s7 =>
              if k' then (evE G b x e3 s7).bind fun r s8 => .ok [r.d] s8 else .ok [] s7) ds' s4
          | .c _ => .no)
        else .ok [] s3) ds s0).bind fun r s5 => if r.length ≤ 100000 then .ok (.n (.lst r)) s5 else .no
    | .c _ => .no)
def evEs (G : Glo) (b : Nat) : IEs → Env → Store → Out (List D)
  | .nil, _, s => .ok [] s
  | .cons a es, e, s => (evE G b a e s).bind fun x s1 => (evEs G b es e s1).bind fun xs s2 => .ok (x.d :: xs) s2
def evT (G : Glo) (b : Nat) : IT → Env → Store → Out Bool
  | .e a, e, s => (evE G b a e s).bind fun x s1 => Out.of s1 (tru s1 x.d)
  | .and t u, e, s => (evT G b t e s).bind fun k s1 => if k then evT G b u e s1 else .ok false s1
  | .or t u, e, s => (evT G b t e s).bind fun k s1 => if k then .ok true s1 else evT G b u e s1
  | .not t, e, s => (evT G b t e s).bind fun k s1 => .ok (!k) s1
def evO (G : Glo) (b : Nat) : IO → Env → Store → Out (Option Int)
  | .none, _, s => .ok none s
  | .some a, e, s => (evE G b a e s).bind fun x s1 => (match x.d with
    | .int i => .ok (some i) s1
    | _ => .no)
def evC (G : Glo) (b : Nat) : IC → Env → Store → Out Bool
  | .yes, _, s => .ok true s
  | .t t, e, s => evT G b t e s
def evI (G : Glo) (b : Nat) : II → Env → Store → Out Itm
  | .seq a, e, s => (evE G b a e s).bind fun x s1 => (match x.d with
    | .lst ds => .ok (.l ds) s1
    | .tup ds => .ok (.l ds) s1
    | .kt ds => .ok (.l ds) s1
    | .cell n => (match s1[n]? with
      | some (.lst _) => .ok (.c n) s1
      | _ => .no)
    | .str z => .ok (.l (z.cps.toList.map fun c => .str ⟨#[c]⟩)) s1
    | _ => .no)
  | .rng1 a, e, s => (evE G b a e s).bind fun x s1 => (match x.d with
    | .int n => if decide (-(2 ^ 62) ≤ n ∧ n < 2 ^ 62) then .ok (.l (rngL 0 n.toNat)) s1 else .no
    | _ => .no)
  | .rng2 a c, e, s => (evE G b a e s).bind fun x s1 => (evE G b c e s1).bind fun y s2 => (match x.d, y.d with
    | .int i, .int j => if decide (-(2 ^ 62) ≤ i ∧ i < 2 ^ 62 ∧ -(2 ^ 62) ≤ j ∧ j < 2 ^ 62) then .ok (.l (rngL i (j - i).toNat)) s2 else .no
    | _, _ => .no)
  | .rng3 a c d, e, s => .no
  | .enum a, e, s => (evE G b a e s).bind fun x s1 => (match x.d with
    | .lst ds => .ok (.l (enumL 0 ds)) s1
    | .tup ds => .ok (.l (enumL 0 ds)) s1
    | _ => .no)
  | .zip a c, e, s => (evE G b a e s).bind fun x s1 => (evE G b c e s1).bind fun y s2 => (match frzSeq x.d, frzSeq y.d with
    | some (_, xs), some (_, ys) => .ok (.l (pairs2 xs ys)) s2
    | _, _ => .no)
def asG (G : Glo) (b : Nat) : IG → D → Env → Store → Out Env
  | .name i, d, e, s => .ok (e.set i (some d)) s
  | .tup gs, d, e, s => (match d with
    | .tup ds => asGs G b gs ds e s
    | .kt ds => asGs G b gs ds e s
    | .lst ds => asGs G b gs ds e s
    | _ => .no)
  | .sub a i, d, e, s => (evE G b a e s).bind fun x s1 => (evE G b i e s1).bind fun y s2 => (setR b x.d y.d d s2).bind fun _ s3 => .ok e s3
  | .fld a f, d, e, s => (evE G b a e s).bind fun x s1 => (setF G.na b x.d f d s1).bind fun _ s2 => .ok e s2
def asGs (G : Glo) (b : Nat) : IGs → List D → Env → Store → Out Env
  | .nil, ds, e, s => (match ds with
    | [] => .ok e s
    | _ => .no)
  | .cons g gs, ds, e, s => (match ds with
    | [] => .no
    | d :: ds => (asG G b g d e s).bind fun e1 s1 => asGs G b gs ds e1 s1)
end

inductive Ctl where
  | nx | bk | ct | ret (r : R) | retc (n : Nat)
/-- where a loop goes on -/
def Ctl.goes : Ctl → Bool
  | .nx => true
  | .ct => true
  | _ => false
/-- what a loop hands on -/
def Ctl.out : Ctl → Ctl
  | .bk => .nx
  | c => c
def forL (f : D → Env → Store → Out (Ctl × Env)) : List D → Env → Store → Out (Ctl × Env)
  | [], e, s => .ok (.nx, e) s
  | d :: ds, e, s => (f d e s).bind fun r s1 => if r.1.goes then forL f ds r.2 s1 else .ok (r.1.out, r.2) s1
/-- over a list in a cell, as it stands at each turn -/
def forC (f : D → Env → Store → Out (Ctl × Env)) (n : Nat) : Nat → Nat → Env → Store → Out (Ctl × Env)
  | 0, _, _, _ => .no
  | F + 1, i, e, s => match s[n]? with
    | some (.lst ds) => match ds[i]? with
      | none => .ok (.nx, e) s
      | some d => (f d e s).bind fun r s1 => if r.1.goes then forC f n F (i + 1) r.2 s1 else .ok (r.1.out, r.2) s1
    | _ => .no
def whileL (t : Env → Store → Out Bool) (f : Env → Store → Out (Ctl × Env)) : Nat → Env → Store → Out (Ctl × Env)
  | 0, _, _ => .no
  | F + 1, e, s => (t e s).bind fun k s1 => if k then (f e s1).bind fun r s2 => if r.1.goes then whileL t f F r.2 s2 else .ok (r.1.out, r.2) s2 else .ok (.nx, e) s1
mutual
def exS (G : Glo) (b : Nat) : IS → Env → Store → Out (Ctl × Env)
  | .asg g x, e, s => (evE G b x e s).bind fun r s1 => (asG G b g r.d e s1).bind fun e1 s2 => .ok (.nx, e1) s2
  | .par i j x y, e, s => (evE G b x e s).bind fun r s1 => (evE G b y e s1).bind fun q s2 => .ok (.nx, (e.set i (some r.d)).set j (some q.d)) s2
  | .aug i o x, e, s => (match e[i]? with
    | some (some (.int n)) => (evE G b x e s).bind fun r s1 => (match r.d with
      | .int m => (match intOp o n m with
        | some k => if o = .add ∨ o = .sub then .ok (.nx, e.set i (some (.int k))) s1 else .no
        | none => .no)
      | _ => .no)
    | _ => .no)
  | .expr x, e, s => (evE G b x e s).bind fun _ s1 => .ok (.nx, e) s1
  | .ret x, e, s => (evE G b x e s).bind fun r s1 => .ok (.ret r, e) s1
  | .retF x, e, s => (evE G b x e s).bind fun r s1 => (match r with
    | .v (.cell n) => .ok (.retc n, e) s1
    | _ => .no)
  | .retN, e, s => .ok (.ret (.v .non), e) s
  | .ifs t a c, e, s => (evT G b t e s).bind fun k s1 => if k then exSs G b a e s1 else exSs G b c e s1
  | .while_ t a, e, s => whileL (evT G b t) (exSs G b a) G.F e s
  | .for_ g it a, e, s => (evI G b it e s).bind fun m s1 => (match m with
    | .l ds => forL (fun d e1 s2 => (asG G b g d e1 s2).bind fun e2 s3 => exSs G b a e2 s3) ds e s1
    | .c n => forC (fun d e1 s2 => (asG G b g d e1 s2).bind fun e2 s3 => exSs G b a e2 s3) n G.F 0 e s1)
  | .brk, e, s => .ok (.bk, e) s
  | .cont, e, s => .ok (.ct, e) s
  | .pass, e, s => .ok (.nx, e) s
  | .never, _, _ => .no
def exSs (G : Glo) (b : Nat) : ISs → Env → Store → Out (Ctl × Env)
  | .nil, e, s => .ok (.nx, e) s
  | .cons x xs, e, s => (exS G b x e s).bind fun r s1 => (match r.1 with
    | .nx => exSs G b xs r.2 s1
    | _ => .ok r s1)
end
/-- own cells give way to what they hold -/
def thL (f : D → Option D) : List D → Option (List D)
  | [] => some []
  | d :: ds => (f d).bind fun x => (thL f ds).map fun xs => x :: xs
def thK {κ : Type} (f : D → Option D) : List (κ × D) → Option (List (κ × D))
  | [] => some []
  | (k, d) :: ds => (f d).bind fun x => (thK f ds).map fun xs => (k, x) :: xs
def thD (s : Store) (b : Nat) : Nat → D → Option D
  | 0, d => if cb b d then some d else none
  | k + 1, d => if cb b d then some d else match d with
    | .tup ds => (thL (thD s b k) ds).map .tup
    | .lst ds => (thL (thD s b k) ds).map .lst
    | .dk ds => (thK (thD s b k) ds).map .dk
    | .dt ds => (thK (thD s b k) ds).map .dt
    | .obj c ds => (thK (thD s b k) ds).map (.obj c)
    | .cell n => match s[n]? with
      | some (.lst ds) => (thL (thD s b k) ds).map .lst
      | some (.dk ds) => (thK (thD s b k) ds).map .dk
      | some (.dt ds) => (thK (thD s b k) ds).map .dt
      | some (.ins c ds) => (thK (thD s b k) ds).map (.obj c)
      | none => none
    | _ => none
def thO (s : Store) (b : Nat) (k : Nat) : O → Option O
  | .lst ds => (thL (thD s b k) ds).map .lst
  | .dk ds => (thK (thD s b k) ds).map .dk
  | .dt ds => (thK (thD s b k) ds).map .dt
  | .ins c ds => (thK (thD s b k) ds).map (.ins c)
/-- the end of a def's body: its own cells go -/
def endR (b : Nat) (c : Ctl) (s : Store) : Out R := match c with
  | .nx => .ok (.v .non) (s.take b)
  | .ret (.v d) => if cb b d then .ok (.v d) (s.take b) else match thD s b 8 d with
    | some d' => .ok (.v d') (s.take b)
    | none => .no
  | .ret (.n o) => if cbO b o then .ok (.n o) (s.take b) else match thO s b 8 o with
    | some o' => .ok (.n o') (s.take b)
    | none => .no
  | .retc n => match s[n]? with
    | some o => if decide (b ≤ n) && cbO b o then .ok (.n o) (s.take b) else .no
    | none => .no
  | _ => .no
structure Def where
  slots : Nat
  params : Nat
  body : ISs
def envOf (d : Def) (xs : List D) : Env := xs.map some ++ List.replicate (d.slots - xs.length) none
def runF (G : Glo) (d : Def) (xs : List D) (s : Store) : Out R :=
  if xs.length = d.params then (exSs G s.length d.body (envOf d xs) s).bind fun r s1 => endR s.length r.1 s1 else .no
/-- a def whose own cells stay -/
def endK (c : Ctl) (s : Store) : Out R := match c with
  | .nx => .ok (.v .non) s
  | .ret r => .ok r s
  | _ => .no
def runK (G : Glo) (b : Nat) (d : Def) (xs : List D) (s : Store) : Out R :=
  if xs.length = d.params then (exSs G b d.body (envOf d xs) s).bind fun r s1 => endK r.1 s1 else .no
end En

set_option Elab.async false
set_option linter.all false
set_option maxRecDepth 100000
set_option maxHeartbeats 1000000
namespace En
open PySem PySem.Spec PyProof.Rows L2

mutual
theorem cb_mono {b c : Nat} (h : b ≤ c) : ∀ d : D, cb b d = true → cb c d = true
  | .tup ds, q => cbs_mono h ds q
  | .kt ds, q => cbs_mono h ds q
  | .lst ds, q => cbs_mono h ds q
  | .dk kvs, q => cbk_mono h kvs q
  | .dt kvs, q => cbt_mono h kvs q
  | .obj _ fs, q => cbf_mono h fs q
  | .cell n, q => by simp only [cb, decide_eq_true_eq] at q ⊢; omega
  | .non, _ => rfl
  | .bl _, _ => rfl
  | .int _, _ => rfl
  | .str _, _ => rfl
  | .gd _, _ => rfl
theorem cbs_mono {b c : Nat} (h : b ≤ c) : ∀ ds : List D, cbs b ds = true → cbs c ds = true
  | [], _ => rfl
  | d :: ds, q => by
    simp only [cbs, Bool.and_eq_true] at q ⊢
    exact ⟨cb_mono h d q.1, cbs_mono h ds q.2⟩
theorem cbk_mono {b c : Nat} (h : b ≤ c) : ∀ ds : List (Key × D), cbk b ds = true → cbk c ds = true
  | [], _ => rfl
  | (_, d) :: ds, q => by
    simp only [cbk, Bool.and_eq_true] at q ⊢
    exact ⟨cb_mono h d q.1, cbk_mono h ds q.2⟩
theorem cbt_mono {b c : Nat} (h : b ≤ c) : ∀ ds : List (List Key × D), cbt b ds = true → cbt c ds = true
  | [], _ => rfl
  | (_, d) :: ds, q => by
    simp only [cbt, Bool.and_eq_true] at q ⊢
    exact ⟨cb_mono h d q.1, cbt_mono h ds q.2⟩
theorem cbf_mono {b c : Nat} (h : b ≤ c) : ∀ ds : List (Str × D), cbf b ds = true → cbf c ds = true
  | [], _ => rfl
  | (_, d) :: ds, q => by
    simp only [cbf, Bool.and_eq_true] at q ⊢
    exact ⟨cb_mono h d q.1, cbf_mono h ds q.2⟩
end
theorem cbs_iff {b : Nat} : ∀ {ds : List D}, cbs b ds = true ↔ ∀ d ∈ ds, cb b d = true
  | [] => by simp [cbs]
  | d :: ds => by simp only [cbs, Bool.and_eq_true, cbs_iff (ds := ds), List.mem_cons, forall_eq_or_imp]
theorem cbk_iff {b : Nat} : ∀ {ds : List (Key × D)}, cbk b ds = true ↔ ∀ p ∈ ds, cb b p.2 = true
  | [] => by simp [cbk]
  | (k, d) :: ds => by simp only [cbk, Bool.and_eq_true, cbk_iff (ds := ds), List.mem_cons, forall_eq_or_imp]
theorem cbt_iff {b : Nat} : ∀ {ds : List (List Key × D)}, cbt b ds = true ↔ ∀ p ∈ ds, cb b p.2 = true
  | [] => by simp [cbt]
  | (k, d) :: ds => by simp only [cbt, Bool.and_eq_true, cbt_iff (ds := ds), List.mem_cons, forall_eq_or_imp]
theorem cbf_iff {b : Nat} : ∀ {ds : List (Str × D)}, cbf b ds = true ↔ ∀ p ∈ ds, cb b p.2 = true
  | [] => by simp [cbf]
  | (k, d) :: ds => by simp only [cbf, Bool.and_eq_true, cbf_iff (ds := ds), List.mem_cons, forall_eq_or_imp]

def OldOk (b : Nat) (st : Store) : Prop := ∀ (n : Nat) (o : O), n < b → st[n]? = some o → cbO b o = true
structure Stp (b : Nat) (H : Hp) (cm : List Addr) (st : Store) (H' : Hp) (cm' : List Addr) (st' : Store) : Prop where
  step : Step H cm H' cm'
  kp : ∀ b', b' ≤ b → OldOk b' st → OldOk b' st'
  len : st.length ≤ st'.length
theorem Stp.refl {b : Nat} {H : Hp} {cm : List Addr} {st : Store} : Stp b H cm st H cm st := ⟨.refl _ _, fun _ _ h => h, Nat.le_refl _⟩
theorem Stp.trans {b : Nat} {H H1 H2 : Hp} {cm cm1 cm2 : List Addr} {st st1 st2 : Store} (s : Stp b H cm st H1 cm1 st1) (t : Stp b H1 cm1 st1 H2 cm2 st2) : Stp b H cm st H2 cm2 st2 :=
  ⟨s.step.trans t.step, fun b' h q => t.kp b' h (s.kp b' h q), Nat.le_trans s.len t.len⟩
theorem Stp.keep {b : Nat} {H H' : Hp} {cm : List Addr} {st : Store} (e : ∀ a u, H a = some u → H' a = some u) : Stp b H cm st H' cm st := ⟨.keep e, fun _ _ h => h, Nat.le_refl _⟩
theorem Stp.less {b b' : Nat} {H H' : Hp} {cm cm' : List Addr} {st st' : Store} (s : Stp b H cm st H' cm' st') (h : b' ≤ b) : Stp b' H cm st H' cm' st' := ⟨s.step, fun c hc q => s.kp c (Nat.le_trans hc h) q, s.len⟩

/-- what an expression leaves; fx: what nobody may know -/
def Po (L : Lk) (fx : List Addr) (b : Nat) (H : Hp) (cm : List Addr) (st : Store) (v : V) (r : R) (H' : Hp) (cm' : List Addr) (st' : Store) : Prop :=
  Stp b H cm st H' cm' st' ∧ match r with
  | .v d => Valid L H' (fx ++ cm') cm' st' ∧ Rep L H' (fx ++ cm') cm' v d
  | .n o => ∃ p, v = .ref p ∧ H p = none ∧ p ∉ fx ++ cm' ∧ Valid L H' (fx ++ cm' ++ [p]) cm' st' ∧ ORep L H' (fx ++ cm' ++ [p]) cm' p o
section
variable {L : Lk} {b : Nat} {H H' H1 : Hp} {fx cm cm' cm1 : List Addr} {st st' st1 : Store} {v : V} {r : R}
theorem orep_d {p : Addr} {o : O} {fb : List Addr} (hp : p ∉ fb) (h : ORep L H (fb ++ [p]) cm p o) : Rep L H fb cm (.ref p) o.d := by
  have le : ∀ b ∈ fb, b ∈ fb ++ [p] := fun b m => List.mem_append_left _ m
  cases o with
  | lst ds => obtain ⟨xs, h1, h2⟩ := h; exact .lst hp (.inl h1) (h2.less le)
  | dk ds => obtain ⟨xs, h1, h2, h3⟩ := h; exact .dk hp (.inl h1) h2 (h3.less le)
  | dt ds => obtain ⟨xs, h1, h2, h3⟩ := h; exact .dt hp (.inl h1) h2 (h3.less le)
  | ins c ds => obtain ⟨dx, xs, h1, h2, h3⟩ := h; exact .obj hp h1 h2 (h3.less le)
theorem Po.d (h : Po L fx b H cm st v r H' cm' st') : Stp b H cm st H' cm' st' ∧ Valid L H' (fx ++ cm') cm' st' ∧ Rep L H' (fx ++ cm') cm' v r.d := by
  obtain ⟨s, h⟩ := h
  cases r with
  | v d => exact ⟨s, h.1, h.2⟩
  | n o =>
    obtain ⟨p, rfl, _, hp, W, q⟩ := h
    exact ⟨s, W.less (fun b m => List.mem_append_left _ m) fun a m => List.mem_append_right _ m, orep_d hp q⟩
theorem Po.after (s : Stp b H cm st H1 cm1 st1) (h : Po L fx b H1 cm1 st1 v r H' cm' st') : Po L fx b H cm st v r H' cm' st' := by
  obtain ⟨t, h⟩ := h
  refine ⟨s.trans t, ?_⟩
  cases r with
  | v d => exact h
  | n o =>
    obtain ⟨p, h0, h1, h2⟩ := h
    exact ⟨p, h0, s.step.free h1, h2⟩
theorem po_val {d : D} (W : Valid L H (fx ++ cm) cm st) (h : Rep L H (fx ++ cm) cm v d) : Po L fx b H cm st v (.v d) H cm st := ⟨.refl, W, h⟩
theorem po_tup {p : Addr} {xs : List V} {ds : List D} (W : Valid L H (fx ++ cm) cm st) (h : Reps L H (fx ++ cm) cm xs ds) (n : H p = none) : Po L fx b H cm st (.ref p) (.v (.tup ds)) (upd H p (.tup xs)) cm st :=
  ⟨.keep (keep_new n), W.keep (keep_new n), .tup (W.nin n) upd_same (h.ext fun a o _ => keep_new n a o)⟩
theorem po_lst {p : Addr} {xs : List V} {ds : List D} (W : Valid L H (fx ++ cm) cm st) (h : Reps L H (fx ++ cm) cm xs ds) (n : H p = none) : Po L fx b H cm st (.ref p) (.n (.lst ds)) (upd H p (.lst xs)) cm st :=
  ⟨.keep (keep_new n), p, rfl, n, W.nin n, W.new n, xs, upd_same, h.new n⟩
theorem po_dk0 {p : Addr} (W : Valid L H (fx ++ cm) cm st) (n : H p = none) : Po L fx b H cm st (.ref p) (.n (.dk [])) (upd H p (.dK [])) cm st :=
  ⟨.keep (keep_new n), p, rfl, n, W.nin n, W.new n, [], upd_same, rfl, .nil⟩
theorem po_dt0 {p : Addr} (W : Valid L H (fx ++ cm) cm st) (n : H p = none) : Po L fx b H cm st (.ref p) (.n (.dt [])) (upd H p (.dT [])) cm st :=
  ⟨.keep (keep_new n), p, rfl, n, W.nin n, W.new n, [], upd_same, rfl, .nil⟩
theorem ext_cell {a : Addr} {u : HO} (m : a ∈ cm) : Ext (fx ++ cm) H (upd H a u) := fun c q nc h => by
  rw [upd_ne (fun z => nc (by rw [z]; exact List.mem_append_right _ m))]
  exact h
/-- a cell is written -/
theorem wr_ok {n : Nat} {a : Addr} {o o' : O} {u : HO} (W : Valid L H (fx ++ cm) cm st) (hn : st[n]? = some o) (ha : cm[n]? = some a) (new : ORep L (upd H a u) (fx ++ cm) cm a o') (hw : b ≤ n ∨ ∀ b', cbO b' o = true → cbO b' o' = true) :
    Stp b H cm st (upd H a u) cm (st.set n o') ∧ Valid L (upd H a u) (fx ++ cm) cm (st.set n o') := by
  have ma : a ∈ cm := List.mem_of_getElem? ha
  have ext : Ext cm H (upd H a u) := fun c q nc h => by
    rw [upd_ne (fun z => nc (by rw [z]; exact ma))]
    exact h
  have hl : n < st.length := (List.getElem?_eq_some_iff.mp hn).1
  have trk : ∀ c q, H c = some q → ∃ q', upd H a u c = some q' := fun c q h => by
    by_cases z : c = a
    · exact ⟨u, by rw [z]; exact upd_same⟩
    · exact ⟨q, by rw [upd_ne z]; exact h⟩
  refine ⟨⟨⟨ext, ⟨[], by simp, by simp⟩, trk⟩, fun b' hb old m q hm e => ?_, by rw [List.length_set]; exact Nat.le_refl _⟩, by rw [List.length_set]; exact W.len, W.nd, W.sub, fun c m => let ⟨q, h⟩ := W.trk c m; trk c q h, fun m q e => ?_⟩
  · by_cases z : n = m
    · subst z
      rw [List.getElem?_set_self hl] at e
      cases e
      rcases hw with hw | hw
      · omega
      · exact hw b' (old n o hm hn)
    · rw [List.getElem?_set_ne z] at e
      exact old m q hm e
  · by_cases z : n = m
    · subst z
      rw [List.getElem?_set_self hl] at e
      cases e
      exact ⟨a, ha, new⟩
    · rw [List.getElem?_set_ne z] at e
      obtain ⟨c, hc, oc⟩ := W.cells m q e
      refine ⟨c, hc, oc.ext (ext_cell ma) (upd_ne fun y => z ?_)⟩
      subst y
      exact (List.getElem?_inj (by rw [W.len]; exact hl) W.nd).mp (ha.trans hc.symm)
end

section
variable {L : Lk} {H : Hp} {fb cm : List Addr} {st : Store} {v : V} {d : D}
theorem flat_rep {x : V} (h : Rep L H fb cm v d) (e : flat d = some x) : v = x := by
  cases h <;> simp only [flat, Option.some.injEq, reduceCtorEq] at e <;> exact e
theorem flat_isV {x : V} (e : flat d = some x) : flatV x = true := by
  cases d <;> simp only [flat, Option.some.injEq, reduceCtorEq] at e <;> subst e <;> rfl
theorem flats_rep : ∀ {vs : List V} {ds : List D} {xs : List V}, Reps L H fb cm vs ds → flats ds = some xs → vs = xs ∧ xs.all flatV = true
  | _, _, _, .nil, e => by cases e; exact ⟨rfl, rfl⟩
  | _, _, _, .cons (d := d) (ds := ds) r t, e => by
    simp only [flats, Option.bind_eq_some_iff, Option.map_eq_some_iff] at e
    obtain ⟨x, e1, xs, e2, rfl⟩ := e
    obtain ⟨e3, e4⟩ := flats_rep t e2
    exact ⟨by rw [flat_rep r e1, e3], by rw [List.all_cons, flat_isV e1, e4]; rfl⟩
theorem ints_rep : ∀ {vs : List V} {ds : List D} {ns : List Int}, Reps L H fb cm vs ds → intsOf ds = some ns → vs = ns.map V.int
  | _, _, _, .nil, e => by cases e; rfl
  | _, _, _, .cons r t, e => by
    cases r <;> simp only [intsOf, Option.map_eq_some_iff, reduceCtorEq] at e
    obtain ⟨ns, e2, rfl⟩ := e
    rw [ints_rep t e2]
    rfl
theorem bls_rep : ∀ {vs : List V} {ds : List D} {ns : List Bool}, Reps L H fb cm vs ds → blsOf ds = some ns → vs = ns.map V.bl
  | _, _, _, .nil, e => by cases e; rfl
  | _, _, _, .cons r t, e => by
    cases r <;> simp only [blsOf, Option.map_eq_some_iff, reduceCtorEq] at e
    obtain ⟨ns, e2, rfl⟩ := e
    rw [bls_rep t e2]
    rfl
theorem key_rep {k : Key} (h : Rep L H fb cm v d) (e : keyOf d = some k) : v = kV k := by
  cases h <;> simp only [keyOf, Option.some.injEq, reduceCtorEq] at e <;> subst e <;> rfl
theorem keys_rep : ∀ {vs : List V} {ds : List D} {ks : List Key}, Reps L H fb cm vs ds → keysOf ds = some ks → vs = ks.map kV
  | _, _, _, .nil, e => by cases e; rfl
  | _, _, _, .cons r t, e => by
    simp only [keysOf, Option.bind_eq_some_iff, Option.map_eq_some_iff] at e
    obtain ⟨k, e1, ks, e2, rfl⟩ := e
    rw [key_rep r e1, keys_rep t e2]
    rfl
theorem KL.sq {K : PySem.W.Frag} {H : Hp} {a : Addr} {xs : List V} (h : KL K a xs) : SqL K H a xs := by
  obtain ⟨its, n, h1, h2, h3⟩ := h
  exact .inr ⟨_, its, n, h1, rfl, rfl, rfl, h2, h3⟩
def Ql (K : PySem.W.Frag) (H : Hp) (a : Addr) (xs : List V) : Prop := Rd H a (.lst xs) ∨ KL K a xs
theorem Ql.sq {K : PySem.W.Frag} {H : Hp} {a : Addr} {xs : List V} (h : Ql K H a xs) : SqL K H a xs := h.elim .inl fun z => z.sq
theorem KT.sq {K : PySem.W.Frag} {a : Addr} {xs : List V} (h : KT K a xs) : SqT K H a xs := .inr h
/-- a list or a tuple that may be read -/
theorem seq_rep {k : Bool} {ds : List D} (V : Valid L H fb cm st) (h : Rep L H fb cm v d) (e : seqOf st d = some (k, ds)) :
    ∃ a vs, v = .ref a ∧ Reps L H fb cm vs ds ∧ (k = false → Ql L.K H a vs) ∧ (k = true → SqT L.K H a vs) := by
  cases h <;> simp only [seqOf, Option.some.injEq, Prod.mk.injEq, reduceCtorEq] at e
  case tup a xs ds' n t r =>
    obtain ⟨rfl, rfl⟩ := e
    exact ⟨a, xs, rfl, r, (fun z => nomatch z), fun _ => SqT.of t⟩
  case lst a xs ds' n t r =>
    obtain ⟨rfl, rfl⟩ := e
    exact ⟨a, xs, rfl, r, fun _ => .inl t, (fun z => nomatch z)⟩
  case kl a xs ds' n r =>
    obtain ⟨rfl, rfl⟩ := e
    exact ⟨a, xs, rfl, r, fun _ => .inr n, (fun z => nomatch z)⟩
  case kt a xs ds' n r =>
    obtain ⟨rfl, rfl⟩ := e
    exact ⟨a, xs, rfl, r, (fun z => nomatch z), fun _ => n.sq⟩
  case cell n a c =>
    split at e
    · rename_i es he
      cases e
      obtain ⟨xs, h1, h2⟩ := V.cell he c
      exact ⟨a, xs, rfl, h2, fun _ => .inl (.inl h1), (fun z => nomatch z)⟩
    · cases e
theorem seq_or {k : Bool} {a : Addr} {vs : List V} (h1 : k = false → Ql L.K H a vs) (h2 : k = true → SqT L.K H a vs) : SqL L.K H a vs ∨ SqT L.K H a vs := by
  cases k with
  | false => exact .inl (h1 rfl).sq
  | true => exact .inr (h2 rfl)
theorem dk_rep {ds : List (Key × D)} (V : Valid L H fb cm st) (h : Rep L H fb cm v d) (e : dkOf st d = some ds) :
    ∃ a kvs, v = .ref a ∧ Rd H a (.dK kvs) ∧ kvs.map (·.1) = ds.map (·.1) ∧ Reps L H fb cm (kvs.map (·.2)) (ds.map (·.2)) := by
  cases h <;> simp only [dkOf, Option.some.injEq, reduceCtorEq] at e
  case dk a xs ds' n t q r =>
    subst e
    exact ⟨a, xs, rfl, t, q, r⟩
  case cell n a c =>
    split at e
    · rename_i es he
      cases e
      obtain ⟨xs, h1, h2, h3⟩ := V.cell he c
      exact ⟨a, xs, rfl, .inl h1, h2, h3⟩
    · cases e
theorem dt_rep {ds : List (List Key × D)} (V : Valid L H fb cm st) (h : Rep L H fb cm v d) (e : dtOf st d = some ds) :
    ∃ a kvs, v = .ref a ∧ Rd H a (.dT kvs) ∧ kvs.map (·.1) = ds.map (·.1) ∧ Reps L H fb cm (kvs.map (·.2)) (ds.map (·.2)) := by
  cases h <;> simp only [dtOf, Option.some.injEq, reduceCtorEq] at e
  case dt a xs ds' n t q r =>
    subst e
    exact ⟨a, xs, rfl, t, q, r⟩
  case cell n a c =>
    split at e
    · rename_i es he
      cases e
      obtain ⟨xs, h1, h2, h3⟩ := V.cell he c
      exact ⟨a, xs, rfl, .inl h1, h2, h3⟩
    · cases e
theorem obj_rep {c : Nat} {ds : List (Str × D)} (V : Valid L H fb cm st) (h : Rep L H fb cm v d) (e : objOf st d = some (c, ds)) :
    ∃ a dx fs, v = .ref a ∧ H a = some (.ins (L.ca c) dx fs) ∧ fs.map (·.1) = ds.map (·.1) ∧ Reps L H fb cm (fs.map (·.2)) (ds.map (·.2)) := by
  cases h <;> simp only [objOf, Option.some.injEq, Prod.mk.injEq, reduceCtorEq] at e
  case obj a dx c' fs ds' n t q r =>
    obtain ⟨rfl, rfl⟩ := e
    exact ⟨a, dx, fs, rfl, t, q, r⟩
  case cell n a c' =>
    split at e
    · rename_i es he hh
      cases e
      obtain ⟨dx, xs, h1, h2, h3⟩ := V.cell hh c'
      exact ⟨a, dx, xs, rfl, h1, h2, h3⟩
    · cases e
/-- looking up, by keys -/
theorem look_rep {κ : Type} [DecidableEq κ] (k : κ) : ∀ {xs : List (κ × V)} {ds : List (κ × D)}, xs.map (·.1) = ds.map (·.1) → Reps L H fb cm (xs.map (·.2)) (ds.map (·.2)) →
    (lookK ds k = none → valV xs k = none) ∧ ∀ d, lookK ds k = some d → ∃ v, valV xs k = some v ∧ Rep L H fb cm v d
  | [], [], _, _ => ⟨fun _ => rfl, fun d e => by simp [lookK] at e⟩
  | [], _ :: _, e, _ => by simp at e
  | _ :: _, [], e, _ => by simp at e
  | (k1, v1) :: xs, (k2, d2) :: ds, e, r => by
    simp only [List.map_cons, List.cons.injEq] at e r
    obtain ⟨rfl, e⟩ := e
    cases r with
    | cons r1 r2 =>
      have ih := look_rep k e r2
      by_cases hk : k1 = k
      · rw [valV_pos (p := (k1, v1)) hk]
        have q : lookK ((k1, d2) :: ds) k = some d2 := by simp [lookK, List.find?_cons, hk]
        rw [q]
        exact ⟨(fun z => nomatch z), fun d z => by cases z; exact ⟨v1, rfl, r1⟩⟩
      · rw [valV_neg (p := (k1, v1)) hk]
        have q : lookK ((k1, d2) :: ds) k = lookK ds k := by simp [lookK, List.find?_cons, hk]
        rw [q]
        exact ih
theorem lookup_rep (k : Str) : ∀ {xs : List (Str × V)} {ds : List (Str × D)}, xs.map (·.1) = ds.map (·.1) → Reps L H fb cm (xs.map (·.2)) (ds.map (·.2)) →
    (ds.lookup k = none → xs.lookup k = none) ∧ ∀ d, ds.lookup k = some d → ∃ v, xs.lookup k = some v ∧ Rep L H fb cm v d
  | [], [], _, _ => ⟨fun _ => rfl, fun d e => by simp at e⟩
  | [], _ :: _, e, _ => by simp at e
  | _ :: _, [], e, _ => by simp at e
  | (k1, v1) :: xs, (k2, d2) :: ds, e, r => by
    simp only [List.map_cons, List.cons.injEq] at e r
    obtain ⟨rfl, e⟩ := e
    cases r with
    | cons r1 r2 =>
      have ih := lookup_rep k e r2
      simp only [List.lookup_cons]
      cases k == k1 with
      | true => exact ⟨(fun z => nomatch z), fun d z => by cases z; exact ⟨v1, rfl, r1⟩⟩
      | false => exact ih
/-- as data for == -/
theorem toPy_rep : ∀ {v : V} {d : D} {p : PyData}, Rep L H fb cm v d → toPy d = some p → Dp L.K H v p := fun {v d p} h => by
  revert p
  refine Rep.rec (motive_1 := fun v d _ => ∀ {p}, toPy d = some p → Dp L.K H v p) (motive_2 := fun vs ds _ => ∀ {ps}, toPys ds = some ps → DpAll L.K H vs ps) ?_ ?_ ?_ ?_ ?_ ?_ ?_ ?_ ?_ ?_ ?_ ?_ ?_ ?_ ?_ h
  · intro p e; cases e; exact .non
  · intro b p e; cases e; exact .bl b
  · intro i p e; cases e; exact .int i
  · intro x p e; cases e; exact .str x
  · intro a xs ds n t _ ih p e
    simp only [toPy, Option.map_eq_some_iff] at e
    obtain ⟨ps, e1, rfl⟩ := e
    exact .tup (SqT.of t) (ih e1)
  · intro a xs ds n t _ ih p e
    simp only [toPy, Option.map_eq_some_iff] at e
    obtain ⟨ps, e1, rfl⟩ := e
    exact .lst (.inl t) (ih e1)
  · intro a xs ds n t q _ ih p e; simp [toPy] at e
  · intro a xs ds n t q _ ih p e; simp [toPy] at e
  · intro a dx c fs ds n t q _ ih p e; simp [toPy] at e
  · intro j p e; simp [toPy] at e
  · intro a xs ds n _ ih p e
    simp only [toPy, Option.map_eq_some_iff] at e
    obtain ⟨ps, e1, rfl⟩ := e
    exact .tup n.sq (ih e1)
  · intro a xs ds n _ ih p e
    simp only [toPy, Option.map_eq_some_iff] at e
    obtain ⟨ps, e1, rfl⟩ := e
    exact .lst n.sq (ih e1)
  · intro n a c p e; simp [toPy] at e
  · intro ps e; cases e; exact .nil
  · intro v vs d ds _ _ i1 i2 ps e
    simp only [toPys, Option.bind_eq_some_iff, Option.map_eq_some_iff] at e
    obtain ⟨q, e1, qs, e2, rfl⟩ := e
    exact .cons (i1 e1) (i2 e2)
theorem thaw_rep {p : PyData} (V : Valid L H fb cm st) (h : Rep L H fb cm v d) (e : toPy (thaw st d) = some p) : Dp L.K H v p := by
  have key : ∀ q, thaw st q = q → Rep L H fb cm v q → toPy (thaw st q) = some p → Dp L.K H v p := fun q z r e => toPy_rep r (by rw [← z]; exact e)
  cases h with
  | @cell n a c =>
    unfold thaw at e
    simp only at e
    split at e
    · rename_i ds he
      obtain ⟨xs, h1, h2⟩ := V.cell he c
      simp only [toPy, Option.map_eq_some_iff] at e
      obtain ⟨ps, e1, rfl⟩ := e
      have aux : ∀ {vs : List L2.V} {ds : List D} {ps : List PyData}, Reps L H fb cm vs ds → toPys ds = some ps → DpAll L.K H vs ps := fun {vs ds} => by
        induction ds generalizing vs with
        | nil => intro ps r e; cases r; cases e; exact .nil
        | cons d ds ih =>
          intro ps r e
          cases r with
          | cons r1 r2 =>
            simp only [toPys, Option.bind_eq_some_iff, Option.map_eq_some_iff] at e
            obtain ⟨q, e1, qs, e2, rfl⟩ := e
            exact .cons (toPy_rep r1 e1) (ih r2 e2)
      exact .lst (.inl (.inl h1)) (aux h2 e1)
    · simp [toPy] at e
  | non => exact key _ rfl .non e
  | bl b => exact key _ rfl (.bl b) e
  | int b => exact key _ rfl (.int b) e
  | str b => exact key _ rfl (.str b) e
  | tup n t r => exact key _ rfl (.tup n t r) e
  | lst n t r => exact key _ rfl (.lst n t r) e
  | dk n t q r => exact key _ rfl (.dk n t q r) e
  | dt n t q r => exact key _ rfl (.dt n t q r) e
  | obj n t q r => exact key _ rfl (.obj n t q r) e
  | gd j => exact key _ rfl (.gd j) e
  | kt n r => exact key _ rfl (.kt n r) e
  | kl n r => exact key _ rfl (.kl n r) e
end
section
variable {L : Lk} {H : Hp} {fb cm : List Addr}
theorem rep_narrow_ {b : Nat} {cm' : List Addr} (hc : ∀ (n : Nat) (a : Addr), n < b → cm[n]? = some a → cm'[n]? = some a) :
    (∀ {v : V} {d : D}, Rep L H fb cm v d → cb b d = true → Rep L H fb cm' v d) ∧ ∀ {vs : List V} {ds : List D}, Reps L H fb cm vs ds → cbs b ds = true → Reps L H fb cm' vs ds := by
  have dk : ∀ {ds : List (Key × D)}, cbk b ds = true → cbs b (ds.map (·.2)) = true := fun {ds} h => cbs_iff.mpr fun d m => by
    obtain ⟨p, hp, rfl⟩ := List.mem_map.mp m
    exact cbk_iff.mp h p hp
  have dt : ∀ {ds : List (List Key × D)}, cbt b ds = true → cbs b (ds.map (·.2)) = true := fun {ds} h => cbs_iff.mpr fun d m => by
    obtain ⟨p, hp, rfl⟩ := List.mem_map.mp m
    exact cbt_iff.mp h p hp
  have df : ∀ {ds : List (Str × D)}, cbf b ds = true → cbs b (ds.map (·.2)) = true := fun {ds} h => cbs_iff.mpr fun d m => by
    obtain ⟨p, hp, rfl⟩ := List.mem_map.mp m
    exact cbf_iff.mp h p hp
  have key : ∀ {v : V} {d : D}, Rep L H fb cm v d → cb b d = true → Rep L H fb cm' v d := fun {v d} h => by
    refine Rep.rec (motive_1 := fun v d _ => cb b d = true → Rep L H fb cm' v d) (motive_2 := fun vs ds _ => cbs b ds = true → Reps L H fb cm' vs ds) ?_ ?_ ?_ ?_ ?_ ?_ ?_ ?_ ?_ ?_ ?_ ?_ ?_ ?_ ?_ h
    · exact fun _ => .non
    · exact fun b _ => .bl b
    · exact fun i _ => .int i
    · exact fun x _ => .str x
    · exact fun n t _ r q => .tup n t (r (by simpa only [cb] using q))
    · exact fun n t _ r q => .lst n t (r (by simpa only [cb] using q))
    · exact fun n t e _ r q => .dk n t e (r (dk (by simpa only [cb] using q)))
    · exact fun n t e _ r q => .dt n t e (r (dt (by simpa only [cb] using q)))
    · exact fun n t e _ r q => .obj n t e (r (df (by simpa only [cb] using q)))
    · exact fun j _ => .gd j
    · exact fun k _ r q => .kt k (r (by simpa only [cb] using q))
    · exact fun k _ r q => .kl k (r (by simpa only [cb] using q))
    · exact fun e q => .cell (hc _ _ (by simpa only [cb, decide_eq_true_eq] using q) e)
    · exact fun _ => .nil
    · exact fun _ _ r rs q => by
        simp only [cbs, Bool.and_eq_true] at q
        exact .cons (r q.1) (rs q.2)
  refine ⟨key, fun {vs ds} h => ?_⟩
  induction ds generalizing vs with
  | nil => intro _; cases h; exact .nil
  | cons d ds ih =>
    intro q
    simp only [cbs, Bool.and_eq_true] at q
    cases h with
    | cons r t => exact .cons (key r q.1) (ih t q.2)
theorem rep_cb : ∀ {v : V} {d : D}, Rep L H fb cm v d → cb cm.length d = true := fun {v d} h => by
  have dk : ∀ {ds : List (Key × D)}, cbs cm.length (ds.map (·.2)) = true → cbk cm.length ds = true := fun {ds} h => cbk_iff.mpr fun p hp => cbs_iff.mp h p.2 (List.mem_map.mpr ⟨p, hp, rfl⟩)
  have dt : ∀ {ds : List (List Key × D)}, cbs cm.length (ds.map (·.2)) = true → cbt cm.length ds = true := fun {ds} h => cbt_iff.mpr fun p hp => cbs_iff.mp h p.2 (List.mem_map.mpr ⟨p, hp, rfl⟩)
  have df : ∀ {ds : List (Str × D)}, cbs cm.length (ds.map (·.2)) = true → cbf cm.length ds = true := fun {ds} h => cbf_iff.mpr fun p hp => cbs_iff.mp h p.2 (List.mem_map.mpr ⟨p, hp, rfl⟩)
  refine Rep.rec (motive_1 := fun v d _ => cb cm.length d = true) (motive_2 := fun vs ds _ => cbs cm.length ds = true) ?_ ?_ ?_ ?_ ?_ ?_ ?_ ?_ ?_ ?_ ?_ ?_ ?_ ?_ ?_ h
  · rfl
  · intros; rfl
  · intros; rfl
  · intros; rfl
  · intros; simp only [cb]; assumption
  · intros; simp only [cb]; assumption
  · intros; simp only [cb]; apply dk; assumption
  · intros; simp only [cb]; apply dt; assumption
  · intros; simp only [cb]; apply df; assumption
  · intros; rfl
  · intros; simp only [cb]; assumption
  · intros; simp only [cb]; assumption
  · intro n a e
    simp only [cb, decide_eq_true_eq]
    exact (List.getElem?_eq_some_iff.mp e).1
  · rfl
  · intro v vs d ds _ _ a b
    simp only [cbs, a, b, Bool.and_self]
theorem reps_cb {vs : List V} {ds : List D} (h : Reps L H fb cm vs ds) : cbs cm.length ds = true := by
  induction ds generalizing vs with
  | nil => rfl
  | cons d ds ih =>
    cases h with
    | cons r t => simp only [cbs, rep_cb r, ih t, Bool.and_self]
theorem orep_cb {a : Addr} {o : O} (h : ORep L H fb cm a o) : cbO cm.length o = true := by
  cases o with
  | lst ds => obtain ⟨xs, h1, h2⟩ := h; exact reps_cb h2
  | dk ds => obtain ⟨xs, h1, h2, h3⟩ := h; exact cbk_iff.mpr fun p hp => cbs_iff.mp (reps_cb h3) p.2 (List.mem_map.mpr ⟨p, hp, rfl⟩)
  | dt ds => obtain ⟨xs, h1, h2, h3⟩ := h; exact cbt_iff.mpr fun p hp => cbs_iff.mp (reps_cb h3) p.2 (List.mem_map.mpr ⟨p, hp, rfl⟩)
  | ins c ds => obtain ⟨dx, xs, h1, h2, h3⟩ := h; exact cbf_iff.mpr fun p hp => cbs_iff.mp (reps_cb h3) p.2 (List.mem_map.mpr ⟨p, hp, rfl⟩)
theorem orep_narrow {b : Nat} {cm' : List Addr} {a : Addr} {o : O} (hc : ∀ (n : Nat) (a : Addr), n < b → cm[n]? = some a → cm'[n]? = some a) (h : ORep L H fb cm a o) (q : cbO b o = true) : ORep L H fb cm' a o := by
  have N := rep_narrow_ (L := L) (H := H) (fb := fb) hc
  cases o with
  | lst ds => obtain ⟨xs, h1, h2⟩ := h; exact ⟨xs, h1, N.2 h2 q⟩
  | dk ds => obtain ⟨xs, h1, h2, h3⟩ := h; exact ⟨xs, h1, h2, N.2 h3 (cbs_iff.mpr fun d m => by obtain ⟨p, hp, rfl⟩ := List.mem_map.mp m; exact cbk_iff.mp q p hp)⟩
  | dt ds => obtain ⟨xs, h1, h2, h3⟩ := h; exact ⟨xs, h1, h2, N.2 h3 (cbs_iff.mpr fun d m => by obtain ⟨p, hp, rfl⟩ := List.mem_map.mp m; exact cbt_iff.mp q p hp)⟩
  | ins c ds => obtain ⟨dx, xs, h1, h2, h3⟩ := h; exact ⟨dx, xs, h1, h2, N.2 h3 (cbs_iff.mpr fun d m => by obtain ⟨p, hp, rfl⟩ := List.mem_map.mp m; exact cbf_iff.mp q p hp)⟩
theorem Valid.old {st : Store} (W : Valid L H fb cm st) : OldOk st.length st := fun n o _ e => by
  obtain ⟨a, h1, h2⟩ := W.cells n o e
  rw [← W.len]
  exact orep_cb h2
theorem take_idx {cm ex : List Addr} : ∀ (n : Nat) (a : Addr), n < cm.length → (cm ++ ex)[n]? = some a → cm[n]? = some a := fun n a hn h => by
  rw [List.getElem?_append_left hn] at h
  exact h

/-- the own cells go -/
theorem Valid.cut {ex fb' : List Addr} {st : Store} (W : Valid L H fb (cm ++ ex) st) (old : OldOk cm.length st) (h1 : ∀ a ∈ fb', a ∈ fb) (h2 : ∀ a ∈ cm, a ∈ fb') : Valid L H fb' cm (st.take cm.length) := by
  have hl := W.len
  rw [List.length_append] at hl
  refine ⟨by rw [List.length_take]; omega, (List.nodup_append.mp W.nd).1, h2, fun a m => W.trk a (h1 a m), fun n o e => ?_⟩
  have hn : n < cm.length := by
    have := (List.getElem?_eq_some_iff.mp e).1
    rw [List.length_take] at this
    omega
  rw [List.getElem?_take_of_lt hn] at e
  obtain ⟨a, h3, h4⟩ := W.cells n o e
  exact ⟨a, take_idx n a hn h3, (orep_narrow take_idx h4 (old n o hn e)).less h1⟩
/-- a cell that is new is handed out frozen; the cells behind st go -/
theorem po_frz {fx cm' : List Addr} {H' : Hp} {st s1 : Store} {n : Nat} {a : Addr} {o : O} (W : Valid L H (fx ++ cm) cm st) (p : Stp st.length H cm st H' cm' s1) (W1 : Valid L H' (fx ++ cm') cm' s1) (hc : cm'[n]? = some a) (ho : s1[n]? = some o) (hn : st.length ≤ n) (hcb : cbO st.length o = true) :
    Po L fx st.length H cm st (.ref a) (.n o) H' cm (s1.take st.length) := by
  have hlen := W.len
  obtain ⟨ex, rfl, hx⟩ := p.step.new
  have old : OldOk cm.length s1 := by rw [hlen]; exact p.kp _ (Nat.le_refl _) W.old
  have p2 : Stp st.length H cm st H' cm (s1.take st.length) := ⟨⟨p.step.ext, ⟨[], by simp, by simp⟩, p.step.trk⟩, fun b' hb' old n o hn e => by
    rw [List.getElem?_take_of_lt (Nat.lt_of_lt_of_le hn hb')] at e
    exact p.kp b' hb' old n o hn e, by
    rw [List.length_take]
    have := p.len
    omega⟩
  have hn : ¬ n < cm.length := by rw [hlen]; omega
  have hex : a ∈ ex := by
    rw [List.getElem?_append_right (Nat.le_of_not_lt hn)] at hc
    exact List.mem_of_getElem? hc
  have s2 : ∀ z ∈ fx ++ cm ++ [a], z ∈ fx ++ (cm ++ ex) := fun z m => by
    rcases List.mem_append.mp m with m | m
    · rw [← List.append_assoc]; exact List.mem_append_left _ m
    · rw [List.mem_singleton.mp m]
      exact List.mem_append_right _ (List.mem_append_right _ hex)
  refine ⟨p2, a, rfl, hx a hex, fun m => ?_, ?_, ?_⟩
  · obtain ⟨u, hu⟩ := W.trk a m
    rw [hx a hex] at hu
    cases hu
  · rw [← hlen]
    exact W1.cut old s2 fun z m => List.mem_append_left _ (List.mem_append_right _ m)
  · have o1 := W1.cell ho hc
    rw [← hlen] at hcb
    exact (orep_narrow take_idx o1 hcb).less s2
theorem flat_any {v : V} {d : D} (h : Rep L H fb cm v d) (z : (flat d).isSome = true) : ∀ {H' : Hp} {fb' cm' : List Addr}, Rep L H' fb' cm' v d := fun {H' fb' cm'} => by
  cases h with
  | non => exact .non
  | bl b => exact .bl b
  | int i => exact .int i
  | str x => exact .str x
  | _ => cases z
theorem flats_any : ∀ {vs : List V} {ds : List D}, Reps L H fb cm vs ds → (flats ds).isSome = true → ∀ {H' : Hp} {fb' cm' : List Addr}, Reps L H' fb' cm' vs ds
  | _, _, .nil, _, _, _, _ => .nil
  | _, _, .cons r t, z, _, _, _ => by
    simp only [flats, Option.isSome_bind, Option.isSome_map] at z
    rename_i v vs d ds H' fb' cm'
    cases hf : flat d with
    | none => rw [hf] at z; cases z
    | some x =>
      rw [hf] at z
      exact .cons (flat_any r (by rw [hf]; rfl)) (flats_any t z)
theorem thaw_reps {st : Store} (W : Valid L H fb cm st) : ∀ {vs : List V} {ds : List D}, Reps L H fb cm vs ds → cbs 0 (ds.map (thawA st)) = true → Reps L H [] [] vs (ds.map (thawA st))
  | _, _, .nil, _ => .nil
  | _, _, .cons r t, z => by
    rename_i v vs d ds
    simp only [List.map_cons, cbs, Bool.and_eq_true] at z
    refine .cons ?_ (thaw_reps W t z.2)
    have N : ∀ {v d}, Rep L H fb cm v d → cb 0 d = true → Rep L H [] [] v d := fun {v d} r z => ((rep_narrow_ (cm' := []) fun n a h _ => absurd h (Nat.not_lt_zero _)).1 r z).less fun b m => nomatch m
    have Ns : ∀ {vs ds}, Reps L H fb cm vs ds → cbs 0 ds = true → Reps L H [] [] vs ds := fun {v d} r z => ((rep_narrow_ (cm' := []) fun n a h _ => absurd h (Nat.not_lt_zero _)).2 r z).less fun b m => nomatch m
    by_cases hd : ∃ n, d = .cell n
    · obtain ⟨n, rfl⟩ := hd
      cases r with
      | cell c =>
        simp only [thawA] at z ⊢
        cases ho : st[n]? with
        | none => rw [ho] at z; simp [cb] at z
        | some o =>
          rw [ho] at z
          have q := W.cell ho c
          cases o with
          | lst xs => obtain ⟨us, h1, h2⟩ := q; exact .lst (by simp) (.inl h1) (Ns h2 (by simpa only [cb] using z.1))
          | dk xs => obtain ⟨us, h1, h2, h3⟩ := q; exact .dk (by simp) (.inl h1) h2 (Ns h3 (cbs_iff.mpr fun d m => by obtain ⟨p, hp, rfl⟩ := List.mem_map.mp m; exact cbk_iff.mp (by simpa only [cb] using z.1) p hp))
          | dt xs => obtain ⟨us, h1, h2, h3⟩ := q; exact .dt (by simp) (.inl h1) h2 (Ns h3 (cbs_iff.mpr fun d m => by obtain ⟨p, hp, rfl⟩ := List.mem_map.mp m; exact cbt_iff.mp (by simpa only [cb] using z.1) p hp))
          | ins c xs => simp [cb] at z
    · have e : thawA st d = d := by
        cases d <;> first | rfl | exact absurd ⟨_, rfl⟩ hd
      rw [e] at z ⊢
      exact N r z.1
/-- a thing that stood nowhere, and all that stood stands -/
theorem Valid.and {H' : Hp} {st : Store} {p : Addr} (W : Valid L H fb cm st) (e : ∀ a u, H a = some u → H' a = some u) (hp : H p = none) (hq : ∃ u, H' p = some u) : Valid L H' (fb ++ [p]) cm st := by
  have hx : ∀ b ∈ [p], H b = none := fun b z => by rw [List.mem_singleton.mp z]; exact hp
  refine ⟨W.len, W.nd, fun a m => List.mem_append_left _ (W.sub a m), fun a m => ?_, fun n o q => ?_⟩
  · rcases List.mem_append.mp m with m | m
    · obtain ⟨u, h⟩ := W.trk a m
      exact ⟨u, e a u h⟩
    · rw [List.mem_singleton.mp m]; exact hq
  · obtain ⟨a, h1, h2⟩ := W.cells n o q
    obtain ⟨u, h3⟩ := h2.some
    exact ⟨a, h1, (h2.more hx).ext (fun b o _ => e b o) ((e a u h3).trans h3.symm)⟩
/-- from a world without cells -/
theorem po_call {fy fx : List Addr} {H' : Hp} {st s' : Store} {v : V} {r : R} {b b' : Nat} (W : Valid L H (fx ++ cm) cm st) (h : Po L fy b' H [] [] v r H' [] s') (hs : (∀ a ∈ fx ++ cm, a ∈ fy) ∨ flatR r = true) : Po L fx b H cm st v r H' cm st := by
  obtain ⟨p, q⟩ := h
  have e : ∀ a u, H a = some u → H' a = some u := fun a u h => p.step.ext a u (by simp) h
  refine ⟨.keep e, ?_⟩
  cases r with
  | v d =>
    refine ⟨W.keep e, ?_⟩
    rcases hs with hs | hs
    · exact (Rep.wide (cm := []) (ex := cm) (q.2)).less fun a m => List.mem_append_left _ (hs a m)
    · exact flat_any q.2 hs
  | n o =>
    obtain ⟨a, rfl, h1, h2, h3, h4⟩ := q
    have na : a ∉ fx ++ cm := fun m => by
      obtain ⟨u, hu⟩ := W.trk a m
      rw [h1] at hu
      cases hu
    refine ⟨a, rfl, h1, na, W.and e h1 h4.some, ?_⟩
    rcases hs with hs | hs
    · refine (ORep.wide (cm := []) (ex := cm) h4).less fun z m => ?_
      rcases List.mem_append.mp m with m | m
      · exact List.mem_append_left _ (List.mem_append_left _ (hs z m))
      · exact List.mem_append_right _ m
    · cases o with
      | lst ds =>
        obtain ⟨xs, h5, h6⟩ := h4
        exact ⟨xs, h5, flats_any h6 hs⟩
      | dk ds => cases hs
      | dt ds => cases hs
      | ins c ds => cases hs
end
end En

set_option Elab.async false
set_option linter.all false
set_option maxRecDepth 100000
set_option maxHeartbeats 1000000
namespace En
open PySem PySem.Spec PyProof.Rows L2

def wE (X : Cx) (e : Expr) : TE := fun σ H Q => ∀ (pins : List (Addr × Obj)) (s : Shared), Inv X pins σ H s → wpAny (model X.prog X.w) X.A (eval e X.env) (EP X pins σ Q) X.xe s
def wT (X : Cx) (e : Expr) : TT := fun σ H Q => ∀ (pins : List (Addr × Obj)) (s : Shared), Inv X pins σ H s → wpAny (model X.prog X.w) X.A (isTrue e X.env (eval e X.env)) (TP X pins σ Q) X.xe s
def wW (X : Cx) (e : Expr) : TT := fun σ H Q => ∀ (whole : Sem Value) (pins : List (Addr × Obj)) (s : Shared), Inv X pins σ H s → wpAny (model X.prog X.w) X.A (isTrue e X.env whole) (TP X pins σ Q) X.xe s
def wA (X : Cx) (es : List Expr) : TA := fun σ H Q => ∀ (pos : Pos) (pins : List (Addr × Obj)) (s : Shared), Inv X pins σ H s → wpAny (model X.prog X.w) X.A (spliced (backTo pos (starEach es X.env))) (AP X pins σ Q) X.xe s
def wS (X : Cx) (st : Stmt) : TS := fun D σ H => ∀ (pins : List (Addr × Obj)) (s : Shared), Inv X pins σ H s → wpAny (model X.prog X.w) X.A (exec st X.env) (SP X pins D) X.xe s
def wSs (X : Cx) (st : List Stmt) : TS := fun D σ H => ∀ (pins : List (Addr × Obj)) (s : Shared), Inv X pins σ H s → wpAny (model X.prog X.w) X.A (execs st X.env) (SP X pins D) X.xe s
def wG (X : Cx) (tg : Expr) : TG := fun v σ H Q => ∀ (pins : List (Addr × Obj)) (s : Shared) (u : Value), Inv X pins σ H s → RelV v u →
  wpAny (model X.prog X.w) X.A (assign tg X.env u) (fun _ s' => ∃ σ' H', Inv X pins σ' H' s' ∧ Q σ' H') X.xe s
def wGs (X : Cx) (ts : List Expr) : TGs := fun vs σ H Q => ∀ (pins : List (Addr × Obj)) (s : Shared) (us : List Value), Inv X pins σ H s → Vals vs us →
  wpAny (model X.prog X.w) X.A (assignInOrder ((assignEach ts X.env).map (·.2)) us) (fun _ s' => ∃ σ' H', Inv X pins σ' H' s' ∧ Q σ' H') X.xe s
def wI (X : Cx) (tg iter : Expr) : TI := fun σ H R => ∀ (pins : List (Addr × Obj)) (s : Shared), Inv X pins σ H s →
  wpAny (model X.prog X.w) X.A (eval iter X.env) (fun v s1 => wpAny (model X.prog X.w) X.A (pyIter v) (PIE X pins σ tg R) X.xe s1) X.xe s
section
variable {X : Cx} {σ : L2.St} {H : Hp}
theorem pe_w {e : Expr} : PE X e (wE X e) := ⟨fun pins s _ _ _ I h => h pins s I⟩
theorem pt_w {e : Expr} : PT X e (wT X e) := ⟨fun pins s _ _ _ I h => h pins s I⟩
theorem pw_w {e : Expr} : PW X e (wW X e) := ⟨fun whole pins s _ _ _ I h => h whole pins s I⟩
theorem pa_w {es : List Expr} : PA X es (wA X es) := ⟨fun pos pins s _ _ _ I h => h pos pins s I⟩
theorem ps_w {st : Stmt} : PS X st (wS X st) := ⟨fun pins s _ _ _ I h => h pins s I⟩
theorem pss_w {st : List Stmt} : PSs X st (wSs X st) := ⟨fun pins s _ _ _ I h => h pins s I⟩
theorem pg_w {tg : Expr} : PG X tg (wG X tg) := ⟨fun pins s _ _ _ u _ I r h => h pins s u I r⟩
theorem pi_w {tg iter : Expr} : PI X tg iter (wI X tg iter) := ⟨fun pins s _ _ _ I h => h pins s I⟩
theorem wE_of {e : Expr} {t : TE} {Q : VK} (h : PE X e t) (q : t σ H Q) : wE X e σ H Q := fun pins s I => h.run pins s σ H Q I q
theorem wT_of {e : Expr} {t : TT} {Q : Bool → Hp → Prop} (h : PT X e t) (q : t σ H Q) : wT X e σ H Q := fun pins s I => h.run pins s σ H Q I q
theorem wW_of {e : Expr} {t : TT} {Q : Bool → Hp → Prop} (h : PW X e t) (q : t σ H Q) : wW X e σ H Q := fun whole pins s I => h.run whole pins s σ H Q I q
theorem wA_of {es : List Expr} {t : TA} {Q : List V → Hp → Prop} (h : PA X es t) (q : t σ H Q) : wA X es σ H Q := fun pos pins s I => h.run pos pins s σ H Q I q
theorem wS_of {st : Stmt} {t : TS} {D : Ends} (h : PS X st t) (q : t D σ H) : wS X st D σ H := fun pins s I => h.run pins s σ H D I q
theorem wSs_of {st : List Stmt} {t : TS} {D : Ends} (h : PSs X st t) (q : t D σ H) : wSs X st D σ H := fun pins s I => h.run pins s σ H D I q
theorem wG_of {tg : Expr} {t : TG} {v : V} {Q : L2.St → Hp → Prop} (h : PG X tg t) (q : t v σ H Q) : wG X tg v σ H Q := fun pins s u I r => h.run pins s σ H v u Q I r q
theorem wI_of {tg iter : Expr} {t : TI} {R : It → Hp → Prop} (h : PI X tg iter t) (q : t σ H R) : wI X tg iter σ H R := fun pins s I => h.run pins s σ H R I q
end

def rW (X : Cx) (f : Value → Value → Sem Value) : R2 := fun x y H Q => ∀ (pins : List (Addr × Obj)) (s : Shared) (σ : L2.St) (v u : Value), Inv X pins σ H s → RelV x v → RelV y u → wpAny (model X.prog X.w) X.A (f v u) (EP X pins σ Q) X.xe s
theorem op_w {X : Cx} {f : Value → Value → Sem Value} : OpR X f (rW X f) := fun pins s σ H x y v u Q I r1 r2 h => h pins s σ v u I r1 r2
theorem rW_of {X : Cx} {f : Value → Value → Sem Value} {r : R2} {x y : V} {H : Hp} {Q : VK} (h : OpR X f r) (q : r x y H Q) : rW X f x y H Q := fun pins s σ v u I r1 r2 => h pins s σ H x y v u Q I r1 r2 q
def cW (X : Cx) (f : Value) : List V → Hp → VK → Prop := fun xs H Q => ∀ (pins : List (Addr × Obj)) (s : Shared) (σ : L2.St) (us : List Value), Inv X pins σ H s → Vals xs us → wpAny (model X.prog X.w) X.A (call f us) (EP X pins σ Q) X.xe s
theorem call_w {X : Cx} {f : Value} : CallR X f (cW X f) := fun pins s σ H xs us Q I r h => h pins s σ us I r
theorem cW_of {X : Cx} {f : Value} {r : List V → Hp → VK → Prop} {xs : List V} {H : Hp} {Q : VK} (h : CallR X f r) (q : r xs H Q) : cW X f xs H Q := fun pins s σ us I rv => h pins s σ H xs us Q I rv q
def truW (X : Cx) : V → Hp → (Bool → Hp → Prop) → Prop := fun x H Q => ∀ (pins : List (Addr × Obj)) (s : Shared) (σ : L2.St) (v : Value), Inv X pins σ H s → RelV x v → wpAny (model X.prog X.w) X.A (truthy v) (TP X pins σ Q) X.xe s
theorem tru_w {X : Cx} : TruR X (truW X) := fun pins s σ H x v Q I r h => h pins s σ v I r
theorem truW_of {X : Cx} {r : V → Hp → (Bool → Hp → Prop) → Prop} {x : V} {H : Hp} {Q : Bool → Hp → Prop} (h : TruR X r) (q : r x H Q) : truW X x H Q := fun pins s σ v I rv => h pins s σ H x v Q I rv q

def opOf : Op2 → Operator
  | .add => .Add | .sub => .Sub | .mul => .Mult | .fdiv => .FloorDiv | .mod => .Mod | .pow => .Pow | .shl => .LShift | .shr => .RShift | .band => .BitAnd | .bor => .BitOr | .bxor => .BitXor
def cmpOf : Cmp → CmpOp
  | .eq => .Eq | .ne => .NotEq | .lt => .Lt | .le => .LtE | .gt => .Gt | .ge => .GtE | .is_ => .Is | .isNot => .IsNot | .in_ => .In | .notIn => .NotIn

section
variable {X : Cx} {pins : List (Addr × Obj)} {σ : L2.St} {H : Hp} {s : Shared} {l : Addr} {xs : List V}
theorem lst_rd (I : Inv X pins σ H s) (h : Ql X.K H l xs) : xs.length ≤ sizeLine ∧ ∃ (its : List Value) (n : Nat), Vals xs its ∧ xs.length = its.length ∧ s.heap.get? l = some { cls := .type "list", data := .seq its.toArray n } := by
  rcases h with h | ⟨its, n, h1, h5, h6⟩
  · obtain ⟨z, its, n, r, e⟩ := (show ObjOk X.prog X.w H s.heap l (.lst xs) from h.ok I.hok)
    exact ⟨z, its, n, r, r.length, e⟩
  · have e := I.kIn _ _ h1
    exact ⟨by rw [h6.length]; simpa using h5, its.toList, n, h6, h6.length, by simpa using e⟩
end
def rCatR (K : PySem.W.Frag) : R2 := fun x y H Q => ∃ l b xs zs, x = .ref l ∧ y = .ref b ∧ Ql K H l xs ∧ Ql K H b zs ∧ xs.length + zs.length ≤ sizeLine ∧ ∀ p, H p = none → Q (.ref p) (upd H p (.lst (xs ++ zs)))
theorem op_catR {X : Cx} : OpR X (binaryOp .Add) (rCatR X.K) := by
  intro pins s σ H x y v u Q I rx ry h
  obtain ⟨l, b, xs, zs, rfl, rfl, hH, hB, hz, q⟩ := h
  cases rx
  cases ry
  obtain ⟨z, its, n, r, hl, e⟩ := lst_rd I hH
  obtain ⟨z2, its2, n2, r2, hl2, e2⟩ := lst_rd I hB
  refine PySem.P.add_list e e2 ?_ (by rw [List.size_toArray, List.size_toArray]; omega)
  have ea : its.toArray ++ its2.toArray = (its ++ its2).toArray := by simp
  rw [ea]
  exact ⟨.ref _, _, I.lnew (t' := s.toks) (r.append r2) (by rw [List.length_append]; omega), rfl, q _ I.fresh⟩
def rRepR (K : PySem.W.Frag) : R2 := fun x y H Q => ∃ l k xs, x = .ref l ∧ y = .int k ∧ Ql K H l xs ∧ -(2 ^ 63) ≤ k ∧ k < 2 ^ 63 ∧ xs.length * k.toNat ≤ sizeLine ∧
  ∀ p, H p = none → Q (.ref p) (upd H p (.lst (List.replicate k.toNat xs).flatten))
theorem rep_fold (its : List Value) (m : Nat) : List.foldl (fun x1 x2 => x1 ++ x2) #[] (List.replicate m its.toArray) = (List.replicate m its).flatten.toArray := by
  have q := foldl_rep its m []
  rw [List.nil_append] at q
  exact q
theorem op_repR {X : Cx} : OpR X (binaryOp .Mult) (rRepR X.K) := by
  intro pins s σ H x y v u Q I rx ry h
  obtain ⟨l, k, xs, rfl, rfl, hH, h1, h2, hz, q⟩ := h
  cases rx
  obtain ⟨t, rfl⟩ := ry
  obtain ⟨z, its, n, r, hl, e⟩ := lst_rd I hH
  have hlen : its.toArray.size * k.toNat ≤ sizeLine := by
    rw [List.size_toArray, ← hl]
    exact hz
  have c1 : ¬ its.toArray.size * k.toNat > (2 ^ 63 - 1) / 8 := by
    have c0 : (sizeLine : Nat) ≤ (2 ^ 63 - 1) / 8 := by decide
    omega
  have c2 : ¬ (!Builtin.List.listFitsIndex k) = true := by
    rw [fitsIndex_both h1 h2]
    exact Bool.false_ne_true
  have c3 : ¬ Builtin.List.listTooLong (its.toArray.size * k.toNat) = true := by
    rw [notLongL hlen]
    exact Bool.false_ne_true
  have c4 : List.foldl (fun x1 x2 => x1 ++ x2) #[] (List.replicate (if its.toArray.isEmpty = true then 0 else k.toNat) its.toArray) = (List.replicate k.toNat its).flatten.toArray := by
    rw [rep_fold]
    cases its with
    | nil => simp
    | cons a r' => rw [if_neg (by simp)]
  refine wpAny_binaryOp_repeat_ref (T := "list") (U := "int") (by decide) ⟨_, e, rfl⟩ (fun s' => typeIs_int s' k t) noFill_list_mul F.fills_int_mul F.slot_int_rmul repeat_list F.slot_int_index.lookup
    (call_meets F.slot_int_rmul (typeIs_int s k t) F.entry_int_rmul (F.args_int_rmul_2 _ _) (int___rmul___int_list k t l its.toArray n)
      ⟨e, rfl, ⟨_, e, rfl⟩, call_meets F.slot_list_mul ⟨_, e, rfl⟩ F.entry_list_mul (F.args_list_mul_2 _ _) (AutoListH.list___mul___list_int_3 l its.toArray n k t c2 c1 c3) ⟨e, ?_⟩⟩)
  rw [c4]
  exact ⟨.ref _, _, I.lnew (t' := s.toks) (r.rep k.toNat) (by rw [PyProof.Rows.lm_len_rep_flat, Nat.mul_comm]; exact hz), rfl, q _ I.fresh⟩

theorem le_line {n : Nat} (h : n ≤ 100000) : n ≤ sizeLine := Nat.le_trans h (by decide)
theorem lt_line {n : Nat} (h : n < 100000) : n < sizeLine := Nat.lt_of_lt_of_le h (by decide)
section
variable {L : Lk} {X : Cx} {b : Nat} {H : Hp} {fx cm : List Addr} {st : Store} {v1 v2 : V} {x y : D} {Q : VK}
theorem Reps.rep {vs : List V} {ds : List D} (h : Reps L H (fx ++ cm) cm vs ds) : ∀ k : Nat, Reps L H (fx ++ cm) cm (List.replicate k vs).flatten (List.replicate k ds).flatten
  | 0 => .nil
  | k + 1 => by
    rw [List.replicate_succ, List.replicate_succ, List.flatten_cons, List.flatten_cons]
    exact h.append (h.rep k)
theorem int_sound {o : Op2} {i j k : Int} (e : intOp o i j = some k) (q : Q (.int k) H) : rW X (binaryOp (opOf o)) (.int i) (.int j) H Q := by
  cases o <;> simp only [intOp, Option.some.injEq, Option.ite_none_right_eq_some, CMulD, CPowD, decide_eq_true_eq] at e
  case add => subst e; exact rW_of op_add ⟨i, j, rfl, rfl, q⟩
  case sub => subst e; exact rW_of op_sub ⟨i, j, rfl, rfl, q⟩
  case mul => obtain ⟨c, rfl⟩ := e; exact rW_of op_mul ⟨i, j, rfl, rfl, c, q⟩
  case fdiv => obtain ⟨c, rfl⟩ := e; exact rW_of op_fdivN ⟨i, j, rfl, rfl, c, q⟩
  case mod => obtain ⟨c, rfl⟩ := e; exact rW_of op_modN ⟨i, j, rfl, rfl, c, q⟩
  case pow => obtain ⟨c, rfl⟩ := e; exact rW_of op_pow ⟨i, j, rfl, rfl, c, q⟩
  case shl => obtain ⟨c, rfl⟩ := e; exact rW_of op_shl ⟨i, j, rfl, rfl, c, q⟩
  case shr => obtain ⟨c, rfl⟩ := e; exact rW_of op_shr ⟨i, j, rfl, rfl, c, q⟩
  case band => subst e; exact rW_of op_and ⟨i, j, rfl, rfl, q⟩
  case bor => subst e; exact rW_of op_or ⟨i, j, rfl, rfl, q⟩
  case bxor => subst e; exact rW_of op_xor ⟨i, j, rfl, rfl, q⟩
theorem tup_rep {k : Bool} {ds : List D} {v : V} {d : D} (h : Rep L H (fx ++ cm) cm v d) (z : isTupD d = true) (e : seqOf st d = some (k, ds)) : k = true ∧ d = .tup ds := by
  cases h <;> simp only [isTupD, reduceCtorEq] at z
  simp only [seqOf, Option.some.injEq, Prod.mk.injEq] at e
  obtain ⟨rfl, rfl⟩ := e
  exact ⟨rfl, rfl⟩
theorem seq_ref {k : Bool} {ds : List D} {d : D} (h1 : Rep L H (fx ++ cm) cm v1 d) {a : Addr} (e : v1 = .ref a) : Rep L H (fx ++ cm) cm (.ref a) d := e ▸ h1
theorem op_sound {o : Op2} {r : R} (hK : X.K = L.K) (e : opR o x y st = some r) (rx : Rep L H (fx ++ cm) cm v1 x) (ry : Rep L H (fx ++ cm) cm v2 y) (W : Valid L H (fx ++ cm) cm st)
    (k : ∀ v H', Po L fx b H cm st v r H' cm st → Q v H') : rW X (binaryOp (opOf o)) v1 v2 H Q := by
  unfold opR at e
  split at e
  · simp only [Option.map_eq_some_iff] at e
    obtain ⟨m, e, rfl⟩ := e
    cases rx
    cases ry
    exact int_sound e (k _ _ (po_val W (.int m)))
  · cases rx
    cases ry
    split at e
    · simp only [Option.ite_none_right_eq_some, Option.some.injEq] at e
      obtain ⟨e1, rfl⟩ := e
      exact rW_of op_add_str ⟨_, _, rfl, rfl, le_line e1, k _ _ (po_val W (.str _))⟩
    · cases e
  · split at e
    · split at e
      · rename_i xs ys h1 h2
        simp only [Option.ite_none_right_eq_some, Option.some.injEq] at e
        obtain ⟨e1, rfl⟩ := e
        obtain ⟨a1, us, rfl, r1, d1, _⟩ := seq_rep W rx h1
        obtain ⟨a2, ws, rfl, r2, d2, _⟩ := seq_rep W ry h2
        exact rW_of op_catR ⟨a1, a2, us, ws, rfl, rfl, hK ▸ d1 rfl, hK ▸ d2 rfl, by rw [r1.length, r2.length]; exact le_line e1, fun p hp => k _ _ (po_lst W (r1.append r2) hp)⟩
      · rename_i xs ys h1 h2
        simp only [Option.ite_none_right_eq_some, Option.some.injEq] at e
        obtain ⟨e1, rfl⟩ := e
        obtain ⟨a1, us, rfl, r1, _, d1⟩ := seq_rep W rx h1
        obtain ⟨a2, ws, rfl, r2, _, d2⟩ := seq_rep W ry h2
        have n1 : us = [] ↔ xs = [] := by
          have q := r1.nil_iff
          constructor <;> (rintro rfl; simpa using q)
        have n2 : ws = [] ↔ ys = [] := by
          have q := r2.nil_iff
          constructor <;> (rintro rfl; simpa using q)
        refine rW_of op_catA ⟨a1, a2, us, ws, rfl, rfl, hK ▸ d1 rfl, hK ▸ d2 rfl, by rw [r1.length, r2.length]; exact le_line e1.1, fun z => ?_, fun z z2 => ?_, fun _ _ p hp => k _ _ (po_tup W (r1.append r2) hp)⟩
        · have z' := n1.mp z
          subst z'
          simp only [List.isEmpty_nil, Bool.not_true, Bool.false_and, Bool.or_false, Bool.and_eq_true] at e1
          obtain ⟨_, q⟩ := tup_rep ry e1.2.2 h2
          exact k _ _ (po_val W (q ▸ ry))
        · have z' := n2.mp z2
          subst z'
          simp only [List.isEmpty_nil, Bool.not_true, Bool.and_false, Bool.or_false, Bool.and_eq_true] at e1
          obtain ⟨_, q⟩ := tup_rep rx e1.2.1 h1
          rw [List.append_nil] at k
          exact k _ _ (po_val W (q ▸ rx))
      · cases e
    · split at e
      · rename_i xs kk h1 f1 f2
        simp only [Option.ite_none_right_eq_some, Option.some.injEq, decide_eq_true_eq] at e
        obtain ⟨⟨e1, e2, e3⟩, rfl⟩ := e
        obtain ⟨a1, us, rfl, r1, d1, _⟩ := seq_rep W rx h1
        cases ry
        exact rW_of op_repR ⟨a1, kk, us, rfl, rfl, hK ▸ d1 rfl, e1, e2, by rw [r1.length]; exact le_line e3, fun p hp => k _ _ (po_lst W (r1.rep _) hp)⟩
      · cases e
    · cases e
theorem bl_case {e : Option Bool} {r : R} (h : e.map (fun k => R.v (.bl k)) = some r) : ∃ k, e = some k ∧ r = .v (.bl k) := by
  simp only [Option.map_eq_some_iff] at h
  obtain ⟨k, h1, h2⟩ := h
  exact ⟨k, h1, h2.symm⟩
theorem eq_sound {k : Bool} (hK : X.K = L.K) (hu : X.A.units + 64 < cLine) (e : eqD st x y = some k) (rx : Rep L H (fx ++ cm) cm v1 x) (ry : Rep L H (fx ++ cm) cm v2 y) (W : Valid L H (fx ++ cm) cm st) (q : Q (.bl k) H) :
    rW X (compareOp .Eq) v1 v2 H Q := by
  unfold eqD at e
  split at e
  · rename_i a c h1 h2
    simp only [Option.ite_none_right_eq_some, Option.some.injEq] at e
    obtain ⟨e1, rfl⟩ := e
    have z1 := flat_rep rx h1
    have z2 := flat_rep ry h2
    subst z1 z2
    exact rW_of op_eq ⟨e1, q⟩
  · simp only [Option.bind_eq_some_iff, Option.ite_none_right_eq_some, Option.some.injEq, Bool.and_eq_true] at e
    obtain ⟨p1, e1, p2, e2, ⟨s1, s2⟩, rfl⟩ := e
    exact rW_of (op_eqD hu) ⟨p1, p2, hK ▸ thaw_rep W rx e1, hK ▸ thaw_rep W ry e2, s1, s2, q⟩
theorem ne_sound {k : Bool} (hK : X.K = L.K) (hu : X.A.units + 64 < cLine) (e : eqD st x y = some k) (rx : Rep L H (fx ++ cm) cm v1 x) (ry : Rep L H (fx ++ cm) cm v2 y) (W : Valid L H (fx ++ cm) cm st) (q : Q (.bl !k) H) :
    rW X (compareOp .NotEq) v1 v2 H Q := by
  unfold eqD at e
  split at e
  · rename_i a c h1 h2
    simp only [Option.ite_none_right_eq_some, Option.some.injEq] at e
    obtain ⟨e1, rfl⟩ := e
    have z1 := flat_rep rx h1
    have z2 := flat_rep ry h2
    subst z1 z2
    exact rW_of op_ne ⟨e1, q⟩
  · simp only [Option.bind_eq_some_iff, Option.ite_none_right_eq_some, Option.some.injEq, Bool.and_eq_true] at e
    obtain ⟨p1, e1, p2, e2, ⟨s1, s2⟩, rfl⟩ := e
    exact rW_of (op_neD hu) ⟨p1, p2, hK ▸ thaw_rep W rx e1, hK ▸ thaw_rep W ry e2, s1, s2, q⟩
theorem isNon_rep (h : Rep L H (fx ++ cm) cm v1 x) : decide (v1 = .non) = isNon x := by
  cases h <;> simp [isNon]
theorem isNon_is (h : Rep L H (fx ++ cm) cm v1 x) (e : isNon x = true) : v1 = .non := by
  cases h <;> simp only [isNon, reduceCtorEq] at e
  rfl
/-- what a dict holds at a key -/
theorem dget_rep {o : Option D} {gd : Nat → List (Str × D)} (W : Valid L H (fx ++ cm) cm st) (rx : Rep L H (fx ++ cm) cm v1 x) (ry : Rep L H (fx ++ cm) cm v2 y) (g : ∀ j, x ≠ .gd j) (e : dget gd st x y = some o) :
    ∃ a u, v1 = .ref a ∧ IsD H a ∧ DGet H a v2 u ∧ (o = none → u = none) ∧ ∀ d, o = some d → ∃ v, u = some v ∧ Rep L H (fx ++ cm) cm v d := by
  unfold dget at e
  split at e
  · exact absurd rfl (g _)
  · split at e
    · rename_i kvs h1
      simp only [Option.map_eq_some_iff] at e
      obtain ⟨k, h2, rfl⟩ := e
      obtain ⟨a, ws, rfl, h3, h4, h5⟩ := dk_rep W rx h1
      have q := look_rep k h4 h5
      have z := key_rep ry h2
      subst z
      exact ⟨a, valV ws k, rfl, .inl ⟨ws, h3⟩, .inl ⟨ws, k, h3, rfl, rfl⟩, q.1, q.2⟩
    · split at e
      · rename_i kvs ks h1 h0
        simp only [Option.map_eq_some_iff] at e
        obtain ⟨k, h2, rfl⟩ := e
        obtain ⟨a, ws, rfl, h3, h4, h5⟩ := dt_rep W rx h0
        have q := look_rep k h4 h5
        cases ry with
        | tup n t r =>
          have z := keys_rep r h2
          subst z
          exact ⟨a, valV ws k, rfl, .inr ⟨ws, h3⟩, .inr ⟨ws, k, _, h3, rfl, t, rfl⟩, q.1, q.2⟩
      · cases e
theorem isSome_of {o : Option D} {u : Option V} (h1 : o = none → u = none) (h2 : ∀ d, o = some d → ∃ v, u = some v ∧ Rep L H (fx ++ cm) cm v d) : u.isSome = o.isSome := by
  cases o with
  | none => rw [h1 rfl]; rfl
  | some d =>
    obtain ⟨v, e, _⟩ := h2 d rfl
    rw [e]
    rfl
theorem in_sound {k : Bool} {gd : Nat → List (Str × D)} (hK : X.K = L.K) (hu : X.A.units + 1 < cLine) (e : inR gd x y st = some k) (rx : Rep L H (fx ++ cm) cm v1 x) (ry : Rep L H (fx ++ cm) cm v2 y) (W : Valid L H (fx ++ cm) cm st) (q : Q (.bl k) H) :
    rW X (compareOp .In) v1 v2 H Q := by
  unfold inR at e
  split at e
  · rename_i b' ds h1
    simp only [Option.bind_eq_some_iff, Option.map_eq_some_iff] at e
    obtain ⟨v, h2, vs, h3, rfl⟩ := e
    obtain ⟨a, us, rfl, r, d1, d2⟩ := seq_rep W ry h1
    have z := flat_rep rx h2
    subst z
    obtain ⟨rfl, z2⟩ := flats_rep r h3
    exact rW_of op_in_seq ⟨a, us, rfl, hK ▸ seq_or d1 d2, flat_isV h2, z2, q⟩
  · split at e
    · simp only [Option.some.injEq] at e
      subst e
      cases rx
      cases ry
      exact rW_of op_in_str ⟨_, _, rfl, rfl, q⟩
    · cases e
    · rename_i g g'
      simp only [Option.map_eq_some_iff] at e
      obtain ⟨o, h1, rfl⟩ := e
      obtain ⟨a, u, rfl, _, h3, h4, h5⟩ := dget_rep W ry rx (fun j z => g j z) h1
      rw [← isSome_of h4 h5] at q
      intro pins s σ v w I r1 r2
      cases r2
      exact d_in hu I h3 r1 fun s' I' => ⟨.bl u.isSome, H, I', rfl, q⟩
theorem notIn_sound {k : Bool} {gd : Nat → List (Str × D)} (hK : X.K = L.K) (hu : X.A.units + 1 < cLine) (e : inR gd x y st = some k) (rx : Rep L H (fx ++ cm) cm v1 x) (ry : Rep L H (fx ++ cm) cm v2 y) (W : Valid L H (fx ++ cm) cm st) (q : Q (.bl !k) H) :
    rW X (compareOp .NotIn) v1 v2 H Q := by
  unfold inR at e
  split at e
  · rename_i b' ds h1
    simp only [Option.bind_eq_some_iff, Option.map_eq_some_iff] at e
    obtain ⟨v, h2, vs, h3, rfl⟩ := e
    obtain ⟨a, us, rfl, r, d1, d2⟩ := seq_rep W ry h1
    have z := flat_rep rx h2
    subst z
    obtain ⟨rfl, z2⟩ := flats_rep r h3
    exact rW_of op_notIn_seq ⟨a, us, rfl, hK ▸ seq_or d1 d2, flat_isV h2, z2, q⟩
  · split at e
    · simp only [Option.some.injEq] at e
      subst e
      cases rx
      cases ry
      exact rW_of op_notin_str ⟨_, _, rfl, rfl, q⟩
    · cases e
    · rename_i g g'
      simp only [Option.map_eq_some_iff] at e
      obtain ⟨o, h1, rfl⟩ := e
      obtain ⟨a, u, rfl, _, h3, h4, h5⟩ := dget_rep W ry rx (fun j z => g j z) h1
      rw [← isSome_of h4 h5] at q
      intro pins s σ v w I r1 r2
      cases r2
      exact d_notIn hu I h3 r1 fun s' I' => ⟨.bl !u.isSome, H, I', rfl, q⟩
theorem ord_sound {c : Cmp} {i j : Int} {k : Bool} (e : intCmp c i j = some k) (q : Q (.bl k) H) : rW X (compareOp (cmpOf c)) (.int i) (.int j) H Q := by
  cases c <;> simp only [intCmp, Option.some.injEq, reduceCtorEq] at e
  case lt => subst e; exact rW_of op_lt ⟨i, j, rfl, rfl, q⟩
  case le => subst e; exact rW_of op_le ⟨i, j, rfl, rfl, q⟩
  case gt => subst e; exact rW_of op_gt ⟨i, j, rfl, rfl, q⟩
  case ge => subst e; exact rW_of op_ge ⟨i, j, rfl, rfl, q⟩
theorem lts_sound {c : Cmp} {k : Bool} (hK : X.K = L.K) (hu : X.A.units + 64 < cLine)
    (e : (match x, y with
      | .int i, .int j => intCmp c i j
      | .str i, .str j => if c = .lt then some (decide (i.cps.toList < j.cps.toList)) else none
      | .tup xs, .tup ys => if c = .lt then (intsOf xs).bind fun is => (intsOf ys).map fun js => HT.lexLt is js else none
      | _, _ => none) = some k) (rx : Rep L H (fx ++ cm) cm v1 x) (ry : Rep L H (fx ++ cm) cm v2 y) (W : Valid L H (fx ++ cm) cm st) (q : Q (.bl k) H) : rW X (compareOp (cmpOf c)) v1 v2 H Q := by
  split at e
  · cases rx
    cases ry
    exact ord_sound e q
  · cases rx
    cases ry
    simp only [Option.ite_none_right_eq_some, Option.some.injEq] at e
    obtain ⟨rfl, rfl⟩ := e
    exact rW_of op_lt_str ⟨_, _, rfl, rfl, q⟩
  · simp only [Option.ite_none_right_eq_some, Option.bind_eq_some_iff, Option.map_eq_some_iff] at e
    obtain ⟨rfl, is, h1, js, h2, rfl⟩ := e
    cases rx with
    | tup n1 t1 r1 =>
      cases ry with
      | tup n2 t2 r2 =>
        have z1 := ints_rep r1 h1
        have z2 := ints_rep r2 h2
        subst z1 z2
        exact rW_of (op_ltT (Nat.lt_of_le_of_lt (Nat.le_add_right _ 64) hu)) ⟨_, _, is, js, rfl, rfl, SqT.of t1, SqT.of t2, q⟩
  · cases e
theorem cmp_sound {c : Cmp} {k : Bool} {gd : Nat → List (Str × D)} (hK : X.K = L.K) (hu : X.A.units + 64 < cLine) (e : cmpR gd c x y st = some k) (rx : Rep L H (fx ++ cm) cm v1 x) (ry : Rep L H (fx ++ cm) cm v2 y) (W : Valid L H (fx ++ cm) cm st) (q : Q (.bl k) H) :
    rW X (compareOp (cmpOf c)) v1 v2 H Q := by
  have hu1 : X.A.units + 1 < cLine := by omega
  cases c
  case eq => exact eq_sound hK hu e rx ry W q
  case ne =>
    simp only [cmpR, Option.map_eq_some_iff] at e
    obtain ⟨k', e1, rfl⟩ := e
    exact ne_sound hK hu e1 rx ry W q
  case is_ =>
    simp only [cmpR, Option.ite_none_right_eq_some, Option.some.injEq] at e
    obtain ⟨e1, rfl⟩ := e
    exact rW_of op_isN ⟨isNon_is ry e1, by rw [isNon_rep rx]; exact q⟩
  case isNot =>
    simp only [cmpR, Option.ite_none_right_eq_some, Option.some.injEq] at e
    obtain ⟨e1, rfl⟩ := e
    exact rW_of op_notN ⟨isNon_is ry e1, by rw [isNon_rep rx]; exact q⟩
  case in_ => exact in_sound hK hu1 e rx ry W q
  case notIn =>
    simp only [cmpR, Option.map_eq_some_iff] at e
    obtain ⟨k', e1, rfl⟩ := e
    exact notIn_sound hK hu1 e1 rx ry W q
  case lt => exact lts_sound hK hu e rx ry W q
  case le => exact lts_sound hK hu e rx ry W q
  case gt => exact lts_sound hK hu e rx ry W q
  case ge => exact lts_sound hK hu e rx ry W q
end
end En

set_option Elab.async false
set_option linter.all false
set_option maxRecDepth 100000
set_option maxHeartbeats 1000000
namespace En
open PySem PySem.Spec PyProof.Rows L2

def xW (X : Cx) : R2 := fun x y H Q => ∀ (value slice : Expr) (pins : List (Addr × Obj)) (s : Shared) (σ : L2.St) (v u : Value), Inv X pins σ H s → RelV x v → RelV y u →
  subscripted slice false v u = operate [v, u] (getItem v u) → wpAny (model X.prog X.w) X.A (subscriptTail value slice v u) (EP X pins σ Q) X.xe s
theorem ix_w {X : Cx} : IxR X (xW X) := fun value slice pins s σ H x y v u Q I r1 r2 h hs => h value slice pins s σ v u I r1 r2 hs
theorem xW_of {X : Cx} {r : R2} {x y : V} {H : Hp} {Q : VK} (h : IxR X r) (q : r x y H Q) : xW X x y H Q := fun value slice pins s σ v u I r1 r2 hs => h value slice pins s σ H x y v u Q I r1 r2 q hs
def slW (X : Cx) : V → Option Int → Option Int → Hp → VK → Prop := fun x lo hi H Q => ∀ (pins : List (Addr × Obj)) (s : Shared) (σ : L2.St) (v vl vu : Value) (sl : Addr), Inv X pins σ H s → RelV x v → s.heap.IsSliceOf sl vl vu .none → IsPart vl lo → IsPart vu hi →
  ∃ T id, typeLookup (.type T) "__getitem__" = pure (some (.builtin id)) ∧ s.TypeIs v T ∧ wpAny (model X.prog X.w) X.A (getItem v (.ref sl)) (EP X pins σ Q) X.xe s
theorem sl_w {X : Cx} : SlR X (slW X) := fun pins s σ H x v vl vu lo hi sl Q I r1 h1 h2 h3 h => h pins s σ v vl vu sl I r1 h1 h2 h3
theorem slW_of {X : Cx} {r : V → Option Int → Option Int → Hp → VK → Prop} {x : V} {lo hi : Option Int} {H : Hp} {Q : VK} (h : SlR X r) (q : r x lo hi H Q) : slW X x lo hi H Q :=
  fun pins s σ v vl vu sl I r1 h1 h2 h3 => h pins s σ H x v vl vu lo hi sl Q I r1 h1 h2 h3 q
def mW (X : Cx) (id : String) : V → List V → Hp → VK → Prop := fun x xs H Q => ∀ (pins : List (Addr × Obj)) (s : Shared) (σ : L2.St) (v : Value) (us : List Value), Inv X pins σ H s → RelV x v → Vals xs us →
  wpAny (model X.prog X.w) X.A (call (.builtin id) (v :: us)) (EP X pins σ Q) X.xe s
theorem mt_w {X : Cx} {id : String} : MtR X id (mW X id) := fun pins s σ H x xs v us Q I r1 r2 h => h pins s σ v us I r1 r2
theorem mW_of {X : Cx} {id : String} {r : V → List V → Hp → VK → Prop} {x : V} {xs : List V} {H : Hp} {Q : VK} (h : MtR X id r) (q : r x xs H Q) : mW X id x xs H Q := fun pins s σ v us I r1 r2 => h pins s σ H x xs v us Q I r1 r2 q
def sW (X : Cx) : TSet := fun o i v H Q => ∀ (pins : List (Addr × Obj)) (s : Shared) (σ : L2.St) (ov iv u : Value), Inv X pins σ H s → RelV o ov → RelV i iv → RelV v u →
  wpAny (model X.prog X.w) X.A (setItem ov iv u) (fun _ s' => ∃ H', Inv X pins σ H' s' ∧ Q H') X.xe s
theorem set_w {X : Cx} : PSet X (sW X) := fun pins s σ H o i v ov iv u Q I r1 r2 r3 h => h pins s σ ov iv u I r1 r2 r3
theorem sW_of {X : Cx} {t : TSet} {o i v : V} {H : Hp} {Q : Hp → Prop} (h : PSet X t) (q : t o i v H Q) : sW X o i v H Q := fun pins s σ ov iv u I r1 r2 r3 => h pins s σ H o i v ov iv u Q I r1 r2 r3 q

section
variable {L : Lk} {X : Cx} {b : Nat} {H : Hp} {fx cm : List Addr} {st : Store} {v1 v2 : V} {x y : D} {Q : VK}
theorem emp_rep {vs : List V} {ds : List D} (r : Reps L H (fx ++ cm) cm vs ds) : (!vs.isEmpty) = !ds.isEmpty := by rw [r.nil_iff]
theorem emp_map {κ : Type} {xs : List (κ × V)} {ds : List (κ × D)} (e : xs.map (·.1) = ds.map (·.1)) : (!xs.isEmpty) = !ds.isEmpty := by
  cases xs <;> cases ds <;> first | rfl | simp at e
theorem tru_sound {k : Bool} {Qt : Bool → Hp → Prop} (hK : X.K = L.K) (e : tru st x = some k) (rx : Rep L H (fx ++ cm) cm v1 x) (W : Valid L H (fx ++ cm) cm st) (q : Qt k H) : truW X v1 H Qt := by
  have seq : ∀ (k' : Bool) (ds : List D), seqOf st x = some (k', ds) → (!ds.isEmpty) = k → truW X v1 H Qt := fun k' ds h1 h2 => by
    obtain ⟨a, us, rfl, r, d1, d2⟩ := seq_rep W rx h1
    rw [← h2, ← emp_rep r] at q
    refine truW_of tru_ok ⟨_, ?_, q⟩
    rcases seq_or d1 d2 with z | z
    · exact .inl ⟨us, hK ▸ z, rfl⟩
    · exact .inr (.inl ⟨us, hK ▸ z, rfl⟩)
  have dct : ∀ (ds : List (Key × D)), dkOf st x = some ds → (!ds.isEmpty) = k → truW X v1 H Qt := fun ds h1 h2 => by
    obtain ⟨a, kvs, rfl, r, d1, d2⟩ := dk_rep W rx h1
    rw [← h2, ← emp_map d1] at q
    intro pins s σ v I rv
    cases rv
    exact d_truth I r fun s' I' => ⟨H, I', q⟩
  unfold tru at e
  split at e
  · cases rx; cases e; exact truW_of tru_ok ⟨_, rfl, q⟩
  · cases rx; cases e; exact truW_of tru_ok ⟨_, rfl, q⟩
  · cases rx; cases e; exact truW_of tru_ok ⟨_, rfl, q⟩
  · cases rx
    simp only [Option.ite_none_right_eq_some, Option.some.injEq] at e
    exact truW_of tru_ok ⟨_, ⟨le_line e.1, rfl⟩, e.2 ▸ q⟩
  · split at e
    · rename_i k' ds h1
      exact seq k' ds h1 (Option.some.inj e)
    · simp only [Option.map_eq_some_iff] at e
      obtain ⟨kvs, h1, h2⟩ := e
      exact dct kvs h1 h2
theorem len_sound {n : Nat} (hK : X.K = L.K) (e : lenD st x = some n) (rx : Rep L H (fx ++ cm) cm v1 x) (W : Valid L H (fx ++ cm) cm st) (q : Q (.int n) H) : cW X (.builtin "len") [v1] H Q := by
  unfold lenD at e
  split at e
  · cases rx
    simp only [Option.ite_none_right_eq_some, Option.some.injEq] at e
    obtain ⟨e1, rfl⟩ := e
    exact cW_of call_len_str ⟨_, rfl, le_line e1, q⟩
  · split at e
    · rename_i k' ds h1
      simp only [Option.some.injEq] at e
      subst e
      obtain ⟨a, us, rfl, r, d1, d2⟩ := seq_rep W rx h1
      rw [← r.length] at q
      exact cW_of call_len_seq ⟨a, us, rfl, hK ▸ seq_or d1 d2, q⟩
    · simp only [Option.map_eq_some_iff] at e
      obtain ⟨kvs, h1, rfl⟩ := e
      obtain ⟨a, ws, rfl, r, d1, d2⟩ := dk_rep W rx h1
      have hl : ws.length = kvs.length := by
        have z := congrArg List.length d1
        simpa using z
      rw [← hl] at q
      intro pins s σ us I rv
      obtain ⟨u, rfl, ru⟩ := vals1 rv
      cases ru
      exact d_len I r fun t s' I' => ⟨.int ws.length, H, I', ⟨t, rfl⟩, q⟩

theorem atI_rep {vs : List V} {ds : List D} {i : Int} {d : D} (r : Reps L H (fx ++ cm) cm vs ds) (e : atI ds i = some d) : ∃ v, atI vs i = some v ∧ Rep L H (fx ++ cm) cm v d := by
  unfold atI at e ⊢
  rw [← r.length] at e
  simp only [Option.bind_eq_some_iff] at e ⊢
  obtain ⟨j, h1, h2⟩ := e
  obtain ⟨v, h3, h4⟩ := r.get h2
  exact ⟨v, ⟨j, h1, h3⟩, h4⟩
/-- what the program's dicts of the top hold -/
def GdOk (L : Lk) (w : World) (gd : Nat → List (Str × D)) : Prop :=
  ∀ (j : Nat) (z : Str) (d : D), lookK (gd j) z = some d → ∃ v, KDct L.K w (L.ga j) z v ∧ ∀ (H : Hp) (fb cm : List Addr), Rep L H fb cm v d
theorem dgetIx_sound {gd : Nat → List (Str × D)} {d : D} (hK : X.K = L.K) (hg : GdOk L X.w gd) (hu : X.A.units + 1 < cLine) (e : dget gd st x y = some (some d)) (rx : Rep L H (fx ++ cm) cm v1 x) (ry : Rep L H (fx ++ cm) cm v2 y) (W : Valid L H (fx ++ cm) cm st)
    (k : ∀ v, Rep L H (fx ++ cm) cm v d → Q v H) : xW X v1 v2 H Q := by
  by_cases g : ∃ j, x = .gd j
  · obtain ⟨j, rfl⟩ := g
    simp only [dget] at e
    split at e
    · rename_i z
      simp only [Option.map_eq_some_iff, Option.some.injEq, exists_eq_right] at e
      obtain ⟨v, h1, h2⟩ := hg j z d e
      cases rx
      cases ry
      exact xW_of ix_kdict ⟨_, z, v, rfl, rfl, hK ▸ h1, k v (h2 _ _ _)⟩
    · cases e
  · obtain ⟨a, u, rfl, _, h3, _, h5⟩ := dget_rep W rx ry (fun j z => g ⟨j, z⟩) e
    obtain ⟨v, rfl, rv⟩ := h5 d rfl
    intro value slice pins s σ w u I r1 r2 hs
    cases r1
    exact tail_any (dict_typeIs I h3) slot_dict_getitem.lookup (d_getItem hu I h3 r2 fun w' s' I' rw' => ⟨v, H, I', rw', k v rv⟩) hs
theorem ix_sound {gd : Nat → List (Str × D)} {r : R} (hK : X.K = L.K) (hg : GdOk L X.w gd) (hu : X.A.units + 1 < cLine) (e : ixR gd x y st = some r) (rx : Rep L H (fx ++ cm) cm v1 x) (ry : Rep L H (fx ++ cm) cm v2 y) (W : Valid L H (fx ++ cm) cm st)
    (k : ∀ v H', Po L fx b H cm st v r H' cm st → Q v H') : xW X v1 v2 H Q := by
  unfold ixR at e
  split at e
  · cases rx
    cases ry
    simp only [Option.ite_none_right_eq_some, Option.map_eq_some_iff] at e
    obtain ⟨e1, c, e2, rfl⟩ := e
    exact xW_of ix_str ⟨_, _, c, rfl, rfl, le_line e1, e2, k _ _ (po_val W (.str _))⟩
  · split at e
    · rename_i k' ds i h1 _
      simp only [Option.map_eq_some_iff] at e
      obtain ⟨d, e1, rfl⟩ := e
      obtain ⟨a, us, rfl, r, d1, d2⟩ := seq_rep W rx h1
      obtain ⟨v, h2, h3⟩ := atI_rep r e1
      cases ry
      cases k' with
      | false => exact xW_of ix_list ⟨a, us, i, v, rfl, rfl, (hK ▸ (d1 rfl).sq), h2, k _ _ (po_val W h3)⟩
      | true => exact xW_of ix_tup ⟨a, us, i, v, rfl, rfl, hK ▸ d2 rfl, h2, k _ _ (po_val W h3)⟩
    · split at e
      · rename_i d h1
        simp only [Option.some.injEq] at e
        subst e
        exact dgetIx_sound hK hg hu h1 rx ry W fun v rv => k _ _ (po_val W rv)
      · cases e
theorem cut_rep {vs : List V} {ds : List D} {lo hi : Option Int} (r : Reps L H (fx ++ cm) cm vs ds) :
    Reps L H (fx ++ cm) cm (cutV vs lo hi) ((ds.drop (HT.sIx ds.length 0 lo)).take (HT.sIx ds.length ds.length hi - HT.sIx ds.length 0 lo)) := by
  unfold cutV
  rw [r.length]
  exact (r.drop _).take _
theorem sl_sound {lo hi : Option Int} {r : R} (hK : X.K = L.K) (e : slR x lo hi st = some r) (rx : Rep L H (fx ++ cm) cm v1 x) (W : Valid L H (fx ++ cm) cm st) (k : ∀ v H', Po L fx b H cm st v r H' cm st → Q v H') : slW X v1 lo hi H Q := by
  unfold slR at e
  split at e
  · rename_i ds h1
    simp only [Option.some.injEq] at e
    subst e
    obtain ⟨a, us, rfl, r, d1, d2⟩ := seq_rep W rx h1
    exact slW_of sl_list ⟨a, us, rfl, (hK ▸ (d1 rfl).sq), fun p hp => k _ _ (po_lst W (cut_rep r) hp)⟩
  · rename_i ds h1
    obtain ⟨a, us, rfl, r, d1, d2⟩ := seq_rep W rx h1
    refine slW_of sl_tupA ⟨a, us, rfl, hK ▸ d2 rfl, fun z => ?_, fun z p hp => ?_⟩
    · rw [r.length] at z
      split at e
      · rename_i z2
        rcases z2 with z2 | z2
        · obtain ⟨_, z3⟩ := tup_rep rx z2 h1
          simp only [Option.some.injEq] at e
          subst e
          refine k _ _ (po_val W ?_)
          rw [z.1, z.2, List.drop_zero, Nat.sub_zero, List.take_length]
          exact z3 ▸ rx
        · exact absurd z z2
      · simp only [Option.some.injEq] at e
        subst e
        exact k _ _ (po_val W rx)
    · rw [r.length] at z
      rw [if_pos (.inr z)] at e
      simp only [Option.some.injEq] at e
      subst e
      exact k _ _ (po_tup W (cut_rep r) hp)
  · cases e

def bltV : Blt → Value
  | .len => .builtin "len" | .abs => .builtin "abs" | .max2 => .builtin "max" | .min2 => .builtin "min" | .int1 => .type "int" | .sum => .builtin "sum" | .maxL => .builtin "max" | .minL => .builtin "min"
  | .any => .builtin "any" | .all => .builtin "all" | .sorted => .builtin "sorted" | .list => .type "list" | .tuple => .type "tuple" | .str => .type "str" | .range_ => .type "range"
theorem foldl_max_le : ∀ (xs : List Int) (x : Int), x ≤ xs.foldl max x ∧ (∀ y ∈ xs, y ≤ xs.foldl max x) ∧ (xs.foldl max x = x ∨ xs.foldl max x ∈ xs)
  | [], x => ⟨Int.le_refl _, by simp, .inl rfl⟩
  | z :: xs, x => by
    obtain ⟨h1, h2, h3⟩ := foldl_max_le xs (max x z)
    simp only [List.foldl_cons, List.mem_cons, forall_eq_or_imp]
    refine ⟨Int.le_trans (Int.le_max_left _ _) h1, ⟨Int.le_trans (Int.le_max_right _ _) h1, h2⟩, ?_⟩
    rcases h3 with h3 | h3
    · rcases Int.le_total x z with q | q
      · exact .inr (.inl (by rw [h3]; exact Int.max_eq_right q))
      · exact .inl (by rw [h3]; exact Int.max_eq_left q)
    · exact .inr (.inr h3)
theorem foldl_min_le : ∀ (xs : List Int) (x : Int), xs.foldl min x ≤ x ∧ (∀ y ∈ xs, xs.foldl min x ≤ y) ∧ (xs.foldl min x = x ∨ xs.foldl min x ∈ xs)
  | [], x => ⟨Int.le_refl _, by simp, .inl rfl⟩
  | z :: xs, x => by
    obtain ⟨h1, h2, h3⟩ := foldl_min_le xs (min x z)
    simp only [List.foldl_cons, List.mem_cons, forall_eq_or_imp]
    refine ⟨Int.le_trans h1 (Int.min_le_left _ _), ⟨Int.le_trans h1 (Int.min_le_right _ _), h2⟩, ?_⟩
    rcases h3 with h3 | h3
    · rcases Int.le_total x z with q | q
      · exact .inl (by rw [h3]; exact Int.min_eq_left q)
      · exact .inr (.inl (by rw [h3]; exact Int.min_eq_right q))
    · exact .inr (.inr h3)
theorem maxI_is {ns : List Int} {m : Int} (h : maxI ns = some m) : 0 < ns.length ∧ m ∈ ns ∧ ∀ y ∈ ns, y ≤ m := by
  cases ns with
  | nil => cases h
  | cons x xs =>
    simp only [maxI, Option.some.injEq] at h
    subst h
    obtain ⟨h1, h2, h3⟩ := foldl_max_le xs x
    refine ⟨Nat.succ_pos _, ?_, ?_⟩
    · rcases h3 with h3 | h3
      · rw [h3]; exact List.mem_cons_self
      · exact List.mem_cons_of_mem _ h3
    · simp only [List.mem_cons, forall_eq_or_imp]
      exact ⟨h1, h2⟩
theorem minI_is {ns : List Int} {m : Int} (h : minI ns = some m) : 0 < ns.length ∧ m ∈ ns ∧ ∀ y ∈ ns, m ≤ y := by
  cases ns with
  | nil => cases h
  | cons x xs =>
    simp only [minI, Option.some.injEq] at h
    subst h
    obtain ⟨h1, h2, h3⟩ := foldl_min_le xs x
    refine ⟨Nat.succ_pos _, ?_, ?_⟩
    · rcases h3 with h3 | h3
      · rw [h3]; exact List.mem_cons_self
      · exact List.mem_cons_of_mem _ h3
    · simp only [List.mem_cons, forall_eq_or_imp]
      exact ⟨h1, h2⟩
theorem reps1 {vs : List V} (h : Reps L H (fx ++ cm) cm vs [x]) : ∃ v, vs = [v] ∧ Rep L H (fx ++ cm) cm v x := by
  cases h with
  | cons r t => cases t; exact ⟨_, rfl, r⟩
theorem reps2 {vs : List V} (h : Reps L H (fx ++ cm) cm vs [x, y]) : ∃ v w, vs = [v, w] ∧ Rep L H (fx ++ cm) cm v x ∧ Rep L H (fx ++ cm) cm w y := by
  cases h with
  | cons r t => cases t with
    | cons r2 t => cases t; exact ⟨_, _, rfl, r, r2⟩
theorem blt_sound {f : Blt} {xs : List D} {vs : List V} {r : R} (hK : X.K = L.K) (hc : X.calm = true) (e : bltR f xs st = some r) (rs : Reps L H (fx ++ cm) cm vs xs) (W : Valid L H (fx ++ cm) cm st)
    (k : ∀ v H', Po L fx b H cm st v r H' cm st → Q v H') : cW X (bltV f) vs H Q := by
  unfold bltR at e
  split at e
  · obtain ⟨v, rfl, rv⟩ := reps1 rs
    simp only [Option.map_eq_some_iff] at e
    obtain ⟨n, e1, rfl⟩ := e
    exact len_sound hK e1 rv W (k _ _ (po_val W (.int _)))
  · obtain ⟨v, rfl, rv⟩ := reps1 rs
    cases rv
    cases e
    exact cW_of call_abs ⟨_, rfl, k _ _ (po_val W (.int _))⟩
  · obtain ⟨v, w, rfl, rv, rw_⟩ := reps2 rs
    cases rv
    cases rw_
    cases e
    exact cW_of (call_max2 hc) ⟨_, _, rfl, k _ _ (po_val W (.int _))⟩
  · obtain ⟨v, w, rfl, rv, rw_⟩ := reps2 rs
    cases rv
    cases rw_
    cases e
    exact cW_of (call_min2 hc) ⟨_, _, rfl, k _ _ (po_val W (.int _))⟩
  · obtain ⟨v, rfl, rv⟩ := reps1 rs
    cases rv
    cases e
    exact cW_of call_int1 (.inl ⟨_, rfl, k _ _ (po_val W (.int _))⟩)
  · obtain ⟨v, rfl, rv⟩ := reps1 rs
    cases rv
    cases e
    exact cW_of call_int1 (.inr ⟨_, rfl, k _ _ (po_val W (.int _))⟩)
  · obtain ⟨v, rfl, rv⟩ := reps1 rs
    split at e
    · rename_i ds h1
      simp only [Option.map_eq_some_iff] at e
      obtain ⟨ns, e1, rfl⟩ := e
      obtain ⟨a, us, rfl, r, d1, d2⟩ := seq_rep W rv h1
      have z := ints_rep r e1
      subst z
      exact cW_of (cr_sum hc) ⟨a, ns, rfl, (hK ▸ (d1 rfl).sq), k _ _ (po_val W (.int _))⟩
    · cases e
  · obtain ⟨v, rfl, rv⟩ := reps1 rs
    split at e
    · rename_i ds h1
      simp only [Option.bind_eq_some_iff, Option.map_eq_some_iff] at e
      obtain ⟨ns, e1, m, e2, rfl⟩ := e
      obtain ⟨a, us, rfl, r, d1, d2⟩ := seq_rep W rv h1
      have z := ints_rep r e1
      subst z
      obtain ⟨l0, l1, l2⟩ := maxI_is e2
      refine cW_of (cr_max hc) ⟨a, ns, rfl, (hK ▸ (d1 rfl).sq), l0, fun m' m1 m2 => ?_⟩
      have z : m' = m := Int.le_antisymm (l2 m' m1) (m2 m l1)
      subst z
      exact k _ _ (po_val W (.int _))
    · cases e
  · obtain ⟨v, rfl, rv⟩ := reps1 rs
    split at e
    · rename_i ds h1
      simp only [Option.bind_eq_some_iff, Option.map_eq_some_iff] at e
      obtain ⟨ns, e1, m, e2, rfl⟩ := e
      obtain ⟨a, us, rfl, r, d1, d2⟩ := seq_rep W rv h1
      have z := ints_rep r e1
      subst z
      obtain ⟨l0, l1, l2⟩ := minI_is e2
      refine cW_of (cr_min hc) ⟨a, ns, rfl, (hK ▸ (d1 rfl).sq), l0, fun m' m1 m2 => ?_⟩
      have z : m' = m := Int.le_antisymm (m2 m l1) (l2 m' m1)
      subst z
      exact k _ _ (po_val W (.int _))
    · cases e
  · obtain ⟨v, rfl, rv⟩ := reps1 rs
    split at e
    · rename_i ds h1
      simp only [Option.map_eq_some_iff] at e
      obtain ⟨ns, e1, rfl⟩ := e
      obtain ⟨a, us, rfl, r, d1, d2⟩ := seq_rep W rv h1
      have z := bls_rep r e1
      subst z
      exact cW_of (cr_any hc) ⟨a, ns, rfl, (hK ▸ (d1 rfl).sq), k _ _ (po_val W (.bl _))⟩
    · cases e
  · obtain ⟨v, rfl, rv⟩ := reps1 rs
    split at e
    · rename_i ds h1
      simp only [Option.map_eq_some_iff] at e
      obtain ⟨ns, e1, rfl⟩ := e
      obtain ⟨a, us, rfl, r, d1, d2⟩ := seq_rep W rv h1
      have z := bls_rep r e1
      subst z
      exact cW_of (cr_all hc) ⟨a, ns, rfl, (hK ▸ (d1 rfl).sq), k _ _ (po_val W (.bl _))⟩
    · cases e
  · obtain ⟨v, rfl, rv⟩ := reps1 rs
    split at e
    · rename_i k' ds h1
      simp only [Option.some.injEq] at e
      subst e
      obtain ⟨a, us, rfl, r, d1, d2⟩ := seq_rep W rv h1
      exact cW_of call_list_of ⟨a, us, rfl, hK ▸ seq_or d1 d2, fun p hp => k _ _ (po_lst W r hp)⟩
    · cases e
  · obtain ⟨v, rfl, rv⟩ := reps1 rs
    split at e
    · rename_i k' ds h1
      obtain ⟨a, us, rfl, r, d1, d2⟩ := seq_rep W rv h1
      cases k' with
      | false =>
        rw [if_pos (.inl rfl)] at e
        simp only [Option.some.injEq] at e
        subst e
        exact cW_of call_tuple_of ⟨a, us, rfl, .inl ⟨hK ▸ (d1 rfl).sq, fun p hp => k _ _ (po_tup W r hp)⟩⟩
      | true =>
        refine cW_of call_tuple_of ⟨a, us, rfl, .inr ⟨hK ▸ d2 rfl, ?_⟩⟩
        split at e
        · rename_i z
          simp only [reduceCtorEq, false_or] at z
          obtain ⟨_, z3⟩ := tup_rep rv z h1
          simp only [Option.some.injEq] at e
          subst e
          exact k _ _ (po_val W (z3 ▸ rv))
        · simp only [Option.some.injEq] at e
          subst e
          exact k _ _ (po_val W rv)
    · cases e
  · obtain ⟨v, rfl, rv⟩ := reps1 rs
    cases rv
    simp only [Option.ite_none_right_eq_some, Option.some.injEq] at e
    obtain ⟨e1, rfl⟩ := e
    exact cW_of call_str_int ⟨_, rfl, e1, k _ _ (po_val W (.str _))⟩
  · cases e

def tyN : Ty → String
  | .non => "NoneType" | .bool => "bool" | .int => "int" | .str => "str" | .tuple => "tuple" | .list => "list" | .dict => "dict" | .own _ => "object"
theorem kit_all (K : PySem.W.Frag) {u t : Ty} (h1 : u.isB = true) (h2 : t.isB = true) : PySem.W.kitOne K (.type (tyN u)) (.type (tyN t)) = some (isTy u t) := by
  cases u <;> simp only [Ty.isB, Bool.false_eq_true, reduceCtorEq] at h1 <;> cases t <;> simp only [Ty.isB, Bool.false_eq_true, reduceCtorEq] at h2 <;> exact kit_ty (by decide +kernel)
theorem ty_rep {u : Ty} (h1 : u.isB = true) (e : tyOf st x = some u) (rx : Rep L H (fx ++ cm) cm v1 x) (W : Valid L H (fx ++ cm) cm st) : TyX L.K H v1 (.type (tyN u)) := by
  have l0 : ∀ {a : Addr} {xs : List V}, Rd H a (.lst xs) → TyX L.K H (.ref a) (.type "list") := fun {a xs} t => by
    rcases t with t | ⟨o, t⟩
    · exact .base (.lst t)
    · exact .base (.frz t)
  have d0 : ∀ {a : Addr} {xs : List (Key × V)}, Rd H a (.dK xs) → TyX L.K H (.ref a) (.type "dict") := fun {a xs} t => by
    rcases t with t | ⟨o, t⟩
    · exact .base (.dK t)
    · exact .fDict t
  cases rx with
  | non => cases e; exact .base .non
  | bl b => cases e; exact .base (.bl b)
  | int b => cases e; exact .base (.int b)
  | str b => cases e; exact .base (.str b)
  | tup n t r => cases e; exact .base (.tup t)
  | lst n t r => cases e; exact l0 t
  | dk n t q r => cases e; exact d0 t
  | dt n t q r => cases e
  | obj n t q r => cases e; cases h1
  | gd j => cases e
  | kl n r =>
    cases e
    obtain ⟨its, m, h1, _⟩ := n
    exact .kList h1 rfl
  | kt n r =>
    cases e
    obtain ⟨o, its, m, h1, h2, _⟩ := n
    exact .kTuple h1 h2
  | cell c =>
    simp only [tyOf] at e
    split at e
    · rename_i ds h2
      cases e
      obtain ⟨xs, h3, _⟩ := W.cell h2 c
      exact l0 (.inl h3)
    · rename_i ds h2
      cases e
      obtain ⟨xs, h3, _⟩ := W.cell h2 c
      exact d0 (.inl h3)
    · rename_i ds h2
      cases e
      obtain ⟨xs, h3, _⟩ := W.cell h2 c
      exact .base (.dT h3)
    · cases e; cases h1
    · cases e
theorem isin_sound {u t : Ty} (hK : X.K = L.K) (h1 : u.isB = true) (h2 : t.isB = true) (e : tyOf st x = some u) (rx : Rep L H (fx ++ cm) cm v1 x) (W : Valid L H (fx ++ cm) cm st) (q : Q (.bl (isTy u t)) H) :
    cW X (.builtin "isinstance") [v1, .ty (tyN t)] H Q := by
  refine cW_of call_isi ⟨v1, _, .type (tyN u), .type (tyN t), isTy u t, rfl, .ty _, ?_, kit_all _ h1 h2, q⟩
  rw [hK]
  exact ty_rep h1 e rx W

theorem onLst_is {d w : D} {f : List D → Option (D × List D)} {r : R} {st' : Store} (e : onLst b st d f w = .ok r st') :
    ∃ n ds q ds', d = .cell n ∧ st[n]? = some (.lst ds) ∧ f ds = some (q, ds') ∧ (b ≤ n ∨ cb 0 w = true) ∧ ds'.length ≤ 100000 ∧ r = .v q ∧ st' = st.set n (.lst ds') := by
  unfold onLst at e
  split at e
  · split at e
    · split at e
      · rename_i h1 _ _ _ h2
        split at e
        · rename_i h3
          simp only [okW, Bool.and_eq_true, Bool.or_eq_true, decide_eq_true_eq] at h3
          cases e
          exact ⟨_, _, _, _, rfl, h1, h2, h3.1, h3.2, rfl, rfl⟩
        · cases e
      · cases e
    · cases e
  · cases e
theorem cell_at {n : Nat} {o : O} (W : Valid L H (fx ++ cm) cm st) (rx : Rep L H (fx ++ cm) cm v1 (.cell n)) (h : st[n]? = some o) : ∃ a, v1 = .ref a ∧ cm[n]? = some a ∧ a ∈ cm ∧ ORep L H (fx ++ cm) cm a o := by
  cases rx with
  | cell c => exact ⟨_, rfl, c, List.mem_of_getElem? c, W.cell h c⟩
/-- a list in a cell is changed -/
theorem wr_lst {n : Nat} {a : Addr} {ds ds' : List D} {xs' : List V} {q : D} {v : V} (W : Valid L H (fx ++ cm) cm st) (hn : st[n]? = some (.lst ds)) (ha : cm[n]? = some a) (r : Reps L H (fx ++ cm) cm xs' ds') (rq : Rep L H (fx ++ cm) cm v q)
    (hw : b ≤ n ∨ ∀ d ∈ ds', d ∈ ds ∨ cb 0 d = true) : Po L fx b H cm st v (.v q) (upd H a (.lst xs')) cm (st.set n (.lst ds')) := by
  have m : a ∈ cm := List.mem_of_getElem? ha
  obtain ⟨s, W'⟩ := wr_ok (b := b) (u := .lst xs') W hn ha (o' := .lst ds') ⟨xs', upd_same, r.ext (ext_cell m)⟩ (hw.imp id fun h b' q => by
    simp only [cbO, cbs_iff] at q ⊢
    exact fun d hd => (h d hd).elim (q d) fun z => cb_mono (Nat.zero_le _) d z)
  exact ⟨s, W', rq.ext (ext_cell m)⟩
def rExtR (K : PySem.W.Frag) : V → List V → Hp → VK → Prop := fun x vs H Q => ∃ l b xs zs, x = .ref l ∧ vs = [.ref b] ∧ H l = some (.lst xs) ∧ Ql K H b zs ∧ xs.length + zs.length ≤ sizeLine ∧ Q .non (upd H l (.lst (xs ++ zs)))
theorem mt_extR {X : Cx} : MtR X "list.extend" (rExtR X.K) := by
  intro pins s σ H x vs v us Q I rx rv h
  obtain ⟨l, b, xs, zs, rfl, rfl, hH, hB, hz, q⟩ := h
  cases rx
  obtain ⟨u, rfl, ru⟩ := rv.one
  cases ru
  obtain ⟨z, its, n, r, hl, e⟩ := lst_rd I (.inl (.inl hH))
  obtain ⟨z2, its2, n2, r2, hl2, e2⟩ := lst_rd I hB
  have sz : its.toArray.size + its2.toArray.size ≤ sizeLine := by
    rw [List.size_toArray, List.size_toArray]
    omega
  have ln : ¬ (!its.toArray.isEmpty && Builtin.List.listTooLong (its.toArray.size + its2.toArray.size)) = true := by
    rw [notLongL sz, Bool.and_false]
    exact Bool.false_ne_true
  refine call_meets F.slot_list_extend ⟨_, e, rfl⟩ F.entry_list_extend (F.args_list_extend_2 _ _)
    (AutoSeq1.list_extend_list_list_0 l its.toArray n b its2.toArray n2 ln (by rw [List.size_toArray]; omega) (by omega)) ⟨e, e2, ?_⟩
  refine ⟨.non, _, I.lset (its' := its ++ its2) hH e (by simp) (r.append r2) ?_, rfl, q⟩
  rw [List.length_append]
  omega
theorem firstEq_is {v : V} : ∀ {vs : List V} {j : Nat}, firstEq v vs = some j → ∃ z, vs[j]? = some z ∧ eqV z v = true ∧ ∀ m z', m < j → vs[m]? = some z' → eqV z' v = false
  | [], j, e => by cases e
  | x :: xs, j, e => by
    simp only [firstEq] at e
    split at e
    · rename_i h
      cases e
      exact ⟨x, rfl, h, fun m z' hm => absurd hm (Nat.not_lt_zero _)⟩
    · rename_i h
      simp only [Option.map_eq_some_iff] at e
      obtain ⟨j', e1, rfl⟩ := e
      obtain ⟨z, h1, h2, h3⟩ := firstEq_is e1
      refine ⟨z, by simpa using h1, h2, fun m z' hm hz => ?_⟩
      cases m with
      | zero =>
        simp only [List.getElem?_cons_zero, Option.some.injEq] at hz
        subst hz
        simpa using h
      | succ m => exact h3 m z' (by omega) (by simpa using hz)
def mtI : Mt → String
  | .append => "list.append" | .pop0 => "list.pop" | .popAt => "list.pop" | .extend => "list.extend" | .reverse => "list.reverse" | .clear => "list.clear" | .index => "list.index" | .get1 => "dict.get" | .get2 => "dict.get" | .insert => "list.insert"
def Mt.isL : Mt → Bool
  | .get1 => false | .get2 => false | .insert => false | _ => true
theorem mem_drop {d : D} {ds : List D} (h : d ∈ ds.dropLast) : d ∈ ds := (List.dropLast_sublist ds).subset h
theorem mt_sound {m : Mt} {gd : Nat → List (Str × D)} {xs : List D} {vs : List V} {r : R} {st' : Store} (hK : X.K = L.K) (hm : m.isL = true) (e : mtR gd b m x xs st = .ok r st') (rx : Rep L H (fx ++ cm) cm v1 x) (rs : Reps L H (fx ++ cm) cm vs xs) (W : Valid L H (fx ++ cm) cm st)
    (k : ∀ v H', Po L fx b H cm st v r H' cm st' → Q v H') : mW X (mtI m) v1 vs H Q := by
  unfold mtR at e
  split at e
  · obtain ⟨v, rfl, rv⟩ := reps1 rs
    obtain ⟨n, ds, q, ds', rfl, hn, hf, hw, hl, rfl, rfl⟩ := onLst_is e
    obtain ⟨a, rfl, ha, m, us, h1, ru⟩ := cell_at W rx hn
    simp only [Option.some.injEq, Prod.mk.injEq] at hf
    obtain ⟨rfl, rfl⟩ := hf
    refine mW_of mt_append ⟨a, us, v, rfl, rfl, h1, ?_, k _ _ (wr_lst W hn ha (ru.append (.one rv)) .non (hw.imp id fun z d hd => ?_))⟩
    · rw [List.length_append, List.length_singleton] at hl
      rw [ru.length]
      exact lt_line (by omega)
    · rcases List.mem_append.mp hd with z2 | z2
      · exact .inl z2
      · rw [List.mem_singleton.mp z2]
        exact .inr z
  · cases rs
    obtain ⟨n, ds, q, ds', rfl, hn, hf, hw, hl, rfl, rfl⟩ := onLst_is e
    obtain ⟨a, rfl, ha, m, us, h1, ru⟩ := cell_at W rx hn
    simp only [Option.map_eq_some_iff, Prod.mk.injEq] at hf
    obtain ⟨d, h2, rfl, rfl⟩ := hf
    obtain ⟨v, h3, h4⟩ := ru.get h2
    refine mW_of mt_pop ⟨a, us, v, rfl, rfl, h1, by rw [ru.length]; exact h3, k _ _ (wr_lst W hn ha ru.dropLast h4 (hw.imp id fun z d hd => .inl (mem_drop hd)))⟩
  · obtain ⟨v, rfl, rv⟩ := reps1 rs
    cases rv
    obtain ⟨n, ds, q, ds', rfl, hn, hf, hw, hl, rfl, rfl⟩ := onLst_is e
    obtain ⟨a, rfl, ha, m, us, h1, ru⟩ := cell_at W rx hn
    simp only [Option.ite_none_right_eq_some, decide_eq_true_eq, Option.bind_eq_some_iff, Option.map_eq_some_iff, Prod.mk.injEq] at hf
    obtain ⟨hi, j, hj, d, h2, rfl, rfl⟩ := hf
    obtain ⟨v, h3, h4⟩ := ru.get h2
    rw [← ru.length] at hj
    refine mW_of mt_popAt ⟨a, us, _, j, v, rfl, rfl, h1, hi.1, hi.2, (ixN_seq hj).1, h3, k _ _ (wr_lst W hn ha (ru.eraseIdx j) h4 (hw.imp id fun z d hd => .inl (List.mem_of_mem_eraseIdx hd)))⟩
  · cases rs
    obtain ⟨n, ds, q, ds', rfl, hn, hf, hw, hl, rfl, rfl⟩ := onLst_is e
    obtain ⟨a, rfl, ha, m, us, h1, ru⟩ := cell_at W rx hn
    simp only [Option.some.injEq, Prod.mk.injEq] at hf
    obtain ⟨rfl, rfl⟩ := hf
    exact mW_of mt_reverse ⟨a, us, rfl, rfl, h1, k _ _ (wr_lst W hn ha ru.reverse .non (hw.imp id fun z d hd => .inl (List.mem_reverse.mp hd)))⟩
  · cases rs
    obtain ⟨n, ds, q, ds', rfl, hn, hf, hw, hl, rfl, rfl⟩ := onLst_is e
    obtain ⟨a, rfl, ha, m, us, h1, ru⟩ := cell_at W rx hn
    simp only [Option.some.injEq, Prod.mk.injEq] at hf
    obtain ⟨rfl, rfl⟩ := hf
    exact mW_of mt_clear ⟨a, us, rfl, rfl, h1, k _ _ (wr_lst W hn ha .nil .non (hw.imp id fun z d hd => by cases hd))⟩
  · obtain ⟨v, rfl, rv⟩ := reps1 rs
    split at e
    · rename_i es h0
      obtain ⟨c, ws, rfl, rw_, e1, _⟩ := seq_rep W rv h0
      obtain ⟨n, ds, q, ds', rfl, hn, hf, hw, hl, rfl, rfl⟩ := onLst_is e
      obtain ⟨a, rfl, ha, m, us, h1, ru⟩ := cell_at W rx hn
      simp only [Option.some.injEq, Prod.mk.injEq] at hf
      obtain ⟨rfl, rfl⟩ := hf
      refine mW_of mt_extR ⟨a, c, us, ws, rfl, rfl, h1, hK ▸ e1 rfl, ?_, k _ _ (wr_lst W hn ha (ru.append rw_) .non (hw.imp id fun z d hd => ?_))⟩
      · rw [List.length_append] at hl
        rw [ru.length, rw_.length]
        exact le_line hl
      · rcases List.mem_append.mp hd with z2 | z2
        · exact .inl z2
        · simp only [cb, cbs_iff] at z
          exact .inr (z d z2)
    · cases e
  · obtain ⟨v, rfl, rv⟩ := reps1 rs
    split at e
    · rename_i ds h0
      obtain ⟨e0, rfl⟩ := Out.of_is e
      simp only [Option.bind_eq_some_iff, Option.map_eq_some_iff] at e0
      obtain ⟨z, h2, zs, h3, j, h4, rfl⟩ := e0
      obtain ⟨a, us, rfl, ru, e1, _⟩ := seq_rep W rx h0
      have q := flat_rep rv h2
      subst q
      obtain ⟨rfl, h5⟩ := flats_rep ru h3
      obtain ⟨y, h6, h7, h8⟩ := firstEq_is h4
      exact mW_of mt_index ⟨a, us, _, j, y, rfl, rfl, hK ▸ (e1 rfl).sq, flat_isV h2, h5, h6, h7, h8, k _ _ (po_val W (.int _))⟩
    · cases e
  · cases hm
  · cases hm
  · cases e
/-- the receiver is a list -/
theorem mt_ty {m : Mt} {gd : Nat → List (Str × D)} {xs : List D} {r : R} {st' : Store} (hK : X.K = L.K) (hm : m.isL = true) (e : mtR gd b m x xs st = .ok r st') : (∃ n ds, x = .cell n ∧ st[n]? = some (.lst ds)) ∨ ∃ ds, seqOf st x = some (false, ds) := by
  have c : ∀ {f : List D → Option (D × List D)} {w : D}, onLst b st x f w = .ok r st' → ∃ n ds, x = .cell n ∧ st[n]? = some (.lst ds) := fun {f w} e => by
    obtain ⟨n, ds, q, ds', h1, h2, _⟩ := onLst_is e
    exact ⟨n, ds, h1, h2⟩
  unfold mtR at e
  split at e
  · exact .inl (c e)
  · exact .inl (c e)
  · exact .inl (c e)
  · exact .inl (c e)
  · exact .inl (c e)
  · split at e
    · exact .inl (c e)
    · cases e
  · split at e
    · rename_i h
      exact .inr ⟨_, h⟩
    · cases e
  · cases hm
  · cases hm
  · cases e

theorem put_rep {κ : Type} [DecidableEq κ] {k : κ} {v : V} {d : D} (r : Rep L H (fx ++ cm) cm v d) {xs : List (κ × V)} {ds : List (κ × D)} (e : xs.map (·.1) = ds.map (·.1)) (rs : Reps L H (fx ++ cm) cm (xs.map (·.2)) (ds.map (·.2))) :
    (L2.putK xs k v).map (·.1) = (En.putK ds k d).map (·.1) ∧ Reps L H (fx ++ cm) cm ((L2.putK xs k v).map (·.2)) ((En.putK ds k d).map (·.2)) := by
  have any : (xs.any fun kv => decide (kv.1 = k)) = ds.any fun kv => decide (kv.1 = k) := by
    have a1 : (xs.any fun kv => decide (kv.1 = k)) = (xs.map (·.1)).any fun q => decide (q = k) := by rw [List.any_map]; rfl
    have a2 : (ds.any fun kv => decide (kv.1 = k)) = (ds.map (·.1)).any fun q => decide (q = k) := by rw [List.any_map]; rfl
    rw [a1, a2, e]
  unfold L2.putK En.putK
  rw [any]
  split
  · rename_i hyp
    clear any hyp
    induction xs generalizing ds with
    | nil =>
      cases ds with
      | nil => exact ⟨rfl, .nil⟩
      | cons _ _ => simp at e
    | cons p xs ih =>
      cases ds with
      | nil => simp at e
      | cons p2 ds =>
        simp only [List.map_cons, List.cons.injEq] at e rs
        cases rs with
        | cons r1 r2 =>
          obtain ⟨i1, i2⟩ := ih e.2 r2
          simp only [List.map_cons]
          rw [e.1]
          by_cases z : p2.1 = k
          · rw [if_pos z, if_pos z]
            exact ⟨by rw [i1], .cons r i2⟩
          · rw [if_neg z, if_neg z]
            exact ⟨by rw [i1, e.1], .cons r1 i2⟩
  · simp only [List.map_append, List.map_cons, List.map_nil]
    exact ⟨by rw [e], rs.append (.one r)⟩
theorem putK_mem {κ : Type} [DecidableEq κ] {k : κ} {d : D} {ds : List (κ × D)} {p : κ × D} (h : p ∈ En.putK ds k d) : p.2 = d ∨ p ∈ ds := by
  unfold En.putK at h
  split at h
  · obtain ⟨q, hq, e⟩ := List.mem_map.mp h
    split at e
    · exact .inl (by rw [← e])
    · exact .inr (by rw [← e]; exact hq)
  · rcases List.mem_append.mp h with z | z
    · exact .inr z
    · exact .inl (by rw [List.mem_singleton.mp z])
theorem ok_of {n : Nat} {d : D} (h : okW b n d = true) : b ≤ n ∨ cb 0 d = true := by
  simpa [okW] using h
theorem set_sound {d : D} {v : V} {st' : Store} {Qs : Hp → Prop} (hu : X.A.units + 1 < cLine) (e : setR b x y d st = .ok () st') (rx : Rep L H (fx ++ cm) cm v1 x) (ry : Rep L H (fx ++ cm) cm v2 y) (rv : Rep L H (fx ++ cm) cm v d) (W : Valid L H (fx ++ cm) cm st)
    (k : ∀ H', Stp b H cm st H' cm st' → Valid L H' (fx ++ cm) cm st' → Qs H') : sW X v1 v2 v H Qs := by
  unfold setR at e
  split at e
  · rename_i n
    split at e
    · rename_i ds hn
      obtain ⟨a, rfl, ha, m, us, h1, ru⟩ := cell_at W rx hn
      split at e
      · rename_i i
        split at e
        · rename_i j hj
          split at e
          · rename_i hw
            cases e
            cases ry
            rw [← ru.length] at hj
            obtain ⟨s, W', _⟩ := wr_lst (b := b) W hn ha (Reps.set rv j ru) .non ((ok_of hw).imp id fun z q hq => by
              rcases List.mem_or_eq_of_mem_set hq with z2 | z2
              · exact .inl z2
              · rw [z2]; exact .inr z)
            exact sW_of set_list ⟨a, us, i, j, rfl, rfl, h1, hj, k _ s W'⟩
          · cases e
        · cases e
      · cases e
    · rename_i ds hn
      obtain ⟨a, rfl, ha, m, us, h1, h2, ru⟩ := cell_at W rx hn
      split at e
      · rename_i q hq
        split at e
        · rename_i hw
          simp only [Bool.and_eq_true, decide_eq_true_eq] at hw
          cases e
          have z := key_rep ry hq
          subst z
          obtain ⟨p1, p2⟩ := put_rep (k := q) rv h2 ru
          have hl : us.length = ds.length := by simpa using congrArg List.length h2
          obtain ⟨s, W'⟩ := wr_ok (b := b) (u := .dK (L2.putK us q v)) W hn ha (o' := .dk (En.putK ds q d)) ⟨_, upd_same, p1, p2.ext (ext_cell m)⟩ ((ok_of hw.1).imp id fun z b' o => by
            simp only [cbO, cbk_iff] at o ⊢
            intro p hp
            rcases putK_mem hp with z2 | z2
            · rw [z2]; exact cb_mono (Nat.zero_le _) d z
            · exact o p z2)
          intro pins s' σ ov iv u I r1 r2 r3
          cases r1
          exact d_setItem hu I (DPut.k h1 (by rw [hl]; exact lt_line hw.2)) r2 r3 fun s2 I2 => ⟨_, I2, k _ s W'⟩
        · cases e
      · cases e
    · rename_i ds hn
      obtain ⟨a, rfl, ha, m, us, h1, h2, ru⟩ := cell_at W rx hn
      split at e
      · split at e
        · rename_i q hq
          split at e
          · rename_i hw
            simp only [Bool.and_eq_true, decide_eq_true_eq] at hw
            cases e
            cases ry with
            | @tup ka kxs kds kn kt kr =>
              have z := keys_rep kr hq
              subst z
              obtain ⟨p1, p2⟩ := put_rep (k := q) rv h2 ru
              have hl : us.length = ds.length := by simpa using congrArg List.length h2
              obtain ⟨s, W'⟩ := wr_ok (b := b) (u := .dT (L2.putK us q v)) W hn ha (o' := .dt (En.putK ds q d)) ⟨_, upd_same, p1, p2.ext (ext_cell m)⟩ ((ok_of hw.1).imp id fun z b' o => by
                simp only [cbO, cbt_iff] at o ⊢
                intro p hp
                rcases putK_mem hp with z2 | z2
                · rw [z2]; exact cb_mono (Nat.zero_le _) d z
                · exact o p z2)
              intro pins s' σ ov iv u I r1 r2 r3
              cases r1
              exact d_setItem hu I (DPut.t h1 kt (by rw [hl]; exact lt_line hw.2)) r2 r3 fun s2 I2 => ⟨_, I2, k _ s W'⟩
          · cases e
        · cases e
      · cases e
    · cases e
  · cases e
theorem putA_rep {f : Str} {v : V} {d : D} (r : Rep L H (fx ++ cm) cm v d) : ∀ {xs : List (Str × V)} {ds : List (Str × D)}, xs.map (·.1) = ds.map (·.1) → Reps L H (fx ++ cm) cm (xs.map (·.2)) (ds.map (·.2)) →
    (putF f v xs).map (·.1) = (putA f d ds).map (·.1) ∧ Reps L H (fx ++ cm) cm ((putF f v xs).map (·.2)) ((putA f d ds).map (·.2))
  | [], [], _, _ => ⟨rfl, .one r⟩
  | [], _ :: _, e, _ => by simp at e
  | _ :: _, [], e, _ => by simp at e
  | (k1, v1) :: xs, (k2, d2) :: ds, e, rs => by
    simp only [List.map_cons, List.cons.injEq] at e rs
    obtain ⟨rfl, e⟩ := e
    cases rs with
    | cons r1 r2 =>
      obtain ⟨i1, i2⟩ := putA_rep r e r2
      unfold putF putA
      by_cases z : k1 = f
      · rw [if_pos z, if_pos z]
        exact ⟨by simp [e], .cons r r2⟩
      · rw [if_neg z, if_neg z]
        exact ⟨by simp [i1], .cons r1 i2⟩
theorem putA_mem {f : Str} {d : D} : ∀ {ds : List (Str × D)} {p : Str × D}, p ∈ putA f d ds → p.2 = d ∨ p ∈ ds
  | [], p, h => by
    simp only [putA, List.mem_singleton] at h
    exact .inl (by rw [h])
  | (g, w) :: r, p, h => by
    unfold putA at h
    split at h
    · rcases List.mem_cons.mp h with z | z
      · exact .inl (by rw [z])
      · exact .inr (List.mem_cons_of_mem _ z)
    · rcases List.mem_cons.mp h with z | z
      · exact .inr (by rw [z]; exact List.mem_cons_self)
      · exact (putA_mem z).imp id (List.mem_cons_of_mem _)
/-- what a field's store asks, and gives -/
theorem setF_sound {na : Nat → Str → Bool} {d : D} {v : V} {f : Str} {st' : Store} (e : setF na b x f d st = .ok () st') (rx : Rep L H (fx ++ cm) cm v1 x) (rv : Rep L H (fx ++ cm) cm v d) (W : Valid L H (fx ++ cm) cm st) :
    ∃ a c dx fs, v1 = .ref a ∧ na c f = true ∧ H a = some (.ins (L.ca c) dx fs) ∧ fs.length < 1000 ∧ Stp b H cm st (upd H a (.ins (L.ca c) dx (putF f v fs))) cm st' ∧ Valid L (upd H a (.ins (L.ca c) dx (putF f v fs))) (fx ++ cm) cm st' := by
  unfold setF at e
  split at e
  · split at e
    · rename_i c ds hn
      split at e
      · rename_i hw
        simp only [Bool.and_eq_true, decide_eq_true_eq] at hw
        cases e
        obtain ⟨a, rfl, ha, m, dx, us, h1, h2, ru⟩ := cell_at W rx hn
        obtain ⟨p1, p2⟩ := putA_rep (f := f) rv h2 ru
        have hl : us.length = ds.length := by simpa using congrArg List.length h2
        obtain ⟨s, W'⟩ := wr_ok (b := b) (u := .ins (L.ca c) dx (putF f v us)) W hn ha (o' := .ins c (putA f d ds)) ⟨dx, _, upd_same, p1, p2.ext (ext_cell m)⟩ ((ok_of hw.1.2).imp id fun z b' o => by
          simp only [cbO, cbf_iff] at o ⊢
          intro p hp
          rcases putA_mem hp with z2 | z2
          · rw [z2]; exact cb_mono (Nat.zero_le _) d z
          · exact o p z2)
        exact ⟨a, c, dx, us, rfl, hw.1.1, h1, by omega, s, W'⟩
      · cases e
    · cases e
  · cases e
theorem fld_sound {na : Nat → Str → Bool} {f : Str} {r : R} (e : fldR na x f st = some r) (rx : Rep L H (fx ++ cm) cm v1 x) (W : Valid L H (fx ++ cm) cm st) :
    ∃ a c dx fs v d, na c f = true ∧ v1 = .ref a ∧ H a = some (.ins (L.ca c) dx fs) ∧ fs.lookup f = some v ∧ r = .v d ∧ Rep L H (fx ++ cm) cm v d ∧ ∃ ds, objOf st x = some (c, ds) := by
  unfold fldR at e
  simp only [Option.bind_eq_some_iff, Option.ite_none_right_eq_some, Option.map_eq_some_iff] at e
  obtain ⟨⟨c, ds⟩, h1, hna, d, h2, rfl⟩ := e
  obtain ⟨a, dx, fs, rfl, h3, h4, h5⟩ := obj_rep W rx h1
  obtain ⟨v, h6, h7⟩ := (lookup_rep f h4 h5).2 d h2
  exact ⟨a, c, dx, fs, v, d, hna, rfl, h3, h6, rfl, h7, ds, h1⟩
end
end En

set_option Elab.async false
set_option linter.all false
set_option maxRecDepth 100000
set_option maxHeartbeats 1000000
namespace En
open PySem PySem.Spec PyProof.Rows L2

/-- what is known of the place where a text stands -/
structure SC where
  N : List Str
  sc : Scope
  fnc : Str → Bool
  fns : List (Str × Nat)
  gls : List (Str × Nat)
  cls : List (Str × Nat)
  blt : List Str
def SC.blk (c : SC) (scope : Scope) : SC := { c with sc := relS scope c.sc, fnc := fun x => scope.names.lookup x == some .cell }

def visB (sc : Scope) (x : Str) : Bool := match sc.names.lookup x with
  | some .local => true | some .cell => true | some .free => true | _ => false
def locB (c : SC) (x : Str) : Bool := match c.sc.names.lookup x with
  | some .local => true | some .cell => c.fnc x | _ => false
def glB (sc : Scope) (x : Str) : Bool := match sc.names.lookup x with
  | some .globalImplicit => true | _ => false
def okName (x : Str) : Bool := !(x == ("__debug__" : Str)) && !(x == ("__classdict__" : Str)) && !(x == ("__name__" : Str))
def noStar : Expr → Bool
  | .Starred .. => false | _ => true
def noSet : Expr → Bool
  | .Set .. => false | _ => true
def noSlice : Expr → Bool
  | .Slice .. => false | _ => true
def noComp : Expr → Bool
  | .ListComp .. => false | .SetComp .. => false | .DictComp .. => false | _ => true
/-- its test is its value's truth -/
def plainT : Expr → Bool
  | .UnaryOp .Not _ _ => false | .BoolOp .. => false | .IfExp .. => false | .Compare .. => false | _ => true
/-- no super() -/
def noSup : Expr → Bool
  | .Call (.Name id _) [] [] _ => !(id == ("super" : Str)) | _ => true
def bltName : Blt → Str
  | .len => "len" | .abs => "abs" | .max2 => "max" | .min2 => "min" | .int1 => "int" | .sum => "sum" | .maxL => "max" | .minL => "min" | .any => "any" | .all => "all"
  | .sorted => "sorted" | .list => "list" | .tuple => "tuple" | .str => "str" | .range_ => "range"
def tyNm (t : Ty) : Str := Str.ofString (tyN t)
def Ty.named : Ty → Bool
  | .non => false | .own _ => false | _ => true
def mtName : Mt → Str
  | .append => "append" | .pop0 => "pop" | .popAt => "pop" | .extend => "extend" | .reverse => "reverse" | .clear => "clear" | .index => "index" | .get1 => "get" | .get2 => "get" | .insert => "insert"
mutual
/-- all names of a target are among vs -/
def gIn (vs : List Nat) : IG → Bool
  | .name i => decide (i ∈ vs)
  | .tup gs => gsIn vs gs
  | _ => true
def gsIn (vs : List Nat) : IGs → Bool
  | .nil => true
  | .cons g gs => gIn vs g && gsIn vs gs
end
def gLen : IGs → Nat
  | .nil => 0
  | .cons _ gs => gLen gs + 1
def ieLen : IEs → Nat
  | .nil => 0
  | .cons _ es => ieLen es + 1

mutual
def chkE : Nat → SC → Expr → IE → Bool
  | 0, _, _, _ => false
  | n + 1, c, e, .var i => (match e with
    | .Name x _ => decide (c.N[i]? = some x) && visB c.sc x && okName x
    | _ => false)
  | n + 1, c, e, .int i => (match e with
    | .Constant (.int j) _ _ => decide (j = i)
    | _ => false)
  | n + 1, c, e, .str i => (match e with
    | .Constant (.str j) _ _ => decide (j = i)
    | _ => false)
  | n + 1, c, e, .bl i => (match e with
    | .Constant (.bool j) _ _ => decide (j = i)
    | _ => false)
  | n + 1, c, e, .non => (match e with
    | .Constant .none _ _ => true
    | _ => false)
  | n + 1, c, e, .gl j => (match e with
    | .Name x _ => glB c.sc x && okName x && decide ((x, j) ∈ c.gls)
    | _ => false)
  | n + 1, c, e, .op o a d => (match e with
    | .BinOp l p r _ => decide (opOf o = p) && chkE n c l a && chkE n c r d
    | _ => false)
  | n + 1, c, e, .neg a => (match e with
    | .UnaryOp .USub l _ => chkE n c l a
    | _ => false)
  | n + 1, c, e, .cmp o a d => (match e with
    | .Compare l [p] [r] _ => decide (cmpOf o = p) && noSet r && chkE n c l a && chkE n c r d
    | _ => false)
  | n + 1, c, e, .chain o o' a d f => (match e with
    | .Compare l [p, q] [r, t] _ => decide (cmpOf o = p) && decide (cmpOf o' = q) && noSet t && chkE n c l a && chkE n c r d && chkE n c t f
    | _ => false)
  | n + 1, c, e, .and a d => (match e with
    | .BoolOp .And (l :: r :: rest) p => chkE n c l a && (match rest with
      | [] => chkE n c r d
      | _ => chkE n c (.BoolOp .And (r :: rest) p) d)
    | _ => false)
  | n + 1, c, e, .or a d => (match e with
    | .BoolOp .Or (l :: r :: rest) p => chkE n c l a && (match rest with
      | [] => chkE n c r d
      | _ => chkE n c (.BoolOp .Or (r :: rest) p) d)
    | _ => false)
  | n + 1, c, e, .not a => (match e with
    | .UnaryOp .Not l _ => chkE n c l a
    | _ => false)
  | n + 1, c, e, .ite t a d => (match e with
    | .IfExp p l r _ => chkT n c p t && chkE n c l a && chkE n c r d
    | _ => false)
  | n + 1, c, e, .tup es => (match e with
    | .Tuple xs _ _ => chkEs n c xs es
    | _ => false)
  | n + 1, c, e, .lst es => (match e with
    | .List xs _ => chkEs n c xs es
    | _ => false)
  | n + 1, c, e, .dnewK => (match e with
    | .Dict [] [] _ => true
    | _ => false)
  | n + 1, c, e, .dnewT => (match e with
    | .Dict [] [] _ => true
    | _ => false)
  | n + 1, c, e, .ix a i => (match e with
    | .Subscript l r _ => noSlice r && chkE n c l a && chkE n c r i
    | _ => false)
  | n + 1, c, e, .sl a lo hi => (match e with
    | .Subscript l (.Slice x y none _) _ => chkE n c l a && chkO n c x lo && chkO n c y hi
    | _ => false)
  | n + 1, c, e, .call j es => (match e with
    | .Call (.Name x _) xs [] _ => glB c.sc x && okName x && decide ((x, j) ∈ c.fns) && chkEs n c xs es
    | _ => false)
  | n + 1, c, e, .callS j es => (match e with
    | .Call (.Name x _) xs [] _ => glB c.sc x && okName x && decide ((x, j) ∈ c.fns) && chkEs n c xs es
    | _ => false)
  | n + 1, c, e, .blt f es => (match e with
    | .Call (.Name x _) xs [] _ => glB c.sc x && decide (x = bltName f) && decide (x ∈ c.blt) && decide (0 < xs.length) && chkEs n c xs es
    | _ => false)
  | n + 1, c, e, .isin a t => (match e with
    | .Call (.Name x _) [l, .Name y _] [] _ => glB c.sc x && decide (x = ("isinstance" : Str)) && decide (x ∈ c.blt) && noStar l && glB c.sc y && decide (y = tyNm t) && decide (y ∈ c.blt) && t.named && chkE n c l a
    | _ => false)
  | n + 1, c, e, .mt m a es => (match e with
    | .Call (.Attribute l x ap) xs [] cp => m.isL && decide (x = mtName m) && noSup l && decide (ap.endLine = cp.line) && decide (xs.length < 20) && chkE n c l a && chkEs n c xs es
    | _ => false)
  | n + 1, c, e, .fld a f => (match e with
    | .Attribute l x _ => decide (x = f) && noSup l && chkE n c l a
    | _ => false)
  | n + 1, c, e, .mcall m a es => (match e with
    | .Call (.Attribute l x ap) xs [] cp => decide (x = m) && noSup l && decide (ap.endLine = cp.line) && decide (xs.length < 20) && chkE n c l a && chkEs n c xs es
    | _ => false)
  | n + 1, c, e, .make k es => (match e with
    | .Call (.Name x _) xs [] _ => glB c.sc x && okName x && decide ((x, k) ∈ c.cls) && chkEs n c xs es
    | _ => false)
  | n + 1, c, e, .makeM k es => (match e with
    | .Call (.Name x _) xs [] _ => glB c.sc x && okName x && decide ((x, k) ∈ c.cls) && chkEs n c xs es
    | _ => false)
  | n + 1, c, e, .mu a => chkE n c e a
  | n + 1, c, e, .lc own g it t x => (match e with
    | .ListComp el [⟨tg, iter, ifs, 0⟩] scope _ => blkC c.N c.sc scope own && gIn (own.map (·.2)) g && noSet iter && chkI n c tg iter it && chkG n (c.blk scope) tg g && chkC n (c.blk scope) ifs t && chkE n (c.blk scope) el x
    | _ => false)
  | n + 1, c, e, .lc2 own vs g it t g' it' t' x => false
def chkEs : Nat → SC → List Expr → IEs → Bool
  | 0, _, _, _ => false
  | n + 1, c, xs, .nil => (match xs with
    | [] => true
    | _ => false)
  | n + 1, c, xs, .cons a es => (match xs with
    | x :: xs => noStar x && chkE n c x a && chkEs n c xs es
    | _ => false)
/-- as a test -/
def chkT : Nat → SC → Expr → IT → Bool
  | 0, _, _, _ => false
  | n + 1, c, e, .and t u => (match e with
    | .BoolOp .And (l :: r :: rest) p => chkT n c l t && chkW n c (.BoolOp .And (r :: rest) p) u
    | _ => false)
  | n + 1, c, e, .or t u => (match e with
    | .BoolOp .Or (l :: r :: rest) p => chkT n c l t && chkW n c (.BoolOp .Or (r :: rest) p) u
    | _ => false)
  | n + 1, c, e, .not t => (match e with
    | .UnaryOp .Not l _ => chkT n c l t
    | _ => false)
  | n + 1, c, e, .e a => (match a with
    | .cmp o a d => (match e with
      | .Compare l [p] [r] _ => decide (cmpOf o = p) && noSet r && chkE n c l a && chkE n c r d
      | _ => false)
    | .chain o o' a d f => (match e with
      | .Compare l [p, q] [r, t] _ => decide (cmpOf o = p) && decide (cmpOf o' = q) && noSet t && chkE n c l a && chkE n c r d && chkE n c t f
      | _ => false)
    | a => plainT e && chkE n c e a)
/-- the rest of an and, of an or -/
def chkW : Nat → SC → Expr → IT → Bool
  | 0, _, _, _ => false
  | n + 1, c, e, t => (match e with
    | .BoolOp op [l] p => chkT n c l t
    | .BoolOp .And (l :: r :: rest) p => (match t with
      | .and t u => chkT n c l t && chkW n c (.BoolOp .And (r :: rest) p) u
      | _ => false)
    | .BoolOp .Or (l :: r :: rest) p => (match t with
      | .or t u => chkT n c l t && chkW n c (.BoolOp .Or (r :: rest) p) u
      | _ => false)
    | _ => false)
def chkO : Nat → SC → Option Expr → IO → Bool
  | 0, _, _, _ => false
  | n + 1, c, e, .none => (match e with
    | none => true
    | _ => false)
  | n + 1, c, e, .some a => (match e with
    | some e => chkE n c e a
    | _ => false)
def chkC : Nat → SC → List Expr → IC → Bool
  | 0, _, _, _ => false
  | n + 1, c, ifs, .yes => (match ifs with
    | [] => true
    | _ => false)
  | n + 1, c, ifs, .t t => (match ifs with
    | [e] => chkT n c e t
    | _ => false)
def chkI : Nat → SC → Expr → Expr → II → Bool
  | 0, _, _, _, _ => false
  | n + 1, c, tg, e, .seq a => chkE n c e a
  | n + 1, c, tg, e, .rng1 a => (match e with
    | .Call (.Name x _) [l] [] _ => glB c.sc x && decide (x = ("range" : Str)) && decide (x ∈ c.blt) && noStar l && chkE n c l a
    | _ => false)
  | n + 1, c, tg, e, .rng2 a d => (match e with
    | .Call (.Name x _) [l, r] [] _ => glB c.sc x && decide (x = ("range" : Str)) && decide (x ∈ c.blt) && noStar l && noStar r && chkE n c l a && chkE n c r d
    | _ => false)
  | n + 1, c, tg, e, .rng3 a d f => false
  | n + 1, c, tg, e, .enum a => (match e with
    | .Call (.Name x _) [l] [] _ => (match tg with
      | .Tuple _ _ _ => glB c.sc x && decide (x = ("enumerate" : Str)) && decide (x ∈ c.blt) && noStar l && chkE n c l a
      | _ => false)
    | _ => false)
  | n + 1, c, tg, e, .zip a d => (match e with
    | .Call (.Name x _) [l, r] [] _ => (match tg with
      | .Tuple _ _ _ => glB c.sc x && decide (x = ("zip" : Str)) && decide (x ∈ c.blt) && noStar l && noStar r && chkE n c l a && chkE n c r d
      | _ => false)
    | _ => false)
def chkG : Nat → SC → Expr → IG → Bool
  | 0, _, _, _ => false
  | n + 1, c, e, .name i => (match e with
    | .Name x _ => decide (c.N[i]? = some x) && locB c x
    | _ => false)
  | n + 1, c, e, .tup gs => (match e with
    | .Tuple xs _ _ => chkGs n c xs gs
    | _ => false)
  | n + 1, c, e, .sub a i => (match e with
    | .Subscript l r _ => noSlice r && chkE n c l a && chkE n c r i
    | _ => false)
  | n + 1, c, e, .fld a f => false
def chkGs : Nat → SC → List Expr → IGs → Bool
  | 0, _, _, _ => false
  | n + 1, c, xs, .nil => (match xs with
    | [] => true
    | _ => false)
  | n + 1, c, xs, .cons a es => (match xs with
    | x :: xs => noStar x && chkG n c x a && chkGs n c xs es
    | _ => false)
end

def spF (L : Lk) (F : Nat → List D → Store → Out R) : Sp := fun vs H Q _ => ∃ (b : Nat) (fx : List Addr) (ds : List D) (st : Store) (r : R) (st' : Store) (cm : List Addr), F b ds st = .ok r st' ∧ b ≤ st.length ∧ Valid L H (fx ++ cm) cm st ∧ Reps L H (fx ++ cm) cm vs ds ∧
  ∀ v H' cm', Po L fx b H cm st v r H' cm' st' → Q v H'
def ClAt (L : Lk) (X : Cx) (k : Nat) (x : Str) (C : Addr) (F : Nat → List D → Store → Out R) : Prop :=
  ∃ f fd ps, Mk X.K C f ∧ X.mg x = some (.ref C) ∧ Binds X.K fd ps [] ∧ (k = 0 → ∀ b ds st, F b ds st = .no) ∧ ∀ k', k = k' + 1 → FnOk X.prog X.w X.K X.mg X.base CX0 k' f fd ps (spF L F)
def MeAt (L : Lk) (X : Cx) (k : Nat) (C : Addr) (m : Str) (F : Nat → List D → Store → Out R) : Prop :=
  ∃ f fd ps, Cls X.K C ∧ Meth X.K C m f ∧ Binds X.K fd ps [] ∧ FnOk X.prog X.w X.K X.mg X.base CX0 k f fd ps (spF L F)
def FnAt (L : Lk) (X : Cx) (k : Nat) (x : Str) (F : Nat → List D → Store → Out R) : Prop :=
  ∃ f fd ps, X.mg x = some (.ref f) ∧ PySem.W.keepIn X.K (.ref f) = true ∧ Binds X.K fd ps [] ∧ FnOk X.prog X.w X.K X.mg X.base CX0 k f fd ps (spF L F)
structure CtxOk (L : Lk) (G : Glo) (k : Nat) (X : Cx) (c : SC) : Prop where
  hN : X.N = c.N
  nd : c.N.Nodup
  hs : X.env.scope = c.sc
  fn : X.fn = c.fnc
  calm : X.calm = true
  room : Room k X.A
  xe : X.xe = fun _ _ => False
  hK : X.K = L.K
  fns : ∀ x j, (x, j) ∈ c.fns → FnAt L X k x (G.fn j)
  gls : ∀ x j, (x, j) ∈ c.gls → ∃ u v, X.mg x = some u ∧ RelV v u ∧ ∀ (H : Hp) (fb cm : List Addr), Rep L H fb cm v (G.gl j)
  blt : ∀ x ∈ c.blt, X.mg x = none
  gd : GdOk L X.w G.gd
  cls : ∀ x j, (x, j) ∈ c.cls → ClAt L X k x (L.ca j) (G.ini j)
  me : ∀ j m i, G.me j m = some i → MeAt L X k (L.ca j) m (G.fn i)
  na : ∀ j f, G.na j f = true → Cls X.K (L.ca j) ∧ NoAttr X.K (L.ca j) f
section
variable {L : Lk} {G : Glo} {k b : Nat} {X : Cx} {c : SC}
theorem CtxOk.hu (C : CtxOk L G k X c) : X.A.units + 64 < cLine := C.room.units
theorem CtxOk.hu1 (C : CtxOk L G k X c) : X.A.units + 1 < cLine := by have := C.room.units; omega
theorem CtxOk.blk (C : CtxOk L G k X c) (s : Shared) (H : Hp) (scope : Scope) (A : Addr) (cl : List (Str × Addr)) (fp : List Addr) : CtxOk L G k (X.blk s H scope (compEnvC scope cl A X.env) fp) (c.blk scope) where
  hN := C.hN
  nd := C.nd
  hs := by
    show relS scope X.env.scope = relS scope c.sc
    rw [C.hs]
  fn := rfl
  calm := C.calm
  room := C.room
  xe := rfl
  hK := C.hK
  fns := C.fns
  gls := C.gls
  blt := C.blt
  gd := C.gd
  cls := C.cls
  me := C.me
  na := C.na
theorem CtxOk.vis (C : CtxOk L G k X c) {x : Str} (h : visB c.sc x = true) : Vis X.env.scope x := by
  unfold visB at h
  unfold Vis
  rw [C.hs]
  split at h
  · exact .inl (by assumption)
  · exact .inr (.inl (by assumption))
  · exact .inr (.inr (by assumption))
  · cases h
theorem CtxOk.loc (C : CtxOk L G k X c) {x : Str} (h : locB c x = true) : L2.Loc X.env.scope x ∧ (X.fn x = true ∨ X.env.scope.names.lookup x = some .local) := by
  unfold locB at h
  unfold L2.Loc
  rw [C.hs, C.fn]
  split at h
  · exact ⟨.inl (by assumption), .inr (by assumption)⟩
  · exact ⟨.inr (by assumption), .inl h⟩
  · cases h
theorem CtxOk.gl_ (C : CtxOk L G k X c) {x : Str} (h : glB c.sc x = true) : Gl X x := by
  unfold glB at h
  show X.env.scope.names.lookup x = some .globalImplicit
  rw [C.hs]
  split at h
  · assumption
  · cases h
theorem okName_is {x : Str} (h : okName x = true) : (x == ("__debug__" : Str)) = false ∧ (x == ("__classdict__" : Str)) = false ∧ x ≠ "__name__" := by
  unfold okName at h
  simp only [Bool.and_eq_true, Bool.not_eq_true'] at h
  refine ⟨h.1.1, h.1.2, fun z => ?_⟩
  rw [z] at h
  simp at h
theorem star_of {e : Expr} {es : List Expr} {env : PySem.Env} (h : noStar e = true) : starEach (e :: es) env = (false, eval e env) :: starEach es env := by
  cases e <;> first | rfl | (simp [noStar] at h)
theorem asg_of {e : Expr} {es : List Expr} {env : PySem.Env} (h : noStar e = true) : (assignEach (e :: es) env).map (·.2) = assign e env :: (assignEach es env).map (·.2) := by
  cases e <;> first | rfl | (simp [noStar] at h)
theorem plainIx_of {e : Expr} (h : noSlice e = true) : PlainIx e := by
  intro o i
  cases e <;> first | rfl | (simp [noSlice] at h)
theorem assignSub_of {o i : Expr} {pos : Pos} {env : PySem.Env} (h : noSlice i = true) (v : Value) : assign (.Subscript o i pos) env v = (do
    let ov ← holding [v] (eval o env)
    let iv ← holding [v, ov] (eval i env)
    standAt pos
    holding [v, ov, iv] (setItem ov iv v)
    release [v, ov, iv] []) := by
  cases i <;> first | rfl | (simp [noSlice] at h)
theorem marks_of {e : Expr} {op : CmpOp} (h : noSet e = true) : behindInMarks op e = false := by
  cases e <;> first | rfl | (simp [noSet] at h)
theorem fold_of {e : Expr} {env : PySem.Env} (h : noSet e = true) (x : Value) : foldedSetIterable e env x = pure x := by
  cases e <;> first | rfl | (simp [noSet] at h)
theorem plainT_of {e : Expr} {env : PySem.Env} (h : plainT e = true) (whole : Sem Value) : isTrue e env whole = (do let v ← whole; standAt e.pos; holding [v] (truthy v)) := by
  cases e with
  | UnaryOp o x p => cases o <;> first | rfl | (simp [plainT] at h)
  | BoolOp _ _ _ => simp [plainT] at h
  | IfExp _ _ _ _ => simp [plainT] at h
  | Compare _ _ _ _ => simp [plainT] at h
  | _ => rfl
theorem swap_of {e : Expr} {t : Option Expr} {l : Nat} {env : PySem.Env} (h : noComp e = true) : swapsWith e t l env = pure false := by
  cases e <;> first | rfl | (simp [noComp] at h)
end
end En

set_option Elab.async false
set_option linter.all false
set_option maxRecDepth 100000
set_option maxHeartbeats 1000000
namespace En
open PySem PySem.Spec PyProof.Rows L2

def SE (L : Lk) (G : Glo) (b : Nat) (X : Cx) (e : Expr) (ie : IE) : Prop := ∀ env st r st', evE G b ie env st = .ok r st' → ∀ σ H fx cm, Valid L H (fx ++ cm) cm st → Slots L H (fx ++ cm) cm env σ → b ≤ st.length →
  ∀ Q : VK, (∀ v H' cm', Po L fx b H cm st v r H' cm' st' → Q v H') → wE X e σ H Q
def SA (L : Lk) (G : Glo) (b : Nat) (X : Cx) (es : List Expr) (ies : IEs) : Prop := ∀ env st xs st', evEs G b ies env st = .ok xs st' → ∀ σ H fx cm, Valid L H (fx ++ cm) cm st → Slots L H (fx ++ cm) cm env σ → b ≤ st.length →
  ∀ Q : List V → Hp → Prop, (∀ vs H' cm', Stp b H cm st H' cm' st' → Valid L H' (fx ++ cm') cm' st' → Reps L H' (fx ++ cm') cm' vs xs → Q vs H') → wA X es σ H Q
def STt (L : Lk) (G : Glo) (b : Nat) (X : Cx) (w : TT) (t : IT) : Prop := ∀ env st k st', evT G b t env st = .ok k st' → ∀ σ H fx cm, Valid L H (fx ++ cm) cm st → Slots L H (fx ++ cm) cm env σ → b ≤ st.length →
  ∀ Q : Bool → Hp → Prop, (∀ H' cm', Stp b H cm st H' cm' st' → Valid L H' (fx ++ cm') cm' st' → Q k H') → w σ H Q
def wO (X : Cx) (e : Option Expr) : TO := fun σ H Q => ∀ (pins : List (Addr × Obj)) (s : Shared), Inv X pins σ H s → wpAny (model X.prog X.w) X.A (evalPart e X.env) (fun u s' => ∃ o H', Inv X pins σ H' s' ∧ IsPart u o ∧ Q o H') X.xe s
theorem po_w {X : Cx} {e : Option Expr} : PO X e (wO X e) := ⟨fun pins s σ H Q I h => h pins s I⟩
theorem wO_of {X : Cx} {e : Option Expr} {t : TO} {σ : L2.St} {H : Hp} {Q : Option Int → Hp → Prop} (h : PO X e t) (q : t σ H Q) : wO X e σ H Q := fun pins s I => h.run pins s σ H Q I q
def SO (L : Lk) (G : Glo) (b : Nat) (X : Cx) (e : Option Expr) (o : En.IO) : Prop := ∀ env st k st', evO G b o env st = .ok k st' → ∀ σ H fx cm, Valid L H (fx ++ cm) cm st → Slots L H (fx ++ cm) cm env σ → b ≤ st.length →
  ∀ Q : Option Int → Hp → Prop, (∀ H' cm', Stp b H cm st H' cm' st' → Valid L H' (fx ++ cm') cm' st' → Q k H') → wO X e σ H Q
def wC (X : Cx) (ifs : List Expr) : TT := fun σ H Q => ∀ (pins : List (Addr × Obj)) (s : Shared), Inv X pins σ H s →
  wpAny (model X.prog X.w) X.A (forIn ifs true fun c r => if r = true then do let ok ← isTrue c X.env (eval c X.env); pure (ForInStep.yield ok) else pure (ForInStep.yield r)) (TP X pins σ Q) X.xe s
theorem pts_w {X : Cx} {ifs : List Expr} : PTs X ifs (wC X ifs) := ⟨fun pins s σ H Q I h => h pins s I⟩
theorem wC_of {X : Cx} {ifs : List Expr} {t : TT} {σ : L2.St} {H : Hp} {Q : Bool → Hp → Prop} (h : PTs X ifs t) (q : t σ H Q) : wC X ifs σ H Q := fun pins s I => h.run pins s σ H Q I q
def SC' (L : Lk) (G : Glo) (b : Nat) (X : Cx) (ifs : List Expr) (t : IC) : Prop := ∀ env st k st', evC G b t env st = .ok k st' → ∀ σ H fx cm, Valid L H (fx ++ cm) cm st → Slots L H (fx ++ cm) cm env σ → b ≤ st.length →
  ∀ Q : Bool → Hp → Prop, (∀ H' cm', Stp b H cm st H' cm' st' → Valid L H' (fx ++ cm') cm' st' → Q k H') → wC X ifs σ H Q
def SG (L : Lk) (G : Glo) (b : Nat) (X : Cx) (tg : Expr) (g : IG) : Prop := ∀ d env st env' st', asG G b g d env st = .ok env' st' → ∀ v σ H fx cm, Valid L H (fx ++ cm) cm st → Slots L H (fx ++ cm) cm env σ → Rep L H (fx ++ cm) cm v d → b ≤ st.length →
  ∀ Q : L2.St → Hp → Prop, (∀ σ' H' cm', Stp b H cm st H' cm' st' → Valid L H' (fx ++ cm') cm' st' → Slots L H' (fx ++ cm') cm' env' σ' → (∀ ws, gIn ws g = true → wipe σ' ws = wipe σ ws) → Q σ' H') → wG X tg v σ H Q
def SGs (L : Lk) (G : Glo) (b : Nat) (X : Cx) (ts : List Expr) (g : IGs) : Prop := ∀ ds env st env' st', asGs G b g ds env st = .ok env' st' → ∀ vs σ H fx cm, Valid L H (fx ++ cm) cm st → Slots L H (fx ++ cm) cm env σ → Reps L H (fx ++ cm) cm vs ds → b ≤ st.length →
  ∀ Q : L2.St → Hp → Prop, (∀ σ' H' cm', Stp b H cm st H' cm' st' → Valid L H' (fx ++ cm') cm' st' → Slots L H' (fx ++ cm') cm' env' σ' → (∀ ws, gsIn ws g = true → wipe σ' ws = wipe σ ws) → Q σ' H') → wGs X ts vs σ H Q
/-- an iterator gives ds -/
structure WkD (L : Lk) (J : It) (H0 : Hp) (fx cm0 : List Addr) (ds : List D) : Prop where
  go : ∀ i H cm, i < ds.length → Step H0 cm0 H cm → J.go i H
  stop : ∀ H cm, Step H0 cm0 H cm → J.stop ds.length H
  yld : ∀ b i H fy cm st x H', (∀ a ∈ fy, a ∈ fx ∨ H0 a = none) → i < ds.length → Step H0 cm0 H cm → Valid L H (fy ++ cm) cm st → J.yld i H x H' →
    ∃ d, ds[i]? = some d ∧ Stp b H cm st H' cm st ∧ Valid L H' (fy ++ cm) cm st ∧ Rep L H' (fy ++ cm) cm x d
def ItmOk (L : Lk) (J : It) (H0 : Hp) (fx cm0 : List Addr) : Itm → Prop
  | .l ds => WkD L J H0 fx cm0 ds
  | .c n => ∃ a, cm0[n]? = some a ∧ J = Itl L.K a
def SI (L : Lk) (G : Glo) (b : Nat) (X : Cx) (tg e : Expr) (it : II) : Prop := ∀ env st m st', evI G b it env st = .ok m st' → ∀ σ H fx cm, Valid L H (fx ++ cm) cm st → Slots L H (fx ++ cm) cm env σ → b ≤ st.length →
  ∀ R : It → Hp → Prop, (∀ J H' cm', Stp b H cm st H' cm' st' → Valid L H' (fx ++ cm') cm' st' → ItmOk L J H' fx cm' m → R J H') → wI X tg e σ H R

section
variable {L : Lk} {G : Glo} {k b : Nat} {X : Cx} {c : SC}
theorem SE.use {e : Expr} {ie : IE} (h : SE L G b X e ie) {env : En.Env} {st : Store} {r : R} {st' : Store} (ev : evE G b ie env st = .ok r st') {σ : L2.St} {H : Hp} {fx cm : List Addr} (W : Valid L H (fx ++ cm) cm st) (S : Slots L H (fx ++ cm) cm env σ) (hb : b ≤ st.length)
    {Q : VK} (q : ∀ v H' cm', Stp b H cm st H' cm' st' → Valid L H' (fx ++ cm') cm' st' → Rep L H' (fx ++ cm') cm' v r.d → Q v H') : wE X e σ H Q :=
  h env st r st' ev σ H fx cm W S hb Q fun v H' cm' p => q v H' cm' p.d.1 p.d.2.1 p.d.2.2
theorem Stp.ble {b : Nat} {H H' : Hp} {cm cm' : List Addr} {st st' : Store} (s : Stp b H cm st H' cm' st') (h : b ≤ st.length) : b ≤ st'.length := Nat.le_trans h s.len
theorem evs_at {es : IEs} {xs : List Expr} : ∀ n, chkEs n c xs es = true → xs.length = ieLen es
  | 0, h => by simp [chkEs] at h
  | n + 1, h => by
    cases es with
    | nil => cases xs <;> simp [chkEs, ieLen] at h ⊢
    | cons a es =>
      cases xs with
      | nil => simp [chkEs] at h
      | cons x xs =>
        simp only [chkEs, Bool.and_eq_true] at h
        simp only [List.length_cons, ieLen]
        rw [evs_at n h.2]
theorem stars_of {es : List Expr} {env : PySem.Env} {pos : Pos} (h : ∀ e ∈ es, noStar e = true) : (backTo pos (starEach es env)).any (·.1) = false := by
  induction es with
  | nil => rfl
  | cons e es ih =>
    rw [star_of (h e List.mem_cons_self)]
    show ((false : Bool) || (backTo pos (starEach es env)).any (·.1)) = false
    rw [ih fun e m => h e (List.mem_cons_of_mem _ m)]
    rfl
theorem all_star : ∀ {n : Nat} {es : List Expr} {ies : IEs}, chkEs n c es ies = true → ∀ e ∈ es, noStar e = true
  | 0, _, _, h => by simp [chkEs] at h
  | n + 1, [], _, _ => by simp
  | n + 1, x :: xs, .nil, h => by simp [chkEs] at h
  | n + 1, x :: xs, .cons a es, h => by
    simp only [chkEs, Bool.and_eq_true] at h
    intro e m
    rcases List.mem_cons.mp m with z | z
    · rw [z]; exact h.1.1
    · exact all_star h.2 e z

theorem gs_at : ∀ {n : Nat} {es : List Expr} {gs : IGs}, chkGs n c es gs = true → es.length = gLen gs
  | 0, _, _, h => by simp [chkGs] at h
  | n + 1, [], .nil, _ => rfl
  | n + 1, [], .cons _ _, h => by simp [chkGs] at h
  | n + 1, x :: xs, .nil, h => by simp [chkGs] at h
  | n + 1, x :: xs, .cons a es, h => by
    simp only [chkGs, Bool.and_eq_true] at h
    rw [List.length_cons, gLen, gs_at h.2]
theorem all_starG : ∀ {n : Nat} {es : List Expr} {gs : IGs}, chkGs n c es gs = true → ∀ e ∈ es, noStar e = true
  | 0, _, _, h => by simp [chkGs] at h
  | n + 1, [], _, _ => by simp
  | n + 1, x :: xs, .nil, h => by simp [chkGs] at h
  | n + 1, x :: xs, .cons a es, h => by
    simp only [chkGs, Bool.and_eq_true] at h
    intro e m
    rcases List.mem_cons.mp m with z | z
    · rw [z]; exact h.1.1
    · exact all_starG h.2 e z
theorem gs_len : ∀ {gs : IGs} {ds : List D} {env env' : En.Env} {st st' : Store}, asGs G b gs ds env st = .ok env' st' → ds.length = gLen gs
  | .nil, ds, env, env', st, st', h => by
    cases ds with
    | nil => rfl
    | cons d ds => simp [asGs] at h
  | .cons g gs, ds, env, env', st, st', h => by
    cases ds with
    | nil => simp [asGs] at h
    | cons d ds =>
      simp only [asGs] at h
      obtain ⟨e1, s1, h1, h2⟩ := Out.bind_is h
      rw [List.length_cons, gLen, gs_len h2]
theorem asg_len : ∀ {es : List Expr} {env : PySem.Env}, (assignEach es env).length = es.length
  | [], _ => rfl
  | e :: es, env => by
    have ih := asg_len (es := es) (env := env)
    cases e <;> simp [assignEach, ih]
theorem asg_star : ∀ {es : List Expr} {env : PySem.Env}, (∀ e ∈ es, noStar e = true) → (assignEach es env).findIdx? (·.1) = none
  | [], _, _ => rfl
  | e :: es, env, h => by
    have ih := asg_star (es := es) (env := env) fun e m => h e (List.mem_cons_of_mem _ m)
    have h1 := h e List.mem_cons_self
    cases e with
    | Starred _ _ => simp [noStar] at h1
    | _ => simp [assignEach, List.findIdx?_cons, ih]
/-- the step of the induction: each piece, given its parts -/
structure Snd (L : Lk) (G : Glo) (k : Nat) (n : Nat) : Prop where
  e : ∀ {b X c e ie}, CtxOk L G k X c → chkE n c e ie = true → SE L G b X e ie
  es : ∀ {b X c e ie}, CtxOk L G k X c → chkEs n c e ie = true → SA L G b X e ie
  t : ∀ {b X c e ie}, CtxOk L G k X c → chkT n c e ie = true → STt L G b X (wT X e) ie
  w : ∀ {b X c e ie}, CtxOk L G k X c → chkW n c e ie = true → STt L G b X (wW X e) ie
  o : ∀ {b X c e ie}, CtxOk L G k X c → chkO n c e ie = true → SO L G b X e ie
  c : ∀ {b X c e ie}, CtxOk L G k X c → chkC n c e ie = true → SC' L G b X e ie
  i : ∀ {b X c tg e ie}, CtxOk L G k X c → chkI n c tg e ie = true → SI L G b X tg e ie
  g : ∀ {b X c e ie}, CtxOk L G k X c → chkG n c e ie = true → SG L G b X e ie
  gs : ∀ {b X c e ie}, CtxOk L G k X c → chkGs n c e ie = true → SGs L G b X e ie

theorem po_c {d : D} {v : V} (hr : ∀ (H : Hp) (fb cm : List Addr), Rep L H fb cm v d) {e : Expr} (h : PE X e (tC v)) {st : Store} {σ : L2.St} {H : Hp} {fx cm : List Addr} (W : Valid L H (fx ++ cm) cm st) {Q : VK} (q : ∀ v H' cm', Po L fx b H cm st v (.v d) H' cm' st → Q v H') : wE X e σ H Q :=
  wE_of h (q v H cm (po_val W (hr _ _ _)))

theorem se_args {es : List Expr} {ies : IEs} {n : Nat} (I : Snd L G k n) (C : CtxOk L G k X c) (h : chkEs (n + 1) c es ies = true) : SA L G b X es ies := by
  intro env st xs st' ev σ H fx cm W S hb Q q
  cases ies with
  | nil =>
    cases es with
    | nil =>
      simp only [evEs, Out.ok.injEq] at ev
      obtain ⟨rfl, rfl⟩ := ev
      exact wA_of pa_nil (q [] H cm .refl W .nil)
    | cons _ _ => simp [chkEs] at h
  | cons a ies =>
    cases es with
    | nil => simp [chkEs] at h
    | cons e es =>
      simp only [chkEs, Bool.and_eq_true] at h
      simp only [evEs] at ev
      obtain ⟨x, s1, e1, ev⟩ := Out.bind_is ev
      obtain ⟨ys, s2, e2, ev⟩ := Out.bind_is ev
      cases ev
      refine wA_of (pa_cons pe_w pa_w (star_of h.1.1)) ?_
      refine (I.e C h.1.2).use e1 W S hb fun v H1 cm1 p1 W1 r1 => ?_
      exact I.es C h.2 env s1 ys _ e2 σ H1 fx cm1 W1 (S.step p1.step) (p1.ble hb) _ fun vs H2 cm2 p2 W2 r2 => q _ _ cm2 (p1.trans p2) W2 (.cons (r1.step p2.step) r2)

theorem wipe_set {σ : L2.St} {x : Option V} : ∀ (vs : List Nat) (i : Nat), wipe (σ.set i x) vs = if i ∈ vs then wipe σ vs else (wipe σ vs).set i x
  | [], i => by simp [wipe]
  | v :: vs, i => by
    unfold wipe
    rw [wipe_set vs i]
    by_cases h : i ∈ vs
    · rw [if_pos h, if_pos (List.mem_cons_of_mem _ h)]
    · rw [if_neg h]
      by_cases h2 : i = v
      · subst h2
        rw [if_pos List.mem_cons_self, List.set_set]
      · rw [if_neg (by simp only [List.mem_cons, not_or]; exact ⟨h2, h⟩), List.set_comm _ _ h2]
theorem wipe_idem {σ : L2.St} : ∀ (vs ws : List Nat), (∀ v ∈ ws, v ∈ vs) → wipe (wipe σ ws) vs = wipe σ vs
  | vs, [], _ => rfl
  | vs, w :: ws, h => by
    show wipe ((wipe σ ws).set w none) vs = wipe σ vs
    rw [wipe_set, if_pos (h w List.mem_cons_self)]
    exact wipe_idem vs ws fun v m => h v (List.mem_cons_of_mem _ m)
theorem Slots.wipe {H : Hp} {fb cm : List Addr} {env : En.Env} {σ : L2.St} (h : Slots L H fb cm env σ) : ∀ vs : List Nat, Slots L H fb cm (wipeE env vs) (L2.wipe σ vs)
  | [] => h
  | v :: vs => (Slots.wipe h vs).unset v
theorem swap_fx {H : Hp} {fx fy cm : List Addr} (hf : ∀ a ∈ fy, a ∈ fx ∨ H a = none) {v : V} {d : D} (h : Rep L H (fx ++ cm) cm v d) : Rep L H (fy ++ cm) cm v d := by
  have key : ∀ {a : Addr} {u : HO}, a ∉ fx ++ cm → H a = some u → a ∉ fy ++ cm := fun {a u} n e m => by
    rcases List.mem_append.mp m with m | m
    · rcases hf a m with z | z
      · exact n (List.mem_append_left _ z)
      · rw [z] at e; cases e
    · exact n (List.mem_append_right _ m)
  exact (rep_map (fun a xs n t => ⟨key n t, t⟩) (fun a u n r => ⟨let ⟨_, q⟩ := Rd.some r; key n q, r⟩) (fun a C dx fs n h => ⟨key n h, h⟩) fun n a h => h).1 h
theorem se_g {e : Expr} {g : IG} {n : Nat} (I : Snd L G k n) (C : CtxOk L G k X c) (h : chkG (n + 1) c e g = true) : SG L G b X e g := by
  intro d env st env' st' ev v σ H fx cm W S rv hb Q q
  cases g with
  | name i =>
    cases e <;> simp only [chkG, Bool.false_eq_true, Bool.and_eq_true, decide_eq_true_eq] at h
    simp only [asG, Out.ok.injEq] at ev
    obtain ⟨rfl, rfl⟩ := ev
    have l := C.loc h.2
    refine wG_of (pg_name (by rw [C.hN]; exact C.nd) (by rw [C.hN]; exact h.1) l.1 l.2) (q _ H cm .refl W (S.set rv i) fun ws z => ?_)
    simp only [gIn, decide_eq_true_eq] at z
    rw [wipe_set, if_pos z]
  | tup gs =>
    cases e <;> simp only [chkG, Bool.false_eq_true] at h
    rename_i xs kk pos
    have st0 := all_starG h
    have key : ∀ ds vs, asGs G b gs ds env st = .ok env' st' → Reps L H (fx ++ cm) cm vs ds → wGs X xs vs σ H Q := fun ds vs e1 r => I.gs C (by exact h) ds env st env' st' e1 vs σ H fx cm W S r hb Q q
    have hlen : ∀ ds vs, asGs G b gs ds env st = .ok env' st' → Reps L H (fx ++ cm) cm vs ds → (assignEach xs X.env).length = vs.length := fun ds vs e1 r => by
      rw [r.length, gs_len e1, ← gs_at h]
      exact asg_len
    have pgs : PGs X xs (wGs X xs) := ⟨fun pins s _ _ _ us _ I r h => h pins s us I r⟩
    simp only [asG] at ev
    cases rv with
    | tup n1 t1 r1 => exact wG_of (pg_tup C.calm pgs (hlen _ _ ev r1) (asg_star st0)) ⟨_, _, rfl, SqT.of t1, rfl, key _ _ ev r1⟩
    | kt n1 r1 => exact wG_of (pg_tup C.calm pgs (hlen _ _ ev r1) (asg_star st0)) ⟨_, _, rfl, by rw [C.hK]; exact n1.sq, rfl, key _ _ ev r1⟩
    | kl n1 r1 => exact wG_of (pg_unl C.calm pgs (hlen _ _ ev r1) (asg_star st0)) ⟨_, _, rfl, by rw [C.hK]; exact KL.sq n1, rfl, key _ _ ev r1⟩
    | lst n1 t1 r1 => exact wG_of (pg_unl C.calm pgs (hlen _ _ ev r1) (asg_star st0)) ⟨_, _, rfl, .inl t1, rfl, key _ _ ev r1⟩
    | _ => cases ev
  | sub a i =>
    cases e <;> simp only [chkG, Bool.false_eq_true, Bool.and_eq_true] at h
    rename_i l r pos
    simp only [asG] at ev
    obtain ⟨x, s1, e1, ev⟩ := Out.bind_is ev
    obtain ⟨y, s2, e2, ev⟩ := Out.bind_is ev
    obtain ⟨u, s3, e3, ev⟩ := Out.bind_is ev
    cases ev
    refine wG_of (pg_sub pe_w pe_w set_w (assignSub_of h.1.1)) ?_
    refine (I.e C h.1.2).use e1 W S hb fun v1 H1 cm1 p1 W1 r1 => ?_
    refine (I.e C h.2).use e2 W1 (S.step p1.step) (p1.ble hb) fun v2 H2 cm2 p2 W2 r2 => ?_
    have p12 := p1.trans p2
    exact set_sound C.hu1 e3 (r1.step p2.step) r2 (rv.step p12.step) W2 fun H3 p3 W3 => q σ H3 cm2 (p12.trans p3) W3 ((S.step p12.step).step p3.step) fun ws _ => rfl
  | fld a f => simp [chkG] at h
theorem se_gs {es : List Expr} {gs : IGs} {n : Nat} (I : Snd L G k n) (C : CtxOk L G k X c) (h : chkGs (n + 1) c es gs = true) : SGs L G b X es gs := by
  intro ds env st env' st' ev vs σ H fx cm W S rs hb Q q
  have wGs_of : ∀ {ts : List Expr} {t : TGs} {vs : List V} {σ : L2.St} {H : Hp} {Q : L2.St → Hp → Prop}, PGs X ts t → t vs σ H Q → wGs X ts vs σ H Q := fun h q pins s us I r => h.run pins s _ _ _ us _ I r q
  cases gs with
  | nil =>
    cases es with
    | cons _ _ => simp [chkGs] at h
    | nil =>
      cases ds with
      | cons _ _ => simp [asGs] at ev
      | nil =>
        simp only [asGs, Out.ok.injEq] at ev
        obtain ⟨rfl, rfl⟩ := ev
        cases rs
        exact wGs_of pgs_nil ⟨rfl, q σ H cm .refl W S fun ws _ => rfl⟩
  | cons g gs =>
    cases es with
    | nil => simp [chkGs] at h
    | cons e es =>
      cases ds with
      | nil => simp [asGs] at ev
      | cons d ds =>
        simp only [chkGs, Bool.and_eq_true] at h
        simp only [asGs] at ev
        obtain ⟨env1, s1, e1, e2⟩ := Out.bind_is ev
        cases rs with
        | cons r1 r2 =>
          have pgs : PGs X es (wGs X es) := ⟨fun pins s _ _ _ us _ I r h => h pins s us I r⟩
          refine wGs_of (pgs_cons pg_w pgs (asg_of h.1.1)) ⟨_, _, rfl, ?_⟩
          refine I.g C h.1.2 d env st env1 s1 e1 _ σ H fx cm W S r1 hb _ fun σ1 H1 cm1 p1 W1 S1 z1 => ?_
          refine I.gs C h.2 ds env1 s1 env' st' e2 _ σ1 H1 fx cm1 W1 S1 (r2.step p1.step) (p1.ble hb) _ fun σ2 H2 cm2 p2 W2 S2 z2 => ?_
          refine q σ2 H2 cm2 (p1.trans p2) W2 S2 fun ws z => ?_
          simp only [gsIn, Bool.and_eq_true] at z
          rw [z2 ws z.2, z1 ws z.1]

theorem se_cmpQ {o : Cmp} {x y : R} {k' : Bool} {st2 : Store} {v1 v2 : V} {H2 : Hp} {fx cm2 : List Addr} {Q : VK} (C : CtxOk L G k X c) (e : cmpR G.gd o x.d y.d st2 = some k') (r1 : Rep L H2 (fx ++ cm2) cm2 v1 x.d) (r2 : Rep L H2 (fx ++ cm2) cm2 v2 y.d) (W : Valid L H2 (fx ++ cm2) cm2 st2)
    (q : Q (.bl k') H2) : rW X (compareOp (cmpOf o)) v1 v2 H2 Q := cmp_sound C.hK C.hu e r1 r2 W q
theorem se_t {e : Expr} {t : IT} {n : Nat} (I : Snd L G k n) (C : CtxOk L G k X c) (h : chkT (n + 1) c e t = true) : STt L G b X (wT X e) t := by
  intro env st kk st' ev σ H fx cm W S hb Q q
  cases t with
  | and t u =>
    simp only [chkT] at h
    split at h
    · simp only [Bool.and_eq_true] at h
      simp only [evT] at ev
      obtain ⟨k1, s1, e1, ev⟩ := Out.bind_is ev
      refine wT_of (PW.pt (pw_and pt_w pw_w)) ?_
      refine I.t C h.1 env st k1 s1 e1 σ H fx cm W S hb _ fun H1 cm1 p1 W1 => ?_
      cases k1 with
      | true => exact I.w C h.2 env s1 kk st' ev σ H1 fx cm1 W1 (S.step p1.step) (p1.ble hb) _ fun H2 cm2 p2 W2 => q H2 cm2 (p1.trans p2) W2
      | false =>
        cases ev
        exact q H1 cm1 p1 W1
    · cases h
  | or t u =>
    simp only [chkT] at h
    split at h
    · simp only [Bool.and_eq_true] at h
      simp only [evT] at ev
      obtain ⟨k1, s1, e1, ev⟩ := Out.bind_is ev
      refine wT_of (PW.pt (pw_or pt_w pw_w)) ?_
      refine I.t C h.1 env st k1 s1 e1 σ H fx cm W S hb _ fun H1 cm1 p1 W1 => ?_
      cases k1 with
      | false => exact I.w C h.2 env s1 kk st' ev σ H1 fx cm1 W1 (S.step p1.step) (p1.ble hb) _ fun H2 cm2 p2 W2 => q H2 cm2 (p1.trans p2) W2
      | true =>
        cases ev
        exact q H1 cm1 p1 W1
    · cases h
  | not t =>
    simp only [chkT] at h
    split at h
    · simp only [evT] at ev
      obtain ⟨k1, s1, e1, ev⟩ := Out.bind_is ev
      cases ev
      refine wT_of (pt_not pt_w) ?_
      exact I.t C h env st k1 _ e1 σ H fx cm W S hb _ fun H1 cm1 p1 W1 => q H1 cm1 p1 W1
    · cases h
  | e a =>
    simp only [evT] at ev
    obtain ⟨x, s1, e1, ev⟩ := Out.bind_is ev
    obtain ⟨ev, rfl⟩ := Out.of_is ev
    have plain : ∀ {e'}, plainT e' = true → chkE n c e' a = true → wT X e' σ H Q := fun {e'} h1 h2 => by
      have pt : PT X e' (fun σ H Q => wE X e' σ H fun x H' => truW X x H' Q) := ⟨fun pins s σ H Q I hq =>
        isTrue_plain (thn (hq pins s I) fun v s1 ⟨y, H1, I1, r1, q1⟩ => q1 pins s1 σ v I1 r1) (plainT_of h1 _)⟩
      refine wT_of pt ?_
      exact (I.e C h2).use e1 W S hb fun v H1 cm1 p1 W1 r1 => tru_sound C.hK ev r1 W1 (q H1 cm1 p1 W1)
    cases a with
    | cmp o a d =>
      simp only [chkT] at h
      split at h
      · simp only [Bool.and_eq_true, decide_eq_true_eq] at h
        simp only [evE] at e1
        obtain ⟨y, s2, f1, e1⟩ := Out.bind_is e1
        obtain ⟨z, s3, f2, e1⟩ := Out.bind_is e1
        obtain ⟨e1, rfl⟩ := Out.of_is e1
        obtain ⟨k', e9, rfl⟩ := bl_case e1
        simp only [R.d_v, tru, Option.some.injEq] at ev
        subst ev
        refine wT_of (pt_cmpR (op_w) pe_w pe_w (marks_of h.1.1.2)) ?_
        refine (I.e C h.1.2).use f1 W S hb fun v1 H1 cm1 p1 W1 r1 => ?_
        refine (I.e C h.2).use f2 W1 (S.step p1.step) (p1.ble hb) fun v2 H2 cm2 p2 W2 r2 => ?_
        rw [← h.1.1.1]
        exact se_cmpQ C e9 (r1.step p2.step) r2 W2 ⟨k', rfl, q H2 cm2 (p1.trans p2) W2⟩
      · cases h
    | chain o o' a d f =>
      simp only [chkT] at h
      split at h
      · simp only [Bool.and_eq_true, decide_eq_true_eq] at h
        simp only [evE] at e1
        obtain ⟨y, s2, f1, e1⟩ := Out.bind_is e1
        obtain ⟨z, s3, f2, e1⟩ := Out.bind_is e1
        obtain ⟨k1, s4, f3, e1⟩ := Out.bind_is e1
        obtain ⟨f3, rfl⟩ := Out.of_is f3
        refine wT_of (pt_chain op_w op_w pe_w pe_w pe_w (by show lastMarks _ _ = false; exact marks_of h.1.1.1.2)) ?_
        refine (I.e C h.1.1.2).use f1 W S hb fun v1 H1 cm1 p1 W1 r1 => ?_
        refine (I.e C h.1.2).use f2 W1 (S.step p1.step) (p1.ble hb) fun v2 H2 cm2 p2 W2 r2 => ?_
        rw [← h.1.1.1.1.1, ← h.1.1.1.1.2]
        refine se_cmpQ C f3 (r1.step p2.step) r2 W2 ⟨k1, rfl, ?_⟩
        have p12 := p1.trans p2
        cases k1 with
        | false =>
          cases e1
          simp only [R.d_v, tru, Option.some.injEq] at ev
          subst ev
          exact iteF ⟨false, rfl, q H2 cm2 p12 W2⟩
        | true =>
          obtain ⟨w, s5, f4, e1⟩ := Out.bind_is e1
          obtain ⟨e1, rfl⟩ := Out.of_is e1
          obtain ⟨k', e9, rfl⟩ := bl_case e1
          simp only [R.d_v, tru, Option.some.injEq] at ev
          subst ev
          refine iteT ?_
          refine (I.e C h.2).use f4 W2 (S.step p12.step) (p12.ble hb) fun v3 H3 cm3 p3 W3 r3 => ?_
          exact se_cmpQ C e9 (r2.step p3.step) r3 W3 ⟨k', rfl, q H3 cm3 (p12.trans p3) W3⟩
      · cases h
    | _ =>
      simp only [chkT, Bool.and_eq_true] at h
      exact plain h.1 h.2
theorem se_w {e : Expr} {t : IT} {n : Nat} (I : Snd L G k n) (C : CtxOk L G k X c) (h : chkW (n + 1) c e t = true) : STt L G b X (wW X e) t := by
  intro env st kk st' ev σ H fx cm W S hb Q q
  simp only [chkW] at h
  split at h
  · rename_i op l p
    cases op with
    | And => exact wW_of (pw_and1 pt_w) (I.t C h env st kk st' ev σ H fx cm W S hb Q q)
    | Or => exact wW_of (pw_or1 pt_w) (I.t C h env st kk st' ev σ H fx cm W S hb Q q)
  · split at h
    · simp only [Bool.and_eq_true] at h
      simp only [evT] at ev
      obtain ⟨k1, s1, e1, ev⟩ := Out.bind_is ev
      refine wW_of (pw_and pt_w pw_w) ?_
      refine I.t C h.1 env st k1 s1 e1 σ H fx cm W S hb _ fun H1 cm1 p1 W1 => ?_
      cases k1 with
      | true => exact I.w C h.2 env s1 kk st' ev σ H1 fx cm1 W1 (S.step p1.step) (p1.ble hb) _ fun H2 cm2 p2 W2 => q H2 cm2 (p1.trans p2) W2
      | false =>
        cases ev
        exact q H1 cm1 p1 W1
    · cases h
  · split at h
    · simp only [Bool.and_eq_true] at h
      simp only [evT] at ev
      obtain ⟨k1, s1, e1, ev⟩ := Out.bind_is ev
      refine wW_of (pw_or pt_w pw_w) ?_
      refine I.t C h.1 env st k1 s1 e1 σ H fx cm W S hb _ fun H1 cm1 p1 W1 => ?_
      cases k1 with
      | false => exact I.w C h.2 env s1 kk st' ev σ H1 fx cm1 W1 (S.step p1.step) (p1.ble hb) _ fun H2 cm2 p2 W2 => q H2 cm2 (p1.trans p2) W2
      | true =>
        cases ev
        exact q H1 cm1 p1 W1
    · cases h
  · cases h
theorem se_o {e : Option Expr} {o : En.IO} {n : Nat} (I : Snd L G k n) (C : CtxOk L G k X c) (h : chkO (n + 1) c e o = true) : SO L G b X e o := by
  intro env st kk st' ev σ H fx cm W S hb Q q
  cases o with
  | none =>
    simp only [chkO] at h
    split at h
    · simp only [evO, Out.ok.injEq] at ev
      obtain ⟨rfl, rfl⟩ := ev
      exact wO_of po_none (q H cm .refl W)
    · cases h
  | some a =>
    simp only [chkO] at h
    split at h
    · simp only [evO] at ev
      obtain ⟨x, s1, e1, ev⟩ := Out.bind_is ev
      refine wO_of (po_some pe_w) ?_
      refine (I.e C h).use e1 W S hb fun v1 H1 cm1 p1 W1 r1 => ?_
      generalize x.d = xd at ev r1
      cases r1 with
      | int i =>
        cases ev
        exact ⟨_, rfl, q H1 cm1 p1 W1⟩
      | _ => cases ev
    · cases h
theorem se_c {ifs : List Expr} {t : IC} {n : Nat} (I : Snd L G k n) (C : CtxOk L G k X c) (h : chkC (n + 1) c ifs t = true) : SC' L G b X ifs t := by
  intro env st kk st' ev σ H fx cm W S hb Q q
  cases t with
  | yes =>
    simp only [chkC] at h
    split at h
    · simp only [evC, Out.ok.injEq] at ev
      obtain ⟨rfl, rfl⟩ := ev
      exact wC_of pts_nil (q H cm .refl W)
    · cases h
  | t t =>
    simp only [chkC] at h
    split at h
    · simp only [evC] at ev
      exact wC_of (pts_one pt_w) (I.t C h env st kk st' ev σ H fx cm W S hb Q q)
    · cases h
end
end En

set_option Elab.async false
set_option linter.all false
set_option maxRecDepth 100000
set_option maxHeartbeats 2000000
namespace En
open PySem PySem.Spec PyProof.Rows L2
section
variable {L : Lk} {G : Glo} {k b : Nat} {X : Cx} {c : SC}
theorem sq_lst {H1 : Hp} {fx cm1 : List Addr} {a : Addr} {vs : List V} (n : a ∉ fx ++ cm1) (t : Rd H1 a (.lst vs)) : ∀ H cm, Step H1 cm1 H cm → SqL L.K H a vs := fun H cm s =>
  .inl (s.ext.rd (fun z => n (List.mem_append_right _ z)) t)
theorem wkd_list {H1 : Hp} {fx cm1 : List Addr} {a : Addr} {vs : List V} {ds : List D} (t : ∀ H cm, Step H1 cm1 H cm → SqL L.K H a vs) (r : Reps L H1 (fx ++ cm1) cm1 vs ds) : WkD L (Itl L.K a) H1 fx cm1 ds where
  go := fun i H cm hi s => by
    have hv : i < vs.length := by rw [r.length]; exact hi
    exact ⟨vs, vs[i], t _ _ s, List.getElem?_eq_getElem hv⟩
  stop := fun H cm s => ⟨vs, t _ _ s, Nat.le_of_eq r.length⟩
  yld := fun b i H fy cm st x H' hf hi s W y => by
    obtain ⟨rfl, y⟩ := y
    have hx := y vs (t _ _ s)
    obtain ⟨d, h1, h2⟩ := r.getV hx
    exact ⟨d, h1, .refl, W, (swap_fx hf h2).step s⟩
theorem wkd_tup {H1 : Hp} {fx cm1 : List Addr} {a : Addr} {vs : List V} {ds : List D} (t : ∀ H cm, Step H1 cm1 H cm → SqT L.K H a vs) (r : Reps L H1 (fx ++ cm1) cm1 vs ds) : WkD L (Itt L.K a) H1 fx cm1 ds where
  go := fun i H cm hi s => by
    have hv : i < vs.length := by rw [r.length]; exact hi
    exact ⟨vs, vs[i], t H cm s, List.getElem?_eq_getElem hv⟩
  stop := fun H cm s => ⟨vs, t H cm s, Nat.le_of_eq r.length⟩
  yld := fun b i H fy cm st x H' hf hi s W y => by
    obtain ⟨rfl, y⟩ := y
    have hx := y vs (t _ _ s)
    obtain ⟨d, h1, h2⟩ := r.getV hx
    exact ⟨d, h1, .refl, W, (swap_fx hf h2).step s⟩
theorem sq_tup {H1 : Hp} {fx cm1 : List Addr} {a : Addr} {vs : List V} (n : a ∉ fx ++ cm1) (t : H1 a = some (.tup vs)) : ∀ H cm, Step H1 cm1 H cm → SqT L.K H a vs := fun H cm s =>
  SqT.of (s.ext _ _ (fun z => n (List.mem_append_right _ z)) t)
theorem enumL_get : ∀ (ds : List D) (k i : Nat), (enumL k ds)[i]? = (ds[i]?).map fun d => .tup [.int ((k + i : Nat) : Int), d]
  | [], k, i => by simp [enumL]
  | d :: ds, k, 0 => by simp [enumL]
  | d :: ds, k, i + 1 => by
    simp only [enumL, List.getElem?_cons_succ]
    rw [enumL_get ds (k + 1) i]
    have e : k + 1 + i = k + (i + 1) := by omega
    rw [e]
theorem enumL_len : ∀ (ds : List D) (k : Nat), (enumL k ds).length = ds.length
  | [], _ => rfl
  | d :: ds, k => by simp only [enumL, List.length_cons, enumL_len ds]
theorem wkd_enum {H1 : Hp} {fx cm1 : List Addr} {a : Addr} {vs : List V} {ds : List D} (t : ∀ H cm, Step H1 cm1 H cm → SqL L.K H a vs) (r : Reps L H1 (fx ++ cm1) cm1 vs ds) : WkD L (Ite L.K a) H1 fx cm1 (enumL 0 ds) where
  go := fun i H cm hi s => by
    rw [enumL_len] at hi
    have hv : i < vs.length := by rw [r.length]; exact hi
    exact ⟨vs, vs[i], t _ _ s, List.getElem?_eq_getElem hv⟩
  stop := fun H cm s => ⟨vs, t _ _ s, Nat.le_of_eq (by rw [enumL_len, r.length])⟩
  yld := fun b i H fy cm st x H' hf hi s W y => by
    obtain ⟨T, z, rfl, nT, rfl, y⟩ := y
    have hx := y vs (t _ _ s)
    obtain ⟨d, h1, h2⟩ := r.getV hx
    have h3 := (swap_fx hf h2).step s
    refine ⟨.tup [.int i, d], by rw [enumL_get, h1]; simp, .keep (keep_new nT), W.keep (keep_new nT), .tup (W.nin nT) upd_same ?_⟩
    exact (Reps.cons (.int _) (.one h3)).ext fun a o _ => keep_new nT a o
theorem wkd_enumT {H1 : Hp} {fx cm1 : List Addr} {a : Addr} {vs : List V} {ds : List D} (t : ∀ H cm, Step H1 cm1 H cm → SqT L.K H a vs) (r : Reps L H1 (fx ++ cm1) cm1 vs ds) : WkD L (IteT L.K a) H1 fx cm1 (enumL 0 ds) where
  go := fun i H cm hi s => by
    rw [enumL_len] at hi
    have hv : i < vs.length := by rw [r.length]; exact hi
    exact ⟨vs, vs[i], t H cm s, List.getElem?_eq_getElem hv⟩
  stop := fun H cm s => ⟨vs, t H cm s, Nat.le_of_eq (by rw [enumL_len, r.length])⟩
  yld := fun b i H fy cm st x H' hf hi s W y => by
    obtain ⟨T, z, rfl, nT, rfl, y⟩ := y
    have hx := y vs (t _ _ s)
    obtain ⟨d, h1, h2⟩ := r.getV hx
    have h3 := (swap_fx hf h2).step s
    refine ⟨.tup [.int i, d], by rw [enumL_get, h1]; simp, .keep (keep_new nT), W.keep (keep_new nT), .tup (W.nin nT) upd_same ?_⟩
    exact (Reps.cons (.int _) (.one h3)).ext fun a o _ => keep_new nT a o
theorem pairs2_get : ∀ (xs ys : List D) (i : Nat) (x y : D), xs[i]? = some x → ys[i]? = some y → (pairs2 xs ys)[i]? = some (.tup [x, y])
  | [], _, _, _, _, h, _ => by simp at h
  | _ :: _, [], _, _, _, _, h => by simp at h
  | x :: xs, y :: ys, 0, _, _, h, h2 => by
    simp only [List.getElem?_cons_zero, Option.some.injEq] at h h2
    subst h h2
    simp [pairs2]
  | x :: xs, y :: ys, i + 1, _, _, h, h2 => by
    simp only [pairs2, List.getElem?_cons_succ] at h h2 ⊢
    exact pairs2_get xs ys i _ _ h h2
theorem pairs2_len : ∀ (xs ys : List D), (pairs2 xs ys).length = min xs.length ys.length
  | [], ys => by simp [pairs2]
  | x :: xs, [] => by simp [pairs2]
  | x :: xs, y :: ys => by
    simp only [pairs2, List.length_cons, pairs2_len xs ys]
    omega
theorem wkd_zip {H1 : Hp} {fx cm1 : List Addr} {k1 k2 : Bool} {a a2 : Addr} {vs ws : List V} {ds es : List D} (t : ∀ H cm, Step H1 cm1 H cm → SqK L.K H k1 a vs) (r : Reps L H1 (fx ++ cm1) cm1 vs ds) (t2 : ∀ H cm, Step H1 cm1 H cm → SqK L.K H k2 a2 ws) (r2 : Reps L H1 (fx ++ cm1) cm1 ws es) :
    WkD L (ItzM L.K k1 k2 a a2) H1 fx cm1 (pairs2 ds es) where
  go := fun i H cm hi s => by
    rw [pairs2_len] at hi
    have hv : i < vs.length := by rw [r.length]; omega
    have hw : i < ws.length := by rw [r2.length]; omega
    exact ⟨vs, ws, vs[i], ws[i], t _ _ s, t2 _ _ s, List.getElem?_eq_getElem hv, List.getElem?_eq_getElem hw⟩
  stop := fun H cm s => ⟨vs, ws, t _ _ s, t2 _ _ s, by
    rw [pairs2_len, r.length]
    omega, by
    rw [pairs2_len, r2.length]
    omega, by
    rw [pairs2_len, r.length, r2.length]
    omega⟩
  yld := fun b i H fy cm st x H' hf hi s W y => by
    obtain ⟨T, z, z2, rfl, nT, rfl, y, y2⟩ := y
    have hx := y vs (t _ _ s)
    have hx2 := y2 ws (t2 _ _ s)
    obtain ⟨d, h1, h2⟩ := r.getV hx
    obtain ⟨d2, h3, h4⟩ := r2.getV hx2
    refine ⟨.tup [d, d2], pairs2_get _ _ _ _ _ h1 h3, .keep (keep_new nT), W.keep (keep_new nT), .tup (W.nin nT) upd_same ?_⟩
    exact (Reps.cons ((swap_fx hf h2).step s) (.one ((swap_fx hf h4).step s))).ext fun a o _ => keep_new nT a o
theorem frz_src {H2 : Hp} {fx cm2 : List Addr} {v : V} {d : D} {kd : Bool} {ds : List D} (r : Rep L H2 (fx ++ cm2) cm2 v d) (h : frzSeq d = some (kd, ds)) :
    ∃ a us, v = .ref a ∧ (∀ H cm, Step H2 cm2 H cm → SqK L.K H kd a us) ∧ Reps L H2 (fx ++ cm2) cm2 us ds := by
  cases r with
  | tup n t r =>
    cases h
    exact ⟨_, _, rfl, sq_tup n t, r⟩
  | lst n t r =>
    cases h
    exact ⟨_, _, rfl, sq_lst n t, r⟩
  | kt n r =>
    cases h
    exact ⟨_, _, rfl, fun _ _ _ => n.sq, r⟩
  | kl n r =>
    cases h
    exact ⟨_, _, rfl, fun _ _ _ => KL.sq n, r⟩
  | _ => cases h
theorem rngL_get : ∀ (n : Nat) (lo : Int) (i : Nat), i < n → (rngL lo n)[i]? = some (.int (lo + i))
  | 0, _, _, h => by omega
  | n + 1, lo, 0, _ => by simp [rngL]
  | n + 1, lo, i + 1, h => by
    simp only [rngL, List.getElem?_cons_succ]
    rw [rngL_get n (lo + 1) i (by omega)]
    have e : lo + 1 + (i : Int) = lo + ((i + 1 : Nat) : Int) := by omega
    rw [e]
theorem rngL_len : ∀ (n : Nat) (lo : Int), (rngL lo n).length = n
  | 0, _ => rfl
  | n + 1, lo => by simp only [rngL, List.length_cons, rngL_len n]
theorem wkd_rng {H1 : Hp} {fx cm1 : List Addr} {lo : Int} {n : Nat} : WkD L (Itr lo n) H1 fx cm1 (rngL lo n) where
  go := fun i H cm hi s => by rw [rngL_len] at hi; exact hi
  stop := fun H cm s => Nat.le_of_eq (rngL_len n lo).symm
  yld := fun b i H fy cm st x H' hf hi s W y => by
    obtain ⟨rfl, rfl⟩ := y
    rw [rngL_len] at hi
    exact ⟨_, rngL_get n lo i hi, .refl, W, .int _⟩
theorem wkd_str {H1 : Hp} {fx cm1 : List Addr} {z : Str} : WkD L (Its z) H1 fx cm1 (z.cps.toList.map fun c => .str ⟨#[c]⟩) where
  go := fun i H cm hi s => by
    show i < z.cps.size
    simpa using hi
  stop := fun H cm s => by show z.cps.size ≤ _; simp
  yld := fun b i H fy cm st x H' hf hi s W y => by
    obtain ⟨rfl, c, hc, rfl⟩ := y
    refine ⟨.str ⟨#[c]⟩, ?_, .refl, W, .str _⟩
    rw [List.getElem?_map, Array.getElem?_toList, hc]
    rfl
theorem se_i {tg e : Expr} {it : II} {n : Nat} (I : Snd L G k n) (C : CtxOk L G k X c) (h : chkI (n + 1) c tg e it = true) : SI L G b X tg e it := by
  intro env st m st' ev σ H fx cm W S hb R q
  have s1 : ∀ {l : Expr}, noStar l = true → starEach [l] X.env = [(false, eval l X.env)] := fun {l} h => star_of h
  have s2 : ∀ {l r : Expr}, noStar l = true → noStar r = true → starEach [l, r] X.env = [(false, eval l X.env), (false, eval r X.env)] := fun {l r} h h2 => by rw [star_of h, star_of h2]; rfl
  cases it with
  | seq a =>
    simp only [chkI] at h
    simp only [evI] at ev
    obtain ⟨x, st1, e1, ev⟩ := Out.bind_is ev
    have use := @SE.use L G b X e a (I.e C h) env st x st1 e1 σ H fx cm W S hb
    split at ev
    · rename_i ds hx
      cases ev
      refine wI_of (pi_list pe_w) (use fun v H1 cm1 p1 W1 r1 => ?_)
      rw [hx] at r1
      cases r1 with
      | kl n r => exact ⟨_, rfl, ⟨_, C.hK ▸ KL.sq n⟩, q _ H1 cm1 p1 W1 (C.hK ▸ wkd_list (fun H cm _ => KL.sq n) r)⟩
      | lst n t r => exact ⟨_, rfl, ⟨_, .inl t⟩, q _ H1 cm1 p1 W1 (C.hK ▸ wkd_list (sq_lst n t) r)⟩
    · rename_i ds hx
      cases ev
      refine wI_of (pi_tup pe_w) (use fun v H1 cm1 p1 W1 r1 => ?_)
      rw [hx] at r1
      cases r1 with
      | tup n t r => exact ⟨_, rfl, ⟨_, SqT.of t⟩, q _ H1 cm1 p1 W1 (C.hK ▸ wkd_tup (sq_tup n t) r)⟩
    · rename_i ds hx
      cases ev
      refine wI_of (pi_tup pe_w) (use fun v H1 cm1 p1 W1 r1 => ?_)
      rw [hx] at r1
      cases r1 with
      | kt n r => exact ⟨_, rfl, ⟨_, C.hK ▸ n.sq⟩, q _ H1 cm1 p1 W1 (C.hK ▸ wkd_tup (fun H cm _ => n.sq) r)⟩
    · rename_i n hx
      split at ev
      · rename_i ds hn
        cases ev
        refine wI_of (pi_list pe_w) (use fun v H1 cm1 p1 W1 r1 => ?_)
        rw [hx] at r1
        obtain ⟨a, rfl, ha, _, us, h1, _⟩ := cell_at W1 r1 hn
        exact ⟨_, rfl, ⟨_, .inl (.inl h1)⟩, q _ H1 cm1 p1 W1 (C.hK ▸ ⟨a, ha, rfl⟩)⟩
      · cases ev
    · rename_i z hx
      cases ev
      refine wI_of (pi_str pe_w) (use fun v H1 cm1 p1 W1 r1 => ?_)
      rw [hx] at r1
      cases r1
      exact ⟨_, rfl, q _ H1 cm1 p1 W1 wkd_str⟩
    · cases ev
  | rng1 a =>
    simp only [chkI] at h
    split at h
    · simp only [Bool.and_eq_true, decide_eq_true_eq] at h
      obtain ⟨⟨⟨⟨g1, rfl⟩, g3⟩, g4⟩, g5⟩ := h
      simp only [evI] at ev
      obtain ⟨x, st1, e1, ev⟩ := Out.bind_is ev
      split at ev
      · rename_i i hx
        split at ev
        · rename_i hi
          simp only [decide_eq_true_eq] at hi
          cases ev
          refine wI_of (pi_range1 (C.gl_ g1) (C.blt _ g3) (pa_cons pe_w pa_nil (star_of g4)) (s1 g4)) ?_
          refine (I.e C g5).use e1 W S hb fun v H1 cm1 p1 W1 r1 => ?_
          rw [hx] at r1
          cases r1
          exact ⟨i, rfl, hi.1, hi.2, q _ H1 cm1 p1 W1 wkd_rng⟩
        · cases ev
      · cases ev
    · cases h
  | rng2 a d =>
    simp only [chkI] at h
    split at h
    · simp only [Bool.and_eq_true, decide_eq_true_eq] at h
      obtain ⟨⟨⟨⟨⟨⟨g1, rfl⟩, g3⟩, g4⟩, g4'⟩, g5⟩, g6⟩ := h
      simp only [evI] at ev
      obtain ⟨x, st1, e1, ev⟩ := Out.bind_is ev
      obtain ⟨y, st2, e2, ev⟩ := Out.bind_is ev
      split at ev
      · rename_i i j hx hy
        split at ev
        · rename_i hi
          simp only [decide_eq_true_eq] at hi
          cases ev
          refine wI_of (pi_range2 (C.gl_ g1) (C.blt _ g3) (pa_cons pe_w (pa_cons pe_w pa_nil (star_of g4')) (star_of g4)) (s2 g4 g4') (s1 g4')) ?_
          refine (I.e C g5).use e1 W S hb fun v H1 cm1 p1 W1 r1 => ?_
          refine (I.e C g6).use e2 W1 (S.step p1.step) (p1.ble hb) fun v2 H2 cm2 p2 W2 r2 => ?_
          rw [hx] at r1
          rw [hy] at r2
          cases r1
          cases r2
          exact ⟨i, j, rfl, hi, q _ H2 cm2 (p1.trans p2) W2 wkd_rng⟩
        · cases ev
      · cases ev
    · cases h
  | rng3 a d f => simp [chkI] at h
  | enum a =>
    simp only [chkI] at h
    split at h
    · split at h
      · simp only [Bool.and_eq_true, decide_eq_true_eq] at h
        obtain ⟨⟨⟨⟨g1, rfl⟩, g3⟩, g4⟩, g5⟩ := h
        simp only [evI] at ev
        obtain ⟨x, st1, e1, ev⟩ := Out.bind_is ev
        split at ev
        · rename_i ds hx
          cases ev
          refine wI_of (pi_enum (C.gl_ g1) (C.blt _ g3) (pa_cons pe_w pa_nil (star_of g4)) (s1 g4)) ?_
          refine (I.e C g5).use e1 W S hb fun v H1 cm1 p1 W1 r1 => ?_
          rw [hx] at r1
          cases r1 with
          | kl n r => exact ⟨_, _, rfl, C.hK ▸ KL.sq n, q _ H1 cm1 p1 W1 (C.hK ▸ wkd_enum (fun H cm _ => KL.sq n) r)⟩
          | lst n t r => exact ⟨_, _, rfl, .inl t, q _ H1 cm1 p1 W1 (C.hK ▸ wkd_enum (sq_lst n t) r)⟩
        · rename_i ds hx
          cases ev
          refine wI_of (pi_enumT (C.gl_ g1) (C.blt _ g3) (pa_cons pe_w pa_nil (star_of g4)) (s1 g4)) ?_
          refine (I.e C g5).use e1 W S hb fun v H1 cm1 p1 W1 r1 => ?_
          rw [hx] at r1
          cases r1 with
          | tup n t r => exact ⟨_, _, rfl, SqT.of t, q _ H1 cm1 p1 W1 (C.hK ▸ wkd_enumT (sq_tup n t) r)⟩
        · cases ev
      · cases h
    · cases h
  | zip a d =>
    simp only [chkI] at h
    split at h
    · split at h
      · simp only [Bool.and_eq_true, decide_eq_true_eq] at h
        obtain ⟨⟨⟨⟨⟨⟨g1, rfl⟩, g3⟩, g4⟩, g4'⟩, g5⟩, g6⟩ := h
        simp only [evI] at ev
        obtain ⟨x, st1, e1, ev⟩ := Out.bind_is ev
        obtain ⟨y, st2, e2, ev⟩ := Out.bind_is ev
        split at ev
        · rename_i k1 ds k2 es hx hy
          cases ev
          refine wI_of (pi_zipM (C.gl_ g1) (C.blt _ g3) (pa_cons pe_w (pa_cons pe_w pa_nil (star_of g4')) (star_of g4)) (star_of g4) (stars_of (by intro e m; rw [List.mem_singleton.mp m]; exact g4'))) ?_
          refine (I.e C g5).use e1 W S hb fun v H1 cm1 p1 W1 r1 => ?_
          refine (I.e C g6).use e2 W1 (S.step p1.step) (p1.ble hb) fun v2 H2 cm2 p2 W2 r2 => ?_
          have r1 := r1.step p2.step
          obtain ⟨a1, u1, rfl, t1, q1⟩ := frz_src r1 hx
          obtain ⟨a2, u2, rfl, t2, q2⟩ := frz_src r2 hy
          exact ⟨_, _, _, _, _, _, rfl, C.hK ▸ t1 _ _ (.refl _ _), C.hK ▸ t2 _ _ (.refl _ _), q _ H2 cm2 (p1.trans p2) W2 (C.hK ▸ wkd_zip t1 q1 t2 q2)⟩
        · cases ev
      · cases h
    · cases h

def bE (X : Cx) (scope : Scope) (e : Expr) : TE := fun σ H Q => ∀ (s : Shared) (H0 : Hp) (A : Addr) (cl : List (Str × Addr)) (fp : List Addr), wE (X.blk s H0 scope (compEnvC scope cl A X.env) fp) e σ H Q
def bG (X : Cx) (scope : Scope) (tg : Expr) : TG := fun v σ H Q => ∀ (s : Shared) (H0 : Hp) (A : Addr) (cl : List (Str × Addr)) (fp : List Addr), wG (X.blk s H0 scope (compEnvC scope cl A X.env) fp) tg v σ H Q
def bC (X : Cx) (scope : Scope) (ifs : List Expr) : TT := fun σ H Q => ∀ (s : Shared) (H0 : Hp) (A : Addr) (cl : List (Str × Addr)) (fp : List Addr), wC (X.blk s H0 scope (compEnvC scope cl A X.env) fp) ifs σ H Q
theorem pe_b {scope : Scope} {e : Expr} (s : Shared) (H0 : Hp) (A : Addr) (cl : List (Str × Addr)) (fp : List Addr) : PE (X.blk s H0 scope (compEnvC scope cl A X.env) fp) e (bE X scope e) := ⟨fun pins s' _ _ _ I h => h s H0 A cl fp pins s' I⟩
theorem pg_b {scope : Scope} {tg : Expr} (s : Shared) (H0 : Hp) (A : Addr) (cl : List (Str × Addr)) (fp : List Addr) : PG (X.blk s H0 scope (compEnvC scope cl A X.env) fp) tg (bG X scope tg) := ⟨fun pins s' _ _ _ u _ I r h => h s H0 A cl fp pins s' u I r⟩
theorem pts_b {scope : Scope} {ifs : List Expr} (s : Shared) (H0 : Hp) (A : Addr) (cl : List (Str × Addr)) (fp : List Addr) : PTs (X.blk s H0 scope (compEnvC scope cl A X.env) fp) ifs (bC X scope ifs) := ⟨fun pins s' _ _ _ I h => h s H0 A cl fp pins s' I⟩
/-- the new thing at p, that nobody knows, changes -/
theorem Valid.upd {H : Hp} {fb cm : List Addr} {st : Store} {p : Addr} {u : HO} (W : Valid L H fb cm st) (m : p ∈ fb) (n : p ∉ cm) : Valid L (upd H p u) fb cm st := by
  have ext : Ext fb H (L2.upd H p u) := fun a o na h => by
    rw [upd_ne (fun z => na (by rw [z]; exact m))]
    exact h
  refine ⟨W.len, W.nd, W.sub, fun a ma => ?_, fun i o e => ?_⟩
  · by_cases z : a = p
    · exact ⟨u, by rw [z]; exact upd_same⟩
    · obtain ⟨q, h⟩ := W.trk a ma
      exact ⟨q, by rw [upd_ne z]; exact h⟩
  · obtain ⟨a, h1, h2⟩ := W.cells i o e
    exact ⟨a, h1, h2.ext ext (upd_ne fun z => n (by rw [← z]; exact List.mem_of_getElem? h1))⟩
theorem Reps.upd {H : Hp} {fb cm : List Addr} {p : Addr} {u : HO} {vs : List V} {ds : List D} (r : Reps L H fb cm vs ds) (m : p ∈ fb) : Reps L (upd H p u) fb cm vs ds :=
  r.ext fun a o na h => by
    rw [upd_ne (fun z => na (by rw [z]; exact m))]
    exact h
theorem Stp.updNew {H H' : Hp} {cm cm' : List Addr} {st st' : Store} {p : Addr} {u : HO} (s : Stp b H cm st H' cm' st') (n : H p = none) : Stp b H cm st (upd H' p u) cm' st' :=
  ⟨⟨fun a o na h => by
    rw [upd_ne (ne_of_none h n)]
    exact s.step.ext a o na h, s.step.new, fun a q h => by
    rw [upd_ne (ne_of_none h n)]
    exact s.step.trk a q h⟩, s.kp, s.len⟩
def lcF (G : Glo) (b : Nat) (own : List (Str × Nat)) (g : IG) (t : IC) (x : IE) (e : En.Env) (d : D) (s1 : Store) : Out (List D) :=
  (asG G b g d (wipeE e (own.map (·.2))) s1).bind fun e2 s2 => (evC G b t e2 s2).bind fun k s3 => if k then (evE G b x e2 s3).bind fun r s4 => .ok [r.d] s4 else .ok [] s3
theorem lc_read {own : List (Str × Nat)} {g : IG} {it : II} {t : IC} {x : IE} {tg iter el : Expr} {ifs : List Expr} {scope : Scope} {n : Nat} (I : Snd L G k n) (C : CtxOk L G k X c)
    (hin : gIn (own.map (·.2)) g = true) (hi : chkI n c tg iter it = true) (hg : chkG n (c.blk scope) tg g = true) (ht : chkC n (c.blk scope) ifs t = true) (he : chkE n (c.blk scope) el x = true)
    {env : En.Env} {st : Store} {r : R} {st' : Store} (ev : evE G b (.lc own g it t x) env st = .ok r st') {σ : L2.St} {H : Hp} {fx cm : List Addr} (W : Valid L H (fx ++ cm) cm st) (S : Slots L H (fx ++ cm) cm env σ) (hb : b ≤ st.length)
    {Q : VK} (q : ∀ v H' cm', Po L fx b H cm st v r H' cm' st' → Q v H') : tLc (wI X tg iter) (bG X scope tg) (bC X scope ifs) (bE X scope el) (own.map (·.2)) σ H Q := by
  simp only [evE] at ev
  obtain ⟨m, s0, e0, ev⟩ := Out.bind_is ev
  cases m with
  | c n => cases ev
  | l ds =>
    simp only at ev
    split at ev
    · rename_i hlen
      obtain ⟨res, s5, e5, ev⟩ := Out.bind_is ev
      cases ev
      refine I.i C hi env st _ s0 e0 σ H fx cm W S hb _ fun J H1 cm1 p1 W1 wk => ?_
      have wk : WkD L J H1 fx cm1 ds := wk
      intro D0 hD0
      have S1 := S.step p1.step
      have e5 : lcL (lcF G b own g t x env) ds s0 = .ok res st' := e5
      -- the invariant
      refine ⟨fun i mm Hc => mm = ds.length - i ∧ i ≤ ds.length ∧ ∃ (cm' : List Addr) (s' : Store) (acc : List V) (done rest : List D), D0 ∉ cm' ∧ Stp b H1 cm1 s0 Hc cm' s' ∧ Valid L Hc ((fx ++ [D0]) ++ cm') cm' s' ∧
        Hc D0 = some (.lst acc) ∧ Reps L Hc ((fx ++ [D0]) ++ cm') cm' acc done ∧ lcL (lcF G b own g t x env) (ds.drop i) s' = .ok rest st' ∧ res = done ++ rest ∧ done.length ≤ i,
        ⟨ds.length, by simp, Nat.zero_le _, cm1, s0, [], [], res, ?_, .keep (keep_new hD0), ?_, upd_same, .nil, by simpa using e5, by simp, by simp⟩, ?_⟩
      · exact fun z => (W1.nin hD0) (List.mem_append_right _ z)
      · refine (W1.new hD0).less (fun a m => ?_) fun a m => List.mem_append_right _ m
        simp only [List.mem_append, List.mem_singleton] at m ⊢
        rcases m with (m | m) | m
        · exact .inl (.inl m)
        · exact .inr m
        · exact .inl (.inr m)
      · rintro i mm Hc ⟨rfl, hle, cm', s', acc, done, rest, nD, sp, Wc, hD, rD, el_, hres, hdone⟩
        by_cases hi : i < ds.length
        · refine .inr ⟨wk.go i Hc cm' hi sp.step, fun H' => ∃ (cm' : List Addr) (s' : Store) (acc : List V) (done rest : List D), D0 ∉ cm' ∧ Stp b H1 cm1 s0 H' cm' s' ∧ Valid L H' ((fx ++ [D0]) ++ cm') cm' s' ∧
            H' D0 = some (.lst acc) ∧ Reps L H' ((fx ++ [D0]) ++ cm') cm' acc done ∧ lcL (lcF G b own g t x env) (ds.drop (i + 1)) s' = .ok rest st' ∧ res = done ++ rest ∧ done.length ≤ i + 1,
            fun H' hN => ⟨ds.length - (i + 1), by omega, rfl, hi, hN⟩, fun y H2 hy => ?_⟩
          obtain ⟨d, hd, p2, W2, r2⟩ := wk.yld b i Hc (fx ++ [D0]) cm' s' y H2 (fun a m => by
            rcases List.mem_append.mp m with m | m
            · exact .inl m
            · rw [List.mem_singleton.mp m]
              exact .inr hD0) hi sp.step Wc hy
          have hdrop : ds.drop i = d :: ds.drop (i + 1) := by
            obtain ⟨h1, h2⟩ := List.getElem?_eq_some_iff.mp hd
            rw [← h2]
            exact List.drop_eq_getElem_cons h1
          rw [hdrop] at el_
          simp only [lcL] at el_
          obtain ⟨out, s6, e6, el_⟩ := Out.bind_is el_
          obtain ⟨rest', s7, e7, el_⟩ := Out.bind_is el_
          simp only [Out.ok.injEq] at el_
          obtain ⟨rfl, rfl⟩ := el_
          simp only [lcF] at e6
          obtain ⟨env2, s8, f1, e6⟩ := Out.bind_is e6
          obtain ⟨kk, s9, f2, e6⟩ := Out.bind_is e6
          have sp2 := sp.trans p2
          have S2 : Slots L H2 ((fx ++ [D0]) ++ cm') cm' (wipeE env (own.map (·.2))) (wipe σ (own.map (·.2))) := by
            have z : Slots L H1 ((fx ++ [D0]) ++ cm1) cm1 env σ := ⟨S1.len, fun j d e => let ⟨v, h1, h2⟩ := S1.at_ j d e; ⟨v, h1, swap_fx (fun a m => by
              rcases List.mem_append.mp m with m | m
              · exact .inl m
              · rw [List.mem_singleton.mp m]
                exact .inr hD0) h2⟩⟩
            exact (z.step sp2.step).wipe _
          have hD2 : H2 D0 = some (.lst acc) := p2.step.ext D0 _ nD hD
          have rD2 := rD.step p2.step
          have hb0 : b ≤ s'.length := Nat.le_trans (p1.ble hb) sp.len
          intro bs bH bA bcl bfp
          refine I.g (C.blk bs bH scope bA bcl bfp) hg d _ s' env2 s8 f1 y _ H2 (fx ++ [D0]) cm' W2 S2 r2 hb0 _ fun σ3 H3 cm3 p3 W3 S3 z3 => ?_
          refine ⟨by rw [z3 _ hin, wipe_idem _ _ fun v m => m], ?_⟩
          have nD3 : D0 ∉ cm3 := p3.step.nin nD hD2
          have hD3 := p3.step.ext D0 _ nD hD2
          intro bs bH bA bcl bfp
          refine I.c (C.blk bs bH scope bA bcl bfp) ht env2 s8 kk s9 f2 σ3 H3 (fx ++ [D0]) cm3 W3 S3 (p3.ble hb0) _ fun H4 cm4 p4 W4 => ?_
          have nD4 : D0 ∉ cm4 := p4.step.nin nD3 hD3
          have hD4 := p4.step.ext D0 _ nD3 hD3
          have p34 := p3.trans p4
          have sp4 := sp2.trans p34
          cases kk with
          | false =>
            simp only [Bool.false_eq_true, if_false, Out.ok.injEq] at e6
            obtain ⟨rfl, rfl⟩ := e6
            refine iteF ?_
            exact ⟨cm4, _, acc, done, rest', nD4, sp4, W4, hD4, (rD2.step p34.step), e7, by simpa using hres, by omega⟩
          | true =>
            simp only [if_true] at e6
            obtain ⟨rr, s10, f3, e6⟩ := Out.bind_is e6
            simp only [Out.ok.injEq] at e6
            obtain ⟨rfl, rfl⟩ := e6
            refine iteT ?_
            intro bs bH bA bcl bfp
            refine (I.e (C.blk bs bH scope bA bcl bfp) he).use f3 W4 (S3.step p4.step) (p34.ble hb0) fun v H5 cm5 p5 W5 r5 => ?_
            have nD5 : D0 ∉ cm5 := p5.step.nin nD4 hD4
            have hD5 := p5.step.ext D0 _ nD4 hD4
            have mD : D0 ∈ (fx ++ [D0]) ++ cm5 := by simp
            have r35 := (rD2.step p34.step).step p5.step
            have hl : acc.length = done.length := rD.length
            refine ⟨acc, hD5, lt_line (by omega), cm5, _, acc ++ [v], done ++ [rr.d], rest', nD5, (sp4.trans p5).updNew hD0, W5.upd mD nD5, upd_same, (r35.append (.one r5)).upd mD, e7, by simpa using hres, by simpa using hdone⟩
        · have hi2 : i = ds.length := by omega
          subst hi2
          refine .inl ⟨wk.stop Hc cm' sp.step, ?_⟩
          rw [List.drop_length] at el_
          simp only [lcL, Out.ok.injEq] at el_
          obtain ⟨rfl, rfl⟩ := el_
          simp only [List.append_nil] at hres
          subst hres
          have sub : ∀ a, a ∈ fx ++ cm' ++ [D0] → a ∈ (fx ++ [D0]) ++ cm' := fun a m => by
            simp only [List.mem_append, List.mem_singleton] at m ⊢
            rcases m with (m | m) | m
            · exact .inl (.inl m)
            · exact .inr m
            · exact .inl (.inr m)
          refine q _ Hc cm' ⟨p1.trans sp, D0, rfl, p1.step.free hD0, fun z => ?_, Wc.less sub fun a m => by simp [m], acc, hD, rD.less sub⟩
          rcases List.mem_append.mp z with z | z
          · exact (W1.nin hD0) (List.mem_append_left _ z)
          · exact nD z
    · cases ev
end
end En

set_option Elab.async false
set_option linter.all false
set_option maxRecDepth 100000
set_option maxHeartbeats 2000000
namespace En
open PySem PySem.Spec PyProof.Rows L2
section
variable {L : Lk} {G : Glo} {k b : Nat} {X : Cx} {c : SC}
theorem po_mu {o : O} {st s1 : Store} {H H' : Hp} {fx cm cm' : List Addr} {v : V} (po : Po L fx b H cm st v (.n o) H' cm' s1) (hb : b ≤ st.length) {Q : VK} (q : ∀ v H' cm', Po L fx b H cm st v (.v (.cell s1.length)) H' cm' (s1 ++ [o]) → Q v H') : Q v H' := by
  obtain ⟨p1, p, rfl, hp, hn, W1, o1⟩ := po
  have W2 : Valid L H' (fx ++ (cm' ++ [p])) (cm' ++ [p]) (s1 ++ [o]) := by
    rw [← List.append_assoc]
    refine ⟨by simp [W1.len], ?_, fun a m => ?_, W1.trk, fun i o' e => ?_⟩
    · rw [List.nodup_append]
      refine ⟨W1.nd, by simp, fun a ha b hb => ?_⟩
      rw [List.mem_singleton.mp hb]
      rintro rfl
      exact hn (List.mem_append_right _ ha)
    · simp only [List.mem_append, List.mem_singleton] at m ⊢
      rcases m with m | m
      · exact .inl (.inr m)
      · exact .inr m
    · by_cases hi : i < s1.length
      · rw [List.getElem?_append_left hi] at e
        obtain ⟨a, h1, h2⟩ := W1.cells i o' e
        exact ⟨a, by rw [List.getElem?_append_left (by rw [W1.len]; exact hi)]; exact h1, h2.wide⟩
      · have hi2 : i = s1.length := by
          have z := (List.getElem?_eq_some_iff.mp e).1
          simp at z
          omega
        subst hi2
        simp at e
        subst e
        exact ⟨p, by rw [← W1.len]; simp, o1.wide⟩
  have p2 : Stp b H cm st H' (cm' ++ [p]) (s1 ++ [o]) := by
    obtain ⟨⟨e1, ⟨ex, rfl, hx⟩, e3⟩, kp, len⟩ := p1
    refine ⟨⟨e1, ⟨ex ++ [p], by rw [List.append_assoc], fun a m => ?_⟩, e3⟩, fun b' hb' old i o' hi e => ?_, by simp; omega⟩
    · rcases List.mem_append.mp m with m | m
      · exact hx a m
      · rw [List.mem_singleton.mp m]; exact hp
    · have hi2 : i < s1.length := Nat.lt_of_lt_of_le hi (Nat.le_trans hb' (Nat.le_trans hb len))
      rw [List.getElem?_append_left hi2] at e
      exact kp b' hb' old i o' hi e
  refine q _ H' (cm' ++ [p]) ⟨p2, W2, .cell ?_⟩
  rw [← W1.len]
  simp
theorem mform_of {es : List Expr} {env : PySem.Env} {pos : Pos} (h : ∀ e ∈ es, noStar e = true) (hl : es.length < 20) : methodCallForm (es.length + ([] : List Keyword).length) (backTo pos (starEach es env)) (backToKw pos (keywordEach [] env)) = true := by
  have a1 : ∀ es : List Expr, (∀ e ∈ es, noStar e = true) → (backTo pos (starEach es env)).all (fun x => !x.1) = true := fun es h => by
    induction es with
    | nil => rfl
    | cons e es ih =>
      rw [star_of (h e List.mem_cons_self)]
      show ((true : Bool) && (backTo pos (starEach es env)).all (fun x => !x.1)) = true
      rw [ih fun e m => h e (List.mem_cons_of_mem _ m)]
      rfl
  unfold methodCallForm
  rw [a1 es h]
  simp only [backToKw, keywordEach, List.map_nil, List.all_nil, Bool.true_and, decide_eq_true_eq, List.length_nil, List.isEmpty_nil, if_true]
  omega
theorem mcall_of {o : Expr} {m : Str} {apos pos : Pos} {es : List Expr} {env : PySem.Env} (hs : attributeBase o m env (eval o env) = eval o env) (h : ∀ e ∈ es, noStar e = true) (hl : es.length < 20) (hp : (apos.endLine == pos.line) = true) :
    eval (.Call (.Attribute o m apos) es [] pos) env = (do
      let ov ← eval o env
      standAt apos.atName
      let (f, first) ← holding [ov] (getMethod ov m (plainOf o env))
      callWith pos f first (backTo pos (starEach es env)) (backToKw pos (keywordEach [] env))) := by
  rw [arm_eval_Call, hs]
  simp only [mcall_line (mform_of (env := env) (pos := pos) h hl) hp]
/-- a new instance, before its __init__ -/
theorem made_po {c : Nat} {x dx : Addr} {H1 : Hp} {cm1 : List Addr} {s1 : Store} {fx : List Addr} {L : Lk} {b : Nat} (W1 : Valid L H1 (fx ++ cm1) cm1 s1) (hx : H1 x = none) (hd : H1 dx = none) (hne : dx ≠ x) :
    Po L fx b H1 cm1 s1 (.ref x) (.n (.ins c [])) (upd (upd H1 dx (.own x)) x (.ins (L.ca c) dx [])) cm1 s1 := by
  have e : ∀ a u, H1 a = some u → (upd (upd H1 dx (.own x)) x (.ins (L.ca c) dx [])) a = some u := fun a u h => by
    rw [upd_ne (ne_of_none h hx), upd_ne (ne_of_none h hd)]
    exact h
  have na : x ∉ fx ++ cm1 := fun m => by
    obtain ⟨u, hu⟩ := W1.trk x m
    rw [hx] at hu
    cases hu
  exact ⟨.keep e, x, rfl, hx, na, W1.and e hx ⟨_, upd_same⟩, dx, [], upd_same, rfl, .nil⟩
theorem po_nil {L : Lk} {fx : List Addr} {b : Nat} {H H' : Hp} {cm cm' : List Addr} {st : Store} {v : V} {r : R} (h : Po L fx b H cm st v r H' cm' []) : cm' = [] := by
  obtain ⟨_, W, _⟩ := h.d
  exact List.eq_nil_of_length_eq_zero W.len
theorem callR_fin {f : Nat → List D → Store → Out R} {L : Lk} {b : Nat} {ds : List D} {s1 st' : Store} {r : R} {H1 : Hp} {fx cm1 : List Addr} {vs : List V} {Q : VK} {E : XK} (ev : callR f b ds s1 = .ok r st') (W1 : Valid L H1 (fx ++ cm1) cm1 s1) (r1 : Reps L H1 (fx ++ cm1) cm1 vs ds) (hb : b ≤ s1.length)
    (q : ∀ v H' cm', Po L fx b H1 cm1 s1 v r H' cm' st' → Q v H') : spF L f vs H1 Q E := by
  have full : f b ds s1 = .ok r st' → spF L f vs H1 Q E := fun ev => ⟨b, fx, ds, s1, r, st', cm1, ev, hb, W1, r1, q⟩
  unfold callR at ev
  split at ev
  · rename_i hc
    split at ev
    · rename_i r0 hr
      cases ev
      refine ⟨0, fx ++ cm1, ds, [], r, [], [], hr, Nat.le_refl _, ⟨rfl, .nil, (fun a m => nomatch m), fun a m => W1.trk a (by simpa using m), fun n o e => by simp at e⟩, ?_, fun v H' cm' po => ?_⟩
      · rw [List.append_nil]
        exact (rep_narrow_ (cm' := []) fun n a h _ => absurd h (Nat.not_lt_zero _)).2 r1 hc
      · obtain rfl := po_nil po
        exact q v H' cm1 (po_call W1 po (.inl fun a m => m))
    · exact full ev
  · exact full ev
theorem boot_blt {f : Blt} : (∃ id, bltV f = .builtin id ∧ bootBuiltins (bltName f) = some (.builtin id)) ∨ ∃ T, bltV f = .type T ∧ bootBuiltins (bltName f) = some (.type T) := by
  cases f <;> first | exact .inl ⟨_, rfl, by decide +kernel⟩ | exact .inr ⟨_, rfl, by decide +kernel⟩
theorem bltName_ok (f : Blt) : bltName f ≠ "__name__" ∧ (bltName f == ("__debug__" : Str)) = false := by
  cases f <;> exact ⟨by decide +kernel, by decide +kernel⟩
theorem noSup_of {o : Expr} {m : Str} {env : PySem.Env} (h : noSup o = true) : attributeBase o m env (eval o env) = eval o env := by
  unfold attributeBase
  split
  · rename_i id p pos
    simp only [noSup, Bool.not_eq_true'] at h
    have hne : (id != ("super" : Str)) = true := by
      show (!(id == ("super" : Str))) = true
      rw [h]
      rfl
    rw [hne]
    simp only [Bool.true_or, if_true]
    first | done | rfl | exact bind_pure _
  · rfl
theorem stars_all {es : List Expr} {env : PySem.Env} {pos : Pos} (h : ∀ e ∈ es, noStar e = true) : (backTo pos (starEach es env)).all (fun x => !x.1) = true := by
  induction es with
  | nil => rfl
  | cons e es ih =>
    rw [star_of (h e List.mem_cons_self)]
    show ((true : Bool) && (backTo pos (starEach es env)).all (fun x => !x.1)) = true
    rw [ih fun e m => h e (List.mem_cons_of_mem _ m)]
    rfl
theorem se_e {e : Expr} {ie : IE} {n : Nat} (I : Snd L G k n) (C : CtxOk L G k X c) (h : chkE (n + 1) c e ie = true) : SE L G b X e ie := by
  intro env st r st' ev σ H fx cm W S hb Q q
  cases ie with
  | var i =>
    cases e <;> simp only [chkE, Bool.false_eq_true, Bool.and_eq_true, decide_eq_true_eq] at h
    obtain ⟨⟨h1, h2⟩, h3⟩ := h
    obtain ⟨n1, n2, n3⟩ := okName_is h3
    simp only [evE] at ev
    split at ev
    · rename_i d hd
      cases ev
      obtain ⟨v, hv, rv⟩ := S.at_ i d hd
      exact wE_of (pe_var (by rw [C.hN]; exact h1) (C.vis h2) n1 n2) ⟨v, hv, q v H cm (po_val W rv)⟩
    · cases ev
  | int i =>
    simp only [chkE] at h
    split at h
    · simp only [decide_eq_true_eq] at h
      subst h
      cases ev
      exact wE_of pe_int (q _ H cm (po_val W (.int _)))
    · cases h
  | str i =>
    simp only [chkE] at h
    split at h
    · simp only [decide_eq_true_eq] at h
      subst h
      cases ev
      exact wE_of pe_str (q _ H cm (po_val W (.str _)))
    · cases h
  | bl i =>
    simp only [chkE] at h
    split at h
    · simp only [decide_eq_true_eq] at h
      subst h
      cases ev
      exact wE_of pe_bl (q _ H cm (po_val W (.bl _)))
    · cases h
  | non =>
    simp only [chkE] at h
    split at h
    · cases ev
      exact wE_of pe_non (q _ H cm (po_val W .non))
    · cases h
  | gl j =>
    cases e <;> simp only [chkE, Bool.false_eq_true, Bool.and_eq_true, decide_eq_true_eq] at h
    obtain ⟨⟨h1, h2⟩, h3⟩ := h
    obtain ⟨n1, n2, n3⟩ := okName_is h2
    obtain ⟨u, v, hm, rv, rp⟩ := C.gls _ _ h3
    cases ev
    exact wE_of (pe_glob (C.gl_ h1) hm rv n1) (q v H cm (po_val W (rp _ _ _)))
  | op o a d =>
    cases e <;> simp only [chkE, Bool.false_eq_true, Bool.and_eq_true, decide_eq_true_eq] at h
    obtain ⟨⟨rfl, h2⟩, h3⟩ := h
    simp only [evE] at ev
    obtain ⟨x, s1, e1, ev⟩ := Out.bind_is ev
    obtain ⟨y, s2, e2, ev⟩ := Out.bind_is ev
    obtain ⟨e3, rfl⟩ := Out.of_is ev
    refine wE_of (pe_op op_w pe_w pe_w) ?_
    refine (I.e C h2).use e1 W S hb fun v1 H1 cm1 p1 W1 r1 => ?_
    refine (I.e C h3).use e2 W1 (S.step p1.step) (p1.ble hb) fun v2 H2 cm2 p2 W2 r2 => ?_
    exact op_sound C.hK e3 (r1.step p2.step) r2 W2 fun v H' po => q v H' cm2 (po.after (p1.trans p2))
  | neg a =>
    simp only [chkE] at h
    split at h
    · simp only [evE] at ev
      obtain ⟨x, s1, e1, ev⟩ := Out.bind_is ev
      split at ev
      · rename_i i hx
        cases ev
        refine wE_of (pe_un un_neg pe_w) ?_
        refine (I.e C h).use e1 W S hb fun v1 H1 cm1 p1 W1 r1 => ?_
        rw [hx] at r1
        cases r1
        exact ⟨i, rfl, q _ H1 cm1 (Po.after p1 (po_val W1 (.int _)))⟩
      · cases ev
    · cases h
  | cmp o a d =>
    simp only [chkE] at h
    split at h
    · simp only [Bool.and_eq_true, decide_eq_true_eq] at h
      simp only [evE] at ev
      obtain ⟨y, s2, f1, ev⟩ := Out.bind_is ev
      obtain ⟨z, s3, f2, ev⟩ := Out.bind_is ev
      obtain ⟨ev, rfl⟩ := Out.of_is ev
      obtain ⟨k', e9, rfl⟩ := bl_case ev
      refine wE_of (pe_cmpR op_w pe_w pe_w (marks_of h.1.1.2)) ?_
      refine (I.e C h.1.2).use f1 W S hb fun v1 H1 cm1 p1 W1 r1 => ?_
      refine (I.e C h.2).use f2 W1 (S.step p1.step) (p1.ble hb) fun v2 H2 cm2 p2 W2 r2 => ?_
      rw [← h.1.1.1]
      exact se_cmpQ C e9 (r1.step p2.step) r2 W2 (q _ H2 cm2 (Po.after (p1.trans p2) (po_val W2 (.bl _))))
    · cases h
  | chain o o' a d f =>
    simp only [chkE] at h
    split at h
    · simp only [Bool.and_eq_true, decide_eq_true_eq] at h
      simp only [evE] at ev
      obtain ⟨y, s2, f1, ev⟩ := Out.bind_is ev
      obtain ⟨z, s3, f2, ev⟩ := Out.bind_is ev
      obtain ⟨k1, s4, f3, ev⟩ := Out.bind_is ev
      obtain ⟨f3, rfl⟩ := Out.of_is f3
      refine wE_of (pe_chain op_w op_w pe_w pe_w pe_w (by show lastMarks _ _ = false; exact marks_of h.1.1.1.2)) ?_
      refine (I.e C h.1.1.2).use f1 W S hb fun v1 H1 cm1 p1 W1 r1 => ?_
      refine (I.e C h.1.2).use f2 W1 (S.step p1.step) (p1.ble hb) fun v2 H2 cm2 p2 W2 r2 => ?_
      rw [← h.1.1.1.1.1, ← h.1.1.1.1.2]
      refine se_cmpQ C f3 (r1.step p2.step) r2 W2 ⟨k1, rfl, ?_⟩
      have p12 := p1.trans p2
      cases k1 with
      | false =>
        cases ev
        exact iteF (q _ H2 cm2 (Po.after p12 (po_val W2 (.bl _))))
      | true =>
        obtain ⟨w, s5, f4, ev⟩ := Out.bind_is ev
        obtain ⟨ev, rfl⟩ := Out.of_is ev
        obtain ⟨k', e9, rfl⟩ := bl_case ev
        refine iteT ?_
        refine (I.e C h.2).use f4 W2 (S.step p12.step) (p12.ble hb) fun v3 H3 cm3 p3 W3 r3 => ?_
        exact se_cmpQ C e9 (r2.step p3.step) r3 W3 (q _ H3 cm3 (Po.after (p12.trans p3) (po_val W3 (.bl _))))
    · cases h
  | and a d =>
    simp only [chkE] at h
    split at h
    · rename_i l r rest p
      simp only [Bool.and_eq_true] at h
      simp only [evE] at ev
      obtain ⟨x, s1, e1, ev⟩ := Out.bind_is ev
      have rhs : ∃ e' : Expr, chkE n c e' d = true ∧ PE X (.BoolOp .And (r :: rest) p) (wE X e') := by
        cases rest with
        | nil => exact ⟨r, h.2, pe_one pe_w⟩
        | cons _ _ => exact ⟨_, h.2, pe_w⟩
      obtain ⟨e', h2, pe2⟩ := rhs
      refine wE_of (pe_and pe_w pe2) ?_
      refine (I.e C h.1).use e1 W S hb fun v1 H1 cm1 p1 W1 r1 => ?_
      split at ev
      · rename_i hx
        rw [hx] at r1
        cases r1
        refine ⟨true, rfl, iteT ?_⟩
        exact I.e C h2 env s1 _ st' ev σ H1 fx cm1 W1 (S.step p1.step) (p1.ble hb) Q fun v H' cm' po => q v H' cm' (po.after p1)
      · rename_i hx
        rw [hx] at r1
        cases r1
        cases ev
        exact ⟨false, rfl, iteF (q _ H1 cm1 (Po.after p1 (po_val W1 (.bl _))))⟩
      · cases ev
    · cases h
  | or a d =>
    simp only [chkE] at h
    split at h
    · rename_i l r rest p
      simp only [Bool.and_eq_true] at h
      simp only [evE] at ev
      obtain ⟨x, s1, e1, ev⟩ := Out.bind_is ev
      have rhs : ∃ e' : Expr, chkE n c e' d = true ∧ PE X (.BoolOp .Or (r :: rest) p) (wE X e') := by
        cases rest with
        | nil => exact ⟨r, h.2, pe_one pe_w⟩
        | cons _ _ => exact ⟨_, h.2, pe_w⟩
      obtain ⟨e', h2, pe2⟩ := rhs
      refine wE_of (pe_or pe_w pe2) ?_
      refine (I.e C h.1).use e1 W S hb fun v1 H1 cm1 p1 W1 r1 => ?_
      split at ev
      · rename_i hx
        rw [hx] at r1
        cases r1
        cases ev
        exact ⟨true, rfl, iteT (q _ H1 cm1 (Po.after p1 (po_val W1 (.bl _))))⟩
      · rename_i hx
        rw [hx] at r1
        cases r1
        refine ⟨false, rfl, iteF ?_⟩
        exact I.e C h2 env s1 _ st' ev σ H1 fx cm1 W1 (S.step p1.step) (p1.ble hb) Q fun v H' cm' po => q v H' cm' (po.after p1)
      · cases ev
    · cases h
  | not a =>
    simp only [chkE] at h
    split at h
    · simp only [evE] at ev
      obtain ⟨x, s1, e1, ev⟩ := Out.bind_is ev
      split at ev
      · rename_i kk hx
        cases ev
        refine wE_of (pe_not pe_w) ?_
        refine (I.e C h).use e1 W S hb fun v1 H1 cm1 p1 W1 r1 => ?_
        rw [hx] at r1
        cases r1
        exact ⟨kk, rfl, q _ H1 cm1 (Po.after p1 (po_val W1 (.bl _)))⟩
      · cases ev
    · cases h
  | ite t a d =>
    cases e <;> simp only [chkE, Bool.false_eq_true, Bool.and_eq_true] at h
    simp only [evE] at ev
    obtain ⟨kk, s1, e1, ev⟩ := Out.bind_is ev
    refine wE_of (pe_ifExp pt_w pe_w pe_w) ?_
    refine I.t C h.1.1 env st kk s1 e1 σ H fx cm W S hb _ fun H1 cm1 p1 W1 => ?_
    cases kk with
    | true => exact iteT (I.e C h.1.2 env s1 r st' ev σ H1 fx cm1 W1 (S.step p1.step) (p1.ble hb) Q fun v H' cm' po => q v H' cm' (po.after p1))
    | false => exact iteF (I.e C h.2 env s1 r st' ev σ H1 fx cm1 W1 (S.step p1.step) (p1.ble hb) Q fun v H' cm' po => q v H' cm' (po.after p1))
  | tup es =>
    cases e <;> simp only [chkE, Bool.false_eq_true] at h
    simp only [evE] at ev
    obtain ⟨xs, s1, e1, ev⟩ := Out.bind_is ev
    split at ev
    · rename_i hl
      cases ev
      refine wE_of (pe_tup pa_w) ?_
      refine I.es C h env st xs _ e1 σ H fx cm W S hb _ fun vs H1 cm1 p1 W1 r1 => ?_
      exact ⟨by rw [r1.length]; exact le_line hl, fun p hp => q _ _ cm1 (Po.after p1 (po_tup W1 r1 hp))⟩
    · cases ev
  | lst es =>
    cases e <;> simp only [chkE, Bool.false_eq_true] at h
    simp only [evE] at ev
    obtain ⟨xs, s1, e1, ev⟩ := Out.bind_is ev
    split at ev
    · rename_i hl
      cases ev
      refine wE_of (pe_lst pa_w) ?_
      refine I.es C h env st xs _ e1 σ H fx cm W S hb _ fun vs H1 cm1 p1 W1 r1 => ?_
      exact ⟨by rw [r1.length]; exact le_line hl, fun p hp => q _ _ cm1 (Po.after p1 (po_lst W1 r1 hp))⟩
    · cases ev
  | dnewK =>
    simp only [chkE] at h
    split at h
    · cases ev
      exact wE_of pe_dnewK fun p hp => q _ _ cm (po_dk0 W hp)
    · cases h
  | dnewT =>
    simp only [chkE] at h
    split at h
    · cases ev
      exact wE_of pe_dnewT fun p hp => q _ _ cm (po_dt0 W hp)
    · cases h
  | ix a i =>
    cases e <;> simp only [chkE, Bool.false_eq_true, Bool.and_eq_true] at h
    simp only [evE] at ev
    obtain ⟨x, s1, e1, ev⟩ := Out.bind_is ev
    obtain ⟨y, s2, e2, ev⟩ := Out.bind_is ev
    obtain ⟨e3, rfl⟩ := Out.of_is ev
    refine wE_of (pe_ix ix_w pe_w pe_w (plainIx_of h.1.1)) ?_
    refine (I.e C h.1.2).use e1 W S hb fun v1 H1 cm1 p1 W1 r1 => ?_
    refine (I.e C h.2).use e2 W1 (S.step p1.step) (p1.ble hb) fun v2 H2 cm2 p2 W2 r2 => ?_
    exact ix_sound C.hK C.gd C.hu1 e3 (r1.step p2.step) r2 W2 fun v H' po => q v H' cm2 (po.after (p1.trans p2))
  | sl a lo hi =>
    simp only [chkE] at h
    split at h
    · simp only [Bool.and_eq_true] at h
      simp only [evE] at ev
      obtain ⟨x, s1, e1, ev⟩ := Out.bind_is ev
      obtain ⟨l, s2, e2, ev⟩ := Out.bind_is ev
      obtain ⟨u, s3, e3, ev⟩ := Out.bind_is ev
      obtain ⟨e4, rfl⟩ := Out.of_is ev
      refine wE_of (pe_slice sl_w pe_w po_w po_w) ?_
      refine (I.e C h.1.1).use e1 W S hb fun v1 H1 cm1 p1 W1 r1 => ?_
      refine I.o C h.1.2 env s1 l s2 e2 σ H1 fx cm1 W1 (S.step p1.step) (p1.ble hb) _ fun H2 cm2 p2 W2 => ?_
      have p12 := p1.trans p2
      refine I.o C h.2 env s2 u _ e3 σ H2 fx cm2 W2 (S.step p12.step) (p12.ble hb) _ fun H3 cm3 p3 W3 => ?_
      exact sl_sound C.hK e4 ((r1.step p2.step).step p3.step) W3 fun v H' po => q v H' cm3 (po.after (p12.trans p3))
    · cases h
  | call j es =>
    simp only [chkE] at h
    split at h
    · rename_i x p xs pos
      simp only [Bool.and_eq_true, decide_eq_true_eq] at h
      obtain ⟨⟨⟨h1, h2⟩, h3⟩, h4⟩ := h
      obtain ⟨n1, n2, n3⟩ := okName_is h2
      obtain ⟨f, fd, ps, hm, hk, hbd, F⟩ := C.fns _ _ h3
      simp only [evE] at ev
      obtain ⟨ds, s1, e1, ev⟩ := Out.bind_is ev
      have fin : ∀ vs H1 cm1, Stp b H cm st H1 cm1 s1 → Valid L H1 (fx ++ cm1) cm1 s1 → Reps L H1 (fx ++ cm1) cm1 vs ds → spF L (G.fn j) (vs ++ []) H1 Q E0 := fun vs H1 cm1 p1 W1 r1 => by
        rw [List.append_nil]
        exact callR_fin ev W1 r1 (p1.ble hb) fun v H' cm' po => q v H' cm' (Po.after p1 po)
      cases xs with
      | nil =>
        refine wE_of (pe_call0 F C.room (C.gl_ h1) hm hk hbd .nil pass0 n1) ?_
        cases es with
        | cons _ _ => cases n <;> simp [chkEs] at h4
        | nil =>
          simp only [evEs, Out.ok.injEq] at e1
          obtain ⟨rfl, rfl⟩ := e1
          exact fin [] H cm .refl W .nil
      | cons e0 xs =>
        have st0 := all_star h4
        refine wE_of (pe_call F C.room (C.gl_ h1) hm hk hbd .nil pass0 pa_w n1 (star_of (st0 e0 List.mem_cons_self)) (stars_of fun e m => st0 e (List.mem_cons_of_mem _ m))) ?_
        exact I.es C h4 env st ds s1 e1 σ H fx cm W S hb _ fun vs H1 cm1 p1 W1 r1 => fin vs H1 cm1 p1 W1 r1
    · cases h
  | callS j es =>
    simp only [chkE] at h
    split at h
    · rename_i x p xs pos
      simp only [Bool.and_eq_true, decide_eq_true_eq] at h
      obtain ⟨⟨⟨h1, h2⟩, h3⟩, h4⟩ := h
      obtain ⟨n1, n2, n3⟩ := okName_is h2
      obtain ⟨f, fd, ps, hm, hk, hbd, F⟩ := C.fns _ _ h3
      simp only [evE] at ev
      obtain ⟨ds, s1, e1, ev⟩ := Out.bind_is ev
      have fin : ∀ vs H1 cm1, Stp b H cm st H1 cm1 s1 → Valid L H1 (fx ++ cm1) cm1 s1 → Reps L H1 (fx ++ cm1) cm1 vs ds → spF L (G.fn j) (vs ++ []) H1 Q E0 := fun vs H1 cm1 p1 W1 r1 => by
        rw [List.append_nil]
        simp only [snapR] at ev
        split at ev
        · rename_i hc
          split at ev
          · rename_i r0 hr
            split at ev
            · rename_i hf
              cases ev
              refine ⟨0, [], ds.map (thawA st'), [], r, [], [], hr, Nat.le_refl _, ⟨rfl, .nil, (fun a m => nomatch m), (fun a m => nomatch m), fun n o e => by simp at e⟩, thaw_reps W1 r1 hc, fun v H' cm' po => ?_⟩
              obtain rfl := po_nil po
              exact q v H' cm1 (Po.after p1 (po_call W1 po (.inr hf)))
            · cases ev
          · cases ev
        · cases ev
      cases xs with
      | nil =>
        refine wE_of (pe_call0 F C.room (C.gl_ h1) hm hk hbd .nil pass0 n1) ?_
        cases es with
        | cons _ _ => cases n <;> simp [chkEs] at h4
        | nil =>
          simp only [evEs, Out.ok.injEq] at e1
          obtain ⟨rfl, rfl⟩ := e1
          exact fin [] H cm .refl W .nil
      | cons e0 xs =>
        have st0 := all_star h4
        refine wE_of (pe_call F C.room (C.gl_ h1) hm hk hbd .nil pass0 pa_w n1 (star_of (st0 e0 List.mem_cons_self)) (stars_of fun e m => st0 e (List.mem_cons_of_mem _ m))) ?_
        exact I.es C h4 env st ds s1 e1 σ H fx cm W S hb _ fun vs H1 cm1 p1 W1 r1 => fin vs H1 cm1 p1 W1 r1
    · cases h
  | blt f es =>
    simp only [chkE] at h
    split at h
    · rename_i x p xs pos
      simp only [Bool.and_eq_true, decide_eq_true_eq] at h
      obtain ⟨⟨⟨⟨h1, rfl⟩, h3⟩, h0⟩, h4⟩ := h
      simp only [evE] at ev
      obtain ⟨ds, s1, e1, ev⟩ := Out.bind_is ev
      obtain ⟨e2, rfl⟩ := Out.of_is ev
      obtain ⟨m1, m2⟩ := bltName_ok f
      cases xs with
      | nil => exact absurd h0 (by simp)
      | cons e0 xs =>
        have st0 := all_star h4
        have args : wA X (e0 :: xs) σ H (fun vs H1 => cW X (bltV f) vs H1 Q) := I.es C h4 env st ds _ e1 σ H fx cm W S hb _ fun vs H1 cm1 p1 W1 r1 =>
          blt_sound C.hK C.calm e2 r1 W1 fun v H' po => q v H' cm1 (po.after p1)
        rcases boot_blt (f := f) with ⟨id, z1, z2⟩ | ⟨T, z1, z2⟩
        · rw [z1] at args
          exact wE_of (pe_callB call_w (C.gl_ h1) (C.blt _ h3) z2 pa_w m1 m2 (star_of (st0 e0 List.mem_cons_self)) (stars_of fun e m => st0 e (List.mem_cons_of_mem _ m))) args
        · rw [z1] at args
          exact wE_of (pe_callTy call_w (C.gl_ h1) (C.blt _ h3) z2 pa_w m1 m2 (star_of (st0 e0 List.mem_cons_self)) (stars_of fun e m => st0 e (List.mem_cons_of_mem _ m))) args
    · cases h
  | isin a t =>
    simp only [chkE] at h
    split at h
    · rename_i x p l y p2 pos
      simp only [Bool.and_eq_true, decide_eq_true_eq] at h
      obtain ⟨⟨⟨⟨⟨⟨⟨⟨h1, rfl⟩, h3⟩, h4⟩, h5⟩, rfl⟩, h7⟩, h8⟩, h9⟩ := h
      simp only [evE] at ev
      obtain ⟨z, s1, e1, ev⟩ := Out.bind_is ev
      have ev : ∃ u, tyOf s1 z.d = some u ∧ u.isB = true ∧ r = .v (.bl (isTy u t)) ∧ s1 = st' := by
        split at ev
        · rename_i u hu
          split at ev
          · rename_i hb
            cases ev
            exact ⟨u, hu, hb, rfl, rfl⟩
          · cases ev
        · cases ev
      obtain ⟨u, e2, hu, rfl, rfl⟩ := ev
      have hT : PE X (.Name (tyNm t) p2) (tC (.ty (tyN t))) := by
        have q1 : bootBuiltins (tyNm t) = some (.type (tyN t)) := by
          cases t <;> first | decide +kernel | (simp [Ty.named] at h8)
        have q2 : tyNm t ≠ "__name__" ∧ (tyNm t == ("__debug__" : Str)) = false := by
          cases t <;> first | exact ⟨by decide +kernel, by decide +kernel⟩ | (simp [Ty.named] at h8)
        exact pe_bltn (C.gl_ h5) (C.blt _ h7) q1 rfl q2.1 q2.2
      have ht : t.isB = true := by cases t <;> first | rfl | (simp [Ty.named] at h8)
      refine wE_of (pe_callB call_w (C.gl_ h1) (C.blt _ h3) (id := "isinstance") (by decide +kernel) (pa_cons pe_w (pa_cons hT pa_nil (by rfl)) (star_of h4)) (by decide +kernel) (by decide +kernel) (star_of h4) (by rfl)) ?_
      refine (I.e C h9).use e1 W S hb fun v1 H1 cm1 p1 W1 r1 => ?_
      have hq : Q (.bl (isTy u t)) H1 := q _ H1 cm1 (Po.after p1 (po_val W1 (.bl _)))
      exact isin_sound C.hK hu ht e2 r1 W1 hq
    · cases h
  | mt m a es =>
    simp only [chkE] at h
    split at h
    · rename_i l x ap xs cp
      simp only [Bool.and_eq_true, decide_eq_true_eq] at h
      obtain ⟨⟨⟨⟨⟨⟨h1, rfl⟩, h3⟩, h4⟩, h5⟩, h6⟩, h7⟩ := h
      simp only [evE] at ev
      obtain ⟨z, s1, e1, ev⟩ := Out.bind_is ev
      split at ev
      rotate_left
      · cases ev
      rename_i hil
      obtain ⟨ds, s2, e2, ev⟩ := Out.bind_is ev
      have slot : ∃ id, mtI m = id ∧ Slot "list" (mtName m) id ∧ typeOf (.builtin id) = pure (.type "method_descriptor") := by
        cases m <;> first
          | exact ⟨_, rfl, PySem.F.slot_list_append, PySem.F.type_list_append⟩
          | exact ⟨_, rfl, PySem.F.slot_list_pop, PySem.F.type_list_pop⟩
          | exact ⟨_, rfl, PySem.F.slot_list_extend, PySem.F.type_list_extend⟩
          | exact ⟨_, rfl, PySem.F.slot_list_reverse, PySem.F.type_list_reverse⟩
          | exact ⟨_, rfl, PySem.F.slot_list_clear, PySem.F.type_list_clear⟩
          | exact ⟨_, rfl, PySem.F.slot_list_index, PySem.F.type_list_index⟩
          | (simp [Mt.isL] at h1)
      obtain ⟨id, rfl, sl, ty⟩ := slot
      have tyv : ∀ {v1 H1 cm1}, Valid L H1 (fx ++ cm1) cm1 s1 → Rep L H1 (fx ++ cm1) cm1 v1 z.d → tyV X.K "list" v1 H1 := fun {v1 H1 cm1} W1 r1 => by
        unfold isLst at hil
        split at hil
        · rename_i ds' hs
          obtain ⟨a, us, rfl, _, t1, _⟩ := seq_rep W1 r1 hs
          exact .inl ⟨rfl, us, C.hK ▸ (t1 rfl).sq⟩
        · cases hil
      cases xs with
      | nil =>
        cases es with
        | cons _ _ => cases n <;> simp [chkEs] at h7
        | nil =>
          simp only [evEs, Out.ok.injEq] at e2
          obtain ⟨rfl, rfl⟩ := e2
          refine wE_of (pe_bm0 PySem.F.plainAttrs_list sl ty mt_w pe_w (noSup_of h3) (by rw [h4]; simp)) ?_
          refine (I.e C h6).use e1 W S hb fun v1 H1 cm1 p1 W1 r1 => ?_
          exact ⟨tyv W1 r1, mt_sound C.hK h1 ev r1 .nil W1 fun v H' po => q v H' cm1 (po.after p1)⟩
      | cons e0 xs =>
        have st0 := all_star h7
        have any0 : (backTo cp (starEach xs X.env)).any (·.1) = false := stars_of fun e m => st0 e (List.mem_cons_of_mem _ m)
        refine wE_of (pe_bm PySem.F.plainAttrs_list sl ty mt_w pe_w pa_w (noSup_of h3) ?_ (by rw [h4]; simp) (star_of (st0 e0 List.mem_cons_self)) any0) ?_
        · have a1 : (backTo cp (starEach (e0 :: xs) X.env)).all (fun x => !x.1) = true := stars_all st0
          rw [a1]
          simp only [backToKw, keywordEach, List.map_nil, List.all_nil, Bool.true_and, decide_eq_true_eq, List.length_cons, List.length_nil, List.isEmpty_nil, if_true]
          simp only [List.length_cons] at h5
          omega
        · refine (I.e C h6).use e1 W S hb fun v1 H1 cm1 p1 W1 r1 => ?_
          refine ⟨tyv W1 r1, ?_⟩
          refine I.es C h7 env s1 ds s2 e2 σ H1 fx cm1 W1 (S.step p1.step) (p1.ble hb) _ fun vs H2 cm2 p2 W2 r2 => ?_
          exact mt_sound C.hK h1 ev (r1.step p2.step) r2 W2 fun v H' po => q v H' cm2 (po.after (p1.trans p2))
    · cases h
  | fld a f =>
    simp only [chkE] at h
    split at h
    · rename_i l x p
      simp only [Bool.and_eq_true, decide_eq_true_eq] at h
      obtain ⟨⟨rfl, h2⟩, h3⟩ := h
      simp only [evE] at ev
      obtain ⟨z, s1, e1, ev⟩ := Out.bind_is ev
      obtain ⟨e2, rfl⟩ := Out.of_is ev
      refine wE_of (pe_fld pe_w (noSup_of h2)) ?_
      refine (I.e C h3).use e1 W S hb fun v1 H1 cm1 p1 W1 r1 => ?_
      obtain ⟨a0, j, dx, fs, v, d, hna, rfl, hH, hl, rfl, rv, _⟩ := fld_sound e2 r1 W1
      obtain ⟨k1, k2⟩ := C.na j _ hna
      exact ⟨a0, L.ca j, dx, fs, v, rfl, hH, k1, k2, hl, q v H1 cm1 ((po_val W1 rv).after p1)⟩
    · cases h
  | mcall m a es =>
    simp only [chkE] at h
    split at h
    · rename_i l x ap xs cp
      simp only [Bool.and_eq_true, decide_eq_true_eq] at h
      obtain ⟨⟨⟨⟨⟨rfl, h3⟩, h4⟩, h5⟩, h6⟩, h7⟩ := h
      simp only [evE] at ev
      obtain ⟨z, s1, e1, ev⟩ := Out.bind_is ev
      split at ev
      rotate_left
      · cases ev
      rename_i j fds hobj
      split at ev
      rotate_left
      · cases ev
      rename_i i hme hlk
      obtain ⟨ds, s2, e2, ev⟩ := Out.bind_is ev
      obtain ⟨f, fd, ps, hcl, hmt, hbd, F⟩ := C.me _ _ _ hme
      have fin : ∀ v1 vs H1 H2 cm1 cm2, Stp b H cm st H1 cm1 s1 → Rep L H1 (fx ++ cm1) cm1 v1 z.d → Stp b H1 cm1 s1 H2 cm2 s2 → Valid L H2 (fx ++ cm2) cm2 s2 → Reps L H2 (fx ++ cm2) cm2 vs ds → spF L (G.fn i) (v1 :: (vs ++ [])) H2 Q E0 := fun v1 vs H1 H2 cm1 cm2 p1 r1 p2 W2 r2 => by
        rw [List.append_nil]
        have p12 := p1.trans p2
        have rs : Reps L H2 (fx ++ cm2) cm2 (v1 :: vs) (z.d :: ds) := .cons (r1.step p2.step) r2
        exact callR_fin ev W2 rs (p12.ble hb) fun v H' cm' po => q v H' cm' (Po.after p12 po)
      have insd : ∀ {v1 H1 cm1}, Valid L H1 (fx ++ cm1) cm1 s1 → Rep L H1 (fx ++ cm1) cm1 v1 z.d → ∃ a0 dx fs, v1 = .ref a0 ∧ H1 a0 = some (.ins (L.ca j) dx fs) ∧ fs.lookup x = none := fun {v1 H1 cm1} W1 r1 => by
        obtain ⟨a0, dx, fs, rfl, g1, g2, g3⟩ := obj_rep W1 r1 hobj
        exact ⟨a0, dx, fs, rfl, g1, (lookup_rep x g2 g3).1 hlk⟩
      have hline : (ap.endLine == cp.line) = true := by rw [h4]; simp
      cases xs with
      | nil =>
        cases es with
        | cons _ _ => cases n <;> simp [chkEs] at h7
        | nil =>
          simp only [evEs, Out.ok.injEq] at e2
          obtain ⟨rfl, rfl⟩ := e2
          refine wE_of (pe_meth0 (pl := plainOf l X.env) pe_w hcl hmt F C.room hbd .nil pass0 (mcall_of (noSup_of h3) (by simp) (by simp) hline)) ?_
          refine (I.e C h6).use e1 W S hb fun v1 H1 cm1 p1 W1 r1 => ?_
          obtain ⟨a0, dx, fs, rfl, g1, g2⟩ := insd W1 r1
          exact ⟨a0, dx, fs, rfl, g1, g2, fin _ [] H1 H1 cm1 cm1 p1 r1 .refl W1 .nil⟩
      | cons e0 xs =>
        have st0 := all_star h7
        refine wE_of (pe_meth (pl := plainOf l X.env) pe_w hcl hmt F C.room hbd .nil pass0 pa_w (star_of (st0 e0 List.mem_cons_self)) (stars_of fun e m => st0 e (List.mem_cons_of_mem _ m)) (mcall_of (noSup_of h3) st0 h5 hline)) ?_
        refine (I.e C h6).use e1 W S hb fun v1 H1 cm1 p1 W1 r1 => ?_
        obtain ⟨a0, dx, fs, rfl, g1, g2⟩ := insd W1 r1
        refine ⟨a0, dx, fs, rfl, g1, g2, ?_⟩
        exact I.es C h7 env s1 ds s2 e2 σ H1 fx cm1 W1 (S.step p1.step) (p1.ble hb) _ fun vs H2 cm2 p2 W2 r2 => fin _ vs H1 H2 cm1 cm2 p1 r1 p2 W2 r2
    · cases h
  | make j es =>
    simp only [chkE] at h
    split at h
    · rename_i x p xs pos
      simp only [Bool.and_eq_true, decide_eq_true_eq] at h
      obtain ⟨⟨⟨h1, h2⟩, h3⟩, h4⟩ := h
      obtain ⟨n1, n2, n3⟩ := okName_is h2
      obtain ⟨f, fd, ps, hmk, hm, hbd, hz, F⟩ := C.cls _ _ h3
      simp only [evE] at ev
      obtain ⟨ds, s1, e1, ev⟩ := Out.bind_is ev
      obtain ⟨r0, s2, e2, ev⟩ := Out.bind_is ev
      split at ev
      rotate_left
      · cases ev
      rename_i c' fds hs2
      split at ev
      rotate_left
      · cases ev
      rename_i hcc
      simp only [Bool.and_eq_true, decide_eq_true_eq] at hcc
      obtain ⟨rfl, hcb⟩ := hcc
      cases ev
      cases k with
      | zero => rw [hz rfl] at e2; cases e2
      | succ k' =>
      have F := F k' rfl
      have fin : ∀ vs H1 cm1, Stp b H cm st H1 cm1 s1 → Valid L H1 (fx ++ cm1) cm1 s1 → Reps L H1 (fx ++ cm1) cm1 vs ds → ∀ y dy, H1 y = none → H1 dy = none → dy ≠ y →
          spF L (G.ini c') (.ref y :: (vs ++ [])) (upd (upd H1 dy (.own y)) y (.ins (L.ca c') dy [])) (fun v H2 => v = .non ∧ Q (.ref y) H2) E0 := fun vs H1 cm1 p1 W1 r1 y dy hy hdy hne => by
        rw [List.append_nil]
        refine po_mu (b := s1.length) (fx := fx) (Q := fun v H2 => spF L (G.ini c') (v :: vs) H2 (fun v' H3 => v' = .non ∧ Q v H3) E0) (made_po (b := s1.length) (c := c') W1 hy hdy hne) (Nat.le_refl _) fun v H2 cm2 po => ?_
        obtain ⟨p2, W2, r2⟩ := po.d
        have hcell : ∃ a, v = .ref a ∧ cm2[s1.length]? = some a := by cases r2 with | cell hc => exact ⟨_, rfl, hc⟩
        obtain ⟨a, rfl, hca⟩ := hcell
        refine ⟨s1.length, fx, _, _, _, s2, cm2, e2, p2.len, W2, .cons r2 (r1.step p2.step), fun v' H' cm' po3 => ?_⟩
        obtain ⟨p3, W3, r3⟩ := po3
        cases r3
        refine ⟨rfl, ?_⟩
        have hca' : cm'[s1.length]? = some a := by
          obtain ⟨ex, rfl, _⟩ := p3.step.new
          rw [List.getElem?_append_left (List.getElem?_eq_some_iff.mp hca).1]
          exact hca
        have po2 := po_frz W1 (p2.trans p3) W3 hca' hs2 (Nat.le_refl _) hcb
        exact q _ H' cm1 (Po.after p1 ⟨po2.1.less (p1.ble hb), po2.2⟩)
      cases xs with
      | nil =>
        refine wE_of (pe_make0 hmk F C.room (C.gl_ h1) hm hbd .nil pass0 n1) ?_
        cases es with
        | cons _ _ => cases n <;> simp [chkEs] at h4
        | nil =>
          simp only [evEs, Out.ok.injEq] at e1
          obtain ⟨rfl, rfl⟩ := e1
          exact fin [] H cm .refl W .nil
      | cons e0 xs =>
        have st0 := all_star h4
        refine wE_of (pe_make hmk F C.room (C.gl_ h1) hm hbd .nil pass0 pa_w n1 (star_of (st0 e0 List.mem_cons_self)) (stars_of fun e m => st0 e (List.mem_cons_of_mem _ m))) ?_
        exact I.es C h4 env st ds s1 e1 σ H fx cm W S hb _ fun vs H1 cm1 p1 W1 r1 => fin vs H1 cm1 p1 W1 r1
    · cases h
  | makeM j es =>
    simp only [chkE] at h
    split at h
    · rename_i x p xs pos
      simp only [Bool.and_eq_true, decide_eq_true_eq] at h
      obtain ⟨⟨⟨h1, h2⟩, h3⟩, h4⟩ := h
      obtain ⟨n1, n2, n3⟩ := okName_is h2
      obtain ⟨f, fd, ps, hmk, hm, hbd, hz, F⟩ := C.cls _ _ h3
      simp only [evE] at ev
      obtain ⟨ds, s1, e1, ev⟩ := Out.bind_is ev
      obtain ⟨r0, s2, e2, ev⟩ := Out.bind_is ev
      split at ev
      rotate_left
      · cases ev
      cases ev
      cases k with
      | zero => rw [hz rfl] at e2; cases e2
      | succ k' =>
      have F := F k' rfl
      have fin : ∀ vs H1 cm1, Stp b H cm st H1 cm1 s1 → Valid L H1 (fx ++ cm1) cm1 s1 → Reps L H1 (fx ++ cm1) cm1 vs ds → ∀ y dy, H1 y = none → H1 dy = none → dy ≠ y →
          spF L (G.ini j) (.ref y :: (vs ++ [])) (upd (upd H1 dy (.own y)) y (.ins (L.ca j) dy [])) (fun v H2 => v = .non ∧ Q (.ref y) H2) E0 := fun vs H1 cm1 p1 W1 r1 y dy hy hdy hne => by
        rw [List.append_nil]
        have hb1 := p1.ble hb
        refine po_mu (b := b) (fx := fx) (Q := fun v H2 => spF L (G.ini j) (v :: vs) H2 (fun v' H3 => v' = .non ∧ Q v H3) E0) (made_po (b := b) (c := j) W1 hy hdy hne) hb1 fun v H2 cm2 po => ?_
        obtain ⟨p2, W2, r2⟩ := po.d
        have hcell : ∃ a, v = .ref a ∧ cm2[s1.length]? = some a := by cases r2 with | cell hc => exact ⟨_, rfl, hc⟩
        obtain ⟨a, rfl, hca⟩ := hcell
        refine ⟨b, fx, _, _, _, st', cm2, e2, p2.ble hb1, W2, .cons r2 (r1.step p2.step), fun v' H' cm' po3 => ?_⟩
        obtain ⟨p3, W3, r3⟩ := po3
        cases r3
        refine ⟨rfl, ?_⟩
        have hca' : cm'[s1.length]? = some a := by
          obtain ⟨ex, rfl, _⟩ := p3.step.new
          rw [List.getElem?_append_left (List.getElem?_eq_some_iff.mp hca).1]
          exact hca
        exact q _ H' cm' ⟨p1.trans (p2.trans p3), W3, .cell hca'⟩
      cases xs with
      | nil =>
        refine wE_of (pe_make0 hmk F C.room (C.gl_ h1) hm hbd .nil pass0 n1) ?_
        cases es with
        | cons _ _ => cases n <;> simp [chkEs] at h4
        | nil =>
          simp only [evEs, Out.ok.injEq] at e1
          obtain ⟨rfl, rfl⟩ := e1
          exact fin [] H cm .refl W .nil
      | cons e0 xs =>
        have st0 := all_star h4
        refine wE_of (pe_make hmk F C.room (C.gl_ h1) hm hbd .nil pass0 pa_w n1 (star_of (st0 e0 List.mem_cons_self)) (stars_of fun e m => st0 e (List.mem_cons_of_mem _ m))) ?_
        exact I.es C h4 env st ds s1 e1 σ H fx cm W S hb _ fun vs H1 cm1 p1 W1 r1 => fin vs H1 cm1 p1 W1 r1
    · cases h
  | mu a =>
    simp only [chkE] at h
    simp only [evE] at ev
    obtain ⟨x, s1, e1, ev⟩ := Out.bind_is ev
    split at ev
    · rename_i o
      cases ev
      exact I.e C h env st _ s1 e1 σ H fx cm W S hb Q fun v H' cm' po => po_mu po hb q
    · cases ev
  | lc own g it t x =>
    simp only [chkE] at h
    split at h
    · rename_i el tg iter ifs scope p
      simp only [Bool.and_eq_true] at h
      obtain ⟨⟨⟨⟨⟨⟨h1, h2⟩, h3⟩, h4⟩, h5⟩, h6⟩, h7⟩ := h
      refine wE_of (pe_lc C.calm (by rw [C.hN]; exact C.nd) pi_w (by rw [C.hN, C.hs]; exact blkOk_by h1) pg_b pts_b pe_b (fold_of h3)) ?_
      exact lc_read I C h2 h4 h5 h6 h7 ev W S hb q
    · cases h
  | lc2 own vs g it t g' it' t' x => simp [chkE] at h
end
end En

set_option Elab.async false
set_option linter.all false
set_option maxRecDepth 100000
set_option maxHeartbeats 2000000
namespace En
open PySem PySem.Spec PyProof.Rows L2

def notTup : Expr → Bool
  | .Tuple .. => false | _ => true
def isName : Expr → Bool
  | .Name .. => true | _ => false
def noTL : Expr → Bool
  | .Tuple .. => false | .List .. => false | _ => true
/-- the targets are not stored from the right -/
def plainAsg (tg e : Expr) : Bool := noTL tg || notTup e
def swapOk (c : SC) (x y : Str) (a b : Expr) : Bool :=
  decide (c.sc.names.lookup x = some .local) && decide (c.sc.names.lookup y = some .local) && decide (x ≠ y) && noStar a && noStar b && !([a, b].all (foldedForSure 8)) && !([a, b].all (constantsAlone 8))
/-- name = [comprehension] -/
def chkLcA (n : Nat) (c : SC) (tg e : Expr) (own : List (Str × Nat)) (g' : IG) (it : II) (t : IC) (y : IE) : Bool := match tg, e with
  | .Name nm np, .ListComp el [⟨tg', iter, ifs, 0⟩] scope pos =>
    decide (c.sc.names.lookup nm = some .local) && (np.line == pos.line) && !(scope.names.any fun (q, k) => q == nm && (k == .local || k == .cell)) &&
    blkC c.N c.sc scope own && gIn (own.map (·.2)) g' && noSet iter && chkI n c tg' iter it && chkG n (c.blk scope) tg' g' && chkC n (c.blk scope) ifs t && chkE n (c.blk scope) el y
  | _, _ => false
def chkAx (n : Nat) (c : SC) (tg e : Expr) : IE → Bool
  | .lc own g' it t y => chkLcA n c tg e own g' it t y
  | .mu (.lc own g' it t y) => chkLcA n c tg e own g' it t y
  | x => noComp e && chkE n c e x
/-- o.f = e -/
def chkFa (n : Nat) (c : SC) (tg e : Expr) : IG → IE → Bool
  | .fld a f, x => (match tg with
    | .Attribute o y _ => decide (y = f) && noComp e && chkE n c o a && chkE n c e x
    | _ => false)
  | _, _ => false
mutual
def chkS : Nat → SC → Stmt → IS → Bool
  | 0, _, _, _ => false
  | n + 1, c, s, .asg g x => (match s with
    | .Assign [tg] e p => (noStar tg && plainAsg tg e && chkG n c tg g && chkAx n c tg e x) || chkFa n c tg e g x
    | _ => false)
  | n + 1, c, s, .par i j x y => (match s with
    | .Assign [.Tuple [.Name a pa, .Name b pb] _ _] (.Tuple [l, r] _ _) _ => decide (c.N[i]? = some a) && decide (c.N[j]? = some b) && decide (i ≠ j) && decide (pa.line = pb.line) && swapOk c a b l r && chkE n c l x && chkE n c r y
    | _ => false)
  | n + 1, c, s, .aug i o x => (match s with
    | .AugAssign (.Name nm _) p e _ => decide (c.N[i]? = some nm) && locB c nm && decide (opOf o = p) && chkE n c e x
    | _ => false)
  | n + 1, c, s, .expr x => (match s with
    | .Expr e _ => noComp e && chkE n c e x
    | _ => false)
  | n + 1, c, s, .ret x => (match s with
    | .Return (some e) _ => chkE n c e x
    | _ => false)
  | n + 1, c, s, .retF x => (match s with
    | .Return (some e) _ => chkE n c e x
    | _ => false)
  | n + 1, c, s, .retN => (match s with
    | .Return none _ => true
    | _ => false)
  | n + 1, c, s, .ifs t a d => (match s with
    | .If e x y _ => chkT n c e t && chkSs n c x a && chkSs n c y d
    | _ => false)
  | n + 1, c, s, .while_ t a => (match s with
    | .While e x [] _ => chkT n c e t && chkSs n c x a
    | _ => false)
  | n + 1, c, s, .for_ g it a => (match s with
    | .For tg iter x [] _ => noSet iter && chkI n c tg iter it && chkG n c tg g && chkSs n c x a
    | _ => false)
  | n + 1, c, s, .brk => (match s with
    | .Break _ => true
    | _ => false)
  | n + 1, c, s, .cont => (match s with
    | .Continue _ => true
    | _ => false)
  | n + 1, c, s, .pass => (match s with
    | .Pass _ => true
    | _ => false)
  | n + 1, c, s, .never => true
def chkSs : Nat → SC → List Stmt → ISs → Bool
  | 0, _, _, _ => false
  | n + 1, c, ss, .nil => (match ss with
    | [] => true
    | _ => false)
  | n + 1, c, ss, .cons x xs => (match ss with
    | s :: ss => chkS n c s x && chkSs n c ss xs
    | _ => false)
end

def Cok (L : Lk) (fx : List Addr) (b : Nat) (H : Hp) (cm : List Addr) (st : Store) (env' : En.Env) (st' : Store) (D : Ends) : Ctl → Prop
  | .nx => ∀ σ' H' cm', Stp b H cm st H' cm' st' → Valid L H' (fx ++ cm') cm' st' → Slots L H' (fx ++ cm') cm' env' σ' → D.nx σ' H'
  | .bk => ∀ σ' H' cm', Stp b H cm st H' cm' st' → Valid L H' (fx ++ cm') cm' st' → Slots L H' (fx ++ cm') cm' env' σ' → D.bk σ' H'
  | .ct => ∀ σ' H' cm', Stp b H cm st H' cm' st' → Valid L H' (fx ++ cm') cm' st' → Slots L H' (fx ++ cm') cm' env' σ' → D.ct σ' H'
  | .ret r => ∀ v H' cm', Po L fx b H cm st v r H' cm' st' → D.rt v H'
  | .retc n => ∀ v H' cm', Stp b H cm st H' cm' st' → Valid L H' (fx ++ cm') cm' st' → Rep L H' (fx ++ cm') cm' v (.cell n) → D.rt v H'
theorem Cok.after {L : Lk} {fx : List Addr} {b : Nat} {H H1 : Hp} {cm cm1 : List Addr} {st st1 st' : Store} {env' : En.Env} {D : Ends} {c : Ctl} (h : Cok L fx b H cm st env' st' D c) (s : Stp b H cm st H1 cm1 st1) : Cok L fx b H1 cm1 st1 env' st' D c := by
  cases c with
  | nx => exact fun σ' H' cm' t => h σ' H' cm' (s.trans t)
  | bk => exact fun σ' H' cm' t => h σ' H' cm' (s.trans t)
  | ct => exact fun σ' H' cm' t => h σ' H' cm' (s.trans t)
  | ret r => exact fun v H' cm' po => h v H' cm' (po.after s)
  | retc n => exact fun v H' cm' t => h v H' cm' (s.trans t)
def SSt (L : Lk) (G : Glo) (b : Nat) (X : Cx) (s : Stmt) (x : IS) : Prop := ∀ env st c env' st', exS G b x env st = .ok (c, env') st' → ∀ σ H fx cm, Valid L H (fx ++ cm) cm st → Slots L H (fx ++ cm) cm env σ → b ≤ st.length →
  ∀ D : Ends, Cok L fx b H cm st env' st' D c → wS X s D σ H
def SSs (L : Lk) (G : Glo) (b : Nat) (X : Cx) (s : List Stmt) (x : ISs) : Prop := ∀ env st c env' st', exSs G b x env st = .ok (c, env') st' → ∀ σ H fx cm, Valid L H (fx ++ cm) cm st → Slots L H (fx ++ cm) cm env σ → b ≤ st.length →
  ∀ D : Ends, Cok L fx b H cm st env' st' D c → wSs X s D σ H

section
variable {L : Lk} {G : Glo} {k b : Nat} {X : Cx} {c : SC}
theorem CtxOk.passes (C : CtxOk L G k X c) : PassesOwn (model X.prog X.w) X.A X.env X.xe := by
  rw [C.xe]
  exact PassesOwn.never
theorem sole_of {tg e : Expr} {l : Nat} {env : PySem.Env} (h : noComp e = true) : swapsWithSole [tg] e l env = pure false := swap_of h
theorem stores_of {tg e : Expr} {env : PySem.Env} (h : plainAsg tg e = true) : swappedStores [tg] e env = pure none := by
  unfold plainAsg at h
  cases tg <;> cases e <;> first | rfl | (simp [notTup, noTL] at h)
theorem all_snd (L : Lk) (G : Glo) (k : Nat) : ∀ n, Snd L G k n
  | 0 => ⟨fun _ h => by simp [chkE] at h, fun _ h => by simp [chkEs] at h, fun _ h => by simp [chkT] at h, fun _ h => by simp [chkW] at h, fun _ h => by simp [chkO] at h, fun _ h => by simp [chkC] at h, fun _ h => by simp [chkI] at h, fun _ h => by simp [chkG] at h, fun _ h => by simp [chkGs] at h⟩
  | n + 1 =>
    have I := all_snd L G k n
    ⟨se_e I, se_args I, se_t I, se_w I, se_o I, se_c I, se_i I, se_g I, se_gs I⟩
structure SndS (L : Lk) (G : Glo) (k : Nat) (n : Nat) : Prop where
  s : ∀ {b X c s x}, CtxOk L G k X c → chkS n c s x = true → SSt L G b X s x
  ss : ∀ {b X c s x}, CtxOk L G k X c → chkSs n c s x = true → SSs L G b X s x
theorem ss_ss {s : List Stmt} {x : ISs} {n : Nat} (I : SndS L G k n) (C : CtxOk L G k X c) (h : chkSs (n + 1) c s x = true) : SSs L G b X s x := by
  intro env st ct env' st' ev σ H fx cm W S hb D q
  cases x with
  | nil =>
    cases s with
    | cons _ _ => simp [chkSs] at h
    | nil =>
      simp only [exSs, Out.ok.injEq, Prod.mk.injEq] at ev
      obtain ⟨⟨rfl, rfl⟩, rfl⟩ := ev
      exact wSs_of pss_nil (q σ H cm .refl W S)
  | cons x xs =>
    cases s with
    | nil => simp [chkSs] at h
    | cons s ss =>
      simp only [chkSs, Bool.and_eq_true] at h
      simp only [exSs] at ev
      obtain ⟨⟨c1, env1⟩, s1, e1, ev⟩ := Out.bind_is ev
      refine wSs_of (pss_cons ps_w pss_w) ?_
      refine I.s C h.1 env st c1 env1 s1 e1 σ H fx cm W S hb _ ?_
      cases c1 with
      | nx => exact fun σ1 H1 cm1 p1 W1 S1 => I.ss C h.2 env1 s1 ct env' st' ev σ1 H1 fx cm1 W1 S1 (p1.ble hb) D (q.after p1)
      | bk =>
        simp only [Out.ok.injEq, Prod.mk.injEq] at ev
        obtain ⟨⟨rfl, rfl⟩, rfl⟩ := ev
        exact q
      | ct =>
        simp only [Out.ok.injEq, Prod.mk.injEq] at ev
        obtain ⟨⟨rfl, rfl⟩, rfl⟩ := ev
        exact q
      | ret r =>
        simp only [Out.ok.injEq, Prod.mk.injEq] at ev
        obtain ⟨⟨rfl, rfl⟩, rfl⟩ := ev
        exact q
      | retc r =>
        simp only [Out.ok.injEq, Prod.mk.injEq] at ev
        obtain ⟨⟨rfl, rfl⟩, rfl⟩ := ev
        exact q
/-- how a body's end leads on within a loop -/
theorem turn_end {fx : List Addr} {H H1 : Hp} {cm cm1 : List Addr} {st s1 s2 st' : Store} {env1 env' : En.Env} {D : Ends} {N : L2.St → Hp → Prop} {c1 ct : Ctl} (p1 : Stp b H cm st H1 cm1 s1)
    (q : Cok L fx b H cm st env' st' D ct) (go : c1.goes = true → ∀ σ' H' cm', Stp b H1 cm1 s1 H' cm' s2 → Valid L H' (fx ++ cm') cm' s2 → Slots L H' (fx ++ cm') cm' env1 σ' → N σ' H')
    (out : c1.goes = false → ct = c1.out ∧ env' = env1 ∧ st' = s2) : Cok L fx b H1 cm1 s1 env1 s2 { D with nx := N, ct := N, bk := D.nx } c1 := by
  cases c1 with
  | nx => exact go rfl
  | ct => exact go rfl
  | bk =>
    obtain ⟨rfl, rfl, rfl⟩ := out rfl
    exact fun σ' H' cm' t => q σ' H' cm' (p1.trans t)
  | ret r =>
    obtain ⟨rfl, rfl, rfl⟩ := out rfl
    exact fun v H' cm' po => q v H' cm' (po.after p1)
  | retc r =>
    obtain ⟨rfl, rfl, rfl⟩ := out rfl
    exact fun v H' cm' t => q v H' cm' (p1.trans t)
theorem for_read {g : IG} {it : II} {a : ISs} {tg iter : Expr} {body : List Stmt} {n : Nat} (I : SndS L G k n) (C : CtxOk L G k X c) (hi : chkI n c tg iter it = true) (hg : chkG n c tg g = true) (hbd : chkSs n c body a = true)
    {env : En.Env} {st : Store} {ct : Ctl} {env' : En.Env} {st' : Store} (ev : exS G b (.for_ g it a) env st = .ok (ct, env') st') {σ : L2.St} {H : Hp} {fx cm : List Addr} (W : Valid L H (fx ++ cm) cm st) (S : Slots L H (fx ++ cm) cm env σ) (hb : b ≤ st.length)
    {D : Ends} (q : Cok L fx b H cm st env' st' D ct) : tFor (wI X tg iter) (wG X tg) (wSs X body) D σ H := by
  have J := all_snd L G k n
  simp only [exS] at ev
  obtain ⟨m, s0, e0, ev⟩ := Out.bind_is ev
  refine J.i C hi env st m s0 e0 σ H fx cm W S hb _ fun T H1 cm1 p1 W1 wk => ?_
  have S1 := S.step p1.step
  have q1 := q.after p1
  have hb1 := p1.ble hb
  cases m with
  | l ds =>
    have wk : WkD L T H1 fx cm1 ds := wk
    simp only at ev
    refine ⟨fun i mm σ' Hc => mm = ds.length - i ∧ i ≤ ds.length ∧ ∃ (cm' : List Addr) (s' : Store) (e' : En.Env), Stp b H1 cm1 s0 Hc cm' s' ∧ Valid L Hc (fx ++ cm') cm' s' ∧ Slots L Hc (fx ++ cm') cm' e' σ' ∧
      forL (fun d e1 s2 => (asG G b g d e1 s2).bind fun e2 s3 => exSs G b a e2 s3) (ds.drop i) e' s' = .ok (ct, env') st', ⟨ds.length, by simp, Nat.zero_le _, cm1, s0, env, .refl, W1, S1, by simpa using ev⟩, ?_⟩
    rintro i mm σ' Hc ⟨rfl, hle, cm', s', e', sp, Wc, Sc, el⟩
    by_cases hlt : i < ds.length
    · refine .inr ⟨wk.go i Hc cm' hlt sp.step, fun σ'' H' => ∃ (cm' : List Addr) (s' : Store) (e' : En.Env), Stp b H1 cm1 s0 H' cm' s' ∧ Valid L H' (fx ++ cm') cm' s' ∧ Slots L H' (fx ++ cm') cm' e' σ'' ∧
        forL (fun d e1 s2 => (asG G b g d e1 s2).bind fun e2 s3 => exSs G b a e2 s3) (ds.drop (i + 1)) e' s' = .ok (ct, env') st', fun σ'' H' hN => ⟨ds.length - (i + 1), by omega, rfl, hlt, hN⟩, fun x H2 hy => ?_⟩
      obtain ⟨d, hd, p2, W2, r2⟩ := wk.yld b i Hc fx cm' s' x H2 (fun a m => .inl m) hlt sp.step Wc hy
      have hdrop : ds.drop i = d :: ds.drop (i + 1) := by
        obtain ⟨h1, h2⟩ := List.getElem?_eq_some_iff.mp hd
        rw [← h2]
        exact List.drop_eq_getElem_cons h1
      rw [hdrop] at el
      simp only [forL] at el
      obtain ⟨⟨c1, env1⟩, s3, e3, el⟩ := Out.bind_is el
      obtain ⟨env2, s4, f1, f2⟩ := Out.bind_is e3
      have hb0 : b ≤ s'.length := Nat.le_trans hb1 sp.len
      have sp2 := sp.trans p2
      refine J.g C hg d e' s' env2 s4 f1 x σ' H2 fx cm' W2 (Sc.step p2.step) r2 hb0 _ fun σ3 H3 cm3 p3 W3 S3 _ => ?_
      refine I.ss C hbd env2 s4 c1 env1 s3 f2 σ3 H3 fx cm3 W3 S3 (p3.ble hb0) _ ?_
      refine turn_end (sp2.trans p3) q1 (fun hgo σ4 H4 cm4 p4 W4 S4 => ⟨cm4, s3, env1, (sp2.trans p3).trans p4, W4, S4, ?_⟩) fun hgo => ?_
      · simp only [hgo, if_true] at el
        exact el
      · simp only [hgo, Bool.false_eq_true, if_false, Out.ok.injEq, Prod.mk.injEq] at el
        exact ⟨el.1.1.symm, el.1.2.symm, el.2.symm⟩
    · have hi2 : i = ds.length := by omega
      subst hi2
      rw [List.drop_length] at el
      simp only [forL, Out.ok.injEq, Prod.mk.injEq] at el
      obtain ⟨⟨rfl, rfl⟩, rfl⟩ := el
      exact .inl ⟨wk.stop Hc cm' sp.step, q1 σ' Hc cm' sp Wc Sc⟩
  | c n0 =>
    obtain ⟨a0, ha0, rfl⟩ : ∃ a0, cm1[n0]? = some a0 ∧ T = Itl L.K a0 := wk
    simp only at ev
    refine ⟨fun i mm σ' Hc => ∃ (cm' : List Addr) (s' : Store) (e' : En.Env), Stp b H1 cm1 s0 Hc cm' s' ∧ Valid L Hc (fx ++ cm') cm' s' ∧ Slots L Hc (fx ++ cm') cm' e' σ' ∧
      forC (fun d e1 s2 => (asG G b g d e1 s2).bind fun e2 s3 => exSs G b a e2 s3) n0 mm i e' s' = .ok (ct, env') st', ⟨G.F, cm1, s0, env, .refl, W1, S1, ev⟩, ?_⟩
    rintro i mm σ' Hc ⟨cm', s', e', sp, Wc, Sc, el⟩
    have ha : cm'[n0]? = some a0 := by
      obtain ⟨ex, rfl, _⟩ := sp.step.new
      rw [List.getElem?_append_left]
      · exact ha0
      · exact (List.getElem?_eq_some_iff.mp ha0).1
    cases mm with
    | zero => simp [forC] at el
    | succ mm =>
      simp only [forC] at el
      split at el
      · rename_i ds hds
        obtain ⟨vs, hv, rv⟩ := Wc.cell hds ha
        split at el
        · rename_i hnone
          simp only [Out.ok.injEq, Prod.mk.injEq] at el
          obtain ⟨⟨rfl, rfl⟩, rfl⟩ := el
          refine .inl ⟨⟨vs, .inl (.inl hv), ?_⟩, q1 σ' Hc cm' sp Wc Sc⟩
          rw [rv.length]
          exact List.getElem?_eq_none_iff.mp hnone
        · rename_i d hd
          obtain ⟨v, hv2, r2⟩ := rv.get hd
          obtain ⟨⟨c1, env1⟩, s3, e3, el⟩ := Out.bind_is el
          obtain ⟨env2, s4, f1, f2⟩ := Out.bind_is e3
          refine .inr ⟨⟨vs, v, .inl (.inl hv), hv2⟩, fun σ'' H' => ∃ (cm' : List Addr) (s' : Store) (e' : En.Env), Stp b H1 cm1 s0 H' cm' s' ∧ Valid L H' (fx ++ cm') cm' s' ∧ Slots L H' (fx ++ cm') cm' e' σ'' ∧
            forC (fun d e1 s2 => (asG G b g d e1 s2).bind fun e2 s3 => exSs G b a e2 s3) n0 mm (i + 1) e' s' = .ok (ct, env') st', fun σ'' H' hN => ⟨mm, Nat.lt_succ_self _, hN⟩, fun x H2 hy => ?_⟩
          obtain ⟨rfl, hy⟩ := hy
          have ex := hy vs (.inl (.inl hv))
          rw [hv2] at ex
          cases ex
          have hb0 : b ≤ s'.length := Nat.le_trans hb1 sp.len
          refine J.g C hg d e' s' env2 s4 f1 _ σ' _ fx cm' Wc Sc r2 hb0 _ fun σ3 H3 cm3 p3 W3 S3 _ => ?_
          refine I.ss C hbd env2 s4 c1 env1 s3 f2 σ3 H3 fx cm3 W3 S3 (p3.ble hb0) _ ?_
          refine turn_end (sp.trans p3) q1 (fun hgo σ4 H4 cm4 p4 W4 S4 => ⟨cm4, s3, env1, (sp.trans p3).trans p4, W4, S4, ?_⟩) fun hgo => ?_
          · simp only [hgo, if_true] at el
            exact el
          · simp only [hgo, Bool.false_eq_true, if_false, Out.ok.injEq, Prod.mk.injEq] at el
            exact ⟨el.1.1.symm, el.1.2.symm, el.2.symm⟩
      · cases el

theorem swap_is {x y : Str} {px py : Pos} {l r : Expr} {k1 k2 p1 p2} (hk : X.env.scope.kind = .function) (hs : X.env.scope = c.sc) (h : swapOk c x y l r = true) (hl : px.line = py.line) :
    swappedStores [.Tuple [.Name x px, .Name y py] k1 p1] (.Tuple [l, r] k2 p2) X.env = pure (some [x, y]) := by
  unfold swapOk at h
  simp only [Bool.and_eq_true, decide_eq_true_eq, Bool.not_eq_true'] at h
  obtain ⟨⟨⟨⟨⟨⟨h1, h2⟩, h3⟩, h4⟩, h5⟩, h6⟩, h7⟩ := h
  rw [← hs] at h1 h2
  have kx : X.env.kindOf x = some .local := h1
  have ky : X.env.kindOf y = some .local := h2
  have hb : X.env.blockKind = .function := by unfold PySem.Env.blockKind; rw [hk]; rfl
  unfold swappedStores
  simp only [hb, kx, ky, Expr.pos, List.length_cons, List.length_nil, List.head?_cons, Option.map_some, Option.getD_some, List.filterMap_cons, List.filterMap_nil, hl, h6, h7]
  have hd : [x, y].eraseDups = [x, y] := by
    rw [List.eraseDups_cons]
    have : (y == x) = false := by simp; exact fun z => h3 z.symm
    simp [List.eraseDups_cons, this]
  simp [hd]
  rintro (z | z)
  · cases l <;> first | (simp [noStar] at h4; done) | (simp at z; done)
  · cases r <;> first | (simp [noStar] at h5; done) | (simp at z; done)
theorem s_asg {g : IG} {x : IE} {tg e : Expr} {p : Pos} {n : Nat} (C : CtxOk L G k X c) (h1 : noStar tg = true) (h2 : plainAsg tg e = true) (h3 : chkG n c tg g = true) (h4 : chkAx n c tg e x = true)
    {env : En.Env} {st : Store} {ct : Ctl} {env' : En.Env} {st' : Store} (ev : exS G b (.asg g x) env st = .ok (ct, env') st') {σ : L2.St} {H : Hp} {fx cm : List Addr} (W : Valid L H (fx ++ cm) cm st) (S : Slots L H (fx ++ cm) cm env σ) (hb : b ≤ st.length)
    {D : Ends} (q : Cok L fx b H cm st env' st' D ct) : wS X (.Assign [tg] e p) D σ H := by
  have J := all_snd L G k n
  simp only [exS] at ev
  obtain ⟨r, s1, e1, ev⟩ := Out.bind_is ev
  obtain ⟨en2, s2, e2, ev⟩ := Out.bind_is ev
  simp only [Out.ok.injEq, Prod.mk.injEq] at ev
  obtain ⟨⟨rfl, rfl⟩, rfl⟩ := ev
  have plain : noComp e = true → chkE n c e x = true → wS X (.Assign [tg] e p) D σ H := fun hn he => by
    refine wS_of (ps_asg pe_w pg_w (sole_of hn) (stores_of h2) ?_) ?_
    · rw [asg_of h1]; rfl
    refine (J.e C he).use e1 W S hb fun v H1 cm1 p1 W1 r1 => ?_
    exact J.g C h3 _ env s1 _ _ e2 v σ H1 fx cm1 W1 (S.step p1.step) r1 (p1.ble hb) _ fun σ2 H2 cm2 p2 W2 S2 _ => q σ2 H2 cm2 (p1.trans p2) W2 S2
  have lc : ∀ {own g' it t y} {r0 : R} {s0 : Store}, chkLcA n c tg e own g' it t y = true → evE G b (.lc own g' it t y) env st = .ok r0 s0 → (∀ v H' cm', Po L fx b H cm st v r0 H' cm' s0 → ∃ cm2, Po L fx b H cm st v r H' cm2 s1) → wS X (.Assign [tg] e p) D σ H := fun {own g' it t y r0 s0} h ev0 qq => by
    unfold chkLcA at h
    split at h
    · rename_i nm np el tg' iter ifs scope pos
      simp only [Bool.and_eq_true, decide_eq_true_eq, Bool.not_eq_true'] at h
      obtain ⟨⟨⟨⟨⟨⟨⟨⟨⟨k1, k2⟩, k3⟩, k4⟩, k5⟩, k6⟩, k7⟩, k8⟩, k9⟩, k10⟩ := h
      obtain ⟨i, rfl, hi⟩ : ∃ i, g = .name i ∧ c.N[i]? = some nm := by
        cases n with
        | zero => simp [chkG] at h3
        | succ n =>
          cases g with
          | name i =>
            simp only [chkG, Bool.and_eq_true, decide_eq_true_eq] at h3
            exact ⟨i, rfl, h3.1⟩
          | tup gs => simp [chkG] at h3
          | sub a i => simp [chkG] at h3
          | fld a f => simp [chkG] at h3
      simp only [asG, Out.ok.injEq] at e2
      obtain ⟨rfl, rfl⟩ := e2
      intro pins s I
      refine (ps_setLc C.calm (by rw [C.hN]; exact C.nd) (by rw [C.hN]; exact hi) (by rw [C.hs]; exact k1) (sw_true I.ok.kind (by rw [C.hs]; exact k1) k2 k3) pi_w (by rw [C.hN, C.hs]; exact blkOk_by k4) pg_b pts_b pe_b (fold_of k6)).run pins s σ H D I ?_
      refine lc_read J C k5 k7 k8 k9 k10 ev0 W S hb fun v H' cm' po => ?_
      obtain ⟨cm2, po2⟩ := qq v H' cm' po
      obtain ⟨p1, W1, r1⟩ := po2.d
      exact q _ H' cm2 p1 W1 ((S.step p1.step).set r1 i)
    · cases h
  unfold chkAx at h4
  split at h4
  · exact lc h4 e1 fun v H' cm' po => ⟨cm', po⟩
  · simp only [evE] at e1
    obtain ⟨x0, s0, f1, e1⟩ := Out.bind_is e1
    split at e1
    · rename_i o
      cases e1
      exact lc h4 (by simp only [evE]; exact f1) fun v H' cm' po => po_mu (Q := fun v H' => ∃ cm2, Po L fx b H cm st v _ H' cm2 _) po hb fun v H' cm' po => ⟨cm', po⟩
    · cases e1
  · simp only [Bool.and_eq_true] at h4
    exact plain h4.1 h4.2
theorem s_fa {g : IG} {x : IE} {tg e : Expr} {p : Pos} {n : Nat} (C : CtxOk L G k X c) (h : chkFa n c tg e g x = true)
    {env : En.Env} {st : Store} {ct : Ctl} {env' : En.Env} {st' : Store} (ev : exS G b (.asg g x) env st = .ok (ct, env') st') {σ : L2.St} {H : Hp} {fx cm : List Addr} (W : Valid L H (fx ++ cm) cm st) (S : Slots L H (fx ++ cm) cm env σ) (hb : b ≤ st.length)
    {D : Ends} (q : Cok L fx b H cm st env' st' D ct) : wS X (.Assign [tg] e p) D σ H := by
  have J := all_snd L G k n
  unfold chkFa at h
  split at h
  · rename_i a f y
    split at h
    · rename_i o z pos
      simp only [Bool.and_eq_true, decide_eq_true_eq] at h
      obtain ⟨⟨⟨rfl, h1⟩, h2⟩, h3⟩ := h
      simp only [exS] at ev
      obtain ⟨r, s1, e1, ev⟩ := Out.bind_is ev
      obtain ⟨en2, s2, e2, ev⟩ := Out.bind_is ev
      simp only [Out.ok.injEq, Prod.mk.injEq] at ev
      obtain ⟨⟨rfl, rfl⟩, rfl⟩ := ev
      simp only [asG] at e2
      obtain ⟨w, s3, e3, e2⟩ := Out.bind_is e2
      obtain ⟨_, s4, e4, e2⟩ := Out.bind_is e2
      cases e2
      refine wS_of (ps_fld pe_w pe_w (swap_of h1)) ?_
      refine (J.e C h3).use e1 W S hb fun v H1 cm1 p1 W1 r1 => ?_
      refine (J.e C h2).use e3 W1 (S.step p1.step) (p1.ble hb) fun u H2 cm2 p2 W2 r2 => ?_
      have p12 := p1.trans p2
      obtain ⟨a0, j, dx, fs, rfl, hna, hH, hl, p3, W3⟩ := setF_sound e4 r2 (r1.step p2.step) W2
      obtain ⟨k1, k2⟩ := C.na j _ hna
      exact ⟨a0, L.ca j, dx, fs, rfl, hH, k1, k2, hl, q σ _ cm2 (p12.trans p3) W3 ((S.step p12.step).step p3.step)⟩
    · cases h
  · cases h
end
end En

set_option Elab.async false
set_option linter.all false
set_option maxRecDepth 100000
set_option maxHeartbeats 2000000
namespace En
open PySem PySem.Spec PyProof.Rows L2
section
variable {L : Lk} {G : Glo} {k b : Nat} {X : Cx} {c : SC}
theorem while_read {t : IT} {a : ISs} {e : Expr} {body : List Stmt} {n : Nat} (I : SndS L G k n) (C : CtxOk L G k X c) (ht : chkT n c e t = true) (hbd : chkSs n c body a = true)
    {env : En.Env} {st : Store} {ct : Ctl} {env' : En.Env} {st' : Store} (ev : exS G b (.while_ t a) env st = .ok (ct, env') st') {σ : L2.St} {H : Hp} {fx cm : List Addr} (W : Valid L H (fx ++ cm) cm st) (S : Slots L H (fx ++ cm) cm env σ) (hb : b ≤ st.length)
    {D : Ends} (q : Cok L fx b H cm st env' st' D ct) : tWhile (wT X e) (wSs X body) D σ H := by
  have J := all_snd L G k n
  simp only [exS] at ev
  refine ⟨fun m σ' Hc => ∃ (cm' : List Addr) (s' : Store) (e' : En.Env), Stp b H cm st Hc cm' s' ∧ Valid L Hc (fx ++ cm') cm' s' ∧ Slots L Hc (fx ++ cm') cm' e' σ' ∧
      whileL (evT G b t) (exSs G b a) m e' s' = .ok (ct, env') st', ⟨G.F, cm, st, env, .refl, W, S, ev⟩, ?_⟩
  rintro m σ' Hc ⟨cm', s', e', sp, Wc, Sc, el⟩
  cases m with
  | zero => simp [whileL] at el
  | succ m =>
    simp only [whileL] at el
    obtain ⟨kk, s1, f1, el⟩ := Out.bind_is el
    have hb0 := sp.ble hb
    refine J.t C ht e' s' kk s1 f1 σ' Hc fx cm' Wc Sc hb0 _ fun H1 cm1 p1 W1 => ?_
    have S1 := Sc.step p1.step
    have sp1 := sp.trans p1
    cases kk with
    | false =>
      simp only [Bool.false_eq_true, if_false, Out.ok.injEq, Prod.mk.injEq] at el ⊢
      obtain ⟨⟨rfl, rfl⟩, rfl⟩ := el
      exact q σ' H1 cm1 sp1 W1 S1
    | true =>
      simp only [if_true] at el ⊢
      obtain ⟨⟨c1, env1⟩, s2, f2, el⟩ := Out.bind_is el
      refine ⟨fun σ'' H'' => ∃ (cm' : List Addr) (s' : Store) (e' : En.Env), Stp b H cm st H'' cm' s' ∧ Valid L H'' (fx ++ cm') cm' s' ∧ Slots L H'' (fx ++ cm') cm' e' σ'' ∧
        whileL (evT G b t) (exSs G b a) m e' s' = .ok (ct, env') st', fun σ'' H'' hN => ⟨m, Nat.lt_succ_self _, hN⟩, ?_⟩
      refine I.ss C hbd e' s1 c1 env1 s2 f2 σ' H1 fx cm1 W1 S1 (p1.ble hb0) _ ?_
      refine turn_end sp1 q (fun hgo σ4 H4 cm4 p4 W4 S4 => ⟨cm4, s2, env1, sp1.trans p4, W4, S4, ?_⟩) fun hgo => ?_
      · simp only [hgo, if_true] at el
        exact el
      · simp only [hgo, Bool.false_eq_true, if_false, Out.ok.injEq, Prod.mk.injEq] at el
        exact ⟨el.1.1.symm, el.1.2.symm, el.2.symm⟩
theorem ss_s {s : Stmt} {x : IS} {n : Nat} (I : SndS L G k n) (C : CtxOk L G k X c) (h : chkS (n + 1) c s x = true) : SSt L G b X s x := by
  intro env st ct env' st' ev σ H fx cm W S hb D q
  have J := all_snd L G k n
  cases x with
  | asg g x =>
    simp only [chkS] at h
    split at h
    · simp only [Bool.or_eq_true, Bool.and_eq_true] at h
      rcases h with h | h
      · exact s_asg C h.1.1.1 h.1.1.2 h.1.2 h.2 ev W S hb q
      · exact s_fa C h ev W S hb q
    · cases h
  | par i j x y =>
    simp only [chkS] at h
    split at h
    · rename_i na pa nb pb l r
      simp only [Bool.and_eq_true, decide_eq_true_eq] at h
      obtain ⟨⟨⟨⟨⟨⟨h1, h2⟩, h3⟩, h4⟩, h5⟩, h6⟩, h7⟩ := h
      simp only [exS] at ev
      obtain ⟨r1, s1, e1, ev⟩ := Out.bind_is ev
      obtain ⟨r2, s2, e2, ev⟩ := Out.bind_is ev
      simp only [Out.ok.injEq, Prod.mk.injEq] at ev
      obtain ⟨⟨rfl, rfl⟩, rfl⟩ := ev
      have h5' := h5
      unfold swapOk at h5'
      simp only [Bool.and_eq_true, decide_eq_true_eq, Bool.not_eq_true'] at h5'
      obtain ⟨⟨⟨⟨⟨⟨q1, q2⟩, q3⟩, q4⟩, q5⟩, q6⟩, q7⟩ := h5'
      intro pins s Iv
      refine (ps_par C.calm (by rw [C.hN]; exact C.nd) (by rw [C.hN]; exact h1) (by rw [C.hN]; exact h2) h3 (by rw [C.hs]; exact q1) (by rw [C.hs]; exact q2) (pa_cons pe_w (pa_cons pe_w pa_nil (star_of q5)) (star_of q4)) (swap_is Iv.ok.kind C.hs h5 h4)).run pins s σ H D Iv ?_
      refine (J.e C h6).use e1 W S hb fun v H1 cm1 p1 W1 v1 => ?_
      refine (J.e C h7).use e2 W1 (S.step p1.step) (p1.ble hb) fun w H2 cm2 p2 W2 v2 => ?_
      exact ⟨v, w, rfl, q _ H2 cm2 (p1.trans p2) W2 (((S.step (p1.trans p2).step).set (v1.step p2.step) i).set v2 j)⟩
    · cases h
  | aug i o x =>
    simp only [chkS] at h
    split at h
    · rename_i nm np p e pos
      simp only [Bool.and_eq_true, decide_eq_true_eq] at h
      obtain ⟨⟨⟨h1, h2⟩, h3⟩, h4⟩ := h
      subst h3
      simp only [exS] at ev
      split at ev
      · rename_i m hm
        obtain ⟨r1, s1, e1, ev⟩ := Out.bind_is ev
        split at ev
        · rename_i m2 hr
          split at ev
          · rename_i kk hk
            split at ev
            · rename_i ho
              simp only [Out.ok.injEq, Prod.mk.injEq] at ev
              obtain ⟨⟨rfl, rfl⟩, rfl⟩ := ev
              obtain ⟨v, hv, rv⟩ := S.at_ _ _ hm
              cases rv
              have l := C.loc h2
              have fin : ∀ H1 cm1, Stp b H cm st H1 cm1 s1 → Valid L H1 (fx ++ cm1) cm1 s1 → D.nx (σ.set i (some (.int kk))) H1 := fun H1 cm1 p1 W1 => q _ H1 cm1 p1 W1 ((S.step p1.step).set (.int kk) i)
              rcases ho with rfl | rfl
              · simp only [intOp, Option.some.injEq] at hk
                subst hk
                refine wS_of (ps_aug (op := .Add) (by rw [C.hN]; exact C.nd) (by rw [C.hN]; exact h1) l.1 pe_w ip_add l.2) ⟨_, hv, ?_⟩
                refine (J.e C h4).use e1 W S hb fun v H1 cm1 p1 W1 v1 => ?_
                rw [hr] at v1
                cases v1
                exact ⟨_, _, rfl, rfl, fin H1 cm1 p1 W1⟩
              · simp only [intOp, Option.some.injEq] at hk
                subst hk
                refine wS_of (ps_aug (op := .Sub) (by rw [C.hN]; exact C.nd) (by rw [C.hN]; exact h1) l.1 pe_w ip_sub l.2) ⟨_, hv, ?_⟩
                refine (J.e C h4).use e1 W S hb fun v H1 cm1 p1 W1 v1 => ?_
                rw [hr] at v1
                cases v1
                exact ⟨_, _, rfl, rfl, fin H1 cm1 p1 W1⟩
            · cases ev
          · cases ev
        · cases ev
      · cases ev
    · cases h
  | expr x =>
    simp only [chkS] at h
    split at h
    · simp only [Bool.and_eq_true] at h
      simp only [exS] at ev
      obtain ⟨r, s1, e1, ev⟩ := Out.bind_is ev
      simp only [Out.ok.injEq, Prod.mk.injEq] at ev
      obtain ⟨⟨rfl, rfl⟩, rfl⟩ := ev
      refine wS_of (ps_expr pe_w (swap_of h.1)) ?_
      exact (J.e C h.2).use e1 W S hb fun v H1 cm1 p1 W1 r1 => q σ H1 cm1 p1 W1 (S.step p1.step)
    · cases h
  | ret x =>
    simp only [chkS] at h
    split at h
    · simp only [exS] at ev
      obtain ⟨r, s1, e1, ev⟩ := Out.bind_is ev
      simp only [Out.ok.injEq, Prod.mk.injEq] at ev
      obtain ⟨⟨rfl, rfl⟩, rfl⟩ := ev
      exact wS_of (ps_ret pe_w) (J.e C h env st r s1 e1 σ H fx cm W S hb _ fun v H' cm' po => q v H' cm' po)
    · cases h
  | retF x =>
    simp only [chkS] at h
    split at h
    · simp only [exS] at ev
      obtain ⟨r, s1, e1, ev⟩ := Out.bind_is ev
      split at ev
      · simp only [Out.ok.injEq, Prod.mk.injEq] at ev
        obtain ⟨⟨rfl, rfl⟩, rfl⟩ := ev
        exact wS_of (ps_ret pe_w) ((J.e C h).use e1 W S hb fun v H' cm' p1 W1 r1 => q v H' cm' p1 W1 r1)
      · cases ev
    · cases h
  | retN =>
    simp only [chkS] at h
    split at h
    · simp only [exS, Out.ok.injEq, Prod.mk.injEq] at ev
      obtain ⟨⟨rfl, rfl⟩, rfl⟩ := ev
      exact wS_of ps_retN (q .non H cm (po_val W .non))
    · cases h
  | ifs t a d =>
    simp only [chkS] at h
    split at h
    · simp only [Bool.and_eq_true] at h
      simp only [exS] at ev
      obtain ⟨kk, s1, e1, ev⟩ := Out.bind_is ev
      refine wS_of (ps_if pt_w pss_w pss_w) ?_
      refine J.t C h.1.1 env st kk s1 e1 σ H fx cm W S hb _ fun H1 cm1 p1 W1 => ?_
      cases kk with
      | true => exact I.ss C h.1.2 env s1 ct env' st' ev σ H1 fx cm1 W1 (S.step p1.step) (p1.ble hb) D (q.after p1)
      | false => exact I.ss C h.2 env s1 ct env' st' ev σ H1 fx cm1 W1 (S.step p1.step) (p1.ble hb) D (q.after p1)
    · cases h
  | while_ t a =>
    simp only [chkS] at h
    split at h
    · simp only [Bool.and_eq_true] at h
      exact wS_of (ps_while C.passes pt_w pss_w) (while_read I C h.1 h.2 ev W S hb q)
    · cases h
  | for_ g it a =>
    simp only [chkS] at h
    split at h
    · simp only [Bool.and_eq_true] at h
      exact wS_of (ps_for C.passes C.calm pi_w pg_w pss_w (fold_of h.1.1.1)) (for_read I C h.1.1.2 h.1.2 h.2 ev W S hb q)
    · cases h
  | brk =>
    simp only [chkS] at h
    split at h
    · simp only [exS, Out.ok.injEq, Prod.mk.injEq] at ev
      obtain ⟨⟨rfl, rfl⟩, rfl⟩ := ev
      exact wS_of ps_break (q σ H cm .refl W S)
    · cases h
  | cont =>
    simp only [chkS] at h
    split at h
    · simp only [exS, Out.ok.injEq, Prod.mk.injEq] at ev
      obtain ⟨⟨rfl, rfl⟩, rfl⟩ := ev
      exact wS_of ps_continue (q σ H cm .refl W S)
    · cases h
  | pass =>
    simp only [chkS] at h
    split at h
    · simp only [exS, Out.ok.injEq, Prod.mk.injEq] at ev
      obtain ⟨⟨rfl, rfl⟩, rfl⟩ := ev
      exact wS_of ps_pass (q σ H cm .refl W S)
    · cases h
  | never => simp [exS] at ev
theorem all_sndS (L : Lk) (G : Glo) (k : Nat) : ∀ n, SndS L G k n
  | 0 => ⟨fun _ h => by simp [chkS] at h, fun _ h => by simp [chkSs] at h⟩
  | n + 1 =>
    have I := all_sndS L G k n
    ⟨ss_s I, ss_ss I⟩
end
end En

set_option Elab.async false
set_option linter.all false
set_option maxRecDepth 100000
set_option maxHeartbeats 2000000
namespace En
open PySem PySem.Spec PyProof.Rows L2
section
variable {L : Lk} {H : Hp} {fb cm : List Addr}
theorem thL_sound {f : D → Option D} {H1 : Hp} {fb' cm' fb cm : List Addr} (hf : ∀ v d d', f d = some d' → Rep L H1 fb' cm' v d → Rep L H1 fb cm v d') : ∀ {ds ds' : List D} {vs : List V}, thL f ds = some ds' → Reps L H1 fb' cm' vs ds → Reps L H1 fb cm vs ds'
  | [], ds', vs, h, r => by
    simp only [thL, Option.some.injEq] at h
    subst h
    cases r
    exact .nil
  | d :: ds, ds', vs, h, r => by
    simp only [thL] at h
    obtain ⟨x, h1, h⟩ := Option.bind_eq_some_iff.mp h
    obtain ⟨xs, h2, rfl⟩ := Option.map_eq_some_iff.mp h
    cases r with
    | cons r rs => exact .cons (hf _ _ _ h1 r) (thL_sound hf h2 rs)
theorem thK_sound {κ : Type} {f : D → Option D} {H1 : Hp} {fb' cm' fb cm : List Addr} (hf : ∀ v d d', f d = some d' → Rep L H1 fb' cm' v d → Rep L H1 fb cm v d') : ∀ {ds ds' : List (κ × D)} {vs : List V}, thK f ds = some ds' → Reps L H1 fb' cm' vs (ds.map (·.2)) → Reps L H1 fb cm vs (ds'.map (·.2)) ∧ ds.map (·.1) = ds'.map (·.1)
  | [], ds', vs, h, r => by
    simp only [thK, Option.some.injEq] at h
    subst h
    cases r
    exact ⟨.nil, rfl⟩
  | (k, d) :: ds, ds', vs, h, r => by
    simp only [thK] at h
    obtain ⟨x, h1, h⟩ := Option.bind_eq_some_iff.mp h
    obtain ⟨xs, h2, rfl⟩ := Option.map_eq_some_iff.mp h
    rw [List.map_cons] at r
    generalize hq : ds.map (·.2) = qs at r
    cases r with
    | cons r rs =>
      subst hq
      obtain ⟨q1, q2⟩ := thK_sound hf h2 rs
      exact ⟨.cons (hf _ _ _ h1 r) q1, by simp [q2]⟩
section
variable {fb' ex : List Addr} {s1 : Store}
theorem th_sound (W : Valid L H fb' (cm ++ ex) s1) (sub1 : ∀ a ∈ fb, a ∈ fb') (hex : ∀ a ∈ ex, a ∉ fb) : ∀ (k : Nat) (v : V) (d d' : D), thD s1 cm.length k d = some d' → Rep L H fb' (cm ++ ex) v d → Rep L H fb cm v d' := by
  have base : ∀ (v : V) (d d' : D), cb cm.length d = true → some d = some d' → Rep L H fb' (cm ++ ex) v d → Rep L H fb cm v d' := fun v d d' hc e r => by
    cases e
    exact ((rep_narrow_ take_idx).1 r hc).less sub1
  have nin : ∀ {a : Addr}, a ∉ fb' → a ∉ fb := fun n m => n (sub1 _ m)
  intro k
  induction k with
  | zero =>
    intro v d d' h r
    simp only [thD] at h
    split at h
    · rename_i hc
      exact base v d d' hc h r
    · cases h
  | succ k ih =>
    intro v d d' h r
    simp only [thD] at h
    split at h
    · rename_i hc
      exact base v d d' hc h r
    · rename_i hc
      split at h
      · obtain ⟨xs, h2, rfl⟩ := Option.map_eq_some_iff.mp h
        cases r with
        | tup n t r => exact .tup (nin n) t (thL_sound ih h2 r)
      · obtain ⟨xs, h2, rfl⟩ := Option.map_eq_some_iff.mp h
        cases r with
        | lst n t r => exact .lst (nin n) t (thL_sound ih h2 r)
        | kl n r => exact .kl n (thL_sound ih h2 r)
      · obtain ⟨xs, h2, rfl⟩ := Option.map_eq_some_iff.mp h
        cases r with
        | dk n t e r =>
          obtain ⟨q1, q2⟩ := thK_sound ih h2 r
          exact .dk (nin n) t (e.trans q2) q1
      · obtain ⟨xs, h2, rfl⟩ := Option.map_eq_some_iff.mp h
        cases r with
        | dt n t e r =>
          obtain ⟨q1, q2⟩ := thK_sound ih h2 r
          exact .dt (nin n) t (e.trans q2) q1
      · obtain ⟨xs, h2, rfl⟩ := Option.map_eq_some_iff.mp h
        cases r with
        | obj n t e r =>
          obtain ⟨q1, q2⟩ := thK_sound ih h2 r
          exact .obj (nin n) t (e.trans q2) q1
      · rename_i n
        simp only [cb, decide_eq_true_eq] at hc
        cases r with
        | @cell _ a ha =>
          have hm : a ∈ ex := by
            rw [List.getElem?_append_right (Nat.le_of_not_lt hc)] at ha
            exact List.mem_of_getElem? ha
          have nx := hex a hm
          split at h
          · rename_i ds hs
            obtain ⟨xs, h2, rfl⟩ := Option.map_eq_some_iff.mp h
            obtain ⟨us, g1, g2⟩ := W.cell hs ha
            exact .lst nx (.inl g1) (thL_sound ih h2 g2)
          · rename_i ds hs
            obtain ⟨xs, h2, rfl⟩ := Option.map_eq_some_iff.mp h
            obtain ⟨us, g1, g2, g3⟩ := W.cell hs ha
            obtain ⟨q1, q2⟩ := thK_sound ih h2 g3
            exact .dk nx (.inl g1) (g2.trans q2) q1
          · rename_i ds hs
            obtain ⟨xs, h2, rfl⟩ := Option.map_eq_some_iff.mp h
            obtain ⟨us, g1, g2, g3⟩ := W.cell hs ha
            obtain ⟨q1, q2⟩ := thK_sound ih h2 g3
            exact .dt nx (.inl g1) (g2.trans q2) q1
          · rename_i c ds hs
            obtain ⟨xs, h2, rfl⟩ := Option.map_eq_some_iff.mp h
            obtain ⟨dx, us, g1, g2, g3⟩ := W.cell hs ha
            obtain ⟨q1, q2⟩ := thK_sound ih h2 g3
            exact .obj nx g1 (g2.trans q2) q1
          · cases h
      · cases h
theorem thO_sound (W : Valid L H fb' (cm ++ ex) s1) (sub1 : ∀ a ∈ fb, a ∈ fb') (hex : ∀ a ∈ ex, a ∉ fb) {k : Nat} {a : Addr} {o o' : O} (h : thO s1 cm.length k o = some o') (r : ORep L H fb' (cm ++ ex) a o) : ORep L H fb cm a o' := by
  have ih := th_sound W sub1 hex k
  cases o with
  | lst ds =>
    obtain ⟨xs, h2, rfl⟩ := Option.map_eq_some_iff.mp h
    obtain ⟨us, g1, g2⟩ := r
    exact ⟨us, g1, thL_sound ih h2 g2⟩
  | dk ds =>
    obtain ⟨xs, h2, rfl⟩ := Option.map_eq_some_iff.mp h
    obtain ⟨us, g1, g2, g3⟩ := r
    obtain ⟨q1, q2⟩ := thK_sound ih h2 g3
    exact ⟨us, g1, g2.trans q2, q1⟩
  | dt ds =>
    obtain ⟨xs, h2, rfl⟩ := Option.map_eq_some_iff.mp h
    obtain ⟨us, g1, g2, g3⟩ := r
    obtain ⟨q1, q2⟩ := thK_sound ih h2 g3
    exact ⟨us, g1, g2.trans q2, q1⟩
  | ins c ds =>
    obtain ⟨xs, h2, rfl⟩ := Option.map_eq_some_iff.mp h
    obtain ⟨dx, us, g1, g2, g3⟩ := r
    obtain ⟨q1, q2⟩ := thK_sound ih h2 g3
    exact ⟨dx, us, g1, g2.trans q2, q1⟩
end
theorem end_sound {fx : List Addr} {st s1 st' : Store} {c : Ctl} {env' : En.Env} {r : R} {Q : VK} (W : Valid L H (fx ++ cm) cm st) (e : endR st.length c s1 = .ok r st')
    (q : ∀ v H', Po L fx st.length H cm st v r H' cm st' → Q v H') : Cok L fx st.length H cm st env' s1 { nx := fun _ H' => Q .non H', rt := Q } c := by
  have hlen := W.len
  have base : ∀ {H' : Hp} {cm' : List Addr}, Stp st.length H cm st H' cm' s1 → ∃ ex, cm' = cm ++ ex ∧ (∀ a ∈ ex, H a = none) ∧ OldOk cm.length s1 ∧ Stp st.length H cm st H' cm (s1.take st.length) := fun {H' cm'} p => by
    obtain ⟨ex, rfl, hx⟩ := p.step.new
    refine ⟨ex, rfl, hx, ?_, ⟨p.step.ext, ⟨[], by simp, by simp⟩, p.step.trk⟩, fun b' hb' old n o hn e => ?_, ?_⟩
    · rw [hlen]; exact p.kp _ (Nat.le_refl _) W.old
    · rw [List.getElem?_take_of_lt (Nat.lt_of_lt_of_le hn hb')] at e
      exact p.kp b' hb' old n o hn e
    · rw [List.length_take]
      have := p.len
      omega
  have sub1 : ∀ {ex : List Addr}, ∀ a ∈ fx ++ cm, a ∈ fx ++ (cm ++ ex) := fun {ex} a m => by
    rw [← List.append_assoc]; exact List.mem_append_left _ m
  have exn : ∀ {ex : List Addr}, (∀ a ∈ ex, H a = none) → ∀ a ∈ ex, a ∉ fx ++ cm := fun {ex} hx a m m2 => by
    obtain ⟨u, hu⟩ := W.trk a m2
    rw [hx a m] at hu
    cases hu
  have val : ∀ {d : D}, c = .ret (.v d) → Cok L fx st.length H cm st env' s1 { nx := fun _ H' => Q .non H', rt := Q } c := fun {d} hc => by
    subst hc
    simp only [endR] at e
    split at e
    · rename_i hcb
      cases e
      intro v H' cm' po
      obtain ⟨p, W1, r1⟩ := po.d
      obtain ⟨ex, rfl, hx, old, p2⟩ := base p
      rw [← hlen] at hcb
      refine q v H' ⟨p2, by rw [← hlen]; exact W1.cut old sub1 fun a m => List.mem_append_right _ m, ?_⟩
      exact ((rep_narrow_ take_idx).1 r1 hcb).less sub1
    · split at e
      · rename_i d' hd'
        cases e
        intro v H' cm' po
        obtain ⟨p, W1, r1⟩ := po.d
        obtain ⟨ex, rfl, hx, old, p2⟩ := base p
        refine q v H' ⟨p2, by rw [← hlen]; exact W1.cut old sub1 fun a m => List.mem_append_right _ m, ?_⟩
        rw [← hlen] at hd'
        exact th_sound W1 sub1 (exn hx) 8 v d d' hd' r1
      · cases e
  cases c with
  | nx =>
    simp only [endR, Out.ok.injEq] at e
    obtain ⟨rfl, rfl⟩ := e
    intro σ' H' cm' p W1 S1
    obtain ⟨ex, rfl, hx, old, p2⟩ := base p
    refine q .non H' ⟨p2, ?_, .non⟩
    rw [← hlen]
    exact W1.cut old sub1 fun a m => List.mem_append_right _ m
  | bk => cases e
  | ct => cases e
  | ret r0 =>
    cases r0 with
    | v d => exact val rfl
    | n o =>
      simp only [endR] at e
      split at e
      · rename_i hcb
        cases e
        intro v H' cm' po
        obtain ⟨p, a, rfl, hp, hn, W1, o1⟩ := po
        obtain ⟨ex, rfl, hx, old, p2⟩ := base p
        have s2 : ∀ z ∈ fx ++ cm ++ [a], z ∈ fx ++ (cm ++ ex) ++ [a] := fun z m => by
          rcases List.mem_append.mp m with m | m
          · exact List.mem_append_left _ (sub1 z m)
          · exact List.mem_append_right _ m
        refine q _ H' ⟨p2, a, rfl, hp, fun m => hn (sub1 a m), ?_, ?_⟩
        · rw [← hlen]
          exact W1.cut old s2 fun z m => List.mem_append_left _ (List.mem_append_right _ m)
        · rw [← hlen] at hcb
          exact (orep_narrow take_idx o1 hcb).less s2
      · split at e
        · rename_i o' ho'
          cases e
          intro v H' cm' po
          obtain ⟨p, a, rfl, hp, hn, W1, o1⟩ := po
          obtain ⟨ex, rfl, hx, old, p2⟩ := base p
          have s2 : ∀ z ∈ fx ++ cm ++ [a], z ∈ fx ++ (cm ++ ex) ++ [a] := fun z m => by
            rcases List.mem_append.mp m with m | m
            · exact List.mem_append_left _ (sub1 z m)
            · exact List.mem_append_right _ m
          refine q _ H' ⟨p2, a, rfl, hp, fun m => hn (sub1 a m), ?_, ?_⟩
          · rw [← hlen]
            exact W1.cut old s2 fun z m => List.mem_append_left _ (List.mem_append_right _ m)
          · rw [← hlen] at ho'
            refine thO_sound W1 s2 (fun z m m2 => ?_) ho' o1
            rcases List.mem_append.mp m2 with m2 | m2
            · exact exn hx z m m2
            · rw [List.mem_singleton.mp m2] at m
              exact hn (List.mem_append_right _ (List.mem_append_right _ m))
        · cases e
  | retc n =>
    simp only [endR] at e
    split at e
    · rename_i o ho
      split at e
      · rename_i hcb
        simp only [Bool.and_eq_true, decide_eq_true_eq] at hcb
        cases e
        intro v H' cm' p W1 r1
        obtain ⟨ex, rfl, hx, old, p2⟩ := base p
        cases r1 with
        | @cell _ a hc =>
          have hn : ¬ n < cm.length := by rw [hlen]; omega
          have hex : a ∈ ex := by
            rw [List.getElem?_append_right (Nat.le_of_not_lt hn)] at hc
            exact List.mem_of_getElem? hc
          have s2 : ∀ z ∈ fx ++ cm ++ [a], z ∈ fx ++ (cm ++ ex) := fun z m => by
            rcases List.mem_append.mp m with m | m
            · exact sub1 z m
            · rw [List.mem_singleton.mp m]
              exact List.mem_append_right _ (List.mem_append_right _ hex)
          refine q _ H' ⟨p2, a, rfl, hx a hex, fun m => ?_, ?_, ?_⟩
          · obtain ⟨u, hu⟩ := W.trk a m
            rw [hx a hex] at hu
            cases hu
          · rw [← hlen]
            exact W1.cut old s2 fun z m => List.mem_append_left _ (List.mem_append_right _ m)
          · have o1 := W1.cell ho hc
            rw [← hlen] at hcb
            exact (orep_narrow take_idx o1 hcb.2).less s2
      · cases e
    · cases e
end
structure DI where
  x : Str
  q : Str
  st : Stmt
  N : List Str
  d : En.Def
  keep : Bool := false
structure CI where
  nm : Str
  ini : Nat
  ms : List (Str × Nat)
structure TB where
  ds : List DI
  fns : List (Str × Nat)
  gls : List (Str × Nat)
  blt : List Str
  cls : List CI
  cnm : List (Str × Nat)
  na : List (Nat × Str)
  gl : Nat → D
  gd : Nat → List (Str × D)
  F : Nat
def fp (x : Str) (n : Nat) : Str × Nat := (x, n)
def fq (n : Nat) (x : Str) : Nat × Str := (n, x)
structure Den where
  fn : Nat → Nat → List D → Store → Out R
  ini : Nat → Nat → List D → Store → Out R
def TB.meth (T : TB) (c : Nat) (m : Str) : Option Nat := (T.cls[c]?).bind fun ci => ci.ms.lookup m
def TB.glo (T : TB) (f : Den) : Glo := { fn := f.fn, ini := f.ini, gl := T.gl, gd := T.gd, me := T.meth, na := fun c x => decide ((c, x) ∈ T.na), F := T.F }
def DI.run (i : DI) (G : Glo) (b : Nat) : List D → Store → Out R := if i.keep then runK G b i.d else runF G i.d
def TB.lev (T : TB) : Nat → Den × (Nat → Nat → List D → Store → Out R)
  | 0 => (⟨fun _ _ _ _ => .no, fun _ _ _ _ => .no⟩, fun _ _ _ _ => .no)
  | k + 1 => (⟨fun j b xs s => (match T.ds[j]? with
      | some i => i.run (T.glo (T.lev k).1) b xs s
      | none => .no), (T.lev k).2⟩,
    fun c b xs s => (match (T.cls[c]?).bind fun ci => T.ds[ci.ini]? with
      | some i => runK (T.glo (T.lev k).1) b i.d xs s
      | none => .no))
def TB.den (T : TB) (k : Nat) : Den := (T.lev k).1
theorem den_succ {T : TB} {j : Nat} {i : DI} (h : T.ds[j]? = some i) (k b : Nat) : (T.den (k + 1)).fn j b = i.run (T.glo (T.den k)) b := by
  funext xs s
  simp only [TB.den, TB.lev, h]
theorem ini_succ {T : TB} {c : Nat} {ci : CI} {i : DI} (h : T.cls[c]? = some ci) (h2 : T.ds[ci.ini]? = some i) (k b : Nat) : (T.den (k + 2)).ini c b = runK (T.glo (T.den k)) b i.d := by
  funext xs s
  simp only [TB.den, TB.lev, h, Option.bind_some, h2]
def DI.ps (i : DI) : List Str := i.N.take i.d.params
def TB.sc (T : TB) (i : DI) : SC := { N := i.N, sc := defScope i.st, fnc := fun _ => true, fns := T.fns, gls := T.gls, cls := T.cnm, blt := T.blt }
def scB (N P : List Str) (sc : Scope) : Bool :=
  decide (sc.kind = .function) && !sc.isCoroutine && !sc.isGenerator && decide N.Nodup && decide (N.take P.length = P) && P.all (fun x => decide (sc.names.lookup x = some .local) || decide (sc.names.lookup x = some .cell)) && sc.names.all (fun y => !decide (y.2 = .free))
theorem scope_by {N P : List Str} {sc : Scope} (h : scB N P sc = true) : FnScope N P sc := by
  unfold scB at h
  simp only [Bool.and_eq_true, Bool.not_eq_true', decide_eq_true_eq, List.all_eq_true, Bool.or_eq_true, decide_eq_false_iff_not] at h
  obtain ⟨⟨⟨⟨⟨⟨h1, h2⟩, h3⟩, h4⟩, h5⟩, h6⟩, h7⟩ := h
  exact ⟨h1, h2, h3, h4, h5, h6, h7⟩
def chkD (T : TB) (n : Nat) (i : DI) : Bool := scB i.N i.ps (defScope i.st) && decide (i.N.length = i.d.slots) && decide (i.d.params ≤ i.d.slots) && chkSs n (T.sc i) (defBody i.st) i.d.body
def chkT' (T : TB) (n : Nat) : Bool := T.fns.all (fun p => decide (p.2 < T.ds.length)) && T.cnm.all (fun p => ((T.cls[p.2]?).bind fun ci => T.ds[ci.ini]?).isSome) && T.cls.all (fun ci => ci.ms.all fun p => decide (p.2 < T.ds.length)) && T.ds.all (chkD T n)
/-- what the program's top has written -/
structure Txt (L : Lk) (T : TB) (fa : Nat → Addr) (w : World) (K : PySem.W.Frag) (mg : Str → Option Value) : Prop where
  hK : K = L.K
  df : ∀ j i, T.ds[j]? = some i → ∃ fd, Fun K i.x i.q i.st (fa j) fd ∧ Binds K fd i.ps []
  fn : ∀ p ∈ T.fns, mg p.1 = some (.ref (fa p.2))
  gls : ∀ x j, (x, j) ∈ T.gls → ∃ u v, mg x = some u ∧ RelV v u ∧ ∀ (H : Hp) (fb cm : List Addr), Rep L H fb cm v (T.gl j)
  blt : ∀ x ∈ T.blt, mg x = none
  gd : GdOk L w T.gd
  cn : ∀ p ∈ T.cnm, mg p.1 = some (.ref (L.ca p.2))
  mks : ∀ c ci, T.cls[c]? = some ci → Cls K (L.ca c) ∧ Mk K (L.ca c) (fa ci.ini) ∧ ∀ p ∈ ci.ms, Meth K (L.ca c) p.1 (fa p.2)
  na : ∀ p ∈ T.na, Cls K (L.ca p.1) ∧ NoAttr K (L.ca p.1) p.2
theorem env_start {L : Lk} {H : Hp} {fb cm : List Addr} {N : List Str} {d : En.Def} {vs : List V} {ds : List D} (h : Reps L H fb cm vs ds) (hN : N.length = d.slots) : Slots L H fb cm (envOf d ds) (L2.start N vs) := by
  have hl := h.length
  refine ⟨by simp [envOf, L2.start, hN, hl], fun i x e => ?_⟩
  unfold envOf at e
  by_cases hi : i < ds.length
  · rw [List.getElem?_append_left (by simpa using hi), List.getElem?_map] at e
    simp only [Option.map_eq_some_iff, Option.some.injEq, exists_eq_right] at e
    obtain ⟨v, h1, h2⟩ := h.get e
    refine ⟨v, ?_, h2⟩
    unfold L2.start
    rw [List.getElem?_append_left (by simpa [hl] using hi), List.getElem?_map, h1]
    rfl
  · rw [List.getElem?_append_right (by simp; omega), List.getElem?_replicate] at e
    split at e <;> cases e
section
variable {P : Program} {w : World} {K : PySem.W.Frag} {mg : Str → Option Value} {base : Heap} {L : Lk} {T : TB} {fa : Nat → Addr}
def PF (P : Program) (w : World) (K : PySem.W.Frag) (mg : Str → Option Value) (base : Heap) (L : Lk) (T : TB) (fa : Nat → Addr) (k : Nat) : Prop := ∀ j i fd, T.ds[j]? = some i → Fun K i.x i.q i.st (fa j) fd → FnOk P w K mg base CX0 k (fa j) fd i.ps (spF L ((T.den k).fn j))
def PI' (P : Program) (w : World) (K : PySem.W.Frag) (mg : Str → Option Value) (base : Heap) (L : Lk) (T : TB) (fa : Nat → Addr) (k : Nat) : Prop := ∀ c ci i fd, T.cls[c]? = some ci → T.ds[ci.ini]? = some i → Fun K i.x i.q i.st (fa ci.ini) fd → FnOk P w K mg base CX0 k (fa ci.ini) fd i.ps (spF L ((T.lev k).2 c))
theorem ctx_ok (X : Txt L T fa w K mg) {n : Nat} (c : chkT' T n = true) {k : Nat} (h1 : PF P w K mg base L T fa k) (h2 : ∀ k', k = k' + 1 → PI' P w K mg base L T fa k') {i : DI} (S : FnScope i.N i.ps (defScope i.st)) {f : Addr} {cdv : Value} {A : Around} {outer : List PySem.Env} {s : Shared} {H : Hp} {E : XK}
    (hr : Room k (A.deeper (envOfC i.q (defScope i.st) s.heap.objs.size f cdv))) : CtxOk L (T.glo (T.den k)) k (cxOf CX0 P w K mg base i.N i.q (defScope i.st) f cdv A outer s H E).nox (T.sc i) := by
  unfold chkT' at c
  simp only [Bool.and_eq_true, List.all_eq_true, decide_eq_true_eq] at c
  exact {
    hN := rfl
    nd := S.nd
    hs := rfl
    fn := rfl
    calm := rfl
    room := hr
    xe := rfl
    hK := X.hK
    fns := fun x j m => by
      have hx := c.1.1.1 (x, j) m
      obtain ⟨fd, F, B⟩ := X.df j _ (List.getElem?_eq_getElem hx)
      exact ⟨fa j, fd, _, X.fn _ m, F.kp, B, h1 j _ fd (List.getElem?_eq_getElem hx) F⟩
    gls := X.gls
    blt := X.blt
    gd := X.gd
    cls := fun x j m => by
      have hx := c.1.1.2 (x, j) m
      obtain ⟨i', hi'⟩ := Option.isSome_iff_exists.mp hx
      obtain ⟨ci, hci, hi'⟩ := Option.bind_eq_some_iff.mp hi'
      obtain ⟨fd, F, B⟩ := X.df ci.ini _ hi'
      refine ⟨fa ci.ini, fd, _, (X.mks j ci hci).2.1, X.cn _ m, B, fun hz => ?_, fun k' hk => ?_⟩
      · subst hz
        intros
        rfl
      · subst hk
        exact h2 k' rfl j ci i' fd hci hi' F
    me := fun j m i' h => by
      have h : (T.cls[j]?).bind (fun ci => ci.ms.lookup m) = some i' := h
      obtain ⟨ci, hci, hl⟩ := Option.bind_eq_some_iff.mp h
      have hmem : (m, i') ∈ ci.ms := by
        have : ∀ l : List (Str × Nat), l.lookup m = some i' → (m, i') ∈ l := fun l => by
          induction l with
          | nil => intro h; cases h
          | cons p l ih =>
            intro h
            obtain ⟨a, b⟩ := p
            rw [List.lookup_cons] at h
            by_cases hb : m = a
            · subst hb
              simp at h
              subst h
              exact List.mem_cons_self
            · have : (m == a) = false := by simpa using hb
              rw [this] at h
              exact List.mem_cons_of_mem _ (ih h)
        exact this _ hl
      have hx := c.1.2 ci (List.mem_of_getElem? hci) _ hmem
      obtain ⟨fd, F, B⟩ := X.df i' _ (List.getElem?_eq_getElem hx)
      obtain ⟨q1, q2, q3⟩ := X.mks j ci hci
      exact ⟨fa i', fd, _, q1, q3 _ hmem, B, h1 i' _ fd (List.getElem?_eq_getElem hx) F⟩
    na := fun j f h => X.na (j, f) (by
      have h : decide ((j, f) ∈ T.na) = true := h
      exact of_decide_eq_true h) }
/-- a def keeps its promise, in both ways -/
theorem run_ok (X : Txt L T fa w K mg) {n : Nat} (c : chkT' T n = true) {k : Nat} (h1 : PF P w K mg base L T fa k) (h2 : ∀ k', k = k' + 1 → PI' P w K mg base L T fa k') {j : Nat} {i : DI} {f : Addr} {fd : FuncData} (hj : T.ds[j]? = some i) (F : Fun K i.x i.q i.st f fd)
    {g : Nat → List D → Store → Out R} (hg : (∀ b, g b = runF (T.glo (T.den k)) i.d) ∨ ∀ b, g b = runK (T.glo (T.den k)) b i.d) : FnOk P w K mg base CX0 (k + 1) f fd i.ps (spF L g) := by
  have cT := c
  unfold chkT' at c
  simp only [Bool.and_eq_true, List.all_eq_true, decide_eq_true_eq] at c
  have ci := c.2 i (List.mem_of_getElem? hj)
  unfold chkD at ci
  simp only [Bool.and_eq_true, decide_eq_true_eq] at ci
  obtain ⟨⟨⟨c1, c2⟩, c3⟩, c4⟩ := ci
  have S := scope_by c1
  have lenF : ∀ {ds st r st'}, runF (T.glo (T.den k)) i.d ds st = .ok r st' → ds.length = i.d.params := fun {ds st r st'} e => by
    unfold runF at e
    split at e
    · assumption
    · cases e
  have lenK : ∀ {b ds st r st'}, runK (T.glo (T.den k)) b i.d ds st = .ok r st' → ds.length = i.d.params := fun {b ds st r st'} e => by
    unfold runK at e
    split at e
    · assumption
    · cases e
  have len : ∀ {b ds st r st'}, g b ds st = .ok r st' → ds.length = i.d.params := fun {b ds st r st'} e => by
    rcases hg with hg | hg
    · rw [hg] at e; exact lenF e
    · rw [hg] at e; exact lenK e
  refine F.ok S (fun vs H Q E ⟨b, fx, ds, st, r, st', cm, e, hb, W, rs, _⟩ => ?_) fun cdv A outer s H vs Q E hr ⟨b, fx, ds, st, r, st', cm, e, hb, W, rs, q⟩ => ⟨_, pss_w, ?_⟩
  · rw [rs.length, len e, DI.ps, List.length_take, c2]
    omega
  · have C := ctx_ok (base := base) X cT h1 h2 S hr (E := E) (H := H) (outer := outer)
    have hl := len e
    rcases hg with hg | hg
    · rw [hg] at e
      unfold runF at e
      rw [if_pos hl] at e
      obtain ⟨⟨ct, env'⟩, s1, e1, e2⟩ := Out.bind_is e
      exact (all_sndS L (T.glo (T.den k)) k n).ss C c4 (envOf i.d ds) st ct env' s1 e1 (L2.start i.N vs) H fx cm W (env_start rs c2) (Nat.le_refl _) _ (end_sound W e2 fun v H' po => q v H' cm ⟨po.1.less hb, po.2⟩)
    · rw [hg] at e
      unfold runK at e
      rw [if_pos hl] at e
      obtain ⟨⟨ct, env'⟩, s1, e1, e2⟩ := Out.bind_is e
      refine (all_sndS L (T.glo (T.den k)) k n).ss C c4 (envOf i.d ds) st ct env' s1 e1 (L2.start i.N vs) H fx cm W (env_start rs c2) hb _ ?_
      cases ct with
      | nx =>
        cases e2
        exact fun σ' H' cm' p W' S' => q .non H' cm' ⟨p, W', .non⟩
      | ret r0 =>
        cases e2
        exact fun v H' cm' po => q v H' cm' po
      | bk => cases e2
      | ct => cases e2
      | retc n => cases e2
theorem pf_ok (X : Txt L T fa w K mg) {n : Nat} (c : chkT' T n = true) {k : Nat} (h1 : PF P w K mg base L T fa k) (h2 : ∀ k', k = k' + 1 → PI' P w K mg base L T fa k') : PF P w K mg base L T fa (k + 1) := fun j i fd hj F =>
  run_ok X c h1 h2 hj F (by
    cases hk : i.keep with
    | false => exact .inl fun b => by rw [den_succ hj, DI.run, hk]; rfl
    | true => exact .inr fun b => by rw [den_succ hj, DI.run, hk]; rfl)
theorem pi_ok (X : Txt L T fa w K mg) {n : Nat} (c : chkT' T n = true) {k : Nat} (h1 : PF P w K mg base L T fa k) (h2 : ∀ k', k = k' + 1 → PI' P w K mg base L T fa k') : PI' P w K mg base L T fa (k + 1) := fun cl ci i fd hc hj F =>
  run_ok X c h1 h2 hj F (.inr fun b => by
    funext xs s
    simp only [TB.lev, hc, Option.bind_some, hj]
    rfl)
theorem tab_all (X : Txt L T fa w K mg) {n : Nat} (c : chkT' T n = true) : ∀ k : Nat, PF P w K mg base L T fa k ∧ PI' P w K mg base L T fa k ∧ ∀ k', k = k' + 1 → PI' P w K mg base L T fa k'
  | 0 => ⟨fun j i fd hj F => ⟨fun vs H Q E z => (by obtain ⟨b, fx, ds, st, r, st', cm, e, _⟩ := z; cases e), fun A outer s H args us vs Q E hr he hb hv z => by obtain ⟨b, fx, ds, st, r, st', cm, e, _⟩ := z; cases e⟩,
    fun cl ci i fd hc hj F => ⟨fun vs H Q E z => (by obtain ⟨b, fx, ds, st, r, st', cm, e, _⟩ := z; cases e), fun A outer s H args us vs Q E hr he hb hv z => by obtain ⟨b, fx, ds, st, r, st', cm, e, _⟩ := z; cases e⟩, fun k' h => nomatch h⟩
  | k + 1 => by
    obtain ⟨i1, i2, i3⟩ := tab_all X c k
    exact ⟨pf_ok X c i1 i3, pi_ok X c i1 i3, fun k' h => by cases h; exact i2⟩
/-- lists of the text have no slots -/
def noSlots (K : PySem.W.Frag) : Bool := K.all fun p => match p.2.cls with
  | .type n => !(n == "list") || p.2.slots.isEmpty
  | _ => true
theorem look_all {K : PySem.W.Frag} {a : Addr} {o : Obj} {q : Addr × Obj → Bool} : K.all q = true → K.lookup a = some o → q (a, o) = true := by
  induction K with
  | nil => intro _ h; cases h
  | cons p K ih =>
    intro h e
    simp only [List.all_cons, Bool.and_eq_true] at h
    obtain ⟨b, u⟩ := p
    rw [List.lookup_cons] at e
    by_cases hb : a = b
    · subst hb
      simp only [beq_self_eq_true, Option.some.injEq] at e
      subst e
      exact h.1
    · have : (a == b) = false := by simpa using hb
      rw [this] at e
      exact ih h.2 e
def spLaw (K : PySem.W.Frag) (n : Nat) : Sp := fun vs H Q _ => ∃ (a : Addr) (ns : List Int), vs = [.ref a] ∧ SqL K H a (ns.map V.int) ∧ ns.length ≤ n ∧ ∀ H', Q (.bl true) H'
theorem Reps.ints {H : Hp} {fb cm : List Addr} : ∀ ns : List Int, Reps L H fb cm (ns.map V.int) (ns.map D.int)
  | [] => .nil
  | i :: ns => .cons (.int i) (Reps.ints ns)
theorem law_ok (X : Txt L T fa w K mg) {n k j m : Nat} (c : chkT' T n = true) (hs : noSlots K = true) {i : DI} {fd : FuncData} (hj : T.ds[j]? = some i) (F : Fun K i.x i.q i.st (fa j) fd)
    (math : ∀ ns : List Int, ns.length ≤ m → ∃ s, (T.den k).fn j 0 [.lst (ns.map .int)] [] = .ok (.v (.bl true)) s) : FnOk P w K mg base CX0 k (fa j) fd i.ps (spLaw K m) := by
  refine ((tab_all X c k).1 j i fd hj F).imp fun vs H Q E ⟨a, ns, e1, hS, hl, q⟩ => ?_
  subst e1
  obtain ⟨s, ev⟩ := math ns hl
  have W : Valid L H ([] ++ []) [] [] := ⟨rfl, .nil, (fun a m => nomatch m), (fun a m => nomatch m), fun n o e => by simp at e⟩
  refine ⟨0, [], [.lst (ns.map .int)], [], .v (.bl true), s, [], ev, Nat.le_refl _, W, .one ?_, fun v H' cm' po => ?_⟩
  · rcases hS with z | ⟨o, its, nn, h1, h2, h3, h4, h5, h6⟩
    · exact .lst (by simp) z (Reps.ints ns)
    · refine .kl ⟨its, nn, ?_, h5, h6⟩ (Reps.ints ns)
      have hz := look_all hs h1
      obtain ⟨c, d, da, sl⟩ := o
      cases h2; cases h3; cases h4
      simp at hz
      subst hz
      rw [← X.hK]
      exact h1
  · obtain ⟨_, _, r⟩ := po
    cases r
    exact q H'
end
end En

set_option Elab.async false
set_option linter.all false
set_option maxRecDepth 100000
set_option maxHeartbeats 4000000
namespace En
open PySem PySem.Spec PyProof.Rows L2
def cDraw : En.Def := { slots := 4, params := 2, body :=
    (.cons (.ifs (.e (.cmp .gt (.ix (.var 0) (.int 1)) (.int 1))) (.cons (.asg (.name 2) (.op .mod (.blt .int1 (.cons (.ix (.var 0) (.int 1)) .nil)) (.var 1)))
    (.cons (.asg (.sub (.var 0) (.int 1)) (.op .fdiv (.ix (.var 0) (.int 1)) (.var 1)))
    (.cons (.ret (.var 2))
    .nil))) .nil)
    (.cons (.asg (.sub (.var 0) (.int 2)) (.op .add (.ix (.var 0) (.int 2)) (.int 1)))
    (.cons (.asg (.name 3) (.op .mod (.blt .int1 (.cons (.op .add (.op .mod (.blt .int1 (.cons (.ix (.var 0) (.int 0)) .nil)) (.int 2147483647)) (.op .mul (.int 69621) (.ix (.var 0) (.int 2)))) .nil)) (.int 2147483647)))
    (.cons (.asg (.name 3) (.op .mod (.blt .int1 (.cons (.op .add (.op .add (.op .mul (.var 3) (.var 3)) (.op .mul (.int 48271) (.ix (.var 0) (.int 2)))) (.int 11)) .nil)) (.int 2147483629)))
    (.cons (.asg (.name 3) (.op .mod (.blt .int1 (.cons (.op .add (.op .mul (.var 3) (.var 3)) (.op .mod (.blt .int1 (.cons (.ix (.var 0) (.int 0)) .nil)) (.int 1000003))) .nil)) (.int 2147483587)))
    (.cons (.ret (.op .mod (.blt .int1 (.cons (.var 3) .nil)) (.var 1)))
    .nil)))))) }
theorem at3_0 {α : Type} (x y z : α) : atI [x, y, z] 0 = some x := rfl
theorem at3_1 {α : Type} (x y z : α) : atI [x, y, z] 1 = some y := rfl
theorem at3_2 {α : Type} (x y z : α) : atI [x, y, z] 2 = some z := rfl
theorem ix3_1 : ixN 3 1 = some 1 := rfl
theorem ix3_2 : ixN 3 2 = some 2 := rfl
theorem fmod_nn (a : Int) {m : Int} (h : 0 < m) : 0 ≤ a.fmod m ∧ a.fmod m < m := by
  rw [Int.fmod_eq_emod_of_nonneg _ (Int.le_of_lt h)]
  exact ⟨Int.emod_nonneg _ (by omega), Int.emod_lt_of_pos _ h⟩
theorem intOp_add (i j : Int) : intOp .add i j = some (i + j) := rfl
theorem intOp_sub (i j : Int) : intOp .sub i j = some (i - j) := rfl
theorem cmul_l {i : Int} (j : Int) (h1 : -18446744073709551616 < i) (h2 : i < 18446744073709551616) : CMulD i j = true := by
  unfold CMulD
  rw [decide_eq_true_eq]
  left
  have : (2 : Int) ^ 64 = 18446744073709551616 := by decide
  omega
theorem intOp_mul {i j : Int} (h1 : -18446744073709551616 < i) (h2 : i < 18446744073709551616) : intOp .mul i j = some (i * j) := by
  simp only [intOp, cmul_l j h1 h2, if_true]
theorem intOp_mod (i : Int) {j : Int} (h : j ≠ 0) : intOp .mod i j = some (i.fmod j) := by simp [intOp, h]
theorem mul_fm (x y : Int) {m : Int} (h : 0 < m) (h2 : m < 4294967296) : intOp .mul (x.fmod m) y = some (x.fmod m * y) := by
  have := fmod_nn x h
  exact intOp_mul (by omega) (by omega)
def drawA (c t : Int) : Int := (c.fmod 2147483647 + 69621 * t).fmod 2147483647
def drawB (c t : Int) : Int := (drawA c t * drawA c t + 48271 * t + 11).fmod 2147483629
def drawC (c t : Int) : Int := (drawB c t * drawB c t + c.fmod 1000003).fmod 2147483587
theorem mul_A (c t y : Int) : intOp .mul (drawA c t) y = some (drawA c t * y) := mul_fm _ _ (by decide) (by decide)
theorem mul_B (c t y : Int) : intOp .mul (drawB c t) y = some (drawB c t * y) := mul_fm _ _ (by decide) (by decide)
theorem draw_run (G : Glo) {c r t m : Int} {s : Store} (hm : 0 < m) (hm2 : m < 1000000000) : ∃ g c' r' t' : Int, 0 ≤ g ∧ g < m ∧
    runF G cDraw [.cell 0, .int m] (.lst [.int c, .int r, .int t] :: s) = .ok (.v (.int g)) (.lst [.int c', .int r', .int t'] :: s) := by
  have hne : m ≠ 0 := by omega
  have hna : m.natAbs < 1073741824 := by omega
  by_cases hr : (1 : Int) < r
  · refine ⟨r.fmod m, c, r.fdiv m, t, (fmod_nn _ hm).1, (fmod_nn _ hm).2, ?_⟩
    simp [runF, cDraw, envOf, exSs, exS, evT, evE, evEs, asG, ixR, seqOf, at3_0, at3_1, at3_2, cmpR, intCmp, hr, tru, opR, intOp, bltR, hne, hna, setR, ix3_1, okW, cb, endR]
  · refine ⟨(drawC c (t + 1)).fmod m, c, r, t + 1, (fmod_nn _ hm).1, (fmod_nn _ hm).2, ?_⟩
    have m1 : ∀ y, intOp .mul 69621 y = some (69621 * y) := fun y => intOp_mul (by decide) (by decide)
    have m2 : ∀ y, intOp .mul 48271 y = some (48271 * y) := fun y => intOp_mul (by decide) (by decide)
    have eA : (c.fmod 2147483647 + 69621 * (t + 1)).fmod 2147483647 = drawA c (t + 1) := rfl
    have eB : (drawA c (t + 1) * drawA c (t + 1) + 48271 * (t + 1) + 11).fmod 2147483629 = drawB c (t + 1) := rfl
    have eC : (drawB c (t + 1) * drawB c (t + 1) + c.fmod 1000003).fmod 2147483587 = drawC c (t + 1) := rfl
    simp [runF, cDraw, envOf, exSs, exS, evT, evE, evEs, asG, ixR, seqOf, at3_0, at3_1, at3_2, cmpR, intCmp, hr, tru, opR, intOp_add, intOp_mod, m1, m2, mul_A, mul_B, eA, eB, eC, bltR, hne, hna, setR, ix3_2, okW, cb, endR]

def cPool : En.Def := { slots := 4, params := 2, body :=
    (.cons (.asg (.name 2) (.int 0))
    (.cons (.ifs (.e (.cmp .lt (.var 1) (.blt .len (.cons (.var 0) .nil)))) (.cons (.asg (.name 2) (.blt .abs (.cons (.blt .int1 (.cons (.ix (.var 0) (.var 1)) .nil)) .nil)))
    .nil) .nil)
    (.cons (.asg (.name 3) (.int 0))
    (.cons (.ifs (.e (.cmp .ge (.var 2) (.op .pow (.int 10) (.int 18)))) (.cons (.asg (.name 3) (.var 2))
    .nil) .nil)
    (.cons (.ret (.lst (.cons (.var 2) (.cons (.var 3) (.cons (.int 0) .nil)))))
    .nil))))) }
theorem cbs_ints (b : Nat) (ns : List Int) : cbs b (ns.map D.int) = true := by
  induction ns with
  | nil => rfl
  | cons n ns ih => simp [cbs, cb, ih]
theorem pool_run (G : Glo) {ns : List Int} {p : Nat} : ∃ c r : Int, runF G cPool [.lst (ns.map .int), .int p] [] = .ok (.n (.lst [.int c, .int r, .int 0])) [] := by
  have hp : intOp .pow 10 18 = some 1000000000000000000 := by decide +kernel
  by_cases h : p < ns.length
  · have hi : (p : Int) < ((ns.length : Nat) : Int) := by omega
    have ha : atI (ns.map D.int) (p : Int) = some (.int ns[p]) := atI_nat (by rw [List.getElem?_map, List.getElem?_eq_getElem h]; rfl)
    generalize hc : (if ns[p] < 0 then -ns[p] else ns[p]) = c
    by_cases h2 : (1000000000000000000 : Int) ≤ c
    · exact ⟨c, c, by simp [runF, cPool, envOf, exSs, exS, evT, evE, evEs, asG, ixR, seqOf, ha, hi, cmpR, intCmp, lenD, tru, opR, hp, bltR, endR, hc, h2, cbO, cbs, cb]⟩
    · exact ⟨c, 0, by simp [runF, cPool, envOf, exSs, exS, evT, evE, evEs, asG, ixR, seqOf, ha, hi, cmpR, intCmp, lenD, tru, opR, hp, bltR, endR, hc, h2, cbO, cbs, cb]⟩
  · have hi : ¬ (p : Int) < ((ns.length : Nat) : Int) := by omega
    exact ⟨0, 0, by simp [runF, cPool, envOf, exSs, exS, evT, evE, evEs, asG, ixR, seqOf, hi, cmpR, intCmp, lenD, tru, opR, hp, bltR, endR, cbO, cbs, cb]⟩
/-- a def draws -/
def DrawOk (f : Nat → List D → Store → Out R) : Prop := ∀ (b : Nat) (c r t m : Int) (s : Store), 0 < m → m < 1000000000 → ∃ g c' r' t' : Int, 0 ≤ g ∧ g < m ∧ f b [.cell 0, .int m] (.lst [.int c, .int r, .int t] :: s) = .ok (.v (.int g)) (.lst [.int c', .int r', .int t'] :: s)
theorem draw_call {f : Nat → List D → Store → Out R} (h : DrawOk f) (b : Nat) (c r t m : Int) (s : Store) (hm : 0 < m) (hm2 : m < 1000000000) :
    ∃ g c' r' t' : Int, 0 ≤ g ∧ g < m ∧ callR f b [.cell 0, .int m] (.lst [.int c, .int r, .int t] :: s) = .ok (.v (.int g)) (.lst [.int c', .int r', .int t'] :: s) := by
  obtain ⟨g, c', r', t', h1, h2, h3⟩ := h b c r t m s hm hm2
  exact ⟨g, c', r', t', h1, h2, by simp [callR, cbs, cb, h3]⟩
def cPick (jd : Nat) : En.Def := { slots := 2, params := 2, body :=
    (.cons (.ret (.ix (.var 1) (.call jd (.cons (.var 0) (.cons (.blt .len (.cons (.var 1) .nil)) .nil)))))
    .nil) }
theorem atI_mem {α : Type} {xs : List α} {g : Int} (h1 : 0 ≤ g) (h2 : g < xs.length) : ∃ d, atI xs g = some d ∧ d ∈ xs := by
  obtain ⟨n, rfl⟩ := Int.eq_ofNat_of_zero_le h1
  have hn : n < xs.length := by omega
  exact ⟨xs[n], atI_nat (List.getElem?_eq_getElem hn), List.getElem_mem hn⟩
theorem pick_run (G : Glo) {jd : Nat} (hd : DrawOk (G.fn jd)) {c r t : Int} {s : Store} {row : List D} (h0 : 0 < row.length) (h1 : row.length < 1000000000) (hc : cbs (s.length + 1) row = true) :
    ∃ d c' r' t', d ∈ row ∧ runF G (cPick jd) [.cell 0, .lst row] (.lst [.int c, .int r, .int t] :: s) = .ok (.v d) (.lst [.int c', .int r', .int t'] :: s) := by
  obtain ⟨g, c', r', t', g1, g2, e⟩ := draw_call hd (s.length + 1) c r t row.length s (by omega) (by omega)
  obtain ⟨d, ha, hm⟩ := atI_mem g1 g2
  refine ⟨d, c', r', t', hm, ?_⟩
  have hcd := cbs_iff.mp hc d hm
  simp [runF, cPick, envOf, exSs, exS, evE, evEs, bltR, lenD, seqOf, e, ixR, ha, endR, hcd]
def cOrderB (jd : Nat) : ISs := .cons (.expr (.mt .append (.var 3) (.cons (.mt .popAt (.var 2) (.cons (.call jd (.cons (.var 0) (.cons (.blt .len (.cons (.var 2) .nil)) .nil))) .nil)) .nil))) .nil
def cOrder (jd : Nat) : En.Def := { slots := 5, params := 2, body :=
    (.cons (.asg (.name 2) (.mu (.blt .list (.cons (.var 1) .nil))))
    (.cons (.asg (.name 3) (.mu (.lst .nil)))
    (.cons (.for_ (.name 4) (.rng1 (.blt .len (.cons (.var 1) .nil))) (cOrderB jd))
    (.cons (.retF (.var 3))
    .nil)))) }
theorem ss_cons_0 {G : Glo} {b : Nat} {x : IS} {xs : ISs} {e e1 : En.Env} {s s1 : Store} (h : exS G b x e s = .ok (.nx, e1) s1) : exSs G b (.cons x xs) e s = exSs G b xs e1 s1 := by
  simp only [exSs, h, Out.bind_ok]
theorem ss_ret_0 {G : Glo} {b : Nat} {x : IS} {xs : ISs} {e e1 : En.Env} {s s1 : Store} {r : R} (h : exS G b x e s = .ok (.ret r, e1) s1) : exSs G b (.cons x xs) e s = .ok (.ret r, e1) s1 := by
  simp only [exSs, h, Out.bind_ok]
theorem ss_retc_0 {G : Glo} {b : Nat} {x : IS} {xs : ISs} {e e1 : En.Env} {s s1 : Store} {n : Nat} (h : exS G b x e s = .ok (.retc n, e1) s1) : exSs G b (.cons x xs) e s = .ok (.retc n, e1) s1 := by
  simp only [exSs, h, Out.bind_ok]
theorem s_for_0 {G : Glo} {b : Nat} {g : IG} {it : II} {a : ISs} {e : En.Env} {s s1 : Store} {ds : List D} {o : Out (Ctl × En.Env)} (h : evI G b it e s = .ok (.l ds) s1)
    (h2 : forL (fun d e1 s2 => (asG G b g d e1 s2).bind fun e2 s3 => exSs G b a e2 s3) ds e s1 = o) : exS G b (.for_ g it a) e s = o := by
  simp only [exS, h, Out.bind_ok, h2]
theorem run_of_0 {G : Glo} {d : En.Def} {xs : List D} {s s1 s' : Store} {c : Ctl} {e' : En.Env} {r : R} (hl : xs.length = d.params) (h : exSs G s.length d.body (envOf d xs) s = .ok (c, e') s1) (h2 : endR s.length c s1 = .ok r s') : runF G d xs s = .ok r s' := by
  simp only [runF, if_pos hl, h, Out.bind_ok, h2]
theorem forL_inv {f : D → En.Env → Store → Out (Ctl × En.Env)} (P : List D → En.Env → Store → Prop) : ∀ (ds : List D) (e : En.Env) (s : Store), P ds e s →
    (∀ d ds e s, P (d :: ds) e s → ∃ e' s', f d e s = .ok (.nx, e') s' ∧ P ds e' s') → ∃ e' s', forL f ds e s = .ok (.nx, e') s' ∧ P [] e' s'
  | [], e, s, h, _ => ⟨e, s, rfl, h⟩
  | d :: ds, e, s, h, st => by
    obtain ⟨e1, s1, h1, h2⟩ := st d ds e s h
    obtain ⟨e2, s2, h3, h4⟩ := forL_inv P ds e1 s1 h2 st
    exact ⟨e2, s2, by simp [forL, h1, Ctl.goes, h3], h4⟩
theorem app_0 {α : Type} (s : List α) (a : α) (r : List α) : (s ++ a :: r)[s.length]? = some a := by simp
theorem app_1 {α : Type} (s : List α) (a b : α) (r : List α) : (s ++ a :: b :: r)[s.length + 1]? = some b := by
  rw [List.getElem?_append_right (by omega)]
  have : s.length + 1 - s.length = 1 := by omega
  rw [this]
  rfl
theorem set_0 {α : Type} (s : List α) (a x : α) (r : List α) : (s ++ a :: r).set s.length x = s ++ x :: r := by
  rw [List.set_append_right _ _ (by omega)]
  simp
theorem set_1 {α : Type} (s : List α) (a b x : α) (r : List α) : (s ++ a :: b :: r).set (s.length + 1) x = s ++ a :: x :: r := by
  rw [List.set_append_right _ _ (by omega)]
  have : s.length + 1 - s.length = 1 := by omega
  rw [this]
  rfl
theorem ixN_lt {n : Nat} {g : Int} (h1 : 0 ≤ g) (h2 : g < n) : ixN n g = some g.toNat := by
  obtain ⟨k, rfl⟩ := Int.eq_ofNat_of_zero_le h1
  unfold ixN
  have : ¬ (k : Int) < 0 := by omega
  simp [this]
  omega
theorem erase_perm {α : Type} : ∀ (xs : List α) (n : Nat) (h : n < xs.length), List.Perm ([xs[n]] ++ xs.eraseIdx n) xs
  | x :: xs, 0, _ => by simp
  | x :: xs, n + 1, h => by
    have h' : n < xs.length := by simpa using h
    have := erase_perm xs n h'
    simp only [List.getElem_cons_succ, List.eraseIdx_cons_succ, List.singleton_append] at this ⊢
    exact (List.Perm.swap _ _ _).trans (List.Perm.cons _ this)
end En

set_option Elab.async false
set_option linter.all false
set_option maxRecDepth 100000
set_option maxHeartbeats 4000000
namespace En
open PySem PySem.Spec PyProof.Rows L2
theorem popAt_run {gd : Nat → List (Str × D)} {b n : Nat} {s : Store} {ds : List D} {g : Int} (h : s[n]? = some (.lst ds)) (g1 : 0 ≤ g) (g2 : g < ds.length) (hb : b ≤ n) (hl : ds.length ≤ 100000) :
    ∃ hg : g.toNat < ds.length, mtR gd b .popAt (.cell n) [.int g] s = .ok (.v ds[g.toNat]) (s.set n (.lst (ds.eraseIdx g.toNat))) := by
  have hg : g.toNat < ds.length := by omega
  have hgl : decide (-(2 ^ 63) ≤ g ∧ g < 2 ^ 63) = true := by
    rw [decide_eq_true_eq]
    have : (2 : Int) ^ 63 = 9223372036854775808 := by decide
    omega
  have el : (ds.eraseIdx g.toNat).length = ds.length - 1 := List.length_eraseIdx_of_lt hg
  have z1 : decide ((ds.eraseIdx g.toNat).length ≤ 100000) = true := by rw [decide_eq_true_eq]; omega
  have z2 : okW b n .non = true := by simp [okW, hb]
  refine ⟨hg, ?_⟩
  simp only [mtR, onLst, h, hgl, if_true, ixN_lt g1 g2, Option.bind_some, List.getElem?_eq_getElem hg, Option.map_some, z1, z2, Bool.and_self]
theorem append_run {gd : Nat → List (Str × D)} {b n : Nat} {s : Store} {ds : List D} {d : D} (h : s[n]? = some (.lst ds)) (hw : okW b n d = true) (hl : ds.length < 100000) :
    mtR gd b .append (.cell n) [d] s = .ok (.v .non) (s.set n (.lst (ds ++ [d]))) := by
  have z1 : decide ((ds ++ [d]).length ≤ 100000) = true := by rw [decide_eq_true_eq, List.length_append, List.length_singleton]; omega
  simp only [mtR, onLst, h, z1, hw, Bool.and_self, if_true]
theorem okW_own {b n : Nat} (d : D) (h : b ≤ n) : okW b n d = true := by simp [okW, h]
theorem isLst_cell {s : Store} {n : Nat} {ds : List D} (h : s[n]? = some (.lst ds)) : isLst s (.cell n) = true := by simp [isLst, seqOf, h]
theorem len_cell {s : Store} {n : Nat} {ds : List D} (h : s[n]? = some (.lst ds)) : bltR .len [.cell n] s = some (.v (.int ((ds.length : Nat) : Int))) := by simp [bltR, lenD, seqOf, h]
theorem len_lst {s : Store} {ds : List D} : bltR .len [.lst ds] s = some (.v (.int ((ds.length : Nat) : Int))) := by simp [bltR, lenD, seqOf]
theorem rng_ok {n : Nat} (h : n < 1000000000000000000) : decide (-(2 ^ 62) ≤ ((n : Nat) : Int) ∧ ((n : Nat) : Int) < 2 ^ 62) = true := by
  rw [decide_eq_true_eq]
  have : (2 : Int) ^ 62 = 4611686018427387904 := by decide
  omega
section
variable {G : Glo} {b : Nat} {e : En.Env} {s s1 s2 : Store}
theorem e_var_0 {i : Nat} {d : D} (h : e[i]? = some (some d)) : evE G b (.var i) e s = .ok (.v d) s := by simp only [evE, h]
theorem e_blt_0 {f : Blt} {es : IEs} {xs : List D} {r : R} (h : evEs G b es e s = .ok xs s1) (h2 : bltR f xs s1 = some r) : evE G b (.blt f es) e s = .ok r s1 := by simp only [evE, h, Out.bind_ok, h2, Out.of_some]
theorem e_call_0 {j : Nat} {es : IEs} {xs : List D} {o : Out R} (h : evEs G b es e s = .ok xs s1) (h2 : callR (G.fn j) b xs s1 = o) : evE G b (.call j es) e s = o := by simp only [evE, h, Out.bind_ok, h2]
theorem e_mt_0 {m : Mt} {a : IE} {es : IEs} {x : R} {xs : List D} {o : Out R} (h : evE G b a e s = .ok x s1) (h1 : isLst s1 x.d = true) (h2 : evEs G b es e s1 = .ok xs s2) (h3 : mtR G.gd b m x.d xs s2 = o) : evE G b (.mt m a es) e s = o := by
  simp only [evE, h, Out.bind_ok, h1, if_true, h2, h3]
theorem es_nil_0 : evEs G b .nil e s = .ok [] s := rfl
theorem es_cons_0 {a : IE} {es : IEs} {x : R} {xs : List D} (h : evE G b a e s = .ok x s1) (h2 : evEs G b es e s1 = .ok xs s2) : evEs G b (.cons a es) e s = .ok (x.d :: xs) s2 := by simp only [evEs, h, Out.bind_ok, h2]
theorem s_expr_0 {x : IE} {r : R} (h : evE G b x e s = .ok r s1) : exS G b (.expr x) e s = .ok (.nx, e) s1 := by simp only [exS, h, Out.bind_ok]
theorem i_rng1_0 {a : IE} {r : R} {n : Nat} (h : evE G b a e s = .ok r s1) (hr : r.d = .int ((n : Nat) : Int)) (hn : n < 1000000000000000000) : evI G b (.rng1 a) e s = .ok (.l (rngL 0 n)) s1 := by
  simp only [evI, h, Out.bind_ok, hr, rng_ok hn, if_true]
  rfl
end
theorem order_step (G : Glo) {jd : Nat} (hd : DrawOk (G.fn jd)) {c r t : Int} {s : Store} {row left done : List D} {d : D} {x : Option D} {ds : List D} (h1 : row.length < 100000) (hc : cbs 0 row = true) (hl : left.length = ds.length + 1) (hp : List.Perm (done ++ left) row) :
    ∃ (left' done' : List D) (x' : Option D) (c' r' t' : Int), left'.length = ds.length ∧ List.Perm (done' ++ left') row ∧
      ((asG G (s.length + 1) (.name 4) d [some (.cell 0), some (.lst row), some (.cell (s.length + 1)), some (.cell (s.length + 1 + 1)), x] (.lst [.int c, .int r, .int t] :: (s ++ [.lst left, .lst done]))).bind fun e2 s3 => exSs G (s.length + 1) (cOrderB jd) e2 s3) =
        .ok (.nx, [some (.cell 0), some (.lst row), some (.cell (s.length + 1)), some (.cell (s.length + 1 + 1)), x']) (.lst [.int c', .int r', .int t'] :: (s ++ [.lst left', .lst done'])) := by
  have hlen := hp.length_eq
  rw [List.length_append] at hlen
  obtain ⟨g, c', r', t', g1, g2, e⟩ := draw_call hd (s.length + 1) c r t left.length (s ++ [.lst left, .lst done]) (by omega) (by omega)
  have gl : ∀ P : O, (P :: (s ++ [.lst left, .lst done]))[s.length + 1]? = some (.lst left) := fun P => by rw [List.getElem?_cons_succ]; exact app_0 _ _ _
  obtain ⟨hg, e3⟩ := popAt_run (gd := G.gd) (b := s.length + 1) (gl (.lst [.int c', .int r', .int t'])) g1 g2 (Nat.le_refl _) (by omega)
  have el : (left.eraseIdx g.toNat).length = left.length - 1 := List.length_eraseIdx_of_lt hg
  refine ⟨left.eraseIdx g.toNat, done ++ [left[g.toNat]], some d, c', r', t', by rw [el]; omega, ?_, ?_⟩
  · rw [List.append_assoc]
    refine List.Perm.trans (List.Perm.append_left _ ?_) hp
    exact erase_perm left g.toNat hg
  · rw [List.set_cons_succ, set_0] at e3
    have gd : ∀ P : O, (P :: (s ++ [.lst (left.eraseIdx g.toNat), .lst done]))[s.length + 1 + 1]? = some (.lst done) := fun P => by rw [List.getElem?_cons_succ]; exact app_1 _ _ _ _
    have gd0 : ∀ P : O, (P :: (s ++ [.lst left, .lst done]))[s.length + 1 + 1]? = some (.lst done) := fun P => by rw [List.getElem?_cons_succ]; exact app_1 _ _ _ _
    have e4 := append_run (gd := G.gd) (b := s.length + 1) (gd (.lst [.int c', .int r', .int t'])) (okW_own left[g.toNat] (Nat.le_succ _)) (by omega)
    rw [List.set_cons_succ, set_1] at e4
    show exSs G (s.length + 1) (cOrderB jd) [some (.cell 0), some (.lst row), some (.cell (s.length + 1)), some (.cell (s.length + 1 + 1)), some d] _ = _
    refine (ss_cons_0 (s_expr_0 (e_mt_0 (e_var_0 rfl) (isLst_cell (gd0 _)) (es_cons_0 (e_mt_0 (e_var_0 rfl) (isLst_cell (gl _)) (es_cons_0 (e_call_0 (es_cons_0 (e_var_0 rfl) (es_cons_0 (e_blt_0 (es_cons_0 (e_var_0 rfl) es_nil_0) (len_cell (gl _))) es_nil_0)) e) es_nil_0) e3) es_nil_0) e4))).trans ?_
    rfl
theorem order_run (G : Glo) {jd : Nat} (hd : DrawOk (G.fn jd)) {c r t : Int} {s : Store} {row : List D} (h1 : row.length < 100000) (hc : cbs 0 row = true) :
    ∃ ds c' r' t', List.Perm ds row ∧ runF G (cOrder jd) [.cell 0, .lst row] (.lst [.int c, .int r, .int t] :: s) = .ok (.n (.lst ds)) (.lst [.int c', .int r', .int t'] :: s) := by
  have key : ∃ e' s', forL (fun d e1 s2 => (asG G (s.length + 1) (.name 4) d e1 s2).bind fun e2 s3 => exSs G (s.length + 1) (cOrderB jd) e2 s3)
      (rngL 0 row.length) [some (.cell 0), some (.lst row), some (.cell (s.length + 1)), some (.cell (s.length + 1 + 1)), none] (.lst [.int c, .int r, .int t] :: (s ++ [.lst row, .lst []])) = .ok (.nx, e') s' ∧
      ∃ (left done : List D) (x : Option D) (c r t : Int), left.length = 0 ∧ List.Perm (done ++ left) row ∧ e' = [some (.cell 0), some (.lst row), some (.cell (s.length + 1)), some (.cell (s.length + 1 + 1)), x] ∧ s' = .lst [.int c, .int r, .int t] :: (s ++ [.lst left, .lst done]) := by
    refine forL_inv (fun ds e s' => ∃ (left done : List D) (x : Option D) (c r t : Int), left.length = ds.length ∧ List.Perm (done ++ left) row ∧ e = [some (.cell 0), some (.lst row), some (.cell (s.length + 1)), some (.cell (s.length + 1 + 1)), x] ∧ s' = .lst [.int c, .int r, .int t] :: (s ++ [.lst left, .lst done])) _ _ _ ?_ ?_
    · exact ⟨row, [], none, c, r, t, by rw [rngL_len], by simp, rfl, rfl⟩
    · rintro d ds e s' ⟨left, done, x, c, r, t, hl, hp, rfl, rfl⟩
      obtain ⟨left', done', x', c', r', t', q1, q2, q3⟩ := order_step G hd (c := c) (r := r) (t := t) (s := s) (d := d) (x := x) h1 hc hl hp
      exact ⟨_, _, q3, left', done', x', c', r', t', q1, q2, rfl, rfl⟩
  obtain ⟨e', s', hk, left, done, x, c', r', t', hl, hp, rfl, rfl⟩ := key
  have hl0 : left = [] := List.eq_nil_of_length_eq_zero hl
  subst hl0
  rw [List.append_nil] at hp
  refine ⟨done, c', r', t', hp, ?_⟩
  have hcd : cbs (s.length + 1) done = true := cbs_iff.mpr fun d m => cb_mono (Nat.zero_le _) d (cbs_iff.mp hc d (hp.mem_iff.mp m))
  refine run_of_0 rfl (c := .retc (s.length + 1 + 1)) (e' := [some (.cell 0), some (.lst row), some (.cell (s.length + 1)), some (.cell (s.length + 1 + 1)), x]) (s1 := .lst [.int c', .int r', .int t'] :: (s ++ [.lst [], .lst done])) ?_ ?_
  · show exSs G (s.length + 1) _ [some (.cell 0), some (.lst row), none, none, none] _ = _
    refine (ss_cons_0 (e1 := [some (.cell 0), some (.lst row), some (.cell (s.length + 1)), none, none]) (s1 := .lst [.int c, .int r, .int t] :: (s ++ [.lst row])) ?_).trans ?_
    · simp [exS, evE, evEs, asG, bltR, seqOf]
    refine (ss_cons_0 (e1 := [some (.cell 0), some (.lst row), some (.cell (s.length + 1)), some (.cell (s.length + 1 + 1)), none]) (s1 := .lst [.int c, .int r, .int t] :: (s ++ [.lst row, .lst []])) ?_).trans ?_
    · simp [exS, evE, evEs, asG]
    refine (ss_cons_0 (s_for_0 (i_rng1_0 (e_blt_0 (es_cons_0 (e_var_0 rfl) es_nil_0) len_lst) rfl (by omega)) hk)).trans ?_
    exact ss_retc_0 (by simp [exS, evE])
  · simp [endR, app_1, cbO, hcd]
end En

set_option Elab.async false
set_option linter.all false
set_option maxRecDepth 100000
set_option maxHeartbeats 4000000
namespace En
open PySem PySem.Spec PyProof.Rows L2
@[irreducible] def xE (G : Glo) (b : Nat) (x : IE) (e : En.Env) (s : Store) : Out R := evE G b x e s
@[irreducible] def xEs (G : Glo) (b : Nat) (x : IEs) (e : En.Env) (s : Store) : Out (List D) := evEs G b x e s
@[irreducible] def xT (G : Glo) (b : Nat) (x : IT) (e : En.Env) (s : Store) : Out Bool := evT G b x e s
@[irreducible] def xI (G : Glo) (b : Nat) (x : II) (e : En.Env) (s : Store) : Out Itm := evI G b x e s
@[irreducible] def xO (G : Glo) (b : Nat) (x : IO) (e : En.Env) (s : Store) : Out (Option Int) := evO G b x e s
@[irreducible] def xC (G : Glo) (b : Nat) (x : IC) (e : En.Env) (s : Store) : Out Bool := evC G b x e s
@[irreducible] def xG (G : Glo) (b : Nat) (g : IG) (d : D) (e : En.Env) (s : Store) : Out En.Env := asG G b g d e s
@[irreducible] def xGs (G : Glo) (b : Nat) (g : IGs) (d : List D) (e : En.Env) (s : Store) : Out En.Env := asGs G b g d e s
@[irreducible] def xS (G : Glo) (b : Nat) (x : IS) (e : En.Env) (s : Store) : Out (Ctl × En.Env) := exS G b x e s
@[irreducible] def xSs (G : Glo) (b : Nat) (x : ISs) (e : En.Env) (s : Store) : Out (Ctl × En.Env) := exSs G b x e s

theorem ss_cons {G : Glo} {b : Nat} {x : IS} {xs : ISs} {e e1 : En.Env} {s s1 : Store} (h : xS G b x e s = .ok (.nx, e1) s1) : xSs G b (.cons x xs) e s = xSs G b xs e1 s1 := by
  simp only [xE, xEs, xT, xI, xO, xC, xS, xSs, xG, xGs] at *
  simp only [exSs, h, Out.bind_ok]
theorem ss_ret {G : Glo} {b : Nat} {x : IS} {xs : ISs} {e e1 : En.Env} {s s1 : Store} {r : R} (h : xS G b x e s = .ok (.ret r, e1) s1) : xSs G b (.cons x xs) e s = .ok (.ret r, e1) s1 := by
  simp only [xE, xEs, xT, xI, xO, xC, xS, xSs, xG, xGs] at *
  simp only [exSs, h, Out.bind_ok]
theorem ss_retc {G : Glo} {b : Nat} {x : IS} {xs : ISs} {e e1 : En.Env} {s s1 : Store} {n : Nat} (h : xS G b x e s = .ok (.retc n, e1) s1) : xSs G b (.cons x xs) e s = .ok (.retc n, e1) s1 := by
  simp only [xE, xEs, xT, xI, xO, xC, xS, xSs, xG, xGs] at *
  simp only [exSs, h, Out.bind_ok]
theorem run_of {G : Glo} {d : En.Def} {xs : List D} {s s1 s' : Store} {c : Ctl} {e' : En.Env} {r : R} (hl : xs.length = d.params) (h : xSs G s.length d.body (envOf d xs) s = .ok (c, e') s1) (h2 : endR s.length c s1 = .ok r s') : runF G d xs s = .ok r s' := by
  simp only [xE, xEs, xT, xI, xO, xC, xS, xSs, xG, xGs] at *
  simp only [runF, if_pos hl, h, Out.bind_ok, h2]
section
variable {G : Glo} {b : Nat} {e e1 e2 : En.Env} {s s1 s2 s3 : Store}
theorem e_var {i : Nat} {d : D} (h : e[i]? = some (some d)) : xE G b (.var i) e s = .ok (.v d) s := by
  simp only [xE, xEs, xT, xI, xO, xC, xS, xSs, xG, xGs] at *
  simp only [evE, h]
theorem e_blt {f : Blt} {es : IEs} {xs : List D} {r : R} (h : xEs G b es e s = .ok xs s1) (h2 : bltR f xs s1 = some r) : xE G b (.blt f es) e s = .ok r s1 := by
  simp only [xE, xEs, xT, xI, xO, xC, xS, xSs, xG, xGs] at *
  simp only [evE, h, Out.bind_ok, h2, Out.of_some]
theorem e_call {j : Nat} {es : IEs} {xs : List D} {o : Out R} (h : xEs G b es e s = .ok xs s1) (h2 : callR (G.fn j) b xs s1 = o) : xE G b (.call j es) e s = o := by
  simp only [xE, xEs, xT, xI, xO, xC, xS, xSs, xG, xGs] at *
  simp only [evE, h, Out.bind_ok, h2]
theorem e_mt {m : Mt} {a : IE} {es : IEs} {x : R} {xs : List D} {o : Out R} (h : xE G b a e s = .ok x s1) (h1 : isLst s1 x.d = true) (h2 : xEs G b es e s1 = .ok xs s2) (h3 : mtR G.gd b m x.d xs s2 = o) : xE G b (.mt m a es) e s = o := by
  simp only [xE, xEs, xT, xI, xO, xC, xS, xSs, xG, xGs] at *
  simp only [evE, h, Out.bind_ok, h1, if_true, h2, h3]
theorem es_nil : xEs G b .nil e s = .ok [] s := by
  simp only [xE, xEs, xT, xI, xO, xC, xS, xSs, xG, xGs] at *
  rfl
theorem es_cons {a : IE} {es : IEs} {x : R} {xs : List D} (h : xE G b a e s = .ok x s1) (h2 : xEs G b es e s1 = .ok xs s2) : xEs G b (.cons a es) e s = .ok (x.d :: xs) s2 := by
  simp only [xE, xEs, xT, xI, xO, xC, xS, xSs, xG, xGs] at *
  simp only [evEs, h, Out.bind_ok, h2]
theorem s_expr {x : IE} {r : R} (h : xE G b x e s = .ok r s1) : xS G b (.expr x) e s = .ok (.nx, e) s1 := by
  simp only [xE, xEs, xT, xI, xO, xC, xS, xSs, xG, xGs] at *
  simp only [exS, h, Out.bind_ok]
theorem i_rng1 {a : IE} {r : R} {n : Nat} (h : xE G b a e s = .ok r s1) (hr : r.d = .int ((n : Nat) : Int)) (hn : n < 1000000000000000000) : xI G b (.rng1 a) e s = .ok (.l (rngL 0 n)) s1 := by
  simp only [xE, xEs, xT, xI, xO, xC, xS, xSs, xG, xGs] at *
  simp only [evI, h, Out.bind_ok, hr, rng_ok hn, if_true]
  rfl
end
section
variable {G : Glo} {b : Nat} {e e1 e2 : En.Env} {s s1 s2 s3 : Store}
theorem e_op {o : Op2} {a c : IE} {x y : R} {r : R} (h : xE G b a e s = .ok x s1) (h2 : xE G b c e s1 = .ok y s2) (h3 : opR o x.d y.d s2 = some r) : xE G b (.op o a c) e s = .ok r s2 := by
  simp only [xE, xEs, xT, xI, xO, xC, xS, xSs, xG, xGs] at *
  simp only [evE, h, h2, Out.bind_ok, h3, Out.of_some]
theorem e_cmp {o : Cmp} {a c : IE} {x y : R} {k : Bool} (h : xE G b a e s = .ok x s1) (h2 : xE G b c e s1 = .ok y s2) (h3 : cmpR G.gd o x.d y.d s2 = some k) : xE G b (.cmp o a c) e s = .ok (.v (.bl k)) s2 := by
  simp only [xE, xEs, xT, xI, xO, xC, xS, xSs, xG, xGs] at *
  simp only [evE, h, h2, Out.bind_ok, h3, Option.map_some, Out.of_some]
theorem e_ix {a c : IE} {x y : R} {r : R} (h : xE G b a e s = .ok x s1) (h2 : xE G b c e s1 = .ok y s2) (h3 : ixR G.gd x.d y.d s2 = some r) : xE G b (.ix a c) e s = .ok r s2 := by
  simp only [xE, xEs, xT, xI, xO, xC, xS, xSs, xG, xGs] at *
  simp only [evE, h, h2, Out.bind_ok, h3, Out.of_some]
theorem e_tup {es : IEs} {xs : List D} (h : xEs G b es e s = .ok xs s1) (h2 : xs.length ≤ 100000) : xE G b (.tup es) e s = .ok (.v (.tup xs)) s1 := by
  simp only [xE, xEs, xT, xI, xO, xC, xS, xSs, xG, xGs] at *
  simp only [evE, h, Out.bind_ok, h2, if_true]
theorem e_lst {es : IEs} {xs : List D} (h : xEs G b es e s = .ok xs s1) (h2 : xs.length ≤ 100000) : xE G b (.lst es) e s = .ok (.n (.lst xs)) s1 := by
  simp only [xE, xEs, xT, xI, xO, xC, xS, xSs, xG, xGs] at *
  simp only [evE, h, Out.bind_ok, h2, if_true]
theorem e_mu {a : IE} {o : O} (h : xE G b a e s = .ok (.n o) s1) : xE G b (.mu a) e s = .ok (.v (.cell s1.length)) (s1 ++ [o]) := by
  simp only [xE, xEs, xT, xI, xO, xC, xS, xSs, xG, xGs] at *
  simp only [evE, h, Out.bind_ok]
theorem e_int {i : Int} : xE G b (.int i) e s = .ok (.v (.int i)) s := by
  simp only [xE, xEs, xT, xI, xO, xC, xS, xSs, xG, xGs] at *
  rfl
theorem e_str {i : Str} : xE G b (.str i) e s = .ok (.v (.str i)) s := by
  simp only [xE, xEs, xT, xI, xO, xC, xS, xSs, xG, xGs] at *
  rfl
theorem e_bl {i : Bool} : xE G b (.bl i) e s = .ok (.v (.bl i)) s := by
  simp only [xE, xEs, xT, xI, xO, xC, xS, xSs, xG, xGs] at *
  rfl
theorem e_non : xE G b .non e s = .ok (.v .non) s := by
  simp only [xE, xEs, xT, xI, xO, xC, xS, xSs, xG, xGs] at *
  rfl
theorem e_gl {j : Nat} : xE G b (.gl j) e s = .ok (.v (G.gl j)) s := by
  simp only [xE, xEs, xT, xI, xO, xC, xS, xSs, xG, xGs] at *
  rfl
theorem t_e {a : IE} {x : R} {k : Bool} (h : xE G b a e s = .ok x s1) (h2 : tru s1 x.d = some k) : xT G b (.e a) e s = .ok k s1 := by
  simp only [xE, xEs, xT, xI, xO, xC, xS, xSs, xG, xGs] at *
  simp only [evT, h, Out.bind_ok, h2, Out.of_some]
theorem t_not {t : IT} {k : Bool} (h : xT G b t e s = .ok k s1) : xT G b (.not t) e s = .ok (!k) s1 := by
  simp only [xE, xEs, xT, xI, xO, xC, xS, xSs, xG, xGs] at *
  simp only [evT, h, Out.bind_ok]
theorem t_not1 {t : IT} (h : xT G b t e s = .ok true s1) : xT G b (.not t) e s = .ok false s1 := by
  exact t_not h
theorem t_not0 {t : IT} (h : xT G b t e s = .ok false s1) : xT G b (.not t) e s = .ok true s1 := by
  exact t_not h
theorem t_or0 {t u : IT} {o : Out Bool} (h : xT G b t e s = .ok false s1) (h2 : xT G b u e s1 = o) : xT G b (.or t u) e s = o := by
  simp only [xE, xEs, xT, xI, xO, xC, xS, xSs, xG, xGs] at *
  simp only [evT, h, Out.bind_ok, Bool.false_eq_true, if_false, h2]
theorem t_or1 {t u : IT} (h : xT G b t e s = .ok true s1) : xT G b (.or t u) e s = .ok true s1 := by
  simp only [xE, xEs, xT, xI, xO, xC, xS, xSs, xG, xGs] at *
  simp only [evT, h, Out.bind_ok, if_true]
theorem t_and1 {t u : IT} {o : Out Bool} (h : xT G b t e s = .ok true s1) (h2 : xT G b u e s1 = o) : xT G b (.and t u) e s = o := by
  simp only [xE, xEs, xT, xI, xO, xC, xS, xSs, xG, xGs] at *
  simp only [evT, h, Out.bind_ok, if_true, h2]
theorem t_and0 {t u : IT} (h : xT G b t e s = .ok false s1) : xT G b (.and t u) e s = .ok false s1 := by
  simp only [xE, xEs, xT, xI, xO, xC, xS, xSs, xG, xGs] at *
  simp only [evT, h, Out.bind_ok, Bool.false_eq_true, if_false]
theorem s_name {i : Nat} {x : IE} {r : R} (h : xE G b x e s = .ok r s1) : xS G b (.asg (.name i) x) e s = .ok (.nx, e.set i (some r.d)) s1 := by
  simp only [xE, xEs, xT, xI, xO, xC, xS, xSs, xG, xGs] at *
  simp only [exS, h, Out.bind_ok, asG]
theorem s_ret {x : IE} {r : R} (h : xE G b x e s = .ok r s1) : xS G b (.ret x) e s = .ok (.ret r, e) s1 := by
  simp only [xE, xEs, xT, xI, xO, xC, xS, xSs, xG, xGs] at *
  simp only [exS, h, Out.bind_ok]
theorem s_retF {x : IE} {n : Nat} (h : xE G b x e s = .ok (.v (.cell n)) s1) : xS G b (.retF x) e s = .ok (.retc n, e) s1 := by
  simp only [xE, xEs, xT, xI, xO, xC, xS, xSs, xG, xGs] at *
  simp only [exS, h, Out.bind_ok]
theorem s_if1 {t : IT} {a c : ISs} {o : Out (Ctl × En.Env)} (h : xT G b t e s = .ok true s1) (h2 : xSs G b a e s1 = o) : xS G b (.ifs t a c) e s = o := by
  simp only [xE, xEs, xT, xI, xO, xC, xS, xSs, xG, xGs] at *
  simp only [exS, h, Out.bind_ok, if_true, h2]
theorem s_if0 {t : IT} {a c : ISs} {o : Out (Ctl × En.Env)} (h : xT G b t e s = .ok false s1) (h2 : xSs G b c e s1 = o) : xS G b (.ifs t a c) e s = o := by
  simp only [xE, xEs, xT, xI, xO, xC, xS, xSs, xG, xGs] at *
  simp only [exS, h, Out.bind_ok, Bool.false_eq_true, if_false, h2]
theorem ss_nil : xSs G b .nil e s = .ok (.nx, e) s := by
  simp only [xE, xEs, xT, xI, xO, xC, xS, xSs, xG, xGs] at *
  rfl
/-- one statement, then the rest -/
theorem ss_nx {x : IS} {xs : ISs} {o : Out (Ctl × En.Env)} (h : xS G b x e s = .ok (.nx, e1) s1) (h2 : xSs G b xs e1 s1 = o) : xSs G b (.cons x xs) e s = o := by
  rw [ss_cons h, h2]
theorem tru_bl {k : Bool} : tru s (.bl k) = some k := rfl
theorem callR_of {f : Nat → List D → Store → Out R} {xs : List D} {r : R} (h : cbs 0 xs = true) (h2 : f 0 xs [] = .ok r []) : callR f b xs s = .ok r s := by simp only [callR, h, if_true, h2]
theorem callR_at {f : Nat → List D → Store → Out R} {xs : List D} {o : Out R} (h : cbs 0 xs = false) (h2 : f b xs s = o) : callR f b xs s = o := by simp only [callR, h, Bool.false_eq_true, if_false, h2]
theorem e_lc {own : List (Str × Nat)} {g : IG} {it : II} {t : IC} {x : IE} {ds : List D} {r : List D} (h : xI G b it e s = .ok (.l ds) s1) (hl : ds.length ≤ 100000)
    (h2 : lcL (fun d s1 => (xG G b g d (wipeE e (own.map (·.2))) s1).bind fun e2 s2 => (xC G b t e2 s2).bind fun k s3 => if k then (xE G b x e2 s3).bind fun r s4 => .ok [r.d] s4 else .ok [] s3) ds s1 = .ok r s2) :
    xE G b (.lc own g it t x) e s = .ok (.n (.lst r)) s2 := by
  simp only [xE, xEs, xT, xI, xO, xC, xS, xSs, xG, xGs] at *
  simp only [evE, h, Out.bind_ok, hl, if_true, h2]
theorem i_seq {a : IE} {r : R} {ds : List D} (h : xE G b a e s = .ok r s1) (hr : r.d = .lst ds) : xI G b (.seq a) e s = .ok (.l ds) s1 := by
  simp only [xE, xEs, xT, xI, xO, xC, xS, xSs, xG, xGs] at *
  simp only [evI, h, Out.bind_ok, hr]
end
theorem lcL_inv {f : D → Store → Out (List D)} (P : List D → List D → Store → Prop) (st : ∀ d ds acc s, P (d :: ds) acc s → ∃ x s', f d s = .ok x s' ∧ P ds (acc ++ x) s') : ∀ (ds acc : List D) (s : Store), P ds acc s → ∃ r s', lcL f ds s = .ok r s' ∧ P [] (acc ++ r) s'
  | [], acc, s, h => ⟨[], s, rfl, by rw [List.append_nil]; exact h⟩
  | d :: ds, acc, s, h => by
    obtain ⟨x, s1, h1, h2⟩ := st d ds acc s h
    obtain ⟨r, s2, h3, h4⟩ := lcL_inv P st ds (acc ++ x) s1 h2
    exact ⟨x ++ r, s2, by simp only [lcL, h1, Out.bind_ok, h3], by rw [← List.append_assoc]; exact h4⟩
theorem rngL_mem : ∀ (n : Nat) (lo : Int) (d : D), d ∈ rngL lo n → ∃ i : Nat, i < n ∧ d = .int (lo + i)
  | 0, _, _, h => nomatch h
  | n + 1, lo, d, h => by
    simp only [rngL, List.mem_cons] at h
    rcases h with rfl | h
    · exact ⟨0, by omega, by simp⟩
    · obtain ⟨i, h1, rfl⟩ := rngL_mem n (lo + 1) d h
      exact ⟨i + 1, by omega, by congr 1; omega⟩
/-- a result that is a flat value, nothing left in the store -/
def okF (o : Out R) : Option D := match o with
  | .ok (.v d) [] => if (flat d).isSome then some d else none
  | _ => none
theorem okF_is {o : Out R} {d : D} (h : okF o = some d) : (flat d).isSome = true ∧ o = .ok (.v d) [] := by
  unfold okF at h
  split at h
  · split at h
    · rename_i hf
      cases h
      exact ⟨hf, rfl⟩
    · cases h
  · cases h
def okT (o : Out R) : Bool := match o with
  | .ok (.v (.bl true)) [] => true
  | _ => false
theorem okT_is {o : Out R} (h : okT o = true) : o = .ok (.v (.bl true)) [] := by
  unfold okT at h
  split at h
  · rfl
  · cases h
theorem flat_cb {d : D} (h : (flat d).isSome = true) : cb 0 d = true := by
  cases d <;> first | rfl | (simp [flat] at h)


end En

set_option Elab.async false
set_option linter.all false
set_option maxRecDepth 100000
set_option maxHeartbeats 4000000
namespace En
open PySem PySem.Spec PyProof.Rows L2
def gaOf (as : List Addr) (j : Nat) : Addr := as.getD j 0
def Ent (K : PySem.W.Frag) (i : DI) (f : Addr) : Prop := ∃ fd, Fun K i.x i.q i.st f fd ∧ ∀ us : List Value, us.length = i.ps.length → bindArgs fd ⟨us, []⟩ = pure (i.ps.zip us)
section
variable {K : PySem.W.Frag} {mg : Str → Option Value} {h : Heap} {i : DI} {x q : Str} {st : Stmt} {ps : List Str} {f C : Addr} {oc : Value} {od an : Option Addr} {sl : Array (Option Value)} {kV dc pm cd ct : Value}
theorem ent_mk (hx : i.x = x) (hq : i.q = q) (hst : i.st = st) (hp : i.ps = ps)
    (l : K.lookup f = some ⟨oc, od, .func (PySem.W.fnOf x q (defArgs st) (defBody st) (defScope st) .none kV dc pm an cd ct), sl⟩) (c : PySem.W.codeIn K cd q = true) (k : PySem.W.keepIn K (.ref f) = true)
    (b : ∀ (kV doc pm : Value) (an : Option Addr) (cdv ct : Value) (us : List Value), us.length = ps.length → bindArgs (PySem.W.fnOf x q (defArgs st) (defBody st) (defScope st) .none kV doc pm an cdv ct) ⟨us, []⟩ = pure (ps.zip us)) : Ent K i f := by
  subst hx hq hst hp
  exact ⟨_, fun_mk (st := i.st) l c k, b _ _ _ _ _ _⟩
theorem ent_fn (hx : i.x = x) (hq : i.q = x) (hst : i.st = st) (hp : i.ps = ps) (X : K.In h) (a : PySem.W.nsIn K mainGlobals x = some (some (.ref f)))
    (l : K.lookup f = some ⟨oc, od, .func (PySem.W.fnOf x x (defArgs st) (defBody st) (defScope st) .none kV dc pm an cd ct), sl⟩) (c : PySem.W.codeIn K cd x = true) (k : PySem.W.keepIn K (.ref f) = true)
    (b : ∀ (kV doc pm : Value) (an : Option Addr) (cdv ct : Value) (us : List Value), us.length = ps.length → bindArgs (PySem.W.fnOf x x (defArgs st) (defBody st) (defScope st) .none kV doc pm an cdv ct) ⟨us, []⟩ = pure (ps.zip us)) : Ent K i f := ent_mk hx hq hst hp l c k b
theorem ent_me (hx : i.x = x) (hq : i.q = q) (hst : i.st = st) (hp : i.ps = ps) (X : K.In h) (a : PySem.W.findIn K (.ref C) x = some (some (.ref f)))
    (l : K.lookup f = some ⟨oc, od, .func (PySem.W.fnOf x q (defArgs st) (defBody st) (defScope st) .none kV dc pm an cd ct), sl⟩) (c : PySem.W.codeIn K cd q = true) (k : PySem.W.keepIn K (.ref f) = true)
    (b : ∀ (kV doc pm : Value) (an : Option Addr) (cdv ct : Value) (us : List Value), us.length = ps.length → bindArgs (PySem.W.fnOf x q (defArgs st) (defBody st) (defScope st) .none kV doc pm an cdv ct) ⟨us, []⟩ = pure (ps.zip us)) : Ent K i f := ent_mk hx hq hst hp l c k b
end
def EntAll (K : PySem.W.Frag) : List DI → List Addr → Prop
  | [], _ => True
  | i :: is, f :: fs => Ent K i f ∧ EntAll K is fs
  | _ :: _, [] => False
theorem EntAll.at_ {K : PySem.W.Frag} : ∀ {is : List DI} {fs : List Addr} {j : Nat} {i : DI}, EntAll K is fs → is[j]? = some i → Ent K i (gaOf fs j)
  | [], _, _, _, _, h => by simp at h
  | _ :: _, [], _, _, a, _ => a.elim
  | _ :: _, _ :: _, 0, _, a, h => by
    simp at h
    subst h
    exact a.1
  | _ :: is, _ :: fs, j + 1, i, a, h => EntAll.at_ (j := j) a.2 (by simpa using h)
abbrev MkOne (K : PySem.W.Frag) (fa : Nat → Addr) (ci : CI) (C : Addr) : Prop := Cls K C ∧ Mk K C (fa ci.ini) ∧ ∀ p ∈ ci.ms, Meth K C p.1 (fa p.2)
def MkAll (K : PySem.W.Frag) (fa : Nat → Addr) : List CI → List Addr → Prop
  | [], _ => True
  | i :: is, f :: fs => MkOne K fa i f ∧ MkAll K fa is fs
  | _ :: _, [] => False
theorem MkAll.at_ {K : PySem.W.Frag} {fa : Nat → Addr} : ∀ {is : List CI} {fs : List Addr} {j : Nat} {i : CI}, MkAll K fa is fs → is[j]? = some i → MkOne K fa i (gaOf fs j)
  | [], _, _, _, _, h => by simp at h
  | _ :: _, [], _, _, a, _ => a.elim
  | _ :: _, _ :: _, 0, _, a, h => by
    simp at h
    subst h
    exact a.1
  | _ :: is, _ :: fs, j + 1, i, a, h => MkAll.at_ (j := j) a.2 (by simpa using h)
theorem cls_of {K : PySem.W.Frag} {h : Heap} {x : Str} {C : Addr} (X : K.In h) (a : PySem.W.nsIn K mainGlobals x = some (some (.ref C))) (pg : PySem.W.plainGet K C Str.empty = true) (hd : PySem.W.hasDictIn K C = true) (po : PySem.W.plainOver K C = true) (sa : PySem.W.findIn K (.ref C) "__setattr__" = some (some (.builtin "object.__setattr__"))) : Cls K C := ⟨pg, hd, po, sa⟩
theorem mk_of {K : PySem.W.Frag} {h : Heap} {x : Str} {C f : Addr} (X : K.In h) (a : PySem.W.nsIn K mainGlobals x = some (some (.ref C))) (i : PySem.W.findIn K (.ref C) "__init__" = some (some (.ref f))) (m : PySem.W.makesIn K C = true) (fn : PySem.W.isFn K (.ref f) = true) (kp : PySem.W.keepIn K (.ref C) = true) : Mk K C f := ⟨m, i, fn, kp⟩
theorem me_of {K : PySem.W.Frag} {h : Heap} {m : Str} {C f : Addr} (X : K.In h) (a : PySem.W.findIn K (.ref C) m = some (some (.ref f))) (fn : PySem.W.isFn K (.ref f) = true) (kp : PySem.W.keepIn K (.ref f) = true) : Meth K C m f := ⟨a, fn, kp⟩
theorem find_look {K : PySem.W.Frag} {h : Heap} {x m : Str} {C : Addr} {v : Value} (X : K.In h) (a : PySem.W.nsIn K mainGlobals x = some (some (.ref C))) (e : PySem.W.findIn K (.ref C) m = some (some v)) : PySem.W.findIn K (.ref C) m = some (some v) := e
theorem na_of {K : PySem.W.Frag} {h : Heap} {m : Str} {C : Addr} (X : K.In h) (c : Cls K C) (e : PySem.W.findIn K (.ref C) m = some none) : Cls K C ∧ NoAttr K C m := ⟨c, e⟩
/-- a def of the module, its promise, as the law's head wants it -/
theorem law_fn {P : Program} {w : World} {K : PySem.W.Frag} {mg : Str → Option Value} {L : Lk} {T : TB} {fs : List Addr} (X : Txt L T (gaOf fs) w K mg) {n k j m : Nat} (c : chkT' T n = true) (hs : noSlots K = true) {i : DI} {fa : Addr} {x : Str} (E : Ent K i (gaOf fs j)) (hj : T.ds[j]? = some i) (hm : mg i.x = some (.ref (gaOf fs j))) (hfa : mg i.x = some (.ref fa)) (hps : i.ps = [x])
    (math : ∀ ns : List Int, ns.length ≤ m → ∃ s, (T.den k).fn j 0 [.lst (ns.map .int)] [] = .ok (.v (.bl true)) s) :
    ∃ fd : FuncData, (∀ (s : Shared) (u : Value), BindsTo s fd ⟨[u], []⟩ [(x, u)]) ∧ ∀ base : Heap, K.In base → base.Ns mainGlobals mg → FnOk P w K mg base CX0 k fa fd [x] (spLaw K m) := by
  obtain ⟨fd, F, B⟩ := E
  have e := hfa.symm.trans hm
  cases e
  rw [hps] at B
  refine ⟨fd, fun s u => .of_eq (B [u] rfl), fun base _ _ => ?_⟩
  have := law_ok (P := P) (base := base) X c hs hj F math
  rw [hps] at this
  exact this
theorem look_mem {kvs : List (Str × D)} {z : Str} {d : D} (h : lookK kvs z = some d) : (z, d) ∈ kvs := by
  unfold lookK at h
  rw [Option.map_eq_some_iff] at h
  obtain ⟨p, h1, rfl⟩ := h
  have h2 := List.find?_some h1
  simp only [decide_eq_true_eq] at h2
  subst h2
  exact List.mem_of_find?_eq_some h1
abbrev Hold (L : Lk) (w : World) (a : Addr) (p : Str × D) : Prop := ∃ v, KDct L.K w a p.1 v ∧ ∀ (H : Hp) (fb cm : List Addr), Rep L H fb cm v p.2
theorem hold_mk {L : Lk} {w : World} {K : PySem.W.Frag} {h : Heap} {a : Addr} {x : Str} {d : D} {es : Array DictEntry} {n : Nat} {u : Value} {v : V} (X : K.In h) (hK : K = L.K) (l : K.lookup a = some ⟨.type "dict", none, .dict es n, #[]⟩) (k : PySem.W.KeysLit w.params es.toList) (e : PySem.W.nsIn K a x = some (some u)) (r : RelV v u) (hr : ∀ (H : Hp) (fb cm : List Addr), Rep L H fb cm v d) : Hold L w a (x, d) := by
  subst hK
  exact ⟨v, ⟨es, n, u, l, k, e, r⟩, hr⟩
theorem all_nil {α : Type} {P : α → Prop} : ∀ p ∈ ([] : List α), P p := fun p m => nomatch m
theorem all_cons {α : Type} {P : α → Prop} {a : α} {l : List α} (h : P a) (h2 : ∀ p ∈ l, P p) : ∀ p ∈ a :: l, P p := fun p m => by
  rcases List.mem_cons.mp m with rfl | m
  · exact h
  · exact h2 p m
abbrev Glv (L : Lk) (T : TB) (mg : Str → Option Value) (p : Str × Nat) : Prop := ∃ u v, mg p.1 = some u ∧ RelV v u ∧ ∀ (H : Hp) (fb cm : List Addr), Rep L H fb cm v (T.gl p.2)
abbrev Blv (mg : Str → Option Value) (x : Str) : Prop := mg x = none
theorem gl_val {L : Lk} {mg : Str → Option Value} {u : Value} {v : V} {d : D} {x : Str} (h : mg x = some u) (r : RelV v u) (hr : ∀ (H : Hp) (fb cm : List Addr), Rep L H fb cm v d) : ∃ u v, mg x = some u ∧ RelV v u ∧ ∀ (H : Hp) (fb cm : List Addr), Rep L H fb cm v d := ⟨u, v, h, r, hr⟩
theorem rep_kt {L : Lk} {K : PySem.W.Frag} {h : Heap} {a : Addr} {o : Obj} {its : Array Value} {n : Nat} {xs : List V} {ds : List D} (X : K.In h) (hK : K = L.K) (l : K.lookup a = some o) (c : o.cls = .type "tuple") (hd : o.data = .seq its n) (hz : its.size ≤ 1000) (hv : Vals xs its.toList) (hr : ∀ (H : Hp) (fb cm : List Addr), Reps L H fb cm xs ds) (H : Hp) (fb cm : List Addr) : Rep L H fb cm (.ref a) (.kt ds) :=
  .kt ⟨o, its, n, hK ▸ l, c, hd, Nat.le_trans hz (by decide), hv⟩ (hr H fb cm)
theorem ns_look {K : PySem.W.Frag} {h : Heap} {x : Str} {v : Value} (X : K.In h) (a : PySem.W.nsIn K mainGlobals x = some (some v)) : PySem.W.nsIn K mainGlobals x = some (some v) := a
theorem k_look {K : PySem.W.Frag} {h : Heap} {a : Addr} {o : Obj} (X : K.In h) (e : K.lookup a = some o) : K.lookup a = some o := e
theorem txt_mk {T : TB} {w : World} {K : PySem.W.Frag} {mg : Str → Option Value} {fs cs as : List Addr} {h : Heap} (KX : K.In h) (ents : EntAll K T.ds fs) (fns : ∀ p ∈ T.fns, mg p.1 = some (.ref (gaOf fs p.2))) (gls : ∀ p ∈ T.gls, Glv ⟨K, gaOf cs, gaOf as⟩ T mg p) (blts : ∀ x ∈ T.blt, Blv mg x)
    (gds : ∀ j, ∀ p ∈ T.gd j, Hold ⟨K, gaOf cs, gaOf as⟩ w (gaOf as j) p) (cn : ∀ p ∈ T.cnm, mg p.1 = some (.ref (gaOf cs p.2))) (mk : MkAll K (gaOf fs) T.cls cs) (na : ∀ p ∈ T.na, Cls K (gaOf cs p.1) ∧ NoAttr K (gaOf cs p.1) p.2) : Txt ⟨K, gaOf cs, gaOf as⟩ T (gaOf fs) w K mg :=
  ⟨rfl, fun j i hj => by
    obtain ⟨fd, F, B⟩ := ents.at_ hj
    exact ⟨fd, F, .all B⟩, fns, fun x j m => gls (x, j) m, blts, fun j z d h => gds j (z, d) (look_mem h), cn, fun c ci h => mk.at_ h, na⟩
theorem rel_int {i : Int} {t : Nat} : RelV (.int i) (.int i t) := ⟨t, rfl⟩
theorem rel_str {i : Str} {t : Nat} : RelV (.str i) (.str i t) := ⟨t, rfl⟩
theorem rel_bl {i : Bool} : RelV (.bl i) (.bool i) := rfl
theorem rel_non : RelV .non .none := rfl
theorem rel_ref {a : Addr} : RelV (.ref a) (.ref a) := rfl
theorem rep_ktG {L : Lk} {K : PySem.W.Frag} {h : Heap} {x : Str} {a : Addr} {o : Obj} {its : Array Value} {n : Nat} {xs : List V} {ds : List D} (X : K.In h) (g : PySem.W.nsIn K mainGlobals x = some (some (.ref a))) (hK : K = L.K) (l : K.lookup a = some o) (c : o.cls = .type "tuple") (hd : o.data = .seq its n) (hz : its.size ≤ 1000) (hv : Vals xs its.toList) (hr : ∀ (H : Hp) (fb cm : List Addr), Reps L H fb cm xs ds) (H : Hp) (fb cm : List Addr) : Rep L H fb cm (.ref a) (.kt ds) :=
  rep_kt X hK l c hd hz hv hr H fb cm
end En

set_option Elab.async false
set_option linter.all false
set_option maxRecDepth 100000
set_option maxHeartbeats 4000000
namespace En
open PySem PySem.Spec PyProof.Rows L2
section
variable {G : Glo} {b : Nat} {e e1 e2 : En.Env} {s s1 s2 s3 : Store}
theorem e_fld {a : IE} {f : Str} {x r : R} (h : xE G b a e s = .ok x s1) (h2 : fldR G.na x.d f s1 = some r) : xE G b (.fld a f) e s = .ok r s1 := by
  simp only [xE, xEs, xT, xI, xO, xC, xS, xSs, xG, xGs] at *
  simp only [evE, h, Out.bind_ok, h2, Out.of_some]
theorem e_mcall {a : IE} {m : Str} {es : IEs} {x : R} {c j : Nat} {fs : List (Str × D)} {xs : List D} {o : Out R} (h : xE G b a e s = .ok x s1) (h1 : objOf s1 x.d = some (c, fs)) (h2 : G.me c m = some j) (h3 : fs.lookup m = none)
    (h4 : xEs G b es e s1 = .ok xs s2) (h5 : callR (G.fn j) b (x.d :: xs) s2 = o) : xE G b (.mcall m a es) e s = o := by
  simp only [xE, xEs, xT, xI, xO, xC, xS, xSs, xG, xGs] at *
  simp only [evE, h, Out.bind_ok, h1, h2, h3, h4, h5]
theorem e_makeM {c : Nat} {es : IEs} {xs : List D} (h : xEs G b es e s = .ok xs s1) (h2 : G.ini c b (.cell s1.length :: xs) (s1 ++ [.ins c []]) = .ok (.v .non) s2) : xE G b (.makeM c es) e s = .ok (.v (.cell s1.length)) s2 := by
  simp only [xE, xEs, xT, xI, xO, xC, xS, xSs, xG, xGs] at *
  simp only [evE, h, Out.bind_ok, h2]
theorem e_isin {a : IE} {t u : Ty} {x : R} {k : Bool} (h : xE G b a e s = .ok x s1) (h1 : tyOf s1 x.d = some u) (h2 : u.isB = true) (h3 : isTy u t = k) : xE G b (.isin a t) e s = .ok (.v (.bl k)) s1 := by
  simp only [xE, xEs, xT, xI, xO, xC, xS, xSs, xG, xGs] at *
  simp only [evE, h, Out.bind_ok, h1, h2, if_true, h3]
theorem e_ite1 {t : IT} {a c : IE} {o : Out R} (h : xT G b t e s = .ok true s1) (h2 : xE G b a e s1 = o) : xE G b (.ite t a c) e s = o := by
  simp only [xE, xEs, xT, xI, xO, xC, xS, xSs, xG, xGs] at *
  simp only [evE, h, Out.bind_ok, if_true, h2]
theorem e_ite0 {t : IT} {a c : IE} {o : Out R} (h : xT G b t e s = .ok false s1) (h2 : xE G b c e s1 = o) : xE G b (.ite t a c) e s = o := by
  simp only [xE, xEs, xT, xI, xO, xC, xS, xSs, xG, xGs] at *
  simp only [evE, h, Out.bind_ok, Bool.false_eq_true, if_false, h2]
theorem e_neg {a : IE} {x : R} {i : Int} (h : xE G b a e s = .ok x s1) (h1 : x.d = .int i) : xE G b (.neg a) e s = .ok (.v (.int (-i))) s1 := by
  simp only [xE, xEs, xT, xI, xO, xC, xS, xSs, xG, xGs] at *
  simp only [evE, h, Out.bind_ok, h1]
theorem e_and1 {a c : IE} {x : R} {o : Out R} (h : xE G b a e s = .ok x s1) (h1 : x.d = .bl true) (h2 : xE G b c e s1 = o) : xE G b (.and a c) e s = o := by
  simp only [xE, xEs, xT, xI, xO, xC, xS, xSs, xG, xGs] at *
  simp only [evE, h, Out.bind_ok, h1, h2]
theorem e_and0 {a c : IE} {x : R} (h : xE G b a e s = .ok x s1) (h1 : x.d = .bl false) : xE G b (.and a c) e s = .ok (.v (.bl false)) s1 := by
  simp only [xE, xEs, xT, xI, xO, xC, xS, xSs, xG, xGs] at *
  simp only [evE, h, Out.bind_ok, h1]
theorem e_andk {a c : IE} {x y : R} {k l : Bool} (h : xE G b a e s = .ok x s) (h1 : x.d = .bl k) (h2 : xE G b c e s = .ok y s) (h3 : y = .v (.bl l)) : xE G b (.and a c) e s = .ok (.v (.bl (k && l))) s := by
  simp only [xE, xEs, xT, xI, xO, xC, xS, xSs, xG, xGs] at *
  cases k
  · simp only [evE, h, Out.bind_ok, h1, Bool.false_and]
  · simp only [evE, h, Out.bind_ok, h1, h2, h3, Bool.true_and]
theorem e_or1 {a c : IE} {x : R} (h : xE G b a e s = .ok x s1) (h1 : x.d = .bl true) : xE G b (.or a c) e s = .ok (.v (.bl true)) s1 := by
  simp only [xE, xEs, xT, xI, xO, xC, xS, xSs, xG, xGs] at *
  simp only [evE, h, Out.bind_ok, h1]
theorem e_or0 {a c : IE} {x : R} {o : Out R} (h : xE G b a e s = .ok x s1) (h1 : x.d = .bl false) (h2 : xE G b c e s1 = o) : xE G b (.or a c) e s = o := by
  simp only [xE, xEs, xT, xI, xO, xC, xS, xSs, xG, xGs] at *
  simp only [evE, h, Out.bind_ok, h1, h2]
theorem e_not {a : IE} {x : R} {k : Bool} (h : xE G b a e s = .ok x s1) (h1 : x.d = .bl k) : xE G b (.not a) e s = .ok (.v (.bl !k)) s1 := by
  simp only [xE, xEs, xT, xI, xO, xC, xS, xSs, xG, xGs] at *
  simp only [evE, h, Out.bind_ok, h1]
theorem e_dnewT : xE G b .dnewT e s = .ok (.n (.dt [])) s := by
  simp only [xE, xEs, xT, xI, xO, xC, xS, xSs, xG, xGs] at *
  rfl
theorem e_dnewK : xE G b .dnewK e s = .ok (.n (.dk [])) s := by
  simp only [xE, xEs, xT, xI, xO, xC, xS, xSs, xG, xGs] at *
  rfl
theorem e_muT : xE G b (.mu .dnewT) e s = .ok (.v (.cell s.length)) (s ++ [.dt []]) := by
  simp only [xE, xEs, xT, xI, xO, xC, xS, xSs, xG, xGs] at *
  rfl
theorem e_sl {a : IE} {lo hi : IO} {x r : R} {l h : Option Int} (h1 : xE G b a e s = .ok x s1) (h2 : xO G b lo e s1 = .ok l s2) (h3 : xO G b hi e s2 = .ok h s3) (h4 : slR x.d l h s3 = some r) : xE G b (.sl a lo hi) e s = .ok r s3 := by
  simp only [xE, xEs, xT, xI, xO, xC, xS, xSs, xG, xGs] at *
  simp only [evE, h1, h2, h3, Out.bind_ok, h4, Out.of_some]
theorem o_none : xO G b .none e s = .ok none s := by
  simp only [xE, xEs, xT, xI, xO, xC, xS, xSs, xG, xGs] at *
  rfl
theorem o_some {a : IE} {x : R} {i : Int} (h : xE G b a e s = .ok x s1) (h1 : x.d = .int i) : xO G b (.some a) e s = .ok (some i) s1 := by
  simp only [xE, xEs, xT, xI, xO, xC, xS, xSs, xG, xGs] at *
  simp only [evO, h, Out.bind_ok, h1]
theorem i_tup {a : IE} {r : R} {ds : List D} (h : xE G b a e s = .ok r s1) (hr : r.d = .tup ds) : xI G b (.seq a) e s = .ok (.l ds) s1 := by
  simp only [xE, xEs, xT, xI, xO, xC, xS, xSs, xG, xGs] at *
  simp only [evI, h, Out.bind_ok, hr]
theorem i_frz {a : IE} {r : R} {k : Bool} {ds : List D} (h : xE G b a e s = .ok r s1) (hr : frzSeq r.d = some (k, ds)) : xI G b (.seq a) e s = .ok (.l ds) s1 := by
  simp only [xE, xEs, xT, xI, xO, xC, xS, xSs, xG, xGs] at *
  simp only [evI, h, Out.bind_ok]
  generalize r.d = d at hr
  cases d <;> simp only [frzSeq, reduceCtorEq] at hr <;> cases hr <;> rfl
theorem i_zip {a c : IE} {x y : R} {k l : Bool} {xs ys : List D} (h : xE G b a e s = .ok x s1) (h2 : xE G b c e s1 = .ok y s2) (h3 : frzSeq x.d = some (k, xs)) (h4 : frzSeq y.d = some (l, ys)) : xI G b (.zip a c) e s = .ok (.l (pairs2 xs ys)) s2 := by
  simp only [xE, xEs, xT, xI, xO, xC, xS, xSs, xG, xGs] at *
  simp only [evI, h, h2, Out.bind_ok, h3, h4]
theorem i_cell {a : IE} {r : R} {n : Nat} {ds : List D} (h : xE G b a e s = .ok r s1) (hr : r.d = .cell n) (hn : s1[n]? = some (.lst ds)) : xI G b (.seq a) e s = .ok (.c n) s1 := by
  simp only [xE, xEs, xT, xI, xO, xC, xS, xSs, xG, xGs] at *
  simp only [evI, h, Out.bind_ok, hr, hn]
theorem s_name' {i : Nat} {x : IE} {r : R} (h : xE G b x e s = .ok r s1) (he : e.set i (some r.d) = e1) : xS G b (.asg (.name i) x) e s = .ok (.nx, e1) s1 := by
  rw [← he]; exact s_name h
theorem s_sub {a i x : IE} {r p q : R} (h : xE G b x e s = .ok r s1) (h1 : xE G b a e s1 = .ok p s2) (h2 : xE G b i e s2 = .ok q s3) {s4 : Store} (h3 : setR b p.d q.d r.d s3 = .ok () s4) : xS G b (.asg (.sub a i) x) e s = .ok (.nx, e) s4 := by
  simp only [xE, xEs, xT, xI, xO, xC, xS, xSs, xG, xGs] at *
  simp only [exS, h, Out.bind_ok, asG, h1, h2, h3]
theorem s_fld {a x : IE} {f : Str} {r p : R} (h : xE G b x e s = .ok r s1) (h1 : xE G b a e s1 = .ok p s2) (h3 : setF G.na b p.d f r.d s2 = .ok () s3) : xS G b (.asg (.fld a f) x) e s = .ok (.nx, e) s3 := by
  simp only [xE, xEs, xT, xI, xO, xC, xS, xSs, xG, xGs] at *
  simp only [exS, h, Out.bind_ok, asG, h1, h3]
theorem s_tup {gs : IGs} {x : IE} {r : R} {ds : List D} (h : xE G b x e s = .ok r s1) (hr : r.d = .tup ds ∨ r.d = .lst ds) (h2 : xGs G b gs ds e s1 = .ok e1 s2) : xS G b (.asg (.tup gs) x) e s = .ok (.nx, e1) s2 := by
  simp only [xE, xEs, xT, xI, xO, xC, xS, xSs, xG, xGs] at *
  rcases hr with hr | hr <;> simp only [exS, h, Out.bind_ok, asG, hr, h2]
theorem s_par {i j : Nat} {x y : IE} {r q : R} (h : xE G b x e s = .ok r s1) (h1 : xE G b y e s1 = .ok q s2) (he : (e.set i (some r.d)).set j (some q.d) = e1) : xS G b (.par i j x y) e s = .ok (.nx, e1) s2 := by
  simp only [xE, xEs, xT, xI, xO, xC, xS, xSs, xG, xGs] at *
  simp only [exS, h, Out.bind_ok, h1, he]
theorem s_aug {i : Nat} {o : Op2} {x : IE} {r : R} {n m k : Int} (h0 : e[i]? = some (some (.int n))) (h : xE G b x e s = .ok r s1) (hr : r.d = .int m) (ho : o = .add ∨ o = .sub) (h1 : intOp o n m = some k) (he : e.set i (some (.int k)) = e1) : xS G b (.aug i o x) e s = .ok (.nx, e1) s1 := by
  simp only [xE, xEs, xT, xI, xO, xC, xS, xSs, xG, xGs] at *
  simp only [exS, h0, h, Out.bind_ok, hr, h1, ho, if_true, he]
theorem s_pass : xS G b .pass e s = .ok (.nx, e) s := by
  simp only [xE, xEs, xT, xI, xO, xC, xS, xSs, xG, xGs] at *
  rfl
theorem s_brk : xS G b .brk e s = .ok (.bk, e) s := by
  simp only [xE, xEs, xT, xI, xO, xC, xS, xSs, xG, xGs] at *
  rfl
theorem s_cont : xS G b .cont e s = .ok (.ct, e) s := by
  simp only [xE, xEs, xT, xI, xO, xC, xS, xSs, xG, xGs] at *
  rfl
theorem s_retN : xS G b .retN e s = .ok (.ret (.v .non), e) s := by
  simp only [xE, xEs, xT, xI, xO, xC, xS, xSs, xG, xGs] at *
  rfl
theorem ss_ret' {x : IS} {xs : ISs} {r : R} (h : xS G b x e s = .ok (.ret r, e1) s1) : xSs G b (.cons x xs) e s = .ok (.ret r, e1) s1 := by
  exact ss_ret h
theorem ss_bk {x : IS} {xs : ISs} (h : xS G b x e s = .ok (.bk, e1) s1) : xSs G b (.cons x xs) e s = .ok (.bk, e1) s1 := by
  simp only [xE, xEs, xT, xI, xO, xC, xS, xSs, xG, xGs] at *
  simp only [exSs, h, Out.bind_ok]
theorem ss_ct {x : IS} {xs : ISs} (h : xS G b x e s = .ok (.ct, e1) s1) : xSs G b (.cons x xs) e s = .ok (.ct, e1) s1 := by
  simp only [xE, xEs, xT, xI, xO, xC, xS, xSs, xG, xGs] at *
  simp only [exSs, h, Out.bind_ok]
theorem g_name {i : Nat} {d : D} (he : e.set i (some d) = e1) : xG G b (.name i) d e s = .ok e1 s := by
  simp only [xE, xEs, xT, xI, xO, xC, xS, xSs, xG, xGs] at *
  simp only [asG, he]
theorem g_tup {gs : IGs} {ds : List D} {o : Out En.Env} (h : xGs G b gs ds e s = o) : xG G b (.tup gs) (.tup ds) e s = o := by
  simp only [xE, xEs, xT, xI, xO, xC, xS, xSs, xG, xGs] at *
  simp only [asG, h]
theorem gs_nil : xGs G b .nil [] e s = .ok e s := by
  simp only [xE, xEs, xT, xI, xO, xC, xS, xSs, xG, xGs] at *
  rfl
theorem gs_cons {g : IG} {gs : IGs} {d : D} {ds : List D} {o : Out En.Env} (h : xG G b g d e s = .ok e1 s1) (h2 : xGs G b gs ds e1 s1 = o) : xGs G b (.cons g gs) (d :: ds) e s = o := by
  simp only [xE, xEs, xT, xI, xO, xC, xS, xSs, xG, xGs] at *
  simp only [asGs, h, Out.bind_ok, h2]
/-- the body of a for, once -/
theorem b_for {g : IG} {a : ISs} {d : D} {o : Out (Ctl × En.Env)} (h : xG G b g d e s = .ok e1 s1) (h2 : xSs G b a e1 s1 = o) : ((xG G b g d e s).bind fun e2 s3 => xSs G b a e2 s3) = o := by
  simp only [xE, xEs, xT, xI, xO, xC, xS, xSs, xG, xGs] at *
  simp only [h, Out.bind_ok, h2]
/-- an item of a comprehension -/
theorem b_lc {own : List (Str × Nat)} {g : IG} {t : IC} {x : IE} {d : D} {r : R} (h : xG G b g d (wipeE e (own.map (·.2))) s = .ok e1 s1) (h2 : xC G b t e1 s1 = .ok true s2) (h3 : xE G b x e1 s2 = .ok r s3) :
    ((xG G b g d (wipeE e (own.map (·.2))) s).bind fun e2 s2 => (xC G b t e2 s2).bind fun k s3 => if k then (xE G b x e2 s3).bind fun r s4 => .ok [r.d] s4 else .ok [] s3) = .ok [r.d] s3 := by
  simp only [xE, xEs, xT, xI, xO, xC, xS, xSs, xG, xGs] at *
  simp only [h, h2, h3, Out.bind_ok, if_true]
theorem b_lc0 {own : List (Str × Nat)} {g : IG} {t : IC} {x : IE} {d : D} (h : xG G b g d (wipeE e (own.map (·.2))) s = .ok e1 s1) (h2 : xC G b t e1 s1 = .ok false s2) :
    ((xG G b g d (wipeE e (own.map (·.2))) s).bind fun e2 s2 => (xC G b t e2 s2).bind fun k s3 => if k then (xE G b x e2 s3).bind fun r s4 => .ok [r.d] s4 else .ok [] s3) = .ok [] s2 := by
  simp only [xE, xEs, xT, xI, xO, xC, xS, xSs, xG, xGs] at *
  simp only [h, h2, Out.bind_ok, Bool.false_eq_true, if_false]
theorem c_yes : xC G b .yes e s = .ok true s := by
  simp only [xE, xEs, xT, xI, xO, xC, xS, xSs, xG, xGs] at *
  rfl
theorem c_t {t : IT} {o : Out Bool} (h : xT G b t e s = o) : xC G b (.t t) e s = o := by
  simp only [xE, xEs, xT, xI, xO, xC, xS, xSs, xG, xGs] at *
  exact h
end
def bodyF (G : Glo) (b : Nat) (g : IG) (a : ISs) (d : D) (e : En.Env) (s : Store) : Out (Ctl × En.Env) := (xG G b g d e s).bind fun e2 s3 => xSs G b a e2 s3
theorem s_forB {G : Glo} {b : Nat} {g : IG} {it : II} {a : ISs} {e : En.Env} {s s1 : Store} {ds : List D} {o : Out (Ctl × En.Env)} (h : xI G b it e s = .ok (.l ds) s1) (h2 : forL (bodyF G b g a) ds e s1 = o) : xS G b (.for_ g it a) e s = o := by
  unfold bodyF at h2
  simp only [xE, xEs, xT, xI, xO, xC, xS, xSs, xG, xGs] at *
  exact s_for_0 h h2
theorem b_forB {G : Glo} {b : Nat} {g : IG} {a : ISs} {e e1 : En.Env} {s s1 : Store} {d : D} {o : Out (Ctl × En.Env)} (h : xG G b g d e s = .ok e1 s1) (h2 : xSs G b a e1 s1 = o) : bodyF G b g a d e s = o := by
  exact b_for h h2
def itemF (G : Glo) (b : Nat) (own : List (Str × Nat)) (g : IG) (t : IC) (x : IE) (e : En.Env) (d : D) (s : Store) : Out (List D) :=
  (xG G b g d (wipeE e (own.map (·.2))) s).bind fun e2 s2 => (xC G b t e2 s2).bind fun k s3 => if k then (xE G b x e2 s3).bind fun r s4 => .ok [r.d] s4 else .ok [] s3
theorem e_lcB {G : Glo} {b : Nat} {own : List (Str × Nat)} {g : IG} {it : II} {t : IC} {x : IE} {e : En.Env} {s s1 s2 : Store} {ds : List D} {r : List D} (h : xI G b it e s = .ok (.l ds) s1) (hl : ds.length ≤ 100000) (h2 : lcL (itemF G b own g t x e) ds s1 = .ok r s2) : xE G b (.lc own g it t x) e s = .ok (.n (.lst r)) s2 := by
  exact e_lc h hl h2
theorem b_lcB {G : Glo} {b : Nat} {own : List (Str × Nat)} {g : IG} {t : IC} {x : IE} {e e1 : En.Env} {s s1 s2 s3 : Store} {d : D} {r : R} (h : xG G b g d (wipeE e (own.map (·.2))) s = .ok e1 s1) (h2 : xC G b t e1 s1 = .ok true s2) (h3 : xE G b x e1 s2 = .ok r s3) : itemF G b own g t x e d s = .ok [r.d] s3 := by
  exact b_lc h h2 h3
theorem b_lcB0 {G : Glo} {b : Nat} {own : List (Str × Nat)} {g : IG} {t : IC} {x : IE} {e e1 : En.Env} {s s1 s2 : Store} {d : D} (h : xG G b g d (wipeE e (own.map (·.2))) s = .ok e1 s1) (h2 : xC G b t e1 s1 = .ok false s2) : itemF G b own g t x e d s = .ok [] s2 := by
  exact b_lc0 h h2
theorem end_v {b : Nat} {d : D} {s1 : Store} (h : s1.length = b) (hd : cb b d = true) : endR b (.ret (.v d)) s1 = .ok (.v d) s1 := by
  subst h
  simp [endR, hd]
theorem end_n {b : Nat} {o : O} {s1 : Store} (h : s1.length = b) (hd : cbO b o = true) : endR b (.ret (.n o)) s1 = .ok (.n o) s1 := by
  subst h
  simp [endR, hd]
theorem end_int {b : Nat} {i : Int} {s1 : Store} (h : s1.length = b) : endR b (.ret (.v (.int i))) s1 = .ok (.v (.int i)) s1 := end_v h rfl
theorem end_bl {b : Nat} {i : Bool} {s1 : Store} (h : s1.length = b) : endR b (.ret (.v (.bl i))) s1 = .ok (.v (.bl i)) s1 := end_v h rfl
theorem dec0 {p : Prop} [Decidable p] (h : ¬ p) : some (decide p) = some false := by rw [decide_eq_false h]
theorem dec1 {p : Prop} [Decidable p] (h : p) : some (decide p) = some true := by rw [decide_eq_true h]
theorem obj_at {s : Store} {q c : Nat} {fs : List (Str × D)} (h : s[q]? = some (.ins c fs)) : objOf s (.cell q) = some (c, fs) := by simp only [objOf, h]
theorem run_F {i : DI} {G : Glo} {b : Nat} (h : i.keep = false) : i.run G b = runF G i.d := by simp [DI.run, h]
theorem run_K {i : DI} {G : Glo} {b : Nat} (h : i.keep = true) : i.run G b = runK G b i.d := by simp [DI.run, h]
theorem runK_ret {G : Glo} {b : Nat} {d : En.Def} {xs : List D} {s s1 : Store} {e' : En.Env} {r : R} (hl : xs.length = d.params) (h : xSs G b d.body (envOf d xs) s = .ok (.ret r, e') s1) : runK G b d xs s = .ok r s1 := by
  simp only [xE, xEs, xT, xI, xO, xC, xS, xSs, xG, xGs] at *
  simp only [runK, if_pos hl, h, Out.bind_ok, endK]
theorem runK_nx {G : Glo} {b : Nat} {d : En.Def} {xs : List D} {s s1 : Store} {e' : En.Env} (hl : xs.length = d.params) (h : xSs G b d.body (envOf d xs) s = .ok (.nx, e') s1) : runK G b d xs s = .ok (.v .non) s1 := by
  simp only [xE, xEs, xT, xI, xO, xC, xS, xSs, xG, xGs] at *
  simp only [runK, if_pos hl, h, Out.bind_ok, endK]
theorem forL_cons {f : D → En.Env → Store → Out (Ctl × En.Env)} {d : D} {ds : List D} {e e1 : En.Env} {s s1 : Store} {o : Out (Ctl × En.Env)} (h : f d e s = .ok (.nx, e1) s1) (h2 : forL f ds e1 s1 = o) : forL f (d :: ds) e s = o := by simp [forL, h, Ctl.goes, h2]
theorem lcL_cons {f : D → Store → Out (List D)} {d : D} {ds : List D} {s s1 s2 : Store} {x r : List D} (h : f d s = .ok x s1) (h2 : lcL f ds s1 = .ok r s2) : lcL f (d :: ds) s = .ok (x ++ r) s2 := by simp only [lcL, h, h2, Out.bind_ok]
/-- a comprehension without effect -/
theorem lcL_map {f : D → Store → Out (List D)} {s : Store} (g : D → D) : ∀ {ds : List D}, (∀ d ∈ ds, f d s = .ok [g d] s) → lcL f ds s = .ok (ds.map g) s
  | [], _ => rfl
  | d :: ds, h => lcL_cons (x := [g d]) (h d (by simp)) (lcL_map g fun a m => h a (List.mem_cons_of_mem _ m))
theorem run_ret {G : Glo} {d : En.Def} {xs : List D} {s s1 s' : Store} {e' : En.Env} {r r' : R} (hl : xs.length = d.params) (h : xSs G s.length d.body (envOf d xs) s = .ok (.ret r, e') s1) (h2 : endR s.length (.ret r) s1 = .ok r' s') : runF G d xs s = .ok r' s' := by
  exact run_of hl h h2
theorem eq_int {gd : Nat → List (Str × D)} {s : Store} (i j : Int) : cmpR gd .eq (.int i) (.int j) s = some (decide (i = j)) := by simp [cmpR, eqD, flat, scal]
theorem ne_int {gd : Nat → List (Str × D)} {s : Store} (i j : Int) : cmpR gd .ne (.int i) (.int j) s = some (!decide (i = j)) := by simp [cmpR, eqD, flat, scal]

end En
local macro_rules
  | `(tactic| exists $ts,*) => do
    let ts := ts.getElems
    let tries ← ts.mapM fun t => `(tactic| exact $t)
    let leaf ← `(tacticSeq| first $[| $tries:tactic]* | exact En.eq_int _ _ | exact En.ne_int _ _ | exact rfl | assumption | (simp only [List.set_cons_succ, List.set_cons_zero, En.R.d_v, En.R.d_lst]; done) | (simp only [List.set_cons_succ, List.set_cons_zero, En.R.d_v, En.R.d_lst]; exact rfl))
    `(tactic| first
      | exact En.es_nil
      | (apply En.es_cons; (focus exists $ts,*); (focus exists $ts,*))
      | exact En.e_int | exact En.e_str | exact En.e_bl | exact En.e_non | exact En.e_gl | exact En.e_dnewT | exact En.e_dnewK
      | (apply En.e_var; (focus exact rfl))
      | (apply En.e_op; (focus exists $ts,*); (focus exists $ts,*); (focus ($leaf)))
      | (apply En.e_cmp; (focus exists $ts,*); (focus exists $ts,*); (focus ($leaf)))
      | (apply En.e_ix; (focus exists $ts,*); (focus exists $ts,*); (focus ($leaf)))
      | (apply En.e_fld; (focus exists $ts,*); (focus ($leaf)))
      | (apply En.e_blt; (focus exists $ts,*); (focus ($leaf)))
      | (apply En.e_neg; (focus exists $ts,*); (focus ($leaf)))
      | (apply En.e_not; (focus exists $ts,*); (focus ($leaf)))
      | (apply En.e_isin; (focus exists $ts,*); (focus ($leaf)); (focus exact rfl); (focus ($leaf)))
      | (apply En.e_tup; (focus exists $ts,*); (focus exact Nat.le_of_ble_eq_true rfl))
      | (apply En.e_lst; (focus exists $ts,*); (focus exact Nat.le_of_ble_eq_true rfl))
      | (apply En.e_mu; (focus exists $ts,*))
      | (apply En.e_call; (focus exists $ts,*); (focus ($leaf)))
      | (apply En.e_mcall; (focus exists $ts,*); (focus ($leaf)); (focus ($leaf)); (focus ($leaf)); (focus exists $ts,*); (focus ($leaf)))
      | (apply En.e_makeM; (focus exists $ts,*); (focus ($leaf)))
      | (apply En.e_mt; (focus exists $ts,*); (focus ($leaf)); (focus exists $ts,*); (focus ($leaf)))
      | (apply En.e_sl; (focus exists $ts,*); (focus exists $ts,*); (focus exists $ts,*); (focus ($leaf)))
      | exact En.o_none
      | (apply En.o_some; (focus exists $ts,*); (focus ($leaf)))
      | (apply En.t_e; (focus exists $ts,*); (focus ($leaf)))
      | (apply En.t_not1; (focus exists $ts,*))
      | (apply En.t_not0; (focus exists $ts,*))
      | (apply En.t_not; (focus exists $ts,*))
      | (apply En.t_or1; (focus exists $ts,*))
      | (apply En.t_or0; (focus exists $ts,*); (focus exists $ts,*))
      | (apply En.t_and1; (focus exists $ts,*); (focus exists $ts,*))
      | (apply En.t_and0; (focus exists $ts,*))
      | exact En.ss_nil
      | (apply En.ss_nx; (focus exists $ts,*); (focus exists $ts,*))
      | (apply En.ss_ret; (focus exists $ts,*))
      | (apply En.ss_retc; (focus exists $ts,*))
      | (apply En.s_name'; (focus exists $ts,*); (focus first | (simp only [List.set_cons_succ, List.set_cons_zero, En.R.d_v, En.R.d_lst]; exact rfl) | exact rfl))
      | (apply En.s_par; (focus exists $ts,*); (focus exists $ts,*); (focus first | (simp only [List.set_cons_succ, List.set_cons_zero, En.R.d_v, En.R.d_lst]; exact rfl) | exact rfl))
      | (apply En.s_sub; (focus exists $ts,*); (focus exists $ts,*); (focus exists $ts,*); (focus ($leaf)))
      | (apply En.s_fld; (focus exists $ts,*); (focus exists $ts,*); (focus ($leaf)))
      | (apply En.s_expr; (focus exists $ts,*))
      | (apply En.s_ret; (focus exists $ts,*))
      | (apply En.s_retF; (focus exists $ts,*))
      | (apply En.s_if1; (focus exists $ts,*); (focus exists $ts,*))
      | (apply En.s_if0; (focus exists $ts,*); (focus exists $ts,*))
      | (apply En.i_rng1; (focus exists $ts,*); (focus ($leaf)); (focus first | decide | omega))
      | (apply En.i_frz; (focus exists $ts,*); (focus ($leaf)))
      | (apply En.i_zip; (focus exists $ts,*); (focus exists $ts,*); (focus ($leaf)); (focus ($leaf)))
      | (apply En.s_forB; (focus exists $ts,*); (focus ($leaf)))
      | (apply En.b_forB; (focus exists $ts,*); (focus exists $ts,*))
      | (apply En.e_lcB; (focus exists $ts,*); (focus first | exact Nat.le_of_ble_eq_true rfl | ($leaf)); (focus ($leaf)))
      | (apply En.g_name; (focus first | (simp only [List.set_cons_succ, List.set_cons_zero, En.R.d_v, En.R.d_lst]; exact rfl) | exact rfl))
      | (apply En.g_tup; (focus exists $ts,*))
      | exact En.gs_nil
      | (apply En.gs_cons; (focus exists $ts,*); (focus exists $ts,*))
      | exact En.c_yes
      | (apply En.c_t; (focus exists $ts,*))
      | ($leaf))

set_option Elab.async false
set_option linter.all false
set_option maxRecDepth 100000
set_option maxHeartbeats 1000000
namespace En
open PySem PySem.Spec PyProof.Rows L2
/-- a pool -/
def pl (c r t : Int) : O := .lst [.int c, .int r, .int t]
def DrawAt (f : Nat → List D → Store → Out R) : Prop := ∀ (b n : Nat) (c r t m : Int) (s : Store), s[n]? = some (pl c r t) → 0 < m → m < 1000000000 →
  ∃ (g : Nat) (c' r' t' : Int), (g : Int) < m ∧ f b [.cell n, .int m] s = .ok (.v (.int (g : Nat))) (s.set n (pl c' r' t'))
theorem eq_strk {gd : Nat → List (Str × D)} {s : Store} {i j : Str} {k : Bool} (h : decide (i = j) = k) : cmpR gd .eq (.str i) (.str j) s = some k := by rw [← h]; simp [cmpR, eqD, flat, scal]
theorem gt_int {gd : Nat → List (Str × D)} {s : Store} (i j : Int) : cmpR gd .gt (.int i) (.int j) s = some (decide (j < i)) := rfl
theorem mod_op {s : Store} (i : Int) {j : Int} (h : 0 < j) : opR .mod (.int i) (.int j) s = some (.v (.int (i.fmod j))) := by
  simp only [opR, intOp_mod i (Int.ne_of_gt h), Option.map_some]
theorem fdiv_op {s : Store} (i : Int) {j : Int} (h : 0 < j) (h2 : j < 1000000000) : opR .fdiv (.int i) (.int j) s = some (.v (.int (i.fdiv j))) := by
  have : decide (j ≠ 0 ∧ j.natAbs < 1073741824) = true := by rw [decide_eq_true_eq]; omega
  simp only [opR, intOp, this, if_true, Option.map_some]
theorem add_op {s : Store} (i j : Int) : opR .add (.int i) (.int j) s = some (.v (.int (i + j))) := rfl
theorem sub_op {s : Store} (i j : Int) : opR .sub (.int i) (.int j) s = some (.v (.int (i - j))) := rfl
theorem mul_op {s : Store} (i j : Int) (h1 : -18446744073709551616 < i) (h2 : i < 18446744073709551616) : opR .mul (.int i) (.int j) s = some (.v (.int (i * j))) := by
  simp only [opR, intOp_mul h1 h2, Option.map_some]
theorem pl_ix0 {gd : Nat → List (Str × D)} {s : Store} {n : Nat} {c r t : Int} (h : s[n]? = some (pl c r t)) : ixR gd (.cell n) (.int 0) s = some (.v (.int c)) := by
  have h : s[n]? = some (.lst [.int c, .int r, .int t]) := h
  simp only [ixR, seqOf, h, at3_0, Option.map_some]
theorem pl_ix1 {gd : Nat → List (Str × D)} {s : Store} {n : Nat} {c r t : Int} (h : s[n]? = some (pl c r t)) : ixR gd (.cell n) (.int 1) s = some (.v (.int r)) := by
  have h : s[n]? = some (.lst [.int c, .int r, .int t]) := h
  simp only [ixR, seqOf, h, at3_1, Option.map_some]
theorem pl_ix2 {gd : Nat → List (Str × D)} {s : Store} {n : Nat} {c r t : Int} (h : s[n]? = some (pl c r t)) : ixR gd (.cell n) (.int 2) s = some (.v (.int t)) := by
  have h : s[n]? = some (.lst [.int c, .int r, .int t]) := h
  simp only [ixR, seqOf, h, at3_2, Option.map_some]
theorem pl_set1 {b : Nat} {s : Store} {n : Nat} {c r t : Int} (h : s[n]? = some (pl c r t)) (x : Int) : setR b (.cell n) (.int 1) (.int x) s = .ok () (s.set n (pl c x t)) := by
  have h : s[n]? = some (.lst [.int c, .int r, .int t]) := h
  have e : ixN [D.int c, D.int r, D.int t].length 1 = some 1 := rfl
  have w : okW b n (.int x) = true := by simp [okW, cb]
  simp only [setR, h, e, w, if_true]
  rfl
theorem pl_set2 {b : Nat} {s : Store} {n : Nat} {c r t : Int} (h : s[n]? = some (pl c r t)) (x : Int) : setR b (.cell n) (.int 2) (.int x) s = .ok () (s.set n (pl c r x)) := by
  have h : s[n]? = some (.lst [.int c, .int r, .int t]) := h
  have e : ixN [D.int c, D.int r, D.int t].length 2 = some 2 := rfl
  have w : okW b n (.int x) = true := by simp [okW, cb]
  simp only [setR, h, e, w, if_true]
  rfl
theorem lt_of_get {α : Type} {s : List α} {n : Nat} {x : α} (h : s[n]? = some x) : n < s.length := (List.getElem?_eq_some_iff.mp h).1
theorem set_get {α : Type} {s : List α} {n : Nat} {x y : α} (h : s[n]? = some x) : (s.set n y)[n]? = some y := by rw [List.getElem?_set_self (lt_of_get h)]
theorem draw_at (G : Glo) : DrawAt fun _ => runF G cDraw := fun b n c r t m s h hm hm2 => by
  by_cases hr : (1 : Int) < r
  · have hf := fmod_nn r hm
    refine ⟨(r.fmod m).toNat, c, r.fdiv m, t, by omega, ?_⟩
    have e : (((r.fmod m).toNat : Nat) : Int) = r.fmod m := Int.toNat_of_nonneg hf.1
    rw [e]
    apply run_ret rfl
    · unfold cDraw
      show xSs _ _ _ [some (.cell n), some (.int m), none, none] _ = _
      (exists pl_ix1 h, mod_op _ hm, fdiv_op _ hm hm2, dec1 hr, pl_set1 h _)
    · exact end_int (by simp)
  · have hf := fmod_nn (drawC c (t + 1)) hm
    refine ⟨((drawC c (t + 1)).fmod m).toNat, c, r, t + 1, by omega, ?_⟩
    have e : ((((drawC c (t + 1)).fmod m).toNat : Nat) : Int) = (drawC c (t + 1)).fmod m := Int.toNat_of_nonneg hf.1
    rw [e]
    have h2 := set_get (y := pl c r (t + 1)) h
    have eA : (c.fmod 2147483647 + 69621 * (t + 1)).fmod 2147483647 = drawA c (t + 1) := rfl
    have eB : (drawA c (t + 1) * drawA c (t + 1) + 48271 * (t + 1) + 11).fmod 2147483629 = drawB c (t + 1) := rfl
    have eC : (drawB c (t + 1) * drawB c (t + 1) + c.fmod 1000003).fmod 2147483587 = drawC c (t + 1) := rfl
    have bA := fmod_nn (c.fmod 2147483647 + 69621 * (t + 1)) (m := 2147483647) (by decide)
    rw [eA] at bA
    have bB := fmod_nn (drawA c (t + 1) * drawA c (t + 1) + 48271 * (t + 1) + 11) (m := 2147483629) (by decide)
    rw [eB] at bB
    have m1 := mod_op (s := s.set n (pl c r (t + 1))) (c.fmod 2147483647 + 69621 * (t + 1)) (j := 2147483647) (by decide)
    rw [eA] at m1
    have m2 := mod_op (s := s.set n (pl c r (t + 1))) (drawA c (t + 1) * drawA c (t + 1) + 48271 * (t + 1) + 11) (j := 2147483629) (by decide)
    rw [eB] at m2
    have m3 := mod_op (s := s.set n (pl c r (t + 1))) (drawB c (t + 1) * drawB c (t + 1) + c.fmod 1000003) (j := 2147483587) (by decide)
    rw [eC] at m3
    have q1 := mul_op (s := s.set n (pl c r (t + 1))) 69621 (t + 1) (by decide) (by decide)
    have q2 := mul_op (s := s.set n (pl c r (t + 1))) 48271 (t + 1) (by decide) (by decide)
    have q3 := mul_op (s := s.set n (pl c r (t + 1))) (drawA c (t + 1)) (drawA c (t + 1)) (by omega) (by omega)
    have q4 := mul_op (s := s.set n (pl c r (t + 1))) (drawB c (t + 1)) (drawB c (t + 1)) (by omega) (by omega)
    have m4 := mod_op (s := s.set n (pl c r (t + 1))) c (j := 2147483647) (by decide)
    have m5 := mod_op (s := s.set n (pl c r (t + 1))) c (j := 1000003) (by decide)
    have m6 := mod_op (s := s.set n (pl c r (t + 1))) (drawC c (t + 1)) hm
    apply run_ret rfl
    · unfold cDraw
      show xSs _ _ _ [some (.cell n), some (.int m), none, none] _ = _
      (exists pl_ix1 h, pl_ix2 h, dec0 hr, pl_set2 h _, pl_ix0 h2, pl_ix2 h2, q1, q2, q3, q4, m1, m2, m3, m4, m5, m6)
    · exact end_int (by simp)
/-- a draw, the store in a normal form -/
theorem draw_nx {f : Nat → List D → Store → Out R} (hd : DrawAt f) {s : Store} {n : Nat} (hn : n < s.length) (b : Nat) (c r t m : Int) (hm : 0 < m) (hm2 : m < 1000000000) :
    ∃ (g : Nat) (c' r' t' : Int), (g : Int) < m ∧ callR f b [.cell n, .int m] (s.set n (pl c r t)) = .ok (.v (.int (g : Nat))) (s.set n (pl c' r' t')) := by
  obtain ⟨g, c', r', t', h1, h2⟩ := hd b n c r t m (s.set n (pl c r t)) (by rw [List.getElem?_set_self hn]) hm hm2
  rw [List.set_set] at h2
  exact ⟨g, c', r', t', h1, callR_at rfl h2⟩
/-- a pick -/
theorem pick_at (G : Glo) {jd : Nat} (hd : DrawAt (G.fn jd)) {s : Store} {n : Nat} (hn : n < s.length) (c r t : Int) {row : List D} (h0 : 0 < row.length) (h1 : row.length < 1000000000) (hc : cbs s.length row = true) :
    ∃ d c' r' t', d ∈ row ∧ runF G (cPick jd) [.cell n, .lst row] (s.set n (pl c r t)) = .ok (.v d) (s.set n (pl c' r' t')) := by
  obtain ⟨g, c', r', t', g1, e⟩ := draw_nx hd hn s.length c r t row.length (by omega) (by omega)
  obtain ⟨d, ha, hm⟩ := atI_mem (xs := row) (g := (g : Int)) (by omega) g1
  refine ⟨d, c', r', t', hm, ?_⟩
  have hcd := cbs_iff.mp hc d hm
  have e2 : ixR G.gd (.lst row) (.int (g : Nat)) (s.set n (pl c' r' t')) = some (.v d) := by simp only [ixR, seqOf, ha, Option.map_some]
  have hl : (s.set n (pl c r t)).length = s.length := by simp
  apply run_ret rfl
  · rw [hl]
    unfold cPick
    show xSs _ _ _ [some (.cell n), some (.lst row)] _ = _
    (exists len_lst, e, e2)
  · rw [hl]
    exact end_v (by simp) hcd
end En

set_option Elab.async false
set_option linter.all false
set_option maxRecDepth 100000
set_option maxHeartbeats 1000000
namespace En
open PySem PySem.Spec PyProof.Rows L2
mutual
def plain : Nat → D → Bool
  | _, .non => true
  | _, .bl _ => true
  | _, .int _ => true
  | _, .str x => true
  | 0, _ => false
  | n + 1, .lst ds => decide (ds.length ≤ 100000) && plains n ds
  | n + 1, .tup ds => decide (ds.length ≤ 100000) && plains n ds
  | _, _ => false
def plains : Nat → List D → Bool
  | _, [] => true
  | n, d :: ds => plain n d && plains n ds
end
theorem plains_iff {n : Nat} : ∀ {ds : List D}, plains n ds = true ↔ ∀ d ∈ ds, plain n d = true
  | [] => by simp [plains]
  | d :: ds => by simp [plains, plains_iff]
theorem plain_cb : ∀ (n : Nat) (d : D), plain n d = true → cb 0 d = true
  | n, .non, _ => rfl
  | n, .bl _, _ => rfl
  | n, .int _, _ => rfl
  | n, .str _, _ => rfl
  | 0, .lst ds, h => by simp [plain] at h
  | 0, .tup ds, h => by simp [plain] at h
  | n + 1, .lst ds, h => by
    simp only [plain, Bool.and_eq_true] at h
    simp only [cb]
    exact cbs_iff.mpr fun d m => plain_cb n d (plains_iff.mp h.2 d m)
  | n + 1, .tup ds, h => by
    simp only [plain, Bool.and_eq_true] at h
    simp only [cb]
    exact cbs_iff.mpr fun d m => plain_cb n d (plains_iff.mp h.2 d m)
  | n, .dk _, h => by cases n <;> simp [plain] at h
  | n, .dt _, h => by cases n <;> simp [plain] at h
  | n, .obj _ _, h => by cases n <;> simp [plain] at h
  | n, .gd _, h => by cases n <;> simp [plain] at h
  | n, .kt _, h => by cases n <;> simp [plain] at h
  | n, .cell _, h => by cases n <;> simp [plain] at h
def cWhole : En.Def := { slots := 1, params := 1, body :=
    (.cons (.ret (.and (.isin (.var 0) .int) (.not (.isin (.var 0) .bool))))
    .nil) }
def sameB (js : Nat) : ISs := (.cons (.ifs (.not (.e (.call js (.cons (.ix (.var 0) (.var 2)) (.cons (.ix (.var 1) (.var 2)) .nil))))) (.cons (.ret (.bl false))
    .nil) .nil)
    .nil)
def cSame (jw js : Nat) : En.Def := { slots := 3, params := 2, body :=
    (.cons (.ifs (.e (.cmp .is_ (.var 1) .non)) (.cons (.ret (.cmp .is_ (.var 0) .non))
    .nil) .nil)
    (.cons (.ifs (.e (.isin (.var 1) .bool)) (.cons (.ret (.and (.isin (.var 0) .bool) (.cmp .eq (.var 0) (.var 1))))
    .nil) .nil)
    (.cons (.ifs (.e (.isin (.var 1) .int)) (.cons (.ret (.and (.call jw (.cons (.var 0) .nil)) (.cmp .eq (.var 0) (.var 1))))
    .nil) .nil)
    (.cons (.ifs (.e (.isin (.var 1) .str)) (.cons (.ret (.and (.isin (.var 0) .str) (.cmp .eq (.var 0) (.var 1))))
    .nil) .nil)
    (.cons (.ifs (.e (.isin (.var 1) .tuple)) (.cons (.ifs (.or (.not (.e (.isin (.var 0) .tuple))) (.e (.cmp .ne (.blt .len (.cons (.var 0) .nil)) (.blt .len (.cons (.var 1) .nil))))) (.cons (.ret (.bl false))
    .nil) .nil)
    .nil) (.cons (.ifs (.or (.not (.e (.isin (.var 0) .list))) (.e (.cmp .ne (.blt .len (.cons (.var 0) .nil)) (.blt .len (.cons (.var 1) .nil))))) (.cons (.ret (.bl false))
    .nil) .nil)
    .nil))
    (.cons (.for_ (.name 2) (.rng1 (.blt .len (.cons (.var 1) .nil))) (sameB js))
    (.cons (.ret (.bl true))
    .nil))))))) }
theorem eq_bl {gd : Nat → List (Str × D)} {s : Store} (i j : Bool) : cmpR gd .eq (.bl i) (.bl j) s = some (decide (i = j)) := by simp [cmpR, eqD, flat, scal]
theorem whole_int (G : Glo) (i : Int) (s : Store) : runF G cWhole [.int i] s = .ok (.v (.bl true)) s := by
  apply run_ret rfl
  · unfold cWhole
    show xSs _ _ _ [some (.int i)] _ = _
    apply ss_ret
    apply s_ret
    apply e_and1
    · (exists rfl)
    · exact rfl
    · apply e_not
      · (exists rfl)
      · exact rfl
  · exact end_bl rfl
def WholeOk (f : Nat → List D → Store → Out R) : Prop := ∀ i : Int, f 0 [.int i] [] = .ok (.v (.bl true)) []
/-- the same, up to a depth -/
def SameOk (n : Nat) (f : Nat → List D → Store → Out R) : Prop := ∀ d : D, plain n d = true → f 0 [d, d] [] = .ok (.v (.bl true)) []
theorem same_loop (G : Glo) {js n b : Nat} (ih : SameOk n (G.fn js)) {x y : D} {s : Store} {ds : List D} {k l : Bool} (hx : seqOf s x = some (k, ds)) (hy : seqOf s y = some (l, ds)) (hnx : ∀ z, x ≠ .str z) (hny : ∀ z, y ≠ .str z) (hp : plains n ds = true) :
    ∀ (dr : List D) (i : Nat) (x2 : Option D), ds.drop i = dr → ∃ x2', forL (bodyF G b (.name 2) (sameB js)) (rngL (i : Nat) dr.length) [some x, some y, x2] s = .ok (.nx, [some x, some y, x2']) s
  | [], i, x2, _ => ⟨x2, rfl⟩
  | d :: dr, i, x2, hd => by
    have hi : ds[i]? = some d := by
      have h1 : ds[i]? = (ds.drop i)[0]? := by simp
      rw [h1, hd]
      rfl
    have hd2 : ds.drop (i + 1) = dr := by
      have : ds.drop (i + 1) = (ds.drop i).drop 1 := by rw [List.drop_drop]
      rw [this, hd]
      rfl
    obtain ⟨x2', e⟩ := same_loop G (b := b) ih hx hy hnx hny hp dr (i + 1) (some (.int (i : Nat))) hd2
    have pd := plains_iff.mp hp d (List.mem_of_getElem? hi)
    have cd := plain_cb n d pd
    have i1 : ixR G.gd x (.int (i : Nat)) s = some (.v d) := by
      unfold ixR
      split
      · rename_i z _ _
        exact absurd rfl (hnx z)
      · rw [hx]
        simp only
        rw [atI_nat (v := d) hi]
        rfl
    have i2 : ixR G.gd y (.int (i : Nat)) s = some (.v d) := by
      unfold ixR
      split
      · rename_i z _ _
        exact absurd rfl (hny z)
      · rw [hy]
        simp only
        rw [atI_nat (v := d) hi]
        rfl
    have c1 : callR (G.fn js) b [d, d] s = .ok (.v (.bl true)) s := callR_of (by simp [cbs, cd]) (ih d pd)
    refine ⟨x2', forL_cons ?_ e⟩
    unfold sameB
    (exists i1, i2, c1)
theorem len_seq {s : Store} {x : D} {k : Bool} {ds : List D} (h : seqOf s x = some (k, ds)) (hn : ∀ z, x ≠ .str z) : bltR .len [x] s = some (.v (.int (ds.length : Nat))) := by
  have : lenD s x = some ds.length := by
    unfold lenD
    split
    · rename_i z
      exact absurd rfl (hn z)
    · rw [h]
  simp only [bltR, this, Option.map_some]
/-- two sequences of one kind and content -/
theorem same_seq (G : Glo) {jw js n : Nat} (ih : SameOk n (G.fn js)) {x y : D} {s : Store} {ds : List D} {k : Bool} (hx : seqOf s x = some (k, ds)) (hy : seqOf s y = some (k, ds)) (tx : tyOf s x = some (if k then .tuple else .list)) (ty : tyOf s y = some (if k then .tuple else .list)) (hl : ds.length ≤ 100000) (hp : plains n ds = true) :
    runF G (cSame jw js) [x, y] s = .ok (.v (.bl true)) s := by
  have hnx : ∀ z, x ≠ .str z := fun z e => by subst e; simp [seqOf] at hx
  have hny : ∀ z, y ≠ .str z := fun z e => by subst e; simp [seqOf] at hy
  have nn : isNon y = false := by
    cases y <;> first | rfl | simp [seqOf] at hy
  obtain ⟨x2', e⟩ := same_loop G (b := s.length) ih hx hy hnx hny hp ds 0 none rfl
  have lx := len_seq hx hnx
  have ly := len_seq hy hny
  have c1 : cmpR G.gd .is_ y .non s = some (isNon y) := rfl
  rw [nn] at c1
  have hl2 : ds.length < 1000000000000000000 := by omega
  apply run_ret rfl
  · unfold cSame
    show xSs _ _ _ [some x, some y, none] _ = _
    cases k
    · simp only [Bool.false_eq_true, if_false] at tx ty
      (exists c1, tx, ty, lx, ly, dec1 rfl, congrArg (fun b => some (!b)) (decide_eq_true rfl), e)
    · simp only [if_true] at tx ty
      (exists c1, tx, ty, lx, ly, dec1 rfl, congrArg (fun b => some (!b)) (decide_eq_true rfl), e)
  · exact end_bl rfl
theorem same_int (G : Glo) {jw js : Nat} (hw : WholeOk (G.fn jw)) (i : Int) (s : Store) : runF G (cSame jw js) [.int i, .int i] s = .ok (.v (.bl true)) s := by
  have c1 : callR (G.fn jw) s.length [.int i] s = .ok (.v (.bl true)) s := callR_of rfl (hw i)
  apply run_ret rfl
  · unfold cSame
    show xSs _ _ _ [some (.int i), some (.int i), none] _ = _
    apply ss_nx
    · (exists rfl)
    apply ss_nx
    · (exists rfl)
    apply ss_ret
    apply s_if1
    · (exists rfl)
    apply ss_ret
    apply s_ret
    apply e_and1
    · (exists c1)
    · exact rfl
    · (exists rfl)
  · simp [endR, cb]
theorem same_bl (G : Glo) {jw js : Nat} (i : Bool) (s : Store) : runF G (cSame jw js) [.bl i, .bl i] s = .ok (.v (.bl true)) s := by
  apply run_ret rfl
  · unfold cSame
    show xSs _ _ _ [some (.bl i), some (.bl i), none] _ = _
    apply ss_nx
    · (exists rfl)
    apply ss_ret
    apply s_if1
    · (exists rfl)
    apply ss_ret
    apply s_ret
    apply e_and1
    · (exists rfl)
    · exact rfl
    · (exists eq_bl _ _)
  · simp [endR, cb]
theorem same_str (G : Glo) {jw js : Nat} (i : Str) (s : Store) : runF G (cSame jw js) [.str i, .str i] s = .ok (.v (.bl true)) s := by
  apply run_ret rfl
  · unfold cSame
    show xSs _ _ _ [some (.str i), some (.str i), none] _ = _
    apply ss_nx
    · (exists rfl)
    apply ss_nx
    · (exists rfl)
    apply ss_nx
    · (exists rfl)
    apply ss_ret
    apply s_if1
    · (exists rfl)
    apply ss_ret
    apply s_ret
    apply e_and1
    · (exists rfl)
    · exact rfl
    · (exists eq_strk (k := true) (by simp))
  · simp [endR, cb]
theorem same_non (G : Glo) {jw js : Nat} (s : Store) : runF G (cSame jw js) [.non, .non] s = .ok (.v (.bl true)) s := by
  apply run_ret rfl
  · unfold cSame
    show xSs _ _ _ [some .non, some .non, none] _ = _
    (exists rfl)
  · simp [endR, cb, isNon]
theorem same_succ (G : Glo) {jw js n : Nat} (hw : WholeOk (G.fn jw)) (ih : SameOk n (G.fn js)) : SameOk (n + 1) fun _ => runF G (cSame jw js) := fun d h => by
  cases d with
  | non => exact same_non G _
  | bl i => exact same_bl G i _
  | int i => exact same_int G hw i _
  | str i => exact same_str G i _
  | lst ds =>
    simp only [plain, Bool.and_eq_true, decide_eq_true_eq] at h
    exact same_seq G ih (k := false) rfl rfl rfl rfl h.1 h.2
  | tup ds =>
    simp only [plain, Bool.and_eq_true, decide_eq_true_eq] at h
    exact same_seq G ih (k := true) rfl rfl rfl rfl h.1 h.2
  | dk _ => simp [plain] at h
  | dt _ => simp [plain] at h
  | obj _ _ => simp [plain] at h
  | gd _ => simp [plain] at h
  | kt _ => simp [plain] at h
  | cell _ => simp [plain] at h
theorem same_zero (G : Glo) {jw js : Nat} (hw : WholeOk (G.fn jw)) : SameOk 0 fun _ => runF G (cSame jw js) := fun d h => by
  cases d with
  | non => exact same_non G _
  | bl i => exact same_bl G i _
  | int i => exact same_int G hw i _
  | str i => exact same_str G i _
  | lst ds => simp [plain] at h
  | tup ds => simp [plain] at h
  | dk _ => simp [plain] at h
  | dt _ => simp [plain] at h
  | obj _ _ => simp [plain] at h
  | gd _ => simp [plain] at h
  | kt _ => simp [plain] at h
  | cell _ => simp [plain] at h
end En

set_option linter.all false
namespace BN
def tn (a : Nat) : Nat := a ^^^ 1
theorem tn_div (a : Nat) : tn a / 2 = a / 2 := by
  unfold tn
  have := Nat.xor_div_two (a := a) (b := 1)
  simpa using this
theorem tn_mod (a : Nat) : tn a % 2 = 1 - a % 2 := by
  unfold tn
  have h := Nat.xor_mod_two_eq_one (a := a) (b := 1)
  have h1 : a % 2 = 0 ∨ a % 2 = 1 := by omega
  have h2 : (a ^^^ 1) % 2 = 0 ∨ (a ^^^ 1) % 2 = 1 := by omega
  rcases h1 with h1 | h1 <;> rcases h2 with h2 | h2 <;> simp_all
theorem tn_lt {a n : Nat} (h : a < 2 * n) : tn a < 2 * n := by
  have := tn_div a
  omega
theorem tn_eq (a : Nat) : tn a = if a % 2 = 0 then a + 1 else a - 1 := by
  have h1 := tn_div a
  have h2 := tn_mod a
  split <;> omega
/-- the literal of a and b, the ANDs behind it -/
def both (V : Nat) (ps : List (Nat × Nat)) (a b : Nat) : Nat × List (Nat × Nat) :=
  if min a b = 0 then (0, ps) else if min a b = 1 ∨ min a b = max a b then (max a b, ps) else if min a b / 2 = max a b / 2 then (0, ps)
  else match ps.findIdx? (fun p => decide (p = (min a b, max a b))) with
    | some i => (2 * (V + i), ps)
    | none => (2 * (V + ps.length), ps ++ [(min a b, max a b)])
def either (V : Nat) (ps : List (Nat × Nat)) (a b : Nat) : Nat × List (Nat × Nat) :=
  (tn (both V ps (tn a) (tn b)).1, (both V ps (tn a) (tn b)).2)
def differ (V : Nat) (ps : List (Nat × Nat)) (a b : Nat) : Nat × List (Nat × Nat) :=
  let x := both V ps a (tn b)
  let y := both V x.2 (tn a) b
  either V y.2 x.1 y.1
def choose (V : Nat) (ps : List (Nat × Nat)) (c a b : Nat) : Nat × List (Nat × Nat) :=
  let x := both V ps c a
  let y := both V x.2 (tn c) b
  either V y.2 x.1 y.1
def lv (vs : List Bool) (l : Nat) : Bool := (vs.getD (l / 2) false) ^^ decide (l % 2 = 1)
def grow (vs : List Bool) (p : Nat × Nat) : List Bool := vs ++ [lv vs p.1 && lv vs p.2]
def vals (base : List Bool) (ps : List (Nat × Nat)) : List Bool := ps.foldl grow base
theorem vals_snoc (base : List Bool) (ps : List (Nat × Nat)) (p : Nat × Nat) : vals base (ps ++ [p]) = vals base ps ++ [lv (vals base ps) p.1 && lv (vals base ps) p.2] := by
  simp [vals, grow]
theorem vals_len (base : List Bool) (ps : List (Nat × Nat)) : (vals base ps).length = base.length + ps.length := by
  induction ps generalizing base with
  | nil => rfl
  | cons p ps ih =>
    show (vals (grow base p) ps).length = _
    rw [ih]
    simp [grow]
    omega
theorem vals_app (base : List Bool) (ps qs : List (Nat × Nat)) : ∃ r, vals base (ps ++ qs) = vals base ps ++ r := by
  induction qs generalizing ps with
  | nil => exact ⟨[], by simp⟩
  | cons q qs ih =>
    obtain ⟨r, h⟩ := ih (ps ++ [q])
    rw [List.append_assoc] at h
    refine ⟨[lv (vals base ps) q.1 && lv (vals base ps) q.2] ++ r, ?_⟩
    have e : ps ++ q :: qs = ps ++ ([q] ++ qs) := rfl
    rw [e, h, vals_snoc, List.append_assoc]
theorem lv_app {vs r : List Bool} {l : Nat} (h : l < 2 * vs.length) : lv (vs ++ r) l = lv vs l := by
  unfold lv
  have h2 : l / 2 < vs.length := by omega
  simp only [List.getD_eq_getElem?_getD]
  rw [List.getElem?_append_left h2]
theorem lv_tn (vs : List Bool) (l : Nat) : lv vs (tn l) = !lv vs l := by
  unfold lv
  rw [tn_div, tn_mod]
  have h1 : l % 2 = 0 ∨ l % 2 = 1 := by omega
  rcases h1 with h1 | h1 <;> rw [h1] <;> cases vs.getD (l / 2) false <;> rfl
def WF (V : Nat) (ps : List (Nat × Nat)) : Prop := ∀ i p, ps[i]? = some p → p.1 < 2 * (V + i) ∧ p.2 < 2 * (V + i)
def Le (ps qs : List (Nat × Nat)) : Prop := ∃ r, qs = ps ++ r
theorem Le.refl (ps : List (Nat × Nat)) : Le ps ps := ⟨[], by simp⟩
theorem Le.trans {ps qs rs : List (Nat × Nat)} (h : Le ps qs) (k : Le qs rs) : Le ps rs := by
  obtain ⟨r, rfl⟩ := h
  obtain ⟨t, rfl⟩ := k
  exact ⟨r ++ t, by simp⟩
theorem Le.len {ps qs : List (Nat × Nat)} (h : Le ps qs) : ps.length ≤ qs.length := by
  obtain ⟨r, rfl⟩ := h
  simp
/-- the literal stands and has that value -/
def Val (V : Nat) (base : List Bool) (ps : List (Nat × Nat)) (l : Nat) (x : Bool) : Prop := l < 2 * (V + ps.length) ∧ lv (vals base ps) l = x
section
variable {V : Nat} {base : List Bool} {ps qs : List (Nat × Nat)}
theorem Val.le (hb : base.length = V) {l : Nat} {x : Bool} (h : Val V base ps l x) (k : Le ps qs) : Val V base qs l x := by
  refine ⟨by have := k.len; have := h.1; omega, ?_⟩
  obtain ⟨r, rfl⟩ := k
  obtain ⟨t, e⟩ := vals_app base ps r
  rw [e, lv_app (by rw [vals_len, hb]; exact h.1)]
  exact h.2
theorem Val.tn {l : Nat} {x : Bool} (h : Val V base ps l x) : Val V base ps (tn l) (!x) := ⟨tn_lt h.1, by rw [lv_tn, h.2]⟩
theorem Val.zero (hb : base.length = V) (hV : 0 < V) (h0 : base[0]? = some false) : Val V base ps 0 false := by
  refine Val.le (ps := []) hb ⟨by simpa using hV, ?_⟩ ⟨ps, by simp⟩
  simp [vals, lv, h0]
theorem Val.one (hb : base.length = V) (hV : 0 < V) (h0 : base[0]? = some false) : Val V base ps 1 true := (Val.zero hb hV h0).tn
theorem lv_node {vs : List Bool} {i : Nat} {x : Bool} (h : vs[i]? = some x) : lv vs (2 * i) = x := by
  unfold lv
  have e : 2 * i / 2 = i := by omega
  have e2 : ¬ 2 * i % 2 = 1 := by omega
  simp [e, e2, h]
theorem vals_at (hb : base.length = V) (hw : WF V ps) {i : Nat} {p : Nat × Nat} (h : ps[i]? = some p) : (vals base ps)[V + i]? = some (lv (vals base ps) p.1 && lv (vals base ps) p.2) := by
  obtain ⟨hi, e⟩ := List.getElem?_eq_some_iff.mp h
  have hs : ps = ps.take i ++ ([p] ++ ps.drop (i + 1)) := by
    rw [← e]
    simp
  obtain ⟨r, hr⟩ := vals_app base (ps.take i ++ [p]) (ps.drop (i + 1))
  rw [List.append_assoc, ← hs, vals_snoc, List.append_assoc] at hr
  have hl : (vals base (ps.take i)).length = V + i := by rw [vals_len, hb, List.length_take]; omega
  obtain ⟨w1, w2⟩ := hw i p h
  rw [hr, lv_app (by rw [hl]; exact w1), lv_app (by rw [hl]; exact w2)]
  rw [List.getElem?_append_right (by omega), hl]
  simp
theorem both_spec (hb : base.length = V) (hV : 0 < V) (h0 : base[0]? = some false) (hw : WF V ps) {a b : Nat} {x y : Bool} (ha : Val V base ps a x) (hb' : Val V base ps b y) :
    Le ps (both V ps a b).2 ∧ WF V (both V ps a b).2 ∧ Val V base (both V ps a b).2 (both V ps a b).1 (x && y) ∧ (both V ps a b).2.length ≤ ps.length + 1 := by
  have key : ∀ {l h : Nat} {u v : Bool}, l ≤ h → min a b = l → max a b = h → Val V base ps l u → Val V base ps h v → (x && y) = (u && v) →
      Le ps (both V ps a b).2 ∧ WF V (both V ps a b).2 ∧ Val V base (both V ps a b).2 (both V ps a b).1 (x && y) ∧ (both V ps a b).2.length ≤ ps.length + 1 := by
    intro l h u v hlh e1 e2 hl hh e
    unfold both
    rw [e1, e2, e]
    split
    · rename_i z
      subst z
      have : u = false := by
        have := Val.zero (ps := ps) hb hV h0
        exact hl.2.symm.trans this.2
      subst this
      exact ⟨.refl _, hw, by simpa using hl, by simp⟩
    · rename_i z0
      split
      · rename_i z
        have : (u && v) = v := by
          rcases z with z | z
          · subst z
            have := Val.one (ps := ps) hb hV h0
            have : u = true := hl.2.symm.trans this.2
            subst this
            rfl
          · subst z
            have : u = v := hl.2.symm.trans hh.2
            subst this
            cases u <;> rfl
        rw [this]
        exact ⟨.refl _, hw, hh, by simp⟩
      · rename_i z1
        split
        · rename_i z2
          have : (u && v) = false := by
            have hx : h = tn l := by
              rw [tn_eq]
              split <;> omega
            have h2 := hl.tn
            rw [← hx] at h2
            have : v = !u := hh.2.symm.trans h2.2
            subst this
            cases u <;> rfl
          rw [this]
          exact ⟨.refl _, hw, Val.zero hb hV h0, by simp⟩
        · split
          · rename_i i hi
            rw [List.findIdx?_eq_some_iff_getElem] at hi
            obtain ⟨hi, hp, _⟩ := hi
            have hp : ps[i] = (l, h) := by simpa using hp
            have hq : ps[i]? = some (l, h) := by rw [List.getElem?_eq_getElem hi, hp]
            have := vals_at hb hw hq
            refine ⟨.refl _, hw, ⟨by show 2 * (V + i) < 2 * (V + ps.length); omega, ?_⟩, by simp⟩
            show lv _ (2 * (V + i)) = _
            rw [lv_node this]
            show (lv _ l && lv _ h) = _
            rw [hl.2, hh.2]
          · have hle : Le ps (ps ++ [(l, h)]) := ⟨_, rfl⟩
            have hw2 : WF V (ps ++ [(l, h)]) := by
              intro i p hp
              by_cases hi : i < ps.length
              · rw [List.getElem?_append_left hi] at hp
                exact hw i p hp
              · rw [List.getElem?_append_right (by omega)] at hp
                have hi2 : i - ps.length = 0 := by
                  have := (List.getElem?_eq_some_iff.mp hp).1
                  simp at this
                  omega
                rw [hi2] at hp
                simp at hp
                subst hp
                have h1 := hl.1
                have h2 := hh.1
                show l < _ ∧ h < _
                omega
            have := vals_at hb hw2 (i := ps.length) (p := (l, h)) (by simp)
            refine ⟨hle, hw2, ⟨by show 2 * (V + ps.length) < 2 * (V + (ps ++ [(l, h)]).length); simp, ?_⟩, by simp⟩
            show lv _ (2 * (V + ps.length)) = _
            rw [lv_node this]
            show (lv _ l && lv _ h) = _
            rw [(hl.le hb hle).2, (hh.le hb hle).2]
  by_cases h : a ≤ b
  · exact key h (Nat.min_eq_left h) (Nat.max_eq_right h) ha hb' rfl
  · have h : b ≤ a := by omega
    exact key h (Nat.min_eq_right h) (Nat.max_eq_left h) hb' ha (Bool.and_comm _ _)
/-- what a step gives -/
def Stp (V : Nat) (base : List Bool) (ps : List (Nat × Nat)) (q : Nat × List (Nat × Nat)) (x : Bool) (n : Nat) : Prop := Le ps q.2 ∧ WF V q.2 ∧ Val V base q.2 q.1 x ∧ q.2.length ≤ ps.length + n
theorem either_spec (hb : base.length = V) (hV : 0 < V) (h0 : base[0]? = some false) (hw : WF V ps) {a b : Nat} {x y : Bool} (ha : Val V base ps a x) (hb' : Val V base ps b y) : Stp V base ps (either V ps a b) (x || y) 1 := by
  obtain ⟨h1, h2, h3, h4⟩ := both_spec hb hV h0 hw ha.tn hb'.tn
  refine ⟨h1, h2, ?_, h4⟩
  have := h3.tn
  rw [Bool.not_and, Bool.not_not, Bool.not_not] at this
  exact this
theorem differ_spec (hb : base.length = V) (hV : 0 < V) (h0 : base[0]? = some false) (hw : WF V ps) {a b : Nat} {x y : Bool} (ha : Val V base ps a x) (hb' : Val V base ps b y) : Stp V base ps (differ V ps a b) (x ^^ y) 3 := by
  obtain ⟨h1, h2, h3, h4⟩ := both_spec hb hV h0 hw ha hb'.tn
  obtain ⟨k1, k2, k3, k4⟩ := both_spec hb hV h0 h2 (ha.tn.le hb h1) (hb'.le hb h1)
  obtain ⟨m1, m2, m3, m4⟩ := either_spec hb hV h0 k2 (h3.le hb k1) k3
  refine ⟨(h1.trans k1).trans m1, m2, ?_, ?_⟩
  · have : (x ^^ y) = ((x && !y) || (!x && y)) := by cases x <;> cases y <;> rfl
    rw [this]
    exact m3
  · show (either V _ _ _).2.length ≤ _
    omega
theorem choose_spec (hb : base.length = V) (hV : 0 < V) (h0 : base[0]? = some false) (hw : WF V ps) {c a b : Nat} {z x y : Bool} (hc : Val V base ps c z) (ha : Val V base ps a x) (hb' : Val V base ps b y) : Stp V base ps (choose V ps c a b) (if z then x else y) 3 := by
  obtain ⟨h1, h2, h3, h4⟩ := both_spec hb hV h0 hw hc ha
  obtain ⟨k1, k2, k3, k4⟩ := both_spec hb hV h0 h2 (hc.tn.le hb h1) (hb'.le hb h1)
  obtain ⟨m1, m2, m3, m4⟩ := either_spec hb hV h0 k2 (h3.le hb k1) k3
  refine ⟨(h1.trans k1).trans m1, m2, ?_, ?_⟩
  · have : (if z then x else y) = ((z && x) || (!z && y)) := by cases x <;> cases y <;> cases z <;> rfl
    rw [this]
    exact m3
  · show (either V _ _ _).2.length ≤ _
    omega
end
theorem both_len (V : Nat) (ps : List (Nat × Nat)) (a b : Nat) : (both V ps a b).2.length ≤ ps.length + 1 := by
  unfold both
  repeat' split
  all_goals simp
theorem either_len (V : Nat) (ps : List (Nat × Nat)) (a b : Nat) : (either V ps a b).2.length ≤ ps.length + 1 := both_len _ _ _ _
theorem differ_len (V : Nat) (ps : List (Nat × Nat)) (a b : Nat) : (differ V ps a b).2.length ≤ ps.length + 3 := by
  have h1 := both_len V ps a (tn b)
  have h2 := both_len V (both V ps a (tn b)).2 (tn a) b
  have h3 := either_len V (both V (both V ps a (tn b)).2 (tn a) b).2 (both V ps a (tn b)).1 (both V (both V ps a (tn b)).2 (tn a) b).1
  show (either V _ _ _).2.length ≤ _
  omega
theorem choose_len (V : Nat) (ps : List (Nat × Nat)) (c a b : Nat) : (choose V ps c a b).2.length ≤ ps.length + 3 := by
  have h1 := both_len V ps c a
  have h2 := both_len V (both V ps c a).2 (tn c) b
  have h3 := either_len V (both V (both V ps c a).2 (tn c) b).2 (both V ps c a).1 (both V (both V ps c a).2 (tn c) b).1
  show (either V _ _ _).2.length ≤ _
  omega
def sum (V : Nat) : List (Nat × Nat) → List Nat → List Nat → Nat → List Nat × List (Nat × Nat)
  | ps, a :: as, b :: bs, c =>
    let x := differ V ps a b
    let s := differ V x.2 x.1 c
    let p := both V s.2 a b
    let q := both V p.2 x.1 c
    let k := either V q.2 p.1 q.1
    let r := sum V k.2 as bs k.1
    (s.1 :: r.1, r.2)
  | ps, _, _, _ => ([], ps)
def alike (V : Nat) : List (Nat × Nat) → List Nat → List Nat → Nat → Nat × List (Nat × Nat)
  | ps, a :: as, b :: bs, c =>
    let x := differ V ps a b
    let q := both V x.2 c (tn x.1)
    alike V q.2 as bs q.1
  | ps, _, _, c => (c, ps)
def lower (V : Nat) : List (Nat × Nat) → List Nat → List Nat → Nat → Nat × List (Nat × Nat)
  | ps, a :: as, b :: bs, c =>
    let x := differ V ps a b
    let q := choose V x.2 x.1 b c
    lower V q.2 as bs q.1
  | ps, _, _, c => (c, ps)
def fold (f : List (Nat × Nat) → Nat → Nat → Nat × List (Nat × Nat)) : List (Nat × Nat) → List Nat → Nat → Nat × List (Nat × Nat)
  | ps, a :: as, c => let q := f ps c a; fold f q.2 as q.1
  | ps, [], c => (c, ps)
def Vals (V : Nat) (base : List Bool) (ps : List (Nat × Nat)) : List Nat → List Bool → Prop
  | [], [] => True
  | l :: ls, x :: xs => Val V base ps l x ∧ Vals V base ps ls xs
  | _, _ => False
/-- the number of a word's bits -/
def wv : List Bool → Nat
  | [] => 0
  | x :: xs => x.toNat + 2 * wv xs
def addB : List Bool → List Bool → Bool → List Bool
  | x :: xs, y :: ys, c => ((x ^^ y) ^^ c) :: addB xs ys ((x && y) || ((x ^^ y) && c))
  | _, _, _ => []
theorem wv_lt (xs : List Bool) : wv xs < 2 ^ xs.length := by
  induction xs with
  | nil => decide
  | cons x xs ih =>
    simp only [wv, List.length_cons, Nat.pow_succ]
    cases x <;> simp <;> omega
theorem addB_wv : ∀ (xs ys : List Bool) (c : Bool), xs.length = ys.length → wv (addB xs ys c) = (wv xs + wv ys + c.toNat) % 2 ^ xs.length
  | [], [], c, _ => by simp [addB, wv, Nat.mod_one]
  | x :: xs, y :: ys, c, h => by
    have ih := addB_wv xs ys ((x && y) || ((x ^^ y) && c)) (by simpa using h)
    simp only [addB, wv, List.length_cons, Nat.pow_succ, ih]
    rw [Nat.mul_comm (2 ^ xs.length) 2]
    generalize wv xs = p
    generalize wv ys = q
    generalize 2 ^ xs.length = m
    have e : ∀ (t u : Nat), u < 2 → (u + 2 * t) % (2 * m) = u + 2 * (t % m) := by
      intro t u hu
      rw [Nat.mod_mul]
      have h1 : (u + 2 * t) % 2 = u := by omega
      have h2 : (u + 2 * t) / 2 = t := by omega
      rw [h1, h2]
    have e2 : x.toNat + 2 * p + (y.toNat + 2 * q) + c.toNat = ((x ^^ y) ^^ c).toNat + 2 * (p + q + ((x && y) || ((x ^^ y) && c)).toNat) := by
      cases x <;> cases y <;> cases c <;> simp <;> omega
    rw [e2, e _ _ (by cases x <;> cases y <;> cases c <;> decide)]
theorem wv_not (xs : List Bool) : wv (xs.map (!·)) + wv xs + 1 = 2 ^ xs.length := by
  induction xs with
  | nil => rfl
  | cons x xs ih =>
    simp only [List.map_cons, wv, List.length_cons, Nat.pow_succ]
    cases x <;> simp <;> omega
def alikeB : List Bool → List Bool → Bool → Bool
  | x :: xs, y :: ys, c => alikeB xs ys (c && !(x ^^ y))
  | _, _, c => c
def lowerB : List Bool → List Bool → Bool → Bool
  | x :: xs, y :: ys, c => lowerB xs ys (if x ^^ y then y else c)
  | _, _, c => c
theorem alikeB_wv : ∀ (xs ys : List Bool) (c : Bool), xs.length = ys.length → alikeB xs ys c = (c && decide (wv xs = wv ys))
  | [], [], c, _ => by simp [alikeB, wv]
  | x :: xs, y :: ys, c, h => by
    simp only [alikeB]
    rw [alikeB_wv xs ys _ (by simpa using h), Bool.eq_iff_iff]
    simp only [Bool.and_eq_true, decide_eq_true_eq]
    simp only [wv]
    generalize wv xs = p
    generalize wv ys = q
    cases x <;> cases y <;> cases c <;> simp <;> omega
theorem lowerB_wv : ∀ (xs ys : List Bool) (c : Bool), xs.length = ys.length → lowerB xs ys c = decide (wv xs < wv ys ∨ wv xs = wv ys ∧ c = true)
  | [], [], c, _ => by simp [lowerB, wv]
  | x :: xs, y :: ys, c, h => by
    simp only [lowerB]
    rw [lowerB_wv xs ys _ (by simpa using h), Bool.eq_iff_iff]
    simp only [decide_eq_true_eq]
    simp only [wv]
    generalize wv xs = p
    generalize wv ys = q
    cases x <;> cases y <;> cases c <;> simp <;> omega
section
variable {V : Nat} {base : List Bool} {ps qs : List (Nat × Nat)}
theorem Vals.len : ∀ {ls : List Nat} {xs : List Bool}, Vals V base ps ls xs → ls.length = xs.length
  | [], [], _ => rfl
  | l :: ls, x :: xs, h => by simp [Vals.len h.2]
  | [], _ :: _, h => h.elim
  | _ :: _, [], h => h.elim
theorem Vals.le (hb : base.length = V) (k : Le ps qs) : ∀ {ls : List Nat} {xs : List Bool}, Vals V base ps ls xs → Vals V base qs ls xs
  | [], [], _ => trivial
  | l :: ls, x :: xs, h => ⟨h.1.le hb k, h.2.le hb k⟩
  | [], _ :: _, h => h.elim
  | _ :: _, [], h => h.elim
theorem Vals.tn : ∀ {ls : List Nat} {xs : List Bool}, Vals V base ps ls xs → Vals V base ps (ls.map tn) (xs.map (!·))
  | [], [], _ => trivial
  | l :: ls, x :: xs, h => ⟨h.1.tn, h.2.tn⟩
  | [], _ :: _, h => h.elim
  | _ :: _, [], h => h.elim
theorem vals_of (h : ∀ l ∈ ls, l < 2 * (V + ps.length)) : Vals V base ps ls (ls.map (lv (vals base ps))) := by
  induction ls with
  | nil => trivial
  | cons l ls ih => exact ⟨⟨h l (by simp), rfl⟩, ih fun a m => h a (List.mem_cons_of_mem _ m)⟩
theorem Vals.eq : ∀ {ls : List Nat} {xs : List Bool}, Vals V base ps ls xs → ls.map (lv (vals base ps)) = xs
  | [], [], _ => rfl
  | l :: ls, x :: xs, h => by rw [List.map_cons, h.1.2, Vals.eq h.2]
  | [], _ :: _, h => h.elim
  | _ :: _, [], h => h.elim
theorem Vals.lt : ∀ {ls : List Nat} {xs : List Bool}, Vals V base ps ls xs → ∀ l ∈ ls, l < 2 * (V + ps.length)
  | [], [], _ => by simp
  | l :: ls, x :: xs, h => fun a m => by
    rcases List.mem_cons.mp m with rfl | m
    · exact h.1.1
    · exact h.2.lt a m
  | [], _ :: _, h => h.elim
  | _ :: _, [], h => h.elim
theorem sum_spec (hb : base.length = V) (hV : 0 < V) (h0 : base[0]? = some false) : ∀ {as bs : List Nat} {xs ys : List Bool} {c : Nat} {z : Bool} {ps : List (Nat × Nat)}, WF V ps → Vals V base ps as xs → Vals V base ps bs ys → Val V base ps c z →
    Le ps (sum V ps as bs c).2 ∧ WF V (sum V ps as bs c).2 ∧ Vals V base (sum V ps as bs c).2 (sum V ps as bs c).1 (addB xs ys z) ∧ (sum V ps as bs c).2.length ≤ ps.length + 9 * as.length
  | a :: as, b :: bs, x :: xs, y :: ys, c, z, ps, hw, ha, hb', hc => by
    obtain ⟨d1, d2, d3, d4⟩ := differ_spec hb hV h0 hw ha.1 hb'.1
    obtain ⟨e1, e2, e3, e4⟩ := differ_spec hb hV h0 d2 d3 (hc.le hb d1)
    have de := d1.trans e1
    obtain ⟨f1, f2, f3, f4⟩ := both_spec hb hV h0 e2 (ha.1.le hb de) (hb'.1.le hb de)
    obtain ⟨g1, g2, g3, g4⟩ := both_spec hb hV h0 f2 (d3.le hb (e1.trans f1)) (hc.le hb (de.trans f1))
    obtain ⟨k1, k2, k3, k4⟩ := either_spec hb hV h0 g2 (f3.le hb g1) g3
    have all := (de.trans f1).trans (g1.trans k1)
    obtain ⟨m1, m2, m3, m4⟩ := sum_spec hb hV h0 k2 (ha.2.le hb all) (hb'.2.le hb all) k3
    refine ⟨all.trans m1, m2, ⟨e3.le hb ((f1.trans g1).trans (k1.trans m1)), m3⟩, ?_⟩
    show (sum V _ as bs _).2.length ≤ _
    simp only [List.length_cons]
    omega
  | [], _, [], _, c, z, ps, hw, _, _, _ => ⟨.refl _, hw, by cases ‹List Bool› <;> trivial, by simp [sum]⟩
  | a :: as, [], x :: xs, [], c, z, ps, hw, ha, _, _ => ⟨.refl _, hw, trivial, by simp [sum]⟩
  | [], _, _ :: _, _, _, _, _, _, ha, _, _ => ha.elim
  | _ :: _, _, [], _, _, _, _, _, ha, _, _ => ha.elim
  | _ :: _, [], _ :: _, _ :: _, _, _, _, _, _, hb, _ => hb.elim
  | _ :: _, _ :: _, _ :: _, [], _, _, _, _, _, hb, _ => hb.elim
theorem alike_spec (hb : base.length = V) (hV : 0 < V) (h0 : base[0]? = some false) : ∀ {as bs : List Nat} {xs ys : List Bool} {c : Nat} {z : Bool} {ps : List (Nat × Nat)}, WF V ps → Vals V base ps as xs → Vals V base ps bs ys → Val V base ps c z →
    Stp V base ps (alike V ps as bs c) (alikeB xs ys z) (4 * as.length)
  | a :: as, b :: bs, x :: xs, y :: ys, c, z, ps, hw, ha, hb', hc => by
    obtain ⟨d1, d2, d3, d4⟩ := differ_spec hb hV h0 hw ha.1 hb'.1
    obtain ⟨f1, f2, f3, f4⟩ := both_spec hb hV h0 d2 (hc.le hb d1) d3.tn
    have all := d1.trans f1
    obtain ⟨m1, m2, m3, m4⟩ := alike_spec hb hV h0 f2 (ha.2.le hb all) (hb'.2.le hb all) f3
    refine ⟨all.trans m1, m2, m3, ?_⟩
    show (alike V _ as bs _).2.length ≤ _
    simp only [List.length_cons]
    omega
  | [], _, [], _, c, z, ps, hw, _, _, hc => ⟨.refl _, hw, by cases ‹List Bool› <;> exact hc, by simp [alike]⟩
  | a :: as, [], x :: xs, [], c, z, ps, hw, ha, _, hc => ⟨.refl _, hw, hc, by simp [alike]⟩
  | [], _, _ :: _, _, _, _, _, _, ha, _, _ => ha.elim
  | _ :: _, _, [], _, _, _, _, _, ha, _, _ => ha.elim
  | _ :: _, [], _ :: _, _ :: _, _, _, _, _, _, hb, _ => hb.elim
  | _ :: _, _ :: _, _ :: _, [], _, _, _, _, _, hb, _ => hb.elim
theorem lower_spec (hb : base.length = V) (hV : 0 < V) (h0 : base[0]? = some false) : ∀ {as bs : List Nat} {xs ys : List Bool} {c : Nat} {z : Bool} {ps : List (Nat × Nat)}, WF V ps → Vals V base ps as xs → Vals V base ps bs ys → Val V base ps c z →
    Stp V base ps (lower V ps as bs c) (lowerB xs ys z) (6 * as.length)
  | a :: as, b :: bs, x :: xs, y :: ys, c, z, ps, hw, ha, hb', hc => by
    obtain ⟨d1, d2, d3, d4⟩ := differ_spec hb hV h0 hw ha.1 hb'.1
    obtain ⟨f1, f2, f3, f4⟩ := choose_spec hb hV h0 d2 d3 (hb'.1.le hb d1) (hc.le hb d1)
    have all := d1.trans f1
    obtain ⟨m1, m2, m3, m4⟩ := lower_spec hb hV h0 f2 (ha.2.le hb all) (hb'.2.le hb all) f3
    refine ⟨all.trans m1, m2, m3, ?_⟩
    show (lower V _ as bs _).2.length ≤ _
    simp only [List.length_cons]
    omega
  | [], _, [], _, c, z, ps, hw, _, _, hc => ⟨.refl _, hw, by cases ‹List Bool› <;> exact hc, by simp [lower]⟩
  | a :: as, [], x :: xs, [], c, z, ps, hw, ha, _, hc => ⟨.refl _, hw, hc, by simp [lower]⟩
  | [], _, _ :: _, _, _, _, _, _, ha, _, _ => ha.elim
  | _ :: _, _, [], _, _, _, _, _, ha, _, _ => ha.elim
  | _ :: _, [], _ :: _, _ :: _, _, _, _, _, _, hb, _ => hb.elim
  | _ :: _, _ :: _, _ :: _, [], _, _, _, _, _, hb, _ => hb.elim
theorem fold_spec {f : List (Nat × Nat) → Nat → Nat → Nat × List (Nat × Nat)} {g : Bool → Bool → Bool} {n : Nat} (hb : base.length = V)
    (hf : ∀ {ps c a z x}, WF V ps → Val V base ps c z → Val V base ps a x → Stp V base ps (f ps c a) (g z x) n) : ∀ {as : List Nat} {xs : List Bool} {c : Nat} {z : Bool} {ps : List (Nat × Nat)}, WF V ps → Vals V base ps as xs → Val V base ps c z →
    Stp V base ps (fold f ps as c) (xs.foldl g z) (n * as.length)
  | a :: as, x :: xs, c, z, ps, hw, ha, hc => by
    obtain ⟨d1, d2, d3, d4⟩ := hf hw hc ha.1
    obtain ⟨m1, m2, m3, m4⟩ := fold_spec hb hf d2 (ha.2.le hb d1) d3
    refine ⟨d1.trans m1, m2, m3, ?_⟩
    show (fold f _ as _).2.length ≤ _
    simp only [List.length_cons, Nat.mul_add]
    omega
  | [], [], c, z, ps, hw, _, hc => ⟨.refl _, hw, hc, by simp [fold]⟩
  | [], _ :: _, _, _, _, _, ha, _ => ha.elim
  | _ :: _, [], _, _, _, _, ha, _ => ha.elim
end
theorem any_wv : ∀ (xs : List Bool) (z : Bool), xs.foldl (· || ·) z = (z || decide (0 < wv xs))
  | [], z => by simp [wv]
  | x :: xs, z => by
    simp only [List.foldl_cons, any_wv xs]
    rw [Bool.eq_iff_iff]
    simp only [Bool.or_eq_true, decide_eq_true_eq]
    simp only [wv]
    generalize wv xs = p
    cases z <;> cases x <;> simp <;> omega
theorem all_wv : ∀ (xs : List Bool) (z : Bool), xs.foldl (· && ·) z = (z && decide (wv xs + 1 = 2 ^ xs.length))
  | [], z => by simp [wv]
  | x :: xs, z => by
    have := wv_lt xs
    simp only [List.foldl_cons, all_wv xs]
    rw [Bool.eq_iff_iff]
    simp only [Bool.and_eq_true, decide_eq_true_eq]
    simp only [wv, List.length_cons, Nat.pow_succ]
    revert this
    generalize wv xs = p
    generalize 2 ^ xs.length = m
    intro this
    cases z <;> cases x <;> simp <;> omega
def cnt : List Bool → Nat
  | [] => 0
  | x :: xs => x.toNat + cnt xs
theorem odd_cnt : ∀ (xs : List Bool) (z : Bool), xs.foldl (fun z x => z ^^ x) z = (z ^^ decide (cnt xs % 2 = 1))
  | [], z => by simp [cnt]
  | x :: xs, z => by
    simp only [List.foldl_cons, odd_cnt xs]
    have e : decide (cnt (x :: xs) % 2 = 1) = (x ^^ decide (cnt xs % 2 = 1)) := by
      rw [Bool.eq_iff_iff]
      simp only [decide_eq_true_eq]
      simp only [cnt]
      cases x <;> simp <;> omega
    rw [e]
    cases z <;> cases x <;> simp
theorem wv_bit : ∀ (xs : List Bool) (k : Nat) (h : k < xs.length), wv xs / 2 ^ k % 2 = xs[k].toNat
  | x :: xs, 0, _ => by cases x <;> simp [wv] <;> omega
  | x :: xs, k + 1, h => by
    have ih := wv_bit xs k (by simpa using h)
    have e : (x.toNat + 2 * wv xs) / 2 ^ (k + 1) = wv xs / 2 ^ k := by
      rw [Nat.pow_succ, Nat.mul_comm (2 ^ k), ← Nat.div_div_eq_div_mul]
      have : (x.toNat + 2 * wv xs) / 2 = wv xs := by cases x <;> simp <;> omega
      rw [this]
    simp only [wv, List.getElem_cons_succ, e, ih]
end BN

set_option linter.all false
namespace BN
def colN : Nat → (Nat → Bool) → Nat
  | 0, _ => 0
  | n + 1, w => 2 ^ n * (w n).toNat + colN n w
theorem colN_lt (n : Nat) (w : Nat → Bool) : colN n w < 2 ^ n := by
  induction n with
  | zero => simp [colN]
  | succ n ih =>
    simp only [colN, Nat.pow_succ]
    cases w n <;> simp <;> omega
theorem colN_bit (n : Nat) (w : Nat → Bool) (v : Nat) : (colN n w).testBit v = (decide (v < n) && w v) := by
  induction n with
  | zero => simp [colN]
  | succ n ih =>
    rw [colN, Nat.testBit_two_pow_mul_add _ (colN_lt n w)]
    by_cases h : v < n
    · have h2 : v < n + 1 := by omega
      simp [h, h2, ih]
    · by_cases h3 : v = n
      · subst h3
        cases hw : w v <;> simp
      · have h2 : ¬ v < n + 1 := by omega
        simp only [h, h2, if_false, decide_false, Bool.false_and]
        have h4 : v - n ≠ 0 := by omega
        cases w n
        · simp
        · obtain ⟨k, hk⟩ := Nat.exists_eq_succ_of_ne_zero h4
          rw [hk, Nat.testBit_succ]
          simp
theorem colN_eq {n : Nat} {w u : Nat → Bool} (h : ∀ v, v < n → w v = u v) : colN n w = colN n u := by
  apply Nat.eq_of_testBit_eq
  intro v
  rw [colN_bit, colN_bit]
  by_cases hv : v < n
  · rw [h v hv]
  · simp [hv]
theorem colN_xor (n : Nat) (w u : Nat → Bool) : colN n w ^^^ colN n u = colN n fun v => w v ^^ u v := by
  apply Nat.eq_of_testBit_eq
  intro v
  rw [Nat.testBit_xor, colN_bit, colN_bit, colN_bit]
  by_cases hv : v < n <;> simp [hv]
theorem colN_and (n : Nat) (w u : Nat → Bool) : colN n w &&& colN n u = colN n fun v => w v && u v := by
  apply Nat.eq_of_testBit_eq
  intro v
  rw [Nat.testBit_and, colN_bit, colN_bit, colN_bit]
  by_cases hv : v < n <;> simp [hv]
theorem colN_true (n : Nat) : colN n (fun _ => true) = 2 ^ n - 1 := by
  induction n with
  | zero => rfl
  | succ n ih =>
    have := Nat.two_pow_pos n
    simp only [colN, Nat.pow_succ, ih, Bool.toNat_true]
    omega
theorem colN_false (n : Nat) : colN n (fun _ => false) = 0 := by
  induction n with
  | zero => rfl
  | succ n ih => simp [colN, ih]
theorem colN_mul (n : Nat) (x : Bool) : (2 ^ n - 1) * x.toNat = colN n fun _ => x := by
  cases x
  · simp [colN_false]
  · simp [colN_true]
theorem colN_at {n v : Nat} (w : Nat → Bool) (h : v < n) : colN n w / 2 ^ v % 2 = (w v).toNat := by
  have := colN_bit n w v
  rw [Nat.testBit_eq_decide_div_mod_eq] at this
  have h2 : colN n w / 2 ^ v % 2 = 0 ∨ colN n w / 2 ^ v % 2 = 1 := by omega
  rcases h2 with h2 | h2
  · rw [h2] at this ⊢
    simp [h] at this
    simp [this]
  · rw [h2] at this ⊢
    simp [h] at this
    simp [this]
/-- the sum over a list of summands -/
theorem colN_sum (n : Nat) (w : Nat → Bool) : ((List.range n).map fun v => (w v).toNat * 2 ^ v).sum = colN n w := by
  induction n with
  | zero => rfl
  | succ n ih =>
    rw [List.range_succ, List.map_append, List.sum_append, ih]
    simp [colN, Nat.mul_comm, Nat.add_comm]
/-- the values of the inputs and latches at a valuation -/
def baseN (bits v : Nat) : List Bool := false :: (List.range bits).map fun k => decide (v / 2 ^ k % 2 = 1)
theorem baseN_len (bits v : Nat) : (baseN bits v).length = 1 + bits := by
  simp only [baseN, List.length_cons, List.length_map, List.length_range]
  omega
/-- all columns -/
def cols (bits : Nat) (ps : List (Nat × Nat)) : List Nat := (List.range (1 + bits + ps.length)).map fun i => colN (2 ^ bits) fun v => (vals (baseN bits v) ps).getD i false
theorem cols_len (bits : Nat) (ps : List (Nat × Nat)) : (cols bits ps).length = 1 + bits + ps.length := by simp [cols]
theorem cols_at {bits : Nat} {ps : List (Nat × Nat)} {i : Nat} (h : i < 1 + bits + ps.length) : (cols bits ps)[i]? = some (colN (2 ^ bits) fun v => (vals (baseN bits v) ps).getD i false) := by
  simp [cols, h]
theorem cols_snoc (bits : Nat) (ps : List (Nat × Nat)) (p : Nat × Nat) : cols bits (ps ++ [p]) = cols bits ps ++ [colN (2 ^ bits) fun v => lv (vals (baseN bits v) ps) p.1 && lv (vals (baseN bits v) ps) p.2] := by
  apply List.ext_getElem?
  intro i
  by_cases h : i < 1 + bits + ps.length
  · rw [cols_at (by simp; omega), List.getElem?_append_left (by rw [cols_len]; exact h), cols_at h]
    congr 1
    apply colN_eq
    intro v _
    rw [vals_snoc]
    simp only [List.getD_eq_getElem?_getD]
    rw [List.getElem?_append_left (by rw [vals_len, baseN_len]; exact h)]
  · by_cases h2 : i = 1 + bits + ps.length
    · subst h2
      rw [cols_at (by simp), List.getElem?_append_right (by rw [cols_len]; exact Nat.le_refl _)]
      simp only [cols_len, Nat.sub_self, List.getElem?_cons_zero]
      congr 1
      apply colN_eq
      intro v _
      rw [vals_snoc]
      simp only [List.getD_eq_getElem?_getD]
      rw [List.getElem?_append_right (by rw [vals_len, baseN_len]; exact Nat.le_refl _)]
      simp [vals_len, baseN_len]
    · rw [List.getElem?_eq_none (by rw [cols_len, List.length_append, List.length_singleton]; omega), List.getElem?_eq_none (by simp only [List.length_append, cols_len, List.length_singleton]; omega)]
theorem wv_snoc (xs : List Bool) (x : Bool) : wv (xs ++ [x]) = wv xs + x.toNat * 2 ^ xs.length := by
  induction xs with
  | nil => simp [wv]
  | cons y ys ih =>
    simp only [List.cons_append, wv, ih, List.length_cons, Nat.pow_succ]
    rw [← Nat.mul_assoc]
    generalize x.toNat * 2 ^ ys.length = z
    omega
/-- a literal's column -/
theorem lit_col (n : Nat) (w : Nat → Bool) (l : Nat) : colN n w ^^^ ((2 ^ n - 1) * (l % 2)) = colN n fun v => w v ^^ decide (l % 2 = 1) := by
  have : l % 2 = (decide (l % 2 = 1)).toNat := by
    have h : l % 2 = 0 ∨ l % 2 = 1 := by omega
    rcases h with h | h <;> rw [h] <;> rfl
  rw [this, colN_mul, colN_xor]
  simp
theorem cnt_sum (xs : List Bool) : ((List.range xs.length).map fun k => wv xs / 2 ^ k % 2).sum = cnt xs := by
  have h : ((List.range xs.length).map fun k => wv xs / 2 ^ k % 2) = xs.map (·.toNat) := by
    apply List.ext_getElem?
    intro i
    by_cases hi : i < xs.length
    · simp [hi, wv_bit xs i hi]
    · simp [hi]
  rw [h]
  clear h
  induction xs with
  | nil => rfl
  | cons x xs ih => simp [cnt, ih]
end BN

set_option Elab.async false
set_option linter.all false
set_option maxRecDepth 100000
set_option maxHeartbeats 4000000
namespace K13
open PySem PySem.Spec PyProof.Rows L2 En
def topS (i : Nat) : Stmt := PySem.Challenge.pw_chipmill_k13_words_of_bits.main.body.getD i (.Pass ⟨0, 0, 0, 0⟩)
def i_turned : DI := { x := "turned", q := "turned", st := topS 1, N := ["literal"], d := { slots := 1, params := 1, body :=
    (.cons (.ret (.op .bxor (.var 0) (.int 1)))
    .nil) } }
def i_summed : DI := { x := "summed", q := "summed", st := topS 4, N := ["builder", "a", "b", "carry", "word", "one", "other", "x", "p", "q"], d := { slots := 10, params := 4, body :=
    (.cons (.asg (.name 4) (.mu (.lst .nil)))
    (.cons (.for_ (.tup (.cons (.name 5) (.cons (.name 6) .nil))) (.zip (.var 1) (.var 2)) (.cons (.asg (.name 7) (.mcall "differ" (.var 0) (.cons (.var 5) (.cons (.var 6) .nil))))
    (.cons (.expr (.mt .append (.var 4) (.cons (.mcall "differ" (.var 0) (.cons (.var 7) (.cons (.var 3) .nil))) .nil)))
    (.cons (.asg (.name 8) (.mcall "both" (.var 0) (.cons (.var 5) (.cons (.var 6) .nil))))
    (.cons (.asg (.name 9) (.mcall "both" (.var 0) (.cons (.var 7) (.cons (.var 3) .nil))))
    (.cons (.asg (.name 3) (.mcall "either" (.var 0) (.cons (.var 8) (.cons (.var 9) .nil))))
    .nil))))))
    (.cons (.retF (.var 4))
    .nil))) } }
def i_add_words : DI := { x := "add_words", q := "add_words", st := topS 5, N := ["builder", "a", "b"], d := { slots := 3, params := 3, body :=
    (.cons (.ret (.call 1 (.cons (.var 0) (.cons (.var 1) (.cons (.var 2) (.cons (.int 0) .nil))))))
    .nil) } }
def i_subtract_words : DI := { x := "subtract_words", q := "subtract_words", st := topS 6, N := ["builder", "a", "b", "literal"], d := { slots := 4, params := 3, body :=
    (.cons (.ret (.call 1 (.cons (.var 0) (.cons (.var 1) (.cons (.lc [("literal", 3)] (.name 3) (.seq (.var 2)) .yes (.call 0 (.cons (.var 3) .nil))) (.cons (.int 1) .nil))))))
    .nil) } }
def i_equal_words : DI := { x := "equal_words", q := "equal_words", st := topS 7, N := ["builder", "a", "b", "result", "one", "other"], d := { slots := 6, params := 3, body :=
    (.cons (.asg (.name 3) (.int 1))
    (.cons (.for_ (.tup (.cons (.name 4) (.cons (.name 5) .nil))) (.zip (.var 1) (.var 2)) (.cons (.asg (.name 3) (.mcall "both" (.var 0) (.cons (.var 3) (.cons (.call 0 (.cons (.mcall "differ" (.var 0) (.cons (.var 4) (.cons (.var 5) .nil))) .nil)) .nil))))
    .nil))
    (.cons (.ret (.var 3))
    .nil))) } }
def i_less_words : DI := { x := "less_words", q := "less_words", st := topS 8, N := ["builder", "a", "b", "result", "one", "other"], d := { slots := 6, params := 3, body :=
    (.cons (.asg (.name 3) (.int 0))
    (.cons (.for_ (.tup (.cons (.name 4) (.cons (.name 5) .nil))) (.zip (.var 1) (.var 2)) (.cons (.asg (.name 3) (.mcall "choose" (.var 0) (.cons (.mcall "differ" (.var 0) (.cons (.var 4) (.cons (.var 5) .nil))) (.cons (.var 5) (.cons (.var 3) .nil)))))
    .nil))
    (.cons (.ret (.var 3))
    .nil))) } }
def i_any_bit : DI := { x := "any_bit", q := "any_bit", st := topS 9, N := ["builder", "a", "result", "literal"], d := { slots := 4, params := 2, body :=
    (.cons (.asg (.name 2) (.int 0))
    (.cons (.for_ (.name 3) (.seq (.var 1)) (.cons (.asg (.name 2) (.mcall "either" (.var 0) (.cons (.var 2) (.cons (.var 3) .nil))))
    .nil))
    (.cons (.ret (.var 2))
    .nil))) } }
def i_all_bits : DI := { x := "all_bits", q := "all_bits", st := topS 10, N := ["builder", "a", "result", "literal"], d := { slots := 4, params := 2, body :=
    (.cons (.asg (.name 2) (.int 1))
    (.cons (.for_ (.name 3) (.seq (.var 1)) (.cons (.asg (.name 2) (.mcall "both" (.var 0) (.cons (.var 2) (.cons (.var 3) .nil))))
    .nil))
    (.cons (.ret (.var 2))
    .nil))) } }
def i_odd_bits : DI := { x := "odd_bits", q := "odd_bits", st := topS 11, N := ["builder", "a", "result", "literal"], d := { slots := 4, params := 2, body :=
    (.cons (.asg (.name 2) (.int 0))
    (.cons (.for_ (.name 3) (.seq (.var 1)) (.cons (.asg (.name 2) (.mcall "differ" (.var 0) (.cons (.var 2) (.cons (.var 3) .nil))))
    .nil))
    (.cons (.ret (.var 2))
    .nil))) } }
def i_law_pool : DI := { x := "_law_pool", q := "_law_pool", st := topS 13, N := ["script", "place", "cell", "rest"], d := { slots := 4, params := 2, body :=
    (.cons (.asg (.name 2) (.int 0))
    (.cons (.ifs (.e (.cmp .lt (.var 1) (.blt .len (.cons (.var 0) .nil)))) (.cons (.asg (.name 2) (.blt .abs (.cons (.blt .int1 (.cons (.ix (.var 0) (.var 1)) .nil)) .nil)))
    .nil) .nil)
    (.cons (.asg (.name 3) (.int 0))
    (.cons (.ifs (.e (.cmp .ge (.var 2) (.op .pow (.int 10) (.int 18)))) (.cons (.asg (.name 3) (.var 2))
    .nil) .nil)
    (.cons (.ret (.lst (.cons (.var 2) (.cons (.var 3) (.cons (.int 0) .nil)))))
    .nil))))) } }
def i_law_draw : DI := { x := "_law_draw", q := "_law_draw", st := topS 14, N := ["pool", "many", "got", "one"], d := { slots := 4, params := 2, body :=
    (.cons (.ifs (.e (.cmp .gt (.ix (.var 0) (.int 1)) (.int 1))) (.cons (.asg (.name 2) (.op .mod (.blt .int1 (.cons (.ix (.var 0) (.int 1)) .nil)) (.var 1)))
    (.cons (.asg (.sub (.var 0) (.int 1)) (.op .fdiv (.ix (.var 0) (.int 1)) (.var 1)))
    (.cons (.ret (.var 2))
    .nil))) .nil)
    (.cons (.asg (.sub (.var 0) (.int 2)) (.op .add (.ix (.var 0) (.int 2)) (.int 1)))
    (.cons (.asg (.name 3) (.op .mod (.blt .int1 (.cons (.op .add (.op .mod (.blt .int1 (.cons (.ix (.var 0) (.int 0)) .nil)) (.int 2147483647)) (.op .mul (.int 69621) (.ix (.var 0) (.int 2)))) .nil)) (.int 2147483647)))
    (.cons (.asg (.name 3) (.op .mod (.blt .int1 (.cons (.op .add (.op .add (.op .mul (.var 3) (.var 3)) (.op .mul (.int 48271) (.ix (.var 0) (.int 2)))) (.int 11)) .nil)) (.int 2147483629)))
    (.cons (.asg (.name 3) (.op .mod (.blt .int1 (.cons (.op .add (.op .mul (.var 3) (.var 3)) (.op .mod (.blt .int1 (.cons (.ix (.var 0) (.int 0)) .nil)) (.int 1000003))) .nil)) (.int 2147483587)))
    (.cons (.ret (.op .mod (.blt .int1 (.cons (.var 3) .nil)) (.var 1)))
    .nil)))))) } }
def i_law_pick : DI := { x := "_law_pick", q := "_law_pick", st := topS 15, N := ["pool", "row"], d := { slots := 2, params := 2, body :=
    (.cons (.ret (.ix (.var 1) (.call 10 (.cons (.var 0) (.cons (.blt .len (.cons (.var 1) .nil)) .nil)))))
    .nil) } }
def i_law_whole : DI := { x := "_law_whole", q := "_law_whole", st := topS 16, N := ["value"], d := { slots := 1, params := 1, body :=
    (.cons (.ret (.and (.isin (.var 0) .int) (.not (.isin (.var 0) .bool))))
    .nil) } }
def i_law_same : DI := { x := "_law_same", q := "_law_same", st := topS 17, N := ["value", "due", "k"], d := { slots := 3, params := 2, body :=
    (.cons (.ifs (.e (.cmp .is_ (.var 1) .non)) (.cons (.ret (.cmp .is_ (.var 0) .non))
    .nil) .nil)
    (.cons (.ifs (.e (.isin (.var 1) .bool)) (.cons (.ret (.and (.isin (.var 0) .bool) (.cmp .eq (.var 0) (.var 1))))
    .nil) .nil)
    (.cons (.ifs (.e (.isin (.var 1) .int)) (.cons (.ret (.and (.call 12 (.cons (.var 0) .nil)) (.cmp .eq (.var 0) (.var 1))))
    .nil) .nil)
    (.cons (.ifs (.e (.isin (.var 1) .str)) (.cons (.ret (.and (.isin (.var 0) .str) (.cmp .eq (.var 0) (.var 1))))
    .nil) .nil)
    (.cons (.ifs (.e (.isin (.var 1) .tuple)) (.cons (.ifs (.or (.not (.e (.isin (.var 0) .tuple))) (.e (.cmp .ne (.blt .len (.cons (.var 0) .nil)) (.blt .len (.cons (.var 1) .nil))))) (.cons (.ret (.bl false))
    .nil) .nil)
    .nil) (.cons (.ifs (.or (.not (.e (.isin (.var 0) .list))) (.e (.cmp .ne (.blt .len (.cons (.var 0) .nil)) (.blt .len (.cons (.var 1) .nil))))) (.cons (.ret (.bl false))
    .nil) .nil)
    .nil))
    (.cons (.for_ (.name 2) (.rng1 (.blt .len (.cons (.var 1) .nil))) (.cons (.ifs (.not (.e (.call 13 (.cons (.ix (.var 0) (.var 2)) (.cons (.ix (.var 1) (.var 2)) .nil))))) (.cons (.ret (.bl false))
    .nil) .nil)
    .nil))
    (.cons (.ret (.bl true))
    .nil))))))) } }
def i_law_build : DI := { x := "_law_build", q := "_law_build", st := topS 18, N := ["variables"], keep := true, d := { slots := 1, params := 1, body :=
    (.cons (.ret (.lst (.cons (.var 0) (.cons (.mu .dnewT) (.cons (.mu (.lst .nil)) .nil)))))
    .nil) } }
def i_law_both : DI := { x := "_law_both", q := "_law_both", st := topS 19, N := ["build", "a", "b", "low", "high"], d := { slots := 5, params := 3, body :=
    (.cons (.asg (.name 3) (.blt .min2 (.cons (.var 1) (.cons (.var 2) .nil))))
    (.cons (.asg (.name 4) (.blt .max2 (.cons (.var 1) (.cons (.var 2) .nil))))
    (.cons (.ifs (.or (.e (.cmp .eq (.var 3) (.int 0))) (.and (.e (.cmp .eq (.op .bxor (.var 3) (.int 1)) (.var 4))) (.e (.cmp .eq (.op .band (.var 3) (.int 1)) (.int 0))))) (.cons (.ret (.int 0))
    .nil) .nil)
    (.cons (.ifs (.e (.cmp .eq (.var 3) (.int 1))) (.cons (.ret (.var 4))
    .nil) .nil)
    (.cons (.ifs (.e (.cmp .eq (.var 3) (.var 4))) (.cons (.ret (.var 3))
    .nil) .nil)
    (.cons (.ifs (.e (.cmp .notIn (.tup (.cons (.var 3) (.cons (.var 4) .nil))) (.ix (.var 0) (.int 1)))) (.cons (.asg (.sub (.ix (.var 0) (.int 1)) (.tup (.cons (.var 3) (.cons (.var 4) .nil)))) (.op .mul (.int 2) (.ix (.var 0) (.int 0))))
    (.cons (.asg (.sub (.var 0) (.int 0)) (.op .add (.ix (.var 0) (.int 0)) (.int 1)))
    (.cons (.expr (.mt .append (.ix (.var 0) (.int 2)) (.cons (.tup (.cons (.var 3) (.cons (.var 4) .nil))) .nil)))
    .nil))) .nil)
    (.cons (.ret (.ix (.ix (.var 0) (.int 1)) (.tup (.cons (.var 3) (.cons (.var 4) .nil)))))
    .nil))))))) } }
def i_law_either : DI := { x := "_law_either", q := "_law_either", st := topS 20, N := ["build", "a", "b"], d := { slots := 3, params := 3, body :=
    (.cons (.ret (.op .bxor (.call 15 (.cons (.var 0) (.cons (.op .bxor (.var 1) (.int 1)) (.cons (.op .bxor (.var 2) (.int 1)) .nil)))) (.int 1)))
    .nil) } }
def i_law_differ : DI := { x := "_law_differ", q := "_law_differ", st := topS 21, N := ["build", "a", "b", "one", "two"], d := { slots := 5, params := 3, body :=
    (.cons (.asg (.name 3) (.call 15 (.cons (.var 0) (.cons (.var 1) (.cons (.op .bxor (.var 2) (.int 1)) .nil)))))
    (.cons (.asg (.name 4) (.call 15 (.cons (.var 0) (.cons (.op .bxor (.var 1) (.int 1)) (.cons (.var 2) .nil)))))
    (.cons (.ret (.op .bxor (.call 15 (.cons (.var 0) (.cons (.op .bxor (.var 3) (.int 1)) (.cons (.op .bxor (.var 4) (.int 1)) .nil)))) (.int 1)))
    .nil))) } }
def i_law_choose : DI := { x := "_law_choose", q := "_law_choose", st := topS 22, N := ["build", "c", "a", "b", "one", "two"], d := { slots := 6, params := 4, body :=
    (.cons (.asg (.name 4) (.call 15 (.cons (.var 0) (.cons (.var 1) (.cons (.var 2) .nil)))))
    (.cons (.asg (.name 5) (.call 15 (.cons (.var 0) (.cons (.op .bxor (.var 1) (.int 1)) (.cons (.var 3) .nil)))))
    (.cons (.ret (.op .bxor (.call 15 (.cons (.var 0) (.cons (.op .bxor (.var 4) (.int 1)) (.cons (.op .bxor (.var 5) (.int 1)) .nil)))) (.int 1)))
    .nil))) } }
def i_law_sum : DI := { x := "_law_sum", q := "_law_sum", st := topS 23, N := ["build", "a", "b", "carry", "made", "k", "one", "two"], d := { slots := 8, params := 4, body :=
    (.cons (.asg (.name 4) (.mu (.lst .nil)))
    (.cons (.for_ (.name 5) (.rng1 (.blt .len (.cons (.var 1) .nil))) (.cons (.asg (.name 6) (.call 17 (.cons (.var 0) (.cons (.ix (.var 1) (.var 5)) (.cons (.ix (.var 2) (.var 5)) .nil)))))
    (.cons (.expr (.mt .append (.var 4) (.cons (.call 17 (.cons (.var 0) (.cons (.var 6) (.cons (.var 3) .nil)))) .nil)))
    (.cons (.asg (.name 7) (.call 15 (.cons (.var 0) (.cons (.ix (.var 1) (.var 5)) (.cons (.ix (.var 2) (.var 5)) .nil)))))
    (.cons (.asg (.name 3) (.call 16 (.cons (.var 0) (.cons (.var 7) (.cons (.call 15 (.cons (.var 0) (.cons (.var 6) (.cons (.var 3) .nil)))) .nil)))))
    .nil)))))
    (.cons (.retF (.var 4))
    .nil))) } }
def i_law_alike : DI := { x := "_law_alike", q := "_law_alike", st := topS 24, N := ["build", "a", "b", "one", "k"], d := { slots := 5, params := 3, body :=
    (.cons (.asg (.name 3) (.int 1))
    (.cons (.for_ (.name 4) (.rng1 (.blt .len (.cons (.var 1) .nil))) (.cons (.asg (.name 3) (.call 15 (.cons (.var 0) (.cons (.var 3) (.cons (.op .bxor (.call 17 (.cons (.var 0) (.cons (.ix (.var 1) (.var 4)) (.cons (.ix (.var 2) (.var 4)) .nil)))) (.int 1)) .nil)))))
    .nil))
    (.cons (.ret (.var 3))
    .nil))) } }
def i_law_lower : DI := { x := "_law_lower", q := "_law_lower", st := topS 25, N := ["build", "a", "b", "one", "k"], d := { slots := 5, params := 3, body :=
    (.cons (.asg (.name 3) (.int 0))
    (.cons (.for_ (.name 4) (.rng1 (.blt .len (.cons (.var 1) .nil))) (.cons (.asg (.name 3) (.call 18 (.cons (.var 0) (.cons (.call 17 (.cons (.var 0) (.cons (.ix (.var 1) (.var 4)) (.cons (.ix (.var 2) (.var 4)) .nil)))) (.cons (.ix (.var 2) (.var 4)) (.cons (.var 3) .nil))))))
    .nil))
    (.cons (.ret (.var 3))
    .nil))) } }
def i_law_fold : DI := { x := "_law_fold", q := "_law_fold", st := topS 26, N := ["build", "kind", "a", "one", "bit"], d := { slots := 5, params := 3, body :=
    (.cons (.asg (.name 3) (.blt .int1 (.cons (.cmp .eq (.var 1) (.str "all")) .nil)))
    (.cons (.for_ (.name 4) (.seq (.var 2)) (.cons (.ifs (.e (.cmp .eq (.var 1) (.str "any"))) (.cons (.asg (.name 3) (.call 16 (.cons (.var 0) (.cons (.var 3) (.cons (.var 4) .nil)))))
    .nil) .nil)
    (.cons (.ifs (.e (.cmp .eq (.var 1) (.str "all"))) (.cons (.asg (.name 3) (.call 15 (.cons (.var 0) (.cons (.var 3) (.cons (.var 4) .nil)))))
    .nil) .nil)
    (.cons (.ifs (.e (.cmp .eq (.var 1) (.str "odd"))) (.cons (.asg (.name 3) (.call 17 (.cons (.var 0) (.cons (.var 3) (.cons (.var 4) .nil)))))
    .nil) .nil)
    .nil))))
    (.cons (.ret (.var 3))
    .nil))) } }
def i_law_some : DI := { x := "_law_some", q := "_law_some", st := topS 27, N := ["pool", "top"], d := { slots := 2, params := 2, body :=
    (.cons (.ifs (.e (.cmp .eq (.call 10 (.cons (.var 0) (.cons (.int 2) .nil))) (.int 1))) (.cons (.ret (.op .sub (.op .sub (.var 1) (.int 1)) (.call 10 (.cons (.var 0) (.cons (.blt .min2 (.cons (.var 1) (.cons (.int 8) .nil))) .nil)))))
    .nil) .nil)
    (.cons (.ret (.call 10 (.cons (.var 0) (.cons (.var 1) .nil))))
    .nil)) } }
def i_law_columns : DI := { x := "_law_columns", q := "_law_columns", st := topS 28, N := ["bits", "pairs", "columns", "k", "full", "a", "b", "one", "two", "v"], d := { slots := 10, params := 2, body :=
    (.cons (.asg (.name 2) (.mu (.lst (.cons (.int 0) .nil))))
    (.cons (.for_ (.name 3) (.rng1 (.var 0)) (.cons (.expr (.mt .append (.var 2) (.cons (.blt .sum (.cons (.lc [("v", 9)] (.name 9) (.rng1 (.op .shl (.int 1) (.var 0))) .yes (.op .shl (.op .band (.op .shr (.var 9) (.var 3)) (.int 1)) (.var 9))) .nil)) .nil)))
    .nil))
    (.cons (.asg (.name 4) (.op .sub (.op .shl (.int 1) (.op .shl (.int 1) (.var 0))) (.int 1)))
    (.cons (.for_ (.tup (.cons (.name 5) (.cons (.name 6) .nil))) (.seq (.var 1)) (.cons (.asg (.name 7) (.op .bxor (.ix (.var 2) (.op .fdiv (.var 5) (.int 2))) (.op .mul (.var 4) (.op .band (.var 5) (.int 1)))))
    (.cons (.asg (.name 8) (.op .bxor (.ix (.var 2) (.op .fdiv (.var 6) (.int 2))) (.op .mul (.var 4) (.op .band (.var 6) (.int 1)))))
    (.cons (.expr (.mt .append (.var 2) (.cons (.op .band (.var 7) (.var 8)) .nil)))
    .nil))))
    (.cons (.retF (.var 2))
    .nil))))) } }
def i_law_word : DI := { x := "_law_word", q := "_law_word", st := topS 29, N := ["pool", "top", "size", "k"], d := { slots := 4, params := 3, body :=
    (.cons (.ret (.lc [("k", 3)] (.name 3) (.rng1 (.var 2)) .yes (.call 23 (.cons (.var 0) (.cons (.var 1) .nil)))))
    .nil) } }
def i_law_words : DI := { x := "_law_words", q := "_law_words", st := topS 30, N := ["pool", "top", "size", "a", "b", "near", "one", "k"], d := { slots := 8, params := 2, body :=
    (.cons (.asg (.name 2) (.call 11 (.cons (.var 0) (.cons (.lst (.cons (.int 0) (.cons (.int 1) (.cons (.int 1) (.cons (.int 2) (.cons (.int 2) (.cons (.int 3) (.cons (.int 3) (.cons (.int 4) (.cons (.int 5) (.cons (.int 6) (.cons (.int 9) (.cons (.int 14) .nil))))))))))))) .nil))))
    (.cons (.asg (.name 3) (.call 25 (.cons (.var 0) (.cons (.var 1) (.cons (.var 2) .nil)))))
    (.cons (.asg (.name 4) (.mu (.blt .list (.cons (.var 3) .nil))))
    (.cons (.asg (.name 5) (.call 10 (.cons (.var 0) (.cons (.int 7) .nil))))
    (.cons (.ifs (.e (.cmp .eq (.var 5) (.int 1))) (.cons (.asg (.name 4) (.mu (.lc [("one", 6)] (.name 6) (.seq (.var 3)) .yes (.op .bxor (.var 6) (.int 1)))))
    .nil) .nil)
    (.cons (.ifs (.and (.e (.cmp .eq (.var 5) (.int 2))) (.e (.cmp .gt (.var 2) (.int 0)))) (.cons (.asg (.sub (.var 4) (.call 10 (.cons (.var 0) (.cons (.var 2) .nil)))) (.call 23 (.cons (.var 0) (.cons (.var 1) .nil))))
    .nil) .nil)
    (.cons (.ifs (.e (.cmp .eq (.var 5) (.int 3))) (.cons (.asg (.name 4) (.mu (.lc [("k", 7)] (.name 7) (.rng1 (.var 2)) .yes (.call 10 (.cons (.var 0) (.cons (.int 2) .nil))))))
    .nil) .nil)
    (.cons (.ifs (.e (.cmp .gt (.var 5) (.int 3))) (.cons (.asg (.name 4) (.mu (.call 25 (.cons (.var 0) (.cons (.var 1) (.cons (.var 2) .nil))))))
    .nil) .nil)
    (.cons (.ifs (.e (.cmp .eq (.call 10 (.cons (.var 0) (.cons (.int 8) .nil))) (.int 0))) (.cons (.asg (.name 3) (.lc [("k", 7)] (.name 7) (.rng1 (.var 2)) .yes (.call 10 (.cons (.var 0) (.cons (.int 2) .nil)))))
    .nil) .nil)
    (.cons (.ret (.lst (.cons (.var 3) (.cons (.var 4) .nil))))
    .nil)))))))))) } }
def i_law_due : DI := { x := "_law_due", q := "_law_due", st := topS 31, N := ["build", "kind", "a", "b", "one"], d := { slots := 5, params := 4, body :=
    (.cons (.ifs (.e (.cmp .eq (.var 1) (.int 0))) (.cons (.ret (.call 19 (.cons (.var 0) (.cons (.var 2) (.cons (.var 3) (.cons (.int 0) .nil))))))
    .nil) .nil)
    (.cons (.ifs (.e (.cmp .eq (.var 1) (.int 1))) (.cons (.ret (.call 19 (.cons (.var 0) (.cons (.var 2) (.cons (.lc [("one", 4)] (.name 4) (.seq (.var 3)) .yes (.op .bxor (.var 4) (.int 1))) (.cons (.int 1) .nil))))))
    .nil) .nil)
    (.cons (.ifs (.e (.cmp .eq (.var 1) (.int 2))) (.cons (.ret (.call 20 (.cons (.var 0) (.cons (.var 2) (.cons (.var 3) .nil)))))
    .nil) .nil)
    (.cons (.ifs (.e (.cmp .eq (.var 1) (.int 3))) (.cons (.ret (.call 21 (.cons (.var 0) (.cons (.var 2) (.cons (.var 3) .nil)))))
    .nil) .nil)
    (.cons (.ret (.call 22 (.cons (.var 0) (.cons (.ix (.lst (.cons (.str "any") (.cons (.str "all") (.cons (.str "odd") .nil)))) (.op .sub (.var 1) (.int 4))) (.cons (.var 2) .nil)))))
    .nil))))) } }
def i_law_told : DI := { x := "_law_told", q := "_law_told", st := topS 32, N := ["builder", "kind", "a", "b"], d := { slots := 4, params := 4, body :=
    (.cons (.ifs (.e (.cmp .eq (.var 1) (.int 0))) (.cons (.ret (.call 2 (.cons (.var 0) (.cons (.var 2) (.cons (.var 3) .nil)))))
    .nil) .nil)
    (.cons (.ifs (.e (.cmp .eq (.var 1) (.int 1))) (.cons (.ret (.call 3 (.cons (.var 0) (.cons (.var 2) (.cons (.var 3) .nil)))))
    .nil) .nil)
    (.cons (.ifs (.e (.cmp .eq (.var 1) (.int 2))) (.cons (.ret (.call 4 (.cons (.var 0) (.cons (.var 2) (.cons (.var 3) .nil)))))
    .nil) .nil)
    (.cons (.ifs (.e (.cmp .eq (.var 1) (.int 3))) (.cons (.ret (.call 5 (.cons (.var 0) (.cons (.var 2) (.cons (.var 3) .nil)))))
    .nil) .nil)
    (.cons (.ifs (.e (.cmp .eq (.var 1) (.int 4))) (.cons (.ret (.call 6 (.cons (.var 0) (.cons (.var 2) .nil))))
    .nil) .nil)
    (.cons (.ifs (.e (.cmp .eq (.var 1) (.int 5))) (.cons (.ret (.call 7 (.cons (.var 0) (.cons (.var 2) .nil))))
    .nil) .nil)
    (.cons (.ret (.call 8 (.cons (.var 0) (.cons (.var 2) .nil))))
    .nil))))))) } }
def i_law_plain : DI := { x := "_law_plain", q := "_law_plain", st := topS 33, N := ["kind", "a", "b", "size", "k"], d := { slots := 5, params := 4, body :=
    (.cons (.ifs (.e (.cmp .eq (.var 0) (.int 0))) (.cons (.ret (.op .band (.op .add (.var 1) (.var 2)) (.op .sub (.op .shl (.int 1) (.var 3)) (.int 1))))
    .nil) .nil)
    (.cons (.ifs (.e (.cmp .eq (.var 0) (.int 1))) (.cons (.ret (.op .band (.op .sub (.var 1) (.var 2)) (.op .sub (.op .shl (.int 1) (.var 3)) (.int 1))))
    .nil) .nil)
    (.cons (.ifs (.e (.cmp .eq (.var 0) (.int 2))) (.cons (.ret (.blt .int1 (.cons (.cmp .eq (.var 1) (.var 2)) .nil)))
    .nil) .nil)
    (.cons (.ifs (.e (.cmp .eq (.var 0) (.int 3))) (.cons (.ret (.blt .int1 (.cons (.cmp .lt (.var 1) (.var 2)) .nil)))
    .nil) .nil)
    (.cons (.ifs (.e (.cmp .eq (.var 0) (.int 4))) (.cons (.ret (.blt .int1 (.cons (.cmp .gt (.var 1) (.int 0)) .nil)))
    .nil) .nil)
    (.cons (.ifs (.e (.cmp .eq (.var 0) (.int 5))) (.cons (.ret (.blt .int1 (.cons (.cmp .eq (.var 1) (.op .sub (.op .shl (.int 1) (.var 3)) (.int 1))) .nil)))
    .nil) .nil)
    (.cons (.ret (.op .band (.blt .sum (.cons (.lc [("k", 4)] (.name 4) (.rng1 (.var 3)) .yes (.op .band (.op .shr (.var 1) (.var 4)) (.int 1))) .nil)) (.int 1)))
    .nil))))))) } }
def i_law_worth : DI := { x := "_law_worth", q := "_law_worth", st := topS 34, N := ["columns", "literals", "v", "total", "k"], d := { slots := 5, params := 3, body :=
    (.cons (.asg (.name 3) (.int 0))
    (.cons (.for_ (.name 4) (.rng1 (.blt .len (.cons (.var 1) .nil))) (.cons (.asg (.name 3) (.op .add (.var 3) (.op .shl (.op .bxor (.op .band (.op .shr (.ix (.var 0) (.op .fdiv (.ix (.var 1) (.var 4)) (.int 2))) (.var 2)) (.int 1)) (.op .band (.ix (.var 1) (.var 4)) (.int 1))) (.var 4))))
    .nil))
    (.cons (.ret (.var 3))
    .nil))) } }
def i_law_holds : DI := { x := "_law_holds", q := "_law_holds", st := topS 35, N := ["columns", "bits", "kind", "words", "told", "v", "a", "b"], d := { slots := 8, params := 5, body :=
    (.cons (.ifs (.e (.cmp .gt (.var 2) (.int 1))) (.cons (.asg (.name 4) (.lst (.cons (.var 4) .nil)))
    .nil) .nil)
    (.cons (.for_ (.name 5) (.rng1 (.op .shl (.int 1) (.var 1))) (.cons (.asg (.name 6) (.call 30 (.cons (.var 0) (.cons (.ix (.var 3) (.int 0)) (.cons (.var 5) .nil)))))
    (.cons (.asg (.name 7) (.call 30 (.cons (.var 0) (.cons (.ix (.var 3) (.int 1)) (.cons (.var 5) .nil)))))
    (.cons (.ifs (.e (.cmp .ne (.call 30 (.cons (.var 0) (.cons (.var 4) (.cons (.var 5) .nil)))) (.call 29 (.cons (.var 2) (.cons (.var 6) (.cons (.var 7) (.cons (.blt .len (.cons (.ix (.var 3) (.int 0)) .nil)) .nil))))))) (.cons (.ret (.bl false))
    .nil) .nil)
    .nil))))
    (.cons (.ret (.bl true))
    .nil))) } }
def i_law : DI := { x := "law", q := "law", st := topS 36, N := ["script", "pool", "inputs", "latches", "builders", "builds", "at", "k", "a", "b", "due", "words", "own", "kind", "again", "handed", "told", "pairs", "one"], d := { slots := 19, params := 1, body :=
    (.cons (.asg (.name 1) (.mu (.call 9 (.cons (.var 0) (.cons (.int 0) .nil)))))
    (.cons (.asg (.name 2) (.call 10 (.cons (.var 1) (.cons (.int 5) .nil))))
    (.cons (.asg (.name 3) (.call 10 (.cons (.var 1) (.cons (.int 5) .nil))))
    (.cons (.asg (.name 4) (.lst (.cons (.makeM 0 (.cons (.var 2) (.cons (.var 3) .nil))) (.cons (.makeM 0 (.cons (.var 2) (.cons (.var 3) .nil))) .nil))))
    (.cons (.asg (.name 5) (.lst (.cons (.mu (.call 14 (.cons (.op .add (.op .add (.int 1) (.var 2)) (.var 3)) .nil))) (.cons (.mu (.call 14 (.cons (.op .add (.op .add (.int 1) (.var 2)) (.var 3)) .nil))) .nil))))
    (.cons (.for_ (.name 6) (.rng1 (.int 2)) (.cons (.for_ (.name 7) (.rng1 (.call 11 (.cons (.var 1) (.cons (.lst (.cons (.int 0) (.cons (.int 0) (.cons (.int 1) (.cons (.int 3) .nil))))) .nil)))) (.cons (.asg (.name 8) (.call 23 (.cons (.var 1) (.cons (.op .mul (.int 2) (.ix (.ix (.var 5) (.var 6)) (.int 0))) .nil))))
    (.cons (.asg (.name 9) (.call 23 (.cons (.var 1) (.cons (.op .mul (.int 2) (.ix (.ix (.var 5) (.var 6)) (.int 0))) .nil))))
    (.cons (.asg (.name 10) (.call 15 (.cons (.ix (.var 5) (.var 6)) (.cons (.var 8) (.cons (.var 9) .nil)))))
    (.cons (.ifs (.not (.e (.call 13 (.cons (.mcall "both" (.ix (.var 4) (.var 6)) (.cons (.var 8) (.cons (.var 9) .nil))) (.cons (.var 10) .nil))))) (.cons (.ret (.bl false))
    .nil) .nil)
    .nil)))))
    .nil))
    (.cons (.asg (.name 11) (.lst (.cons (.lst .nil) (.cons (.lst .nil) .nil))))
    (.cons (.for_ (.name 7) (.rng1 (.op .add (.int 1) (.call 10 (.cons (.var 1) (.cons (.int 4) .nil))))) (.cons (.asg (.name 12) (.mu (.call 9 (.cons (.var 0) (.cons (.op .add (.int 1) (.var 7)) .nil)))))
    (.cons (.asg (.name 6) (.call 10 (.cons (.var 12) (.cons (.int 2) .nil))))
    (.cons (.asg (.name 13) (.call 10 (.cons (.var 12) (.cons (.int 7) .nil))))
    (.cons (.asg (.name 14) (.and (.cmp .eq (.call 10 (.cons (.var 12) (.cons (.int 4) .nil))) (.int 0)) (.cmp .gt (.var 7) (.int 0))))
    (.cons (.ifs (.or (.not (.e (.var 14))) (.e (.cmp .ge (.blt .maxL (.cons (.op .add (.op .add (.ix (.var 11) (.int 0)) (.ix (.var 11) (.int 1))) (.lst (.cons (.int 0) .nil))) .nil)) (.op .mul (.int 2) (.ix (.ix (.var 5) (.var 6)) (.int 0)))))) (.cons (.asg (.name 11) (.call 26 (.cons (.var 12) (.cons (.op .mul (.int 2) (.ix (.ix (.var 5) (.var 6)) (.int 0))) .nil))))
    .nil) .nil)
    (.cons (.asg (.name 10) (.call 27 (.cons (.ix (.var 5) (.var 6)) (.cons (.var 13) (.cons (.ix (.var 11) (.int 0)) (.cons (.ix (.var 11) (.int 1)) .nil))))))
    (.cons (.asg (.name 15) (.lst (.cons (.blt .list (.cons (.ix (.var 11) (.int 0)) .nil)) (.cons (.blt .list (.cons (.ix (.var 11) (.int 1)) .nil)) .nil))))
    (.cons (.ifs (.e (.cmp .eq (.call 10 (.cons (.var 12) (.cons (.int 2) .nil))) (.int 1))) (.cons (.asg (.name 15) (.lst (.cons (.blt .tuple (.cons (.ix (.var 11) (.int 0)) .nil)) (.cons (.blt .tuple (.cons (.ix (.var 11) (.int 1)) .nil)) .nil))))
    .nil) .nil)
    (.cons (.asg (.name 16) (.call 28 (.cons (.ix (.var 4) (.var 6)) (.cons (.var 13) (.cons (.ix (.var 15) (.int 0)) (.cons (.ix (.var 15) (.int 1)) .nil))))))
    (.cons (.ifs (.or (.not (.e (.call 13 (.cons (.var 16) (.cons (.var 10) .nil))))) (.not (.e (.call 13 (.cons (.lc [("one", 18)] (.name 18) (.seq (.var 15)) .yes (.blt .list (.cons (.var 18) .nil))) (.cons (.var 11) .nil)))))) (.cons (.ret (.bl false))
    .nil) .nil)
    (.cons (.ifs (.not (.e (.call 13 (.cons (.mcall "pairs" (.ix (.var 4) (.op .sub (.int 1) (.var 6))) .nil) (.cons (.ix (.ix (.var 5) (.op .sub (.int 1) (.var 6))) (.int 2)) .nil))))) (.cons (.ret (.bl false))
    .nil) .nil)
    (.cons (.asg (.name 17) (.mcall "pairs" (.ix (.var 4) (.var 6)) .nil))
    (.cons (.ifs (.not (.e (.call 13 (.cons (.var 17) (.cons (.ix (.ix (.var 5) (.var 6)) (.int 2)) .nil))))) (.cons (.ret (.bl false))
    .nil) .nil)
    (.cons (.ifs (.not (.e (.call 31 (.cons (.call 24 (.cons (.op .add (.var 2) (.var 3)) (.cons (.var 17) .nil))) (.cons (.op .add (.var 2) (.var 3)) (.cons (.var 13) (.cons (.var 11) (.cons (.var 16) .nil)))))))) (.cons (.ret (.bl false))
    .nil) .nil)
    .nil)))))))))))))))
    (.cons (.ret (.bl true))
    .nil))))))))) } }
def i_Builder___init__ : DI := { x := "__init__", q := "Builder.__init__", st := inClass (topS 2) 0, N := ["self", "inputs", "latches"], d := { slots := 3, params := 3, body :=
    (.cons (.asg (.fld (.var 0) "inputs") (.var 1))
    (.cons (.asg (.fld (.var 0) "latches") (.var 2))
    (.cons (.asg (.fld (.var 0) "_pairs") (.mu (.lst .nil)))
    (.cons (.asg (.fld (.var 0) "_literals") (.mu .dnewT))
    .nil)))) } }
def i_Builder_pairs : DI := { x := "pairs", q := "Builder.pairs", st := inClass (topS 2) 1, N := ["self"], d := { slots := 1, params := 1, body :=
    (.cons (.ret (.blt .list (.cons (.fld (.var 0) "_pairs") .nil)))
    .nil) } }
def i_Builder_both : DI := { x := "both", q := "Builder.both", st := inClass (topS 2) 2, N := ["self", "a", "b", "low", "high", "pair"], d := { slots := 6, params := 3, body :=
    (.cons (.asg (.name 3) (.blt .min2 (.cons (.var 1) (.cons (.var 2) .nil))))
    (.cons (.asg (.name 4) (.blt .max2 (.cons (.var 1) (.cons (.var 2) .nil))))
    (.cons (.ifs (.e (.cmp .eq (.var 3) (.int 0))) (.cons (.ret (.int 0))
    .nil) .nil)
    (.cons (.ifs (.or (.e (.cmp .eq (.var 3) (.int 1))) (.e (.cmp .eq (.var 3) (.var 4)))) (.cons (.ret (.var 4))
    .nil) .nil)
    (.cons (.ifs (.e (.cmp .eq (.op .fdiv (.var 3) (.int 2)) (.op .fdiv (.var 4) (.int 2)))) (.cons (.ret (.int 0))
    .nil) .nil)
    (.cons (.asg (.name 5) (.tup (.cons (.var 3) (.cons (.var 4) .nil))))
    (.cons (.ifs (.e (.cmp .notIn (.var 5) (.fld (.var 0) "_literals"))) (.cons (.asg (.sub (.fld (.var 0) "_literals") (.var 5)) (.op .mul (.int 2) (.op .add (.op .add (.op .add (.int 1) (.fld (.var 0) "inputs")) (.fld (.var 0) "latches")) (.blt .len (.cons (.fld (.var 0) "_pairs") .nil)))))
    (.cons (.expr (.mt .append (.fld (.var 0) "_pairs") (.cons (.var 5) .nil)))
    .nil)) .nil)
    (.cons (.ret (.ix (.fld (.var 0) "_literals") (.var 5)))
    .nil)))))))) } }
def i_Builder_either : DI := { x := "either", q := "Builder.either", st := inClass (topS 2) 3, N := ["self", "a", "b"], d := { slots := 3, params := 3, body :=
    (.cons (.ret (.call 0 (.cons (.mcall "both" (.var 0) (.cons (.call 0 (.cons (.var 1) .nil)) (.cons (.call 0 (.cons (.var 2) .nil)) .nil))) .nil)))
    .nil) } }
def i_Builder_differ : DI := { x := "differ", q := "Builder.differ", st := inClass (topS 2) 4, N := ["self", "a", "b", "x", "y"], d := { slots := 5, params := 3, body :=
    (.cons (.asg (.name 3) (.mcall "both" (.var 0) (.cons (.var 1) (.cons (.call 0 (.cons (.var 2) .nil)) .nil))))
    (.cons (.asg (.name 4) (.mcall "both" (.var 0) (.cons (.call 0 (.cons (.var 1) .nil)) (.cons (.var 2) .nil))))
    (.cons (.ret (.mcall "either" (.var 0) (.cons (.var 3) (.cons (.var 4) .nil))))
    .nil))) } }
def i_Builder_choose : DI := { x := "choose", q := "Builder.choose", st := inClass (topS 2) 5, N := ["self", "c", "a", "b", "x", "y"], d := { slots := 6, params := 4, body :=
    (.cons (.asg (.name 4) (.mcall "both" (.var 0) (.cons (.var 1) (.cons (.var 2) .nil))))
    (.cons (.asg (.name 5) (.mcall "both" (.var 0) (.cons (.call 0 (.cons (.var 1) .nil)) (.cons (.var 3) .nil))))
    (.cons (.ret (.mcall "either" (.var 0) (.cons (.var 4) (.cons (.var 5) .nil))))
    .nil))) } }
def gl : Nat → D
  | _ => .non
def gd : Nat → List (Str × D)
  | _ => []
def tb : TB := { ds := [i_turned, i_summed, i_add_words, i_subtract_words, i_equal_words, i_less_words, i_any_bit, i_all_bits, i_odd_bits, i_law_pool, i_law_draw, i_law_pick, i_law_whole, i_law_same, i_law_build, i_law_both, i_law_either, i_law_differ, i_law_choose, i_law_sum, i_law_alike, i_law_lower, i_law_fold, i_law_some, i_law_columns, i_law_word, i_law_words, i_law_due, i_law_told, i_law_plain, i_law_worth, i_law_holds, i_law, i_Builder___init__, i_Builder_pairs, i_Builder_both, i_Builder_either, i_Builder_differ, i_Builder_choose], fns := [fp "turned" 0, fp "summed" 1, fp "add_words" 2, fp "subtract_words" 3, fp "equal_words" 4, fp "less_words" 5, fp "any_bit" 6, fp "all_bits" 7, fp "odd_bits" 8, fp "_law_pool" 9, fp "_law_draw" 10, fp "_law_pick" 11, fp "_law_whole" 12, fp "_law_same" 13, fp "_law_build" 14, fp "_law_both" 15, fp "_law_either" 16, fp "_law_differ" 17, fp "_law_choose" 18, fp "_law_sum" 19, fp "_law_alike" 20, fp "_law_lower" 21, fp "_law_fold" 22, fp "_law_some" 23, fp "_law_columns" 24, fp "_law_word" 25, fp "_law_words" 26, fp "_law_due" 27, fp "_law_told" 28, fp "_law_plain" 29, fp "_law_worth" 30, fp "_law_holds" 31, fp "law" 32], gls := [], blt := ["zip", "len", "abs", "int", "isinstance", "bool", "str", "tuple", "list", "range", "min", "max", "sum"], cls := [{ nm := "Builder", ini := 33, ms := [fp "pairs" 34, fp "both" 35, fp "either" 36, fp "differ" 37, fp "choose" 38] }], cnm := [("Builder", 0)], na := [fq 0 "inputs", fq 0 "latches", fq 0 "_pairs", fq 0 "_literals"], gl := gl, gd := gd, F := 1000000 }
theorem chk : chkT' tb 300 = true := by decide +kernel
end K13

set_option Elab.async false
set_option linter.all false
set_option maxRecDepth 100000
set_option maxHeartbeats 1000000
namespace En
open PySem PySem.Spec PyProof.Rows L2
theorem min2_nat {s : Store} (a b : Nat) : bltR .min2 [.int (a : Int), .int (b : Int)] s = some (.v (.int ((min a b : Nat) : Int))) := by
  simp only [bltR]
  by_cases h : b < a
  · have : (b : Int) < a := by omega
    rw [if_pos this, Nat.min_eq_right (by omega)]
  · have : ¬ (b : Int) < a := by omega
    rw [if_neg this, Nat.min_eq_left (by omega)]
theorem max2_nat {s : Store} (a b : Nat) : bltR .max2 [.int (a : Int), .int (b : Int)] s = some (.v (.int ((max a b : Nat) : Int))) := by
  simp only [bltR]
  by_cases h : b > a
  · have : (b : Int) > a := by omega
    rw [if_pos this, Nat.max_eq_right (by omega)]
  · have : ¬ (b : Int) > a := by omega
    rw [if_neg this, Nat.max_eq_left (by omega)]
theorem bx_nat (a b : Nat) : Builtin.bitXor (a : Int) (b : Int) = ((a ^^^ b : Nat) : Int) := by
  rw [Bits.bitXor_pp (by omega) (by omega)]
  rfl
theorem ba_nat (a b : Nat) : Builtin.bitAnd (a : Int) (b : Int) = ((a &&& b : Nat) : Int) := by
  rw [bitAnd_pp (by omega) (by omega)]
  rfl
theorem xor_nat {s : Store} (a b : Nat) : opR .bxor (.int (a : Int)) (.int (b : Int)) s = some (.v (.int ((a ^^^ b : Nat) : Int))) := by
  show some (R.v (.int (Builtin.bitXor (a : Int) (b : Int)))) = _
  rw [bx_nat]
theorem and_nat {s : Store} (a b : Nat) : opR .band (.int (a : Int)) (.int (b : Int)) s = some (.v (.int ((a &&& b : Nat) : Int))) := by
  show some (R.v (.int (Builtin.bitAnd (a : Int) (b : Int)))) = _
  rw [ba_nat]
theorem tn_op {s : Store} (a : Nat) : opR .bxor (.int (a : Int)) (.int 1) s = some (.v (.int ((BN.tn a : Nat) : Int))) := xor_nat a 1
theorem add_nat {s : Store} (a b : Nat) : opR .add (.int (a : Int)) (.int (b : Int)) s = some (.v (.int ((a + b : Nat) : Int))) := by
  show some (R.v (.int ((a : Int) + (b : Int)))) = _
  rw [Int.natCast_add]
theorem mul_nat {s : Store} (a b : Nat) (h : a < 1000) : opR .mul (.int (a : Int)) (.int (b : Int)) s = some (.v (.int ((a * b : Nat) : Int))) := by
  simp only [opR]
  rw [intOp_mul (by omega) (by omega), Int.natCast_mul]
  rfl
theorem fdiv2_nat {s : Store} (a : Nat) : opR .fdiv (.int (a : Int)) (.int 2) s = some (.v (.int ((a / 2 : Nat) : Int))) := by
  simp only [opR, intOp]
  rw [if_pos (by decide)]
  simp only [Option.map_some]
  rw [Int.fdiv_eq_ediv_of_nonneg _ (by omega)]
  rfl
theorem set_same {α : Type} {s : List α} {n : Nat} {x : α} (h : s[n]? = some x) : s.set n x = s := by
  apply List.ext_getElem?
  intro i
  by_cases hi : n = i
  · subst hi
    obtain ⟨hl, e⟩ := List.getElem?_eq_some_iff.mp h
    rw [List.getElem?_set_self hl, h]
  · rw [List.getElem?_set_ne hi]
theorem get_ne {α : Type} {s : List α} {n m : Nat} {x y : α} (h : s[n]? = some x) (h2 : s[m]? = some y) (h3 : x ≠ y) : n ≠ m := fun e => by
  subst e
  rw [h] at h2
  cases h2
  exact h3 rfl
theorem get_lt {α : Type} {s : List α} {n : Nat} {x : α} (h : s[n]? = some x) : n < s.length := (List.getElem?_eq_some_iff.mp h).1
def encP (p : Nat × Nat) : D := .tup [.int (p.1 : Nat), .int (p.2 : Nat)]
def enc (ps : List (Nat × Nat)) : List D := ps.map encP
def keyP (p : Nat × Nat) : List Key := [.inl (p.1 : Nat), .inl (p.2 : Nat)]
def tab (n : Nat) : List (Nat × Nat) → List (List Key × D)
  | [] => []
  | p :: ps => (keyP p, .int ((2 * n : Nat) : Int)) :: tab (n + 1) ps
theorem tab_len : ∀ (ps : List (Nat × Nat)) (n : Nat), (tab n ps).length = ps.length
  | [], _ => rfl
  | p :: ps, n => by simp [tab, tab_len ps]
theorem keyP_eq {p q : Nat × Nat} : keyP p = keyP q ↔ p = q := by
  obtain ⟨a, b⟩ := p
  obtain ⟨c, d⟩ := q
  simp only [keyP, List.cons.injEq, Sum.inl.injEq, and_true, Prod.mk.injEq]
  omega
theorem tab_look : ∀ (ps : List (Nat × Nat)) (n : Nat) (p : Nat × Nat), lookK (tab n ps) (keyP p) = (ps.findIdx? fun q => decide (q = p)).map fun i => .int ((2 * (n + i) : Nat) : Int)
  | [], _, _ => rfl
  | q :: ps, n, p => by
    rw [List.findIdx?_cons]
    unfold lookK
    rw [tab, List.find?_cons]
    by_cases h : q = p
    · subst h
      simp
    · have h2 : ¬ keyP q = keyP p := fun e => h (keyP_eq.mp e)
      simp only [h, h2, decide_false, Bool.false_eq_true, if_false, Option.map_map]
      have := tab_look ps (n + 1) p
      unfold lookK at this
      rw [this]
      congr 1
      funext i
      simp only [Function.comp]
      congr 2
      omega
theorem tab_snoc : ∀ (ps : List (Nat × Nat)) (n : Nat) (p : Nat × Nat), tab n (ps ++ [p]) = tab n ps ++ [(keyP p, .int ((2 * (n + ps.length) : Nat) : Int))]
  | [], n, p => rfl
  | q :: ps, n, p => by
    simp only [List.cons_append, tab, List.length_cons]
    rw [tab_snoc ps (n + 1) p]
    have : n + 1 + ps.length = n + (ps.length + 1) := by omega
    rw [this]
theorem tab_any : ∀ (ps : List (Nat × Nat)) (n : Nat) (p : Nat × Nat), (ps.findIdx? fun q => decide (q = p)) = none → ((tab n ps).any fun kv => decide (kv.1 = keyP p)) = false
  | [], _, _, _ => rfl
  | q :: ps, n, p, h => by
    rw [List.findIdx?_cons] at h
    by_cases hq : q = p
    · subst hq
      simp at h
    · have h2 : ¬ keyP q = keyP p := fun e => hq (keyP_eq.mp e)
      simp only [hq, decide_false, Bool.false_eq_true, if_false, Option.map_eq_none_iff] at h
      simp only [tab, List.any_cons, h2, decide_false, Bool.false_or]
      exact tab_any ps (n + 1) p h
theorem tab_put (ps : List (Nat × Nat)) (n : Nat) (p : Nat × Nat) (h : (ps.findIdx? fun q => decide (q = p)) = none) : putK (tab n ps) (keyP p) (.int ((2 * (n + ps.length) : Nat) : Int)) = tab n (ps ++ [p]) := by
  unfold putK
  rw [tab_any ps n p h, tab_snoc]
  rfl
section
variable {s : Store} {t n : Nat} {ps : List (Nat × Nat)} {gd : Nat → List (Str × D)}
theorem tab_in (h : s[t]? = some (.dt (tab n ps))) (a b : Nat) : cmpR gd .notIn (.tup [.int (a : Int), .int (b : Int)]) (.cell t) s = some !(ps.findIdx? fun q => decide (q = (a, b))).isSome := by
  have e : dget gd s (.cell t) (.tup [.int (a : Int), .int (b : Int)]) = some (lookK (tab n ps) (keyP (a, b))) := by
    simp only [dget, dkOf, dtOf, h]
    rfl
  simp only [cmpR, inR, seqOf, h, e, Option.map_some, tab_look, Option.isSome_map]
theorem tab_ix (h : s[t]? = some (.dt (tab n ps))) {a b i : Nat} (hi : (ps.findIdx? fun q => decide (q = (a, b))) = some i) : ixR gd (.cell t) (.tup [.int (a : Int), .int (b : Int)]) s = some (.v (.int ((2 * (n + i) : Nat) : Int))) := by
  have e : dget gd s (.cell t) (.tup [.int (a : Int), .int (b : Int)]) = some (lookK (tab n ps) (keyP (a, b))) := by
    simp only [dget, dkOf, dtOf, h]
    rfl
  simp only [ixR, seqOf, h, e, tab_look, hi, Option.map_some]
theorem tab_set {b : Nat} (h : s[t]? = some (.dt (tab n ps))) {x y : Nat} (hi : (ps.findIdx? fun q => decide (q = (x, y))) = none) (hl : ps.length < 100000) {m : Nat} (hm : m = 2 * (n + ps.length)) : setR b (.cell t) (.tup [.int (x : Int), .int (y : Int)]) (.int (m : Nat)) s = .ok () (s.set t (.dt (tab n (ps ++ [(x, y)])))) := by
  subst hm
  have e : keysOf [.int (x : Int), .int (y : Int)] = some (keyP (x, y)) := rfl
  have w : okW b t (.int ((2 * (n + ps.length) : Nat) : Int)) = true := by simp [okW, cb]
  simp only [setR, h, e, w, tab_len, hl, decide_true, Bool.and_self, if_true]
  rw [tab_put ps n (x, y) hi]
theorem enc_app {b p : Nat} (h : s[p]? = some (.lst (enc ps))) (hl : ps.length < 100000) (x y : Nat) : mtR gd b .append (.cell p) [.tup [.int (x : Int), .int (y : Int)]] s = .ok (.v .non) (s.set p (.lst (enc (ps ++ [(x, y)])))) := by
  rw [append_run h (by simp [okW, cb, cbs]) (by simpa [enc] using hl)]
  simp [enc, encP]
theorem enc_len {p : Nat} (h : s[p]? = some (.lst (enc ps))) : bltR .len [.cell p] s = some (.v (.int ((ps.length : Nat) : Int))) := by
  rw [len_cell h]
  simp [enc]
theorem find_snoc {x y : Nat} (h : (ps.findIdx? fun q => decide (q = (x, y))) = none) : ((ps ++ [(x, y)]).findIdx? fun q => decide (q = (x, y))) = some ps.length := by
  rw [List.findIdx?_append, h]
  simp [List.findIdx?_cons]
theorem fld_at {na : Nat → Str → Bool} {q c : Nat} {fs : List (Str × D)} {f : Str} {d : D} (h : s[q]? = some (.ins c fs)) (hn : na c f = true) (hf : fs.lookup f = some d) : fldR na (.cell q) f s = some (.v d) := by
  simp only [fldR, objOf, h, Option.bind_some, hn, if_true, hf, Option.map_some]
end
/-- the program's builder in the store -/
structure PB (s : Store) (q p t I L : Nat) (ps : List (Nat × Nat)) : Prop where
  oo : s[q]? = some (.ins 0 [("inputs", .int (I : Nat)), ("latches", .int (L : Nat)), ("_pairs", .cell p), ("_literals", .cell t)])
  pp : s[p]? = some (.lst (enc ps))
  tt : s[t]? = some (.dt (tab (1 + I + L) ps))
def putP (s : Store) (p t V : Nat) (ps : List (Nat × Nat)) : Store := (s.set t (.dt (tab V ps))).set p (.lst (enc ps))
/-- the law's builder in the store -/
structure LB (s : Store) (q p t V : Nat) (ps : List (Nat × Nat)) : Prop where
  oo : s[q]? = some (.lst [.int ((V + ps.length : Nat) : Int), .cell t, .cell p])
  pp : s[p]? = some (.lst (enc ps))
  tt : s[t]? = some (.dt (tab V ps))
  pq : p ≠ q
def putL (s : Store) (q p t V : Nat) (ps : List (Nat × Nat)) : Store := ((s.set t (.dt (tab V ps))).set q (.lst [.int ((V + ps.length : Nat) : Int), .cell t, .cell p])).set p (.lst (enc ps))
section
variable {s : Store} {q p t I L V n : Nat} {ps ps' ps1 : List (Nat × Nat)} {v : O}
theorem PB.ne (h : PB s q p t I L ps) : q ≠ p ∧ q ≠ t ∧ p ≠ t := ⟨get_ne h.oo h.pp (by simp), get_ne h.oo h.tt (by simp), get_ne h.pp h.tt (by simp)⟩
theorem PB.same (h : PB s q p t I L ps) : putP s p t (1 + I + L) ps = s := by
  unfold putP
  rw [set_same h.tt, set_same h.pp]
theorem PB.put (h : PB s q p t I L ps) (ps' : List (Nat × Nat)) : PB (putP s p t (1 + I + L) ps') q p t I L ps' := by
  obtain ⟨h1, h2, h3⟩ := h.ne
  have l1 := get_lt h.pp
  have l2 := get_lt h.tt
  unfold putP
  refine ⟨?_, ?_, ?_⟩
  · rw [List.getElem?_set_ne h1.symm, List.getElem?_set_ne h2.symm]
    exact h.oo
  · rw [List.getElem?_set_self (by simpa using l1)]
  · rw [List.getElem?_set_ne h3, List.getElem?_set_self l2]
theorem PB.put2 (h : PB s q p t I L ps) : putP (putP s p t (1 + I + L) ps1) p t (1 + I + L) ps' = putP s p t (1 + I + L) ps' := by
  obtain ⟨h1, h2, h3⟩ := h.ne
  unfold putP
  rw [List.set_comm _ _ h3, List.set_set, List.set_set]
theorem PB.set (h : PB s q p t I L ps) (h1 : n ≠ q) (h2 : n ≠ p) (h3 : n ≠ t) : PB (s.set n v) q p t I L ps :=
  ⟨by rw [List.getElem?_set_ne h1]; exact h.oo, by rw [List.getElem?_set_ne h2]; exact h.pp, by rw [List.getElem?_set_ne h3]; exact h.tt⟩
theorem PB.app (h : PB s q p t I L ps) (r : Store) : PB (s ++ r) q p t I L ps :=
  ⟨by rw [List.getElem?_append_left (get_lt h.oo)]; exact h.oo, by rw [List.getElem?_append_left (get_lt h.pp)]; exact h.pp, by rw [List.getElem?_append_left (get_lt h.tt)]; exact h.tt⟩
theorem PB.put_app (h : PB s q p t I L ps) (r : Store) : putP (s ++ r) p t V ps' = putP s p t V ps' ++ r := by
  unfold putP
  rw [List.set_append_left _ _ (get_lt h.tt), List.set_append_left _ _ (by simpa using get_lt h.pp)]
theorem putP_len : (putP s p t V ps).length = s.length := by simp [putP]
theorem LB.ne (h : LB s q p t V ps) : q ≠ p ∧ q ≠ t ∧ p ≠ t := ⟨h.pq.symm, get_ne h.oo h.tt (by simp), get_ne h.pp h.tt (by simp)⟩
theorem LB.same (h : LB s q p t V ps) : putL s q p t V ps = s := by
  unfold putL
  rw [set_same h.tt, set_same h.oo, set_same h.pp]
theorem LB.put (h : LB s q p t V ps) (ps' : List (Nat × Nat)) : LB (putL s q p t V ps') q p t V ps' := by
  obtain ⟨h1, h2, h3⟩ := h.ne
  have l1 := get_lt h.pp
  have l2 := get_lt h.tt
  have l3 := get_lt h.oo
  unfold putL
  refine ⟨?_, ?_, ?_, h.pq⟩
  · rw [List.getElem?_set_ne h1.symm, List.getElem?_set_self (by simpa using l3)]
  · rw [List.getElem?_set_self (by simpa using l1)]
  · rw [List.getElem?_set_ne h3, List.getElem?_set_ne h2, List.getElem?_set_self l2]
theorem LB.put2 (h : LB s q p t V ps) : putL (putL s q p t V ps1) q p t V ps' = putL s q p t V ps' := by
  obtain ⟨h1, h2, h3⟩ := h.ne
  unfold putL
  rw [List.set_comm _ _ h3, List.set_comm _ _ h2, List.set_set, List.set_comm _ _ h1.symm, List.set_set, List.set_set]
theorem LB.set (h : LB s q p t V ps) (h1 : n ≠ q) (h2 : n ≠ p) (h3 : n ≠ t) : LB (s.set n v) q p t V ps :=
  ⟨by rw [List.getElem?_set_ne h1]; exact h.oo, by rw [List.getElem?_set_ne h2]; exact h.pp, by rw [List.getElem?_set_ne h3]; exact h.tt, h.pq⟩
theorem LB.app (h : LB s q p t V ps) (r : Store) : LB (s ++ r) q p t V ps :=
  ⟨by rw [List.getElem?_append_left (get_lt h.oo)]; exact h.oo, by rw [List.getElem?_append_left (get_lt h.pp)]; exact h.pp, by rw [List.getElem?_append_left (get_lt h.tt)]; exact h.tt, h.pq⟩
theorem LB.put_app (h : LB s q p t V ps) (r : Store) : putL (s ++ r) q p t V ps' = putL s q p t V ps' ++ r := by
  unfold putL
  rw [List.set_append_left _ _ (get_lt h.tt), List.set_append_left _ _ (by simpa using get_lt h.oo), List.set_append_left _ _ (by simpa using get_lt h.pp)]
theorem putL_len : (putL s q p t V ps).length = s.length := by simp [putL]
end
end En
namespace K13
open PySem PySem.Spec PyProof.Rows L2 En
variable {s : Store} {q p t I L V n : Nat} {ps : List (Nat × Nat)} {f : Den}
theorem div_ne {a b : Nat} (h : a ≠ b) : decide ((a : Int) = b) = false := by simp; omega
theorem div_eq {a b : Nat} (h : a = b) : decide ((a : Int) = b) = true := by simp [h]
theorem pboth (h : PB s q p t I L ps) (hl : ps.length < 90000) (b a c : Nat) :
    i_Builder_both.run (tb.glo f) b [.cell q, .int (a : Nat), .int (c : Nat)] s = .ok (.v (.int ((BN.both (1 + I + L) ps a c).1 : Nat))) (putP s p t (1 + I + L) (BN.both (1 + I + L) ps a c).2) := by
  rw [run_F rfl]
  generalize hV : 1 + I + L = V
  have hs := h.same
  rw [hV] at hs
  unfold BN.both
  have l2 := fdiv2_nat (s := s) (min a c)
  have h2 := fdiv2_nat (s := s) (max a c)
  have lit := fld_at (na := (tb.glo f).na) (f := "_literals") h.oo rfl rfl
  have inp := fld_at (na := (tb.glo f).na) (f := "inputs") h.oo rfl rfl
  have lat := fld_at (na := (tb.glo f).na) (f := "latches") h.oo rfl rfl
  have prs := fld_at (na := (tb.glo f).na) (f := "_pairs") h.oo rfl rfl
  have ht := h.tt
  rw [hV] at ht
  split
  · rename_i z
    rw [hs]
    apply run_ret rfl
    · unfold i_Builder_both
      show xSs _ _ _ [some (.cell q), some (.int a), some (.int c), none, none, none] _ = _
      (exists min2_nat _ _, max2_nat _ _, dec1 (by omega))
    · simp [endR, cb]
  · rename_i z
    split
    · rename_i z1
      rw [hs]
      apply run_ret rfl
      · unfold i_Builder_both
        show xSs _ _ _ [some (.cell q), some (.int a), some (.int c), none, none, none] _ = _
        rcases z1 with z1 | z1
        · (exists min2_nat _ _, max2_nat _ _, dec1 (by omega), dec0 (by omega))
        · by_cases z2 : min a c = 1
          · (exists min2_nat _ _, max2_nat _ _, dec1 (by omega), dec0 (by omega))
          · (exists min2_nat _ _, max2_nat _ _, dec1 (by omega), dec0 (by omega))
      · simp [endR, cb]
    · rename_i z1
      split
      · rename_i z2
        rw [hs]
        apply run_ret rfl
        · unfold i_Builder_both
          show xSs _ _ _ [some (.cell q), some (.int a), some (.int c), none, none, none] _ = _
          (exists min2_nat _ _, max2_nat _ _, l2, h2, dec1 (by omega), dec0 (by omega))
        · simp [endR, cb]
      · rename_i z2
        split
        · rename_i i hi
          rw [hs]
          have e1 := tab_in (gd := (tb.glo f).gd) ht (min a c) (max a c)
          rw [hi] at e1
          have e2 := tab_ix (gd := (tb.glo f).gd) ht hi
          apply run_ret rfl
          · unfold i_Builder_both
            show xSs _ _ _ [some (.cell q), some (.int a), some (.int c), none, none, none] _ = _
            (exists min2_nat _ _, max2_nat _ _, l2, h2, e1, e2, lit, dec1 (by omega), dec0 (by omega))
          · simp [endR, cb]
        · rename_i hi
          have e1 := tab_in (gd := (tb.glo f).gd) ht (min a c) (max a c)
          rw [hi] at e1
          have n1 := h.ne.2.1
          have n2 := h.ne.1
          have n3 := h.ne.2.2
          have e2 := tab_set (b := s.length) ht hi (by omega) rfl
          have e3 := enc_app (gd := (tb.glo f).gd) (b := s.length) (s := s.set t (.dt (tab V (ps ++ [(min a c, max a c)])))) (by rw [List.getElem?_set_ne n3.symm]; exact h.pp) (by omega) (min a c) (max a c)
          have p1 := fld_at (na := (tb.glo f).na) (f := "_pairs") (s := s.set t (.dt (tab V (ps ++ [(min a c, max a c)])))) (by rw [List.getElem?_set_ne n1.symm]; exact h.oo) rfl rfl
          have p2 := isLst_cell (s := s.set t (.dt (tab V (ps ++ [(min a c, max a c)])))) (by rw [List.getElem?_set_ne n3.symm]; exact h.pp)
          have hp := h.put (ps ++ [(min a c, max a c)])
          rw [hV] at hp
          have lit2 := fld_at (na := (tb.glo f).na) (f := "_literals") hp.oo rfl rfl
          have ht2 := hp.tt
          rw [hV] at ht2
          have e4 := tab_ix (gd := (tb.glo f).gd) ht2 (find_snoc hi)
          have a1 := add_nat (s := s) 1 I
          have a2 := add_nat (s := s) (1 + I) L
          have a3 := add_nat (s := s) V ps.length
          rw [hV] at a2
          have a4 := mul_nat (s := s) 2 (V + ps.length) (by decide)
          have len := enc_len h.pp
          apply run_ret rfl
          · unfold i_Builder_both
            show xSs _ _ _ [some (.cell q), some (.int a), some (.int c), none, none, none] _ = _
            (exists min2_nat _ _, max2_nat _ _, l2, h2, e1, lit, inp, lat, prs, len, a1, a2, a3, a4, e2, p1, p2, e3, lit2, e4, dec1 (by omega), dec0 (by omega))
          · exact end_int (by simp)
/-- a method of the builder with two literals -/
def Op3 (f : Den) (j : Nat) (F : Nat → List (Nat × Nat) → Nat → Nat → Nat × List (Nat × Nat)) (B : Nat := 80000) : Prop := ∀ {s : Store} {q p t I L : Nat} {ps : List (Nat × Nat)} (b a c : Nat), PB s q p t I L ps → ps.length < B →
  f.fn j b [.cell q, .int (a : Nat), .int (c : Nat)] s = .ok (.v (.int ((F (1 + I + L) ps a c).1 : Nat))) (putP s p t (1 + I + L) (F (1 + I + L) ps a c).2)
def Op3L (f : Den) (j : Nat) (F : Nat → List (Nat × Nat) → Nat → Nat → Nat × List (Nat × Nat)) (B : Nat := 80000) : Prop := ∀ {s : Store} {q p t V : Nat} {ps : List (Nat × Nat)} (b a c : Nat), LB s q p t V ps → ps.length < B →
  f.fn j b [.cell q, .int (a : Nat), .int (c : Nat)] s = .ok (.v (.int ((F V ps a c).1 : Nat))) (putL s q p t V (F V ps a c).2)
def OkT (f : Den) : Prop := ∀ a : Nat, f.fn 0 0 [.int (a : Nat)] [] = .ok (.v (.int (BN.tn a : Nat))) []
theorem turned_ok (k : Nat) : OkT (tb.den (k + 1)) := fun a => by
  rw [den_succ (i := i_turned) rfl, run_F rfl]
  apply run_ret rfl
  · unfold i_turned
    show xSs _ _ _ [some (.int a)] _ = _
    (exists tn_op a)
  · rfl
theorem pboth_ok (k : Nat) : Op3 (tb.den (k + 1)) 35 BN.both 90000 := fun b a c h hl => by
  rw [den_succ (i := i_Builder_both) rfl]
  exact pboth h (by omega) b a c
theorem peither_ok {f : Den} (hT : OkT f) (hB : Op3 f 35 BN.both 90000) (h : PB s q p t I L ps) (hl : ps.length < 90000) (b a c : Nat) : i_Builder_either.run (tb.glo f) b [.cell q, .int (a : Nat), .int (c : Nat)] s = .ok (.v (.int ((BN.either (1 + I + L) ps a c).1 : Nat))) (putP s p t (1 + I + L) (BN.either (1 + I + L) ps a c).2) := by
  rw [run_F rfl]
  apply run_ret rfl
  · unfold i_Builder_either
    show xSs _ _ _ [some (.cell q), some (.int a), some (.int c)] _ = _
    have b1 := hB s.length (BN.tn a) (BN.tn c) h hl
    (exists callR_of rfl (hT _), obj_at h.oo, callR_at rfl b1)
  · exact end_int putP_len
theorem pdiffer_ok {f : Den} (hT : OkT f) (hB : Op3 f 35 BN.both 90000) (hE : Op3 f 36 BN.either 90000) (h : PB s q p t I L ps) (hl : ps.length < 80000) (b a c : Nat) : i_Builder_differ.run (tb.glo f) b [.cell q, .int (a : Nat), .int (c : Nat)] s = .ok (.v (.int ((BN.differ (1 + I + L) ps a c).1 : Nat))) (putP s p t (1 + I + L) (BN.differ (1 + I + L) ps a c).2) := by
  rw [run_F rfl]
  have n1 := BN.both_len (1 + I + L) ps a (BN.tn c)
  have n2 := BN.both_len (1 + I + L) (BN.both (1 + I + L) ps a (BN.tn c)).2 (BN.tn a) c
  have b1 := hB s.length a (BN.tn c) h (by omega)
  have h1 := h.put (BN.both (1 + I + L) ps a (BN.tn c)).2
  have b2 := hB s.length (BN.tn a) c h1 (by omega)
  rw [h.put2] at b2
  have h2 := h.put (BN.both (1 + I + L) (BN.both (1 + I + L) ps a (BN.tn c)).2 (BN.tn a) c).2
  have b3 := hE s.length (BN.both (1 + I + L) ps a (BN.tn c)).1 (BN.both (1 + I + L) (BN.both (1 + I + L) ps a (BN.tn c)).2 (BN.tn a) c).1 h2 (by omega)
  rw [h.put2] at b3
  apply run_ret rfl
  · unfold i_Builder_differ
    show xSs _ _ _ [some (.cell q), some (.int a), some (.int c), none, none] _ = _
    (exists callR_of rfl (hT _), obj_at h.oo, obj_at h1.oo, obj_at h2.oo, callR_at rfl b1, callR_at rfl b2, callR_at rfl b3)
  · exact end_int putP_len
/-- choose -/
def Op4 (f : Den) : Prop := ∀ {s : Store} {q p t I L : Nat} {ps : List (Nat × Nat)} (b z a c : Nat), PB s q p t I L ps → ps.length < 70000 →
  f.fn 38 b [.cell q, .int (z : Nat), .int (a : Nat), .int (c : Nat)] s = .ok (.v (.int ((BN.choose (1 + I + L) ps z a c).1 : Nat))) (putP s p t (1 + I + L) (BN.choose (1 + I + L) ps z a c).2)
theorem pchoose_ok {f : Den} (hT : OkT f) (hB : Op3 f 35 BN.both 90000) (hE : Op3 f 36 BN.either 90000) (h : PB s q p t I L ps) (hl : ps.length < 70000) (b z a c : Nat) : i_Builder_choose.run (tb.glo f) b [.cell q, .int (z : Nat), .int (a : Nat), .int (c : Nat)] s = .ok (.v (.int ((BN.choose (1 + I + L) ps z a c).1 : Nat))) (putP s p t (1 + I + L) (BN.choose (1 + I + L) ps z a c).2) := by
  rw [run_F rfl]
  have n1 := BN.both_len (1 + I + L) ps z a
  have n2 := BN.both_len (1 + I + L) (BN.both (1 + I + L) ps z a).2 (BN.tn z) c
  have b1 := hB s.length z a h (by omega)
  have h1 := h.put (BN.both (1 + I + L) ps z a).2
  have b2 := hB s.length (BN.tn z) c h1 (by omega)
  rw [h.put2] at b2
  have h2 := h.put (BN.both (1 + I + L) (BN.both (1 + I + L) ps z a).2 (BN.tn z) c).2
  have b3 := hE s.length (BN.both (1 + I + L) ps z a).1 (BN.both (1 + I + L) (BN.both (1 + I + L) ps z a).2 (BN.tn z) c).1 h2 (by omega)
  rw [h.put2] at b3
  apply run_ret rfl
  · unfold i_Builder_choose
    show xSs _ _ _ [some (.cell q), some (.int z), some (.int a), some (.int c), none, none] _ = _
    (exists callR_of rfl (hT _), obj_at h.oo, obj_at h1.oo, obj_at h2.oo, callR_at rfl b1, callR_at rfl b2, callR_at rfl b3)
  · exact end_int putP_len
theorem low1 (a : Nat) : a &&& 1 = a % 2 := Nat.and_one_is_mod a
theorem lboth (h : LB s q p t V ps) (hl : ps.length < 90000) (b a c : Nat) :
    i_law_both.run (tb.glo f) b [.cell q, .int (a : Nat), .int (c : Nat)] s = .ok (.v (.int ((BN.both V ps a c).1 : Nat))) (putL s q p t V (BN.both V ps a c).2) := by
  rw [run_F rfl]
  have hs := h.same
  unfold BN.both
  have hx := tn_op (s := s) (min a c)
  have ha := and_nat (s := s) (min a c) 1
  rw [low1] at ha
  have tne := BN.tn_eq (min a c)
  have mm : min a c ≤ max a c := by omega
  have i1 : ixR (tb.glo f).gd (.cell q) (.int 1) s = some (.v (.cell t)) := by
    have := h.oo
    simp only [ixR, seqOf, this]
    rfl
  split
  · rename_i z
    rw [hs]
    apply run_ret rfl
    · unfold i_law_both
      show xSs _ _ _ [some (.cell q), some (.int a), some (.int c), none, none] _ = _
      (exists min2_nat _ _, max2_nat _ _, dec1 (by omega))
    · simp [endR, cb]
  · rename_i z
    split
    · rename_i z1
      rw [hs]
      have nx : ¬ (BN.tn (min a c) = max a c ∧ min a c % 2 = 0) := by
        rw [tne]
        split <;> omega
      apply run_ret (r := .v (.int ((max a c : Nat) : Int))) rfl
      · unfold i_law_both
        show xSs _ _ _ [some (.cell q), some (.int a), some (.int c), none, none] _ = _
        by_cases w : BN.tn (min a c) = max a c
        · by_cases z2 : min a c = 1
          · (exists min2_nat _ _, max2_nat _ _, hx, ha, dec1 (by omega), dec0 (by omega))
          · have e : max a c = min a c := by omega
            exfalso
            rw [e] at w
            rw [w] at tne
            split at tne <;> omega
        · by_cases z2 : min a c = 1
          · (exists min2_nat _ _, max2_nat _ _, hx, ha, dec1 (by omega), dec0 (by omega))
          · have e : max a c = min a c := by omega
            rw [e]
            rw [e] at w
            have mx := max2_nat (s := s) a c
            rw [e] at mx
            (exists min2_nat _ _, mx, hx, ha, dec1 (by omega), dec0 (by omega))
      · simp [endR, cb]
    · rename_i z1
      split
      · rename_i z2
        rw [hs]
        have y1 : min a c % 2 = 0 ∧ BN.tn (min a c) = max a c := by
          rw [tne]
          split <;> omega
        apply run_ret rfl
        · unfold i_law_both
          show xSs _ _ _ [some (.cell q), some (.int a), some (.int c), none, none] _ = _
          (exists min2_nat _ _, max2_nat _ _, hx, ha, dec1 (by omega), dec0 (by omega))
        · simp [endR, cb]
      · rename_i z2
        have nx : ¬ (BN.tn (min a c) = max a c ∧ min a c % 2 = 0) := by
          rw [tne]
          split <;> omega
        have nx : ¬ BN.tn (min a c) = max a c := by
          rw [tne] at nx ⊢
          split at nx <;> split <;> omega
        split
        · rename_i i hi
          rw [hs]
          have e1 := tab_in (gd := (tb.glo f).gd) h.tt (min a c) (max a c)
          rw [hi] at e1
          have e2 := tab_ix (gd := (tb.glo f).gd) h.tt hi
          apply run_ret rfl
          · unfold i_law_both
            show xSs _ _ _ [some (.cell q), some (.int a), some (.int c), none, none] _ = _
            (exists min2_nat _ _, max2_nat _ _, hx, ha, i1, e1, e2, dec1 (by omega), dec0 (by omega))
          · simp [endR, cb]
        · rename_i hi
          have e1 := tab_in (gd := (tb.glo f).gd) h.tt (min a c) (max a c)
          rw [hi] at e1
          have n1 := h.ne.2.1
          have n2 := h.ne.1
          have n3 := h.ne.2.2
          have e2 := tab_set (b := s.length) h.tt hi (by omega) rfl
          have hp := h.put (ps ++ [(min a c, max a c)])
          have e4 := tab_ix (gd := (tb.glo f).gd) hp.tt (find_snoc hi)
          have a4 := mul_nat (s := s) 2 (V + ps.length) (by decide)
          have i0 : ixR (tb.glo f).gd (.cell q) (.int 0) s = some (.v (.int ((V + ps.length : Nat) : Int))) := by
            have := h.oo
            simp only [ixR, seqOf, this]
            rfl
          generalize hS : s.set t (.dt (tab V (ps ++ [(min a c, max a c)]))) = S1
          rw [hS] at e2
          have q1 : S1[q]? = some (.lst [.int ((V + ps.length : Nat) : Int), .cell t, .cell p]) := by
            rw [← hS, List.getElem?_set_ne n1.symm]
            exact h.oo
          have p1 : S1[p]? = some (.lst (enc ps)) := by
            rw [← hS, List.getElem?_set_ne n3.symm]
            exact h.pp
          have i0' : ixR (tb.glo f).gd (.cell q) (.int 0) S1 = some (.v (.int ((V + ps.length : Nat) : Int))) := by
            simp only [ixR, seqOf, q1]
            rfl
          have a5 := add_nat (s := S1) (V + ps.length) 1
          have e3 : setR s.length (.cell q) (.int 0) (.int ((V + ps.length + 1 : Nat) : Int)) S1 = .ok () (S1.set q (.lst [.int ((V + ps.length + 1 : Nat) : Int), .cell t, .cell p])) := by
            simp only [setR, q1]
            simp [ixN, okW, cb]
          generalize hS2 : S1.set q (.lst [.int ((V + ps.length + 1 : Nat) : Int), .cell t, .cell p]) = S2
          rw [hS2] at e3
          have q2 : S2[q]? = some (.lst [.int ((V + ps.length + 1 : Nat) : Int), .cell t, .cell p]) := by
            rw [← hS2, List.getElem?_set_self (get_lt q1)]
          have p2 : S2[p]? = some (.lst (enc ps)) := by
            rw [← hS2, List.getElem?_set_ne n2]
            exact p1
          have i2 : ixR (tb.glo f).gd (.cell q) (.int 2) S2 = some (.v (.cell p)) := by
            simp only [ixR, seqOf, q2]
            rfl
          have e5 := enc_app (gd := (tb.glo f).gd) (b := s.length) p2 (by omega) (min a c) (max a c)
          have hS3 : S2.set p (.lst (enc (ps ++ [(min a c, max a c)]))) = putL s q p t V (ps ++ [(min a c, max a c)]) := by
            unfold putL
            rw [hS, ← hS2, List.length_append]
            rfl
          rw [hS3] at e5
          have i3 : ixR (tb.glo f).gd (.cell q) (.int 1) (putL s q p t V (ps ++ [(min a c, max a c)])) = some (.v (.cell t)) := by
            have := hp.oo
            simp only [ixR, seqOf, this]
            rfl
          apply run_ret rfl
          · unfold i_law_both
            show xSs _ _ _ [some (.cell q), some (.int a), some (.int c), none, none] _ = _
            (exists min2_nat _ _, max2_nat _ _, hx, ha, i1, e1, i0, a4, e2, i0', a5, e3, i2, isLst_cell p2, e5, i3, e4, dec1 (by omega), dec0 (by omega))
          · exact end_int putL_len
theorem leither_ok {f : Den} (hB : Op3L f 15 BN.both 90000) (h : LB s q p t V ps) (hl : ps.length < 90000) (b a c : Nat) : i_law_either.run (tb.glo f) b [.cell q, .int (a : Nat), .int (c : Nat)] s = .ok (.v (.int ((BN.either V ps a c).1 : Nat))) (putL s q p t V (BN.either V ps a c).2) := by
  rw [run_F rfl]
  apply run_ret rfl
  · unfold i_law_either
    show xSs _ _ _ [some (.cell q), some (.int a), some (.int c)] _ = _
    have b1 := hB s.length (BN.tn a) (BN.tn c) h hl
    (exists tn_op _, callR_at rfl b1)
  · exact end_int putL_len
theorem ldiffer_ok {f : Den} (hB : Op3L f 15 BN.both 90000) (h : LB s q p t V ps) (hl : ps.length < 80000) (b a c : Nat) : i_law_differ.run (tb.glo f) b [.cell q, .int (a : Nat), .int (c : Nat)] s = .ok (.v (.int ((BN.differ V ps a c).1 : Nat))) (putL s q p t V (BN.differ V ps a c).2) := by
  rw [run_F rfl]
  have n1 := BN.both_len V ps a (BN.tn c)
  have n2 := BN.both_len V (BN.both V ps a (BN.tn c)).2 (BN.tn a) c
  have b1 := hB s.length a (BN.tn c) h (by omega)
  have h1 := h.put (BN.both V ps a (BN.tn c)).2
  have b2 := hB s.length (BN.tn a) c h1 (by omega)
  rw [h.put2] at b2
  have h2 := h.put (BN.both V (BN.both V ps a (BN.tn c)).2 (BN.tn a) c).2
  have b3 := hB s.length (BN.tn (BN.both V ps a (BN.tn c)).1) (BN.tn (BN.both V (BN.both V ps a (BN.tn c)).2 (BN.tn a) c).1) h2 (by omega)
  rw [h.put2] at b3
  apply run_ret rfl
  · unfold i_law_differ
    show xSs _ _ _ [some (.cell q), some (.int a), some (.int c), none, none] _ = _
    (exists tn_op _, callR_at rfl b1, callR_at rfl b2, callR_at rfl b3)
  · exact end_int putL_len
def Op4L (f : Den) : Prop := ∀ {s : Store} {q p t V : Nat} {ps : List (Nat × Nat)} (b z a c : Nat), LB s q p t V ps → ps.length < 70000 →
  f.fn 18 b [.cell q, .int (z : Nat), .int (a : Nat), .int (c : Nat)] s = .ok (.v (.int ((BN.choose V ps z a c).1 : Nat))) (putL s q p t V (BN.choose V ps z a c).2)
theorem lchoose_ok {f : Den} (hB : Op3L f 15 BN.both 90000) (h : LB s q p t V ps) (hl : ps.length < 70000) (b z a c : Nat) : i_law_choose.run (tb.glo f) b [.cell q, .int (z : Nat), .int (a : Nat), .int (c : Nat)] s = .ok (.v (.int ((BN.choose V ps z a c).1 : Nat))) (putL s q p t V (BN.choose V ps z a c).2) := by
  rw [run_F rfl]
  have n1 := BN.both_len V ps z a
  have n2 := BN.both_len V (BN.both V ps z a).2 (BN.tn z) c
  have b1 := hB s.length z a h (by omega)
  have h1 := h.put (BN.both V ps z a).2
  have b2 := hB s.length (BN.tn z) c h1 (by omega)
  rw [h.put2] at b2
  have h2 := h.put (BN.both V (BN.both V ps z a).2 (BN.tn z) c).2
  have b3 := hB s.length (BN.tn (BN.both V ps z a).1) (BN.tn (BN.both V (BN.both V ps z a).2 (BN.tn z) c).1) h2 (by omega)
  rw [h.put2] at b3
  apply run_ret rfl
  · unfold i_law_choose
    show xSs _ _ _ [some (.cell q), some (.int z), some (.int a), some (.int c), none, none] _ = _
    (exists tn_op _, callR_at rfl b1, callR_at rfl b2, callR_at rfl b3)
  · exact end_int putL_len
end K13

set_option Elab.async false
set_option linter.all false
set_option maxRecDepth 100000
set_option maxHeartbeats 1000000
namespace K13
open PySem PySem.Spec PyProof.Rows L2 En
def wd (ls : List Nat) : List D := ls.map fun l => .int (l : Nat)
theorem wd_snoc (ls : List Nat) (l : Nat) : wd (ls ++ [l]) = wd ls ++ [.int (l : Nat)] := by simp [wd]
theorem wd_len (ls : List Nat) : (wd ls).length = ls.length := by simp [wd]
variable {s : Store} {q p t I L V n : Nat} {ps ps0 : List (Nat × Nat)} {f : Den}
theorem app_own {gd : Nat → List (Str × D)} {b n : Nat} (s : Store) (ds : List D) (d : D) (hn : s.length = n) (hb : b ≤ n) (hl : ds.length < 100000) : mtR gd b .append (.cell n) [d] (s ++ [.lst ds]) = .ok (.v .non) (s ++ [.lst (ds ++ [d])]) := by
  subst hn
  rw [append_run (by simp) (okW_own d hb) hl]
  simp
theorem isl_own {n : Nat} (s : Store) (ds : List D) (hn : s.length = n) : isLst (s ++ [.lst ds]) (.cell n) = true := by
  subst hn
  exact isLst_cell (ds := ds) (by simp)
/-- what the program's builder can -/
structure Pr (f : Den) : Prop where
  tn : OkT f
  both : Op3 f 35 BN.both
  either : Op3 f 36 BN.either
  differ : Op3 f 37 BN.differ
  choose : Op4 f
structure Lw (f : Den) : Prop where
  both : Op3L f 15 BN.both
  either : Op3L f 16 BN.either
  differ : Op3L f 17 BN.differ
  choose : Op4L f
theorem Op3.next {j : Nat} {F : Nat → List (Nat × Nat) → Nat → Nat → Nat × List (Nat × Nat)} (o : Op3 f j F) (h : PB s q p t I L ps0) (ps : List (Nat × Nat)) (hl : ps.length < 80000) (r : Store) (b a c : Nat) :
    callR (f.fn j) b [.cell q, .int (a : Nat), .int (c : Nat)] (putP s p t (1 + I + L) ps ++ r) = .ok (.v (.int ((F (1 + I + L) ps a c).1 : Nat))) (putP s p t (1 + I + L) (F (1 + I + L) ps a c).2 ++ r) := by
  refine callR_at rfl ?_
  have h1 := h.put ps
  rw [o b a c (h1.app r) hl, h1.put_app, h.put2]
theorem Op4.next (o : Op4 f) (h : PB s q p t I L ps0) (ps : List (Nat × Nat)) (hl : ps.length < 70000) (r : Store) (b z a c : Nat) :
    callR (f.fn 38) b [.cell q, .int (z : Nat), .int (a : Nat), .int (c : Nat)] (putP s p t (1 + I + L) ps ++ r) = .ok (.v (.int ((BN.choose (1 + I + L) ps z a c).1 : Nat))) (putP s p t (1 + I + L) (BN.choose (1 + I + L) ps z a c).2 ++ r) := by
  refine callR_at rfl ?_
  have h1 := h.put ps
  rw [o b z a c (h1.app r) hl, h1.put_app, h.put2]
theorem Op3L.next {j : Nat} {F : Nat → List (Nat × Nat) → Nat → Nat → Nat × List (Nat × Nat)} (o : Op3L f j F) (h : LB s q p t V ps0) (ps : List (Nat × Nat)) (hl : ps.length < 80000) (r : Store) (b a c : Nat) :
    callR (f.fn j) b [.cell q, .int (a : Nat), .int (c : Nat)] (putL s q p t V ps ++ r) = .ok (.v (.int ((F V ps a c).1 : Nat))) (putL s q p t V (F V ps a c).2 ++ r) := by
  refine callR_at rfl ?_
  have h1 := h.put ps
  rw [o b a c (h1.app r) hl, h1.put_app, h.put2]
theorem Op4L.next (o : Op4L f) (h : LB s q p t V ps0) (ps : List (Nat × Nat)) (hl : ps.length < 70000) (r : Store) (b z a c : Nat) :
    callR (f.fn 18) b [.cell q, .int (z : Nat), .int (a : Nat), .int (c : Nat)] (putL s q p t V ps ++ r) = .ok (.v (.int ((BN.choose V ps z a c).1 : Nat))) (putL s q p t V (BN.choose V ps z a c).2 ++ r) := by
  refine callR_at rfl ?_
  have h1 := h.put ps
  rw [o b z a c (h1.app r) hl, h1.put_app, h.put2]
def sumB : ISs := (.cons (.asg (.name 7) (.mcall "differ" (.var 0) (.cons (.var 5) (.cons (.var 6) .nil))))
    (.cons (.expr (.mt .append (.var 4) (.cons (.mcall "differ" (.var 0) (.cons (.var 7) (.cons (.var 3) .nil))) .nil)))
    (.cons (.asg (.name 8) (.mcall "both" (.var 0) (.cons (.var 5) (.cons (.var 6) .nil))))
    (.cons (.asg (.name 9) (.mcall "both" (.var 0) (.cons (.var 7) (.cons (.var 3) .nil))))
    (.cons (.asg (.name 3) (.mcall "either" (.var 0) (.cons (.var 8) (.cons (.var 9) .nil))))
    .nil)))))
def g56 : IG := .tup (.cons (.name 5) (.cons (.name 6) .nil))
theorem sum_len {ps : List (Nat × Nat)} {a b c : Nat} {x y u v k : Nat × List (Nat × Nat)}
    (hx : BN.differ V ps a b = x) (hy : BN.differ V x.2 x.1 c = y) (hu : BN.both V y.2 a b = u) (hv : BN.both V u.2 x.1 c = v) (hk : BN.either V v.2 u.1 v.1 = k) : k.2.length ≤ ps.length + 9 := by
  have n1 := BN.differ_len V ps a b
  have n2 := BN.differ_len V x.2 x.1 c
  have n3 := BN.both_len V y.2 a b
  have n4 := BN.both_len V u.2 x.1 c
  have n5 := BN.either_len V v.2 u.1 v.1
  rw [hx] at n1
  rw [hy] at n2
  rw [hu] at n3
  rw [hv] at n4
  rw [hk] at n5
  omega
theorem sum_cons {ps : List (Nat × Nat)} {a b c : Nat} {as bs : List Nat} {x y u v k : Nat × List (Nat × Nat)}
    (hx : BN.differ V ps a b = x) (hy : BN.differ V x.2 x.1 c = y) (hu : BN.both V y.2 a b = u) (hv : BN.both V u.2 x.1 c = v) (hk : BN.either V v.2 u.1 v.1 = k) :
    BN.sum V ps (a :: as) (b :: bs) c = (y.1 :: (BN.sum V k.2 as bs k.1).1, (BN.sum V k.2 as bs k.1).2) := by
  subst hx hy hu hv hk
  rfl
theorem psum_step (hP : Pr f) {A B : D} {x5 x6 x7 x8 x9 : Option D} {acc : List Nat} (h : PB s q p t I L ps0) (ps : List (Nat × Nat)) (hl : ps.length < 60000) (ha : acc.length < 60000) (a b c : Nat) {x y u v k : Nat × List (Nat × Nat)}
    (hx : BN.differ (1 + I + L) ps a b = x) (hy : BN.differ (1 + I + L) x.2 x.1 c = y) (hu : BN.both (1 + I + L) y.2 a b = u) (hv : BN.both (1 + I + L) u.2 x.1 c = v) (hk : BN.either (1 + I + L) v.2 u.1 v.1 = k) :
    bodyF (tb.glo f) s.length g56 sumB (.tup [.int (a : Nat), .int (b : Nat)]) [some (.cell q), some A, some B, some (.int (c : Nat)), some (.cell s.length), x5, x6, x7, x8, x9] (putP s p t (1 + I + L) ps ++ [.lst (wd acc)]) =
      .ok (.nx, [some (.cell q), some A, some B, some (.int (k.1 : Nat)), some (.cell s.length), some (.int (a : Nat)), some (.int (b : Nat)), some (.int (x.1 : Nat)), some (.int (u.1 : Nat)), some (.int (v.1 : Nat))])
        (putP s p t (1 + I + L) k.2 ++ [.lst (wd (acc ++ [y.1]))]) := by
  have n1 := BN.differ_len (1 + I + L) ps a b
  have n2 := BN.differ_len (1 + I + L) x.2 x.1 c
  have n3 := BN.both_len (1 + I + L) y.2 a b
  have n4 := BN.both_len (1 + I + L) u.2 x.1 c
  rw [hx] at n1
  rw [hy] at n2
  rw [hu] at n3
  rw [hv] at n4
  have c1 := Op3.next hP.differ h ps (by omega) [.lst (wd acc)] s.length a b
  rw [hx] at c1
  have c2 := Op3.next hP.differ h x.2 (by omega) [.lst (wd acc)] s.length x.1 c
  rw [hy] at c2
  have m := app_own (gd := (tb.glo f).gd) (putP s p t (1 + I + L) y.2) (wd acc) (.int (y.1 : Nat)) putP_len (Nat.le_refl _) (by rw [wd_len]; omega)
  rw [← wd_snoc] at m
  have c3 := Op3.next hP.both h y.2 (by omega) [.lst (wd (acc ++ [y.1]))] s.length a b
  rw [hu] at c3
  have c4 := Op3.next hP.both h u.2 (by omega) [.lst (wd (acc ++ [y.1]))] s.length x.1 c
  rw [hv] at c4
  have c5 := Op3.next hP.either h v.2 (by omega) [.lst (wd (acc ++ [y.1]))] s.length u.1 v.1
  rw [hk] at c5
  unfold g56 sumB
  (exists c1, c2, c3, c4, c5, m, obj_at ((h.put _).app _).oo, isl_own _ _ putP_len)
theorem psum_loop (hP : Pr f) {A B : D} (h : PB s q p t I L ps0) : ∀ (as bs : List Nat) (ps : List (Nat × Nat)) (acc : List Nat) (c : Nat) (x5 x6 x7 x8 x9 : Option D), ps.length + 9 * as.length < 60000 → acc.length + as.length < 60000 →
    ∃ c' x5' x6' x7' x8' x9', forL (bodyF (tb.glo f) s.length g56 sumB) (pairs2 (wd as) (wd bs)) [some (.cell q), some A, some B, some (.int (c : Nat)), some (.cell s.length), x5, x6, x7, x8, x9] (putP s p t (1 + I + L) ps ++ [.lst (wd acc)]) =
      .ok (.nx, [some (.cell q), some A, some B, some (.int (c' : Nat)), some (.cell s.length), x5', x6', x7', x8', x9']) (putP s p t (1 + I + L) (BN.sum (1 + I + L) ps as bs c).2 ++ [.lst (wd (acc ++ (BN.sum (1 + I + L) ps as bs c).1))])
  | a :: as, b :: bs, ps, acc, c, x5, x6, x7, x8, x9, hl, ha => by
    simp only [List.length_cons] at hl ha
    obtain ⟨x, hx⟩ : ∃ x, BN.differ (1 + I + L) ps a b = x := ⟨_, rfl⟩
    obtain ⟨y, hy⟩ : ∃ y, BN.differ (1 + I + L) x.2 x.1 c = y := ⟨_, rfl⟩
    obtain ⟨u, hu⟩ : ∃ u, BN.both (1 + I + L) y.2 a b = u := ⟨_, rfl⟩
    obtain ⟨v, hv⟩ : ∃ v, BN.both (1 + I + L) u.2 x.1 c = v := ⟨_, rfl⟩
    obtain ⟨k, hk⟩ : ∃ k, BN.either (1 + I + L) v.2 u.1 v.1 = k := ⟨_, rfl⟩
    have st := psum_step hP (A := A) (B := B) (x5 := x5) (x6 := x6) (x7 := x7) (x8 := x8) (x9 := x9) (acc := acc) h ps (by omega) (by omega) a b c hx hy hu hv hk
    have kl := sum_len hx hy hu hv hk
    obtain ⟨c', y5, y6, y7, y8, y9, e⟩ := psum_loop hP (A := A) (B := B) h as bs k.2 (acc ++ [y.1]) k.1 (some (.int (a : Nat))) (some (.int (b : Nat))) (some (.int (x.1 : Nat))) (some (.int (u.1 : Nat))) (some (.int (v.1 : Nat))) (by omega) (by rw [List.length_append]; simp only [List.length_singleton]; omega)
    refine ⟨c', y5, y6, y7, y8, y9, forL_cons st (e.trans ?_)⟩
    rw [List.append_assoc, sum_cons hx hy hu hv hk]
    rfl
  | [], bs, ps, acc, c, x5, x6, x7, x8, x9, hl, ha => ⟨c, x5, x6, x7, x8, x9, by simp [wd, pairs2, forL, BN.sum]⟩
  | a :: as, [], ps, acc, c, x5, x6, x7, x8, x9, hl, ha => ⟨c, x5, x6, x7, x8, x9, by simp [wd, pairs2, forL, BN.sum]⟩
theorem take_app {α : Type} {n : Nat} {s r : List α} (h : s.length = n) : (s ++ r).take n = s := by
  subst h
  simp
theorem wd_cb (b : Nat) (ls : List Nat) : cbs b (wd ls) = true := by
  rw [cbs_iff]
  intro d m
  simp only [wd, List.mem_map] at m
  obtain ⟨l, _, rfl⟩ := m
  rfl
theorem psum (hP : Pr f) (h : PB s q p t I L ps) {A B : D} {k l : Bool} (b c : Nat) {as bs : List Nat} (hA : frzSeq A = some (k, wd as)) (hB : frzSeq B = some (l, wd bs)) (hl : ps.length + 9 * as.length < 60000) (ha : as.length < 60000) :
    i_summed.run (tb.glo f) b [.cell q, A, B, .int (c : Nat)] s = .ok (.n (.lst (wd (BN.sum (1 + I + L) ps as bs c).1))) (putP s p t (1 + I + L) (BN.sum (1 + I + L) ps as bs c).2) := by
  rw [run_F rfl]
  obtain ⟨c', y5, y6, y7, y8, y9, e⟩ := psum_loop hP (A := A) (B := B) h as bs ps [] c none none none none none hl (by simpa using ha)
  rw [h.same] at e
  apply run_of rfl
  · unfold i_summed
    show xSs _ _ _ [some (.cell q), some A, some B, some (.int c), none, none, none, none, none, none] _ = _
    apply ss_nx
    · (exists rfl)
    apply ss_nx
    · apply s_forB
      · (exists rfl)
      · exact e
    · (exists rfl)
  · have e1 : (putP s p t (1 + I + L) (BN.sum (1 + I + L) ps as bs c).2 ++ [O.lst (wd ([] ++ (BN.sum (1 + I + L) ps as bs c).1))])[s.length]? = some (.lst (wd (BN.sum (1 + I + L) ps as bs c).1)) := by
      rw [List.getElem?_append_right (by rw [putP_len]; exact Nat.le_refl _), putP_len]
      simp
    simp only [endR]
    rw [e1]
    simp [cbO, wd_cb, take_app putP_len]
end K13

set_option Elab.async false
set_option linter.all false
set_option maxRecDepth 100000
set_option maxHeartbeats 1000000
namespace K13
open PySem PySem.Spec PyProof.Rows L2 En
variable {s : Store} {q p t I L V n : Nat} {ps ps0 : List (Nat × Nat)} {f : Den}
def OkS (f : Den) : Prop := ∀ {s : Store} {q p t I L : Nat} {ps : List (Nat × Nat)} {A B : D} {k l : Bool} (b c : Nat) {as bs : List Nat}, PB s q p t I L ps → frzSeq A = some (k, wd as) → frzSeq B = some (l, wd bs) → ps.length + 9 * as.length < 60000 → as.length < 60000 →
  f.fn 1 b [.cell q, A, B, .int (c : Nat)] s = .ok (.n (.lst (wd (BN.sum (1 + I + L) ps as bs c).1))) (putP s p t (1 + I + L) (BN.sum (1 + I + L) ps as bs c).2)
theorem padd (hS : OkS f) (h : PB s q p t I L ps) {A B : D} {k l : Bool} (b : Nat) {as bs : List Nat} (hA : frzSeq A = some (k, wd as)) (hB : frzSeq B = some (l, wd bs)) (hl : ps.length + 9 * as.length < 60000) (ha : as.length < 60000) :
    i_add_words.run (tb.glo f) b [.cell q, A, B] s = .ok (.n (.lst (wd (BN.sum (1 + I + L) ps as bs 0).1))) (putP s p t (1 + I + L) (BN.sum (1 + I + L) ps as bs 0).2) := by
  rw [run_F rfl]
  apply run_ret rfl
  · unfold i_add_words
    show xSs _ _ _ [some (.cell q), some A, some B] _ = _
    have c1 := hS s.length 0 h hA hB hl ha
    (exists callR_at rfl c1)
  · exact end_n putP_len (wd_cb _ _)
theorem lc_nat {F : Nat → Nat} {g : D → Store → Out (List D)} (h : ∀ l : Nat, g (.int (l : Nat)) s = .ok [.int (F l : Nat)] s) : ∀ ls : List Nat, lcL g (wd ls) s = .ok (wd (ls.map F)) s
  | [] => rfl
  | l :: ls => lcL_cons (x := [_]) (h l) (lc_nat h ls)
theorem frz_len {A : D} {k : Bool} {as : List Nat} (hA : frzSeq A = some (k, wd as)) : True := trivial
theorem psub (hT : OkT f) (hS : OkS f) (h : PB s q p t I L ps) {A B : D} {k l : Bool} (b : Nat) {as bs : List Nat} (hA : frzSeq A = some (k, wd as)) (hB : frzSeq B = some (l, wd bs)) (hl : ps.length + 9 * as.length < 60000) (ha : as.length < 60000) (hb : bs.length < 60000) :
    i_subtract_words.run (tb.glo f) b [.cell q, A, B] s = .ok (.n (.lst (wd (BN.sum (1 + I + L) ps as (bs.map BN.tn) 1).1))) (putP s p t (1 + I + L) (BN.sum (1 + I + L) ps as (bs.map BN.tn) 1).2) := by
  rw [run_F rfl]
  apply run_ret rfl
  · unfold i_subtract_words
    show xSs _ _ _ [some (.cell q), some A, some B, none] _ = _
    have c1 := hS (B := .lst (wd (bs.map BN.tn))) s.length 1 h hA rfl hl ha
    have c0 : ∀ l : Nat, itemF (tb.glo f) s.length [("literal", 3)] (.name 3) .yes (.call 0 (.cons (.var 3) .nil)) [some (.cell q), some A, some B, none] (.int (l : Nat)) s = .ok [.int (BN.tn l : Nat)] s := fun l => by
      apply b_lcB (r := .v (.int (BN.tn l : Nat)))
      · apply g_name
        exact rfl
      · exact c_yes
      · (exists callR_of rfl (hT l))
    have hw : (wd bs).length ≤ 100000 := by rw [wd_len]; omega
    (exists hB, lc_nat c0 bs, hw, callR_at rfl c1)
  · exact end_n putP_len (wd_cb _ _)
theorem nx0 {s' : Store} (h : s ++ [] = s') : s = s' := by simpa using h
theorem Op3.nx {j : Nat} {F : Nat → List (Nat × Nat) → Nat → Nat → Nat × List (Nat × Nat)} (o : Op3 f j F) (h : PB s q p t I L ps0) (ps : List (Nat × Nat)) (hl : ps.length < 80000) (b a c : Nat) :
    callR (f.fn j) b [.cell q, .int (a : Nat), .int (c : Nat)] (putP s p t (1 + I + L) ps) = .ok (.v (.int ((F (1 + I + L) ps a c).1 : Nat))) (putP s p t (1 + I + L) (F (1 + I + L) ps a c).2) := by
  have := Op3.next o h ps hl [] b a c
  simpa using this
theorem Op4.nx (o : Op4 f) (h : PB s q p t I L ps0) (ps : List (Nat × Nat)) (hl : ps.length < 70000) (b z a c : Nat) :
    callR (f.fn 38) b [.cell q, .int (z : Nat), .int (a : Nat), .int (c : Nat)] (putP s p t (1 + I + L) ps) = .ok (.v (.int ((BN.choose (1 + I + L) ps z a c).1 : Nat))) (putP s p t (1 + I + L) (BN.choose (1 + I + L) ps z a c).2) := by
  have := Op4.next o h ps hl [] b z a c
  simpa using this
theorem Op3L.nx {j : Nat} {F : Nat → List (Nat × Nat) → Nat → Nat → Nat × List (Nat × Nat)} (o : Op3L f j F) (h : LB s q p t V ps0) (ps : List (Nat × Nat)) (hl : ps.length < 80000) (b a c : Nat) :
    callR (f.fn j) b [.cell q, .int (a : Nat), .int (c : Nat)] (putL s q p t V ps) = .ok (.v (.int ((F V ps a c).1 : Nat))) (putL s q p t V (F V ps a c).2) := by
  have := Op3L.next o h ps hl [] b a c
  simpa using this
theorem Op4L.nx (o : Op4L f) (h : LB s q p t V ps0) (ps : List (Nat × Nat)) (hl : ps.length < 70000) (b z a c : Nat) :
    callR (f.fn 18) b [.cell q, .int (z : Nat), .int (a : Nat), .int (c : Nat)] (putL s q p t V ps) = .ok (.v (.int ((BN.choose V ps z a c).1 : Nat))) (putL s q p t V (BN.choose V ps z a c).2) := by
  have := Op4L.next o h ps hl [] b z a c
  simpa using this
def g45 : IG := .tup (.cons (.name 4) (.cons (.name 5) .nil))
def eqB : ISs := (.cons (.asg (.name 3) (.mcall "both" (.var 0) (.cons (.var 3) (.cons (.call 0 (.cons (.mcall "differ" (.var 0) (.cons (.var 4) (.cons (.var 5) .nil))) .nil)) .nil))))
    .nil)
def ltB : ISs := (.cons (.asg (.name 3) (.mcall "choose" (.var 0) (.cons (.mcall "differ" (.var 0) (.cons (.var 4) (.cons (.var 5) .nil))) (.cons (.var 5) (.cons (.var 3) .nil)))))
    .nil)
theorem peq_loop (hP : Pr f) {A B : D} (h : PB s q p t I L ps0) : ∀ (as bs : List Nat) (ps : List (Nat × Nat)) (c : Nat) (x4 x5 : Option D), ps.length + 4 * as.length < 60000 →
    ∃ x4' x5', forL (bodyF (tb.glo f) s.length g45 eqB) (pairs2 (wd as) (wd bs)) [some (.cell q), some A, some B, some (.int (c : Nat)), x4, x5] (putP s p t (1 + I + L) ps) =
      .ok (.nx, [some (.cell q), some A, some B, some (.int ((BN.alike (1 + I + L) ps as bs c).1 : Nat)), x4', x5']) (putP s p t (1 + I + L) (BN.alike (1 + I + L) ps as bs c).2)
  | a :: as, b :: bs, ps, c, x4, x5, hl => by
    simp only [List.length_cons] at hl
    have n1 := BN.differ_len (1 + I + L) ps a b
    have c1 := Op3.nx hP.differ h ps (by omega) s.length a b
    have c2 := Op3.nx hP.both h (BN.differ (1 + I + L) ps a b).2 (by omega) s.length c (BN.tn (BN.differ (1 + I + L) ps a b).1)
    have n2 := BN.both_len (1 + I + L) (BN.differ (1 + I + L) ps a b).2 c (BN.tn (BN.differ (1 + I + L) ps a b).1)
    obtain ⟨y4, y5, e⟩ := peq_loop hP (A := A) (B := B) h as bs (BN.both (1 + I + L) (BN.differ (1 + I + L) ps a b).2 c (BN.tn (BN.differ (1 + I + L) ps a b).1)).2 (BN.both (1 + I + L) (BN.differ (1 + I + L) ps a b).2 c (BN.tn (BN.differ (1 + I + L) ps a b).1)).1 (some (.int (a : Nat))) (some (.int (b : Nat))) (by omega)
    refine ⟨y4, y5, forL_cons ?_ e⟩
    unfold g45 eqB
    (exists callR_of rfl (hP.tn _), c1, c2, obj_at (h.put _).oo)
  | [], bs, ps, c, x4, x5, hl => ⟨x4, x5, by simp [wd, pairs2, forL, BN.alike]⟩
  | a :: as, [], ps, c, x4, x5, hl => ⟨x4, x5, by simp [wd, pairs2, forL, BN.alike]⟩
theorem plt_loop (hP : Pr f) {A B : D} (h : PB s q p t I L ps0) : ∀ (as bs : List Nat) (ps : List (Nat × Nat)) (c : Nat) (x4 x5 : Option D), ps.length + 6 * as.length < 60000 →
    ∃ x4' x5', forL (bodyF (tb.glo f) s.length g45 ltB) (pairs2 (wd as) (wd bs)) [some (.cell q), some A, some B, some (.int (c : Nat)), x4, x5] (putP s p t (1 + I + L) ps) =
      .ok (.nx, [some (.cell q), some A, some B, some (.int ((BN.lower (1 + I + L) ps as bs c).1 : Nat)), x4', x5']) (putP s p t (1 + I + L) (BN.lower (1 + I + L) ps as bs c).2)
  | a :: as, b :: bs, ps, c, x4, x5, hl => by
    simp only [List.length_cons] at hl
    have n1 := BN.differ_len (1 + I + L) ps a b
    have c1 := Op3.nx hP.differ h ps (by omega) s.length a b
    have c2 := Op4.nx hP.choose h (BN.differ (1 + I + L) ps a b).2 (by omega) s.length (BN.differ (1 + I + L) ps a b).1 b c
    have n2 := BN.choose_len (1 + I + L) (BN.differ (1 + I + L) ps a b).2 (BN.differ (1 + I + L) ps a b).1 b c
    obtain ⟨y4, y5, e⟩ := plt_loop hP (A := A) (B := B) h as bs (BN.choose (1 + I + L) (BN.differ (1 + I + L) ps a b).2 (BN.differ (1 + I + L) ps a b).1 b c).2 (BN.choose (1 + I + L) (BN.differ (1 + I + L) ps a b).2 (BN.differ (1 + I + L) ps a b).1 b c).1 (some (.int (a : Nat))) (some (.int (b : Nat))) (by omega)
    refine ⟨y4, y5, forL_cons ?_ e⟩
    unfold g45 ltB
    (exists callR_of rfl (hP.tn _), c1, c2, obj_at (h.put _).oo)
  | [], bs, ps, c, x4, x5, hl => ⟨x4, x5, by simp [wd, pairs2, forL, BN.lower]⟩
  | a :: as, [], ps, c, x4, x5, hl => ⟨x4, x5, by simp [wd, pairs2, forL, BN.lower]⟩
theorem peq (hP : Pr f) (h : PB s q p t I L ps) {A B : D} {k l : Bool} (b : Nat) {as bs : List Nat} (hA : frzSeq A = some (k, wd as)) (hB : frzSeq B = some (l, wd bs)) (hl : ps.length + 4 * as.length < 60000) :
    i_equal_words.run (tb.glo f) b [.cell q, A, B] s = .ok (.v (.int ((BN.alike (1 + I + L) ps as bs 1).1 : Nat))) (putP s p t (1 + I + L) (BN.alike (1 + I + L) ps as bs 1).2) := by
  rw [run_F rfl]
  obtain ⟨y4, y5, e⟩ := peq_loop hP (A := A) (B := B) h as bs ps 1 none none hl
  rw [h.same] at e
  apply run_ret rfl
  · unfold i_equal_words
    show xSs _ _ _ [some (.cell q), some A, some B, none, none, none] _ = _
    (exists hA, hB, e)
  · exact end_int putP_len
theorem plt (hP : Pr f) (h : PB s q p t I L ps) {A B : D} {k l : Bool} (b : Nat) {as bs : List Nat} (hA : frzSeq A = some (k, wd as)) (hB : frzSeq B = some (l, wd bs)) (hl : ps.length + 6 * as.length < 60000) :
    i_less_words.run (tb.glo f) b [.cell q, A, B] s = .ok (.v (.int ((BN.lower (1 + I + L) ps as bs 0).1 : Nat))) (putP s p t (1 + I + L) (BN.lower (1 + I + L) ps as bs 0).2) := by
  rw [run_F rfl]
  obtain ⟨y4, y5, e⟩ := plt_loop hP (A := A) (B := B) h as bs ps 0 none none hl
  rw [h.same] at e
  apply run_ret rfl
  · unfold i_less_words
    show xSs _ _ _ [some (.cell q), some A, some B, none, none, none] _ = _
    (exists hA, hB, e)
  · exact end_int putP_len
def foB (m : Str) : ISs := (.cons (.asg (.name 2) (.mcall m (.var 0) (.cons (.var 2) (.cons (.var 3) .nil)))) .nil)
def bFs (p t I L : Nat) : List (Str × D) := [("inputs", .int (I : Nat)), ("latches", .int (L : Nat)), ("_pairs", .cell p), ("_literals", .cell t)]
theorem pfold_loop {m : Str} {j : Nat} {F : Nat → List (Nat × Nat) → Nat → Nat → Nat × List (Nat × Nat)} (o : Op3 f j F) (hF : ∀ V ps a b, (F V ps a b).2.length ≤ ps.length + 3) (hm : (tb.glo f).me 0 m = some j) (hm2 : (bFs p t I L).lookup m = none) {A : D} (h : PB s q p t I L ps0) : ∀ (as : List Nat) (ps : List (Nat × Nat)) (c : Nat) (x3 : Option D), ps.length + 3 * as.length < 60000 →
    ∃ x3', forL (bodyF (tb.glo f) s.length (.name 3) (foB m)) (wd as) [some (.cell q), some A, some (.int (c : Nat)), x3] (putP s p t (1 + I + L) ps) =
      .ok (.nx, [some (.cell q), some A, some (.int ((BN.fold (F (1 + I + L)) ps as c).1 : Nat)), x3']) (putP s p t (1 + I + L) (BN.fold (F (1 + I + L)) ps as c).2)
  | a :: as, ps, c, x3, hl => by
    simp only [List.length_cons] at hl
    have n1 := hF (1 + I + L) ps c a
    have c1 := Op3.nx o h ps (by omega) s.length c a
    obtain ⟨y3, e⟩ := pfold_loop o hF hm hm2 (A := A) h as (F (1 + I + L) ps c a).2 (F (1 + I + L) ps c a).1 (some (.int (a : Nat))) (by omega)
    refine ⟨y3, forL_cons ?_ e⟩
    unfold foB
    (exists c1, obj_at (h.put _).oo, hm, hm2)
  | [], ps, c, x3, hl => ⟨x3, rfl⟩
theorem bothL (V : Nat) (ps : List (Nat × Nat)) (a b : Nat) : (BN.both V ps a b).2.length ≤ ps.length + 3 := by have := BN.both_len V ps a b; omega
theorem eitherL (V : Nat) (ps : List (Nat × Nat)) (a b : Nat) : (BN.either V ps a b).2.length ≤ ps.length + 3 := by have := BN.either_len V ps a b; omega
theorem pany (hP : Pr f) (h : PB s q p t I L ps) {A : D} {k : Bool} (b : Nat) {as : List Nat} (hA : frzSeq A = some (k, wd as)) (hl : ps.length + 3 * as.length < 60000) :
    i_any_bit.run (tb.glo f) b [.cell q, A] s = .ok (.v (.int ((BN.fold (BN.either (1 + I + L)) ps as 0).1 : Nat))) (putP s p t (1 + I + L) (BN.fold (BN.either (1 + I + L)) ps as 0).2) := by
  rw [run_F rfl]
  obtain ⟨y3, e⟩ := pfold_loop hP.either eitherL rfl rfl (A := A) h as ps 0 none hl (m := "either")
  rw [h.same] at e
  apply run_ret rfl
  · unfold i_any_bit
    show xSs _ _ _ [some (.cell q), some A, none, none] _ = _
    (exists hA, e)
  · exact end_int putP_len
theorem pall (hP : Pr f) (h : PB s q p t I L ps) {A : D} {k : Bool} (b : Nat) {as : List Nat} (hA : frzSeq A = some (k, wd as)) (hl : ps.length + 3 * as.length < 60000) :
    i_all_bits.run (tb.glo f) b [.cell q, A] s = .ok (.v (.int ((BN.fold (BN.both (1 + I + L)) ps as 1).1 : Nat))) (putP s p t (1 + I + L) (BN.fold (BN.both (1 + I + L)) ps as 1).2) := by
  rw [run_F rfl]
  obtain ⟨y3, e⟩ := pfold_loop hP.both bothL rfl rfl (A := A) h as ps 1 none hl (m := "both")
  rw [h.same] at e
  apply run_ret rfl
  · unfold i_all_bits
    show xSs _ _ _ [some (.cell q), some A, none, none] _ = _
    (exists hA, e)
  · exact end_int putP_len
theorem podd (hP : Pr f) (h : PB s q p t I L ps) {A : D} {k : Bool} (b : Nat) {as : List Nat} (hA : frzSeq A = some (k, wd as)) (hl : ps.length + 3 * as.length < 60000) :
    i_odd_bits.run (tb.glo f) b [.cell q, A] s = .ok (.v (.int ((BN.fold (BN.differ (1 + I + L)) ps as 0).1 : Nat))) (putP s p t (1 + I + L) (BN.fold (BN.differ (1 + I + L)) ps as 0).2) := by
  rw [run_F rfl]
  obtain ⟨y3, e⟩ := pfold_loop hP.differ BN.differ_len rfl rfl (A := A) h as ps 0 none hl (m := "differ")
  rw [h.same] at e
  apply run_ret rfl
  · unfold i_odd_bits
    show xSs _ _ _ [some (.cell q), some A, none, none] _ = _
    (exists hA, e)
  · exact end_int putP_len
end K13

set_option Elab.async false
set_option linter.all false
set_option maxRecDepth 100000
set_option maxHeartbeats 1000000
namespace K13
open PySem PySem.Spec PyProof.Rows L2 En
variable {s : Store} {q p t I L V n : Nat} {ps ps0 : List (Nat × Nat)} {f : Den}
theorem drop_get {α : Type} {l r : List α} {a : α} {k : Nat} (h : l.drop k = a :: r) : l[k]? = some a ∧ l.drop (k + 1) = r := by
  have h1 : l[k]? = (l.drop k)[0]? := by simp
  refine ⟨by rw [h1, h]; rfl, ?_⟩
  have : l.drop (k + 1) = (l.drop k).drop 1 := by rw [List.drop_drop]
  rw [this, h]
  rfl
theorem at_wd {gd : Nat → List (Str × D)} {as : List Nat} {k a : Nat} (h : as[k]? = some a) : ixR gd (.lst (wd as)) (.int (k : Nat)) s = some (.v (.int (a : Nat))) := by
  simp only [ixR, seqOf]
  rw [atI_nat (v := .int (a : Nat)) (by simp [wd, h])]
  rfl
def lsumB : ISs := (.cons (.asg (.name 6) (.call 17 (.cons (.var 0) (.cons (.ix (.var 1) (.var 5)) (.cons (.ix (.var 2) (.var 5)) .nil)))))
    (.cons (.expr (.mt .append (.var 4) (.cons (.call 17 (.cons (.var 0) (.cons (.var 6) (.cons (.var 3) .nil)))) .nil)))
    (.cons (.asg (.name 7) (.call 15 (.cons (.var 0) (.cons (.ix (.var 1) (.var 5)) (.cons (.ix (.var 2) (.var 5)) .nil)))))
    (.cons (.asg (.name 3) (.call 16 (.cons (.var 0) (.cons (.var 7) (.cons (.call 15 (.cons (.var 0) (.cons (.var 6) (.cons (.var 3) .nil)))) .nil)))))
    .nil))))
theorem lsum_step (hP : Lw f) {x5 x6 x7 : Option D} {acc as bs : List Nat} (h : LB s q p t V ps0) (ps : List (Nat × Nat)) (hl : ps.length < 60000) (ha : acc.length < 60000) {a b : Nat} (c i : Nat) (hai : as[i]? = some a) (hbi : bs[i]? = some b) {x y u v k : Nat × List (Nat × Nat)}
    (hx : BN.differ V ps a b = x) (hy : BN.differ V x.2 x.1 c = y) (hu : BN.both V y.2 a b = u) (hv : BN.both V u.2 x.1 c = v) (hk : BN.either V v.2 u.1 v.1 = k) :
    bodyF (tb.glo f) s.length (.name 5) lsumB (.int (i : Nat)) [some (.cell q), some (.lst (wd as)), some (.lst (wd bs)), some (.int (c : Nat)), some (.cell s.length), x5, x6, x7] (putL s q p t V ps ++ [.lst (wd acc)]) =
      .ok (.nx, [some (.cell q), some (.lst (wd as)), some (.lst (wd bs)), some (.int (k.1 : Nat)), some (.cell s.length), some (.int (i : Nat)), some (.int (x.1 : Nat)), some (.int (u.1 : Nat))])
        (putL s q p t V k.2 ++ [.lst (wd (acc ++ [y.1]))]) := by
  have n1 := BN.differ_len V ps a b
  have n2 := BN.differ_len V x.2 x.1 c
  have n3 := BN.both_len V y.2 a b
  have n4 := BN.both_len V u.2 x.1 c
  rw [hx] at n1
  rw [hy] at n2
  rw [hu] at n3
  rw [hv] at n4
  have c1 := Op3L.next hP.differ h ps (by omega) [.lst (wd acc)] s.length a b
  rw [hx] at c1
  have c2 := Op3L.next hP.differ h x.2 (by omega) [.lst (wd acc)] s.length x.1 c
  rw [hy] at c2
  have m := app_own (gd := (tb.glo f).gd) (putL s q p t V y.2) (wd acc) (.int (y.1 : Nat)) putL_len (Nat.le_refl _) (by rw [wd_len]; omega)
  rw [← wd_snoc] at m
  have c3 := Op3L.next hP.both h y.2 (by omega) [.lst (wd (acc ++ [y.1]))] s.length a b
  rw [hu] at c3
  have c4 := Op3L.next hP.both h u.2 (by omega) [.lst (wd (acc ++ [y.1]))] s.length x.1 c
  rw [hv] at c4
  have c5 := Op3L.next hP.either h v.2 (by omega) [.lst (wd (acc ++ [y.1]))] s.length u.1 v.1
  rw [hk] at c5
  unfold lsumB
  (exists at_wd hai, at_wd hbi, c1, c2, c3, c4, c5, m, isl_own _ _ putL_len)
theorem lsum_loop (hP : Lw f) {as bs : List Nat} (h : LB s q p t V ps0) : ∀ (ar br : List Nat) (i : Nat) (ps : List (Nat × Nat)) (acc : List Nat) (c : Nat) (x5 x6 x7 : Option D), as.drop i = ar → bs.drop i = br → ar.length = br.length → ps.length + 9 * ar.length < 60000 → acc.length + ar.length < 60000 →
    ∃ c' x5' x6' x7', forL (bodyF (tb.glo f) s.length (.name 5) lsumB) (rngL (i : Nat) ar.length) [some (.cell q), some (.lst (wd as)), some (.lst (wd bs)), some (.int (c : Nat)), some (.cell s.length), x5, x6, x7] (putL s q p t V ps ++ [.lst (wd acc)]) =
      .ok (.nx, [some (.cell q), some (.lst (wd as)), some (.lst (wd bs)), some (.int (c' : Nat)), some (.cell s.length), x5', x6', x7']) (putL s q p t V (BN.sum V ps ar br c).2 ++ [.lst (wd (acc ++ (BN.sum V ps ar br c).1))])
  | a :: ar, b :: br, i, ps, acc, c, x5, x6, x7, ha, hb, he, hl, hc => by
    simp only [List.length_cons] at hl hc he
    obtain ⟨ha1, ha2⟩ := drop_get ha
    obtain ⟨hb1, hb2⟩ := drop_get hb
    obtain ⟨x, hx⟩ : ∃ x, BN.differ V ps a b = x := ⟨_, rfl⟩
    obtain ⟨y, hy⟩ : ∃ y, BN.differ V x.2 x.1 c = y := ⟨_, rfl⟩
    obtain ⟨u, hu⟩ : ∃ u, BN.both V y.2 a b = u := ⟨_, rfl⟩
    obtain ⟨v, hv⟩ : ∃ v, BN.both V u.2 x.1 c = v := ⟨_, rfl⟩
    obtain ⟨k, hk⟩ : ∃ k, BN.either V v.2 u.1 v.1 = k := ⟨_, rfl⟩
    have st := lsum_step hP (x5 := x5) (x6 := x6) (x7 := x7) (acc := acc) h ps (by omega) (by omega) c i ha1 hb1 hx hy hu hv hk
    have kl := sum_len hx hy hu hv hk
    obtain ⟨c', y5, y6, y7, e⟩ := lsum_loop hP h ar br (i + 1) k.2 (acc ++ [y.1]) k.1 (some (.int (i : Nat))) (some (.int (x.1 : Nat))) (some (.int (u.1 : Nat))) ha2 hb2 (by omega) (by omega) (by rw [List.length_append]; simp only [List.length_singleton]; omega)
    refine ⟨c', y5, y6, y7, forL_cons st (e.trans ?_)⟩
    rw [List.append_assoc, sum_cons hx hy hu hv hk]
    rfl
  | [], [], i, ps, acc, c, x5, x6, x7, ha, hb, he, hl, hc => ⟨c, x5, x6, x7, by simp [rngL, forL, BN.sum]⟩
  | [], _ :: _, _, _, _, _, _, _, _, _, _, he, _, _ => by simp at he
  | _ :: _, [], _, _, _, _, _, _, _, _, _, he, _, _ => by simp at he
theorem len_wd {as : List Nat} : bltR .len [.lst (wd as)] s = some (.v (.int (as.length : Nat))) := by
  rw [len_lst, wd_len]
theorem lsum (hP : Lw f) (h : LB s q p t V ps) (b c : Nat) {as bs : List Nat} (he : as.length = bs.length) (hl : ps.length + 9 * as.length < 60000) (ha : as.length < 60000) :
    i_law_sum.run (tb.glo f) b [.cell q, .lst (wd as), .lst (wd bs), .int (c : Nat)] s = .ok (.n (.lst (wd (BN.sum V ps as bs c).1))) (putL s q p t V (BN.sum V ps as bs c).2) := by
  rw [run_F rfl]
  obtain ⟨c', y5, y6, y7, e⟩ := lsum_loop hP (as := as) (bs := bs) h as bs 0 ps [] c none none none rfl rfl he hl (by simpa using ha)
  rw [h.same] at e
  apply run_of rfl
  · unfold i_law_sum
    show xSs _ _ _ [some (.cell q), some (.lst (wd as)), some (.lst (wd bs)), some (.int c), none, none, none, none] _ = _
    apply ss_nx
    · (exists rfl)
    apply ss_nx
    · apply s_forB
      · (exists len_wd)
      · exact e
    · (exists rfl)
  · have e1 : (putL s q p t V (BN.sum V ps as bs c).2 ++ [O.lst (wd ([] ++ (BN.sum V ps as bs c).1))])[s.length]? = some (.lst (wd (BN.sum V ps as bs c).1)) := by
      rw [List.getElem?_append_right (by rw [putL_len]; exact Nat.le_refl _), putL_len]
      simp
    simp only [endR]
    rw [e1]
    simp [cbO, wd_cb, take_app putL_len]
def leqB : ISs := (.cons (.asg (.name 3) (.call 15 (.cons (.var 0) (.cons (.var 3) (.cons (.op .bxor (.call 17 (.cons (.var 0) (.cons (.ix (.var 1) (.var 4)) (.cons (.ix (.var 2) (.var 4)) .nil)))) (.int 1)) .nil)))))
    .nil)
def lltB : ISs := (.cons (.asg (.name 3) (.call 18 (.cons (.var 0) (.cons (.call 17 (.cons (.var 0) (.cons (.ix (.var 1) (.var 4)) (.cons (.ix (.var 2) (.var 4)) .nil)))) (.cons (.ix (.var 2) (.var 4)) (.cons (.var 3) .nil))))))
    .nil)
theorem leq_loop (hP : Lw f) {as bs : List Nat} (h : LB s q p t V ps0) : ∀ (ar br : List Nat) (i : Nat) (ps : List (Nat × Nat)) (c : Nat) (x4 : Option D), as.drop i = ar → bs.drop i = br → ar.length = br.length → ps.length + 4 * ar.length < 60000 →
    ∃ x4', forL (bodyF (tb.glo f) s.length (.name 4) leqB) (rngL (i : Nat) ar.length) [some (.cell q), some (.lst (wd as)), some (.lst (wd bs)), some (.int (c : Nat)), x4] (putL s q p t V ps) =
      .ok (.nx, [some (.cell q), some (.lst (wd as)), some (.lst (wd bs)), some (.int ((BN.alike V ps ar br c).1 : Nat)), x4']) (putL s q p t V (BN.alike V ps ar br c).2)
  | a :: ar, b :: br, i, ps, c, x4, ha, hb, he, hl => by
    simp only [List.length_cons] at hl he
    obtain ⟨ha1, ha2⟩ := drop_get ha
    obtain ⟨hb1, hb2⟩ := drop_get hb
    have n1 := BN.differ_len V ps a b
    have c1 := Op3L.nx hP.differ h ps (by omega) s.length a b
    have c2 := Op3L.nx hP.both h (BN.differ V ps a b).2 (by omega) s.length c (BN.tn (BN.differ V ps a b).1)
    have n2 := BN.both_len V (BN.differ V ps a b).2 c (BN.tn (BN.differ V ps a b).1)
    obtain ⟨y4, e⟩ := leq_loop hP h ar br (i + 1) (BN.both V (BN.differ V ps a b).2 c (BN.tn (BN.differ V ps a b).1)).2 (BN.both V (BN.differ V ps a b).2 c (BN.tn (BN.differ V ps a b).1)).1 (some (.int (i : Nat))) ha2 hb2 (by omega) (by omega)
    refine ⟨y4, forL_cons ?_ e⟩
    unfold leqB
    (exists at_wd ha1, at_wd hb1, tn_op _, c1, c2)
  | [], [], i, ps, c, x4, ha, hb, he, hl => ⟨x4, rfl⟩
  | [], _ :: _, _, _, _, _, _, _, he, _ => by simp at he
  | _ :: _, [], _, _, _, _, _, _, he, _ => by simp at he
theorem llt_loop (hP : Lw f) {as bs : List Nat} (h : LB s q p t V ps0) : ∀ (ar br : List Nat) (i : Nat) (ps : List (Nat × Nat)) (c : Nat) (x4 : Option D), as.drop i = ar → bs.drop i = br → ar.length = br.length → ps.length + 6 * ar.length < 60000 →
    ∃ x4', forL (bodyF (tb.glo f) s.length (.name 4) lltB) (rngL (i : Nat) ar.length) [some (.cell q), some (.lst (wd as)), some (.lst (wd bs)), some (.int (c : Nat)), x4] (putL s q p t V ps) =
      .ok (.nx, [some (.cell q), some (.lst (wd as)), some (.lst (wd bs)), some (.int ((BN.lower V ps ar br c).1 : Nat)), x4']) (putL s q p t V (BN.lower V ps ar br c).2)
  | a :: ar, b :: br, i, ps, c, x4, ha, hb, he, hl => by
    simp only [List.length_cons] at hl he
    obtain ⟨ha1, ha2⟩ := drop_get ha
    obtain ⟨hb1, hb2⟩ := drop_get hb
    have n1 := BN.differ_len V ps a b
    have c1 := Op3L.nx hP.differ h ps (by omega) s.length a b
    have c2 := Op4L.nx hP.choose h (BN.differ V ps a b).2 (by omega) s.length (BN.differ V ps a b).1 b c
    have n2 := BN.choose_len V (BN.differ V ps a b).2 (BN.differ V ps a b).1 b c
    obtain ⟨y4, e⟩ := llt_loop hP h ar br (i + 1) (BN.choose V (BN.differ V ps a b).2 (BN.differ V ps a b).1 b c).2 (BN.choose V (BN.differ V ps a b).2 (BN.differ V ps a b).1 b c).1 (some (.int (i : Nat))) ha2 hb2 (by omega) (by omega)
    refine ⟨y4, forL_cons ?_ e⟩
    unfold lltB
    (exists at_wd ha1, at_wd hb1, tn_op _, c1, c2)
  | [], [], i, ps, c, x4, ha, hb, he, hl => ⟨x4, rfl⟩
  | [], _ :: _, _, _, _, _, _, _, he, _ => by simp at he
  | _ :: _, [], _, _, _, _, _, _, he, _ => by simp at he
theorem leq (hP : Lw f) (h : LB s q p t V ps) (b : Nat) {as bs : List Nat} (he : as.length = bs.length) (hl : ps.length + 4 * as.length < 60000) :
    i_law_alike.run (tb.glo f) b [.cell q, .lst (wd as), .lst (wd bs)] s = .ok (.v (.int ((BN.alike V ps as bs 1).1 : Nat))) (putL s q p t V (BN.alike V ps as bs 1).2) := by
  rw [run_F rfl]
  obtain ⟨y4, e⟩ := leq_loop hP (as := as) (bs := bs) h as bs 0 ps 1 none rfl rfl he hl
  rw [h.same] at e
  apply run_ret rfl
  · unfold i_law_alike
    show xSs _ _ _ [some (.cell q), some (.lst (wd as)), some (.lst (wd bs)), none, none] _ = _
    (exists len_wd, e)
  · exact end_int putL_len
theorem llt (hP : Lw f) (h : LB s q p t V ps) (b : Nat) {as bs : List Nat} (he : as.length = bs.length) (hl : ps.length + 6 * as.length < 60000) :
    i_law_lower.run (tb.glo f) b [.cell q, .lst (wd as), .lst (wd bs)] s = .ok (.v (.int ((BN.lower V ps as bs 0).1 : Nat))) (putL s q p t V (BN.lower V ps as bs 0).2) := by
  rw [run_F rfl]
  obtain ⟨y4, e⟩ := llt_loop hP (as := as) (bs := bs) h as bs 0 ps 0 none rfl rfl he hl
  rw [h.same] at e
  apply run_ret rfl
  · unfold i_law_lower
    show xSs _ _ _ [some (.cell q), some (.lst (wd as)), some (.lst (wd bs)), none, none] _ = _
    (exists len_wd, e)
  · exact end_int putL_len
def lfoB : ISs := (.cons (.ifs (.e (.cmp .eq (.var 1) (.str "any"))) (.cons (.asg (.name 3) (.call 16 (.cons (.var 0) (.cons (.var 3) (.cons (.var 4) .nil)))))
    .nil) .nil)
    (.cons (.ifs (.e (.cmp .eq (.var 1) (.str "all"))) (.cons (.asg (.name 3) (.call 15 (.cons (.var 0) (.cons (.var 3) (.cons (.var 4) .nil)))))
    .nil) .nil)
    (.cons (.ifs (.e (.cmp .eq (.var 1) (.str "odd"))) (.cons (.asg (.name 3) (.call 17 (.cons (.var 0) (.cons (.var 3) (.cons (.var 4) .nil)))))
    .nil) .nil)
    .nil)))
theorem eq_str {gd : Nat → List (Str × D)} {s : Store} {i j : Str} {k : Bool} (h : decide (i = j) = k) : cmpR gd .eq (.str i) (.str j) s = some k := by rw [← h]; simp [cmpR, eqD, flat, scal]
structure Kd (m : Str) (c : Nat) (F : Nat → List (Nat × Nat) → Nat → Nat → Nat × List (Nat × Nat)) (j : Nat) (f : Den) : Prop where
  op : Op3L f j F
  len : ∀ V ps a b, (F V ps a b).2.length ≤ ps.length + 3
  is_ : (m = "any" ∧ j = 16 ∧ c = 0) ∨ (m = "all" ∧ j = 15 ∧ c = 1) ∨ (m = "odd" ∧ j = 17 ∧ c = 0)
theorem lfold_loop {m : Str} {c0 j : Nat} {F : Nat → List (Nat × Nat) → Nat → Nat → Nat × List (Nat × Nat)} (K : Kd m c0 F j f) {A : D} (h : LB s q p t V ps0) : ∀ (as : List Nat) (ps : List (Nat × Nat)) (c : Nat) (x4 : Option D), ps.length + 3 * as.length < 60000 →
    ∃ x4', forL (bodyF (tb.glo f) s.length (.name 4) lfoB) (wd as) [some (.cell q), some (.str m), some A, some (.int (c : Nat)), x4] (putL s q p t V ps) =
      .ok (.nx, [some (.cell q), some (.str m), some A, some (.int ((BN.fold (F V) ps as c).1 : Nat)), x4']) (putL s q p t V (BN.fold (F V) ps as c).2)
  | a :: as, ps, c, x4, hl => by
    simp only [List.length_cons] at hl
    have n1 := K.len V ps c a
    have c1 := Op3L.nx K.op h ps (by omega) s.length c a
    obtain ⟨y3, e⟩ := lfold_loop K (A := A) h as (F V ps c a).2 (F V ps c a).1 (some (.int (a : Nat))) (by omega)
    refine ⟨y3, forL_cons ?_ e⟩
    unfold lfoB
    rcases K.is_ with ⟨rfl, rfl, _⟩ | ⟨rfl, rfl, _⟩ | ⟨rfl, rfl, _⟩
    · (exists c1, eq_str (k := true) (by decide), eq_str (k := false) (by decide))
    · (exists c1, eq_str (k := true) (by decide), eq_str (k := false) (by decide))
    · (exists c1, eq_str (k := true) (by decide), eq_str (k := false) (by decide))
  | [], ps, c, x4, hl => ⟨x4, rfl⟩
theorem lfold {m : Str} {c0 j : Nat} {F : Nat → List (Nat × Nat) → Nat → Nat → Nat × List (Nat × Nat)} (K : Kd m c0 F j f) (h : LB s q p t V ps) (b : Nat) {as : List Nat} (hl : ps.length + 3 * as.length < 60000) :
    i_law_fold.run (tb.glo f) b [.cell q, .str m, .lst (wd as)] s = .ok (.v (.int ((BN.fold (F V) ps as c0).1 : Nat))) (putL s q p t V (BN.fold (F V) ps as c0).2) := by
  rw [run_F rfl]
  obtain ⟨y4, e⟩ := lfold_loop K (A := .lst (wd as)) h as ps c0 none hl
  rw [h.same] at e
  apply run_ret rfl
  · unfold i_law_fold
    show xSs _ _ _ [some (.cell q), some (.str m), some (.lst (wd as)), none, none] _ = _
    have c0 : bltR .int1 [.bl (decide (m = "all"))] s = some (.v (.int (c0 : Nat))) := by
      rcases K.is_ with ⟨rfl, rfl, rfl⟩ | ⟨rfl, rfl, rfl⟩ | ⟨rfl, rfl, rfl⟩ <;> rfl
    (exists eq_str rfl, c0, e)
  · exact end_int putL_len
end K13

set_option Elab.async false
set_option linter.all false
set_option maxRecDepth 100000
set_option maxHeartbeats 1000000
namespace En
open PySem PySem.Spec PyProof.Rows L2
theorem shl_nat {s : Store} (a b : Nat) (ha : a < 1000000) (hb : b ≤ 1000000) : opR .shl (.int (a : Nat)) (.int (b : Nat)) s = some (.v (.int ((a * 2 ^ b : Nat) : Int))) := by
  have : CPowD (a : Nat) (b : Nat) = true := by
    unfold CPowD
    rw [decide_eq_true_eq]
    refine ⟨by omega, by omega, ?_⟩
    have : (2 : Nat) ^ 64 = 18446744073709551616 := by decide
    omega
  simp only [opR, intOp, this, if_true, Option.map_some, Int.toNat_natCast]
  push_cast
  rfl
theorem shr_nat {s : Store} (a b : Nat) : opR .shr (.int (a : Nat)) (.int (b : Nat)) s = some (.v (.int ((a / 2 ^ b : Nat) : Int))) := by
  have : decide ((0 : Int) ≤ (b : Nat)) = true := by rw [decide_eq_true_eq]; omega
  simp only [opR, intOp, this, if_true, Option.map_some, Int.toNat_natCast]
  push_cast
  rfl
theorem sub_nat {s : Store} {a b : Nat} (h : b ≤ a) : opR .sub (.int (a : Nat)) (.int (b : Nat)) s = some (.v (.int ((a - b : Nat) : Int))) := by
  show some (R.v (.int ((a : Int) - (b : Int)))) = _
  rw [Int.ofNat_sub h]
theorem mul_natr {s : Store} (a b : Nat) (h : b < 1000) : opR .mul (.int (a : Int)) (.int (b : Int)) s = some (.v (.int ((a * b : Nat) : Int))) := by
  have : CMulD (a : Int) (b : Int) = true := by
    unfold CMulD
    rw [decide_eq_true_eq]
    right
    have : (2 : Int) ^ 64 = 18446744073709551616 := by decide
    omega
  simp only [opR, intOp, this, if_true, Option.map_some]
  push_cast
  rfl
end En
namespace K13
open PySem PySem.Spec PyProof.Rows L2 En
variable {s : Store} {q p t I L V n : Nat} {ps ps0 : List (Nat × Nat)} {f : Den}
theorem rngL_wd (n : Nat) : ∀ k : Nat, rngL (k : Nat) n = wd ((List.range n).map (k + ·)) := by
  induction n with
  | zero => intro k; rfl
  | succ n ih =>
    intro k
    rw [List.range_succ_eq_map]
    simp only [rngL, wd, List.map_cons, List.map_map, Nat.add_zero]
    have := ih (k + 1)
    have e : ((k + 1 : Nat) : Int) = (k : Int) + 1 := by omega
    rw [e] at this
    rw [this, wd, List.map_map]
    congr 1
    apply List.map_congr_left
    intro a _
    simp only [Function.comp]
    congr 1
    omega
theorem rng0_wd (n : Nat) : rngL 0 n = wd (List.range n) := by
  have := rngL_wd n 0
  simp only [Nat.zero_add, List.map_id'] at this
  exact this
theorem sum_wd (ls : List Nat) : bltR .sum [.lst (wd ls)] s = some (.v (.int (ls.sum : Nat))) := by
  have h : intsOf (wd ls) = some (ls.map fun l : Nat => (l : Int)) := by
    induction ls with
    | nil => rfl
    | cons l ls ih =>
      have ih : intsOf (wd ls) = some (ls.map fun l : Nat => (l : Int)) := ih
      show intsOf (.int (l : Nat) :: wd ls) = _
      simp only [intsOf, ih, Option.map_some]
      rfl
  have h2 : ∀ ls : List Nat, (ls.map fun l : Nat => (l : Int)).sum = (ls.sum : Nat) := fun ls => by
    induction ls with
    | nil => rfl
    | cons l ls ih => simp [ih]
  simp only [bltR, seqOf, h, Option.map_some, h2]
def colB1 : ISs := (.cons (.expr (.mt .append (.var 2) (.cons (.blt .sum (.cons (.lc [("v", 9)] (.name 9) (.rng1 (.op .shl (.int 1) (.var 0))) .yes (.op .shl (.op .band (.op .shr (.var 9) (.var 3)) (.int 1)) (.var 9))) .nil)) .nil)))
    .nil)
def colB2 : ISs := (.cons (.asg (.name 7) (.op .bxor (.ix (.var 2) (.op .fdiv (.var 5) (.int 2))) (.op .mul (.var 4) (.op .band (.var 5) (.int 1)))))
    (.cons (.asg (.name 8) (.op .bxor (.ix (.var 2) (.op .fdiv (.var 6) (.int 2))) (.op .mul (.var 4) (.op .band (.var 6) (.int 1)))))
    (.cons (.expr (.mt .append (.var 2) (.cons (.op .band (.var 7) (.var 8)) .nil)))
    .nil)))
theorem shl1 {s : Store} (b : Nat) (hb : b ≤ 1000000) : opR .shl (.int 1) (.int (b : Nat)) s = some (.v (.int ((2 ^ b : Nat) : Int))) := by
  have := shl_nat (s := s) 1 b (by decide) hb
  rw [Nat.one_mul] at this
  exact this
theorem pow_le {b c : Nat} (h : b ≤ c) : 2 ^ b ≤ 2 ^ c := Nat.pow_le_pow_right (by decide) h
theorem and1 {s : Store} (a : Nat) : opR .band (.int (a : Nat)) (.int 1) s = some (.v (.int ((a % 2 : Nat) : Int))) := by
  have := and_nat (s := s) a 1
  rw [low1] at this
  exact this
theorem col_item {b bits k : Nat} {e0 e1 e2 e4 e5 e6 e7 e8 e9 : Option D} {G : Glo} (v : Nat) (hv : v < 1000000) :
    itemF G b [("v", 9)] (.name 9) .yes (.op .shl (.op .band (.op .shr (.var 9) (.var 3)) (.int 1)) (.var 9)) [e0, e1, e2, some (.int (k : Nat)), e4, e5, e6, e7, e8, e9] (.int (v : Nat)) s = .ok [.int ((v / 2 ^ k % 2 * 2 ^ v : Nat) : Int)] s := by
  apply b_lcB (r := .v (.int ((v / 2 ^ k % 2 * 2 ^ v : Nat) : Int)))
  · apply g_name
    exact rfl
  · exact c_yes
  · (exists shr_nat _ _, and1 _, shl_nat _ _ (by omega) (by omega))
theorem lc_natm {F : Nat → Nat} {g : D → Store → Out (List D)} : ∀ ls : List Nat, (∀ l ∈ ls, g (.int (l : Nat)) s = .ok [.int (F l : Nat)] s) → lcL g (wd ls) s = .ok (wd (ls.map F)) s
  | [], _ => rfl
  | l :: ls, h => lcL_cons (x := [_]) (h l (by simp)) (lc_natm ls fun a m => h a (List.mem_cons_of_mem _ m))
theorem bit_num (x : Nat) : x % 2 = (decide (x % 2 = 1)).toNat := by
  have h : x % 2 = 0 ∨ x % 2 = 1 := by omega
  rcases h with h | h <;> rw [h] <;> rfl
theorem col1_step {G : Glo} {b bits k : Nat} (hb : bits ≤ 8) (hk : k < bits) (hw : s.length = b) {e1 e3 e4 e5 e6 e7 e8 e9 : Option D} {cs : List Nat} (hl : cs.length < 1000) :
    bodyF G b (.name 3) colB1 (.int (k : Nat)) [some (.int (bits : Nat)), e1, some (.cell b), e3, e4, e5, e6, e7, e8, e9] (s ++ [.lst (wd cs)]) =
      .ok (.nx, [some (.int (bits : Nat)), e1, some (.cell b), some (.int (k : Nat)), e4, e5, e6, e7, e8, e9]) (s ++ [.lst (wd (cs ++ [BN.colN (2 ^ bits) fun v => decide (v / 2 ^ k % 2 = 1)]))]) := by
  have hN : 2 ^ bits ≤ 256 := pow_le hb
  have hs : ((List.range (2 ^ bits)).map fun v => v / 2 ^ k % 2 * 2 ^ v).sum = BN.colN (2 ^ bits) fun v => decide (v / 2 ^ k % 2 = 1) := by
    rw [← BN.colN_sum]
    congr 1
    apply List.map_congr_left
    intro v _
    rw [← bit_num]
  have hlc := lc_natm (s := s ++ [.lst (wd cs)]) (List.range (2 ^ bits)) fun v hv => col_item (G := G) (b := b) (bits := bits) (k := k) (e0 := some (.int (bits : Nat))) (e1 := e1) (e2 := some (.cell b)) (e4 := e4) (e5 := e5) (e6 := e6) (e7 := e7) (e8 := e8) (e9 := e9) v (by rw [List.mem_range] at hv; omega)
  rw [← rng0_wd] at hlc
  have hlen : (rngL 0 (2 ^ bits)).length ≤ 100000 := by rw [rngL_len]; omega
  have hsum := sum_wd (s := s ++ [.lst (wd cs)]) ((List.range (2 ^ bits)).map fun v => v / 2 ^ k % 2 * 2 ^ v)
  rw [hs] at hsum
  have m := app_own (gd := G.gd) (b := b) s (wd cs) (.int (BN.colN (2 ^ bits) fun v => decide (v / 2 ^ k % 2 = 1) : Nat)) hw (Nat.le_refl _) (by rw [wd_len]; omega)
  rw [← wd_snoc] at m
  have il := isl_own s (wd cs) hw
  have sh := shl1 (s := s ++ [.lst (wd cs)]) bits (by omega)
  have h18 : 2 ^ bits < 1000000000000000000 := by omega
  unfold colB1
  apply b_forB
  · (exists rfl)
  apply ss_nx
  · apply s_expr
    apply e_mt
    · (exists rfl)
    · exact il
    · apply es_cons
      · apply e_blt
        · apply es_cons
          · apply e_lcB
            · apply i_rng1
              · (exists sh)
              · exact rfl
              · exact h18
            · exact hlen
            · exact hlc
          · exact es_nil
        · exact hsum
      · exact es_nil
    · exact m
  · exact ss_nil
theorem col1_loop {G : Glo} {b bits : Nat} (hb : bits ≤ 8) (hw : s.length = b) {e1 e4 e5 e6 e7 e8 e9 : Option D} : ∀ (m k : Nat) (e3 : Option D), k + m = bits → ∃ e3',
    forL (bodyF G b (.name 3) colB1) (rngL (k : Nat) m) [some (.int (bits : Nat)), e1, some (.cell b), e3, e4, e5, e6, e7, e8, e9] (s ++ [.lst (wd ((BN.cols bits []).take (1 + k)))]) =
      .ok (.nx, [some (.int (bits : Nat)), e1, some (.cell b), e3', e4, e5, e6, e7, e8, e9]) (s ++ [.lst (wd (BN.cols bits []))])
  | 0, k, e3, h => ⟨e3, by
    have : (BN.cols bits []).take (1 + k) = BN.cols bits [] := List.take_of_length_le (by rw [BN.cols_len]; simp; omega)
    rw [this]
    rfl⟩
  | m + 1, k, e3, h => by
    have hl : ((BN.cols bits []).take (1 + k)).length < 1000 := by
      rw [List.length_take, BN.cols_len]
      simp only [List.length_nil]
      omega
    have st := col1_step (G := G) (s := s) hb (k := k) (by omega) hw (e1 := e1) (e3 := e3) (e4 := e4) (e5 := e5) (e6 := e6) (e7 := e7) (e8 := e8) (e9 := e9) hl
    have ht : (BN.cols bits []).take (1 + k) ++ [BN.colN (2 ^ bits) fun v => decide (v / 2 ^ k % 2 = 1)] = (BN.cols bits []).take (1 + (k + 1)) := by
      have e : 1 + (k + 1) = (1 + k) + 1 := by omega
      rw [e, List.take_succ, BN.cols_at (by simp; omega)]
      simp only [Option.toList_some]
      congr 2
      apply BN.colN_eq
      intro v _
      have e2 : 1 + k = k + 1 := by omega
      rw [e2]
      simp only [BN.vals, List.foldl_nil, BN.baseN, List.getD_eq_getElem?_getD, List.getElem?_cons_succ, List.getElem?_map]
      rw [List.getElem?_range (by omega)]
      simp
    rw [ht] at st
    obtain ⟨e3', e⟩ := col1_loop (G := G) hb hw (e1 := e1) (e4 := e4) (e5 := e5) (e6 := e6) (e7 := e7) (e8 := e8) (e9 := e9) m (k + 1) (some (.int (k : Nat))) (by omega)
    exact ⟨e3', forL_cons st e⟩
theorem cell_ix {gd : Nat → List (Str × D)} {s : Store} {b k a : Nat} {cs : List Nat} (hw : s.length = b) (h : cs[k]? = some a) : ixR gd (.cell b) (.int (k : Nat)) (s ++ [.lst (wd cs)]) = some (.v (.int (a : Nat))) := by
  subst hw
  have e : (s ++ [O.lst (wd cs)])[s.length]? = some (.lst (wd cs)) := by simp
  simp only [ixR, seqOf, e]
  rw [atI_nat (v := .int (a : Nat)) (by simp [wd, h])]
  rfl
def g56c : IG := .tup (.cons (.name 5) (.cons (.name 6) .nil))
theorem col2_step {G : Glo} {b bits : Nat} (hb : bits ≤ 8) (hw : s.length = b) {e1 e3 e5 e6 e7 e8 e9 : Option D} {done : List (Nat × Nat)} {x y : Nat} (hl : done.length < 10000) (hx : x < 2 * (1 + bits + done.length)) (hy : y < 2 * (1 + bits + done.length)) :
    ∃ e5' e6' e7' e8', bodyF G b g56c colB2 (encP (x, y)) [some (.int (bits : Nat)), e1, some (.cell b), e3, some (.int ((2 ^ 2 ^ bits - 1 : Nat) : Int)), e5, e6, e7, e8, e9] (s ++ [.lst (wd (BN.cols bits done))]) =
      .ok (.nx, [some (.int (bits : Nat)), e1, some (.cell b), e3, some (.int ((2 ^ 2 ^ bits - 1 : Nat) : Int)), e5', e6', e7', e8', e9]) (s ++ [.lst (wd (BN.cols bits (done ++ [(x, y)])))]) := by
  have hc : ∀ z, z < 2 * (1 + bits + done.length) → ∃ c, (BN.cols bits done)[z / 2]? = some c ∧ c ^^^ ((2 ^ 2 ^ bits - 1) * (z % 2)) = BN.colN (2 ^ bits) fun v => BN.lv (BN.vals (BN.baseN bits v) done) z := fun z hz => by
    refine ⟨_, BN.cols_at (by omega), ?_⟩
    rw [BN.lit_col]
    rfl
  obtain ⟨c1, g1, k1⟩ := hc x hx
  obtain ⟨c2, g2, k2⟩ := hc y hy
  have x1 := xor_nat (s := s ++ [.lst (wd (BN.cols bits done))]) c1 ((2 ^ 2 ^ bits - 1) * (x % 2))
  rw [k1] at x1
  have x2 := xor_nat (s := s ++ [.lst (wd (BN.cols bits done))]) c2 ((2 ^ 2 ^ bits - 1) * (y % 2))
  rw [k2] at x2
  have a1 := and_nat (s := s ++ [.lst (wd (BN.cols bits done))]) (BN.colN (2 ^ bits) fun v => BN.lv (BN.vals (BN.baseN bits v) done) x) (BN.colN (2 ^ bits) fun v => BN.lv (BN.vals (BN.baseN bits v) done) y)
  rw [BN.colN_and] at a1
  have m := app_own (gd := G.gd) (b := b) s (wd (BN.cols bits done)) (.int (BN.colN (2 ^ bits) fun v => BN.lv (BN.vals (BN.baseN bits v) done) x && BN.lv (BN.vals (BN.baseN bits v) done) y : Nat)) hw (Nat.le_refl _) (by rw [wd_len, BN.cols_len]; omega)
  rw [← wd_snoc, ← BN.cols_snoc bits done (x, y)] at m
  have il := isl_own s (wd (BN.cols bits done)) hw
  refine ⟨some (.int (x : Nat)), some (.int (y : Nat)), some (.int ((BN.colN (2 ^ bits) fun v => BN.lv (BN.vals (BN.baseN bits v) done) x : Nat) : Int)), some (.int ((BN.colN (2 ^ bits) fun v => BN.lv (BN.vals (BN.baseN bits v) done) y : Nat) : Int)), ?_⟩
  unfold g56c colB2 encP
  generalize hF : (2 ^ 2 ^ bits - 1 : Nat) = F at *
  have side : ∀ (i z c : Nat) (env : En.Env), env[2]? = some (some (.cell b)) → env[4]? = some (some (.int (F : Nat))) → env[i]? = some (some (.int (z : Nat))) → (BN.cols bits done)[z / 2]? = some c → ∀ r : Nat, opR .bxor (.int (c : Nat)) (.int ((F * (z % 2) : Nat) : Int)) (s ++ [.lst (wd (BN.cols bits done))]) = some (.v (.int (r : Nat))) →
      xE G b (.op .bxor (.ix (.var 2) (.op .fdiv (.var i) (.int 2))) (.op .mul (.var 4) (.op .band (.var i) (.int 1)))) env (s ++ [.lst (wd (BN.cols bits done))]) = .ok (.v (.int (r : Nat))) (s ++ [.lst (wd (BN.cols bits done))]) := fun i z c env e2 e4 ei hc r hr => by
    apply e_op
    · apply e_ix
      · exact e_var e2
      · apply e_op
        · exact e_var ei
        · exact e_int
        · exact fdiv2_nat z
      · exact cell_ix hw hc
    · apply e_op
      · exact e_var e4
      · apply e_op
        · exact e_var ei
        · exact e_int
        · exact and1 z
      · exact mul_natr F (z % 2) (by omega)
    · exact hr
  apply b_forB
  · (exists rfl)
  apply ss_nx
  · apply s_name'
    · exact side 5 x c1 _ rfl rfl rfl g1 _ x1
    · exact rfl
  apply ss_nx
  · apply s_name'
    · exact side 6 y c2 _ rfl rfl rfl g2 _ x2
    · exact rfl
  apply ss_nx
  · apply s_expr
    apply e_mt
    · exact e_var rfl
    · exact il
    · apply es_cons
      · apply e_op
        · exact e_var rfl
        · exact e_var rfl
        · exact a1
      · exact es_nil
    · exact m
  · exact ss_nil
theorem col2_loop {G : Glo} {b bits : Nat} (hb : bits ≤ 8) (hw : s.length = b) {e1 e3 e9 : Option D} : ∀ (rest done : List (Nat × Nat)) (e5 e6 e7 e8 : Option D), BN.WF (1 + bits) (done ++ rest) → (done ++ rest).length < 10000 → ∃ e5' e6' e7' e8',
    forL (bodyF G b g56c colB2) (enc rest) [some (.int (bits : Nat)), e1, some (.cell b), e3, some (.int ((2 ^ 2 ^ bits - 1 : Nat) : Int)), e5, e6, e7, e8, e9] (s ++ [.lst (wd (BN.cols bits done))]) =
      .ok (.nx, [some (.int (bits : Nat)), e1, some (.cell b), e3, some (.int ((2 ^ 2 ^ bits - 1 : Nat) : Int)), e5', e6', e7', e8', e9]) (s ++ [.lst (wd (BN.cols bits (done ++ rest)))])
  | [], done, e5, e6, e7, e8, _, _ => ⟨e5, e6, e7, e8, by rw [List.append_nil]; rfl⟩
  | (x, y) :: rest, done, e5, e6, e7, e8, hwf, hl => by
    obtain ⟨h1, h2⟩ := hwf done.length (x, y) (by simp)
    have hl' : done.length < 10000 := by rw [List.length_append] at hl; omega
    obtain ⟨d5, d6, d7, d8, st⟩ := col2_step (G := G) (s := s) hb hw (e1 := e1) (e3 := e3) (e5 := e5) (e6 := e6) (e7 := e7) (e8 := e8) (e9 := e9) hl' h1 h2
    have e0 : done ++ (x, y) :: rest = (done ++ [(x, y)]) ++ rest := by simp
    rw [e0] at hwf hl
    obtain ⟨f5, f6, f7, f8, e⟩ := col2_loop (G := G) hb hw (e1 := e1) (e3 := e3) (e9 := e9) rest (done ++ [(x, y)]) d5 d6 d7 d8 hwf hl
    rw [← e0] at e
    exact ⟨f5, f6, f7, f8, forL_cons st e⟩
theorem columns_run {G : Glo} {bits : Nat} (hb : bits ≤ 8) (hwf : BN.WF (1 + bits) ps) (hl : ps.length < 10000) (b : Nat) : i_law_columns.run G b [.int (bits : Nat), .lst (enc ps)] s = .ok (.n (.lst (wd (BN.cols bits ps)))) s := by
  rw [run_F rfl]
  have hN : 2 ^ bits ≤ 256 := pow_le hb
  have c0 : [D.int 0] = wd ((BN.cols bits []).take (1 + 0)) := by
    have : (BN.cols bits []).take (1 + 0) = [0] := by
      rw [Nat.add_zero, List.take_succ, BN.cols_at (by omega)]
      have h0 : (fun v => (BN.vals (BN.baseN bits v) []).getD 0 false) = fun _ => false := by
        funext v
        rfl
      rw [h0, BN.colN_false]
      rfl
    rw [this]
    rfl
  have z1 : opR .sub (.int ((2 ^ 2 ^ bits : Nat) : Int)) (.int 1) (s ++ [.lst (wd (BN.cols bits []))]) = some (.v (.int ((2 ^ 2 ^ bits - 1 : Nat) : Int))) := sub_nat (Nat.two_pow_pos _)
  have sh1 := shl1 (s := s ++ [.lst (wd (BN.cols bits []))]) bits (by omega)
  have sh2 := shl1 (s := s ++ [.lst (wd (BN.cols bits []))]) (2 ^ bits) (by omega)
  obtain ⟨d3, l1⟩ := col1_loop (G := G) (s := s) hb rfl (e1 := some (.lst (enc ps))) (e4 := none) (e5 := none) (e6 := none) (e7 := none) (e8 := none) (e9 := none) bits 0 none (by omega)
  obtain ⟨d5, d6, d7, d8, l2⟩ := col2_loop (G := G) (s := s) hb rfl (e1 := some (.lst (enc ps))) (e3 := d3) (e9 := none) ps [] none none none none hwf hl
  have h18 : bits < 1000000000000000000 := by omega
  apply run_of rfl
  · unfold i_law_columns
    show xSs _ _ _ [some (.int (bits : Nat)), some (.lst (enc ps)), none, none, none, none, none, none, none, none] _ = _
    apply ss_nx
    · (exists rfl)
    rw [R.d, c0]
    apply ss_nx
    · apply s_forB
      · apply i_rng1
        · (exists rfl)
        · exact rfl
        · exact h18
      · exact l1
    apply ss_nx
    · (exists sh1, sh2, z1)
    apply ss_nx
    · apply s_forB
      · apply i_frz
        · (exists rfl)
        · exact rfl
      · exact l2
    · (exists rfl)
  · have e1 : (s ++ [O.lst (wd (BN.cols bits ([] ++ ps)))])[s.length]? = some (.lst (wd (BN.cols bits ps))) := by simp
    simp only [endR]
    rw [e1]
    simp [cbO, wd_cb]
end K13

set_option Elab.async false
set_option linter.all false
set_option maxRecDepth 100000
set_option maxHeartbeats 1000000
namespace K13
open PySem PySem.Spec PyProof.Rows L2 En
variable {s : Store} {q p t I L V n : Nat} {ps ps0 : List (Nat × Nat)} {f : Den}
def woB : ISs := (.cons (.asg (.name 3) (.op .add (.var 3) (.op .shl (.op .bxor (.op .band (.op .shr (.ix (.var 0) (.op .fdiv (.ix (.var 1) (.var 4)) (.int 2))) (.var 2)) (.int 1)) (.op .band (.ix (.var 1) (.var 4)) (.int 1))) (.var 4))))
    .nil)
theorem wo_step {G : Glo} {b : Nat} {cs ls : List Nat} {k l c v tot : Nat} {x4 : Option D} (hl : ls[k]? = some l) (hc : cs[l / 2]? = some c) (hk : k < 1000) (r : Nat) (hr : ((c / 2 ^ v % 2) ^^^ (l % 2)) = r) (hr2 : r < 2) :
    bodyF G b (.name 4) woB (.int (k : Nat)) [some (.lst (wd cs)), some (.lst (wd ls)), some (.int (v : Nat)), some (.int (tot : Nat)), x4] s =
      .ok (.nx, [some (.lst (wd cs)), some (.lst (wd ls)), some (.int (v : Nat)), some (.int ((tot + r * 2 ^ k : Nat) : Int)), some (.int (k : Nat))]) s := by
  have x := xor_nat (s := s) (c / 2 ^ v % 2) (l % 2)
  rw [hr] at x
  unfold woB
  apply b_forB
  · (exists rfl)
  apply ss_nx
  · apply s_name'
    · apply e_op
      · exact e_var rfl
      · apply e_op
        · apply e_op
          · apply e_op
            · apply e_op
              · apply e_ix
                · exact e_var rfl
                · apply e_op
                  · apply e_ix
                    · exact e_var rfl
                    · exact e_var rfl
                    · exact at_wd hl
                  · exact e_int
                  · exact fdiv2_nat l
                · exact at_wd hc
              · exact e_var rfl
              · exact shr_nat c v
            · exact e_int
            · exact and1 _
          · apply e_op
            · apply e_ix
              · exact e_var rfl
              · exact e_var rfl
              · exact at_wd hl
            · exact e_int
            · exact and1 l
          · exact x
        · exact e_var rfl
        · exact shl_nat r k (by omega) (by omega)
      · exact add_nat _ _
    · exact rfl
  · exact ss_nil
theorem wo_loop {G : Glo} {b bits v : Nat} {ls : List Nat} (hv : v < 2 ^ bits) (hb : ∀ l ∈ ls, l < 2 * (1 + bits + ps.length)) : ∀ (lr : List Nat) (k : Nat) (x4 : Option D), ls.drop k = lr → k + lr.length < 1000 →
    ∃ x4', forL (bodyF G b (.name 4) woB) (rngL (k : Nat) lr.length) [some (.lst (wd (BN.cols bits ps))), some (.lst (wd ls)), some (.int (v : Nat)), some (.int ((BN.wv ((ls.take k).map (BN.lv (BN.vals (BN.baseN bits v) ps))) : Nat) : Int)), x4] s =
      .ok (.nx, [some (.lst (wd (BN.cols bits ps))), some (.lst (wd ls)), some (.int (v : Nat)), some (.int ((BN.wv (ls.map (BN.lv (BN.vals (BN.baseN bits v) ps))) : Nat) : Int)), x4']) s
  | [], k, x4, hd, _ => ⟨x4, by
    have : ls.take k = ls := List.take_of_length_le (by
      have := congrArg List.length hd
      simp at this
      omega)
    rw [this]
    rfl⟩
  | l :: lr, k, x4, hd, hk => by
    simp only [List.length_cons] at hk
    obtain ⟨h1, h2⟩ := drop_get hd
    have hl := hb l (List.mem_of_getElem? h1)
    have hc := BN.cols_at (bits := bits) (ps := ps) (i := l / 2) (by omega)
    have hr : ((BN.colN (2 ^ bits) fun v => (BN.vals (BN.baseN bits v) ps).getD (l / 2) false) / 2 ^ v % 2) ^^^ (l % 2) = (BN.lv (BN.vals (BN.baseN bits v) ps) l).toNat := by
      rw [BN.colN_at _ hv, bit_num l]
      unfold BN.lv
      generalize (BN.vals (BN.baseN bits v) ps).getD (l / 2) false = x
      rw [← bit_num l]
      have h3 : l % 2 = 0 ∨ l % 2 = 1 := by omega
      rcases h3 with h3 | h3 <;> rw [h3] <;> cases x <;> rfl
    have st := wo_step (G := G) (b := b) (s := s) (tot := BN.wv ((ls.take k).map (BN.lv (BN.vals (BN.baseN bits v) ps)))) (x4 := x4) h1 hc (by omega) _ hr (by cases BN.lv (BN.vals (BN.baseN bits v) ps) l <;> decide)
    have ht : BN.wv ((ls.take k).map (BN.lv (BN.vals (BN.baseN bits v) ps))) + (BN.lv (BN.vals (BN.baseN bits v) ps) l).toNat * 2 ^ k = BN.wv ((ls.take (k + 1)).map (BN.lv (BN.vals (BN.baseN bits v) ps))) := by
      rw [List.take_succ, h1]
      simp only [Option.toList_some, List.map_append, List.map_cons, List.map_nil]
      rw [BN.wv_snoc]
      have : k < ls.length := (List.getElem?_eq_some_iff.mp h1).1
      simp only [List.length_map, List.length_take]
      rw [Nat.min_eq_left (by omega)]
    rw [ht] at st
    obtain ⟨x4', e⟩ := wo_loop (G := G) hv hb lr (k + 1) (some (.int (k : Nat))) h2 (by omega)
    exact ⟨x4', forL_cons st e⟩
/-- the number of a word at a valuation -/
def num (bits : Nat) (ps : List (Nat × Nat)) (v : Nat) (ls : List Nat) : Nat := BN.wv (ls.map (BN.lv (BN.vals (BN.baseN bits v) ps)))
theorem worth_run {G : Glo} {bits v : Nat} {ls : List Nat} (b : Nat) (hv : v < 2 ^ bits) (hb : ∀ l ∈ ls, l < 2 * (1 + bits + ps.length)) (hl : ls.length < 1000) :
    i_law_worth.run G b [.lst (wd (BN.cols bits ps)), .lst (wd ls), .int (v : Nat)] s = .ok (.v (.int (num bits ps v ls : Nat))) s := by
  rw [run_F rfl]
  obtain ⟨x4, e⟩ := wo_loop (G := G) (s := s) (b := s.length) hv hb ls 0 none rfl (by omega)
  have hl2 : ls.length < 1000000000000000000 := by omega
  apply run_ret rfl
  · unfold i_law_worth
    show xSs _ _ _ [some (.lst (wd (BN.cols bits ps))), some (.lst (wd ls)), some (.int (v : Nat)), none, none] _ = _
    apply ss_nx
    · (exists rfl)
    apply ss_nx
    · apply s_forB
      · apply i_rng1
        · (exists len_wd)
        · exact rfl
        · exact hl2
      · exact e
    · (exists rfl)
  · exact end_int rfl
/-- the plain arithmetic -/
def plainN (kind a b size : Nat) : Nat :=
  if kind = 0 then (a + b) % 2 ^ size else if kind = 1 then (a + 2 ^ size - b) % 2 ^ size else if kind = 2 then (decide (a = b)).toNat else if kind = 3 then (decide (a < b)).toNat
  else if kind = 4 then (decide (0 < a)).toNat else if kind = 5 then (decide (a = 2 ^ size - 1)).toNat else ((List.range size).map fun k => a / 2 ^ k % 2).sum % 2
theorem mask_op (x : Int) (size : Nat) : opR .band (.int x) (.int ((2 ^ size - 1 : Nat) : Int)) s = some (.v (.int (x % ((2 ^ size : Nat) : Int)))) := by
  show some (R.v (.int (Builtin.bitAnd x ((2 ^ size - 1 : Nat) : Int)))) = _
  have : ((2 ^ size - 1 : Nat) : Int) = 2 ^ size - 1 := by
    rw [Int.ofNat_sub (Nat.two_pow_pos _)]
    push_cast
    rfl
  rw [this, PySem.W.kbt_mask]
  push_cast
  rfl
theorem int1_nat (k : Bool) : bltR .int1 [.bl k] s = some (.v (.int (k.toNat : Nat))) := by cases k <;> rfl
theorem plain_run {G : Glo} (b kind x y size : Nat) (hk : kind < 7) (hy : y < 2 ^ size) (hs : size < 1000) :
    i_law_plain.run G b [.int (kind : Nat), .int (x : Nat), .int (y : Nat), .int (size : Nat)] s = .ok (.v (.int (plainN kind x y size : Nat))) s := by
  rw [run_F rfl]
  have sh := shl1 (s := s) size (by omega)
  have z1 : opR .sub (.int ((2 ^ size : Nat) : Int)) (.int 1) s = some (.v (.int ((2 ^ size - 1 : Nat) : Int))) := sub_nat (Nat.two_pow_pos _)
  have goal : xSs G s.length i_law_plain.d.body [some (.int (kind : Nat)), some (.int (x : Nat)), some (.int (y : Nat)), some (.int (size : Nat)), none] s = .ok (.ret (.v (.int (plainN kind x y size : Nat))), [some (.int (kind : Nat)), some (.int (x : Nat)), some (.int (y : Nat)), some (.int (size : Nat)), none]) s := by
    have c : kind = 0 ∨ kind = 1 ∨ kind = 2 ∨ kind = 3 ∨ kind = 4 ∨ kind = 5 ∨ kind = 6 := by omega
    rcases c with rfl | rfl | rfl | rfl | rfl | rfl | rfl
    · have m := mask_op (s := s) ((x + y : Nat) : Int) size
      have e : (((x + y : Nat) : Int) % ((2 ^ size : Nat) : Int)) = ((plainN 0 x y size : Nat) : Int) := rfl
      rw [e] at m
      unfold i_law_plain
      (exists sh, z1, add_nat _ _, m, dec1 rfl)
    · have m := mask_op (s := s) ((x : Int) - (y : Int)) size
      have e : (((x : Int) - (y : Int)) % ((2 ^ size : Nat) : Int)) = ((plainN 1 x y size : Nat) : Int) := by
        have h1 : ((plainN 1 x y size : Nat) : Int) = ((x + 2 ^ size - y : Nat) : Int) % ((2 ^ size : Nat) : Int) := rfl
        rw [h1, Int.ofNat_sub (by omega), Int.natCast_add]
        have h2 : ((x : Int) + ((2 ^ size : Nat) : Int) - (y : Int)) = ((x : Int) - (y : Int)) + ((2 ^ size : Nat) : Int) := by omega
        rw [h2, Int.add_emod_right]
      rw [e] at m
      unfold i_law_plain
      (exists sh, z1, sub_op _ _, m, dec1 rfl, dec0 (by decide))
    · have m : bltR .int1 [.bl (decide ((x : Int) = (y : Int)))] s = some (.v (.int (plainN 2 x y size : Nat))) := by
        rw [int1_nat]
        have : decide ((x : Int) = (y : Int)) = decide (x = y) := by
          rw [decide_eq_decide]
          omega
        rw [this]
        rfl
      unfold i_law_plain
      (exists m, dec1 rfl, dec0 (by decide))
    · have m : bltR .int1 [.bl (decide ((x : Int) < (y : Int)))] s = some (.v (.int (plainN 3 x y size : Nat))) := by
        rw [int1_nat]
        have : decide ((x : Int) < (y : Int)) = decide (x < y) := by
          rw [decide_eq_decide]
          omega
        rw [this]
        rfl
      unfold i_law_plain
      (exists m, dec1 rfl, dec0 (by decide))
    · have m : bltR .int1 [.bl (decide ((0 : Int) < (x : Int)))] s = some (.v (.int (plainN 4 x y size : Nat))) := by
        rw [int1_nat]
        have : decide ((0 : Int) < (x : Int)) = decide (0 < x) := by
          rw [decide_eq_decide]
          omega
        rw [this]
        rfl
      unfold i_law_plain
      (exists m, dec1 rfl, dec0 (by decide))
    · have m : bltR .int1 [.bl (decide ((x : Int) = ((2 ^ size - 1 : Nat) : Int)))] s = some (.v (.int (plainN 5 x y size : Nat))) := by
        rw [int1_nat]
        have : decide ((x : Int) = ((2 ^ size - 1 : Nat) : Int)) = decide (x = 2 ^ size - 1) := by
          rw [decide_eq_decide]
          generalize 2 ^ size - 1 = z
          omega
        rw [this]
        rfl
      unfold i_law_plain
      (exists sh, z1, m, dec1 rfl, dec0 (by decide))
    · have hlc := lc_natm (s := s) (F := fun k => x / 2 ^ k % 2) (g := itemF G s.length [("k", 4)] (.name 4) .yes (.op .band (.op .shr (.var 1) (.var 4)) (.int 1)) [some (.int ((6 : Nat) : Int)), some (.int (x : Nat)), some (.int (y : Nat)), some (.int (size : Nat)), none]) (List.range size) (fun k _ => by
        apply b_lcB (r := .v (.int ((x / 2 ^ k % 2 : Nat) : Int)))
        · apply g_name
          exact rfl
        · exact c_yes
        · (exists shr_nat _ _, and1 _))
      rw [← rng0_wd] at hlc
      have hlen : (rngL 0 size).length ≤ 100000 := by rw [rngL_len]; omega
      have hsum := sum_wd (s := s) ((List.range size).map fun k => x / 2 ^ k % 2)
      have h18 : size < 1000000000000000000 := by omega
      unfold i_law_plain
      iterate 6
        apply ss_nx
        · (exists dec0 (by decide))
      apply ss_ret
      apply s_ret
      apply e_op
      · apply e_blt
        · apply es_cons
          · apply e_lcB
            · apply i_rng1
              · (exists rfl)
              · exact rfl
              · exact h18
            · exact hlen
            · exact hlc
          · exact es_nil
        · exact hsum
      · (exists rfl)
      · exact and1 _
  exact run_ret rfl goal (end_int rfl)
def hoB : ISs := (.cons (.asg (.name 6) (.call 30 (.cons (.var 0) (.cons (.ix (.var 3) (.int 0)) (.cons (.var 5) .nil)))))
    (.cons (.asg (.name 7) (.call 30 (.cons (.var 0) (.cons (.ix (.var 3) (.int 1)) (.cons (.var 5) .nil)))))
    (.cons (.ifs (.e (.cmp .ne (.call 30 (.cons (.var 0) (.cons (.var 4) (.cons (.var 5) .nil)))) (.call 29 (.cons (.var 2) (.cons (.var 6) (.cons (.var 7) (.cons (.blt .len (.cons (.ix (.var 3) (.int 0)) .nil)) .nil))))))) (.cons (.ret (.bl false))
    .nil) .nil)
    .nil)))
/-- what the law's look can -/
structure Lk2 (f : Den) : Prop where
  worth : ∀ {ps : List (Nat × Nat)} {bits v : Nat} {ls : List Nat}, v < 2 ^ bits → (∀ l ∈ ls, l < 2 * (1 + bits + ps.length)) → ls.length < 1000 → f.fn 30 0 [.lst (wd (BN.cols bits ps)), .lst (wd ls), .int (v : Nat)] [] = .ok (.v (.int (num bits ps v ls : Nat))) []
  plain : ∀ {kind x y size : Nat}, kind < 7 → y < 2 ^ size → size < 1000 → f.fn 29 0 [.int (kind : Nat), .int (x : Nat), .int (y : Nat), .int (size : Nat)] [] = .ok (.v (.int (plainN kind x y size : Nat))) []
theorem wd0 (ls : List Nat) : cb 0 (.lst (wd ls)) = true := by
  show cbs 0 (wd ls) = true
  exact wd_cb 0 ls
theorem ho_step (hL : Lk2 f) {bits kind v : Nat} {as bs ts : List Nat} {x5 x6 x7 : Option D} (b : Nat) (hv : v < 2 ^ bits) (hk : kind < 7) (ha : ∀ l ∈ as, l < 2 * (1 + bits + ps.length)) (hb : ∀ l ∈ bs, l < 2 * (1 + bits + ps.length)) (ht : ∀ l ∈ ts, l < 2 * (1 + bits + ps.length))
    (la : as.length < 1000) (lb : bs.length = as.length) (lt : ts.length < 1000) (eq : num bits ps v ts = plainN kind (num bits ps v as) (num bits ps v bs) as.length) :
    bodyF (tb.glo f) b (.name 5) hoB (.int (v : Nat)) [some (.lst (wd (BN.cols bits ps))), some (.int (bits : Nat)), some (.int (kind : Nat)), some (.lst [.lst (wd as), .lst (wd bs)]), some (.lst (wd ts)), x5, x6, x7] s =
      .ok (.nx, [some (.lst (wd (BN.cols bits ps))), some (.int (bits : Nat)), some (.int (kind : Nat)), some (.lst [.lst (wd as), .lst (wd bs)]), some (.lst (wd ts)), some (.int (v : Nat)), some (.int (num bits ps v as : Nat)), some (.int (num bits ps v bs : Nat))]) s := by
  have w1 := hL.worth hv ha la
  have w2 := hL.worth hv hb (by omega)
  have w3 := hL.worth hv ht lt
  have hy : num bits ps v bs < 2 ^ as.length := by
    have := BN.wv_lt (bs.map (BN.lv (BN.vals (BN.baseN bits v) ps)))
    rw [List.length_map, lb] at this
    exact this
  have pl := hL.plain (x := num bits ps v as) hk hy la
  rw [← eq] at pl
  have i0 : ixR (tb.glo f).gd (.lst [.lst (wd as), .lst (wd bs)]) (.int 0) s = some (.v (.lst (wd as))) := rfl
  have i1 : ixR (tb.glo f).gd (.lst [.lst (wd as), .lst (wd bs)]) (.int 1) s = some (.v (.lst (wd bs))) := rfl
  have k1 : cbs 0 [.lst (wd (BN.cols bits ps)), .lst (wd as), .int (v : Nat)] = true := by simp only [cbs, cb, wd_cb, Bool.and_self]
  have k2 : cbs 0 [.lst (wd (BN.cols bits ps)), .lst (wd bs), .int (v : Nat)] = true := by simp only [cbs, cb, wd_cb, Bool.and_self]
  have k3 : cbs 0 [.lst (wd (BN.cols bits ps)), .lst (wd ts), .int (v : Nat)] = true := by simp only [cbs, cb, wd_cb, Bool.and_self]
  unfold hoB
  (exists i0, i1, callR_of k1 w1, callR_of k2 w2, callR_of k3 w3, len_wd, callR_of rfl pl, congrArg (fun b => some (!b)) (decide_eq_true rfl))
theorem ho_loop (hL : Lk2 f) {bits kind : Nat} {as bs ts : List Nat} (b : Nat) (hk : kind < 7) (ha : ∀ l ∈ as, l < 2 * (1 + bits + ps.length)) (hb : ∀ l ∈ bs, l < 2 * (1 + bits + ps.length)) (ht : ∀ l ∈ ts, l < 2 * (1 + bits + ps.length))
    (la : as.length < 1000) (lb : bs.length = as.length) (lt : ts.length < 1000) (eq : ∀ v, v < 2 ^ bits → num bits ps v ts = plainN kind (num bits ps v as) (num bits ps v bs) as.length) : ∀ (m v : Nat) (x5 x6 x7 : Option D), v + m = 2 ^ bits → ∃ x5' x6' x7',
    forL (bodyF (tb.glo f) b (.name 5) hoB) (rngL (v : Nat) m) [some (.lst (wd (BN.cols bits ps))), some (.int (bits : Nat)), some (.int (kind : Nat)), some (.lst [.lst (wd as), .lst (wd bs)]), some (.lst (wd ts)), x5, x6, x7] s =
      .ok (.nx, [some (.lst (wd (BN.cols bits ps))), some (.int (bits : Nat)), some (.int (kind : Nat)), some (.lst [.lst (wd as), .lst (wd bs)]), some (.lst (wd ts)), x5', x6', x7']) s
  | 0, v, x5, x6, x7, _ => ⟨x5, x6, x7, rfl⟩
  | m + 1, v, x5, x6, x7, h => by
    have st := ho_step (s := s) hL (x5 := x5) (x6 := x6) (x7 := x7) b (v := v) (by omega) hk ha hb ht la lb lt (eq v (by omega))
    obtain ⟨y5, y6, y7, e⟩ := ho_loop hL b hk ha hb ht la lb lt eq m (v + 1) _ _ _ (by omega)
    exact ⟨y5, y6, y7, forL_cons st e⟩
/-- the look says yes: told words -/
theorem holds_run (hL : Lk2 f) {bits kind : Nat} {as bs ts : List Nat} {T : D} (b : Nat) (hk : kind < 7) (hT : (kind ≤ 1 ∧ T = .lst (wd ts)) ∨ (1 < kind ∧ ∃ l : Nat, T = .int (l : Nat) ∧ ts = [l])) (hbits : bits ≤ 8) (ha : ∀ l ∈ as, l < 2 * (1 + bits + ps.length)) (hb : ∀ l ∈ bs, l < 2 * (1 + bits + ps.length)) (ht : ∀ l ∈ ts, l < 2 * (1 + bits + ps.length))
    (la : as.length < 1000) (lb : bs.length = as.length) (lt : ts.length < 1000) (eq : ∀ v, v < 2 ^ bits → num bits ps v ts = plainN kind (num bits ps v as) (num bits ps v bs) as.length) :
    i_law_holds.run (tb.glo f) b [.lst (wd (BN.cols bits ps)), .int (bits : Nat), .int (kind : Nat), .lst [.lst (wd as), .lst (wd bs)], T] s = .ok (.v (.bl true)) s := by
  rw [run_F rfl]
  have hN : 2 ^ bits ≤ 256 := pow_le hbits
  obtain ⟨y5, y6, y7, e⟩ := ho_loop (s := s) hL s.length hk ha hb ht la lb lt eq (2 ^ bits) 0 none none none (by omega)
  have sh := shl1 (s := s) bits (by omega)
  have h18 : 2 ^ bits < 1000000000000000000 := by omega
  apply run_ret rfl
  · unfold i_law_holds
    show xSs _ _ _ [some (.lst (wd (BN.cols bits ps))), some (.int (bits : Nat)), some (.int (kind : Nat)), some (.lst [.lst (wd as), .lst (wd bs)]), some T, none, none, none] _ = _
    apply ss_nx (e1 := [some (.lst (wd (BN.cols bits ps))), some (.int (bits : Nat)), some (.int (kind : Nat)), some (.lst [.lst (wd as), .lst (wd bs)]), some (.lst (wd ts)), none, none, none]) (s1 := s)
    · rcases hT with ⟨h1, rfl⟩ | ⟨h1, l, rfl, rfl⟩
      · (exists dec0 (by omega))
      · (exists dec1 (by omega))
    apply ss_nx
    · apply s_forB
      · apply i_rng1
        · (exists sh)
        · exact rfl
        · exact h18
      · exact e
    · (exists rfl)
  · exact end_bl rfl
end K13

set_option Elab.async false
set_option linter.all false
set_option maxRecDepth 100000
set_option maxHeartbeats 1000000
namespace En
open PySem PySem.Spec PyProof.Rows L2
/-- a draw, with own cells behind -/
theorem draw_nr {f : Nat → List D → Store → Out R} (hd : DrawAt f) {s : Store} {n : Nat} (hn : n < s.length) (r : Store) (b : Nat) (P : Int × Int × Int) (m : Int) (hm : 0 < m) (hm2 : m < 1000000000) :
    ∃ (g : Nat) (P' : Int × Int × Int), (g : Int) < m ∧ callR f b [.cell n, .int m] (s.set n (pl P.1 P.2.1 P.2.2) ++ r) = .ok (.v (.int (g : Nat))) (s.set n (pl P'.1 P'.2.1 P'.2.2) ++ r) := by
  obtain ⟨g, c', r', t', h1, h2⟩ := draw_nx hd (s := s ++ r) (n := n) (by rw [List.length_append]; omega) b P.1 P.2.1 P.2.2 m hm hm2
  rw [List.set_append_left _ _ hn, List.set_append_left _ _ hn] at h2
  exact ⟨g, (c', r', t'), h1, h2⟩
end En
namespace K13
open PySem PySem.Spec PyProof.Rows L2 En
/-- the store with a pool -/
abbrev stp (s : Store) (n : Nat) (P : Int × Int × Int) : Store := s.set n (pl P.1 P.2.1 P.2.2)
variable {s : Store} {n : Nat} {f : Den}
def SomeOk (f : Den) : Prop := ∀ {s : Store} {n : Nat} (hn : n < s.length) (r : Store) (b : Nat) (P : Int × Int × Int) (top : Nat), 0 < top → top < 1000000 →
  ∃ (l : Nat) (P' : Int × Int × Int), l < top ∧ callR (f.fn 23) b [.cell n, .int (top : Nat)] (stp s n P ++ r) = .ok (.v (.int (l : Nat))) (stp s n P' ++ r)
theorem some_run (hd : DrawAt (f.fn 10)) (hn : n < s.length) (r : Store) (b : Nat) (P : Int × Int × Int) (top : Nat) (h0 : 0 < top) (h1 : top < 1000000) :
    ∃ (l : Nat) (P' : Int × Int × Int), l < top ∧ i_law_some.run (tb.glo f) b [.cell n, .int (top : Nat)] (stp s n P ++ r) = .ok (.v (.int (l : Nat))) (stp s n P' ++ r) := by
  rw [run_F rfl]
  obtain ⟨g1, P1, k1, e1⟩ := draw_nr hd hn r (stp s n P ++ r).length P 2 (by decide) (by decide)
  by_cases hg : g1 = 1
  · subst hg
    obtain ⟨mn, hmn⟩ : ∃ mn : Nat, mn = min top 8 := ⟨_, rfl⟩
    obtain ⟨g2, P2, k2, e2⟩ := draw_nr hd hn r (stp s n P ++ r).length P1 (mn : Nat) (by omega) (by omega)
    refine ⟨top - 1 - g2, P2, by omega, ?_⟩
    have m1 : bltR .min2 [.int (top : Nat), .int 8] (stp s n P1 ++ r) = some (.v (.int (mn : Nat))) := by rw [hmn]; exact min2_nat top 8
    have s1 : opR .sub (.int (top : Nat)) (.int 1) (stp s n P1 ++ r) = some (.v (.int ((top - 1 : Nat) : Int))) := sub_nat (a := top) (b := 1) (by omega)
    have s2 : opR .sub (.int ((top - 1 : Nat) : Int)) (.int (g2 : Nat)) (stp s n P2 ++ r) = some (.v (.int ((top - 1 - g2 : Nat) : Int))) := sub_nat (by omega)
    apply run_ret rfl
    · unfold i_law_some
      show xSs _ _ _ [some (.cell n), some (.int (top : Nat))] _ = _
      (exists e1, m1, e2, s1, s2, dec1 rfl)
    · exact end_int (by simp)
  · obtain ⟨g2, P2, k2, e2⟩ := draw_nr hd hn r (stp s n P ++ r).length P1 (top : Nat) (by omega) (by omega)
    refine ⟨g2, P2, by omega, ?_⟩
    apply run_ret rfl
    · unfold i_law_some
      show xSs _ _ _ [some (.cell n), some (.int (top : Nat))] _ = _
      (exists e1, e2, dec0 (by omega))
    · exact end_int (by simp)
theorem word_loop {G : Glo} {b j : Nat} {own : List (Str × Nat)} {i : Nat} {x : IE} {env : En.Env} {Q : Nat → Prop} (hn : n < s.length) (r : Store)
    (item : ∀ (k : Nat) (P : Int × Int × Int), ∃ (l : Nat) (P' : Int × Int × Int), Q l ∧ itemF G b own (.name i) .yes x env (.int (k : Nat)) (stp s n P ++ r) = .ok [.int (l : Nat)] (stp s n P' ++ r)) :
    ∀ (m k : Nat) (P : Int × Int × Int), ∃ (ls : List Nat) (P' : Int × Int × Int), ls.length = m ∧ (∀ l ∈ ls, Q l) ∧ lcL (itemF G b own (.name i) .yes x env) (rngL (k : Nat) m) (stp s n P ++ r) = .ok (wd ls) (stp s n P' ++ r)
  | 0, k, P => ⟨[], P, rfl, by simp, rfl⟩
  | m + 1, k, P => by
    obtain ⟨l, P1, q1, e1⟩ := item k P
    obtain ⟨ls, P2, h1, h2, e2⟩ := word_loop (j := j) hn r item m (k + 1) P1
    refine ⟨l :: ls, P2, by simp [h1], fun a ha => ?_, lcL_cons (x := [_]) e1 e2⟩
    rcases List.mem_cons.mp ha with rfl | ha
    · exact q1
    · exact h2 a ha
def WordOk (f : Den) : Prop := ∀ {s : Store} {n : Nat} (hn : n < s.length) (r : Store) (b : Nat) (P : Int × Int × Int) (top size : Nat), 0 < top → top < 1000000 → size < 100 →
  ∃ (ls : List Nat) (P' : Int × Int × Int), ls.length = size ∧ (∀ l ∈ ls, l < top) ∧ callR (f.fn 25) b [.cell n, .int (top : Nat), .int (size : Nat)] (stp s n P ++ r) = .ok (.n (.lst (wd ls))) (stp s n P' ++ r)
theorem word_run (hd : SomeOk f) (hn : n < s.length) (r : Store) (b : Nat) (P : Int × Int × Int) (top size : Nat) (h0 : 0 < top) (h1 : top < 1000000) (h2 : size < 100) :
    ∃ (ls : List Nat) (P' : Int × Int × Int), ls.length = size ∧ (∀ l ∈ ls, l < top) ∧ i_law_word.run (tb.glo f) b [.cell n, .int (top : Nat), .int (size : Nat)] (stp s n P ++ r) = .ok (.n (.lst (wd ls))) (stp s n P' ++ r) := by
  rw [run_F rfl]
  obtain ⟨ls, P', q1, q2, e⟩ := word_loop (G := tb.glo f) (b := (stp s n P ++ r).length) (j := 0) (own := [("k", 3)]) (i := 3) (x := .call 23 (.cons (.var 0) (.cons (.var 1) .nil))) (env := [some (.cell n), some (.int (top : Nat)), some (.int (size : Nat)), none]) (Q := fun l => l < top) hn r (fun k P1 => by
    obtain ⟨l, P2, q, e⟩ := hd hn r (stp s n P ++ r).length P1 top h0 h1
    refine ⟨l, P2, q, ?_⟩
    apply b_lcB (r := .v (.int (l : Nat)))
    · apply g_name
      exact rfl
    · exact c_yes
    · (exists e)) size 0 P
  refine ⟨ls, P', q1, q2, ?_⟩
  have hlen : (rngL 0 size).length ≤ 100000 := by rw [rngL_len]; omega
  have h18 : size < 1000000000000000000 := by omega
  apply run_ret rfl
  · unfold i_law_word
    show xSs _ _ _ [some (.cell n), some (.int (top : Nat)), some (.int (size : Nat)), none] _ = _
    apply ss_ret
    apply s_ret
    apply e_lcB
    · apply i_rng1
      · (exists rfl)
      · exact rfl
      · exact h18
    · exact hlen
    · exact e
  · exact end_n (by simp) (wd_cb _ _)
def PickOk (f : Den) : Prop := ∀ {s : Store} {n : Nat} (hn : n < s.length) (r : Store) (b : Nat) (P : Int × Int × Int) (row : List Nat), 0 < row.length → row.length < 1000 →
  ∃ (l : Nat) (P' : Int × Int × Int), l ∈ row ∧ callR (f.fn 11) b [.cell n, .lst (wd row)] (stp s n P ++ r) = .ok (.v (.int (l : Nat))) (stp s n P' ++ r)
theorem wd_mem {ls : List Nat} {d : D} (h : d ∈ wd ls) : ∃ l, l ∈ ls ∧ d = .int (l : Nat) := by
  simp only [wd, List.mem_map] at h
  obtain ⟨l, h1, h2⟩ := h
  exact ⟨l, h1, h2.symm⟩
theorem stp_app (hn : n < s.length) (P : Int × Int × Int) (r : Store) : stp (s ++ r) n P = stp s n P ++ r := List.set_append_left _ _ hn
theorem pick_run' (hd : DrawAt (f.fn 10)) (hn : n < s.length) (r : Store) (P : Int × Int × Int) (row : List Nat) (h0 : 0 < row.length) (h1 : row.length < 1000) (b : Nat) :
    ∃ (l : Nat) (P' : Int × Int × Int), l ∈ row ∧ i_law_pick.run (tb.glo f) b [.cell n, .lst (wd row)] (stp s n P ++ r) = .ok (.v (.int (l : Nat))) (stp s n P' ++ r) := by
  rw [run_F rfl]
  obtain ⟨d, c, rr, t, hm, e⟩ := pick_at (tb.glo f) (jd := 10) hd (s := s ++ r) (n := n) (by rw [List.length_append]; omega) P.1 P.2.1 P.2.2 (row := wd row) (by rw [wd_len]; exact h0) (by rw [wd_len]; omega) (wd_cb _ _)
  obtain ⟨l, hl, rfl⟩ := wd_mem hm
  rw [List.set_append_left _ _ hn, List.set_append_left _ _ hn] at e
  exact ⟨l, (c, rr, t), hl, e⟩
def wB1 : IS := .ifs (.e (.cmp .eq (.var 5) (.int 1))) (.cons (.asg (.name 4) (.mu (.lc [("one", 6)] (.name 6) (.seq (.var 3)) .yes (.op .bxor (.var 6) (.int 1)))))
    .nil) .nil
def wB2 : IS := .ifs (.and (.e (.cmp .eq (.var 5) (.int 2))) (.e (.cmp .gt (.var 2) (.int 0)))) (.cons (.asg (.sub (.var 4) (.call 10 (.cons (.var 0) (.cons (.var 2) .nil)))) (.call 23 (.cons (.var 0) (.cons (.var 1) .nil))))
    .nil) .nil
def wB3 : IS := .ifs (.e (.cmp .eq (.var 5) (.int 3))) (.cons (.asg (.name 4) (.mu (.lc [("k", 7)] (.name 7) (.rng1 (.var 2)) .yes (.call 10 (.cons (.var 0) (.cons (.int 2) .nil))))))
    .nil) .nil
def wB4 : IS := .ifs (.e (.cmp .gt (.var 5) (.int 3))) (.cons (.asg (.name 4) (.mu (.call 25 (.cons (.var 0) (.cons (.var 1) (.cons (.var 2) .nil))))))
    .nil) .nil
theorem bits_item (hd : DrawAt (f.fn 10)) (hn : n < s.length) (r : Store) (b : Nat) (e1 e2 e3 e4 e5 e6 e7 : Option D) (k : Nat) (P : Int × Int × Int) : ∃ (l : Nat) (P' : Int × Int × Int), l < 2 ∧
    itemF (tb.glo f) b [("k", 7)] (.name 7) .yes (.call 10 (.cons (.var 0) (.cons (.int 2) .nil))) [some (.cell n), e1, e2, e3, e4, e5, e6, e7] (.int (k : Nat)) (stp s n P ++ r) = .ok [.int (l : Nat)] (stp s n P' ++ r) := by
  obtain ⟨g, P1, h1, e⟩ := draw_nr hd hn r b P 2 (by decide) (by decide)
  refine ⟨g, P1, by omega, ?_⟩
  apply b_lcB (r := .v (.int (g : Nat)))
  · apply g_name
    exact rfl
  · exact c_yes
  · (exists e)
/-- the second word is made -/
theorem second (hd : DrawAt (f.fn 10)) (hs : SomeOk f) (hw : WordOk f) (hn : n < s.length) {as : List Nat} (P : Int × Int × Int) (top near : Nat) (h0 : 2 ≤ top) (hev : top % 2 = 0) (h1 : top < 1000000) (ha : ∀ l ∈ as, l < top) (hl : as.length < 100) :
    ∃ (bs : List Nat) (m : Nat) (r : Store) (P' : Int × Int × Int) (x6 x7 : Option D), bs.length = as.length ∧ (∀ l ∈ bs, l < top) ∧ s.length ≤ m ∧ (stp s n P' ++ r)[m]? = some (.lst (wd bs)) ∧
      ∀ ss : ISs, xSs (tb.glo f) s.length (.cons wB1 (.cons wB2 (.cons wB3 (.cons wB4 ss)))) [some (.cell n), some (.int (top : Nat)), some (.int (as.length : Nat)), some (.lst (wd as)), some (.cell s.length), some (.int (near : Nat)), none, none] (stp s n P ++ [.lst (wd as)]) =
        xSs (tb.glo f) s.length ss [some (.cell n), some (.int (top : Nat)), some (.int (as.length : Nat)), some (.lst (wd as)), some (.cell m), some (.int (near : Nat)), x6, x7] (stp s n P' ++ r) := by
  have sl : ∀ P : Int × Int × Int, (stp s n P).length = s.length := fun P => by simp
  have own : ∀ (P : Int × Int × Int) (o : O), (stp s n P ++ [o])[s.length]? = some o := fun P o => by
    rw [List.getElem?_append_right (by rw [sl]; exact Nat.le_refl _), sl, Nat.sub_self]
    rfl
  have own2 : ∀ (P : Int × Int × Int) (o o2 : O), (stp s n P ++ [o, o2])[s.length + 1]? = some o2 := fun P o o2 => by
    rw [List.getElem?_append_right (by rw [sl]; omega), sl]
    have : s.length + 1 - s.length = 1 := by omega
    rw [this]
    rfl
  have al : ∀ (P : Int × Int × Int) (o o2 : O), stp s n P ++ [o] ++ [o2] = stp s n P ++ [o, o2] := fun P o o2 => by simp
  have ln : ∀ (P : Int × Int × Int) (o : O), (stp s n P ++ [o]).length = s.length + 1 := fun P o => by simp
  by_cases n1 : near = 1
  · subst n1
    have hlc := lc_natm (s := stp s n P ++ [.lst (wd as)]) (F := BN.tn) (g := itemF (tb.glo f) s.length [("one", 6)] (.name 6) .yes (.op .bxor (.var 6) (.int 1)) [some (.cell n), some (.int (top : Nat)), some (.int (as.length : Nat)), some (.lst (wd as)), some (.cell s.length), some (.int ((1 : Nat) : Int)), none, none]) as (fun l _ => by
      apply b_lcB (r := .v (.int (BN.tn l : Nat)))
      · apply g_name
        exact rfl
      · exact c_yes
      · (exists tn_op _))
    refine ⟨as.map BN.tn, s.length + 1, [.lst (wd as), .lst (wd (as.map BN.tn))], P, none, none, by simp, fun l m => ?_, by omega, own2 _ _ _, fun ss => ?_⟩
    · obtain ⟨a, m1, rfl⟩ := List.mem_map.mp m
      have := BN.tn_lt (a := a) (n := top / 2) (by have := ha a m1; omega)
      omega
    have hlen : (wd as).length ≤ 100000 := by rw [wd_len]; omega
    rw [← al]
    unfold wB1 wB2 wB3 wB4
    apply ss_nx (e1 := [some (.cell n), some (.int (top : Nat)), some (.int (as.length : Nat)), some (.lst (wd as)), some (.cell (s.length + 1)), some (.int ((1 : Nat) : Int)), none, none]) (s1 := stp s n P ++ [.lst (wd as)] ++ [.lst (wd (as.map BN.tn))])
    · apply s_if1
      · (exists dec1 rfl)
      · apply ss_nx
        · apply s_name'
          · apply e_mu
            (exists hlen, hlc)
          · rw [ln]
        · exact ss_nil
    apply ss_nx
    · (exists dec0 (by decide))
    apply ss_nx
    · (exists dec0 (by decide))
    apply ss_nx
    · (exists dec0 (by decide))
    · exact rfl
  by_cases n2 : near = 2
  · subst n2
    by_cases hz : as.length = 0
    · refine ⟨as, s.length, [.lst (wd as)], P, none, none, rfl, ha, Nat.le_refl _, own _ _, fun ss => ?_⟩
      unfold wB1 wB2 wB3 wB4
      apply ss_nx
      · (exists dec0 (by decide))
      apply ss_nx
      · (exists dec1 rfl, dec0 (by omega))
      apply ss_nx
      · (exists dec0 (by decide))
      apply ss_nx
      · (exists dec0 (by decide))
      · exact rfl
    · obtain ⟨l, P1, q1, e1⟩ := hs hn [.lst (wd as)] s.length P top (by omega) h1
      obtain ⟨g, P2, q2, e2⟩ := draw_nr hd hn [.lst (wd as)] s.length P1 (as.length : Nat) (by omega) (by omega)
      have st : setR s.length (.cell s.length) (.int (g : Nat)) (.int (l : Nat)) (stp s n P2 ++ [.lst (wd as)]) = .ok () (stp s n P2 ++ [.lst (wd (as.set g l))]) := by
        have hi : ixN (wd as).length (g : Nat) = some g := by
          rw [wd_len, ixN_lt (by omega) (by omega)]
          rfl
        have w : okW s.length s.length (.int (l : Nat)) = true := by simp [okW]
        simp only [setR, own, hi, w, if_true]
        rw [List.set_append_right _ _ (by rw [sl]; exact Nat.le_refl _), sl, Nat.sub_self]
        simp [wd, List.map_set]
      refine ⟨as.set g l, s.length, [.lst (wd (as.set g l))], P2, none, none, by simp, fun a m => ?_, Nat.le_refl _, own _ _, fun ss => ?_⟩
      · rcases List.mem_or_eq_of_mem_set m with m | m
        · exact ha a m
        · rw [m]; exact q1
      unfold wB1 wB2 wB3 wB4
      apply ss_nx
      · (exists dec0 (by decide))
      apply ss_nx
      · (exists dec1 rfl, dec1 (by omega), e1, e2, st)
      apply ss_nx
      · (exists dec0 (by decide))
      apply ss_nx
      · (exists dec0 (by decide))
      · exact rfl
  by_cases n3 : near = 3
  · subst n3
    obtain ⟨bs, P1, q1, q2, e⟩ := word_loop (G := tb.glo f) (b := s.length) (j := 0) (own := [("k", 7)]) (i := 7) (x := .call 10 (.cons (.var 0) (.cons (.int 2) .nil))) (env := [some (.cell n), some (.int (top : Nat)), some (.int (as.length : Nat)), some (.lst (wd as)), some (.cell s.length), some (.int ((3 : Nat) : Int)), none, none]) (Q := fun l => l < 2) hn [.lst (wd as)] (bits_item hd hn _ _ _ _ _ _ _ _ _) as.length 0 P
    refine ⟨bs, s.length + 1, [.lst (wd as), .lst (wd bs)], P1, none, none, q1, fun l m => ?_, by omega, own2 _ _ _, fun ss => ?_⟩
    · have := q2 l m
      omega
    have hlen : (rngL 0 as.length).length ≤ 100000 := by rw [rngL_len]; omega
    have h18 : as.length < 1000000000000000000 := by omega
    rw [← al]
    unfold wB1 wB2 wB3 wB4
    apply ss_nx
    · (exists dec0 (by decide))
    apply ss_nx
    · (exists dec0 (by decide))
    apply ss_nx (e1 := [some (.cell n), some (.int (top : Nat)), some (.int (as.length : Nat)), some (.lst (wd as)), some (.cell (s.length + 1)), some (.int ((3 : Nat) : Int)), none, none]) (s1 := stp s n P1 ++ [.lst (wd as)] ++ [.lst (wd bs)])
    · apply s_if1
      · (exists dec1 rfl)
      · apply ss_nx
        · apply s_name'
          · apply e_mu
            apply e_lcB
            · apply i_rng1
              · (exists rfl)
              · exact rfl
              · exact h18
            · exact hlen
            · exact e
          · rw [ln]
        · exact ss_nil
    apply ss_nx
    · (exists dec0 (by decide))
    · exact rfl
  by_cases n4 : 3 < near
  · obtain ⟨bs, P1, q1, q2, e⟩ := hw hn [.lst (wd as)] s.length P top as.length (by omega) h1 hl
    refine ⟨bs, s.length + 1, [.lst (wd as), .lst (wd bs)], P1, none, none, q1, q2, by omega, own2 _ _ _, fun ss => ?_⟩
    rw [← al]
    unfold wB1 wB2 wB3 wB4
    apply ss_nx
    · (exists dec0 (by omega))
    apply ss_nx
    · (exists dec0 (by omega))
    apply ss_nx
    · (exists dec0 (by omega))
    apply ss_nx (e1 := [some (.cell n), some (.int (top : Nat)), some (.int (as.length : Nat)), some (.lst (wd as)), some (.cell (s.length + 1)), some (.int (near : Nat)), none, none]) (s1 := stp s n P1 ++ [.lst (wd as)] ++ [.lst (wd bs)])
    · apply s_if1
      · (exists dec1 (by omega))
      · apply ss_nx
        · apply s_name'
          · apply e_mu
            (exists e)
          · rw [ln]
        · exact ss_nil
    · exact rfl
  · refine ⟨as, s.length, [.lst (wd as)], P, none, none, rfl, ha, Nat.le_refl _, own _ _, fun ss => ?_⟩
    unfold wB1 wB2 wB3 wB4
    apply ss_nx
    · (exists dec0 (by omega))
    apply ss_nx
    · (exists dec0 (by omega))
    apply ss_nx
    · (exists dec0 (by omega))
    apply ss_nx
    · (exists dec0 (by omega))
    · exact rfl
end K13

set_option Elab.async false
set_option linter.all false
set_option maxRecDepth 100000
set_option maxHeartbeats 1000000
namespace K13
open PySem PySem.Spec PyProof.Rows L2 En
variable {s : Store} {q p t I L V n : Nat} {ps ps0 : List (Nat × Nat)} {f : Den}
def due (V : Nat) (ps : List (Nat × Nat)) (kind : Nat) (as bs : List Nat) : List Nat × List (Nat × Nat) :=
  if kind = 0 then BN.sum V ps as bs 0 else if kind = 1 then BN.sum V ps as (bs.map BN.tn) 1
  else if kind = 2 then ([(BN.alike V ps as bs 1).1], (BN.alike V ps as bs 1).2) else if kind = 3 then ([(BN.lower V ps as bs 0).1], (BN.lower V ps as bs 0).2)
  else if kind = 4 then ([(BN.fold (BN.either V) ps as 0).1], (BN.fold (BN.either V) ps as 0).2) else if kind = 5 then ([(BN.fold (BN.both V) ps as 1).1], (BN.fold (BN.both V) ps as 1).2)
  else ([(BN.fold (BN.differ V) ps as 0).1], (BN.fold (BN.differ V) ps as 0).2)
def RD (kind : Nat) (ts : List Nat) : R := if kind ≤ 1 then .n (.lst (wd ts)) else .v (.int ((ts.headD 0 : Nat) : Int))
/-- what is due is right -/
structure Due (bits : Nat) (ps ps' : List (Nat × Nat)) (kind : Nat) (as bs ts : List Nat) : Prop where
  le : BN.Le ps ps'
  wf : BN.WF (1 + bits) ps'
  lt : ∀ l ∈ ts, l < 2 * (1 + bits + ps'.length)
  len : ts.length = (if kind ≤ 1 then as.length else 1)
  more : ps'.length ≤ ps.length + 9 * as.length
  eq : ∀ v, v < 2 ^ bits → num bits ps' v ts = plainN kind (num bits ps' v as) (num bits ps' v bs) as.length
theorem addB_len : ∀ (xs ys : List Bool) (c : Bool), xs.length = ys.length → (BN.addB xs ys c).length = xs.length
  | [], [], _, _ => rfl
  | x :: xs, y :: ys, c, h => by simp [BN.addB, addB_len xs ys _ (by simpa using h)]
theorem base0 (bits v : Nat) : (BN.baseN bits v)[0]? = some false := rfl
theorem sum_due {bits : Nat} (hw : BN.WF (1 + bits) ps) {as bs : List Nat} (ha : ∀ l ∈ as, l < 2 * (1 + bits + ps.length)) (hb : ∀ l ∈ bs, l < 2 * (1 + bits + ps.length)) (hl : as.length = bs.length) : Due bits ps (BN.sum (1 + bits) ps as bs 0).2 0 as bs (BN.sum (1 + bits) ps as bs 0).1 := by
  have S := fun v => BN.sum_spec (base := BN.baseN bits v) (BN.baseN_len bits v) (by omega) (base0 bits v) hw (BN.vals_of ha) (BN.vals_of hb) (BN.Val.zero (ps := ps) (BN.baseN_len bits v) (by omega) (base0 bits v))
  obtain ⟨s1, s2, s3, s4⟩ := S 0
  refine ⟨s1, s2, s3.lt, ?_, s4, fun v hv => ?_⟩
  · have := s3.len
    rw [this, addB_len _ _ _ (by simp [hl])]
    simp
  · obtain ⟨t1, t2, t3, t4⟩ := S v
    have e1 := t3.eq
    have e2 := ((BN.vals_of (V := 1 + bits) (base := BN.baseN bits v) ha).le (BN.baseN_len bits v) t1).eq
    have e3 := ((BN.vals_of (V := 1 + bits) (base := BN.baseN bits v) hb).le (BN.baseN_len bits v) t1).eq
    unfold num
    rw [e1, e2, e3, BN.addB_wv _ _ _ (by simp [hl])]
    simp [plainN]
theorem sub_due {bits : Nat} (hw : BN.WF (1 + bits) ps) {as bs : List Nat} (ha : ∀ l ∈ as, l < 2 * (1 + bits + ps.length)) (hb : ∀ l ∈ bs, l < 2 * (1 + bits + ps.length)) (hl : as.length = bs.length) : Due bits ps (BN.sum (1 + bits) ps as (bs.map BN.tn) 1).2 1 as bs (BN.sum (1 + bits) ps as (bs.map BN.tn) 1).1 := by
  have S := fun v => BN.sum_spec (base := BN.baseN bits v) (BN.baseN_len bits v) (by omega) (base0 bits v) hw (BN.vals_of ha) (BN.vals_of hb).tn (BN.Val.one (ps := ps) (BN.baseN_len bits v) (by omega) (base0 bits v))
  obtain ⟨s1, s2, s3, s4⟩ := S 0
  refine ⟨s1, s2, s3.lt, ?_, s4, fun v hv => ?_⟩
  · have := s3.len
    rw [this, addB_len _ _ _ (by simp [hl])]
    simp
  · obtain ⟨t1, t2, t3, t4⟩ := S v
    have e1 := t3.eq
    have e2 := ((BN.vals_of (V := 1 + bits) (base := BN.baseN bits v) ha).le (BN.baseN_len bits v) t1).eq
    have e3 := ((BN.vals_of (V := 1 + bits) (base := BN.baseN bits v) hb).le (BN.baseN_len bits v) t1).eq
    unfold num
    rw [e1, e2, e3, BN.addB_wv _ _ _ (by simp [hl])]
    have hn := BN.wv_not (bs.map (BN.lv (BN.vals (BN.baseN bits v) ps)))
    have hlt := BN.wv_lt (bs.map (BN.lv (BN.vals (BN.baseN bits v) ps)))
    rw [List.length_map] at hn hlt
    have hp : plainN 1 (BN.wv (as.map (BN.lv (BN.vals (BN.baseN bits v) ps)))) (BN.wv (bs.map (BN.lv (BN.vals (BN.baseN bits v) ps)))) as.length = (BN.wv (as.map (BN.lv (BN.vals (BN.baseN bits v) ps))) + 2 ^ as.length - BN.wv (bs.map (BN.lv (BN.vals (BN.baseN bits v) ps)))) % 2 ^ as.length := rfl
    rw [hp, List.length_map, hl]
    congr 1
    show _ + 1 = _
    omega
theorem one_due {bits kind n : Nat} {as bs : List Nat} {r : Nat × List (Nat × Nat)} {g : Nat → Bool} (hk : 1 < kind) (hn : n ≤ 9 * as.length) (ha : ∀ l ∈ as, l < 2 * (1 + bits + ps.length)) (hb : ∀ l ∈ bs, l < 2 * (1 + bits + ps.length))
    (S : ∀ v, BN.Stp (1 + bits) (BN.baseN bits v) ps r (g v) n) (e : ∀ v, v < 2 ^ bits → (g v).toNat = plainN kind (BN.wv (as.map (BN.lv (BN.vals (BN.baseN bits v) ps)))) (BN.wv (bs.map (BN.lv (BN.vals (BN.baseN bits v) ps)))) as.length) : Due bits ps r.2 kind as bs [r.1] := by
  obtain ⟨s1, s2, s3, s4⟩ := S 0
  have hk2 : ¬ kind ≤ 1 := by omega
  refine ⟨s1, s2, fun l m => ?_, by simp [hk2], by omega, fun v hv => ?_⟩
  · rw [List.mem_singleton.mp m]
    exact s3.1
  · obtain ⟨t1, t2, t3, t4⟩ := S v
    have e2 := ((BN.vals_of (V := 1 + bits) (base := BN.baseN bits v) ha).le (BN.baseN_len bits v) t1).eq
    have e3 := ((BN.vals_of (V := 1 + bits) (base := BN.baseN bits v) hb).le (BN.baseN_len bits v) t1).eq
    unfold num
    rw [e2, e3, ← e v hv]
    simp [BN.wv, t3.2]
theorem due_ok {bits kind : Nat} (hk : kind < 7) (hw : BN.WF (1 + bits) ps) {as bs : List Nat} (ha : ∀ l ∈ as, l < 2 * (1 + bits + ps.length)) (hb : ∀ l ∈ bs, l < 2 * (1 + bits + ps.length)) (hl : as.length = bs.length) : Due bits ps (due (1 + bits) ps kind as bs).2 kind as bs (due (1 + bits) ps kind as bs).1 := by
  have z := fun v => BN.Val.zero (ps := ps) (BN.baseN_len bits v) (by omega) (base0 bits v)
  have o := fun v => BN.Val.one (ps := ps) (BN.baseN_len bits v) (by omega) (base0 bits v)
  have va := fun v => BN.vals_of (V := 1 + bits) (base := BN.baseN bits v) ha
  have vb := fun v => BN.vals_of (V := 1 + bits) (base := BN.baseN bits v) hb
  have c : kind = 0 ∨ kind = 1 ∨ kind = 2 ∨ kind = 3 ∨ kind = 4 ∨ kind = 5 ∨ kind = 6 := by omega
  rcases c with rfl | rfl | rfl | rfl | rfl | rfl | rfl
  · exact sum_due hw ha hb hl
  · exact sub_due hw ha hb hl
  · refine one_due (r := BN.alike (1 + bits) ps as bs 1) (by decide) (n := 4 * as.length) (by omega) ha hb (fun v => BN.alike_spec (BN.baseN_len bits v) (by omega) (base0 bits v) hw (va v) (vb v) (o v)) fun v hv => ?_
    rw [BN.alikeB_wv _ _ _ (by simp [hl])]
    simp [plainN]
  · refine one_due (r := BN.lower (1 + bits) ps as bs 0) (by decide) (n := 6 * as.length) (by omega) ha hb (fun v => BN.lower_spec (BN.baseN_len bits v) (by omega) (base0 bits v) hw (va v) (vb v) (z v)) fun v hv => ?_
    rw [BN.lowerB_wv _ _ _ (by simp [hl])]
    simp [plainN]
  · refine one_due (r := BN.fold (BN.either (1 + bits)) ps as 0) (by decide) (n := 1 * as.length) (by omega) ha hb (fun v => BN.fold_spec (g := fun a b => a || b) (BN.baseN_len bits v) (fun hw hc hx => BN.either_spec (BN.baseN_len bits v) (by omega) (base0 bits v) hw hc hx) hw (va v) (z v)) fun v hv => ?_
    rw [BN.any_wv]
    simp [plainN]
  · refine one_due (r := BN.fold (BN.both (1 + bits)) ps as 1) (by decide) (n := 1 * as.length) (by omega) ha hb (fun v => BN.fold_spec (g := fun a b => a && b) (BN.baseN_len bits v) (fun hw hc hx => BN.both_spec (BN.baseN_len bits v) (by omega) (base0 bits v) hw hc hx) hw (va v) (o v)) fun v hv => ?_
    rw [BN.all_wv]
    have h2 := Nat.two_pow_pos as.length
    have e : plainN 5 (BN.wv (as.map (BN.lv (BN.vals (BN.baseN bits v) ps)))) (BN.wv (bs.map (BN.lv (BN.vals (BN.baseN bits v) ps)))) as.length = (decide (BN.wv (as.map (BN.lv (BN.vals (BN.baseN bits v) ps))) = 2 ^ as.length - 1)).toNat := rfl
    rw [e, List.length_map, Bool.true_and]
    congr 1
    rw [decide_eq_decide]
    omega
  · refine one_due (r := BN.fold (BN.differ (1 + bits)) ps as 0) (by decide) (n := 3 * as.length) (by omega) ha hb (fun v => BN.fold_spec (g := fun a b => a ^^ b) (BN.baseN_len bits v) (fun hw hc hx => BN.differ_spec (BN.baseN_len bits v) (by omega) (base0 bits v) hw hc hx) hw (va v) (z v)) fun v hv => ?_
    rw [BN.odd_cnt, ← BN.cnt_sum, List.length_map, Bool.false_xor, ← bit_num]
    rfl
structure LwW (f : Den) : Prop where
  sum : ∀ {s : Store} {q p t V : Nat} {ps : List (Nat × Nat)} (b c : Nat) {as bs : List Nat}, LB s q p t V ps → as.length = bs.length → ps.length + 9 * as.length < 60000 → as.length < 60000 →
    f.fn 19 b [.cell q, .lst (wd as), .lst (wd bs), .int (c : Nat)] s = .ok (.n (.lst (wd (BN.sum V ps as bs c).1))) (putL s q p t V (BN.sum V ps as bs c).2)
  alike : ∀ {s : Store} {q p t V : Nat} {ps : List (Nat × Nat)} (b : Nat) {as bs : List Nat}, LB s q p t V ps → as.length = bs.length → ps.length + 4 * as.length < 60000 →
    f.fn 20 b [.cell q, .lst (wd as), .lst (wd bs)] s = .ok (.v (.int ((BN.alike V ps as bs 1).1 : Nat))) (putL s q p t V (BN.alike V ps as bs 1).2)
  lower : ∀ {s : Store} {q p t V : Nat} {ps : List (Nat × Nat)} (b : Nat) {as bs : List Nat}, LB s q p t V ps → as.length = bs.length → ps.length + 6 * as.length < 60000 →
    f.fn 21 b [.cell q, .lst (wd as), .lst (wd bs)] s = .ok (.v (.int ((BN.lower V ps as bs 0).1 : Nat))) (putL s q p t V (BN.lower V ps as bs 0).2)
  any : ∀ {s : Store} {q p t V : Nat} {ps : List (Nat × Nat)} (b : Nat) {as : List Nat}, LB s q p t V ps → ps.length + 3 * as.length < 60000 →
    f.fn 22 b [.cell q, .str "any", .lst (wd as)] s = .ok (.v (.int ((BN.fold (BN.either V) ps as 0).1 : Nat))) (putL s q p t V (BN.fold (BN.either V) ps as 0).2)
  all : ∀ {s : Store} {q p t V : Nat} {ps : List (Nat × Nat)} (b : Nat) {as : List Nat}, LB s q p t V ps → ps.length + 3 * as.length < 60000 →
    f.fn 22 b [.cell q, .str "all", .lst (wd as)] s = .ok (.v (.int ((BN.fold (BN.both V) ps as 1).1 : Nat))) (putL s q p t V (BN.fold (BN.both V) ps as 1).2)
  odd : ∀ {s : Store} {q p t V : Nat} {ps : List (Nat × Nat)} (b : Nat) {as : List Nat}, LB s q p t V ps → ps.length + 3 * as.length < 60000 →
    f.fn 22 b [.cell q, .str "odd", .lst (wd as)] s = .ok (.v (.int ((BN.fold (BN.differ V) ps as 0).1 : Nat))) (putL s q p t V (BN.fold (BN.differ V) ps as 0).2)
theorem ldue (hW : LwW f) (h : LB s q p t V ps) (b kind : Nat) {as bs : List Nat} (hk : kind < 7) (he : as.length = bs.length) (hl : ps.length + 9 * as.length < 60000) (ha : as.length < 60000) :
    i_law_due.run (tb.glo f) b [.cell q, .int (kind : Nat), .lst (wd as), .lst (wd bs)] s = .ok (RD kind (due V ps kind as bs).1) (putL s q p t V (due V ps kind as bs).2) := by
  rw [run_F rfl]
  have c : kind = 0 ∨ kind = 1 ∨ kind = 2 ∨ kind = 3 ∨ kind = 4 ∨ kind = 5 ∨ kind = 6 := by omega
  rcases c with rfl | rfl | rfl | rfl | rfl | rfl | rfl
  · have c1 := hW.sum s.length 0 h he hl ha
    apply run_ret rfl
    · unfold i_law_due
      show xSs _ _ _ [some (.cell q), some (.int ((0 : Nat) : Int)), some (.lst (wd as)), some (.lst (wd bs)), none] _ = _
      (exists callR_at rfl c1, dec1 rfl)
    · exact end_n putL_len (wd_cb _ _)
  · have c1 := hW.sum (bs := bs.map BN.tn) s.length 1 h (by simpa using he) hl ha
    have hlc := lc_natm (s := s) (F := BN.tn) (g := itemF (tb.glo f) s.length [("one", 4)] (.name 4) .yes (.op .bxor (.var 4) (.int 1)) [some (.cell q), some (.int ((1 : Nat) : Int)), some (.lst (wd as)), some (.lst (wd bs)), none]) bs (fun l _ => by
      apply b_lcB (r := .v (.int (BN.tn l : Nat)))
      · apply g_name
        exact rfl
      · exact c_yes
      · (exists tn_op _))
    have hlen : (wd bs).length ≤ 100000 := by rw [wd_len]; omega
    apply run_ret rfl
    · unfold i_law_due
      show xSs _ _ _ [some (.cell q), some (.int ((1 : Nat) : Int)), some (.lst (wd as)), some (.lst (wd bs)), none] _ = _
      (exists hlen, hlc, callR_at rfl c1, dec1 rfl, dec0 (by decide))
    · exact end_n putL_len (wd_cb _ _)
  · have c1 := hW.alike s.length h he (by omega)
    apply run_ret rfl
    · unfold i_law_due
      show xSs _ _ _ [some (.cell q), some (.int ((2 : Nat) : Int)), some (.lst (wd as)), some (.lst (wd bs)), none] _ = _
      (exists callR_at rfl c1, dec1 rfl, dec0 (by decide))
    · exact end_int putL_len
  · have c1 := hW.lower s.length h he (by omega)
    apply run_ret rfl
    · unfold i_law_due
      show xSs _ _ _ [some (.cell q), some (.int ((3 : Nat) : Int)), some (.lst (wd as)), some (.lst (wd bs)), none] _ = _
      (exists callR_at rfl c1, dec1 rfl, dec0 (by decide))
    · exact end_int putL_len
  · have c1 := hW.any (as := as) s.length h (by omega)
    have i1 : ixR (tb.glo f).gd (.lst [.str "any", .str "all", .str "odd"]) (.int (((4 : Nat) : Int) - 4)) s = some (.v (.str "any")) := rfl
    apply run_ret rfl
    · unfold i_law_due
      show xSs _ _ _ [some (.cell q), some (.int ((4 : Nat) : Int)), some (.lst (wd as)), some (.lst (wd bs)), none] _ = _
      (exists i1, callR_at rfl c1, dec0 (by decide))
    · exact end_int putL_len
  · have c1 := hW.all (as := as) s.length h (by omega)
    have i1 : ixR (tb.glo f).gd (.lst [.str "any", .str "all", .str "odd"]) (.int (((5 : Nat) : Int) - 4)) s = some (.v (.str "all")) := rfl
    apply run_ret rfl
    · unfold i_law_due
      show xSs _ _ _ [some (.cell q), some (.int ((5 : Nat) : Int)), some (.lst (wd as)), some (.lst (wd bs)), none] _ = _
      (exists i1, callR_at rfl c1, dec0 (by decide))
    · exact end_int putL_len
  · have c1 := hW.odd (as := as) s.length h (by omega)
    have i1 : ixR (tb.glo f).gd (.lst [.str "any", .str "all", .str "odd"]) (.int (((6 : Nat) : Int) - 4)) s = some (.v (.str "odd")) := rfl
    apply run_ret rfl
    · unfold i_law_due
      show xSs _ _ _ [some (.cell q), some (.int ((6 : Nat) : Int)), some (.lst (wd as)), some (.lst (wd bs)), none] _ = _
      (exists i1, callR_at rfl c1, dec0 (by decide))
    · exact end_int putL_len
structure PrW (f : Den) : Prop where
  add : ∀ {s : Store} {q p t I L : Nat} {ps : List (Nat × Nat)} {A B : D} {k l : Bool} (b : Nat) {as bs : List Nat}, PB s q p t I L ps → frzSeq A = some (k, wd as) → frzSeq B = some (l, wd bs) → ps.length + 9 * as.length < 60000 → as.length < 60000 → bs.length < 60000 →
    f.fn 2 b [.cell q, A, B] s = .ok (.n (.lst (wd (BN.sum (1 + I + L) ps as bs 0).1))) (putP s p t (1 + I + L) (BN.sum (1 + I + L) ps as bs 0).2)
  sub : ∀ {s : Store} {q p t I L : Nat} {ps : List (Nat × Nat)} {A B : D} {k l : Bool} (b : Nat) {as bs : List Nat}, PB s q p t I L ps → frzSeq A = some (k, wd as) → frzSeq B = some (l, wd bs) → ps.length + 9 * as.length < 60000 → as.length < 60000 → bs.length < 60000 →
    f.fn 3 b [.cell q, A, B] s = .ok (.n (.lst (wd (BN.sum (1 + I + L) ps as (bs.map BN.tn) 1).1))) (putP s p t (1 + I + L) (BN.sum (1 + I + L) ps as (bs.map BN.tn) 1).2)
  eq : ∀ {s : Store} {q p t I L : Nat} {ps : List (Nat × Nat)} {A B : D} {k l : Bool} (b : Nat) {as bs : List Nat}, PB s q p t I L ps → frzSeq A = some (k, wd as) → frzSeq B = some (l, wd bs) → ps.length + 4 * as.length < 60000 →
    f.fn 4 b [.cell q, A, B] s = .ok (.v (.int ((BN.alike (1 + I + L) ps as bs 1).1 : Nat))) (putP s p t (1 + I + L) (BN.alike (1 + I + L) ps as bs 1).2)
  lt : ∀ {s : Store} {q p t I L : Nat} {ps : List (Nat × Nat)} {A B : D} {k l : Bool} (b : Nat) {as bs : List Nat}, PB s q p t I L ps → frzSeq A = some (k, wd as) → frzSeq B = some (l, wd bs) → ps.length + 6 * as.length < 60000 →
    f.fn 5 b [.cell q, A, B] s = .ok (.v (.int ((BN.lower (1 + I + L) ps as bs 0).1 : Nat))) (putP s p t (1 + I + L) (BN.lower (1 + I + L) ps as bs 0).2)
  any : ∀ {s : Store} {q p t I L : Nat} {ps : List (Nat × Nat)} {A : D} {k : Bool} (b : Nat) {as : List Nat}, PB s q p t I L ps → frzSeq A = some (k, wd as) → ps.length + 3 * as.length < 60000 →
    f.fn 6 b [.cell q, A] s = .ok (.v (.int ((BN.fold (BN.either (1 + I + L)) ps as 0).1 : Nat))) (putP s p t (1 + I + L) (BN.fold (BN.either (1 + I + L)) ps as 0).2)
  all : ∀ {s : Store} {q p t I L : Nat} {ps : List (Nat × Nat)} {A : D} {k : Bool} (b : Nat) {as : List Nat}, PB s q p t I L ps → frzSeq A = some (k, wd as) → ps.length + 3 * as.length < 60000 →
    f.fn 7 b [.cell q, A] s = .ok (.v (.int ((BN.fold (BN.both (1 + I + L)) ps as 1).1 : Nat))) (putP s p t (1 + I + L) (BN.fold (BN.both (1 + I + L)) ps as 1).2)
  odd : ∀ {s : Store} {q p t I L : Nat} {ps : List (Nat × Nat)} {A : D} {k : Bool} (b : Nat) {as : List Nat}, PB s q p t I L ps → frzSeq A = some (k, wd as) → ps.length + 3 * as.length < 60000 →
    f.fn 8 b [.cell q, A] s = .ok (.v (.int ((BN.fold (BN.differ (1 + I + L)) ps as 0).1 : Nat))) (putP s p t (1 + I + L) (BN.fold (BN.differ (1 + I + L)) ps as 0).2)
theorem ptold (hW : PrW f) (h : PB s q p t I L ps) (b kind : Nat) {A B : D} {k l : Bool} {as bs : List Nat} (hA : frzSeq A = some (k, wd as)) (hB : frzSeq B = some (l, wd bs)) (hk : kind < 7) (hl : ps.length + 9 * as.length < 60000) (ha : as.length < 60000) (hb : bs.length < 60000) :
    i_law_told.run (tb.glo f) b [.cell q, .int (kind : Nat), A, B] s = .ok (RD kind (due (1 + I + L) ps kind as bs).1) (putP s p t (1 + I + L) (due (1 + I + L) ps kind as bs).2) := by
  rw [run_F rfl]
  have c : kind = 0 ∨ kind = 1 ∨ kind = 2 ∨ kind = 3 ∨ kind = 4 ∨ kind = 5 ∨ kind = 6 := by omega
  rcases c with rfl | rfl | rfl | rfl | rfl | rfl | rfl
  · have c1 := hW.add s.length h hA hB hl ha hb
    apply run_ret rfl
    · unfold i_law_told
      show xSs _ _ _ [some (.cell q), some (.int ((0 : Nat) : Int)), some A, some B] _ = _
      (exists callR_at rfl c1, dec1 rfl)
    · exact end_n putP_len (wd_cb _ _)
  · have c1 := hW.sub s.length h hA hB hl ha hb
    apply run_ret rfl
    · unfold i_law_told
      show xSs _ _ _ [some (.cell q), some (.int ((1 : Nat) : Int)), some A, some B] _ = _
      (exists callR_at rfl c1, dec1 rfl, dec0 (by decide))
    · exact end_n putP_len (wd_cb _ _)
  · have c1 := hW.eq s.length h hA hB (by omega)
    apply run_ret rfl
    · unfold i_law_told
      show xSs _ _ _ [some (.cell q), some (.int ((2 : Nat) : Int)), some A, some B] _ = _
      (exists callR_at rfl c1, dec1 rfl, dec0 (by decide))
    · exact end_int putP_len
  · have c1 := hW.lt s.length h hA hB (by omega)
    apply run_ret rfl
    · unfold i_law_told
      show xSs _ _ _ [some (.cell q), some (.int ((3 : Nat) : Int)), some A, some B] _ = _
      (exists callR_at rfl c1, dec1 rfl, dec0 (by decide))
    · exact end_int putP_len
  · have c1 := hW.any s.length h hA (by omega)
    apply run_ret rfl
    · unfold i_law_told
      show xSs _ _ _ [some (.cell q), some (.int ((4 : Nat) : Int)), some A, some B] _ = _
      (exists callR_at rfl c1, dec1 rfl, dec0 (by decide))
    · exact end_int putP_len
  · have c1 := hW.all s.length h hA (by omega)
    apply run_ret rfl
    · unfold i_law_told
      show xSs _ _ _ [some (.cell q), some (.int ((5 : Nat) : Int)), some A, some B] _ = _
      (exists callR_at rfl c1, dec1 rfl, dec0 (by decide))
    · exact end_int putP_len
  · have c1 := hW.odd s.length h hA (by omega)
    apply run_ret rfl
    · unfold i_law_told
      show xSs _ _ _ [some (.cell q), some (.int ((6 : Nat) : Int)), some A, some B] _ = _
      (exists callR_at rfl c1, dec0 (by decide))
    · exact end_int putP_len
end K13

set_option Elab.async false
set_option linter.all false
set_option maxRecDepth 100000
set_option maxHeartbeats 1000000
namespace K13
open PySem PySem.Spec PyProof.Rows L2 En
variable {s : Store} {q p t I L V n : Nat} {ps ps0 : List (Nat × Nat)} {f : Den} {m : Nat → List (Nat × Nat)}
def wB5 : IS := .ifs (.e (.cmp .eq (.call 10 (.cons (.var 0) (.cons (.int 8) .nil))) (.int 0))) (.cons (.asg (.name 3) (.lc [("k", 7)] (.name 7) (.rng1 (.var 2)) .yes (.call 10 (.cons (.var 0) (.cons (.int 2) .nil)))))
    .nil) .nil
def wR : ISs := .cons (.ret (.lst (.cons (.var 3) (.cons (.var 4) .nil)))) .nil
def sizes : List Nat := [0, 1, 1, 2, 2, 3, 3, 4, 5, 6, 9, 14]
theorem thL_wd {g : D → Option D} (h : ∀ l : Nat, g (.int (l : Nat)) = some (.int (l : Nat))) : ∀ ls : List Nat, thL g (wd ls) = some (wd ls)
  | [] => rfl
  | l :: ls => by
    show thL g (.int (l : Nat) :: wd ls) = _
    simp only [thL, h, Option.bind_some, thL_wd h ls, Option.map_some]
    rfl
theorem words_end {b m : Nat} {as bs : List Nat} {X r : Store} (hX : X.length = b) (hm : b ≤ m) (h : (X ++ r)[m]? = some (.lst (wd bs))) : endR b (.ret (.n (.lst [.lst (wd as), .cell m]))) (X ++ r) = .ok (.n (.lst [.lst (wd as), .lst (wd bs)])) X := by
  have h1 : cbO b (.lst [.lst (wd as), .cell m]) = false := by
    simp only [cbO, cbs, cb, wd_cb, Bool.true_and, Bool.and_true, decide_eq_false_iff_not]
    omega
  have h2 : thD (X ++ r) b 8 (.lst (wd as)) = some (.lst (wd as)) := by
    have : cb b (.lst (wd as)) = true := by simp only [cb, wd_cb]
    simp only [thD, this, if_true]
  have h3 : thD (X ++ r) b 8 (.cell m) = some (.lst (wd bs)) := by
    have : cb b (.cell m) = false := by simp only [cb, decide_eq_false_iff_not]; omega
    have g : ∀ l : Nat, thD (X ++ r) b 7 (.int (l : Nat)) = some (.int (l : Nat)) := fun l => rfl
    rw [thD, this]
    simp only [Bool.false_eq_true, if_false, h, thL_wd g, Option.map_some]
  simp only [endR, h1, Bool.false_eq_true, if_false, thO, thL, h2, h3, Option.bind_some, Option.map_some, take_app hX]
theorem words_run (hd : DrawAt (f.fn 10)) (hp : PickOk f) (hs : SomeOk f) (hw : WordOk f) (hn : n < s.length) (P : Int × Int × Int) (b top : Nat) (h0 : 2 ≤ top) (hev : top % 2 = 0) (h1 : top < 1000000) :
    ∃ (as bs : List Nat) (P' : Int × Int × Int), as.length = bs.length ∧ as.length ≤ 14 ∧ (∀ l ∈ as, l < top) ∧ (∀ l ∈ bs, l < top) ∧
      i_law_words.run (tb.glo f) b [.cell n, .int (top : Nat)] (stp s n P) = .ok (.n (.lst [.lst (wd as), .lst (wd bs)])) (stp s n P') := by
  rw [run_F rfl]
  have sl : ∀ P : Int × Int × Int, (stp s n P).length = s.length := fun P => by simp
  obtain ⟨size, P1, hz, e1⟩ := hp hn [] s.length P sizes (by decide) (by decide)
  have hsz : size ≤ 14 := by
    simp only [sizes, List.mem_cons, List.not_mem_nil, or_false] at hz
    omega
  obtain ⟨as, P2, a1, a2, e2⟩ := hw hn [] s.length P1 top size (by omega) h1 (by omega)
  simp only [List.append_nil] at e1 e2
  obtain ⟨near, P3, g3, e3⟩ := draw_nr hd hn [.lst (wd as)] s.length P2 7 (by decide) (by decide)
  subst a1
  obtain ⟨bs, m, r, P4, x6, x7, b1, b2, b3, b4, e4⟩ := second hd hs hw hn P3 top near h0 hev h1 a2 (by omega)
  obtain ⟨d, P5, g5, e5⟩ := draw_nr hd hn r s.length P4 8 (by decide) (by decide)
  have cell5 : ∀ P : Int × Int × Int, (stp s n P ++ r)[m]? = some (.lst (wd bs)) := fun P => by
    rw [List.getElem?_append_right (by rw [sl]; exact b3), sl] at b4 ⊢
    exact b4
  have start : ∀ o, xSs (tb.glo f) s.length (.cons wB1 (.cons wB2 (.cons wB3 (.cons wB4 (.cons wB5 wR))))) [some (.cell n), some (.int (top : Nat)), some (.int (as.length : Nat)), some (.lst (wd as)), some (.cell s.length), some (.int (near : Nat)), none, none] (stp s n P3 ++ [.lst (wd as)]) = o →
      xSs (tb.glo f) s.length i_law_words.d.body [some (.cell n), some (.int (top : Nat)), none, none, none, none, none, none] (stp s n P) = o := fun o ho => by
    unfold i_law_words
    apply ss_nx (e1 := [some (.cell n), some (.int (top : Nat)), some (.int (as.length : Nat)), none, none, none, none, none]) (s1 := stp s n P1)
    · apply s_name'
      · apply e_call
        · (exists rfl)
        · exact e1
      · exact rfl
    apply ss_nx (e1 := [some (.cell n), some (.int (top : Nat)), some (.int (as.length : Nat)), some (.lst (wd as)), none, none, none, none]) (s1 := stp s n P2)
    · (exists e2)
    apply ss_nx (e1 := [some (.cell n), some (.int (top : Nat)), some (.int (as.length : Nat)), some (.lst (wd as)), some (.cell s.length), none, none, none]) (s1 := stp s n P2 ++ [.lst (wd as)])
    · apply s_name'
      · apply e_mu
        (exists rfl)
      · rw [sl]
        exact rfl
    apply ss_nx
    · (exists e3)
    · exact ho
  have wrap : ∀ {as' : List Nat} {P' : Int × Int × Int} {e'}, xSs (tb.glo f) s.length (.cons wB5 wR) [some (.cell n), some (.int (top : Nat)), some (.int (as.length : Nat)), some (.lst (wd as)), some (.cell m), some (.int (near : Nat)), x6, x7] (stp s n P4 ++ r) = .ok (.ret (.n (.lst [.lst (wd as'), .cell m])), e') (stp s n P' ++ r) →
      runF (tb.glo f) i_law_words.d [.cell n, .int (top : Nat)] (stp s n P) = .ok (.n (.lst [.lst (wd as'), .lst (wd bs)])) (stp s n P') := fun {as' P' e'} h => by
    apply run_ret rfl
    · show xSs (tb.glo f) (stp s n P).length i_law_words.d.body [some (.cell n), some (.int (top : Nat)), none, none, none, none, none, none] (stp s n P) = _
      rw [sl]
      exact start _ ((e4 _).trans h)
    · rw [sl]
      exact words_end (sl _) b3 (cell5 _)
  by_cases hd0 : d = 0
  · subst hd0
    obtain ⟨cs, P6, c1, c2, e6⟩ := word_loop (G := tb.glo f) (b := s.length) (j := 0) (own := [("k", 7)]) (i := 7) (x := .call 10 (.cons (.var 0) (.cons (.int 2) .nil))) (env := [some (.cell n), some (.int (top : Nat)), some (.int (as.length : Nat)), some (.lst (wd as)), some (.cell m), some (.int (near : Nat)), x6, x7]) (Q := fun l => l < 2) hn r (bits_item hd hn _ _ _ _ _ _ _ _ _) as.length 0 P5
    refine ⟨cs, bs, P6, by omega, by omega, fun l ml => ?_, b2, wrap (e' := [some (.cell n), some (.int (top : Nat)), some (.int (as.length : Nat)), some (.lst (wd cs)), some (.cell m), some (.int (near : Nat)), x6, x7]) ?_⟩
    · have := c2 l ml
      omega
    have hlen : (rngL 0 as.length).length ≤ 100000 := by rw [rngL_len]; omega
    have h18 : as.length < 1000000000000000000 := by omega
    unfold wB5 wR
    apply ss_nx
    · apply s_if1
      · (exists e5, dec1 rfl)
      · apply ss_nx
        · apply s_name'
          · apply e_lcB
            · apply i_rng1
              · (exists rfl)
              · exact rfl
              · exact h18
            · exact hlen
            · exact e6
          · exact rfl
        · exact ss_nil
    · apply Eq.trans
      · (exists rfl)
      · exact rfl
  · refine ⟨as, bs, P5, by omega, by omega, a2, b2, wrap (e' := [some (.cell n), some (.int (top : Nat)), some (.int (as.length : Nat)), some (.lst (wd as)), some (.cell m), some (.int (near : Nat)), x6, x7]) ?_⟩
    unfold wB5 wR
    apply Eq.trans
    · (exists e5, dec0 (by omega))
    · exact rfl
theorem putA_0 {b n c : Nat} {fs : List (Str × D)} {na : Nat → Str → Bool} {x : Str} {d : D} (h : s[n]? = some (.ins c fs)) (hn : na c x = true) (hw : okW b n d = true) (hl : fs.length < 900) : setF na b (.cell n) x d s = .ok () (s.set n (.ins c (putA x d fs))) := by
  have hl : decide (fs.length < 900) = true := by rw [decide_eq_true_eq]; exact hl
  simp only [setF, h, hn, hw, hl, Bool.and_self, if_true]
def bObj (I L p t : Nat) : O := .ins 0 [("inputs", .int (I : Nat)), ("latches", .int (L : Nat)), ("_pairs", .cell p), ("_literals", .cell t)]
theorem init_run (s : Store) (I L : Nat) : runK (tb.glo f) 0 i_Builder___init__.d [.cell s.length, .int (I : Nat), .int (L : Nat)] (s ++ [.ins 0 []]) = .ok (.v .non) (s ++ [bObj I L (s.length + 1) (s.length + 2), .lst [], .dt []]) := by
  have at0 : ∀ (fs : List (Str × D)) (r : Store), (s ++ (.ins 0 fs :: r))[s.length]? = some (.ins 0 fs) := fun fs r => by simp
  have set0 : ∀ (o : O) (fs : List (Str × D)) (r : Store), (s ++ (.ins 0 fs :: r)).set s.length o = s ++ (o :: r) := fun o fs r => by simp
  have ok : ∀ d, okW 0 s.length d = true := fun d => by simp [okW]
  have f1 := putA_0 (b := 0) (na := (tb.glo f).na) (x := "inputs") (d := .int (I : Nat)) (at0 [] []) rfl (ok _) (Nat.le_of_ble_eq_true rfl)
  rw [set0] at f1
  have f2 := putA_0 (b := 0) (na := (tb.glo f).na) (x := "latches") (d := .int (L : Nat)) (at0 (putA "inputs" (.int (I : Nat)) []) []) rfl (ok _) (Nat.le_of_ble_eq_true rfl)
  rw [set0] at f2
  have f3 := putA_0 (b := 0) (na := (tb.glo f).na) (x := "_pairs") (d := .cell (s.length + 1)) (at0 (putA "latches" (.int (L : Nat)) (putA "inputs" (.int (I : Nat)) [])) [.lst []]) rfl (ok _) (Nat.le_of_ble_eq_true rfl)
  rw [set0] at f3
  have f4 := putA_0 (b := 0) (na := (tb.glo f).na) (x := "_literals") (d := .cell (s.length + 2)) (at0 (putA "_pairs" (.cell (s.length + 1)) (putA "latches" (.int (L : Nat)) (putA "inputs" (.int (I : Nat)) []))) [.lst [], .dt []]) rfl (ok _) (Nat.le_of_ble_eq_true rfl)
  rw [set0] at f4
  apply runK_nx (e' := [some (.cell s.length), some (.int (I : Nat)), some (.int (L : Nat))]) rfl
  unfold i_Builder___init__
  show xSs _ _ _ [some (.cell s.length), some (.int (I : Nat)), some (.int (L : Nat))] _ = _
  apply ss_nx
  · (exists f1)
  apply ss_nx
  · (exists f2)
  have m1 : ∀ o : O, xE (tb.glo f) 0 (.mu (.lst .nil)) [some (.cell s.length), some (.int (I : Nat)), some (.int (L : Nat))] (s ++ [o]) = .ok (.v (.cell (s.length + 1))) (s ++ [o, .lst []]) := fun o => by
    have : s ++ [o, O.lst []] = (s ++ [o]) ++ [.lst []] := by simp
    rw [this]
    have e : s.length + 1 = (s ++ [o]).length := by simp
    rw [e]
    apply e_mu
    (exists rfl)
  have m2 : ∀ o o2 : O, xE (tb.glo f) 0 (.mu .dnewT) [some (.cell s.length), some (.int (I : Nat)), some (.int (L : Nat))] (s ++ [o, o2]) = .ok (.v (.cell (s.length + 2))) (s ++ [o, o2, .dt []]) := fun o o2 => by
    have : s ++ [o, o2, O.dt []] = (s ++ [o, o2]) ++ [.dt []] := by simp
    rw [this]
    have e : s.length + 2 = (s ++ [o, o2]).length := by simp
    rw [e]
    apply e_mu
    (exists rfl)
  apply ss_nx
  · apply s_fld
    · exact m1 _
    · (exists rfl)
    · exact f3
  apply ss_nx
  · apply s_fld
    · exact m2 _ _
    · (exists rfl)
    · exact f4
  · exact ss_nil
theorem build_run (s : Store) (V b : Nat) : i_law_build.run (tb.glo f) b [.int (V : Nat)] s = .ok (.n (.lst [.int (V : Nat), .cell s.length, .cell (s.length + 1)])) (s ++ [.dt [], .lst []]) := by
  rw [run_K rfl]
  have hs : s ++ [O.dt [], .lst []] = (s ++ [.dt []]) ++ [.lst []] := by simp
  have hl : s.length + 1 = (s ++ [O.dt []]).length := by simp
  rw [hs, hl]
  apply Eq.trans
  · apply runK_ret rfl
    · unfold i_law_build
      show xSs _ _ _ [some (.int (V : Nat))] _ = _
      apply ss_ret
      apply s_ret
      apply e_lst
      · apply es_cons
        · (exists rfl)
        · apply es_cons
          · apply e_muT
          · apply es_cons
            · apply e_mu
              (exists rfl)
            · exact es_nil
      · exact Nat.le_of_ble_eq_true rfl
  · exact rfl
theorem pairs_run (h : PB s q p t I L ps) (b : Nat) : i_Builder_pairs.run (tb.glo f) b [.cell q] s = .ok (.n (.lst (enc ps))) s := by
  rw [run_F rfl]
  have fl := fld_at (na := (tb.glo f).na) (f := "_pairs") h.oo rfl rfl
  have hp := h.pp
  have bl : bltR .list [.cell p] s = some (.n (.lst (enc ps))) := by simp only [bltR, seqOf, hp]
  apply run_ret rfl
  · unfold i_Builder_pairs
    show xSs _ _ _ [some (.cell q)] _ = _
    (exists fl, bl)
  · refine end_n rfl (cbs_iff.mpr fun d m => ?_)
    simp only [enc, List.mem_map] at m
    obtain ⟨x, _, rfl⟩ := m
    rfl
theorem enc_plain (ps : List (Nat × Nat)) (n : Nat) : plains (n + 1) (enc ps) = true := plains_iff.mpr fun d m => by
  simp only [enc, List.mem_map] at m
  obtain ⟨x, _, rfl⟩ := m
  cases n <;> simp [encP, En.plain, En.plains]
theorem enc_cb (ps : List (Nat × Nat)) (b : Nat) : cbs b (enc ps) = true := cbs_iff.mpr fun d m => by
  simp only [enc, List.mem_map] at m
  obtain ⟨x, _, rfl⟩ := m
  rfl
theorem wd_plain (ls : List Nat) (n : Nat) : plains n (wd ls) = true := plains_iff.mpr fun d m => by
  obtain ⟨l, _, rfl⟩ := wd_mem m
  cases n <;> rfl
theorem samec_run {k : Nat} (ih : SameOk (k + 1) (f.fn 13)) (h : s[p]? = some (.lst (enc ps))) (hl : ps.length ≤ 100000) (b : Nat) : i_law_same.run (tb.glo f) b [.lst (enc ps), .cell p] s = .ok (.v (.bl true)) s := by
  rw [run_F rfl]
  have h1 : seqOf s (.cell p) = some (false, enc ps) := by simp only [seqOf, h]
  have h2 : tyOf s (.cell p) = some .list := by simp only [tyOf, h]
  exact same_seq (tb.glo f) (jw := 12) (js := 13) ih (k := false) rfl h1 rfl h2 (by simpa [enc] using hl) (enc_plain ps k)
/-- all that the law's own code wants -/
structure All (f : Den) : Prop where
  pool : ∀ (ns : List Int) (p : Nat), ∃ c r : Int, f.fn 9 0 [.lst (ns.map .int), .int (p : Nat)] [] = .ok (.n (pl c r 0)) []
  draw : DrawAt (f.fn 10)
  pick : PickOk f
  some : SomeOk f
  words : ∀ {s : Store} {n : Nat}, n < s.length → ∀ (P : Int × Int × Int) (b top : Nat), 2 ≤ top → top % 2 = 0 → top < 1000000 → ∃ (as bs : List Nat) (P' : Int × Int × Int), as.length = bs.length ∧ as.length ≤ 14 ∧ (∀ l ∈ as, l < top) ∧ (∀ l ∈ bs, l < top) ∧
      f.fn 26 b [.cell n, .int (top : Nat)] (stp s n P) = .ok (.n (.lst [.lst (wd as), .lst (wd bs)])) (stp s n P')
  same : SameOk 2 (f.fn 13)
  samec : ∀ {s : Store} {p : Nat} {ps : List (Nat × Nat)} (b : Nat), s[p]? = Option.some (.lst (enc ps)) → ps.length ≤ 100000 → f.fn 13 b [.lst (enc ps), .cell p] s = .ok (.v (.bl true)) s
  lboth : Op3L f 15 BN.both
  pboth : Op3 f 35 BN.both
  due : ∀ {s : Store} {q p t V : Nat} {ps : List (Nat × Nat)} (b kind : Nat) {as bs : List Nat}, LB s q p t V ps → kind < 7 → as.length = bs.length → ps.length + 9 * as.length < 60000 → as.length < 60000 →
    f.fn 27 b [.cell q, .int (kind : Nat), .lst (wd as), .lst (wd bs)] s = .ok (RD kind (due V ps kind as bs).1) (putL s q p t V (due V ps kind as bs).2)
  told : ∀ {s : Store} {q p t I L : Nat} {ps : List (Nat × Nat)} {A B : D} {k l : Bool} (b kind : Nat) {as bs : List Nat}, PB s q p t I L ps → frzSeq A = Option.some (k, wd as) → frzSeq B = Option.some (l, wd bs) → kind < 7 → ps.length + 9 * as.length < 60000 → as.length < 60000 → bs.length < 60000 →
    f.fn 28 b [.cell q, .int (kind : Nat), A, B] s = .ok (RD kind (K13.due (1 + I + L) ps kind as bs).1) (putP s p t (1 + I + L) (K13.due (1 + I + L) ps kind as bs).2)
  pairs : ∀ {s : Store} {q p t I L : Nat} {ps : List (Nat × Nat)} (b : Nat), PB s q p t I L ps → f.fn 34 b [.cell q] s = .ok (.n (.lst (enc ps))) s
  columns : ∀ {bits : Nat} {ps : List (Nat × Nat)}, bits ≤ 8 → BN.WF (1 + bits) ps → ps.length < 10000 → f.fn 24 0 [.int (bits : Nat), .lst (enc ps)] [] = .ok (.n (.lst (wd (BN.cols bits ps)))) []
  holds : ∀ {ps : List (Nat × Nat)} {bits kind : Nat} {as bs ts : List Nat} {T : D}, kind < 7 → (kind ≤ 1 ∧ T = .lst (wd ts)) ∨ (1 < kind ∧ ∃ l : Nat, T = .int (l : Nat) ∧ ts = [l]) → bits ≤ 8 → (∀ l ∈ as, l < 2 * (1 + bits + ps.length)) → (∀ l ∈ bs, l < 2 * (1 + bits + ps.length)) → (∀ l ∈ ts, l < 2 * (1 + bits + ps.length)) →
    as.length < 1000 → bs.length = as.length → ts.length < 1000 → (∀ v, v < 2 ^ bits → num bits ps v ts = plainN kind (num bits ps v as) (num bits ps v bs) as.length) →
    f.fn 31 0 [.lst (wd (BN.cols bits ps)), .int (bits : Nat), .int (kind : Nat), .lst [.lst (wd as), .lst (wd bs)], T] [] = .ok (.v (.bl true)) []
  build : ∀ (s : Store) (V b : Nat), f.fn 14 b [.int (V : Nat)] s = .ok (.n (.lst [.int (V : Nat), .cell s.length, .cell (s.length + 1)])) (s ++ [.dt [], .lst []])
  ini : ∀ (s : Store) (I L : Nat), f.ini 0 0 [.cell s.length, .int (I : Nat), .int (L : Nat)] (s ++ [.ins 0 []]) = .ok (.v .non) (s ++ [bObj I L (s.length + 1) (s.length + 2), .lst [], .dt []])
/-- two builders of each kind -/
structure St (s : Store) (I L : Nat) (m : Nat → List (Nat × Nat)) : Prop where
  len : 13 ≤ s.length
  pb : ∀ i, i < 2 → PB s (1 + 3 * i) (2 + 3 * i) (3 + 3 * i) I L (m i)
  lb : ∀ i, i < 2 → LB s (9 + 3 * i) (8 + 3 * i) (7 + 3 * i) (1 + I + L) (m i)
theorem St.set (h : St s I L m) {n : Nat} (hn : n = 0 ∨ 13 ≤ n) (v : O) : St (s.set n v) I L m :=
  ⟨by simpa using h.len, fun i hi => (h.pb i hi).set (by omega) (by omega) (by omega), fun i hi => (h.lb i hi).set (by omega) (by omega) (by omega)⟩
theorem St.app (h : St s I L m) (r : Store) : St (s ++ r) I L m :=
  ⟨by have := h.len; rw [List.length_append]; omega, fun i hi => (h.pb i hi).app r, fun i hi => (h.lb i hi).app r⟩
def mset (m : Nat → List (Nat × Nat)) (a : Nat) (ps : List (Nat × Nat)) (i : Nat) : List (Nat × Nat) := if i = a then ps else m i
/-- the law's builder makes its steps -/
theorem St.mid (h : St s I L m) {a : Nat} (ha : a < 2) (ps : List (Nat × Nat)) : PB (putL s (9 + 3 * a) (8 + 3 * a) (7 + 3 * a) (1 + I + L) ps) (1 + 3 * a) (2 + 3 * a) (3 + 3 * a) I L (m a) := by
  unfold putL
  exact (((h.pb a ha).set (by omega) (by omega) (by omega)).set (by omega) (by omega) (by omega)).set (by omega) (by omega) (by omega)
/-- both have made them -/
theorem St.step (h : St s I L m) {a : Nat} (ha : a < 2) (ps : List (Nat × Nat)) : St (putP (putL s (9 + 3 * a) (8 + 3 * a) (7 + 3 * a) (1 + I + L) ps) (2 + 3 * a) (3 + 3 * a) (1 + I + L) ps) I L (mset m a ps) := by
  refine ⟨by rw [putP_len, putL_len]; exact h.len, fun i hi => ?_, fun i hi => ?_⟩
  · by_cases e : i = a
    · subst e
      have := (h.mid hi ps).put ps
      simpa [mset] using this
    · have : mset m a ps i = m i := by simp [mset, e]
      rw [this]
      unfold putP putL
      exact ((((((h.pb i hi).set (by omega) (by omega) (by omega)).set (by omega) (by omega) (by omega)).set (by omega) (by omega) (by omega)).set (by omega) (by omega) (by omega)).set (by omega) (by omega) (by omega))
  · by_cases e : i = a
    · subst e
      have h2 := (h.lb i hi).put ps
      have : mset m i ps i = ps := by simp [mset]
      rw [this]
      unfold putP
      exact (h2.set (by omega) (by omega) (by omega)).set (by omega) (by omega) (by omega)
    · have : mset m a ps i = m i := by simp [mset, e]
      rw [this]
      unfold putP putL
      exact ((((((h.lb i hi).set (by omega) (by omega) (by omega)).set (by omega) (by omega) (by omega)).set (by omega) (by omega) (by omega)).set (by omega) (by omega) (by omega)).set (by omega) (by omega) (by omega))
end K13

set_option Elab.async false
set_option linter.all false
set_option maxRecDepth 100000
set_option maxHeartbeats 1000000
namespace K13
open PySem PySem.Spec PyProof.Rows L2 En
variable {s X : Store} {q p t I L V n N : Nat} {ps ps0 : List (Nat × Nat)} {f : Den} {m : Nat → List (Nat × Nat)}
def BB : D := .lst [.cell 1, .cell 4]
def UU : D := .lst [.cell 9, .cell 12]
theorem ixB {gd : Nat → List (Str × D)} {a : Nat} (ha : a < 2) : ixR gd BB (.int (a : Nat)) s = some (.v (.cell (1 + 3 * a))) := by
  have c : a = 0 ∨ a = 1 := by omega
  rcases c with rfl | rfl <;> rfl
theorem ixU {gd : Nat → List (Str × D)} {a : Nat} (ha : a < 2) : ixR gd UU (.int (a : Nat)) s = some (.v (.cell (9 + 3 * a))) := by
  have c : a = 0 ∨ a = 1 := by omega
  rcases c with rfl | rfl <;> rfl
theorem _root_.En.LB.ix0 {gd : Nat → List (Str × D)} (h : LB s q p t V ps) : ixR gd (.cell q) (.int 0) s = some (.v (.int ((V + ps.length : Nat) : Int))) := by
  have := h.oo
  simp only [ixR, seqOf, this]
  rfl
theorem _root_.En.LB.ix2 {gd : Nat → List (Str × D)} (h : LB s q p t V ps) : ixR gd (.cell q) (.int 2) s = some (.v (.cell p)) := by
  have := h.oo
  simp only [ixR, seqOf, this]
  rfl
/-- a pool lies in cell n -/
def Pol (s : Store) (n : Nat) (P : Int × Int × Int) : Prop := s[n]? = some (pl P.1 P.2.1 P.2.2)
theorem Pol.same {P : Int × Int × Int} (h : Pol s n P) : stp s n P = s := set_same h
theorem Pol.lt {P : Int × Int × Int} (h : Pol s n P) : n < s.length := get_lt h
theorem Pol.set {P P' : Int × Int × Int} (h : Pol s n P) : Pol (stp s n P') n P' := by
  unfold Pol
  rw [List.getElem?_set_self h.lt]
theorem Pol.put {P : Int × Int × Int} (h : Pol s n P) (hn : n = 0 ∨ 13 ≤ n) {a : Nat} (ha : a < 2) {ps ps' : List (Nat × Nat)} : Pol (putP (putL s (9 + 3 * a) (8 + 3 * a) (7 + 3 * a) V ps) (2 + 3 * a) (3 + 3 * a) V ps') n P := by
  unfold Pol putP putL at *
  rw [List.getElem?_set_ne (by omega), List.getElem?_set_ne (by omega), List.getElem?_set_ne (by omega), List.getElem?_set_ne (by omega), List.getElem?_set_ne (by omega)]
  exact h
/-- the pairs are in order, and not too many -/
def Ord (I L N : Nat) (m : Nat → List (Nat × Nat)) : Prop := ∀ i, i < 2 → BN.WF (1 + (I + L)) (m i) ∧ (m i).length ≤ N
theorem Ord.step (h : Ord I L N m) {a k : Nat} {ps : List (Nat × Nat)} (hw : BN.WF (1 + (I + L)) ps) (hl : ps.length ≤ N + k) : Ord I L (N + k) (mset m a ps) := fun i hi => by
  by_cases e : i = a
  · simp only [mset, e, if_true]
    exact ⟨hw, hl⟩
  · simp only [mset, e, if_false]
    have := h i hi
    exact ⟨this.1, by omega⟩
theorem some_x (hA : All f) {P : Int × Int × Int} (hp : Pol X n P) (b top : Nat) (h0 : 0 < top) (h1 : top < 1000000) : ∃ (l : Nat) (P' : Int × Int × Int), l < top ∧ callR (f.fn 23) b [.cell n, .int (top : Nat)] X = .ok (.v (.int (l : Nat))) (stp X n P') := by
  obtain ⟨l, P', h2, e⟩ := hA.some hp.lt [] b P top h0 h1
  simp only [List.append_nil, hp.same] at e
  exact ⟨l, P', h2, e⟩
theorem draw_x (hA : All f) {P : Int × Int × Int} (hp : Pol X n P) (b top : Nat) (h0 : 0 < top) (h1 : top < 1000000) : ∃ (l : Nat) (P' : Int × Int × Int), l < top ∧ callR (f.fn 10) b [.cell n, .int (top : Nat)] X = .ok (.v (.int (l : Nat))) (stp X n P') := by
  obtain ⟨l, P', h2, e⟩ := draw_nr hA.draw hp.lt [] b P top (by omega) (by omega)
  simp only [List.append_nil] at e
  rw [show List.set X n (pl P.1 P.2.1 P.2.2) = X from hp.same] at e
  exact ⟨l, P', by omega, e⟩
theorem pick_x (hA : All f) {P : Int × Int × Int} (hp : Pol X n P) (b : Nat) (row : List Nat) (h0 : 0 < row.length) (h1 : row.length < 1000) : ∃ (l : Nat) (P' : Int × Int × Int), l ∈ row ∧ callR (f.fn 11) b [.cell n, .lst (wd row)] X = .ok (.v (.int (l : Nat))) (stp X n P') := by
  obtain ⟨l, P', h2, e⟩ := hA.pick hp.lt [] b P row h0 h1
  simp only [List.append_nil, hp.same] at e
  exact ⟨l, P', h2, e⟩
theorem same_call (hA : All f) (b : Nat) {d : D} (h : En.plain 2 d = true) : callR (f.fn 13) b [d, d] X = .ok (.v (.bl true)) X :=
  callR_of (by simp [cbs, plain_cb 2 d h]) (hA.same d h)
abbrev El (sc : D) (I L : Nat) (x6 x7 x8 x9 x10 x11 x12 x13 x14 x15 x16 x17 x18 : Option D) : En.Env := [some sc, some (.cell 0), some (.int (I : Nat)), some (.int (L : Nat)), some BB, some UU, x6, x7, x8, x9, x10, x11, x12, x13, x14, x15, x16, x17, x18]
def inB : ISs := (.cons (.asg (.name 8) (.call 23 (.cons (.var 1) (.cons (.op .mul (.int 2) (.ix (.ix (.var 5) (.var 6)) (.int 0))) .nil))))
    (.cons (.asg (.name 9) (.call 23 (.cons (.var 1) (.cons (.op .mul (.int 2) (.ix (.ix (.var 5) (.var 6)) (.int 0))) .nil))))
    (.cons (.asg (.name 10) (.call 15 (.cons (.ix (.var 5) (.var 6)) (.cons (.var 8) (.cons (.var 9) .nil)))))
    (.cons (.ifs (.not (.e (.call 13 (.cons (.mcall "both" (.ix (.var 4) (.var 6)) (.cons (.var 8) (.cons (.var 9) .nil))) (.cons (.var 10) .nil))))) (.cons (.ret (.bl false))
    .nil) .nil)
    .nil))))
theorem val_any {bits : Nat} {l : Nat} (h : l < 2 * (1 + bits + ps.length)) : BN.Val (1 + bits) (BN.baseN bits 0) ps l (BN.lv (BN.vals (BN.baseN bits 0) ps) l) := ⟨h, rfl⟩
theorem in_step (hA : All f) (hIL : I + L ≤ 8) (hN : N ≤ 1000) {P : Int × Int × Int} (hS : St X I L m) (hp : Pol X 0 P) (hO : Ord I L N m) {a : Nat} (ha : a < 2) (k : Nat) {sc : D} {x7 x8 x9 x10 x11 x12 x13 x14 x15 x16 x17 x18 : Option D} :
    ∃ (X' : Store) (m' : Nat → List (Nat × Nat)) (P' : Int × Int × Int) (x8' x9' x10' : Option D), St X' I L m' ∧ Pol X' 0 P' ∧ Ord I L (N + 1) m' ∧
      bodyF (tb.glo f) 0 (.name 7) inB (.int (k : Nat)) (El sc I L (some (.int (a : Nat))) x7 x8 x9 x10 x11 x12 x13 x14 x15 x16 x17 x18) X =
        .ok (.nx, El sc I L (some (.int (a : Nat))) (some (.int (k : Nat))) x8' x9' x10' x11 x12 x13 x14 x15 x16 x17 x18) X' := by
  have hV : 1 + I + L = 1 + (I + L) := Nat.add_assoc _ _ _
  have hO1 := hO a ha
  obtain ⟨l1, P1, q1, e1⟩ := some_x hA hp 0 (2 * (1 + I + L + (m a).length)) (by omega) (by omega)
  have S1 := hS.set (.inl rfl) (pl P1.1 P1.2.1 P1.2.2)
  have p1 : Pol (stp X 0 P1) 0 P1 := hp.set
  obtain ⟨l2, P2, q2, e2⟩ := some_x hA p1 0 (2 * (1 + I + L + (m a).length)) (by omega) (by omega)
  have S2 := S1.set (.inl rfl) (pl P2.1 P2.2.1 P2.2.2)
  have p2 : Pol (stp (stp X 0 P1) 0 P2) 0 P2 := p1.set
  generalize hX1 : stp X 0 P1 = X1 at *
  have hX1' : List.set X 0 (pl P1.1 P1.2.1 P1.2.2) = X1 := hX1
  rw [hX1'] at S1 S2
  generalize hX2 : stp X1 0 P2 = X2 at *
  have hX2' : List.set X1 0 (pl P2.1 P2.2.1 P2.2.2) = X2 := hX2
  rw [hX2'] at S2
  have c1 := hA.lboth 0 l1 l2 (S2.lb a ha) (by omega)
  have c2 := hA.pboth 0 l1 l2 (S2.mid ha (BN.both (1 + I + L) (m a) l1 l2).2) (by omega)
  have sp := BN.both_spec (base := BN.baseN (I + L) 0) (BN.baseN_len _ _) (by omega) (base0 _ _) hO1.1 (val_any (l := l1) (by omega)) (val_any (l := l2) (by omega))
  rw [← hV] at sp
  refine ⟨_, _, P2, some (.int (l1 : Nat)), some (.int (l2 : Nat)), some (.int ((BN.both (1 + I + L) (m a) l1 l2).1 : Nat)), S2.step ha _, p2.put (.inl rfl) ha, hO.step (k := 1) (a := a) (by rw [← hV]; exact sp.2.1) (by omega), ?_⟩
  have ml := mul_nat (s := X) 2 (1 + I + L + (m a).length) (by decide)
  have ml1 := mul_nat (s := X1) 2 (1 + I + L + (m a).length) (by decide)
  have ob := obj_at (S2.mid ha (BN.both (1 + I + L) (m a) l1 l2).2).oo
  have sm := same_call (X := putP (putL X2 (9 + 3 * a) (8 + 3 * a) (7 + 3 * a) (1 + I + L) (BN.both (1 + I + L) (m a) l1 l2).2) (2 + 3 * a) (3 + 3 * a) (1 + I + L) (BN.both (1 + I + L) (m a) l1 l2).2) hA 0 (d := .int ((BN.both (1 + I + L) (m a) l1 l2).1 : Nat)) rfl
  unfold inB El
  (exists ixU ha, ixB ha, (hS.lb a ha).ix0, (S1.lb a ha).ix0, ml, ml1, e1, e2, callR_at rfl c1, callR_at rfl c2, ob, sm)
theorem in_loop (hA : All f) (hIL : I + L ≤ 8) {a : Nat} (ha : a < 2) {sc : D} {x11 x12 x13 x14 x15 x16 x17 x18 : Option D} : ∀ (c k N : Nat) (X : Store) (m : Nat → List (Nat × Nat)) (P : Int × Int × Int) (x7 x8 x9 x10 : Option D), N + c ≤ 1000 → St X I L m → Pol X 0 P → Ord I L N m →
    ∃ (X' : Store) (m' : Nat → List (Nat × Nat)) (P' : Int × Int × Int) (x7' x8' x9' x10' : Option D), St X' I L m' ∧ Pol X' 0 P' ∧ Ord I L (N + c) m' ∧
      forL (bodyF (tb.glo f) 0 (.name 7) inB) (rngL (k : Nat) c) (El sc I L (some (.int (a : Nat))) x7 x8 x9 x10 x11 x12 x13 x14 x15 x16 x17 x18) X =
        .ok (.nx, El sc I L (some (.int (a : Nat))) x7' x8' x9' x10' x11 x12 x13 x14 x15 x16 x17 x18) X'
  | 0, k, N, X, m, P, x7, x8, x9, x10, hN, hS, hp, hO => ⟨X, m, P, x7, x8, x9, x10, hS, hp, hO, rfl⟩
  | c + 1, k, N, X, m, P, x7, x8, x9, x10, hN, hS, hp, hO => by
    obtain ⟨X1, m1, P1, y8, y9, y10, S1, p1, O1, st⟩ := in_step hA hIL (by omega) hS hp hO ha k (sc := sc) (x7 := x7) (x8 := x8) (x9 := x9) (x10 := x10) (x11 := x11) (x12 := x12) (x13 := x13) (x14 := x14) (x15 := x15) (x16 := x16) (x17 := x17) (x18 := x18)
    obtain ⟨X2, m2, P2, z7, z8, z9, z10, S2, p2, O2, e⟩ := in_loop hA hIL ha (sc := sc) (x11 := x11) (x12 := x12) (x13 := x13) (x14 := x14) (x15 := x15) (x16 := x16) (x17 := x17) (x18 := x18) c (k + 1) (N + 1) X1 m1 P1 (some (.int (k : Nat))) y8 y9 y10 (by omega) S1 p1 O1
    exact ⟨X2, m2, P2, z7, z8, z9, z10, S2, p2, by have : N + (c + 1) = N + 1 + c := by omega
                                                   rw [this]; exact O2, forL_cons st e⟩
def outB : ISs := (.cons (.for_ (.name 7) (.rng1 (.call 11 (.cons (.var 1) (.cons (.lst (.cons (.int 0) (.cons (.int 0) (.cons (.int 1) (.cons (.int 3) .nil))))) .nil)))) inB) .nil)
theorem out_step (hA : All f) (hIL : I + L ≤ 8) (hN : N ≤ 900) {P : Int × Int × Int} (hS : St X I L m) (hp : Pol X 0 P) (hO : Ord I L N m) {a : Nat} (ha : a < 2) {sc : D} {x6 x7 x8 x9 x10 x11 x12 x13 x14 x15 x16 x17 x18 : Option D} :
    ∃ (X' : Store) (m' : Nat → List (Nat × Nat)) (P' : Int × Int × Int) (x7' x8' x9' x10' : Option D), St X' I L m' ∧ Pol X' 0 P' ∧ Ord I L (N + 3) m' ∧
      bodyF (tb.glo f) 0 (.name 6) outB (.int (a : Nat)) (El sc I L x6 x7 x8 x9 x10 x11 x12 x13 x14 x15 x16 x17 x18) X =
        .ok (.nx, El sc I L (some (.int (a : Nat))) x7' x8' x9' x10' x11 x12 x13 x14 x15 x16 x17 x18) X' := by
  obtain ⟨c, P1, hc, e1⟩ := pick_x hA hp 0 [0, 0, 1, 3] (by decide) (by decide)
  have hc3 : c ≤ 3 := by
    simp only [List.mem_cons, List.not_mem_nil, or_false] at hc
    omega
  obtain ⟨X2, m2, P2, z7, z8, z9, z10, S2, p2, O2, e⟩ := in_loop hA hIL ha (sc := sc) (x11 := x11) (x12 := x12) (x13 := x13) (x14 := x14) (x15 := x15) (x16 := x16) (x17 := x17) (x18 := x18) c 0 N (stp X 0 P1) m P1 x7 x8 x9 x10 (by omega) (hS.set (.inl rfl) _) hp.set hO
  refine ⟨X2, m2, P2, z7, z8, z9, z10, S2, p2, fun i hi => ⟨(O2 i hi).1, by have := (O2 i hi).2; omega⟩, ?_⟩
  have h18 : c < 1000000000000000000 := by omega
  unfold outB El
  apply b_forB
  · (exists rfl)
  apply ss_nx
  · apply s_forB
    · apply i_rng1
      · apply e_call
        · (exists rfl)
        · exact e1
      · exact rfl
      · exact h18
    · exact e
  · exact ss_nil
theorem out_loop (hA : All f) (hIL : I + L ≤ 8) {P : Int × Int × Int} (hS : St X I L m) (hp : Pol X 0 P) (hO : Ord I L 0 m) {sc : D} {x6 x7 x8 x9 x10 x11 x12 x13 x14 x15 x16 x17 x18 : Option D} :
    ∃ (X' : Store) (m' : Nat → List (Nat × Nat)) (P' : Int × Int × Int) (x6' x7' x8' x9' x10' : Option D), St X' I L m' ∧ Pol X' 0 P' ∧ Ord I L 6 m' ∧
      forL (bodyF (tb.glo f) 0 (.name 6) outB) (rngL 0 2) (El sc I L x6 x7 x8 x9 x10 x11 x12 x13 x14 x15 x16 x17 x18) X =
        .ok (.nx, El sc I L x6' x7' x8' x9' x10' x11 x12 x13 x14 x15 x16 x17 x18) X' := by
  obtain ⟨X1, m1, P1, y7, y8, y9, y10, S1, p1, O1, e1⟩ := out_step hA hIL (by omega) hS hp hO (a := 0) (by decide) (sc := sc) (x6 := x6) (x7 := x7) (x8 := x8) (x9 := x9) (x10 := x10) (x11 := x11) (x12 := x12) (x13 := x13) (x14 := x14) (x15 := x15) (x16 := x16) (x17 := x17) (x18 := x18)
  obtain ⟨X2, m2, P2, z7, z8, z9, z10, S2, p2, O2, e2⟩ := out_step hA hIL (by omega) S1 p1 O1 (a := 1) (by decide) (sc := sc) (x6 := some (.int ((0 : Nat) : Int))) (x7 := y7) (x8 := y8) (x9 := y9) (x10 := y10) (x11 := x11) (x12 := x12) (x13 := x13) (x14 := x14) (x15 := x15) (x16 := x16) (x17 := x17) (x18 := x18)
  exact ⟨X2, m2, P2, _, z7, z8, z9, z10, S2, p2, O2, forL_cons e1 (forL_cons e2 rfl)⟩
end K13

set_option Elab.async false
set_option linter.all false
set_option maxRecDepth 100000
set_option maxHeartbeats 1000000
namespace K13
open PySem PySem.Spec PyProof.Rows L2 En
variable {s X : Store} {q p t I L V n N : Nat} {ps ps0 : List (Nat × Nat)} {f : Den} {m mp ml : Nat → List (Nat × Nat)}
structure St2 (s : Store) (I L : Nat) (mp ml : Nat → List (Nat × Nat)) : Prop where
  len : 13 ≤ s.length
  pb : ∀ i, i < 2 → PB s (1 + 3 * i) (2 + 3 * i) (3 + 3 * i) I L (mp i)
  lb : ∀ i, i < 2 → LB s (9 + 3 * i) (8 + 3 * i) (7 + 3 * i) (1 + I + L) (ml i)
theorem to2 (h : St s I L m) : St2 s I L m m := ⟨h.len, h.pb, h.lb⟩
theorem to1 (h : St2 s I L m m) : St s I L m := ⟨h.len, h.pb, h.lb⟩
theorem St2.set (h : St2 s I L mp ml) {n : Nat} (hn : n = 0 ∨ 13 ≤ n) (v : O) : St2 (s.set n v) I L mp ml :=
  ⟨by simpa using h.len, fun i hi => (h.pb i hi).set (by omega) (by omega) (by omega), fun i hi => (h.lb i hi).set (by omega) (by omega) (by omega)⟩
theorem St2.putL (h : St2 s I L mp ml) {a : Nat} (ha : a < 2) (ps : List (Nat × Nat)) : St2 (putL s (9 + 3 * a) (8 + 3 * a) (7 + 3 * a) (1 + I + L) ps) I L mp (mset ml a ps) := by
  refine ⟨by rw [putL_len]; exact h.len, fun i hi => ?_, fun i hi => ?_⟩
  · unfold En.putL
    exact (((h.pb i hi).set (by omega) (by omega) (by omega)).set (by omega) (by omega) (by omega)).set (by omega) (by omega) (by omega)
  · by_cases e : i = a
    · subst e
      have := (h.lb i hi).put ps
      simpa [mset] using this
    · have : mset ml a ps i = ml i := by simp [mset, e]
      rw [this]
      unfold En.putL
      exact (((h.lb i hi).set (by omega) (by omega) (by omega)).set (by omega) (by omega) (by omega)).set (by omega) (by omega) (by omega)
theorem St2.putP (h : St2 s I L mp ml) {a : Nat} (ha : a < 2) (ps : List (Nat × Nat)) : St2 (putP s (2 + 3 * a) (3 + 3 * a) (1 + I + L) ps) I L (mset mp a ps) ml := by
  refine ⟨by rw [putP_len]; exact h.len, fun i hi => ?_, fun i hi => ?_⟩
  · by_cases e : i = a
    · subst e
      have := (h.pb i hi).put ps
      simpa [mset] using this
    · have : mset mp a ps i = mp i := by simp [mset, e]
      rw [this]
      unfold En.putP
      exact ((h.pb i hi).set (by omega) (by omega) (by omega)).set (by omega) (by omega) (by omega)
  · unfold En.putP
    exact ((h.lb i hi).set (by omega) (by omega) (by omega)).set (by omega) (by omega) (by omega)
theorem pol_putL {P : Int × Int × Int} (h : Pol s n P) (hn : n = 0 ∨ 13 ≤ n) {a : Nat} (ha : a < 2) {ps : List (Nat × Nat)} : Pol (putL s (9 + 3 * a) (8 + 3 * a) (7 + 3 * a) V ps) n P := by
  unfold Pol putL at *
  rw [List.getElem?_set_ne (by omega), List.getElem?_set_ne (by omega), List.getElem?_set_ne (by omega)]
  exact h
theorem pol_putP {P : Int × Int × Int} (h : Pol s n P) (hn : n = 0 ∨ 13 ≤ n) {a : Nat} (ha : a < 2) {ps : List (Nat × Nat)} : Pol (putP s (2 + 3 * a) (3 + 3 * a) V ps) n P := by
  unfold Pol putP at *
  rw [List.getElem?_set_ne (by omega), List.getElem?_set_ne (by omega)]
  exact h
theorem pol_other {P P' : Int × Int × Int} {k : Nat} (h : Pol s n P) (hn : k ≠ n) : Pol (stp s k P') n P := by
  unfold Pol at *
  rw [List.getElem?_set_ne hn]
  exact h
theorem cat_wd {as bs : List Nat} (h : as.length + bs.length ≤ 100000) : opR .add (.lst (wd as)) (.lst (wd bs)) s = some (.n (.lst (wd (as ++ bs)))) := by
  have h2 : (wd as).length + (wd bs).length ≤ 100000 := by rw [wd_len, wd_len]; exact h
  simp only [opR, seqOf, h2, if_true]
  simp [wd]
theorem fold_max : ∀ (ls : List Nat) (a : Nat), ∃ M : Nat, (ls.map fun l : Nat => (l : Int)).foldl max (a : Int) = (M : Int) ∧ a ≤ M ∧ ∀ l ∈ ls, l ≤ M
  | [], a => ⟨a, rfl, Nat.le_refl _, by simp⟩
  | l :: ls, a => by
    obtain ⟨M, h1, h2, h3⟩ := fold_max ls (max a l)
    refine ⟨M, ?_, by omega, fun x hx => ?_⟩
    · rw [List.map_cons, List.foldl_cons]
      have : max (a : Int) (l : Int) = ((max a l : Nat) : Int) := by omega
      rw [this, h1]
    · rcases List.mem_cons.mp hx with rfl | hx
      · omega
      · exact h3 x hx
theorem max_wd {ls : List Nat} (h : ls ≠ []) : ∃ M : Nat, bltR .maxL [.lst (wd ls)] s = some (.v (.int (M : Nat))) ∧ ∀ l ∈ ls, l ≤ M := by
  cases ls with
  | nil => exact absurd rfl h
  | cons a ls =>
    obtain ⟨M, h1, h2, h3⟩ := fold_max ls a
    refine ⟨M, ?_, fun l hl => ?_⟩
    · have e : ∀ ls : List Nat, intsOf (wd ls) = some (ls.map fun l : Nat => (l : Int)) := fun ls => by
        induction ls with
        | nil => rfl
        | cons l ls ih =>
          show intsOf (.int (l : Nat) :: wd ls) = _
          simp only [intsOf, ih, Option.map_some]
          rfl
      simp only [bltR, seqOf, e, Option.bind_some, List.map_cons, maxI, h1, Option.map_some]
    · rcases List.mem_cons.mp hl with rfl | hl
      · exact h2
      · exact h3 l hl
theorem words_x (hA : All f) {P : Int × Int × Int} (hp : Pol X n P) (b top : Nat) (h0 : 2 ≤ top) (hev : top % 2 = 0) (h1 : top < 1000000) : ∃ (as bs : List Nat) (P' : Int × Int × Int), as.length = bs.length ∧ as.length ≤ 14 ∧ (∀ l ∈ as, l < top) ∧ (∀ l ∈ bs, l < top) ∧
      callR (f.fn 26) b [.cell n, .int (top : Nat)] X = .ok (.n (.lst [.lst (wd as), .lst (wd bs)])) (stp X n P') := by
  obtain ⟨as, bs, P', w1, w2, w3, w4, e⟩ := hA.words hp.lt P b top h0 hev h1
  rw [hp.same] at e
  exact ⟨as, bs, P', w1, w2, w3, w4, callR_at rfl e⟩
def WW (as bs : List Nat) : D := .lst [.lst (wd as), .lst (wd bs)]
def b5 : IS := .ifs (.or (.not (.e (.var 14))) (.e (.cmp .ge (.blt .maxL (.cons (.op .add (.op .add (.ix (.var 11) (.int 0)) (.ix (.var 11) (.int 1))) (.lst (.cons (.int 0) .nil))) .nil)) (.op .mul (.int 2) (.ix (.ix (.var 5) (.var 6)) (.int 0)))))) (.cons (.asg (.name 11) (.call 26 (.cons (.var 12) (.cons (.op .mul (.int 2) (.ix (.ix (.var 5) (.var 6)) (.int 0))) .nil))))
    .nil) .nil
theorem b5_run (hA : All f) (hIL : I + L ≤ 8) {P : Int × Int × Int} (hS : St X I L m) (hn : 13 ≤ n) (hp : Pol X n P) {a : Nat} (ha : a < 2) (hm : (m a).length ≤ 5000) (g : Bool) {as bs : List Nat} (hab : as.length = bs.length) (hal : as.length ≤ 14) {sc : D} {x7 x8 x9 x10 x13 x15 x16 x17 x18 : Option D} :
    ∃ (as' bs' : List Nat) (P' : Int × Int × Int), as'.length = bs'.length ∧ as'.length ≤ 14 ∧ (∀ l ∈ as', l < 2 * (1 + I + L + (m a).length)) ∧ (∀ l ∈ bs', l < 2 * (1 + I + L + (m a).length)) ∧
      xS (tb.glo f) 0 b5 (El sc I L (some (.int (a : Nat))) x7 x8 x9 x10 (some (WW as bs)) (some (.cell n)) x13 (some (.bl g)) x15 x16 x17 x18) X =
        .ok (.nx, El sc I L (some (.int (a : Nat))) x7 x8 x9 x10 (some (WW as' bs')) (some (.cell n)) x13 (some (.bl g)) x15 x16 x17 x18) (stp X n P') := by
  obtain ⟨as', bs', P', w1, w2, w3, w4, e⟩ := words_x hA hp 0 (2 * (1 + I + L + (m a).length)) (by omega) (by omega) (by omega)
  have mu := mul_nat (s := X) 2 (1 + I + L + (m a).length) (by decide)
  have i0 := (hS.lb a ha).ix0 (gd := (tb.glo f).gd)
  cases g
  · refine ⟨as', bs', P', w1, w2, w3, w4, ?_⟩
    unfold b5 El
    (exists ixU ha, i0, mu, e)
  · obtain ⟨M, hM, hM2⟩ := max_wd (s := X) (ls := as ++ bs ++ [0]) (by simp)
    have k1 := cat_wd (s := X) (as := as) (bs := bs) (by omega)
    have k2 : opR .add (.lst (wd (as ++ bs))) (.lst [.int 0]) X = some (.n (.lst (wd (as ++ bs ++ [0])))) := cat_wd (s := X) (as := as ++ bs) (bs := [0]) (by rw [List.length_append, List.length_singleton]; omega)
    have j0 : ixR (tb.glo f).gd (WW as bs) (.int 0) X = some (.v (.lst (wd as))) := rfl
    have j1 : ixR (tb.glo f).gd (WW as bs) (.int 1) X = some (.v (.lst (wd bs))) := rfl
    by_cases hg : 2 * (1 + I + L + (m a).length) ≤ M
    · refine ⟨as', bs', P', w1, w2, w3, w4, ?_⟩
      have cg : cmpR (tb.glo f).gd .ge (.int (M : Nat)) (.int (2 * (1 + I + L + (m a).length) : Nat)) X = some true := by
        show some (decide _) = _
        rw [decide_eq_true (by omega)]
      unfold b5 El
      (exists ixU ha, i0, mu, j0, j1, k1, k2, hM, cg, e)
    · refine ⟨as, bs, P, hab, hal, fun l hl => ?_, fun l hl => ?_, ?_⟩
      · have := hM2 l (by simp [hl])
        omega
      · have := hM2 l (by simp [hl])
        omega
      have cg : cmpR (tb.glo f).gd .ge (.int (M : Nat)) (.int (2 * (1 + I + L + (m a).length) : Nat)) X = some false := by
        show some (decide _) = _
        rw [decide_eq_false (by omega)]
      rw [hp.same]
      unfold b5 El
      (exists ixU ha, i0, mu, j0, j1, k1, k2, hM, cg)
end K13

set_option Elab.async false
set_option linter.all false
set_option maxRecDepth 100000
set_option maxHeartbeats 1000000
namespace K13
open PySem PySem.Spec PyProof.Rows L2 En
variable {s X : Store} {q p t I L V n N : Nat} {ps ps0 : List (Nat × Nat)} {f : Den} {m mp ml : Nat → List (Nat × Nat)}
def b1 : IS := .asg (.name 12) (.mu (.call 9 (.cons (.var 0) (.cons (.op .add (.int 1) (.var 7)) .nil))))
def b2 : IS := .asg (.name 6) (.call 10 (.cons (.var 12) (.cons (.int 2) .nil)))
def b3 : IS := .asg (.name 13) (.call 10 (.cons (.var 12) (.cons (.int 7) .nil)))
def b4 : IS := .asg (.name 14) (.and (.cmp .eq (.call 10 (.cons (.var 12) (.cons (.int 4) .nil))) (.int 0)) (.cmp .gt (.var 7) (.int 0)))
def b6 : IS := .asg (.name 10) (.call 27 (.cons (.ix (.var 5) (.var 6)) (.cons (.var 13) (.cons (.ix (.var 11) (.int 0)) (.cons (.ix (.var 11) (.int 1)) .nil)))))
def b7 : IS := .asg (.name 15) (.lst (.cons (.blt .list (.cons (.ix (.var 11) (.int 0)) .nil)) (.cons (.blt .list (.cons (.ix (.var 11) (.int 1)) .nil)) .nil)))
def b8 : IS := .ifs (.e (.cmp .eq (.call 10 (.cons (.var 12) (.cons (.int 2) .nil))) (.int 1))) (.cons (.asg (.name 15) (.lst (.cons (.blt .tuple (.cons (.ix (.var 11) (.int 0)) .nil)) (.cons (.blt .tuple (.cons (.ix (.var 11) (.int 1)) .nil)) .nil))))
    .nil) .nil
def b9 : IS := .asg (.name 16) (.call 28 (.cons (.ix (.var 4) (.var 6)) (.cons (.var 13) (.cons (.ix (.var 15) (.int 0)) (.cons (.ix (.var 15) (.int 1)) .nil)))))
def b10 : IS := .ifs (.or (.not (.e (.call 13 (.cons (.var 16) (.cons (.var 10) .nil))))) (.not (.e (.call 13 (.cons (.lc [("one", 18)] (.name 18) (.seq (.var 15)) .yes (.blt .list (.cons (.var 18) .nil))) (.cons (.var 11) .nil)))))) (.cons (.ret (.bl false))
    .nil) .nil
def b11 : IS := .ifs (.not (.e (.call 13 (.cons (.mcall "pairs" (.ix (.var 4) (.op .sub (.int 1) (.var 6))) .nil) (.cons (.ix (.ix (.var 5) (.op .sub (.int 1) (.var 6))) (.int 2)) .nil))))) (.cons (.ret (.bl false))
    .nil) .nil
def b12 : IS := .asg (.name 17) (.mcall "pairs" (.ix (.var 4) (.var 6)) .nil)
def b13 : IS := .ifs (.not (.e (.call 13 (.cons (.var 17) (.cons (.ix (.ix (.var 5) (.var 6)) (.int 2)) .nil))))) (.cons (.ret (.bl false))
    .nil) .nil
def b14 : IS := .ifs (.not (.e (.call 31 (.cons (.call 24 (.cons (.op .add (.var 2) (.var 3)) (.cons (.var 17) .nil))) (.cons (.op .add (.var 2) (.var 3)) (.cons (.var 13) (.cons (.var 11) (.cons (.var 16) .nil)))))))) (.cons (.ret (.bl false))
    .nil) .nil
def turnB : ISs := .cons b1 (.cons b2 (.cons b3 (.cons b4 (.cons b5 (.cons b6 (.cons b7 (.cons b8 (.cons b9 (.cons b10 (.cons b11 (.cons b12 (.cons b13 (.cons b14 .nil)))))))))))))
abbrev scD (ns : List Int) : D := .lst (ns.map .int)
theorem sc_cb (ns : List Int) (k : Nat) : cbs 0 [scD ns, .int (k : Nat)] = true := by simp [cbs, cb, cbs_ints]
/-- the first half: the draws and the words -/
theorem turn_a (hA : All f) (hIL : I + L ≤ 8) {P0 : Int × Int × Int} (hS : St X I L m) (hp0 : Pol X 0 P0) (hm : ∀ i, i < 2 → (m i).length ≤ 5000) (k : Nat) {ns : List Int} {as bs : List Nat} (hab : as.length = bs.length) (hal : as.length ≤ 14) {x6 x7 x8 x9 x10 x12 x13 x14 x15 x16 x17 x18 : Option D} :
    ∃ (Y : Store) (n a kind : Nat) (g : Bool) (as' bs' : List Nat) (P : Int × Int × Int), a < 2 ∧ kind < 7 ∧ 13 ≤ n ∧ St Y I L m ∧ Pol Y 0 P0 ∧ Pol Y n P ∧ as'.length = bs'.length ∧ as'.length ≤ 14 ∧ (∀ l ∈ as', l < 2 * (1 + I + L + (m a).length)) ∧ (∀ l ∈ bs', l < 2 * (1 + I + L + (m a).length)) ∧
      ∀ ss : ISs, xSs (tb.glo f) 0 (.cons b1 (.cons b2 (.cons b3 (.cons b4 (.cons b5 ss))))) (El (scD ns) I L x6 (some (.int (k : Nat))) x8 x9 x10 (some (WW as bs)) x12 x13 x14 x15 x16 x17 x18) X =
        xSs (tb.glo f) 0 ss (El (scD ns) I L (some (.int (a : Nat))) (some (.int (k : Nat))) x8 x9 x10 (some (WW as' bs')) (some (.cell n)) (some (.int (kind : Nat))) (some (.bl g)) x15 x16 x17 x18) Y := by
  obtain ⟨c, r, e1⟩ := hA.pool ns (1 + k)
  have S1 := hS.app [pl c r 0]
  have p1 : Pol (X ++ [pl c r 0]) X.length (c, r, 0) := by
    unfold Pol
    rw [List.getElem?_append_right (Nat.le_refl _), Nat.sub_self]
    rfl
  have hlt := hp0.lt
  have q1 : Pol (X ++ [pl c r 0]) 0 P0 := by
    unfold Pol
    rw [List.getElem?_append_left hlt]
    exact hp0
  have hn := hS.len
  generalize hX1 : X ++ [pl c r 0] = X1 at *
  generalize hN : X.length = n at *
  have ne : n ≠ 0 := by omega
  obtain ⟨a, P2, ha, e2⟩ := draw_x hA p1 0 2 (by decide) (by decide)
  have S2 := S1.set (.inr hn) (pl P2.1 P2.2.1 P2.2.2)
  have p2 := p1.set (P' := P2)
  have q2 := pol_other (P' := P2) q1 ne
  obtain ⟨kind, P3, hk, e3⟩ := draw_x hA p2 0 7 (by decide) (by decide)
  have S3 := S2.set (.inr hn) (pl P3.1 P3.2.1 P3.2.2)
  have p3 := p2.set (P' := P3)
  have q3 := pol_other (P' := P3) q2 ne
  obtain ⟨d, P4, hd, e4⟩ := draw_x hA p3 0 4 (by decide) (by decide)
  have S4 := S3.set (.inr hn) (pl P4.1 P4.2.1 P4.2.2)
  have p4 := p3.set (P' := P4)
  have q4 := pol_other (P' := P4) q3 ne
  generalize hX2 : stp X1 n P2 = X2 at *
  generalize hX3 : stp X2 n P3 = X3 at *
  generalize hX4 : stp X3 n P4 = X4 at *
  have S4 : St X4 I L m := by rw [← hX4, ← hX3, ← hX2]; exact S4
  obtain ⟨as', bs', P5, w1, w2, w3, w4, e5⟩ := b5_run hA hIL S4 hn p4 ha (hm a ha) (decide (d = 0) && decide (0 < k)) (as := as) (bs := bs) hab hal (sc := scD ns) (x7 := some (.int (k : Nat))) (x8 := x8) (x9 := x9) (x10 := x10) (x13 := some (.int (kind : Nat))) (x15 := x15) (x16 := x16) (x17 := x17) (x18 := x18)
  refine ⟨stp X4 n P5, n, a, kind, (decide (d = 0) && decide (0 < k)), as', bs', P5, ha, hk, hn, S4.set (.inr hn) _, pol_other q4 ne, p4.set, w1, w2, w3, w4, fun ss => ?_⟩
  have ad : opR .add (.int 1) (.int (k : Nat)) X = some (.v (.int ((1 + k : Nat) : Int))) := add_nat 1 k
  have c1 := callR_of (b := 0) (s := X) (sc_cb ns (1 + k)) e1
  unfold b1 b2 b3 b4 El
  apply ss_nx (e1 := [some (scD ns), some (.cell 0), some (.int (I : Nat)), some (.int (L : Nat)), some BB, some UU, x6, some (.int (k : Nat)), x8, x9, x10, some (WW as bs), some (.cell n), x13, x14, x15, x16, x17, x18]) (s1 := X1)
  · rw [← hX1, ← hN]
    apply s_name'
    · apply e_mu
      (exists ad, c1)
    · exact rfl
  apply ss_nx
  · (exists e2)
  apply ss_nx
  · (exists e3)
  apply ss_nx (e1 := [some (scD ns), some (.cell 0), some (.int (I : Nat)), some (.int (L : Nat)), some BB, some UU, some (.int (a : Nat)), some (.int (k : Nat)), x8, x9, x10, some (WW as bs), some (.cell n), some (.int (kind : Nat)), some (.bl (decide (d = 0) && decide (0 < k))), x15, x16, x17, x18]) (s1 := X4)
  · by_cases hd0 : d = 0
    · subst hd0
      apply s_name' (r := .v (.bl (decide (0 < k))))
      · apply e_and1
        · (exists e4)
        · exact rfl
        · have : cmpR (tb.glo f).gd .gt (.int (k : Nat)) (.int 0) X4 = some (decide (0 < k)) := by
            show some (decide _) = _
            rw [show decide ((0 : Int) < (k : Nat)) = decide (0 < k) from by rw [decide_eq_decide]; omega]
          (exists this)
      · simp
    · apply s_name' (r := .v (.bl false))
      · apply e_and0
        · (exists e4)
        · show D.bl _ = _
          rw [show decide (((d : Nat) : Int) = 0) = false from by rw [decide_eq_false_iff_not]; omega]
      · simp [hd0]
  exact ss_nx e5 rfl
theorem rd_plain (kind : Nat) (ts : List Nat) (h : ts.length ≤ 100000) : En.plain 2 (RD kind ts).d = true := by
  unfold RD
  split
  · simp [En.plain, wd_plain, wd_len, h]
  · rfl
theorem ww_plain {as bs : List Nat} (h1 : as.length ≤ 100000) (h2 : bs.length ≤ 100000) : En.plain 2 (WW as bs) = true := by
  simp [WW, En.plain, En.plains, wd_plain, wd_len, h1, h2]
/-- the second half -/
theorem turn_b (hA : All f) (hIL : I + L ≤ 8) {P0 P : Int × Int × Int} {Y : Store} {a kind n : Nat} (ha : a < 2) (hk : kind < 7) (hn : 13 ≤ n) (hS : St Y I L m) (hp0 : Pol Y 0 P0) (hp : Pol Y n P) (hO : Ord I L N m) (hN : N ≤ 5000) (g : Bool) (k : Nat) {as bs : List Nat} (hab : as.length = bs.length) (hal : as.length ≤ 14)
    (hwa : ∀ l ∈ as, l < 2 * (1 + I + L + (m a).length)) (hwb : ∀ l ∈ bs, l < 2 * (1 + I + L + (m a).length)) {sc : D} {x8 x9 x10 x15 x16 x17 x18 : Option D} :
    ∃ (Z : Store) (m' : Nat → List (Nat × Nat)) (P' : Int × Int × Int) (x10' x15' x16' x17' : Option D), St Z I L m' ∧ Pol Z 0 P0 ∧ Ord I L (N + 126) m' ∧
      xSs (tb.glo f) 0 (.cons b6 (.cons b7 (.cons b8 (.cons b9 (.cons b10 (.cons b11 (.cons b12 (.cons b13 (.cons b14 .nil))))))))) (El sc I L (some (.int (a : Nat))) (some (.int (k : Nat))) x8 x9 x10 (some (WW as bs)) (some (.cell n)) (some (.int (kind : Nat))) (some (.bl g)) x15 x16 x17 x18) Y =
        .ok (.nx, El sc I L (some (.int (a : Nat))) (some (.int (k : Nat))) x8 x9 x10' (some (WW as bs)) (some (.cell n)) (some (.int (kind : Nat))) (some (.bl g)) x15' x16' x17' x18) Z := by
  have hV : 1 + I + L = 1 + (I + L) := Nat.add_assoc _ _ _
  have hOa := hO a ha
  have D := due_ok (bits := I + L) hk hOa.1 (as := as) (bs := bs) (by rw [← hV]; exact hwa) (by rw [← hV]; exact hwb) hab
  rw [← hV] at D
  obtain ⟨ts, ps', hr⟩ : ∃ ts ps', due (1 + I + L) (m a) kind as bs = (ts, ps') := ⟨_, _, rfl⟩
  rw [hr] at D
  have D : Due (I + L) (m a) ps' kind as bs ts := D
  have tl : ts.length ≤ 14 := by
    rw [D.len]
    split <;> omega
  have pl' : ps'.length ≤ N + 126 := by
    have := D.more
    omega
  -- due
  have S2 := to2 hS
  have c1 := hA.due 0 kind (hS.lb a ha) hk hab (by omega) (by omega)
  rw [hr] at c1
  have S3 := S2.putL ha ps'
  have p3 := pol_putL hp (.inr hn) ha (V := 1 + I + L) (ps := ps')
  have q3 := pol_putL hp0 (.inl rfl) ha (V := 1 + I + L) (ps := ps')
  generalize hY1 : putL Y (9 + 3 * a) (8 + 3 * a) (7 + 3 * a) (1 + I + L) ps' = Y1 at *
  obtain ⟨d, P4, hd, e4⟩ := draw_x hA p3 0 2 (by decide) (by decide)
  have S4 := S3.set (.inr hn) (pl P4.1 P4.2.1 P4.2.2)
  have q4 := pol_other (P' := P4) q3 (by omega : n ≠ 0)
  generalize hY2 : stp Y1 n P4 = Y2 at *
  have S4 : St2 Y2 I L m (mset m a ps') := by rw [← hY2]; exact S4
  -- the handed words
  obtain ⟨A, B, kA, kB, hA1, hB1, lA, lB, st8⟩ : ∃ (A B : En.D) (kA kB : Bool), frzSeq A = some (kA, wd as) ∧ frzSeq B = some (kB, wd bs) ∧ (∀ s : Store, bltR .list [A] s = some (.n (.lst (wd as)))) ∧ (∀ s : Store, bltR .list [B] s = some (.n (.lst (wd bs)))) ∧
      ∀ (x10 : Option En.D), xS (tb.glo f) 0 b8 (El sc I L (some (.int (a : Nat))) (some (.int (k : Nat))) x8 x9 x10 (some (WW as bs)) (some (.cell n)) (some (.int (kind : Nat))) (some (.bl g)) (some (.lst [.lst (wd as), .lst (wd bs)])) x16 x17 x18) Y1 =
        .ok (.nx, El sc I L (some (.int (a : Nat))) (some (.int (k : Nat))) x8 x9 x10 (some (WW as bs)) (some (.cell n)) (some (.int (kind : Nat))) (some (.bl g)) (some (.lst [A, B])) x16 x17 x18) Y2 := by
    by_cases hd1 : d = 1
    · subst hd1
      refine ⟨.tup (wd as), .tup (wd bs), true, true, rfl, rfl, fun _ => rfl, fun _ => rfl, fun x10 => ?_⟩
      have j0 : ixR (tb.glo f).gd (WW as bs) (.int 0) Y2 = some (.v (.lst (wd as))) := rfl
      have j1 : ixR (tb.glo f).gd (WW as bs) (.int 1) Y2 = some (.v (.lst (wd bs))) := rfl
      have t0 : ∀ ls : List Nat, bltR .tuple [.lst (wd ls)] Y2 = some (.v (.tup (wd ls))) := fun ls => rfl
      unfold b8 El
      (exists e4, dec1 rfl, j0, j1, t0 _)
    · refine ⟨.lst (wd as), .lst (wd bs), false, false, rfl, rfl, fun _ => rfl, fun _ => rfl, fun x10 => ?_⟩
      unfold b8 El
      (exists e4, dec0 (by omega))
  -- told
  have c9 := hA.told 0 kind (S4.pb a ha) hA1 hB1 hk (by omega) (by omega) (by omega)
  rw [hr] at c9
  have S5 := S4.putP ha ps'
  have q5 := pol_putP q4 (.inl rfl) ha (V := 1 + I + L) (ps := ps')
  generalize hY3 : putP Y2 (2 + 3 * a) (3 + 3 * a) (1 + I + L) ps' = Y3 at *
  have S6 := to1 S5
  have O6 : Ord I L (N + 126) (mset m a ps') := hO.step (by have := D.wf; exact this) pl'
  refine ⟨Y3, mset m a ps', P4, some (RD kind ts).d, some (.lst [A, B]), some (RD kind ts).d, some (.lst (enc ps')), S6, q5, O6, ?_⟩
  have ma : mset m a ps' a = ps' := by simp [mset]
  have j0 : ∀ s : Store, ixR (tb.glo f).gd (WW as bs) (.int 0) s = some (.v (.lst (wd as))) := fun _ => rfl
  have j1 : ∀ s : Store, ixR (tb.glo f).gd (WW as bs) (.int 1) s = some (.v (.lst (wd bs))) := fun _ => rfl
  have h0 : ∀ s : Store, ixR (tb.glo f).gd (.lst [A, B]) (.int 0) s = some (.v A) := fun _ => rfl
  have h1 : ∀ s : Store, ixR (tb.glo f).gd (.lst [A, B]) (.int 1) s = some (.v B) := fun _ => rfl
  have l0 : ∀ (s : Store) (ls : List Nat), bltR .list [.lst (wd ls)] s = some (.n (.lst (wd ls))) := fun _ _ => rfl
  unfold El
  apply ss_nx
  · unfold b6
    (exists ixU ha, j0 _, j1 _, callR_at rfl c1)
  apply ss_nx (e1 := El sc I L (some (.int (a : Nat))) (some (.int (k : Nat))) x8 x9 (some (RD kind ts).d) (some (WW as bs)) (some (.cell n)) (some (.int (kind : Nat))) (some (.bl g)) (some (.lst [.lst (wd as), .lst (wd bs)])) x16 x17 x18) (s1 := Y1)
  · unfold b7 El
    (exists j0 _, j1 _, l0 _ _)
  apply ss_nx (st8 _)
  unfold El
  apply ss_nx
  · unfold b9
    (exists ixB ha, h0 _, h1 _, callR_at rfl c9)
  -- the answers
  have sm1 := same_call (X := Y3) hA 0 (rd_plain kind ts (by omega))
  have sm2 := same_call (X := Y3) hA 0 (ww_plain (as := as) (bs := bs) (by omega) (by omega))
  have lc : ∀ env : En.Env, env.length = 19 → lcL (itemF (tb.glo f) 0 [("one", 18)] (.name 18) .yes (.blt .list (.cons (.var 18) .nil)) env) [A, B] Y3 = .ok [.lst (wd as), .lst (wd bs)] Y3 := fun env he => by
    have it : ∀ (d : En.D) (ls : List Nat), (∀ s : Store, bltR .list [d] s = some (.n (.lst (wd ls)))) → itemF (tb.glo f) 0 [("one", 18)] (.name 18) .yes (.blt .list (.cons (.var 18) .nil)) env d Y3 = .ok [.lst (wd ls)] Y3 := fun d ls h => by
      have ev1 : ((wipeE env [18]).set 18 (some d))[18]? = some (some d) := by
        rw [List.getElem?_set_self (by simp [wipeE, he])]
      apply b_lcB (r := .n (.lst (wd ls)))
      · apply g_name
        exact rfl
      · exact c_yes
      · apply e_blt
        · apply es_cons
          · exact e_var ev1
          · exact es_nil
        · exact h _
    exact lcL_cons (x := [_]) (it A as lA) (lcL_cons (x := [_]) (it B bs lB) rfl)
  apply ss_nx
  · unfold b10
    apply s_if0
    · apply t_or0
      · apply t_not1
        apply t_e
        · apply e_call
          · (exists rfl)
          · exact sm1
        · exact rfl
      · apply t_not1
        apply t_e
        · apply e_call
          · apply es_cons
            · apply e_lcB
              · apply i_frz
                · (exists rfl)
                · exact rfl
              · exact Nat.le_of_ble_eq_true rfl
              · exact lc _ rfl
            · (exists rfl)
          · exact sm2
        · exact rfl
    · exact ss_nil
  -- the other's pairs
  have hb : 1 - a < 2 := by omega
  have sb : ∀ s : Store, opR .sub (.int 1) (.int (a : Nat)) s = some (.v (.int ((1 - a : Nat) : Int))) := fun s => sub_nat (a := 1) (b := a) (by omega)
  have pr := fun i (hi : i < 2) => hA.pairs 0 (S6.pb i hi)
  have sc1 := fun i (hi : i < 2) => hA.samec 0 (S6.lb i hi).pp (by have := (O6 i hi).2; omega)
  have ec : ∀ (ps : List (Nat × Nat)) (n : Nat), cbs 0 [.lst (enc ps), .cell n] = false := fun ps n => by
    simp [cbs, cb]
  apply ss_nx
  · unfold b11
    (exists sb _, ixB hb, ixU hb, obj_at (S6.pb _ hb).oo, callR_at rfl (pr _ hb), (S6.lb _ hb).ix2, callR_at (ec _ _) (sc1 _ hb))
  have pra := pr a ha
  have sca := sc1 a ha
  rw [ma] at pra sca
  apply ss_nx
  · unfold b12
    (exists ixB ha, obj_at (S6.pb _ ha).oo, callR_at rfl pra)
  apply ss_nx
  · unfold b13
    (exists ixU ha, (S6.lb _ ha).ix2, callR_at (ec _ _) sca)
  -- the look
  have co := hA.columns (bits := I + L) (ps := ps') (by omega) D.wf (by omega)
  have hT : (kind ≤ 1 ∧ (RD kind ts).d = .lst (wd ts)) ∨ (1 < kind ∧ ∃ l : Nat, (RD kind ts).d = .int (l : Nat) ∧ ts = [l]) := by
    by_cases hk1 : kind ≤ 1
    · left
      refine ⟨hk1, ?_⟩
      simp [RD, hk1]
    · right
      refine ⟨by omega, ?_⟩
      have := D.len
      simp only [hk1, if_false] at this
      match ts, this with
      | [l], _ => exact ⟨l, by simp [RD, hk1], rfl⟩
  have up : ∀ l, l < 2 * (1 + I + L + (m a).length) → l < 2 * (1 + (I + L) + ps'.length) := fun l h => by
    have := D.le.len
    omega
  have ho := hA.holds hk hT (by omega) (fun l h => up l (hwa l h)) (fun l h => up l (hwb l h)) D.lt (by omega) hab.symm (by omega) D.eq
  have ad : opR .add (.int (I : Nat)) (.int (L : Nat)) Y3 = some (.v (.int ((I + L : Nat) : Int))) := add_nat I L
  have cc : cbs 0 [.int ((I + L : Nat) : Int), .lst (enc ps')] = true := by simp [cbs, cb, enc_cb]
  have ch : cbs 0 [.lst (wd (BN.cols (I + L) ps')), .int ((I + L : Nat) : Int), .int (kind : Nat), WW as bs, (RD kind ts).d] = true := by
    have := plain_cb 2 _ (rd_plain kind ts (by omega))
    simp [cbs, cb, wd_cb, WW, this]
  apply ss_nx
  · unfold b14
    (exists ad, callR_of cc co, callR_of ch ho)
  · exact ss_nil
end K13

set_option Elab.async false
set_option linter.all false
set_option maxRecDepth 100000
set_option maxHeartbeats 1000000
namespace K13
open PySem PySem.Spec PyProof.Rows L2 En
variable {s X : Store} {q p t I L V n N : Nat} {ps ps0 : List (Nat × Nat)} {f : Den} {m mp ml : Nat → List (Nat × Nat)}
theorem turn_loop (hA : All f) (hIL : I + L ≤ 8) {ns : List Int} : ∀ (c k N : Nat) (X : Store) (m : Nat → List (Nat × Nat)) (P : Int × Int × Int) (as bs : List Nat) (x6 x7 x8 x9 x10 x12 x13 x14 x15 x16 x17 x18 : Option D), N + 126 * c ≤ 4000 → as.length = bs.length → as.length ≤ 14 → St X I L m → Pol X 0 P → Ord I L N m →
    ∃ (X' : Store) (y6 y7 y8 y9 y10 y11 y12 y13 y14 y15 y16 y17 y18 : Option D),
      forL (bodyF (tb.glo f) 0 (.name 7) turnB) (rngL (k : Nat) c) (El (scD ns) I L x6 x7 x8 x9 x10 (some (WW as bs)) x12 x13 x14 x15 x16 x17 x18) X =
        .ok (.nx, El (scD ns) I L y6 y7 y8 y9 y10 y11 y12 y13 y14 y15 y16 y17 y18) X'
  | 0, k, N, X, m, P, as, bs, x6, x7, x8, x9, x10, x12, x13, x14, x15, x16, x17, x18, _, _, _, _, _, _ => ⟨X, _, _, _, _, _, _, _, _, _, _, _, _, _, rfl⟩
  | c + 1, k, N, X, m, P, as, bs, x6, x7, x8, x9, x10, x12, x13, x14, x15, x16, x17, x18, hN, hab, hal, hS, hp, hO => by
    obtain ⟨Y, n, a, kind, g, as', bs', P1, ha, hk, hn, SY, p0, pn, w1, w2, w3, w4, e1⟩ := turn_a hA hIL hS hp (fun i hi => by have := (hO i hi).2; omega) k (ns := ns) hab hal (x6 := x6) (x7 := x7) (x8 := x8) (x9 := x9) (x10 := x10) (x12 := x12) (x13 := x13) (x14 := x14) (x15 := x15) (x16 := x16) (x17 := x17) (x18 := x18)
    obtain ⟨Z, m', P2, z10, z15, z16, z17, SZ, pz, OZ, e2⟩ := turn_b hA hIL ha hk hn SY p0 pn hO (by omega) g k w1 w2 w3 w4 (sc := scD ns) (x8 := x8) (x9 := x9) (x10 := x10) (x15 := x15) (x16 := x16) (x17 := x17) (x18 := x18)
    obtain ⟨X', y6, y7, y8, y9, y10, y11, y12, y13, y14, y15, y16, y17, y18, e3⟩ := turn_loop hA hIL (ns := ns) c (k + 1) (N + 126) Z m' P as' bs' (some (.int (a : Nat))) (some (.int (k : Nat))) x8 x9 z10 (some (.cell n)) (some (.int (kind : Nat))) (some (.bl g)) z15 z16 z17 x18 (by omega) w1 w2 SZ pz OZ
    refine ⟨X', y6, y7, y8, y9, y10, y11, y12, y13, y14, y15, y16, y17, y18, forL_cons ?_ e3⟩
    apply b_forB
    · apply g_name
      exact rfl
    · exact (e1 _).trans e2
theorem start_ok (I L : Nat) (P : Int × Int × Int) : St [pl P.1 P.2.1 P.2.2, bObj I L 2 3, .lst [], .dt [], bObj I L 5 6, .lst [], .dt [], .dt [], .lst [], .lst [.int ((1 + I + L : Nat) : Int), .cell 7, .cell 8], .dt [], .lst [], .lst [.int ((1 + I + L : Nat) : Int), .cell 10, .cell 11]] I L fun _ => [] := by
  refine ⟨Nat.le_of_ble_eq_true rfl, fun i hi => ?_, fun i hi => ?_⟩
  · have c : i = 0 ∨ i = 1 := by omega
    rcases c with rfl | rfl
    · exact ⟨rfl, rfl, rfl⟩
    · exact ⟨rfl, rfl, rfl⟩
  · have c : i = 0 ∨ i = 1 := by omega
    rcases c with rfl | rfl
    · exact ⟨rfl, rfl, rfl, by decide⟩
    · exact ⟨rfl, rfl, rfl, by decide⟩
theorem law_run (hA : All f) (ns : List Int) : ∃ s, runF (tb.glo f) i_law.d [.lst (ns.map .int)] [] = .ok (.v (.bl true)) s := by
  obtain ⟨c, r, e0⟩ := hA.pool ns 0
  have p0 : Pol [pl c r 0] 0 (c, r, 0) := rfl
  obtain ⟨I, P1, hI, e1⟩ := draw_x hA p0 0 5 (by decide) (by decide)
  obtain ⟨L, P2, hL, e2⟩ := draw_x hA (p0.set (P' := P1)) 0 5 (by decide) (by decide)
  have hX1 : stp [pl c r 0] 0 P1 = [pl P1.1 P1.2.1 P1.2.2] := rfl
  rw [hX1] at e1 e2
  have hX2 : stp [pl P1.1 P1.2.1 P1.2.2] 0 P2 = [pl P2.1 P2.2.1 P2.2.2] := rfl
  rw [hX2] at e2
  have i1 := hA.ini [pl P2.1 P2.2.1 P2.2.2] I L
  have i2 := hA.ini ([pl P2.1 P2.2.1 P2.2.2] ++ [bObj I L 2 3, .lst [], .dt []]) I L
  have u1 := hA.build ([pl P2.1 P2.2.1 P2.2.2] ++ [bObj I L 2 3, .lst [], .dt []] ++ [bObj I L 5 6, .lst [], .dt []]) (1 + I + L) 0
  have u2 := hA.build ([pl P2.1 P2.2.1 P2.2.2] ++ [bObj I L 2 3, .lst [], .dt []] ++ [bObj I L 5 6, .lst [], .dt []] ++ [.dt [], .lst [], .lst [.int ((1 + I + L : Nat) : Int), .cell 7, .cell 8]]) (1 + I + L) 0
  have u0 := hA.build [] (1 + I + L) 0
  have cb : ∀ (X : Store) (o : Out R), f.fn 14 0 [.int ((1 + I + L : Nat) : Int)] X = o → callR (f.fn 14) 0 [.int ((1 + I + L : Nat) : Int)] X = o := fun X o h => by
    unfold callR
    have hc : cbs 0 [D.int ((1 + I + L : Nat) : Int)] = true := rfl
    rw [if_pos hc, u0]
    exact h
  obtain ⟨X3, m3, P3, y6, y7, y8, y9, y10, S3, p3, O3, e3⟩ := out_loop hA (by omega : I + L ≤ 8) (start_ok I L P2) (P := P2) rfl (fun i _ => ⟨by intro j p h; simp at h, by simp⟩) (sc := scD ns) (x6 := none) (x7 := none) (x8 := none) (x9 := none) (x10 := none) (x11 := none) (x12 := none) (x13 := none) (x14 := none) (x15 := none) (x16 := none) (x17 := none) (x18 := none)
  obtain ⟨d, P4, hd, e4⟩ := draw_x hA p3 0 4 (by decide) (by decide)
  obtain ⟨X5, z6, z7, z8, z9, z10, z11, z12, z13, z14, z15, z16, z17, z18, e5⟩ := turn_loop hA (by omega : I + L ≤ 8) (ns := ns) (1 + d) 0 6 (stp X3 0 P4) m3 P4 [] [] y6 y7 y8 y9 y10 none none none none none none none (by omega) rfl (by decide) (S3.set (.inl rfl) _) p3.set O3
  refine ⟨_, run_ret (e' := El (scD ns) I L z6 z7 z8 z9 z10 z11 z12 z13 z14 z15 z16 z17 z18) (s1 := X5) (r := .v (.bl true)) rfl ?_ rfl⟩
  have c0 : callR (f.fn 9) 0 [scD ns, .int 0] [] = .ok (.n (pl c r 0)) [] := callR_of (sc_cb ns 0) e0
  have ad1 : ∀ X : Store, opR .add (.int 1) (.int (I : Nat)) X = some (.v (.int ((1 + I : Nat) : Int))) := fun X => add_nat 1 I
  have ad2 : ∀ X : Store, opR .add (.int ((1 + I : Nat) : Int)) (.int (L : Nat)) X = some (.v (.int ((1 + I + L : Nat) : Int))) := fun X => add_nat (1 + I) L
  have ad3 : ∀ X : Store, opR .add (.int 1) (.int (d : Nat)) X = some (.v (.int ((1 + d : Nat) : Int))) := fun X => add_nat 1 d
  have hd18 : 1 + d < 1000000000000000000 := by omega
  unfold i_law
  show xSs _ 0 _ [some (scD ns), none, none, none, none, none, none, none, none, none, none, none, none, none, none, none, none, none, none] [] = _
  apply ss_nx
  · apply s_name'
    · apply e_mu
      (exists c0)
    · exact rfl
  apply ss_nx
  · apply s_name'
    · apply e_call
      · (exists rfl)
      · exact e1
    · exact rfl
  apply ss_nx
  · apply s_name'
    · apply e_call
      · (exists rfl)
      · exact e2
    · exact rfl
  apply ss_nx
  · apply s_name'
    · apply e_lst
      · apply es_cons
        · apply e_makeM
          · (exists rfl)
          · exact i1
        · apply es_cons
          · apply e_makeM
            · (exists rfl)
            · exact i2
          · exact es_nil
      · exact Nat.le_of_ble_eq_true rfl
    · exact rfl
  apply ss_nx
  · apply s_name'
    · apply e_lst
      · apply es_cons
        · apply e_mu
          apply e_call
          · (exists ad1 _, ad2 _)
          · exact cb _ _ u1
        · apply es_cons
          · apply e_mu
            apply e_call
            · (exists ad1 _, ad2 _)
            · exact cb _ _ u2
          · exact es_nil
      · exact Nat.le_of_ble_eq_true rfl
    · exact rfl
  apply ss_nx
  · apply s_forB
    · apply i_rng1 (n := 2)
      · (exists rfl)
      · exact rfl
      · decide
    · exact e3
  apply ss_nx
  · (exists rfl)
  apply ss_nx
  · apply s_forB
    · apply i_rng1
      · apply e_op
        · (exists rfl)
        · apply e_call
          · (exists rfl)
          · exact e4
        · exact ad3 _
      · exact rfl
      · exact hd18
    · exact e5
  apply ss_ret
  apply s_ret
  exact e_bl
theorem draw_ok (k : Nat) : DrawAt ((tb.den (k + 1)).fn 10) := fun b n c r t m s h h1 h2 => by
  rw [den_succ (i := i_law_draw) rfl]
  exact draw_at (tb.glo (tb.den k)) b n c r t m s h h1 h2
theorem whole_ok (k : Nat) : WholeOk ((tb.den (k + 1)).fn 12) := fun i => by
  rw [den_succ (i := i_law_whole) rfl]
  exact whole_int (tb.glo (tb.den k)) i []
theorem same0_ok (k : Nat) : SameOk 0 ((tb.den (k + 2)).fn 13) := fun d h => by
  rw [den_succ (i := i_law_same) rfl]
  exact same_zero (tb.glo (tb.den (k + 1))) (jw := 12) (js := 13) (whole_ok k) d h
theorem same1_ok (k : Nat) : SameOk 1 ((tb.den (k + 3)).fn 13) := fun d h => by
  rw [den_succ (i := i_law_same) rfl]
  exact same_succ (tb.glo (tb.den (k + 2))) (jw := 12) (js := 13) (whole_ok (k + 1)) (same0_ok k) d h
theorem same2_ok (k : Nat) : SameOk 2 ((tb.den (k + 4)).fn 13) := fun d h => by
  rw [den_succ (i := i_law_same) rfl]
  exact same_succ (tb.glo (tb.den (k + 3))) (jw := 12) (js := 13) (whole_ok (k + 2)) (same1_ok k) d h
theorem lboth_ok (k : Nat) : Op3L (tb.den (k + 1)) 15 BN.both 90000 := fun b a c h hl => by
  rw [den_succ (i := i_law_both) rfl]
  exact lboth h (by omega) b a c
theorem peither_lv (k : Nat) : Op3 (tb.den (k + 2)) 36 BN.either 90000 := fun b a c h hl => by
  rw [den_succ (i := i_Builder_either) rfl]
  exact peither_ok (turned_ok k) (pboth_ok k) h hl b a c
theorem leither_lv (k : Nat) : Op3L (tb.den (k + 2)) 16 BN.either 90000 := fun b a c h hl => by
  rw [den_succ (i := i_law_either) rfl]
  exact leither_ok (lboth_ok k) h hl b a c
theorem op3_mono {f : Den} {j : Nat} {F : Nat → List (Nat × Nat) → Nat → Nat → Nat × List (Nat × Nat)} (h : Op3 f j F 90000) : Op3 f j F := fun b a c hb hl => h b a c hb (by omega)
theorem op3L_mono {f : Den} {j : Nat} {F : Nat → List (Nat × Nat) → Nat → Nat → Nat × List (Nat × Nat)} (h : Op3L f j F 90000) : Op3L f j F := fun b a c hb hl => h b a c hb (by omega)
theorem pr_lv (k : Nat) : Pr (tb.den (k + 3)) where
  tn := turned_ok (k + 2)
  both := op3_mono (pboth_ok (k + 2))
  either := op3_mono (peither_lv (k + 1))
  differ := fun b a c h hl => by
    rw [den_succ (i := i_Builder_differ) rfl]
    exact pdiffer_ok (turned_ok (k + 1)) (pboth_ok (k + 1)) (peither_lv k) h hl b a c
  choose := fun b z a c h hl => by
    rw [den_succ (i := i_Builder_choose) rfl]
    exact pchoose_ok (turned_ok (k + 1)) (pboth_ok (k + 1)) (peither_lv k) h hl b z a c
theorem lw_lv (k : Nat) : Lw (tb.den (k + 2)) where
  both := op3L_mono (lboth_ok (k + 1))
  either := op3L_mono (leither_lv k)
  differ := fun b a c h hl => by
    rw [den_succ (i := i_law_differ) rfl]
    exact ldiffer_ok (lboth_ok k) h hl b a c
  choose := fun b z a c h hl => by
    rw [den_succ (i := i_law_choose) rfl]
    exact lchoose_ok (lboth_ok k) h hl b z a c
theorem s_lv (k : Nat) : OkS (tb.den (k + 4)) := fun b c as bs h hA hB hl ha => by
  rw [den_succ (i := i_summed) rfl]
  exact psum (pr_lv k) h b c hA hB hl ha
theorem prw_lv (k : Nat) : PrW (tb.den (k + 5)) where
  add := fun b as bs h hA hB hl ha hb => by
    rw [den_succ (i := i_add_words) rfl]
    exact padd (s_lv k) h b hA hB hl ha
  sub := fun b as bs h hA hB hl ha hb => by
    rw [den_succ (i := i_subtract_words) rfl]
    exact psub (turned_ok (k + 3)) (s_lv k) h b hA hB hl ha hb
  eq := fun b as bs h hA hB hl => by
    rw [den_succ (i := i_equal_words) rfl]
    exact peq (pr_lv (k + 1)) h b hA hB hl
  lt := fun b as bs h hA hB hl => by
    rw [den_succ (i := i_less_words) rfl]
    exact plt (pr_lv (k + 1)) h b hA hB hl
  any := fun b as h hA hl => by
    rw [den_succ (i := i_any_bit) rfl]
    exact pany (pr_lv (k + 1)) h b hA hl
  all := fun b as h hA hl => by
    rw [den_succ (i := i_all_bits) rfl]
    exact pall (pr_lv (k + 1)) h b hA hl
  odd := fun b as h hA hl => by
    rw [den_succ (i := i_odd_bits) rfl]
    exact podd (pr_lv (k + 1)) h b hA hl
theorem lww_lv (k : Nat) : LwW (tb.den (k + 3)) where
  sum := fun b c as bs h he hl ha => by
    rw [den_succ (i := i_law_sum) rfl]
    exact lsum (lw_lv k) h b c he hl ha
  alike := fun b as bs h he hl => by
    rw [den_succ (i := i_law_alike) rfl]
    exact leq (lw_lv k) h b he hl
  lower := fun b as bs h he hl => by
    rw [den_succ (i := i_law_lower) rfl]
    exact llt (lw_lv k) h b he hl
  any := fun b as h hl => by
    rw [den_succ (i := i_law_fold) rfl]
    exact lfold (j := 16) (c0 := 0) (F := BN.either) ⟨(lw_lv k).either, eitherL, .inl ⟨rfl, rfl, rfl⟩⟩ h b hl
  all := fun b as h hl => by
    rw [den_succ (i := i_law_fold) rfl]
    exact lfold (j := 15) (c0 := 1) (F := BN.both) ⟨(lw_lv k).both, bothL, .inr (.inl ⟨rfl, rfl, rfl⟩)⟩ h b hl
  odd := fun b as h hl => by
    rw [den_succ (i := i_law_fold) rfl]
    exact lfold (j := 17) (c0 := 0) (F := BN.differ) ⟨(lw_lv k).differ, BN.differ_len, .inr (.inr ⟨rfl, rfl, rfl⟩)⟩ h b hl
theorem lk2_lv (k : Nat) : Lk2 (tb.den (k + 1)) where
  worth := fun hv hb hl => by
    rw [den_succ (i := i_law_worth) rfl]
    exact worth_run 0 hv hb hl
  plain := fun hk hy hs => by
    rw [den_succ (i := i_law_plain) rfl]
    exact plain_run 0 _ _ _ _ hk hy hs
theorem some_lv (k : Nat) : SomeOk (tb.den (k + 2)) := fun hn r b P top h0 h1 => by
  obtain ⟨l, P', h2, e⟩ := some_run (draw_ok k) hn r b P top h0 h1
  refine ⟨l, P', h2, callR_at rfl ?_⟩
  rw [den_succ (i := i_law_some) rfl]
  exact e
theorem word_lv (k : Nat) : WordOk (tb.den (k + 3)) := fun hn r b P top size h0 h1 h2 => by
  obtain ⟨ls, P', q1, q2, e⟩ := word_run (some_lv k) hn r b P top size h0 h1 h2
  refine ⟨ls, P', q1, q2, callR_at rfl ?_⟩
  rw [den_succ (i := i_law_word) rfl]
  exact e
theorem pick_lv (k : Nat) : PickOk (tb.den (k + 2)) := fun hn r b P row h0 h1 => by
  obtain ⟨l, P', q1, e⟩ := pick_run' (draw_ok k) hn r P row h0 h1 b
  refine ⟨l, P', q1, callR_at rfl ?_⟩
  rw [den_succ (i := i_law_pick) rfl]
  exact e
theorem all_lv (k : Nat) : All (tb.den (k + 8)) where
  pool := fun ns p => by
    rw [den_succ (i := i_law_pool) rfl]
    obtain ⟨c, r, h⟩ := pool_run (tb.glo (tb.den (k + 7))) (ns := ns) (p := p)
    exact ⟨c, r, h⟩
  draw := draw_ok (k + 7)
  pick := pick_lv (k + 6)
  some := some_lv (k + 6)
  words := fun hn P b top h0 h1 h2 => by
    rw [den_succ (i := i_law_words) rfl]
    exact words_run (draw_ok (k + 6)) (pick_lv (k + 5)) (some_lv (k + 5)) (word_lv (k + 4)) hn P b top h0 h1 h2
  same := same2_ok (k + 4)
  samec := fun b h hl => by
    rw [den_succ (i := i_law_same) rfl]
    exact samec_run (same1_ok (k + 4)) h hl b
  lboth := op3L_mono (lboth_ok (k + 7))
  pboth := op3_mono (pboth_ok (k + 7))
  due := fun b kind as bs h hk he hl ha => by
    rw [den_succ (i := i_law_due) rfl]
    exact ldue (lww_lv (k + 4)) h b kind hk he hl ha
  told := fun b kind as bs h hA hB hk hl ha hb => by
    rw [den_succ (i := i_law_told) rfl]
    exact ptold (prw_lv (k + 2)) h b kind hA hB hk hl ha hb
  pairs := fun b h => by
    rw [den_succ (i := i_Builder_pairs) rfl]
    exact pairs_run h b
  columns := fun hb hw hl => by
    rw [den_succ (i := i_law_columns) rfl]
    exact columns_run hb hw hl 0
  holds := fun hk hT hbits ha hb ht la lb lt eq => by
    rw [den_succ (i := i_law_holds) rfl]
    exact holds_run (lk2_lv (k + 6)) 0 hk hT hbits ha hb ht la lb lt eq
  build := fun s V b => by
    rw [den_succ (i := i_law_build) rfl]
    exact build_run s V b
  ini := fun s I L => by
    rw [show k + 8 = (k + 6) + 2 from rfl, ini_succ (ci := { nm := "Builder", ini := 33, ms := [fp "pairs" 34, fp "both" 35, fp "either" 36, fp "differ" 37, fp "choose" 38] }) (i := i_Builder___init__) rfl rfl]
    exact init_run s I L
def lv : Nat := 60
theorem math (ns : List Int) : ∃ s, (tb.den 60).fn 32 0 [.lst (ns.map .int)] [] = .ok (.v (.bl true)) s := by
  rw [show (60 : Nat) = 59 + 1 from rfl, den_succ (i := i_law) rfl, run_F rfl]
  exact law_run (all_lv 51) ns
end K13

set_option Elab.async false
open PySem PySem.W PyProof.Rows
set_option maxRecDepth 100000 in
set_option maxHeartbeats 0 in
theorem PySem.Challenge.cw_chipmill_k13_words_of_bits_holds : PySem.Challenge.rw_chipmill_k13_words_of_bits.Holds := by
  w_on; o_law; k_head; (case hw => w_witness2)
  k_fill
  refine L2.walk_of (l := PySem.Challenge.rw_chipmill_k13_words_of_bits) (n := 63) (k := K13.lv) (x := "script") (CX := fun _ => L2.CX0) (sp := fun w => En.spLaw _ 63) rfl (by decide) rfl ⟨rfl, by decide, by decide⟩ (fun w h Y => PySem.W.kIn_of Y) ?F (fun _ _ a ns hl _ hS => ⟨a, ns, rfl, hS, hl, fun _ => rfl⟩) (fun _ _ _ _ _ h => h)
  case F =>
    intro w mg fa h KX G hmg
    have aC0 := En.ns_look (x := "Builder") KX (by k_is)
    have C0 := En.cls_of KX aC0 (by k_is) (by k_is) (by k_is) (by k_is)
    have a0 := En.ns_look (x := "turned") KX (by k_is)
    have E0 := En.ent_fn (i := K13.i_turned) (x := "turned") (st := K13.topS 1) (ps := ["literal"]) rfl rfl rfl rfl KX a0 (by k_is) (by k_is) (by k_is) (fun _ _ _ _ _ _ us hl => match us, hl with | [_], _ => rfl)
    have a1 := En.ns_look (x := "summed") KX (by k_is)
    have E1 := En.ent_fn (i := K13.i_summed) (x := "summed") (st := K13.topS 4) (ps := ["builder", "a", "b", "carry"]) rfl rfl rfl rfl KX a1 (by k_is) (by k_is) (by k_is) (fun _ _ _ _ _ _ us hl => match us, hl with | [_, _, _, _], _ => rfl)
    have a2 := En.ns_look (x := "add_words") KX (by k_is)
    have E2 := En.ent_fn (i := K13.i_add_words) (x := "add_words") (st := K13.topS 5) (ps := ["builder", "a", "b"]) rfl rfl rfl rfl KX a2 (by k_is) (by k_is) (by k_is) (fun _ _ _ _ _ _ us hl => match us, hl with | [_, _, _], _ => rfl)
    have a3 := En.ns_look (x := "subtract_words") KX (by k_is)
    have E3 := En.ent_fn (i := K13.i_subtract_words) (x := "subtract_words") (st := K13.topS 6) (ps := ["builder", "a", "b"]) rfl rfl rfl rfl KX a3 (by k_is) (by k_is) (by k_is) (fun _ _ _ _ _ _ us hl => match us, hl with | [_, _, _], _ => rfl)
    have a4 := En.ns_look (x := "equal_words") KX (by k_is)
    have E4 := En.ent_fn (i := K13.i_equal_words) (x := "equal_words") (st := K13.topS 7) (ps := ["builder", "a", "b"]) rfl rfl rfl rfl KX a4 (by k_is) (by k_is) (by k_is) (fun _ _ _ _ _ _ us hl => match us, hl with | [_, _, _], _ => rfl)
    have a5 := En.ns_look (x := "less_words") KX (by k_is)
    have E5 := En.ent_fn (i := K13.i_less_words) (x := "less_words") (st := K13.topS 8) (ps := ["builder", "a", "b"]) rfl rfl rfl rfl KX a5 (by k_is) (by k_is) (by k_is) (fun _ _ _ _ _ _ us hl => match us, hl with | [_, _, _], _ => rfl)
    have a6 := En.ns_look (x := "any_bit") KX (by k_is)
    have E6 := En.ent_fn (i := K13.i_any_bit) (x := "any_bit") (st := K13.topS 9) (ps := ["builder", "a"]) rfl rfl rfl rfl KX a6 (by k_is) (by k_is) (by k_is) (fun _ _ _ _ _ _ us hl => match us, hl with | [_, _], _ => rfl)
    have a7 := En.ns_look (x := "all_bits") KX (by k_is)
    have E7 := En.ent_fn (i := K13.i_all_bits) (x := "all_bits") (st := K13.topS 10) (ps := ["builder", "a"]) rfl rfl rfl rfl KX a7 (by k_is) (by k_is) (by k_is) (fun _ _ _ _ _ _ us hl => match us, hl with | [_, _], _ => rfl)
    have a8 := En.ns_look (x := "odd_bits") KX (by k_is)
    have E8 := En.ent_fn (i := K13.i_odd_bits) (x := "odd_bits") (st := K13.topS 11) (ps := ["builder", "a"]) rfl rfl rfl rfl KX a8 (by k_is) (by k_is) (by k_is) (fun _ _ _ _ _ _ us hl => match us, hl with | [_, _], _ => rfl)
    have a9 := En.ns_look (x := "_law_pool") KX (by k_is)
    have E9 := En.ent_fn (i := K13.i_law_pool) (x := "_law_pool") (st := K13.topS 13) (ps := ["script", "place"]) rfl rfl rfl rfl KX a9 (by k_is) (by k_is) (by k_is) (fun _ _ _ _ _ _ us hl => match us, hl with | [_, _], _ => rfl)
    have a10 := En.ns_look (x := "_law_draw") KX (by k_is)
    have E10 := En.ent_fn (i := K13.i_law_draw) (x := "_law_draw") (st := K13.topS 14) (ps := ["pool", "many"]) rfl rfl rfl rfl KX a10 (by k_is) (by k_is) (by k_is) (fun _ _ _ _ _ _ us hl => match us, hl with | [_, _], _ => rfl)
    have a11 := En.ns_look (x := "_law_pick") KX (by k_is)
    have E11 := En.ent_fn (i := K13.i_law_pick) (x := "_law_pick") (st := K13.topS 15) (ps := ["pool", "row"]) rfl rfl rfl rfl KX a11 (by k_is) (by k_is) (by k_is) (fun _ _ _ _ _ _ us hl => match us, hl with | [_, _], _ => rfl)
    have a12 := En.ns_look (x := "_law_whole") KX (by k_is)
    have E12 := En.ent_fn (i := K13.i_law_whole) (x := "_law_whole") (st := K13.topS 16) (ps := ["value"]) rfl rfl rfl rfl KX a12 (by k_is) (by k_is) (by k_is) (fun _ _ _ _ _ _ us hl => match us, hl with | [_], _ => rfl)
    have a13 := En.ns_look (x := "_law_same") KX (by k_is)
    have E13 := En.ent_fn (i := K13.i_law_same) (x := "_law_same") (st := K13.topS 17) (ps := ["value", "due"]) rfl rfl rfl rfl KX a13 (by k_is) (by k_is) (by k_is) (fun _ _ _ _ _ _ us hl => match us, hl with | [_, _], _ => rfl)
    have a14 := En.ns_look (x := "_law_build") KX (by k_is)
    have E14 := En.ent_fn (i := K13.i_law_build) (x := "_law_build") (st := K13.topS 18) (ps := ["variables"]) rfl rfl rfl rfl KX a14 (by k_is) (by k_is) (by k_is) (fun _ _ _ _ _ _ us hl => match us, hl with | [_], _ => rfl)
    have a15 := En.ns_look (x := "_law_both") KX (by k_is)
    have E15 := En.ent_fn (i := K13.i_law_both) (x := "_law_both") (st := K13.topS 19) (ps := ["build", "a", "b"]) rfl rfl rfl rfl KX a15 (by k_is) (by k_is) (by k_is) (fun _ _ _ _ _ _ us hl => match us, hl with | [_, _, _], _ => rfl)
    have a16 := En.ns_look (x := "_law_either") KX (by k_is)
    have E16 := En.ent_fn (i := K13.i_law_either) (x := "_law_either") (st := K13.topS 20) (ps := ["build", "a", "b"]) rfl rfl rfl rfl KX a16 (by k_is) (by k_is) (by k_is) (fun _ _ _ _ _ _ us hl => match us, hl with | [_, _, _], _ => rfl)
    have a17 := En.ns_look (x := "_law_differ") KX (by k_is)
    have E17 := En.ent_fn (i := K13.i_law_differ) (x := "_law_differ") (st := K13.topS 21) (ps := ["build", "a", "b"]) rfl rfl rfl rfl KX a17 (by k_is) (by k_is) (by k_is) (fun _ _ _ _ _ _ us hl => match us, hl with | [_, _, _], _ => rfl)
    have a18 := En.ns_look (x := "_law_choose") KX (by k_is)
    have E18 := En.ent_fn (i := K13.i_law_choose) (x := "_law_choose") (st := K13.topS 22) (ps := ["build", "c", "a", "b"]) rfl rfl rfl rfl KX a18 (by k_is) (by k_is) (by k_is) (fun _ _ _ _ _ _ us hl => match us, hl with | [_, _, _, _], _ => rfl)
    have a19 := En.ns_look (x := "_law_sum") KX (by k_is)
    have E19 := En.ent_fn (i := K13.i_law_sum) (x := "_law_sum") (st := K13.topS 23) (ps := ["build", "a", "b", "carry"]) rfl rfl rfl rfl KX a19 (by k_is) (by k_is) (by k_is) (fun _ _ _ _ _ _ us hl => match us, hl with | [_, _, _, _], _ => rfl)
    have a20 := En.ns_look (x := "_law_alike") KX (by k_is)
    have E20 := En.ent_fn (i := K13.i_law_alike) (x := "_law_alike") (st := K13.topS 24) (ps := ["build", "a", "b"]) rfl rfl rfl rfl KX a20 (by k_is) (by k_is) (by k_is) (fun _ _ _ _ _ _ us hl => match us, hl with | [_, _, _], _ => rfl)
    have a21 := En.ns_look (x := "_law_lower") KX (by k_is)
    have E21 := En.ent_fn (i := K13.i_law_lower) (x := "_law_lower") (st := K13.topS 25) (ps := ["build", "a", "b"]) rfl rfl rfl rfl KX a21 (by k_is) (by k_is) (by k_is) (fun _ _ _ _ _ _ us hl => match us, hl with | [_, _, _], _ => rfl)
    have a22 := En.ns_look (x := "_law_fold") KX (by k_is)
    have E22 := En.ent_fn (i := K13.i_law_fold) (x := "_law_fold") (st := K13.topS 26) (ps := ["build", "kind", "a"]) rfl rfl rfl rfl KX a22 (by k_is) (by k_is) (by k_is) (fun _ _ _ _ _ _ us hl => match us, hl with | [_, _, _], _ => rfl)
    have a23 := En.ns_look (x := "_law_some") KX (by k_is)
    have E23 := En.ent_fn (i := K13.i_law_some) (x := "_law_some") (st := K13.topS 27) (ps := ["pool", "top"]) rfl rfl rfl rfl KX a23 (by k_is) (by k_is) (by k_is) (fun _ _ _ _ _ _ us hl => match us, hl with | [_, _], _ => rfl)
    have a24 := En.ns_look (x := "_law_columns") KX (by k_is)
    have E24 := En.ent_fn (i := K13.i_law_columns) (x := "_law_columns") (st := K13.topS 28) (ps := ["bits", "pairs"]) rfl rfl rfl rfl KX a24 (by k_is) (by k_is) (by k_is) (fun _ _ _ _ _ _ us hl => match us, hl with | [_, _], _ => rfl)
    have a25 := En.ns_look (x := "_law_word") KX (by k_is)
    have E25 := En.ent_fn (i := K13.i_law_word) (x := "_law_word") (st := K13.topS 29) (ps := ["pool", "top", "size"]) rfl rfl rfl rfl KX a25 (by k_is) (by k_is) (by k_is) (fun _ _ _ _ _ _ us hl => match us, hl with | [_, _, _], _ => rfl)
    have a26 := En.ns_look (x := "_law_words") KX (by k_is)
    have E26 := En.ent_fn (i := K13.i_law_words) (x := "_law_words") (st := K13.topS 30) (ps := ["pool", "top"]) rfl rfl rfl rfl KX a26 (by k_is) (by k_is) (by k_is) (fun _ _ _ _ _ _ us hl => match us, hl with | [_, _], _ => rfl)
    have a27 := En.ns_look (x := "_law_due") KX (by k_is)
    have E27 := En.ent_fn (i := K13.i_law_due) (x := "_law_due") (st := K13.topS 31) (ps := ["build", "kind", "a", "b"]) rfl rfl rfl rfl KX a27 (by k_is) (by k_is) (by k_is) (fun _ _ _ _ _ _ us hl => match us, hl with | [_, _, _, _], _ => rfl)
    have a28 := En.ns_look (x := "_law_told") KX (by k_is)
    have E28 := En.ent_fn (i := K13.i_law_told) (x := "_law_told") (st := K13.topS 32) (ps := ["builder", "kind", "a", "b"]) rfl rfl rfl rfl KX a28 (by k_is) (by k_is) (by k_is) (fun _ _ _ _ _ _ us hl => match us, hl with | [_, _, _, _], _ => rfl)
    have a29 := En.ns_look (x := "_law_plain") KX (by k_is)
    have E29 := En.ent_fn (i := K13.i_law_plain) (x := "_law_plain") (st := K13.topS 33) (ps := ["kind", "a", "b", "size"]) rfl rfl rfl rfl KX a29 (by k_is) (by k_is) (by k_is) (fun _ _ _ _ _ _ us hl => match us, hl with | [_, _, _, _], _ => rfl)
    have a30 := En.ns_look (x := "_law_worth") KX (by k_is)
    have E30 := En.ent_fn (i := K13.i_law_worth) (x := "_law_worth") (st := K13.topS 34) (ps := ["columns", "literals", "v"]) rfl rfl rfl rfl KX a30 (by k_is) (by k_is) (by k_is) (fun _ _ _ _ _ _ us hl => match us, hl with | [_, _, _], _ => rfl)
    have a31 := En.ns_look (x := "_law_holds") KX (by k_is)
    have E31 := En.ent_fn (i := K13.i_law_holds) (x := "_law_holds") (st := K13.topS 35) (ps := ["columns", "bits", "kind", "words", "told"]) rfl rfl rfl rfl KX a31 (by k_is) (by k_is) (by k_is) (fun _ _ _ _ _ _ us hl => match us, hl with | [_, _, _, _, _], _ => rfl)
    have a32 := En.ns_look (x := "law") KX (by k_is)
    have E32 := En.ent_fn (i := K13.i_law) (x := "law") (st := K13.topS 36) (ps := ["script"]) rfl rfl rfl rfl KX a32 (by k_is) (by k_is) (by k_is) (fun _ _ _ _ _ _ us hl => match us, hl with | [_], _ => rfl)
    have a33 := En.find_look (m := "__init__") KX aC0 (by k_is)
    have E33 := En.ent_me (i := K13.i_Builder___init__) (x := "__init__") (q := "Builder.__init__") (st := L2.inClass (K13.topS 2) 0) (ps := ["self", "inputs", "latches"]) rfl rfl rfl rfl KX a33 (by k_is) (by k_is) (by k_is) (fun _ _ _ _ _ _ us hl => match us, hl with | [_, _, _], _ => rfl)
    have a34 := En.find_look (m := "pairs") KX aC0 (by k_is)
    have E34 := En.ent_me (i := K13.i_Builder_pairs) (x := "pairs") (q := "Builder.pairs") (st := L2.inClass (K13.topS 2) 1) (ps := ["self"]) rfl rfl rfl rfl KX a34 (by k_is) (by k_is) (by k_is) (fun _ _ _ _ _ _ us hl => match us, hl with | [_], _ => rfl)
    have a35 := En.find_look (m := "both") KX aC0 (by k_is)
    have E35 := En.ent_me (i := K13.i_Builder_both) (x := "both") (q := "Builder.both") (st := L2.inClass (K13.topS 2) 2) (ps := ["self", "a", "b"]) rfl rfl rfl rfl KX a35 (by k_is) (by k_is) (by k_is) (fun _ _ _ _ _ _ us hl => match us, hl with | [_, _, _], _ => rfl)
    have a36 := En.find_look (m := "either") KX aC0 (by k_is)
    have E36 := En.ent_me (i := K13.i_Builder_either) (x := "either") (q := "Builder.either") (st := L2.inClass (K13.topS 2) 3) (ps := ["self", "a", "b"]) rfl rfl rfl rfl KX a36 (by k_is) (by k_is) (by k_is) (fun _ _ _ _ _ _ us hl => match us, hl with | [_, _, _], _ => rfl)
    have a37 := En.find_look (m := "differ") KX aC0 (by k_is)
    have E37 := En.ent_me (i := K13.i_Builder_differ) (x := "differ") (q := "Builder.differ") (st := L2.inClass (K13.topS 2) 4) (ps := ["self", "a", "b"]) rfl rfl rfl rfl KX a37 (by k_is) (by k_is) (by k_is) (fun _ _ _ _ _ _ us hl => match us, hl with | [_, _, _], _ => rfl)
    have a38 := En.find_look (m := "choose") KX aC0 (by k_is)
    have E38 := En.ent_me (i := K13.i_Builder_choose) (x := "choose") (q := "Builder.choose") (st := L2.inClass (K13.topS 2) 5) (ps := ["self", "c", "a", "b"]) rfl rfl rfl rfl KX a38 (by k_is) (by k_is) (by k_is) (fun _ _ _ _ _ _ us hl => match us, hl with | [_, _, _, _], _ => rfl)
    have X := En.txt_mk (as := []) (fs := [_, _, _, _, _, _, _, _, _, _, _, _, _, _, _, _, _, _, _, _, _, _, _, _, _, _, _, _, _, _, _, _, _, _, _, _, _, _, _]) (cs := [_]) (T := K13.tb) (w := w) KX
      ⟨E0, ⟨E1, ⟨E2, ⟨E3, ⟨E4, ⟨E5, ⟨E6, ⟨E7, ⟨E8, ⟨E9, ⟨E10, ⟨E11, ⟨E12, ⟨E13, ⟨E14, ⟨E15, ⟨E16, ⟨E17, ⟨E18, ⟨E19, ⟨E20, ⟨E21, ⟨E22, ⟨E23, ⟨E24, ⟨E25, ⟨E26, ⟨E27, ⟨E28, ⟨E29, ⟨E30, ⟨E31, ⟨E32, ⟨E33, ⟨E34, ⟨E35, ⟨E36, ⟨E37, ⟨E38, True.intro⟩⟩⟩⟩⟩⟩⟩⟩⟩⟩⟩⟩⟩⟩⟩⟩⟩⟩⟩⟩⟩⟩⟩⟩⟩⟩⟩⟩⟩⟩⟩⟩⟩⟩⟩⟩⟩⟩⟩
      (En.all_cons (PySem.W.mg_of KX G a0) (En.all_cons (PySem.W.mg_of KX G a1) (En.all_cons (PySem.W.mg_of KX G a2) (En.all_cons (PySem.W.mg_of KX G a3) (En.all_cons (PySem.W.mg_of KX G a4) (En.all_cons (PySem.W.mg_of KX G a5) (En.all_cons (PySem.W.mg_of KX G a6) (En.all_cons (PySem.W.mg_of KX G a7) (En.all_cons (PySem.W.mg_of KX G a8) (En.all_cons (PySem.W.mg_of KX G a9) (En.all_cons (PySem.W.mg_of KX G a10) (En.all_cons (PySem.W.mg_of KX G a11) (En.all_cons (PySem.W.mg_of KX G a12) (En.all_cons (PySem.W.mg_of KX G a13) (En.all_cons (PySem.W.mg_of KX G a14) (En.all_cons (PySem.W.mg_of KX G a15) (En.all_cons (PySem.W.mg_of KX G a16) (En.all_cons (PySem.W.mg_of KX G a17) (En.all_cons (PySem.W.mg_of KX G a18) (En.all_cons (PySem.W.mg_of KX G a19) (En.all_cons (PySem.W.mg_of KX G a20) (En.all_cons (PySem.W.mg_of KX G a21) (En.all_cons (PySem.W.mg_of KX G a22) (En.all_cons (PySem.W.mg_of KX G a23) (En.all_cons (PySem.W.mg_of KX G a24) (En.all_cons (PySem.W.mg_of KX G a25) (En.all_cons (PySem.W.mg_of KX G a26) (En.all_cons (PySem.W.mg_of KX G a27) (En.all_cons (PySem.W.mg_of KX G a28) (En.all_cons (PySem.W.mg_of KX G a29) (En.all_cons (PySem.W.mg_of KX G a30) (En.all_cons (PySem.W.mg_of KX G a31) (En.all_cons (PySem.W.mg_of KX G a32) En.all_nil)))))))))))))))))))))))))))))))))
      En.all_nil
      (En.all_cons (PySem.W.mg_none_of KX G (by k_is)) (En.all_cons (PySem.W.mg_none_of KX G (by k_is)) (En.all_cons (PySem.W.mg_none_of KX G (by k_is)) (En.all_cons (PySem.W.mg_none_of KX G (by k_is)) (En.all_cons (PySem.W.mg_none_of KX G (by k_is)) (En.all_cons (PySem.W.mg_none_of KX G (by k_is)) (En.all_cons (PySem.W.mg_none_of KX G (by k_is)) (En.all_cons (PySem.W.mg_none_of KX G (by k_is)) (En.all_cons (PySem.W.mg_none_of KX G (by k_is)) (En.all_cons (PySem.W.mg_none_of KX G (by k_is)) (En.all_cons (PySem.W.mg_none_of KX G (by k_is)) (En.all_cons (PySem.W.mg_none_of KX G (by k_is)) (En.all_cons (PySem.W.mg_none_of KX G (by k_is)) En.all_nil)))))))))))))
      (fun j => En.all_nil)
      (En.all_cons (PySem.W.mg_of KX G aC0) En.all_nil)
      ⟨⟨C0, En.mk_of KX aC0 a33 (by k_is) (by k_is) (by k_is), (En.all_cons (En.me_of KX a34 (by k_is) (by k_is)) (En.all_cons (En.me_of KX a35 (by k_is) (by k_is)) (En.all_cons (En.me_of KX a36 (by k_is) (by k_is)) (En.all_cons (En.me_of KX a37 (by k_is) (by k_is)) (En.all_cons (En.me_of KX a38 (by k_is) (by k_is)) En.all_nil)))))⟩, True.intro⟩
      (En.all_cons (En.na_of KX C0 (by k_is)) (En.all_cons (En.na_of KX C0 (by k_is)) (En.all_cons (En.na_of KX C0 (by k_is)) (En.all_cons (En.na_of KX C0 (by k_is)) En.all_nil))))
    exact En.law_fn X K13.chk (by rfl) E32 rfl (PySem.W.mg_of KX G a32) hmg rfl (fun ns hn => K13.math ns)

