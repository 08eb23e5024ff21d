import PyProof.Rows.All
import Wide.All
import OpenK.AllK
import Wide.FinOn
import HandS.ForMost
import HandS.Walk
import KE.GoesEnum
import KE.GoesMore
import HandS.More
import HandS.IsInst
import HandS.TupAny
import HandS.NoneIn
import PySem.Challenge.RW_chipmill_k40_kinds_and_forcing
set_option Elab.async false
set_option linter.all false
set_option maxRecDepth 100000
set_option maxHeartbeats 1000000
namespace En
open PySem PySem.Spec PyProof.Rows L2
theorem meets_enum1 {v : Value} {o : Obj} {H : Heap → Prop} (B : Begins v o H) :
    Meets (Builtin.«enumerate.__new__» ⟨[.type "enumerate", v], []⟩) (fun _ R s => H s.heap ∧
      R (.ok (.ret (.ref (s.heap.push o).objs.size))) { s with heap := (s.heap.push o).push { cls := .type "enumerate", data := .fields #[.none, .bool false, .ref s.heap.objs.size, rawInt 0, .none, .none] } }) :=
  .of_wp fun prog w A R s h => by
    obtain ⟨hp, g, d, tk, os⟩ := s
    obtain ⟨h1, h⟩ := h
    have hsub := sub_enumerate
    have q1 : ∀ {A' : Around} {E : Value → Shared → Prop} {Q : Value → Shared → Prop}, Q (.ref hp.objs.size) ⟨hp.push o, g, d, tk, os⟩ → wpAny (model prog w) A' (pyIter v) Q E ⟨hp, g, d, tk, os⟩ :=
      fun q => B.iter prog w _ _ ⟨hp, g, d, tk, os⟩ _ h1 q
    wp_walk using q1
    refine wpAny_stack_any fun st => wpAny_pure ?_
    split
    · rename_i c _ _ _ _ _
      cases (c == Value.type "enumerate")
      · wp_walk using q1
        exact ⟨_, rfl, h⟩
      · wp_walk using q1
        exact ⟨_, rfl, h⟩
    · wp_walk using q1
      exact ⟨_, rfl, h⟩
section
variable {prog : Program} {w : World} {A : Around} {E : Value → Shared → Prop} {s : Shared}
theorem call_enum1 {v : Value} {o : Obj} {H : Heap → Prop} {Q : Value → Shared → Prop} (B : Begins v o H) (h1 : H s.heap)
    (h : ∀ h', IsEnum h' (s.heap.objs.size + 1) s.heap.objs.size 0 .none → h'.get? s.heap.objs.size = some o → h'.objs.size = s.heap.objs.size + 2 →
      (∀ b o, s.heap.get? b = some o → h'.get? b = some o) → Q (.ref (s.heap.objs.size + 1)) { s with heap := h' }) :
    wpAny (model prog w) A (call (.type "enumerate") [v]) Q E s := by
  refine callType_new F.called_enumerate (by decide) (F.typeCall_enumerate_1 _) (F.newCall_enumerate_1 _) (fun obj => F.args_object_init_2 obj _) F.entry_enumerate_new (meets_enum1 B) ⟨h1, ?_⟩
  have hz : (s.heap.push o).objs.size = s.heap.objs.size + 1 := Heap.size_push ..
  show _ ∧ _
  rw [hz]
  have he : IsEnum ((s.heap.push o).push { cls := .type "enumerate", data := .fields #[.none, .bool false, .ref s.heap.objs.size, rawInt 0, .none, .none] }) (s.heap.objs.size + 1) s.heap.objs.size 0 .none := by
    have q := Heap.get?_push_size (s.heap.push o) (o := { cls := .type "enumerate", data := .fields #[.none, .bool false, .ref s.heap.objs.size, rawInt 0, .none, .none] }) rfl
    rw [hz] at q
    exact q
  exact ⟨⟨_, he, rfl⟩, h _ he (Heap.get?_push_of_some _ (Heap.get?_push_size _ B.free)) (by rw [Heap.size_push, hz]) fun b o x => Heap.get?_push_of_some _ (Heap.get?_push_of_some _ x)⟩
end
/-- the tuple at a, each item in a new pair -/
def IteT (K : PySem.W.Frag) (a : Addr) : It :=
  ⟨fun i H => ∃ (xs : List V) (x : V), SqT K H a xs ∧ xs[i]? = some x, fun i H v H' => ∃ T x, v = .ref T ∧ H T = none ∧ H' = upd H T (.tup [.int (i : Nat), x]) ∧ ∀ xs, SqT K H a xs → xs[i]? = some x, fun i H => ∃ xs : List V, SqT K H a xs ∧ xs.length ≤ i⟩
theorem tup_ne {h : Heap} {a it : Addr} {i : Nat} {its : Array Value} (p : IsTup h a its) (q : h.IsTupleIter it a i) : a ≠ it := fun z => by
  obtain ⟨o, h1, h2, _⟩ := p
  obtain ⟨o', h3, h4, _⟩ := q
  rw [z, h3] at h1
  cases h1
  rw [h4] at h2
  exact absurd h2 (by simp)
theorem turn_enumT {P : Program} {w : World} {K : PySem.W.Frag} {elts : List Expr} {kk : Nat} {tpos : Pos} (a e it : Addr) :
    Turn P w K (.Tuple elts kk tpos) (IteT K a) [e, it] e (fun i h => (∃ old, IsEnum h e it ((i : Nat) : Int) old) ∧ h.IsTupleIter it a i ∧ e ≠ it ∧ e ≠ a) where
  mem := by simp
  obj := fun i h st b hb => by
    obtain ⟨⟨old, he⟩, ⟨o, ho, hc, hd⟩, _⟩ := st
    rcases (show b = e ∨ b = it by simpa using hb) with z | z
    · rw [z]; exact ⟨_, he, fun v q => nomatch q⟩
    · rw [z]; exact ⟨o, ho, fun v q => by rw [hd] at q; cases q⟩
  keep := fun i h h' st k => let ⟨⟨old, he⟩, hi, hne⟩ := st; ⟨⟨old, k e (by simp) _ he⟩, hi.at fun o q => k it (by simp) o q, hne⟩
  item := by
    intro X hP hw hK hc i pins s σ H E I hf st hg
    subst hP hw hK
    obtain ⟨⟨old, he⟩, hit, hne, hna⟩ := st
    obtain ⟨xs, x, hq, hx⟩ := hg
    obtain ⟨its, rv, p, hz⟩ := I.tuple hq
    obtain ⟨u, hu, ru⟩ := rv.get hx
    have hel : e < s.heap.objs.size := Heap.lt_size he
    have hil : it < s.heap.objs.size := by obtain ⟨_, q, _⟩ := hit; exact Heap.lt_size q
    have hlt : i < its.toArray.size := by
      have q := (List.getElem?_eq_some_iff.mp hu).1
      simpa using q
    have dr := Draws.tuple (prog := X.prog) (w := X.w) (A := X.A.in1) (I.ok.hd hc) it a (tup_ne p hit) its.toArray
    refine wpAny_pyNext_enum_itemD dr he ⟨hit, p⟩ hlt hne (by simp [hne, hna]) fun y h' tk hy ho hit' hT hsz hk => ?_
    have ey : y = u := Option.some.inj (hy.symm.trans (by simpa using hu))
    subst ey
    refine ⟨_, rfl, wpAny_letOwnedTupleGo_enum (s := { s with heap := h', toks := tk + 1 }) ho fun h'' he' sb => ?_⟩
    have hT2 : h''.get? s.heap.objs.size = some { cls := .type "tuple", data := .seq #[.int i tk, y] } := (sb.2 _ (Nat.ne_of_gt hel)).trans hT
    have new : ObjOk X.prog X.w (upd H s.heap.objs.size (.tup [.int (i : Nat), x])) h'' s.heap.objs.size (.tup [.int (i : Nat), x]) :=
      ⟨by show 2 ≤ sizeLine; decide, [.int i tk, y], .cons ⟨_, rfl⟩ (.cons ru .nil), ⟨_, hT2, rfl, _, rfl⟩⟩
    have I1 : Inv X pins σ (upd H s.heap.objs.size (.tup [.int (i : Nat), x])) { s with heap := h'', toks := tk + 1 } :=
      I.turnedNew (ch := [e, it]) (fun b ob hb q => (sb.2 b (fun z => hb (by simp [z]))).trans (hk b ob (fun z => hb (by simp [z])) (fun z => hb (by simp [z])) q)) hf (Nat.le_refl _) new
    refine ⟨.ref s.heap.objs.size, _, I1, rfl, ⟨_, x, rfl, I.hok.fresh (Nat.le_refl _), rfl, fun ys hy => by rw [I.tuple_inj hy hq]; exact hx⟩, ⟨⟨y, ?_⟩, hit'.1.at fun o q => (sb.2 it (Ne.symm hne)).trans q, hne, hna⟩, fun b hb => ?_⟩
    · have e1 : ((i + 1 : Nat) : Int) = (i : Int) + 1 := by omega
      rw [e1]; exact he'
    · have hb' : b < s.heap.objs.size := by
        rcases (show b = e ∨ b = it by simpa using hb) with z | z
        · rw [z]; exact hel
        · rw [z]; exact hil
      rw [upd_ne (Nat.ne_of_lt hb')]
      exact (hf b hb).1
  done := by
    intro X hP hw hK hc i pins s σ H E I hf st hg
    subst hP hw hK
    obtain ⟨⟨old, he⟩, hit, hne, hna⟩ := st
    obtain ⟨xs, hq, hx⟩ := hg
    obtain ⟨its, rv, p, hz⟩ := I.tuple hq
    obtain ⟨f0, f1, f2, f3, f4, f5⟩ := hf it (by simp)
    have hl := rv.length
    have dr := Draws.tuple (prog := X.prog) (w := X.w) (A := X.A.in1) (I.ok.hd hc) it a (tup_ne p hit) its.toArray
    by_cases hi : i = its.toArray.size
    · subst hi
      exact wpAny_pyNext_enum_endD dr he ⟨hit, p⟩ fun h' eb => ⟨rfl, I.turned (t' := s.toks) (fun b o hb q => eb b o hb q) f0 f1 f3 f4 f5⟩
    · have hT : s.TypeIs (.ref e) "enumerate" := ⟨_, he, rfl⟩
      have nn : its.toArray[i]? = none := by
        rw [Array.getElem?_eq_none]
        simp only [List.size_toArray]
        omega
      unfold pyNext
      refine wpAny_bind (wpAny_attempt (wpAny_callSpecial?_slot (name := Str.ofString "__next__") hT F.slot_enumerate_next
        (wpAny_call_entry F.slot_enumerate_next hT F.entry_enumerate_next ?_ (F.args_enumerate_next_1 _))))
      show wpAny _ _ (field (.ref e) 2 >>= _) _ _ _
      refine wpAny_bind (wpAny_field he rfl (x := .ref it) rfl ?_)
      refine wpAny_bind (wpAny_nextOf_tuple_end (I.ok.hd hc) hit p nn fun h' y he' hx' => ?_)
      obtain ⟨o, ho, hcc⟩ := hx'
      refine wpAny_bind (wpAny_isInstance (T := "StopIteration") (b := true) ⟨o, ho, hcc⟩ isSubtype_stop ?_)
      exact wpAny_pure ⟨rfl, I.turned (t' := s.toks) (fun b o hb q => he' b o hb q) f0 f1 f3 f4 f5⟩
  self := fun A i s Q E st h => let ⟨⟨_, he⟩, _⟩ := st; wpAny_pyIter_enum he h
def iEnumT (K : PySem.W.Frag) (ta : TA) : TI := fun σ H R => ta σ H fun vs H1 => ∃ a xs, vs = [.ref a] ∧ SqT K H1 a xs ∧ R (IteT K a) H1
theorem pi_enumT {X : Cx} {e : Expr} {ta : TA} {p pos tpos : Pos} {elts : List Expr} {kk : Nat} (hg : Gl X "enumerate") (hm : X.mg "enumerate" = none) (ha : PA X [e] ta) (hs : starEach [e] X.env = [(false, eval e X.env)] := by rfl) :
    PI X (.Tuple elts kk tpos) (.Call (.Name "enumerate" p) [e] [] pos) (iEnumT X.K ta) := by
  refine ⟨fun pins s σ H R I h => ?_⟩
  refine Call_ (ld_blt I hg hm boot_enumerate (PyProof.Rows.callWith_type1 (thn (ha.run pos pins s σ H _ I h) fun us s1 ⟨vs, H1, I1, r1, q1⟩ => ?_) hs rfl))
  obtain ⟨a, xs, ex, hq, q⟩ := q1
  subst ex
  cases r1 with
  | cons r rr =>
    cases rr
    cases r
    obtain ⟨its, rv, p', hz⟩ := I1.tuple hq
    have hal : a < s1.heap.objs.size := p'.lt
    refine call_enum1 (begins_tuple a its.toArray) p' fun h' he hit hsz hk => wpAny_pyIter_enum he ?_
    have I2 : Inv X pins σ H1 { s1 with heap := h' } := I1.kept (t' := s1.toks) hk
    refine ⟨s1.heap.objs.size + 1, [s1.heap.objs.size + 1, s1.heap.objs.size], _, _, H1, rfl, I2, turn_enumT a (s1.heap.objs.size + 1) s1.heap.objs.size, ⟨⟨.none, he⟩, ⟨_, hit, rfl, rfl⟩, Nat.succ_ne_self _, Nat.ne_of_gt (Nat.lt_succ_of_lt hal)⟩, fun b hb => ?_, q⟩
    have hle : s1.heap.objs.size ≤ b := by
      rcases (show b = s1.heap.objs.size + 1 ∨ b = s1.heap.objs.size by simpa using hb) with z | z
      · rw [z]; exact Nat.le_add_right _ _
      · rw [z]; exact Nat.le_refl _
    exact I1.fpOk hle (I1.hok.fresh hle)
end En

set_option Elab.async false
set_option linter.all false
set_option maxRecDepth 100000
namespace En
open PySem PySem.Spec PyProof.Rows L2

/-- plain data; cell n: the n-th thing that may still change -/
inductive D where
  | non | bl (b : Bool) | int (i : Int) | str (x : Str)
  | tup (ds : List D) | lst (ds : List D)
  | dk (kvs : List (Key × D)) | dt (kvs : List (List Key × D))
  | obj (c : Nat) (fs : List (Str × D))
  | gd (j : Nat)
  | kt (ds : List D)
  | cell (n : Nat)
/-- what a cell holds -/
inductive O where
  | lst (ds : List D) | dk (kvs : List (Key × D)) | dt (kvs : List (List Key × D)) | ins (c : Nat) (fs : List (Str × D))
abbrev Env := List (Option D)
abbrev Store := List O

/-- where the program's classes and its dicts of the top lie -/
structure Lk where
  K : PySem.W.Frag
  ca : Nat → Addr
  ga : Nat → Addr

def KT (K : PySem.W.Frag) (a : Addr) (xs : List V) : Prop :=
  ∃ (o : Obj) (its : Array Value) (n : Nat), K.lookup a = some o ∧ o.cls = .type "tuple" ∧ o.data = .seq its n ∧ its.size ≤ sizeLine ∧ Vals xs its.toList

/-- a list of the text's own -/
def KL (K : PySem.W.Frag) (a : Addr) (xs : List V) : Prop :=
  ∃ (its : Array Value) (n : Nat), K.lookup a = some { cls := .type "list", data := .seq its n } ∧ its.size ≤ sizeLine ∧ Vals xs its.toList
mutual
inductive Rep (L : Lk) (H : Hp) (fb cm : List Addr) : V → D → Prop
  | non : Rep L H fb cm .non .non
  | bl (b : Bool) : Rep L H fb cm (.bl b) (.bl b)
  | int (i : Int) : Rep L H fb cm (.int i) (.int i)
  | str (x : Str) : Rep L H fb cm (.str x) (.str x)
  | tup {a : Addr} {xs : List V} {ds : List D} : a ∉ fb → H a = some (.tup xs) → Reps L H fb cm xs ds → Rep L H fb cm (.ref a) (.tup ds)
  | lst {a : Addr} {xs : List V} {ds : List D} : a ∉ fb → Rd H a (.lst xs) → Reps L H fb cm xs ds → Rep L H fb cm (.ref a) (.lst ds)
  | dk {a : Addr} {xs : List (Key × V)} {ds : List (Key × D)} : a ∉ fb → Rd H a (.dK xs) → xs.map (·.1) = ds.map (·.1) → Reps L H fb cm (xs.map (·.2)) (ds.map (·.2)) → Rep L H fb cm (.ref a) (.dk ds)
  | dt {a : Addr} {xs : List (List Key × V)} {ds : List (List Key × D)} : a ∉ fb → Rd H a (.dT xs) → xs.map (·.1) = ds.map (·.1) → Reps L H fb cm (xs.map (·.2)) (ds.map (·.2)) → Rep L H fb cm (.ref a) (.dt ds)
  | obj {a dx : Addr} {c : Nat} {fs : List (Str × V)} {ds : List (Str × D)} : a ∉ fb → H a = some (.ins (L.ca c) dx fs) → fs.map (·.1) = ds.map (·.1) → Reps L H fb cm (fs.map (·.2)) (ds.map (·.2)) → Rep L H fb cm (.ref a) (.obj c ds)
  | gd (j : Nat) : Rep L H fb cm (.ref (L.ga j)) (.gd j)
  | kt {a : Addr} {xs : List V} {ds : List D} : KT L.K a xs → Reps L H fb cm xs ds → Rep L H fb cm (.ref a) (.kt ds)
  | kl {a : Addr} {xs : List V} {ds : List D} : KL L.K a xs → Reps L H fb cm xs ds → Rep L H fb cm (.ref a) (.lst ds)
  | cell {n : Nat} {a : Addr} : cm[n]? = some a → Rep L H fb cm (.ref a) (.cell n)
inductive Reps (L : Lk) (H : Hp) (fb cm : List Addr) : List V → List D → Prop
  | nil : Reps L H fb cm [] []
  | cons {v : V} {vs : List V} {d : D} {ds : List D} : Rep L H fb cm v d → Reps L H fb cm vs ds → Reps L H fb cm (v :: vs) (d :: ds)
end
/-- what lies in the cell at a -/
def ORep (L : Lk) (H : Hp) (fb cm : List Addr) (a : Addr) : O → Prop
  | .lst ds => ∃ xs, H a = some (.lst xs) ∧ Reps L H fb cm xs ds
  | .dk ds => ∃ xs, H a = some (.dK xs) ∧ xs.map (·.1) = ds.map (·.1) ∧ Reps L H fb cm (xs.map (·.2)) (ds.map (·.2))
  | .dt ds => ∃ xs, H a = some (.dT xs) ∧ xs.map (·.1) = ds.map (·.1) ∧ Reps L H fb cm (xs.map (·.2)) (ds.map (·.2))
  | .ins c ds => ∃ dx fs, H a = some (.ins (L.ca c) dx fs) ∧ fs.map (·.1) = ds.map (·.1) ∧ Reps L H fb cm (fs.map (·.2)) (ds.map (·.2))

/-- all but the cells is as it was -/
def Ext (cm : List Addr) (H H' : Hp) : Prop := ∀ a o, a ∉ cm → H a = some o → H' a = some o
theorem Ext.refl (cm : List Addr) (H : Hp) : Ext cm H H := fun _ _ _ h => h
theorem Ext.rd {cm : List Addr} {H H' : Hp} {a : Addr} {u : HO} (e : Ext cm H H') (h : a ∉ cm) (r : Rd H a u) : Rd H' a u := by
  rcases r with r | ⟨o, r⟩
  · exact .inl (e a _ h r)
  · exact .inr ⟨o, e a _ h r⟩
theorem Rd.some {H : Hp} {a : Addr} {u : HO} (r : Rd H a u) : ∃ o, H a = Option.some o := by
  rcases r with r | ⟨o, r⟩
  · exact ⟨_, r⟩
  · exact ⟨_, r⟩

section
variable {L : Lk} {H H' : Hp} {fb cm ex : List Addr}
/-- one step for all: a map of places -/
theorem rep_map {fb' cm' : List Addr} (ht : ∀ a xs, a ∉ fb → H a = some (.tup xs) → a ∉ fb' ∧ H' a = some (.tup xs)) (hr : ∀ a u, a ∉ fb → Rd H a u → a ∉ fb' ∧ Rd H' a u)
    (hi : ∀ a C dx fs, a ∉ fb → H a = some (.ins C dx fs) → a ∉ fb' ∧ H' a = some (.ins C dx fs)) (hc : ∀ (n : Nat) (a : Addr), cm[n]? = some a → cm'[n]? = some a) :
    (∀ {v : V} {d : D}, Rep L H fb cm v d → Rep L H' fb' cm' v d) ∧ ∀ {vs : List V} {ds : List D}, Reps L H fb cm vs ds → Reps L H' fb' cm' vs ds := by
  have key : ∀ {v : V} {d : D}, Rep L H fb cm v d → Rep L H' fb' cm' v d := fun {v d} h => by
    refine Rep.rec (motive_1 := fun v d _ => Rep L H' fb' cm' v d) (motive_2 := fun vs ds _ => Reps L H' fb' cm' vs ds) .non .bl .int .str ?_ ?_ ?_ ?_ ?_ .gd (fun k _ r => .kt k r) (fun k _ r => .kl k r) ?_ .nil ?_ h
    · exact fun n t _ r => .tup (ht _ _ n t).1 (ht _ _ n t).2 r
    · exact fun n t _ r => .lst (hr _ _ n t).1 (hr _ _ n t).2 r
    · exact fun n t e _ r => .dk (hr _ _ n t).1 (hr _ _ n t).2 e r
    · exact fun n t e _ r => .dt (hr _ _ n t).1 (hr _ _ n t).2 e r
    · exact fun n t e _ r => .obj (hi _ _ _ _ n t).1 (hi _ _ _ _ n t).2 e r
    · exact fun e => .cell (hc _ _ e)
    · exact fun _ _ r rs => .cons r rs
  refine ⟨key, fun {vs ds} h => ?_⟩
  refine Reps.rec (motive_1 := fun v d _ => Rep L H' fb' cm' v d) (motive_2 := fun vs ds _ => Reps L H' fb' cm' vs ds) .non .bl .int .str ?_ ?_ ?_ ?_ ?_ .gd (fun k _ r => .kt k r) (fun k _ r => .kl k r) ?_ .nil ?_ h
  · exact fun n t _ r => .tup (ht _ _ n t).1 (ht _ _ n t).2 r
  · exact fun n t _ r => .lst (hr _ _ n t).1 (hr _ _ n t).2 r
  · exact fun n t e _ r => .dk (hr _ _ n t).1 (hr _ _ n t).2 e r
  · exact fun n t e _ r => .dt (hr _ _ n t).1 (hr _ _ n t).2 e r
  · exact fun n t e _ r => .obj (hi _ _ _ _ n t).1 (hi _ _ _ _ n t).2 e r
  · exact fun e => .cell (hc _ _ e)
  · exact fun _ _ r rs => .cons r rs
theorem rep_ext_ (e : Ext fb H H') : (∀ {v : V} {d : D}, Rep L H fb cm v d → Rep L H' fb cm v d) ∧ ∀ {vs : List V} {ds : List D}, Reps L H fb cm vs ds → Reps L H' fb cm vs ds :=
  rep_map (fun a xs n t => ⟨n, e _ _ n t⟩) (fun a u n r => ⟨n, e.rd n r⟩) (fun a C dx fs n h => ⟨n, e _ _ n h⟩) fun _ _ h => h
theorem Rep.ext {v : V} {d : D} (h : Rep L H fb cm v d) (e : Ext fb H H') : Rep L H' fb cm v d := (rep_ext_ e).1 h
theorem Reps.ext {vs : List V} {ds : List D} (h : Reps L H fb cm vs ds) (e : Ext fb H H') : Reps L H' fb cm vs ds := (rep_ext_ e).2 h
theorem nin_app {a : Addr} {u : HO} (hx : ∀ b ∈ ex, H b = none) (n : a ∉ fb) (r : H a = some u) : a ∉ fb ++ ex := fun z => by
  rcases List.mem_append.mp z with z | z
  · exact n z
  · rw [hx a z] at r; cases r
/-- more is forbidden, all of it new -/
theorem rep_more_ (hx : ∀ b ∈ ex, H b = none) : (∀ {v : V} {d : D}, Rep L H fb cm v d → Rep L H (fb ++ ex) cm v d) ∧ ∀ {vs : List V} {ds : List D}, Reps L H fb cm vs ds → Reps L H (fb ++ ex) cm vs ds :=
  rep_map (fun a xs n t => ⟨nin_app hx n t, t⟩) (fun a u n r => ⟨let ⟨_, q⟩ := Rd.some r; nin_app hx n q, r⟩) (fun a C dx fs n h => ⟨nin_app hx n h, h⟩) fun n a h => h
theorem Rep.more {v : V} {d : D} (h : Rep L H fb cm v d) (hx : ∀ b ∈ ex, H b = none) : Rep L H (fb ++ ex) cm v d := (rep_more_ hx).1 h
theorem Reps.more {vs : List V} {ds : List D} (h : Reps L H fb cm vs ds) (hx : ∀ b ∈ ex, H b = none) : Reps L H (fb ++ ex) cm vs ds := (rep_more_ hx).2 h
/-- less is forbidden -/
theorem rep_less_ {fb' : List Addr} (hs : ∀ b ∈ fb', b ∈ fb) : (∀ {v : V} {d : D}, Rep L H fb cm v d → Rep L H fb' cm v d) ∧ ∀ {vs : List V} {ds : List D}, Reps L H fb cm vs ds → Reps L H fb' cm vs ds :=
  rep_map (fun a xs n t => ⟨fun q => n (hs _ q), t⟩) (fun a u n r => ⟨fun q => n (hs _ q), r⟩) (fun a C dx fs n h => ⟨fun q => n (hs _ q), h⟩) fun n a h => h
theorem Rep.less {fb' : List Addr} {v : V} {d : D} (h : Rep L H fb cm v d) (hs : ∀ b ∈ fb', b ∈ fb) : Rep L H fb' cm v d := (rep_less_ hs).1 h
theorem Reps.less {fb' : List Addr} {vs : List V} {ds : List D} (h : Reps L H fb cm vs ds) (hs : ∀ b ∈ fb', b ∈ fb) : Reps L H fb' cm vs ds := (rep_less_ hs).2 h
/-- more cells -/
theorem rep_wide_ : (∀ {v : V} {d : D}, Rep L H fb cm v d → Rep L H fb (cm ++ ex) v d) ∧ ∀ {vs : List V} {ds : List D}, Reps L H fb cm vs ds → Reps L H fb (cm ++ ex) vs ds :=
  rep_map (fun a xs n t => ⟨n, t⟩) (fun a u n r => ⟨n, r⟩) (fun a C dx fs n h => ⟨n, h⟩) fun n a h => by
    rw [List.getElem?_append_left]
    · exact h
    · exact (List.getElem?_eq_some_iff.mp h).1
theorem Rep.wide {v : V} {d : D} (h : Rep L H fb cm v d) : Rep L H fb (cm ++ ex) v d := rep_wide_.1 h
theorem Reps.wide {vs : List V} {ds : List D} (h : Reps L H fb cm vs ds) : Reps L H fb (cm ++ ex) vs ds := rep_wide_.2 h
theorem ORep.ext {a : Addr} {o : O} (h : ORep L H fb cm a o) (e : Ext fb H H') (s : H' a = H a) : ORep L H' fb cm a o := by
  cases o with
  | lst ds => obtain ⟨xs, h1, h2⟩ := h; exact ⟨xs, s.trans h1, h2.ext e⟩
  | dk ds => obtain ⟨xs, h1, h2, h3⟩ := h; exact ⟨xs, s.trans h1, h2, h3.ext e⟩
  | dt ds => obtain ⟨xs, h1, h2, h3⟩ := h; exact ⟨xs, s.trans h1, h2, h3.ext e⟩
  | ins c ds => obtain ⟨dx, xs, h1, h2, h3⟩ := h; exact ⟨dx, xs, s.trans h1, h2, h3.ext e⟩
theorem ORep.some {a : Addr} {o : O} (h : ORep L H fb cm a o) : ∃ u, H a = Option.some u := by
  cases o with
  | lst ds => obtain ⟨xs, h1, h2⟩ := h; exact ⟨_, h1⟩
  | dk ds => obtain ⟨xs, h1, h2, h3⟩ := h; exact ⟨_, h1⟩
  | dt ds => obtain ⟨xs, h1, h2, h3⟩ := h; exact ⟨_, h1⟩
  | ins c ds => obtain ⟨dx, xs, h1, h2, h3⟩ := h; exact ⟨_, h1⟩
theorem ORep.more {a : Addr} {o : O} (h : ORep L H fb cm a o) (hx : ∀ b ∈ ex, H b = none) : ORep L H (fb ++ ex) cm a o := by
  cases o with
  | lst ds => obtain ⟨xs, h1, h2⟩ := h; exact ⟨xs, h1, h2.more hx⟩
  | dk ds => obtain ⟨xs, h1, h2, h3⟩ := h; exact ⟨xs, h1, h2, h3.more hx⟩
  | dt ds => obtain ⟨xs, h1, h2, h3⟩ := h; exact ⟨xs, h1, h2, h3.more hx⟩
  | ins c ds => obtain ⟨dx, xs, h1, h2, h3⟩ := h; exact ⟨dx, xs, h1, h2, h3.more hx⟩
theorem ORep.less {fb' : List Addr} {a : Addr} {o : O} (h : ORep L H fb cm a o) (hs : ∀ b ∈ fb', b ∈ fb) : ORep L H fb' cm a o := by
  cases o with
  | lst ds => obtain ⟨xs, h1, h2⟩ := h; exact ⟨xs, h1, h2.less hs⟩
  | dk ds => obtain ⟨xs, h1, h2, h3⟩ := h; exact ⟨xs, h1, h2, h3.less hs⟩
  | dt ds => obtain ⟨xs, h1, h2, h3⟩ := h; exact ⟨xs, h1, h2, h3.less hs⟩
  | ins c ds => obtain ⟨dx, xs, h1, h2, h3⟩ := h; exact ⟨dx, xs, h1, h2, h3.less hs⟩
theorem ORep.wide {a : Addr} {o : O} (h : ORep L H fb cm a o) : ORep L H fb (cm ++ ex) a o := by
  cases o with
  | lst ds => obtain ⟨xs, h1, h2⟩ := h; exact ⟨xs, h1, h2.wide⟩
  | dk ds => obtain ⟨xs, h1, h2, h3⟩ := h; exact ⟨xs, h1, h2, h3.wide⟩
  | dt ds => obtain ⟨xs, h1, h2, h3⟩ := h; exact ⟨xs, h1, h2, h3.wide⟩
  | ins c ds => obtain ⟨dx, xs, h1, h2, h3⟩ := h; exact ⟨dx, xs, h1, h2, h3.wide⟩
end

section
variable {L : Lk} {H : Hp} {fb cm : List Addr}
theorem Reps.length : ∀ {vs : List V} {ds : List D}, Reps L H fb cm vs ds → vs.length = ds.length
  | _, _, .nil => rfl
  | _, _, .cons _ r => by rw [List.length_cons, List.length_cons, r.length]
theorem Reps.get : ∀ {vs : List V} {ds : List D} {i : Nat} {d : D}, Reps L H fb cm vs ds → ds[i]? = some d → ∃ v, vs[i]? = some v ∧ Rep L H fb cm v d
  | _, _, _, _, .nil, e => by simp at e
  | _, _, 0, _, .cons r _, e => by simp at e; subst e; exact ⟨_, rfl, r⟩
  | _, _, i + 1, _, .cons _ t, e => by
    obtain ⟨v, h1, h2⟩ := t.get (i := i) (by simpa using e)
    exact ⟨v, by simpa using h1, h2⟩
theorem Reps.getV : ∀ {vs : List V} {ds : List D} {i : Nat} {v : V}, Reps L H fb cm vs ds → vs[i]? = some v → ∃ d, ds[i]? = some d ∧ Rep L H fb cm v d
  | _, _, _, _, .nil, e => by simp at e
  | _, _, 0, _, .cons r _, e => by simp at e; subst e; exact ⟨_, rfl, r⟩
  | _, _, i + 1, _, .cons _ t, e => by
    obtain ⟨v, h1, h2⟩ := t.getV (i := i) (by simpa using e)
    exact ⟨v, by simpa using h1, h2⟩
theorem Reps.append : ∀ {vs ws : List V} {ds es : List D}, Reps L H fb cm vs ds → Reps L H fb cm ws es → Reps L H fb cm (vs ++ ws) (ds ++ es)
  | _, _, _, _, .nil, s => s
  | _, _, _, _, .cons r t, s => .cons r (t.append s)
theorem Reps.one {v : V} {d : D} (r : Rep L H fb cm v d) : Reps L H fb cm [v] [d] := .cons r .nil
theorem Reps.set {v : V} {d : D} (r : Rep L H fb cm v d) : ∀ {vs : List V} {ds : List D} (i : Nat), Reps L H fb cm vs ds → Reps L H fb cm (vs.set i v) (ds.set i d)
  | _, _, _, .nil => .nil
  | _, _, 0, .cons _ t => .cons r t
  | _, _, i + 1, .cons q t => .cons q (Reps.set r i t)
theorem Reps.take : ∀ {vs : List V} {ds : List D} (n : Nat), Reps L H fb cm vs ds → Reps L H fb cm (vs.take n) (ds.take n)
  | _, _, 0, _ => .nil
  | _, _, _ + 1, .nil => .nil
  | _, _, n + 1, .cons r t => .cons r (t.take n)
theorem Reps.drop : ∀ {vs : List V} {ds : List D} (n : Nat), Reps L H fb cm vs ds → Reps L H fb cm (vs.drop n) (ds.drop n)
  | _, _, 0, r => r
  | _, _, _ + 1, .nil => .nil
  | _, _, n + 1, .cons _ t => t.drop n
theorem Reps.eraseIdx : ∀ {vs : List V} {ds : List D} (i : Nat), Reps L H fb cm vs ds → Reps L H fb cm (vs.eraseIdx i) (ds.eraseIdx i)
  | _, _, _, .nil => .nil
  | _, _, 0, .cons _ t => t
  | _, _, i + 1, .cons q t => .cons q (t.eraseIdx i)
theorem Reps.dropLast : ∀ {vs : List V} {ds : List D}, Reps L H fb cm vs ds → Reps L H fb cm vs.dropLast ds.dropLast
  | _, _, .nil => .nil
  | _, _, .cons _ .nil => .nil
  | _, _, .cons q (.cons r t) => .cons q (Reps.dropLast (.cons r t))
theorem Reps.reverse {vs : List V} {ds : List D} (h : Reps L H fb cm vs ds) : Reps L H fb cm vs.reverse ds.reverse := by
  induction ds generalizing vs with
  | nil => cases h; exact .nil
  | cons d ds ih =>
    cases h with
    | cons r t =>
      rw [List.reverse_cons, List.reverse_cons]
      exact (ih t).append (.one r)
theorem Reps.nil_iff {vs : List V} {ds : List D} (h : Reps L H fb cm vs ds) : vs.isEmpty = ds.isEmpty := by
  cases h <;> rfl
end
structure Valid (L : Lk) (H : Hp) (fb cm : List Addr) (st : Store) : Prop where
  len : cm.length = st.length
  nd : cm.Nodup
  sub : ∀ a ∈ cm, a ∈ fb
  trk : ∀ a ∈ fb, ∃ u, H a = some u
  cells : ∀ (n : Nat) (o : O), st[n]? = some o → ∃ a, cm[n]? = some a ∧ ORep L H fb cm a o
structure Slots (L : Lk) (H : Hp) (fb cm : List Addr) (env : Env) (σ : L2.St) : Prop where
  len : env.length = σ.length
  at_ : ∀ (i : Nat) (d : D), env[i]? = some (some d) → ∃ v, σ[i]? = some (some v) ∧ Rep L H fb cm v d
structure Step (H : Hp) (cm : List Addr) (H' : Hp) (cm' : List Addr) : Prop where
  ext : Ext cm H H'
  new : ∃ ex, cm' = cm ++ ex ∧ ∀ a ∈ ex, H a = none
  trk : ∀ a u, H a = some u → ∃ u', H' a = some u'
theorem Step.refl (H : Hp) (cm : List Addr) : Step H cm H cm := ⟨.refl _ _, ⟨[], by simp, by simp⟩, fun _ u h => ⟨u, h⟩⟩
theorem Step.free {H H' : Hp} {cm cm' : List Addr} (s : Step H cm H' cm') {a : Addr} (h : H' a = none) : H a = none := by
  cases q : H a with
  | none => rfl
  | some u =>
    obtain ⟨u', h'⟩ := s.trk a u q
    rw [h] at h'; cases h'
theorem Step.nin {H H' : Hp} {cm cm' : List Addr} (s : Step H cm H' cm') {a : Addr} {u : HO} (n : a ∉ cm) (h : H a = some u) : a ∉ cm' := by
  obtain ⟨ex, rfl, hx⟩ := s.new
  exact nin_app hx n h
theorem Step.trans {H H1 H2 : Hp} {cm cm1 cm2 : List Addr} (s : Step H cm H1 cm1) (t : Step H1 cm1 H2 cm2) : Step H cm H2 cm2 := by
  refine ⟨fun a o n h => t.ext a o (s.nin n h) (s.ext a o n h), ?_, fun a u h => ?_⟩
  · obtain ⟨ex, rfl, hx⟩ := s.new
    obtain ⟨ex2, rfl, hx2⟩ := t.new
    refine ⟨ex ++ ex2, by rw [List.append_assoc], fun a ha => ?_⟩
    rcases List.mem_append.mp ha with z | z
    · exact hx a z
    · exact s.free (hx2 a z)
  · obtain ⟨u1, h1⟩ := s.trk a u h
    exact t.trk a u1 h1
section
variable {L : Lk} {H H' : Hp} {fx fb cm cm' : List Addr} {st : Store} {env : Env} {σ : L2.St}
theorem Rep.step {v : V} {d : D} (h : Rep L H (fx ++ cm) cm v d) (s : Step H cm H' cm') : Rep L H' (fx ++ cm') cm' v d := by
  obtain ⟨ex, rfl, hx⟩ := s.new
  rw [← List.append_assoc]
  exact ((h.more hx).ext fun a o n => s.ext a o fun z => n (List.mem_append_left _ (List.mem_append_right _ z))).wide
theorem Reps.step {vs : List V} {ds : List D} (h : Reps L H (fx ++ cm) cm vs ds) (s : Step H cm H' cm') : Reps L H' (fx ++ cm') cm' vs ds := by
  obtain ⟨ex, rfl, hx⟩ := s.new
  rw [← List.append_assoc]
  exact ((h.more hx).ext fun a o n => s.ext a o fun z => n (List.mem_append_left _ (List.mem_append_right _ z))).wide
theorem Slots.step (h : Slots L H (fx ++ cm) cm env σ) (s : Step H cm H' cm') : Slots L H' (fx ++ cm') cm' env σ := ⟨h.len, fun i d e => let ⟨v, h1, h2⟩ := h.at_ i d e; ⟨v, h1, h2.step s⟩⟩
theorem Slots.set (h : Slots L H fb cm env σ) {v : V} {d : D} (r : Rep L H fb cm v d) (i : Nat) : Slots L H fb cm (env.set i (some d)) (σ.set i (some v)) := by
  refine ⟨by rw [List.length_set, List.length_set, h.len], fun j d' e => ?_⟩
  by_cases hj : i = j
  · subst hj
    by_cases hi : i < env.length
    · rw [List.getElem?_set_self hi] at e
      cases e
      exact ⟨v, by rw [List.getElem?_set_self (by rw [← h.len]; exact hi)], r⟩
    · rw [List.getElem?_eq_none (by rw [List.length_set]; omega)] at e
      cases e
  · rw [List.getElem?_set_ne hj] at e ⊢
    exact h.at_ j d' e
/-- a slot is forgotten -/
theorem Slots.unset (h : Slots L H fb cm env σ) (i : Nat) : Slots L H fb cm (env.set i none) (σ.set i none) := by
  refine ⟨by rw [List.length_set, List.length_set, h.len], fun j d' e => ?_⟩
  by_cases hj : i = j
  · subst hj
    by_cases hi : i < env.length
    · rw [List.getElem?_set_self hi] at e
      cases e
    · rw [List.getElem?_eq_none (by rw [List.length_set]; omega)] at e
      cases e
  · rw [List.getElem?_set_ne hj] at e ⊢
    exact h.at_ j d' e
theorem Valid.cell (h : Valid L H fb cm st) {n : Nat} {o : O} {a : Addr} (e : st[n]? = some o) (c : cm[n]? = some a) : ORep L H fb cm a o := by
  obtain ⟨b, h1, h2⟩ := h.cells n o e
  rw [h1] at c
  cases c
  exact h2
theorem Valid.nin (h : Valid L H fb cm st) {a : Addr} (n : H a = none) : a ∉ fb := fun z => by
  obtain ⟨u, q⟩ := h.trk a z
  rw [n] at q
  cases q
/-- all that stood stands -/
theorem Valid.keep (h : Valid L H fb cm st) (e : ∀ a u, H a = Option.some u → H' a = Option.some u) : Valid L H' fb cm st :=
  ⟨h.len, h.nd, h.sub, fun a m => let ⟨u, q⟩ := h.trk a m; ⟨u, e a u q⟩, fun n o q => by
    obtain ⟨a, h1, h2⟩ := h.cells n o q
    obtain ⟨u, h3⟩ := h2.some
    exact ⟨a, h1, h2.ext (fun b o _ => e b o) ((e a u h3).trans h3.symm)⟩⟩
theorem Valid.less {fb' : List Addr} (h : Valid L H fb cm st) (hs : ∀ b ∈ fb', b ∈ fb) (hc : ∀ a ∈ cm, a ∈ fb') : Valid L H fb' cm st :=
  ⟨h.len, h.nd, hc, fun a m => h.trk a (hs a m), fun n o q => let ⟨a, h1, h2⟩ := h.cells n o q; ⟨a, h1, h2.less hs⟩⟩
theorem Step.keep (e : ∀ a u, H a = some u → H' a = some u) : Step H cm H' cm := ⟨fun a o _ => e a o, ⟨[], by simp, by simp⟩, fun a u h => ⟨u, e a u h⟩⟩
theorem keep_new {p : Addr} {o : HO} (n : H p = none) : ∀ a u, H a = some u → upd H p o a = some u := fun a u h => by
  rw [upd_ne (ne_of_none h n)]
  exact h
/-- a new thing, not to be known by the rest -/
theorem Valid.new {p : Addr} {u : HO} (h : Valid L H fb cm st) (n : H p = none) : Valid L (upd H p u) (fb ++ [p]) cm st :=
  ⟨h.len, h.nd, fun a m => List.mem_append_left _ (h.sub a m), fun a m => by
    rcases List.mem_append.mp m with m | m
    · obtain ⟨w, q⟩ := h.trk a m
      exact ⟨w, keep_new n a w q⟩
    · rw [List.mem_singleton.mp m]
      exact ⟨u, upd_same⟩, fun m o q => by
    have hx : ∀ b ∈ [p], H b = none := fun b z => by
      rw [List.mem_singleton.mp z]
      exact n
    obtain ⟨a, h1, h2⟩ := h.cells m o q
    obtain ⟨w, h3⟩ := h2.some
    exact ⟨a, h1, (h2.more hx).ext (fun b o _ => keep_new n b o) ((keep_new n a w h3).trans h3.symm)⟩⟩
theorem Reps.new {p : Addr} {u : HO} {vs : List V} {ds : List D} (h : Reps L H fb cm vs ds) (n : H p = none) : Reps L (upd H p u) (fb ++ [p]) cm vs ds :=
  (h.more fun b z => by rw [List.mem_singleton.mp z]; exact n).ext fun b o _ => keep_new n b o
theorem Rep.new {p : Addr} {u : HO} {v : V} {d : D} (h : Rep L H fb cm v d) (n : H p = none) : Rep L (upd H p u) (fb ++ [p]) cm v d :=
  (h.more fun b z => by rw [List.mem_singleton.mp z]; exact n).ext fun b o _ => keep_new n b o
end

end En

set_option Elab.async false
set_option linter.all false
set_option maxRecDepth 100000
namespace En
open PySem PySem.Spec PyProof.Rows L2

inductive Out (α : Type) where
  | ok (a : α) (s : Store) | ex (x : D) (s : Store) | no
def Out.bind {α β : Type} : Out α → (α → Store → Out β) → Out β
  | .ok a s, f => f a s
  | .ex x s, _ => .ex x s
  | .no, _ => .no
def Out.of {α : Type} (s : Store) : Option α → Out α
  | some a => .ok a s
  | none => .no
@[simp] theorem Out.bind_ok {α β : Type} (a : α) (s : Store) (f : α → Store → Out β) : (Out.ok a s).bind f = f a s := rfl
@[simp] theorem Out.bind_no {α β : Type} (f : α → Store → Out β) : (Out.no : Out α).bind f = .no := rfl
@[simp] theorem Out.bind_ex {α β : Type} (x : D) (s : Store) (f : α → Store → Out β) : (Out.ex x s : Out α).bind f = .ex x s := rfl
@[simp] theorem Out.of_some {α : Type} (s : Store) (a : α) : Out.of s (some a) = .ok a s := rfl
@[simp] theorem Out.of_none {α : Type} (s : Store) : Out.of s (none : Option α) = .no := rfl
theorem Out.bind_is {α β : Type} {x : Out α} {f : α → Store → Out β} {b : β} {s : Store} (h : x.bind f = .ok b s) : ∃ a s1, x = .ok a s1 ∧ f a s1 = .ok b s := by
  cases x with
  | ok a s1 => exact ⟨a, s1, rfl, h⟩
  | ex x s1 => cases h
  | no => cases h
theorem Out.of_is {α : Type} {x : Option α} {a : α} {s s' : Store} (h : Out.of s x = .ok a s') : x = some a ∧ s' = s := by
  cases x with
  | some b => cases h; exact ⟨rfl, rfl⟩
  | none => cases h

/-- a result: a value, or a new thing that nobody else knows -/
inductive R where
  | v (d : D) | n (o : O)
def O.d : O → D
  | .lst ds => .lst ds | .dk kvs => .dk kvs | .dt kvs => .dt kvs | .ins c fs => .obj c fs
def R.d : R → D
  | .v d => d
  | .n o => o.d
@[simp] theorem R.d_v (d : D) : (R.v d).d = d := rfl
@[simp] theorem R.d_lst (ds : List D) : (R.n (.lst ds)).d = .lst ds := rfl
@[simp] theorem R.d_dk (ds : List (Key × D)) : (R.n (.dk ds)).d = .dk ds := rfl
@[simp] theorem R.d_dt (ds : List (List Key × D)) : (R.n (.dt ds)).d = .dt ds := rfl
@[simp] theorem R.d_ins (c : Nat) (fs : List (Str × D)) : (R.n (.ins c fs)).d = .obj c fs := rfl

mutual
/-- all cells in it are below b -/
def cb (b : Nat) : D → Bool
  | .tup ds => cbs b ds
  | .kt ds => cbs b ds
  | .lst ds => cbs b ds
  | .dk kvs => cbk b kvs
  | .dt kvs => cbt b kvs
  | .obj _ fs => cbf b fs
  | .cell n => decide (n < b)
  | _ => true
def cbs (b : Nat) : List D → Bool
  | [] => true
  | d :: ds => cb b d && cbs b ds
def cbk (b : Nat) : List (Key × D) → Bool
  | [] => true
  | (_, d) :: ds => cb b d && cbk b ds
def cbt (b : Nat) : List (List Key × D) → Bool
  | [] => true
  | (_, d) :: ds => cb b d && cbt b ds
def cbf (b : Nat) : List (Str × D) → Bool
  | [] => true
  | (_, d) :: ds => cb b d && cbf b ds
end
def cbO (b : Nat) : O → Bool
  | .lst ds => cbs b ds
  | .dk kvs => cbk b kvs
  | .dt kvs => cbt b kvs
  | .ins _ fs => cbf b fs
/-- d may be written into cell n by code whose own cells begin at b -/
def okW (b n : Nat) (d : D) : Bool := decide (b ≤ n) || cb 0 d

def seqOf (s : Store) : D → Option (Bool × List D)
  | .lst ds => some (false, ds)
  | .tup ds => some (true, ds)
  | .kt ds => some (true, ds)
  | .cell n => match s[n]? with
    | some (.lst ds) => some (false, ds)
    | _ => none
  | _ => none
def dkOf (s : Store) : D → Option (List (Key × D))
  | .dk kvs => some kvs
  | .cell n => match s[n]? with
    | some (.dk kvs) => some kvs
    | _ => none
  | _ => none
def dtOf (s : Store) : D → Option (List (List Key × D))
  | .dt kvs => some kvs
  | .cell n => match s[n]? with
    | some (.dt kvs) => some kvs
    | _ => none
  | _ => none
def objOf (s : Store) : D → Option (Nat × List (Str × D))
  | .obj c fs => some (c, fs)
  | .cell n => match s[n]? with
    | some (.ins c fs) => some (c, fs)
    | _ => none
  | _ => none
def keyOf : D → Option Key
  | .int i => some (.inl i)
  | .str x => some (.inr x)
  | _ => none
def keysOf : List D → Option (List Key)
  | [] => some []
  | d :: ds => (keyOf d).bind fun k => (keysOf ds).map fun ks => k :: ks
def intsOf : List D → Option (List Int)
  | [] => some []
  | .int i :: ds => (intsOf ds).map fun ks => i :: ks
  | _ :: _ => none
def blsOf : List D → Option (List Bool)
  | [] => some []
  | .bl i :: ds => (blsOf ds).map fun ks => i :: ks
  | _ :: _ => none
def strsOf : List D → Option (List Str)
  | [] => some []
  | .str i :: ds => (strsOf ds).map fun ks => i :: ks
  | _ :: _ => none
/-- a flat value: none, bool, int, text -/
def flat : D → Option V
  | .non => some .non
  | .bl b => some (.bl b)
  | .int i => some (.int i)
  | .str x => some (.str x)
  | _ => none
def flats : List D → Option (List V)
  | [] => some []
  | d :: ds => (flat d).bind fun k => (flats ds).map fun ks => k :: ks
mutual
def toPy : D → Option PyData
  | .non => some .none
  | .bl b => some (.bool b)
  | .int i => some (.int i)
  | .str x => some (.str x)
  | .tup ds => (toPys ds).map .tuple
  | .kt ds => (toPys ds).map .tuple
  | .lst ds => (toPys ds).map .list
  | _ => none
def toPys : List D → Option (List PyData)
  | [] => some []
  | d :: ds => (toPy d).bind fun p => (toPys ds).map fun ps => p :: ps
end
/-- the content of a list cell in place of the cell -/
def thaw (s : Store) (d : D) : D := match d with
  | .cell n => match s[n]? with
    | some (.lst ds) => .lst ds
    | _ => d
  | _ => d
/-- == -/
def eqD (s : Store) (x y : D) : Option Bool :=
  match flat x, flat y with
  | some a, some b => if scal a b then some (decide (a = b)) else none
  | _, _ => (toPy (thaw s x)).bind fun p => (toPy (thaw s y)).bind fun q => if SeqAt.shaped p && SeqAt.shaped q then some (PyData.eqv p q) else none
/-- truth -/
def tru (s : Store) (d : D) : Option Bool := match d with
  | .non => some false
  | .bl b => some b
  | .int i => some (i != 0)
  | .str x => if x.length ≤ 100000 then some ((x.length : Int) != 0) else none
  | d => match seqOf s d with
    | some (_, ds) => some !ds.isEmpty
    | none => (dkOf s d).map fun kvs => !kvs.isEmpty
def lenD (s : Store) (d : D) : Option Nat := match d with
  | .str x => if x.length ≤ 100000 then some x.length else none
  | d => match seqOf s d with
    | some (_, ds) => some ds.length
    | none => (dkOf s d).map fun kvs => kvs.length
def lookK {κ α : Type} [DecidableEq κ] (kvs : List (κ × α)) (k : κ) : Option α := (kvs.find? fun kv => decide (kv.1 = k)).map (·.2)
/-- what a dict holds at a key: (it can be asked, what it holds) -/
def dget (gd : Nat → List (Str × D)) (s : Store) (d k : D) : Option (Option D) := match d with
  | .gd j => match k with
    | .str x => (lookK (gd j) x).map some
    | _ => none
  | d => match dkOf s d with
    | some kvs => (keyOf k).map fun q => lookK kvs q
    | none => match dtOf s d, k with
      | some kvs, .tup ks => (keysOf ks).map fun q => lookK kvs q
      | _, _ => none

inductive Op2 where
  | add | sub | mul | fdiv | mod | pow | shl | shr | band | bor | bxor
  deriving DecidableEq
inductive Cmp where
  | eq | ne | lt | le | gt | ge | is_ | isNot | in_ | notIn
  deriving DecidableEq
def CMulD (i j : Int) : Bool := decide ((-(2 ^ 64) < i ∧ i < 2 ^ 64) ∨ (-(2 ^ 64) < j ∧ j < 2 ^ 64))
def CPowD (i j : Int) : Bool := decide (0 ≤ j ∧ j ≤ 1000000 ∧ i.natAbs < 2 ^ 64)
def intOp (o : Op2) (i j : Int) : Option Int := match o with
  | .add => some (i + j)
  | .sub => some (i - j)
  | .mul => if CMulD i j then some (i * j) else none
  | .fdiv => if decide (j ≠ 0 ∧ j.natAbs < 1073741824) then some (i.fdiv j) else none
  | .mod => if decide (j ≠ 0) then some (i.fmod j) else none
  | .pow => if CPowD i j then some (i ^ j.toNat) else none
  | .shl => if CPowD i j then some (i * 2 ^ j.toNat) else none
  | .shr => if decide (0 ≤ j) then some (i / 2 ^ j.toNat) else none
  | .band => some (Builtin.bitAnd i j)
  | .bor => some (Builtin.bitOr i j)
  | .bxor => some (Builtin.bitXor i j)
def isTupD : D → Bool
  | .tup _ => true
  | _ => false
def opR (o : Op2) (x y : D) (s : Store) : Option R := match x, y with
  | .int i, .int j => (intOp o i j).map fun k => .v (.int k)
  | .str a, .str b => match o with
    | .add => if a.length + b.length ≤ 100000 then some (.v (.str (a ++ b))) else none
    | _ => none
  | x, y => match o with
    | .add => match seqOf s x, seqOf s y with
      | some (false, xs), some (false, ys) => if xs.length + ys.length ≤ 100000 then some (.n (.lst (xs ++ ys))) else none
      | some (true, xs), some (true, ys) => if xs.length + ys.length ≤ 100000 ∧ (isTupD x && isTupD y || !xs.isEmpty && !ys.isEmpty) = true then some (.v (.tup (xs ++ ys))) else none
      | _, _ => none
    | .mul => match seqOf s x, y with
      | some (false, xs), .int k => if decide (-(2 ^ 63) ≤ k ∧ k < 2 ^ 63 ∧ xs.length * k.toNat ≤ 100000) then some (.n (.lst (List.replicate k.toNat xs).flatten)) else none
      | _, _ => none
    | _ => none
def intCmp (c : Cmp) (i j : Int) : Option Bool := match c with
  | .lt => some (decide (i < j))
  | .le => some (decide (i ≤ j))
  | .gt => some (decide (j < i))
  | .ge => some (decide (j ≤ i))
  | _ => none
def isNon : D → Bool
  | .non => true
  | _ => false
def inR (gd : Nat → List (Str × D)) (x y : D) (s : Store) : Option Bool := match seqOf s y with
  | some (_, ds) => (flat x).bind fun v => (flats ds).map fun vs => inV v vs
  | none => match x, y with
    | .str i, .str j => some (!(Builtin.Str.occurrences j i 0 j.length 1).isEmpty)
    | x, .gd _ => none
    | x, y => (dget gd s y x).map fun o => o.isSome
def cmpR (gd : Nat → List (Str × D)) (c : Cmp) (x y : D) (s : Store) : Option Bool := match c with
  | .eq => eqD s x y
  | .ne => (eqD s x y).map (!·)
  | .is_ => if isNon y then some (isNon x) else none
  | .isNot => if isNon y then some !(isNon x) else none
  | .in_ => inR gd x y s
  | .notIn => (inR gd x y s).map (!·)
  | c => match x, y with
    | .int i, .int j => intCmp c i j
    | .str i, .str j => if c = .lt then some (decide (i.cps.toList < j.cps.toList)) else none
    | .tup xs, .tup ys => if c = .lt then (intsOf xs).bind fun is => (intsOf ys).map fun js => HT.lexLt is js else none
    | _, _ => none

inductive Ty where
  | non | bool | int | str | tuple | list | dict | own (c : Nat)
  deriving DecidableEq
def tyOf (s : Store) : D → Option Ty
  | .non => some .non
  | .bl _ => some .bool
  | .int _ => some .int
  | .str _ => some .str
  | .tup _ => some .tuple
  | .kt _ => some .tuple
  | .lst _ => some .list
  | .dk _ => some .dict
  | .dt _ => none
  | .obj c _ => some (.own c)
  | .gd _ => none
  | .cell n => match s[n]? with
    | some (.lst _) => some .list
    | some (.dk _) => some .dict
    | some (.dt _) => some .dict
    | some (.ins c _) => some (.own c)
    | none => none
def Ty.isB : Ty → Bool
  | .own _ => false
  | _ => true
/-- isinstance: among the built-in types -/
def isTy (t u : Ty) : Bool := decide (t = u) || (decide (t = .bool) && decide (u = .int))
inductive Blt where
  | len | abs | max2 | min2 | int1 | sum | maxL | minL | any | all | sorted | list | tuple | str | range_
  deriving DecidableEq
def isort : List Int → List Int
  | [] => []
  | x :: xs => ins x (isort xs)
where ins (x : Int) : List Int → List Int
  | [] => [x]
  | y :: ys => if x ≤ y then x :: y :: ys else y :: ins x ys
def maxI : List Int → Option Int
  | [] => none
  | x :: xs => some (xs.foldl max x)
def minI : List Int → Option Int
  | [] => none
  | x :: xs => some (xs.foldl min x)
def bltR (b : Blt) (xs : List D) (s : Store) : Option R := match b, xs with
  | .len, [x] => (lenD s x).map fun (n : Nat) => R.v (.int (n : Int))
  | .abs, [.int i] => some (.v (.int (if i < 0 then -i else i)))
  | .max2, [.int i, .int j] => some (.v (.int (if j > i then j else i)))
  | .min2, [.int i, .int j] => some (.v (.int (if j < i then j else i)))
  | .int1, [.int i] => some (.v (.int i))
  | .int1, [.bl k] => some (.v (.int (if k then 1 else 0)))
  | .sum, [x] => match seqOf s x with
    | some (false, ds) => (intsOf ds).map fun ns => .v (.int ns.sum)
    | _ => none
  | .maxL, [x] => match seqOf s x with
    | some (false, ds) => (intsOf ds).bind fun ns => (maxI ns).map fun m => .v (.int m)
    | _ => none
  | .minL, [x] => match seqOf s x with
    | some (false, ds) => (intsOf ds).bind fun ns => (minI ns).map fun m => .v (.int m)
    | _ => none
  | .any, [x] => match seqOf s x with
    | some (false, ds) => (blsOf ds).map fun ns => .v (.bl (ns.any id))
    | _ => none
  | .all, [x] => match seqOf s x with
    | some (false, ds) => (blsOf ds).map fun ns => .v (.bl (ns.all id))
    | _ => none
  | .list, [x] => match seqOf s x with
    | some (_, ds) => some (.n (.lst ds))
    | _ => none
  | .tuple, [x] => match seqOf s x with
    | some (k, ds) => if k = false ∨ isTupD x = true then some (.v (.tup ds)) else some (.v x)
    | _ => none
  | .str, [.int i] => if i.natAbs.log2 < 1920 then some (.v (.str (toString i))) else none
  | _, _ => none

inductive Mt where
  | append | pop0 | popAt | extend | reverse | clear | index | get1 | get2 | insert
  deriving DecidableEq
/-- a list in a cell is changed -/
def onLst (b : Nat) (s : Store) (x : D) (f : List D → Option (D × List D)) (w : D) : Out R := match x with
  | .cell n => match s[n]? with
    | some (.lst ds) => match f ds with
      | some (r, ds') => if okW b n w && decide (ds'.length ≤ 100000) then .ok (.v r) (s.set n (.lst ds')) else .no
      | none => .no
    | _ => .no
  | _ => .no
def firstEq (v : V) : List V → Option Nat
  | [] => none
  | x :: xs => if eqV x v then some 0 else (firstEq v xs).map (· + 1)
def mtR (gd : Nat → List (Str × D)) (b : Nat) (m : Mt) (x : D) (xs : List D) (s : Store) : Out R := match m, xs with
  | .append, [y] => onLst b s x (fun ds => some (.non, ds ++ [y])) y
  | .pop0, [] => onLst b s x (fun ds => ds[ds.length - 1]?.map fun d => (d, ds.dropLast)) .non
  | .popAt, [.int i] => onLst b s x (fun ds => if decide (-(2 ^ 63) ≤ i ∧ i < 2 ^ 63) then (ixN ds.length i).bind fun k => ds[k]?.map fun d => (d, ds.eraseIdx k) else none) .non
  | .reverse, [] => onLst b s x (fun ds => some (.non, ds.reverse)) .non
  | .clear, [] => onLst b s x (fun _ => some (.non, [])) .non
  | .extend, [y] => match seqOf s y with
    | some (false, es) => onLst b s x (fun ds => some (.non, ds ++ es)) (.lst es)
    | _ => .no
  | .index, [y] => match seqOf s x with
    | some (false, ds) => Out.of s ((flat y).bind fun v => (flats ds).bind fun vs => (firstEq v vs).map fun (j : Nat) => R.v (.int (j : Int)))
    | _ => .no
  | .get1, [k] => Out.of s ((dget gd s x k).map fun o => .v (o.getD .non))
  | .get2, [k, y] => Out.of s ((dget gd s x k).map fun o => .v (o.getD y))
  | _, _ => .no
def isLst (s : Store) (d : D) : Bool := match seqOf s d with
  | some (false, _) => true
  | _ => false
/-- o[i] -/
def ixR (gd : Nat → List (Str × D)) (x i : D) (s : Store) : Option R := match x, i with
  | .str z, .int i => if z.length ≤ 100000 then (atI z.cps.toList i).map fun c => .v (.str ⟨#[c]⟩) else none
  | x, i => match seqOf s x, i with
    | some (_, ds), .int i => (atI ds i).map .v
    | _, i => match dget gd s x i with
      | some (some d) => some (.v d)
      | _ => none
/-- o[lo:hi] -/
def slR (x : D) (lo hi : Option Int) (s : Store) : Option R := match seqOf s x with
  | some (false, ds) => some (.n (.lst ((ds.drop (HT.sIx ds.length 0 lo)).take (HT.sIx ds.length ds.length hi - HT.sIx ds.length 0 lo))))
  | some (true, ds) => if isTupD x = true ∨ ¬ (HT.sIx ds.length 0 lo = 0 ∧ HT.sIx ds.length ds.length hi = ds.length) then
      some (.v (.tup ((ds.drop (HT.sIx ds.length 0 lo)).take (HT.sIx ds.length ds.length hi - HT.sIx ds.length 0 lo)))) else some (.v x)
  | none => none
def putK {κ α : Type} [DecidableEq κ] (kvs : List (κ × α)) (k : κ) (v : α) : List (κ × α) :=
  if kvs.any fun kv => decide (kv.1 = k) then kvs.map fun kv => if kv.1 = k then (kv.1, v) else kv else kvs ++ [(k, v)]
/-- o[i] = d -/
def setR (b : Nat) (x i d : D) (s : Store) : Out Unit := match x with
  | .cell n => match s[n]? with
    | some (.lst ds) => match i with
      | .int k => match ixN ds.length k with
        | some j => if okW b n d then .ok () (s.set n (.lst (ds.set j d))) else .no
        | none => .no
      | _ => .no
    | some (.dk kvs) => match keyOf i with
      | some k => if okW b n d && decide (kvs.length < 100000) then .ok () (s.set n (.dk (putK kvs k d))) else .no
      | none => .no
    | some (.dt kvs) => match i with
      | .tup ks => match keysOf ks with
        | some k => if okW b n d && decide (kvs.length < 100000) then .ok () (s.set n (.dt (putK kvs k d))) else .no
        | none => .no
      | _ => .no
    | _ => .no
  | _ => .no
def fldR (x : D) (f : Str) (s : Store) : Option R := (objOf s x).bind fun p => (p.2.lookup f).map .v
def putA {α : Type} (f : Str) (v : α) : List (Str × α) → List (Str × α)
  | [] => [(f, v)]
  | (g, w) :: r => if g = f then (g, v) :: r else (g, w) :: putA f v r
/-- o.f = d -/
def setF (b : Nat) (x : D) (f : Str) (d : D) (s : Store) : Out Unit := match x with
  | .cell n => match s[n]? with
    | some (.ins c fs) => if okW b n d && decide (fs.length < 900) then .ok () (s.set n (.ins c (putA f d fs))) else .no
    | _ => .no
  | _ => .no

mutual
inductive IE where
  | var (i : Nat) | int (i : Int) | str (x : Str) | bl (b : Bool) | non
  | gl (j : Nat)
  | op (o : Op2) (a c : IE) | neg (a : IE)
  | cmp (o : Cmp) (a c : IE) | chain (o o' : Cmp) (a c d : IE)
  | and (a c : IE) | or (a c : IE) | not (a : IE)
  | ite (t : IT) (a c : IE)
  | tup (es : IEs) | lst (es : IEs) | dnewK | dnewT
  | ix (a i : IE) | sl (a : IE) (lo hi : IO)
  | call (j : Nat) (es : IEs) | callS (j : Nat) (es : IEs)
  | blt (f : Blt) (es : IEs)
  | isin (a : IE) (t : Ty)
  | mt (m : Mt) (a : IE) (es : IEs)
  | fld (a : IE) (f : Str)
  | mcall (m : Str) (a : IE) (es : IEs)
  | make (c : Nat) (es : IEs) | makeM (c : Nat) (es : IEs)
  | mu (a : IE)
  | lc (own : List (Str × Nat)) (g : IG) (it : II) (t : IC) (e : IE)
  | lc2 (own : List (Str × Nat)) (vs : List Nat) (g : IG) (it : II) (t : IC) (g' : IG) (it' : II) (t' : IC) (e : IE)
inductive IEs where
  | nil | cons (e : IE) (es : IEs)
/-- a test -/
inductive IT where
  | e (a : IE) | and (t u : IT) | or (t u : IT) | not (t : IT)
/-- a part of a slice -/
inductive IO where
  | none | some (e : IE)
/-- what is walked -/
inductive II where
  | seq (a : IE) | rng1 (a : IE) | rng2 (a c : IE) | rng3 (a c d : IE) | enum (a : IE) | zip (a c : IE)
/-- a comprehension's test -/
inductive IC where
  | yes | t (t : IT)
/-- a target -/
inductive IG where
  | name (i : Nat) | tup (gs : IGs) | sub (a i : IE) | fld (a : IE) (f : Str)
inductive IGs where
  | nil | cons (g : IG) (gs : IGs)
end
mutual
inductive IS where
  | asg (g : IG) (e : IE)
  | par (i j : Nat) (a c : IE)
  | aug (i : Nat) (o : Op2) (e : IE)
  | expr (e : IE)
  | ret (e : IE) | retF (e : IE) | retN
  | ifs (t : IT) (a c : ISs)
  | while_ (t : IT) (a : ISs)
  | for_ (g : IG) (it : II) (a : ISs)
  | brk | cont | pass
inductive ISs where
  | nil | cons (s : IS) (ss : ISs)
end

structure Glo where
  fn : Nat → List D → Store → Out R
  ini : Nat → Nat → List D → Store → Out Unit
  gl : Nat → D
  gd : Nat → List (Str × D)
  me : Nat → Str → Option Nat
  F : Nat

inductive Itm where
  | l (ds : List D) | c (n : Nat)
def wipeE (e : Env) : List Nat → Env
  | [] => e
  | v :: vs => (wipeE e vs).set v none
def pairs2 : List D → List D → List D
  | x :: xs, y :: ys => .tup [x, y] :: pairs2 xs ys
  | _, _ => []
def enumL : Nat → List D → List D
  | _, [] => []
  | i, d :: ds => .tup [.int (i : Nat), d] :: enumL (i + 1) ds
def rngL (lo : Int) : Nat → List D
  | 0 => []
  | n + 1 => .int lo :: rngL (lo + 1) n
def rngC (lo c : Int) : Nat → List D
  | 0 => []
  | n + 1 => .int lo :: rngC (lo + c) c n
/-- a comprehension over items -/
def lcL (f : D → Store → Out (List D)) : List D → Store → Out (List D)
  | [], s => .ok [] s
  | d :: ds, s => (f d s).bind fun x s1 => (lcL f ds s1).bind fun r s2 => .ok (x ++ r) s2

/-- a call whose arguments hold no cells sees no cells -/
def callR (f : List D → Store → Out R) (xs : List D) (s : Store) : Out R :=
  if cbs 0 xs then match f xs [] with
    | .ok r _ => .ok r s
    | .ex x _ => .ex x s
    | .no => .no
  else f xs s
/-- what lies in a cell, as it stands -/
def thawA (s : Store) (d : D) : D := match d with
  | .cell n => match s[n]? with
    | some (.lst ds) => .lst ds
    | some (.dk ds) => .dk ds
    | some (.dt ds) => .dt ds
    | _ => d
  | _ => d
def flatR : R → Bool
  | .v d => (flat d).isSome
  | .n (.lst ds) => (flats ds).isSome
  | _ => false
/-- a call that looks at what the cells hold, changes none, and gives a flat thing -/
def snapR (f : List D → Store → Out R) (xs : List D) (s : Store) : Out R :=
  let ys := xs.map (thawA s)
  if cbs 0 ys then match f ys [] with
    | .ok r _ => if flatR r then .ok r s else .no
    | .ex _ _ => .no
    | .no => .no
  else .no
mutual
def evE (G : Glo) (b : Nat) : IE → Env → Store → Out R
  | .var i, e, s => (match e[i]? with
    | some (some d) => .ok (.v d) s
    | _ => .no)
  | .int i, _, s => .ok (.v (.int i)) s
  | .str x, _, s => .ok (.v (.str x)) s
  | .bl x, _, s => .ok (.v (.bl x)) s
  | .non, _, s => .ok (.v .non) s
  | .gl j, _, s => .ok (.v (G.gl j)) s
  | .op o a c, e, s => (evE G b a e s).bind fun x s1 => (evE G b c e s1).bind fun y s2 => Out.of s2 (opR o x.d y.d s2)
  | .neg a, e, s => (evE G b a e s).bind fun x s1 => (match x.d with
    | .int i => .ok (.v (.int (-i))) s1
    | _ => .no)
  | .cmp o a c, e, s => (evE G b a e s).bind fun x s1 => (evE G b c e s1).bind fun y s2 => Out.of s2 ((cmpR G.gd o x.d y.d s2).map fun k => .v (.bl k))
  | .chain o o' a c d, e, s => (evE G b a e s).bind fun x s1 => (evE G b c e s1).bind fun y s2 => (Out.of s2 (cmpR G.gd o x.d y.d s2)).bind fun k s3 =>
      if k then (evE G b d e s3).bind fun z s4 => Out.of s4 ((cmpR G.gd o' y.d z.d s4).map fun k => .v (.bl k)) else .ok (.v (.bl false)) s3
  | .and a c, e, s => (evE G b a e s).bind fun x s1 => (match x.d with
    | .bl true => evE G b c e s1
    | .bl false => .ok (.v (.bl false)) s1
    | _ => .no)
  | .or a c, e, s => (evE G b a e s).bind fun x s1 => (match x.d with
    | .bl true => .ok (.v (.bl true)) s1
    | .bl false => evE G b c e s1
    | _ => .no)
  | .not a, e, s => (evE G b a e s).bind fun x s1 => (match x.d with
    | .bl k => .ok (.v (.bl !k)) s1
    | _ => .no)
  | .ite t a c, e, s => (evT G b t e s).bind fun k s1 => if k then evE G b a e s1 else evE G b c e s1
  | .tup es, e, s => (evEs G b es e s).bind fun xs s1 => if xs.length ≤ 100000 then .ok (.v (.tup xs)) s1 else .no
  | .lst es, e, s => (evEs G b es e s).bind fun xs s1 => if xs.length ≤ 100000 then .ok (.n (.lst xs)) s1 else .no
  | .dnewK, _, s => .ok (.n (.dk [])) s
  | .dnewT, _, s => .ok (.n (.dt [])) s
  | .ix a i, e, s => (evE G b a e s).bind fun x s1 => (evE G b i e s1).bind fun y s2 => Out.of s2 (ixR G.gd x.d y.d s2)
  | .sl a lo hi, e, s => (evE G b a e s).bind fun x s1 => (evO G b lo e s1).bind fun l s2 => (evO G b hi e s2).bind fun h s3 => Out.of s3 (slR x.d l h s3)
  | .call j es, e, s => (evEs G b es e s).bind fun xs s1 => callR (G.fn j) xs s1
  | .callS j es, e, s => (evEs G b es e s).bind fun xs s1 => snapR (G.fn j) xs s1
  | .blt f es, e, s => (evEs G b es e s).bind fun xs s1 => Out.of s1 (bltR f xs s1)
  | .isin a t, e, s => (evE G b a e s).bind fun x s1 => (match tyOf s1 x.d with
    | some u => if u.isB then .ok (.v (.bl (isTy u t))) s1 else .no
    | none => .no)
  | .mt m a es, e, s => (evE G b a e s).bind fun x s1 => if isLst s1 x.d then (evEs G b es e s1).bind fun xs s2 => mtR G.gd b m x.d xs s2 else .no
  | .fld a f, e, s => (evE G b a e s).bind fun x s1 => Out.of s1 (fldR x.d f s1)
  | .mcall m a es, e, s => (evE G b a e s).bind fun x s1 => (match objOf s1 x.d with
    | some (c, fs) => (match G.me c m, fs.lookup m with
      | some j, none => (evEs G b es e s1).bind fun xs s2 => G.fn j (x.d :: xs) s2
      | _, _ => .no)
    | none => .no)
  | .make c es, e, s => (evEs G b es e s).bind fun xs s1 => (G.ini s1.length c (.cell s1.length :: xs) (s1 ++ [.ins c []])).bind fun _ s2 => (match s2[s1.length]? with
    | some (.ins c' fs) => if decide (c' = c) && cbf s1.length fs then .ok (.n (.ins c fs)) (s2.take s1.length) else .no
    | _ => .no)
  | .makeM c es, e, s => (evEs G b es e s).bind fun xs s1 => (G.ini b c (.cell s1.length :: xs) (s1 ++ [.ins c []])).bind fun _ s2 => .ok (.v (.cell s1.length)) s2
  | .mu a, e, s => (evE G b a e s).bind fun x s1 => (match x with
    | .n o => .ok (.v (.cell s1.length)) (s1 ++ [o])
    | .v _ => .no)
  | .lc own g it t x, e, s => (evI G b it e s).bind fun m s0 => (match m with
    | .l ds => if ds.length ≤ 100000 then (lcL (fun d s1 => (asG G b g d (wipeE e (own.map (·.2))) s1).bind fun e2 s2 => (evC G b t e2 s2).bind fun k s3 =>
        if k then (evE G b x e2 s3).bind fun r s4 => .ok [r.d] s4 else .ok [] s3) ds s0).bind fun r s5 => .ok (.n (.lst r)) s5 else .no
    | .c _ => .no)
  | .lc2 own vs g it t g' it' t' x, e, s => (evI G b it e s).bind fun m s0 => (match m with
    | .l ds => (lcL (fun d s1 => (asG G b g d (wipeE e (own.map (·.2))) s1).bind fun e2 s2 => (evC G b t e2 s2).bind fun k s3 =>
        if k then (evI G b it' e2 s3).bind fun m' s4 => (match m' with
          | .l ds' => lcL (fun d' s5 => (asG G b g' d' (wipeE e2 vs) s5).bind fun e3 s6 => (evC G b t' e3 s6).bind fun k' s7 =>
              if k' then (evE G b x e3 s7).bind fun r s8 => .ok [r.d] s8 else .ok [] s7) ds' s4
          | .c _ => .no)
        else .ok [] s3) ds s0).bind fun r s5 => if r.length ≤ 100000 then .ok (.n (.lst r)) s5 else .no
    | .c _ => .no)
def evEs (G : Glo) (b : Nat) : IEs → Env → Store → Out (List D)
  | .nil, _, s => .ok [] s
  | .cons a es, e, s => (evE G b a e s).bind fun x s1 => (evEs G b es e s1).bind fun xs s2 => .ok (x.d :: xs) s2
def evT (G : Glo) (b : Nat) : IT → Env → Store → Out Bool
  | .e a, e, s => (evE G b a e s).bind fun x s1 => Out.of s1 (tru s1 x.d)
  | .and t u, e, s => (evT G b t e s).bind fun k s1 => if k then evT G b u e s1 else .ok false s1
  | .or t u, e, s => (evT G b t e s).bind fun k s1 => if k then .ok true s1 else evT G b u e s1
  | .not t, e, s => (evT G b t e s).bind fun k s1 => .ok (!k) s1
def evO (G : Glo) (b : Nat) : IO → Env → Store → Out (Option Int)
  | .none, _, s => .ok none s
  | .some a, e, s => (evE G b a e s).bind fun x s1 => (match x.d with
    | .int i => .ok (some i) s1
    | _ => .no)
def evC (G : Glo) (b : Nat) : IC → Env → Store → Out Bool
  | .yes, _, s => .ok true s
  | .t t, e, s => evT G b t e s
def evI (G : Glo) (b : Nat) : II → Env → Store → Out Itm
  | .seq a, e, s => (evE G b a e s).bind fun x s1 => (match x.d with
    | .lst ds => .ok (.l ds) s1
    | .tup ds => .ok (.l ds) s1
    | .kt ds => .ok (.l ds) s1
    | .cell n => (match s1[n]? with
      | some (.lst _) => .ok (.c n) s1
      | _ => .no)
    | .str z => .ok (.l (z.cps.toList.map fun c => .str ⟨#[c]⟩)) s1
    | _ => .no)
  | .rng1 a, e, s => (evE G b a e s).bind fun x s1 => (match x.d with
    | .int n => if decide (-(2 ^ 62) ≤ n ∧ n < 2 ^ 62) then .ok (.l (rngL 0 n.toNat)) s1 else .no
    | _ => .no)
  | .rng2 a c, e, s => (evE G b a e s).bind fun x s1 => (evE G b c e s1).bind fun y s2 => (match x.d, y.d with
    | .int i, .int j => if decide (-(2 ^ 62) ≤ i ∧ i < 2 ^ 62 ∧ -(2 ^ 62) ≤ j ∧ j < 2 ^ 62) then .ok (.l (rngL i (j - i).toNat)) s2 else .no
    | _, _ => .no)
  | .rng3 a c d, e, s => .no
  | .enum a, e, s => (evE G b a e s).bind fun x s1 => (match x.d with
    | .lst ds => .ok (.l (enumL 0 ds)) s1
    | .tup ds => .ok (.l (enumL 0 ds)) s1
    | _ => .no)
  | .zip a c, e, s => (evE G b a e s).bind fun x s1 => (evE G b c e s1).bind fun y s2 => (match x.d, y.d with
    | .lst xs, .lst ys => .ok (.l (pairs2 xs ys)) s2
    | _, _ => .no)
def asG (G : Glo) (b : Nat) : IG → D → Env → Store → Out Env
  | .name i, d, e, s => .ok (e.set i (some d)) s
  | .tup gs, d, e, s => (match d with
    | .tup ds => asGs G b gs ds e s
    | .kt ds => asGs G b gs ds e s
    | .lst ds => asGs G b gs ds e s
    | _ => .no)
  | .sub a i, d, e, s => (evE G b a e s).bind fun x s1 => (evE G b i e s1).bind fun y s2 => (setR b x.d y.d d s2).bind fun _ s3 => .ok e s3
  | .fld a f, d, e, s => (evE G b a e s).bind fun x s1 => (setF b x.d f d s1).bind fun _ s2 => .ok e s2
def asGs (G : Glo) (b : Nat) : IGs → List D → Env → Store → Out Env
  | .nil, ds, e, s => (match ds with
    | [] => .ok e s
    | _ => .no)
  | .cons g gs, ds, e, s => (match ds with
    | [] => .no
    | d :: ds => (asG G b g d e s).bind fun e1 s1 => asGs G b gs ds e1 s1)
end

inductive Ctl where
  | nx | bk | ct | ret (r : R) | retc (n : Nat)
/-- where a loop goes on -/
def Ctl.goes : Ctl → Bool
  | .nx => true
  | .ct => true
  | _ => false
/-- what a loop hands on -/
def Ctl.out : Ctl → Ctl
  | .bk => .nx
  | c => c
def forL (f : D → Env → Store → Out (Ctl × Env)) : List D → Env → Store → Out (Ctl × Env)
  | [], e, s => .ok (.nx, e) s
  | d :: ds, e, s => (f d e s).bind fun r s1 => if r.1.goes then forL f ds r.2 s1 else .ok (r.1.out, r.2) s1
/-- over a list in a cell, as it stands at each turn -/
def forC (f : D → Env → Store → Out (Ctl × Env)) (n : Nat) : Nat → Nat → Env → Store → Out (Ctl × Env)
  | 0, _, _, _ => .no
  | F + 1, i, e, s => match s[n]? with
    | some (.lst ds) => match ds[i]? with
      | none => .ok (.nx, e) s
      | some d => (f d e s).bind fun r s1 => if r.1.goes then forC f n F (i + 1) r.2 s1 else .ok (r.1.out, r.2) s1
    | _ => .no
def whileL (t : Env → Store → Out Bool) (f : Env → Store → Out (Ctl × Env)) : Nat → Env → Store → Out (Ctl × Env)
  | 0, _, _ => .no
  | F + 1, e, s => (t e s).bind fun k s1 => if k then (f e s1).bind fun r s2 => if r.1.goes then whileL t f F r.2 s2 else .ok (r.1.out, r.2) s2 else .ok (.nx, e) s1
mutual
def exS (G : Glo) (b : Nat) : IS → Env → Store → Out (Ctl × Env)
  | .asg g x, e, s => (evE G b x e s).bind fun r s1 => (asG G b g r.d e s1).bind fun e1 s2 => .ok (.nx, e1) s2
  | .par i j x y, e, s => (evE G b x e s).bind fun r s1 => (evE G b y e s1).bind fun q s2 => .ok (.nx, (e.set i (some r.d)).set j (some q.d)) s2
  | .aug i o x, e, s => (match e[i]? with
    | some (some (.int n)) => (evE G b x e s).bind fun r s1 => (match r.d with
      | .int m => (match intOp o n m with
        | some k => if o = .add ∨ o = .sub then .ok (.nx, e.set i (some (.int k))) s1 else .no
        | none => .no)
      | _ => .no)
    | _ => .no)
  | .expr x, e, s => (evE G b x e s).bind fun _ s1 => .ok (.nx, e) s1
  | .ret x, e, s => (evE G b x e s).bind fun r s1 => .ok (.ret r, e) s1
  | .retF x, e, s => (evE G b x e s).bind fun r s1 => (match r with
    | .v (.cell n) => .ok (.retc n, e) s1
    | _ => .no)
  | .retN, e, s => .ok (.ret (.v .non), e) s
  | .ifs t a c, e, s => (evT G b t e s).bind fun k s1 => if k then exSs G b a e s1 else exSs G b c e s1
  | .while_ t a, e, s => whileL (evT G b t) (exSs G b a) G.F e s
  | .for_ g it a, e, s => (evI G b it e s).bind fun m s1 => (match m with
    | .l ds => forL (fun d e1 s2 => (asG G b g d e1 s2).bind fun e2 s3 => exSs G b a e2 s3) ds e s1
    | .c n => forC (fun d e1 s2 => (asG G b g d e1 s2).bind fun e2 s3 => exSs G b a e2 s3) n G.F 0 e s1)
  | .brk, e, s => .ok (.bk, e) s
  | .cont, e, s => .ok (.ct, e) s
  | .pass, e, s => .ok (.nx, e) s
def exSs (G : Glo) (b : Nat) : ISs → Env → Store → Out (Ctl × Env)
  | .nil, e, s => .ok (.nx, e) s
  | .cons x xs, e, s => (exS G b x e s).bind fun r s1 => (match r.1 with
    | .nx => exSs G b xs r.2 s1
    | _ => .ok r s1)
end
/-- the end of a def's body: its own cells go -/
def endR (b : Nat) (c : Ctl) (s : Store) : Out R := match c with
  | .nx => .ok (.v .non) (s.take b)
  | .ret (.v d) => if cb b d then .ok (.v d) (s.take b) else .no
  | .ret (.n o) => if cbO b o then .ok (.n o) (s.take b) else .no
  | .retc n => match s[n]? with
    | some o => if decide (b ≤ n) && cbO b o then .ok (.n o) (s.take b) else .no
    | none => .no
  | _ => .no
structure Def where
  slots : Nat
  params : Nat
  body : ISs
def envOf (d : Def) (xs : List D) : Env := xs.map some ++ List.replicate (d.slots - xs.length) none
def runF (G : Glo) (d : Def) (xs : List D) (s : Store) : Out R :=
  if xs.length = d.params then (exSs G s.length d.body (envOf d xs) s).bind fun r s1 => endR s.length r.1 s1 else .no
/-- an __init__: its cells stay -/
def runI (G : Glo) (b : Nat) (d : Def) (xs : List D) (s : Store) : Out Unit :=
  if xs.length = d.params then (exSs G b d.body (envOf d xs) s).bind fun r s1 => (match r.1 with
    | .nx => .ok () s1
    | .ret (.v .non) => .ok () s1
    | _ => .no) else .no
end En

set_option Elab.async false
set_option linter.all false
set_option maxRecDepth 100000
set_option maxHeartbeats 1000000
namespace En
open PySem PySem.Spec PyProof.Rows L2

mutual
theorem cb_mono {b c : Nat} (h : b ≤ c) : ∀ d : D, cb b d = true → cb c d = true
  | .tup ds, q => cbs_mono h ds q
  | .kt ds, q => cbs_mono h ds q
  | .lst ds, q => cbs_mono h ds q
  | .dk kvs, q => cbk_mono h kvs q
  | .dt kvs, q => cbt_mono h kvs q
  | .obj _ fs, q => cbf_mono h fs q
  | .cell n, q => by simp only [cb, decide_eq_true_eq] at q ⊢; omega
  | .non, _ => rfl
  | .bl _, _ => rfl
  | .int _, _ => rfl
  | .str _, _ => rfl
  | .gd _, _ => rfl
theorem cbs_mono {b c : Nat} (h : b ≤ c) : ∀ ds : List D, cbs b ds = true → cbs c ds = true
  | [], _ => rfl
  | d :: ds, q => by
    simp only [cbs, Bool.and_eq_true] at q ⊢
    exact ⟨cb_mono h d q.1, cbs_mono h ds q.2⟩
theorem cbk_mono {b c : Nat} (h : b ≤ c) : ∀ ds : List (Key × D), cbk b ds = true → cbk c ds = true
  | [], _ => rfl
  | (_, d) :: ds, q => by
    simp only [cbk, Bool.and_eq_true] at q ⊢
    exact ⟨cb_mono h d q.1, cbk_mono h ds q.2⟩
theorem cbt_mono {b c : Nat} (h : b ≤ c) : ∀ ds : List (List Key × D), cbt b ds = true → cbt c ds = true
  | [], _ => rfl
  | (_, d) :: ds, q => by
    simp only [cbt, Bool.and_eq_true] at q ⊢
    exact ⟨cb_mono h d q.1, cbt_mono h ds q.2⟩
theorem cbf_mono {b c : Nat} (h : b ≤ c) : ∀ ds : List (Str × D), cbf b ds = true → cbf c ds = true
  | [], _ => rfl
  | (_, d) :: ds, q => by
    simp only [cbf, Bool.and_eq_true] at q ⊢
    exact ⟨cb_mono h d q.1, cbf_mono h ds q.2⟩
end
theorem cbs_iff {b : Nat} : ∀ {ds : List D}, cbs b ds = true ↔ ∀ d ∈ ds, cb b d = true
  | [] => by simp [cbs]
  | d :: ds => by simp only [cbs, Bool.and_eq_true, cbs_iff (ds := ds), List.mem_cons, forall_eq_or_imp]
theorem cbk_iff {b : Nat} : ∀ {ds : List (Key × D)}, cbk b ds = true ↔ ∀ p ∈ ds, cb b p.2 = true
  | [] => by simp [cbk]
  | (k, d) :: ds => by simp only [cbk, Bool.and_eq_true, cbk_iff (ds := ds), List.mem_cons, forall_eq_or_imp]
theorem cbt_iff {b : Nat} : ∀ {ds : List (List Key × D)}, cbt b ds = true ↔ ∀ p ∈ ds, cb b p.2 = true
  | [] => by simp [cbt]
  | (k, d) :: ds => by simp only [cbt, Bool.and_eq_true, cbt_iff (ds := ds), List.mem_cons, forall_eq_or_imp]
theorem cbf_iff {b : Nat} : ∀ {ds : List (Str × D)}, cbf b ds = true ↔ ∀ p ∈ ds, cb b p.2 = true
  | [] => by simp [cbf]
  | (k, d) :: ds => by simp only [cbf, Bool.and_eq_true, cbf_iff (ds := ds), List.mem_cons, forall_eq_or_imp]

def OldOk (b : Nat) (st : Store) : Prop := ∀ (n : Nat) (o : O), n < b → st[n]? = some o → cbO b o = true
structure Stp (b : Nat) (H : Hp) (cm : List Addr) (st : Store) (H' : Hp) (cm' : List Addr) (st' : Store) : Prop where
  step : Step H cm H' cm'
  kp : ∀ b', b' ≤ b → OldOk b' st → OldOk b' st'
  len : st.length ≤ st'.length
theorem Stp.refl {b : Nat} {H : Hp} {cm : List Addr} {st : Store} : Stp b H cm st H cm st := ⟨.refl _ _, fun _ _ h => h, Nat.le_refl _⟩
theorem Stp.trans {b : Nat} {H H1 H2 : Hp} {cm cm1 cm2 : List Addr} {st st1 st2 : Store} (s : Stp b H cm st H1 cm1 st1) (t : Stp b H1 cm1 st1 H2 cm2 st2) : Stp b H cm st H2 cm2 st2 :=
  ⟨s.step.trans t.step, fun b' h q => t.kp b' h (s.kp b' h q), Nat.le_trans s.len t.len⟩
theorem Stp.keep {b : Nat} {H H' : Hp} {cm : List Addr} {st : Store} (e : ∀ a u, H a = some u → H' a = some u) : Stp b H cm st H' cm st := ⟨.keep e, fun _ _ h => h, Nat.le_refl _⟩
theorem Stp.less {b b' : Nat} {H H' : Hp} {cm cm' : List Addr} {st st' : Store} (s : Stp b H cm st H' cm' st') (h : b' ≤ b) : Stp b' H cm st H' cm' st' := ⟨s.step, fun c hc q => s.kp c (Nat.le_trans hc h) q, s.len⟩

/-- what an expression leaves; fx: what nobody may know -/
def Po (L : Lk) (fx : List Addr) (b : Nat) (H : Hp) (cm : List Addr) (st : Store) (v : V) (r : R) (H' : Hp) (cm' : List Addr) (st' : Store) : Prop :=
  Stp b H cm st H' cm' st' ∧ match r with
  | .v d => Valid L H' (fx ++ cm') cm' st' ∧ Rep L H' (fx ++ cm') cm' v d
  | .n o => ∃ p, v = .ref p ∧ H p = none ∧ p ∉ fx ++ cm' ∧ Valid L H' (fx ++ cm' ++ [p]) cm' st' ∧ ORep L H' (fx ++ cm' ++ [p]) cm' p o
section
variable {L : Lk} {b : Nat} {H H' H1 : Hp} {fx cm cm' cm1 : List Addr} {st st' st1 : Store} {v : V} {r : R}
theorem orep_d {p : Addr} {o : O} {fb : List Addr} (hp : p ∉ fb) (h : ORep L H (fb ++ [p]) cm p o) : Rep L H fb cm (.ref p) o.d := by
  have le : ∀ b ∈ fb, b ∈ fb ++ [p] := fun b m => List.mem_append_left _ m
  cases o with
  | lst ds => obtain ⟨xs, h1, h2⟩ := h; exact .lst hp (.inl h1) (h2.less le)
  | dk ds => obtain ⟨xs, h1, h2, h3⟩ := h; exact .dk hp (.inl h1) h2 (h3.less le)
  | dt ds => obtain ⟨xs, h1, h2, h3⟩ := h; exact .dt hp (.inl h1) h2 (h3.less le)
  | ins c ds => obtain ⟨dx, xs, h1, h2, h3⟩ := h; exact .obj hp h1 h2 (h3.less le)
theorem Po.d (h : Po L fx b H cm st v r H' cm' st') : Stp b H cm st H' cm' st' ∧ Valid L H' (fx ++ cm') cm' st' ∧ Rep L H' (fx ++ cm') cm' v r.d := by
  obtain ⟨s, h⟩ := h
  cases r with
  | v d => exact ⟨s, h.1, h.2⟩
  | n o =>
    obtain ⟨p, rfl, _, hp, W, q⟩ := h
    exact ⟨s, W.less (fun b m => List.mem_append_left _ m) fun a m => List.mem_append_right _ m, orep_d hp q⟩
theorem Po.after (s : Stp b H cm st H1 cm1 st1) (h : Po L fx b H1 cm1 st1 v r H' cm' st') : Po L fx b H cm st v r H' cm' st' := by
  obtain ⟨t, h⟩ := h
  refine ⟨s.trans t, ?_⟩
  cases r with
  | v d => exact h
  | n o =>
    obtain ⟨p, h0, h1, h2⟩ := h
    exact ⟨p, h0, s.step.free h1, h2⟩
theorem po_val {d : D} (W : Valid L H (fx ++ cm) cm st) (h : Rep L H (fx ++ cm) cm v d) : Po L fx b H cm st v (.v d) H cm st := ⟨.refl, W, h⟩
theorem po_tup {p : Addr} {xs : List V} {ds : List D} (W : Valid L H (fx ++ cm) cm st) (h : Reps L H (fx ++ cm) cm xs ds) (n : H p = none) : Po L fx b H cm st (.ref p) (.v (.tup ds)) (upd H p (.tup xs)) cm st :=
  ⟨.keep (keep_new n), W.keep (keep_new n), .tup (W.nin n) upd_same (h.ext fun a o _ => keep_new n a o)⟩
theorem po_lst {p : Addr} {xs : List V} {ds : List D} (W : Valid L H (fx ++ cm) cm st) (h : Reps L H (fx ++ cm) cm xs ds) (n : H p = none) : Po L fx b H cm st (.ref p) (.n (.lst ds)) (upd H p (.lst xs)) cm st :=
  ⟨.keep (keep_new n), p, rfl, n, W.nin n, W.new n, xs, upd_same, h.new n⟩
theorem po_dk0 {p : Addr} (W : Valid L H (fx ++ cm) cm st) (n : H p = none) : Po L fx b H cm st (.ref p) (.n (.dk [])) (upd H p (.dK [])) cm st :=
  ⟨.keep (keep_new n), p, rfl, n, W.nin n, W.new n, [], upd_same, rfl, .nil⟩
theorem po_dt0 {p : Addr} (W : Valid L H (fx ++ cm) cm st) (n : H p = none) : Po L fx b H cm st (.ref p) (.n (.dt [])) (upd H p (.dT [])) cm st :=
  ⟨.keep (keep_new n), p, rfl, n, W.nin n, W.new n, [], upd_same, rfl, .nil⟩
theorem ext_cell {a : Addr} {u : HO} (m : a ∈ cm) : Ext (fx ++ cm) H (upd H a u) := fun c q nc h => by
  rw [upd_ne (fun z => nc (by rw [z]; exact List.mem_append_right _ m))]
  exact h
/-- a cell is written -/
theorem wr_ok {n : Nat} {a : Addr} {o o' : O} {u : HO} (W : Valid L H (fx ++ cm) cm st) (hn : st[n]? = some o) (ha : cm[n]? = some a) (new : ORep L (upd H a u) (fx ++ cm) cm a o') (hw : b ≤ n ∨ ∀ b', cbO b' o = true → cbO b' o' = true) :
    Stp b H cm st (upd H a u) cm (st.set n o') ∧ Valid L (upd H a u) (fx ++ cm) cm (st.set n o') := by
  have ma : a ∈ cm := List.mem_of_getElem? ha
  have ext : Ext cm H (upd H a u) := fun c q nc h => by
    rw [upd_ne (fun z => nc (by rw [z]; exact ma))]
    exact h
  have hl : n < st.length := (List.getElem?_eq_some_iff.mp hn).1
  have trk : ∀ c q, H c = some q → ∃ q', upd H a u c = some q' := fun c q h => by
    by_cases z : c = a
    · exact ⟨u, by rw [z]; exact upd_same⟩
    · exact ⟨q, by rw [upd_ne z]; exact h⟩
  refine ⟨⟨⟨ext, ⟨[], by simp, by simp⟩, trk⟩, fun b' hb old m q hm e => ?_, by rw [List.length_set]; exact Nat.le_refl _⟩, by rw [List.length_set]; exact W.len, W.nd, W.sub, fun c m => let ⟨q, h⟩ := W.trk c m; trk c q h, fun m q e => ?_⟩
  · by_cases z : n = m
    · subst z
      rw [List.getElem?_set_self hl] at e
      cases e
      rcases hw with hw | hw
      · omega
      · exact hw b' (old n o hm hn)
    · rw [List.getElem?_set_ne z] at e
      exact old m q hm e
  · by_cases z : n = m
    · subst z
      rw [List.getElem?_set_self hl] at e
      cases e
      exact ⟨a, ha, new⟩
    · rw [List.getElem?_set_ne z] at e
      obtain ⟨c, hc, oc⟩ := W.cells m q e
      refine ⟨c, hc, oc.ext (ext_cell ma) (upd_ne fun y => z ?_)⟩
      subst y
      exact (List.getElem?_inj (by rw [W.len]; exact hl) W.nd).mp (ha.trans hc.symm)
end

section
variable {L : Lk} {H : Hp} {fb cm : List Addr} {st : Store} {v : V} {d : D}
theorem flat_rep {x : V} (h : Rep L H fb cm v d) (e : flat d = some x) : v = x := by
  cases h <;> simp only [flat, Option.some.injEq, reduceCtorEq] at e <;> exact e
theorem flat_isV {x : V} (e : flat d = some x) : flatV x = true := by
  cases d <;> simp only [flat, Option.some.injEq, reduceCtorEq] at e <;> subst e <;> rfl
theorem flats_rep : ∀ {vs : List V} {ds : List D} {xs : List V}, Reps L H fb cm vs ds → flats ds = some xs → vs = xs ∧ xs.all flatV = true
  | _, _, _, .nil, e => by cases e; exact ⟨rfl, rfl⟩
  | _, _, _, .cons (d := d) (ds := ds) r t, e => by
    simp only [flats, Option.bind_eq_some_iff, Option.map_eq_some_iff] at e
    obtain ⟨x, e1, xs, e2, rfl⟩ := e
    obtain ⟨e3, e4⟩ := flats_rep t e2
    exact ⟨by rw [flat_rep r e1, e3], by rw [List.all_cons, flat_isV e1, e4]; rfl⟩
theorem ints_rep : ∀ {vs : List V} {ds : List D} {ns : List Int}, Reps L H fb cm vs ds → intsOf ds = some ns → vs = ns.map V.int
  | _, _, _, .nil, e => by cases e; rfl
  | _, _, _, .cons r t, e => by
    cases r <;> simp only [intsOf, Option.map_eq_some_iff, reduceCtorEq] at e
    obtain ⟨ns, e2, rfl⟩ := e
    rw [ints_rep t e2]
    rfl
theorem bls_rep : ∀ {vs : List V} {ds : List D} {ns : List Bool}, Reps L H fb cm vs ds → blsOf ds = some ns → vs = ns.map V.bl
  | _, _, _, .nil, e => by cases e; rfl
  | _, _, _, .cons r t, e => by
    cases r <;> simp only [blsOf, Option.map_eq_some_iff, reduceCtorEq] at e
    obtain ⟨ns, e2, rfl⟩ := e
    rw [bls_rep t e2]
    rfl
theorem key_rep {k : Key} (h : Rep L H fb cm v d) (e : keyOf d = some k) : v = kV k := by
  cases h <;> simp only [keyOf, Option.some.injEq, reduceCtorEq] at e <;> subst e <;> rfl
theorem keys_rep : ∀ {vs : List V} {ds : List D} {ks : List Key}, Reps L H fb cm vs ds → keysOf ds = some ks → vs = ks.map kV
  | _, _, _, .nil, e => by cases e; rfl
  | _, _, _, .cons r t, e => by
    simp only [keysOf, Option.bind_eq_some_iff, Option.map_eq_some_iff] at e
    obtain ⟨k, e1, ks, e2, rfl⟩ := e
    rw [key_rep r e1, keys_rep t e2]
    rfl
theorem KL.sq {K : PySem.W.Frag} {H : Hp} {a : Addr} {xs : List V} (h : KL K a xs) : SqL K H a xs := by
  obtain ⟨its, n, h1, h2, h3⟩ := h
  exact .inr ⟨_, its, n, h1, rfl, rfl, rfl, h2, h3⟩
def Ql (K : PySem.W.Frag) (H : Hp) (a : Addr) (xs : List V) : Prop := Rd H a (.lst xs) ∨ KL K a xs
theorem Ql.sq {K : PySem.W.Frag} {H : Hp} {a : Addr} {xs : List V} (h : Ql K H a xs) : SqL K H a xs := h.elim .inl fun z => z.sq
theorem KT.sq {K : PySem.W.Frag} {a : Addr} {xs : List V} (h : KT K a xs) : SqT K H a xs := .inr h
/-- a list or a tuple that may be read -/
theorem seq_rep {k : Bool} {ds : List D} (V : Valid L H fb cm st) (h : Rep L H fb cm v d) (e : seqOf st d = some (k, ds)) :
    ∃ a vs, v = .ref a ∧ Reps L H fb cm vs ds ∧ (k = false → Ql L.K H a vs) ∧ (k = true → SqT L.K H a vs) := by
  cases h <;> simp only [seqOf, Option.some.injEq, Prod.mk.injEq, reduceCtorEq] at e
  case tup a xs ds' n t r =>
    obtain ⟨rfl, rfl⟩ := e
    exact ⟨a, xs, rfl, r, (fun z => nomatch z), fun _ => SqT.of t⟩
  case lst a xs ds' n t r =>
    obtain ⟨rfl, rfl⟩ := e
    exact ⟨a, xs, rfl, r, fun _ => .inl t, (fun z => nomatch z)⟩
  case kl a xs ds' n r =>
    obtain ⟨rfl, rfl⟩ := e
    exact ⟨a, xs, rfl, r, fun _ => .inr n, (fun z => nomatch z)⟩
  case kt a xs ds' n r =>
    obtain ⟨rfl, rfl⟩ := e
    exact ⟨a, xs, rfl, r, (fun z => nomatch z), fun _ => n.sq⟩
  case cell n a c =>
    split at e
    · rename_i es he
      cases e
      obtain ⟨xs, h1, h2⟩ := V.cell he c
      exact ⟨a, xs, rfl, h2, fun _ => .inl (.inl h1), (fun z => nomatch z)⟩
    · cases e
theorem seq_or {k : Bool} {a : Addr} {vs : List V} (h1 : k = false → Ql L.K H a vs) (h2 : k = true → SqT L.K H a vs) : SqL L.K H a vs ∨ SqT L.K H a vs := by
  cases k with
  | false => exact .inl (h1 rfl).sq
  | true => exact .inr (h2 rfl)
theorem dk_rep {ds : List (Key × D)} (V : Valid L H fb cm st) (h : Rep L H fb cm v d) (e : dkOf st d = some ds) :
    ∃ a kvs, v = .ref a ∧ Rd H a (.dK kvs) ∧ kvs.map (·.1) = ds.map (·.1) ∧ Reps L H fb cm (kvs.map (·.2)) (ds.map (·.2)) := by
  cases h <;> simp only [dkOf, Option.some.injEq, reduceCtorEq] at e
  case dk a xs ds' n t q r =>
    subst e
    exact ⟨a, xs, rfl, t, q, r⟩
  case cell n a c =>
    split at e
    · rename_i es he
      cases e
      obtain ⟨xs, h1, h2, h3⟩ := V.cell he c
      exact ⟨a, xs, rfl, .inl h1, h2, h3⟩
    · cases e
theorem dt_rep {ds : List (List Key × D)} (V : Valid L H fb cm st) (h : Rep L H fb cm v d) (e : dtOf st d = some ds) :
    ∃ a kvs, v = .ref a ∧ Rd H a (.dT kvs) ∧ kvs.map (·.1) = ds.map (·.1) ∧ Reps L H fb cm (kvs.map (·.2)) (ds.map (·.2)) := by
  cases h <;> simp only [dtOf, Option.some.injEq, reduceCtorEq] at e
  case dt a xs ds' n t q r =>
    subst e
    exact ⟨a, xs, rfl, t, q, r⟩
  case cell n a c =>
    split at e
    · rename_i es he
      cases e
      obtain ⟨xs, h1, h2, h3⟩ := V.cell he c
      exact ⟨a, xs, rfl, .inl h1, h2, h3⟩
    · cases e
theorem obj_rep {c : Nat} {ds : List (Str × D)} (V : Valid L H fb cm st) (h : Rep L H fb cm v d) (e : objOf st d = some (c, ds)) :
    ∃ a dx fs, v = .ref a ∧ H a = some (.ins (L.ca c) dx fs) ∧ fs.map (·.1) = ds.map (·.1) ∧ Reps L H fb cm (fs.map (·.2)) (ds.map (·.2)) := by
  cases h <;> simp only [objOf, Option.some.injEq, Prod.mk.injEq, reduceCtorEq] at e
  case obj a dx c' fs ds' n t q r =>
    obtain ⟨rfl, rfl⟩ := e
    exact ⟨a, dx, fs, rfl, t, q, r⟩
  case cell n a c' =>
    split at e
    · rename_i es he hh
      cases e
      obtain ⟨dx, xs, h1, h2, h3⟩ := V.cell hh c'
      exact ⟨a, dx, xs, rfl, h1, h2, h3⟩
    · cases e
/-- looking up, by keys -/
theorem look_rep {κ : Type} [DecidableEq κ] (k : κ) : ∀ {xs : List (κ × V)} {ds : List (κ × D)}, xs.map (·.1) = ds.map (·.1) → Reps L H fb cm (xs.map (·.2)) (ds.map (·.2)) →
    (lookK ds k = none → valV xs k = none) ∧ ∀ d, lookK ds k = some d → ∃ v, valV xs k = some v ∧ Rep L H fb cm v d
  | [], [], _, _ => ⟨fun _ => rfl, fun d e => by simp [lookK] at e⟩
  | [], _ :: _, e, _ => by simp at e
  | _ :: _, [], e, _ => by simp at e
  | (k1, v1) :: xs, (k2, d2) :: ds, e, r => by
    simp only [List.map_cons, List.cons.injEq] at e r
    obtain ⟨rfl, e⟩ := e
    cases r with
    | cons r1 r2 =>
      have ih := look_rep k e r2
      by_cases hk : k1 = k
      · rw [valV_pos (p := (k1, v1)) hk]
        have q : lookK ((k1, d2) :: ds) k = some d2 := by simp [lookK, List.find?_cons, hk]
        rw [q]
        exact ⟨(fun z => nomatch z), fun d z => by cases z; exact ⟨v1, rfl, r1⟩⟩
      · rw [valV_neg (p := (k1, v1)) hk]
        have q : lookK ((k1, d2) :: ds) k = lookK ds k := by simp [lookK, List.find?_cons, hk]
        rw [q]
        exact ih
theorem lookup_rep (k : Str) : ∀ {xs : List (Str × V)} {ds : List (Str × D)}, xs.map (·.1) = ds.map (·.1) → Reps L H fb cm (xs.map (·.2)) (ds.map (·.2)) →
    (ds.lookup k = none → xs.lookup k = none) ∧ ∀ d, ds.lookup k = some d → ∃ v, xs.lookup k = some v ∧ Rep L H fb cm v d
  | [], [], _, _ => ⟨fun _ => rfl, fun d e => by simp at e⟩
  | [], _ :: _, e, _ => by simp at e
  | _ :: _, [], e, _ => by simp at e
  | (k1, v1) :: xs, (k2, d2) :: ds, e, r => by
    simp only [List.map_cons, List.cons.injEq] at e r
    obtain ⟨rfl, e⟩ := e
    cases r with
    | cons r1 r2 =>
      have ih := lookup_rep k e r2
      simp only [List.lookup_cons]
      cases k == k1 with
      | true => exact ⟨(fun z => nomatch z), fun d z => by cases z; exact ⟨v1, rfl, r1⟩⟩
      | false => exact ih
/-- as data for == -/
theorem toPy_rep : ∀ {v : V} {d : D} {p : PyData}, Rep L H fb cm v d → toPy d = some p → Dp L.K H v p := fun {v d p} h => by
  revert p
  refine Rep.rec (motive_1 := fun v d _ => ∀ {p}, toPy d = some p → Dp L.K H v p) (motive_2 := fun vs ds _ => ∀ {ps}, toPys ds = some ps → DpAll L.K H vs ps) ?_ ?_ ?_ ?_ ?_ ?_ ?_ ?_ ?_ ?_ ?_ ?_ ?_ ?_ ?_ h
  · intro p e; cases e; exact .non
  · intro b p e; cases e; exact .bl b
  · intro i p e; cases e; exact .int i
  · intro x p e; cases e; exact .str x
  · intro a xs ds n t _ ih p e
    simp only [toPy, Option.map_eq_some_iff] at e
    obtain ⟨ps, e1, rfl⟩ := e
    exact .tup (SqT.of t) (ih e1)
  · intro a xs ds n t _ ih p e
    simp only [toPy, Option.map_eq_some_iff] at e
    obtain ⟨ps, e1, rfl⟩ := e
    exact .lst (.inl t) (ih e1)
  · intro a xs ds n t q _ ih p e; simp [toPy] at e
  · intro a xs ds n t q _ ih p e; simp [toPy] at e
  · intro a dx c fs ds n t q _ ih p e; simp [toPy] at e
  · intro j p e; simp [toPy] at e
  · intro a xs ds n _ ih p e
    simp only [toPy, Option.map_eq_some_iff] at e
    obtain ⟨ps, e1, rfl⟩ := e
    exact .tup n.sq (ih e1)
  · intro a xs ds n _ ih p e
    simp only [toPy, Option.map_eq_some_iff] at e
    obtain ⟨ps, e1, rfl⟩ := e
    exact .lst n.sq (ih e1)
  · intro n a c p e; simp [toPy] at e
  · intro ps e; cases e; exact .nil
  · intro v vs d ds _ _ i1 i2 ps e
    simp only [toPys, Option.bind_eq_some_iff, Option.map_eq_some_iff] at e
    obtain ⟨q, e1, qs, e2, rfl⟩ := e
    exact .cons (i1 e1) (i2 e2)
theorem thaw_rep {p : PyData} (V : Valid L H fb cm st) (h : Rep L H fb cm v d) (e : toPy (thaw st d) = some p) : Dp L.K H v p := by
  have key : ∀ q, thaw st q = q → Rep L H fb cm v q → toPy (thaw st q) = some p → Dp L.K H v p := fun q z r e => toPy_rep r (by rw [← z]; exact e)
  cases h with
  | @cell n a c =>
    unfold thaw at e
    simp only at e
    split at e
    · rename_i ds he
      obtain ⟨xs, h1, h2⟩ := V.cell he c
      simp only [toPy, Option.map_eq_some_iff] at e
      obtain ⟨ps, e1, rfl⟩ := e
      have aux : ∀ {vs : List L2.V} {ds : List D} {ps : List PyData}, Reps L H fb cm vs ds → toPys ds = some ps → DpAll L.K H vs ps := fun {vs ds} => by
        induction ds generalizing vs with
        | nil => intro ps r e; cases r; cases e; exact .nil
        | cons d ds ih =>
          intro ps r e
          cases r with
          | cons r1 r2 =>
            simp only [toPys, Option.bind_eq_some_iff, Option.map_eq_some_iff] at e
            obtain ⟨q, e1, qs, e2, rfl⟩ := e
            exact .cons (toPy_rep r1 e1) (ih r2 e2)
      exact .lst (.inl (.inl h1)) (aux h2 e1)
    · simp [toPy] at e
  | non => exact key _ rfl .non e
  | bl b => exact key _ rfl (.bl b) e
  | int b => exact key _ rfl (.int b) e
  | str b => exact key _ rfl (.str b) e
  | tup n t r => exact key _ rfl (.tup n t r) e
  | lst n t r => exact key _ rfl (.lst n t r) e
  | dk n t q r => exact key _ rfl (.dk n t q r) e
  | dt n t q r => exact key _ rfl (.dt n t q r) e
  | obj n t q r => exact key _ rfl (.obj n t q r) e
  | gd j => exact key _ rfl (.gd j) e
  | kt n r => exact key _ rfl (.kt n r) e
  | kl n r => exact key _ rfl (.kl n r) e
end
section
variable {L : Lk} {H : Hp} {fb cm : List Addr}
theorem rep_narrow_ {b : Nat} {cm' : List Addr} (hc : ∀ (n : Nat) (a : Addr), n < b → cm[n]? = some a → cm'[n]? = some a) :
    (∀ {v : V} {d : D}, Rep L H fb cm v d → cb b d = true → Rep L H fb cm' v d) ∧ ∀ {vs : List V} {ds : List D}, Reps L H fb cm vs ds → cbs b ds = true → Reps L H fb cm' vs ds := by
  have dk : ∀ {ds : List (Key × D)}, cbk b ds = true → cbs b (ds.map (·.2)) = true := fun {ds} h => cbs_iff.mpr fun d m => by
    obtain ⟨p, hp, rfl⟩ := List.mem_map.mp m
    exact cbk_iff.mp h p hp
  have dt : ∀ {ds : List (List Key × D)}, cbt b ds = true → cbs b (ds.map (·.2)) = true := fun {ds} h => cbs_iff.mpr fun d m => by
    obtain ⟨p, hp, rfl⟩ := List.mem_map.mp m
    exact cbt_iff.mp h p hp
  have df : ∀ {ds : List (Str × D)}, cbf b ds = true → cbs b (ds.map (·.2)) = true := fun {ds} h => cbs_iff.mpr fun d m => by
    obtain ⟨p, hp, rfl⟩ := List.mem_map.mp m
    exact cbf_iff.mp h p hp
  have key : ∀ {v : V} {d : D}, Rep L H fb cm v d → cb b d = true → Rep L H fb cm' v d := fun {v d} h => by
    refine Rep.rec (motive_1 := fun v d _ => cb b d = true → Rep L H fb cm' v d) (motive_2 := fun vs ds _ => cbs b ds = true → Reps L H fb cm' vs ds) ?_ ?_ ?_ ?_ ?_ ?_ ?_ ?_ ?_ ?_ ?_ ?_ ?_ ?_ ?_ h
    · exact fun _ => .non
    · exact fun b _ => .bl b
    · exact fun i _ => .int i
    · exact fun x _ => .str x
    · exact fun n t _ r q => .tup n t (r (by simpa only [cb] using q))
    · exact fun n t _ r q => .lst n t (r (by simpa only [cb] using q))
    · exact fun n t e _ r q => .dk n t e (r (dk (by simpa only [cb] using q)))
    · exact fun n t e _ r q => .dt n t e (r (dt (by simpa only [cb] using q)))
    · exact fun n t e _ r q => .obj n t e (r (df (by simpa only [cb] using q)))
    · exact fun j _ => .gd j
    · exact fun k _ r q => .kt k (r (by simpa only [cb] using q))
    · exact fun k _ r q => .kl k (r (by simpa only [cb] using q))
    · exact fun e q => .cell (hc _ _ (by simpa only [cb, decide_eq_true_eq] using q) e)
    · exact fun _ => .nil
    · exact fun _ _ r rs q => by
        simp only [cbs, Bool.and_eq_true] at q
        exact .cons (r q.1) (rs q.2)
  refine ⟨key, fun {vs ds} h => ?_⟩
  induction ds generalizing vs with
  | nil => intro _; cases h; exact .nil
  | cons d ds ih =>
    intro q
    simp only [cbs, Bool.and_eq_true] at q
    cases h with
    | cons r t => exact .cons (key r q.1) (ih t q.2)
theorem rep_cb : ∀ {v : V} {d : D}, Rep L H fb cm v d → cb cm.length d = true := fun {v d} h => by
  have dk : ∀ {ds : List (Key × D)}, cbs cm.length (ds.map (·.2)) = true → cbk cm.length ds = true := fun {ds} h => cbk_iff.mpr fun p hp => cbs_iff.mp h p.2 (List.mem_map.mpr ⟨p, hp, rfl⟩)
  have dt : ∀ {ds : List (List Key × D)}, cbs cm.length (ds.map (·.2)) = true → cbt cm.length ds = true := fun {ds} h => cbt_iff.mpr fun p hp => cbs_iff.mp h p.2 (List.mem_map.mpr ⟨p, hp, rfl⟩)
  have df : ∀ {ds : List (Str × D)}, cbs cm.length (ds.map (·.2)) = true → cbf cm.length ds = true := fun {ds} h => cbf_iff.mpr fun p hp => cbs_iff.mp h p.2 (List.mem_map.mpr ⟨p, hp, rfl⟩)
  refine Rep.rec (motive_1 := fun v d _ => cb cm.length d = true) (motive_2 := fun vs ds _ => cbs cm.length ds = true) ?_ ?_ ?_ ?_ ?_ ?_ ?_ ?_ ?_ ?_ ?_ ?_ ?_ ?_ ?_ h
  · rfl
  · intros; rfl
  · intros; rfl
  · intros; rfl
  · intros; simp only [cb]; assumption
  · intros; simp only [cb]; assumption
  · intros; simp only [cb]; apply dk; assumption
  · intros; simp only [cb]; apply dt; assumption
  · intros; simp only [cb]; apply df; assumption
  · intros; rfl
  · intros; simp only [cb]; assumption
  · intros; simp only [cb]; assumption
  · intro n a e
    simp only [cb, decide_eq_true_eq]
    exact (List.getElem?_eq_some_iff.mp e).1
  · rfl
  · intro v vs d ds _ _ a b
    simp only [cbs, a, b, Bool.and_self]
theorem reps_cb {vs : List V} {ds : List D} (h : Reps L H fb cm vs ds) : cbs cm.length ds = true := by
  induction ds generalizing vs with
  | nil => rfl
  | cons d ds ih =>
    cases h with
    | cons r t => simp only [cbs, rep_cb r, ih t, Bool.and_self]
theorem orep_cb {a : Addr} {o : O} (h : ORep L H fb cm a o) : cbO cm.length o = true := by
  cases o with
  | lst ds => obtain ⟨xs, h1, h2⟩ := h; exact reps_cb h2
  | dk ds => obtain ⟨xs, h1, h2, h3⟩ := h; exact cbk_iff.mpr fun p hp => cbs_iff.mp (reps_cb h3) p.2 (List.mem_map.mpr ⟨p, hp, rfl⟩)
  | dt ds => obtain ⟨xs, h1, h2, h3⟩ := h; exact cbt_iff.mpr fun p hp => cbs_iff.mp (reps_cb h3) p.2 (List.mem_map.mpr ⟨p, hp, rfl⟩)
  | ins c ds => obtain ⟨dx, xs, h1, h2, h3⟩ := h; exact cbf_iff.mpr fun p hp => cbs_iff.mp (reps_cb h3) p.2 (List.mem_map.mpr ⟨p, hp, rfl⟩)
theorem orep_narrow {b : Nat} {cm' : List Addr} {a : Addr} {o : O} (hc : ∀ (n : Nat) (a : Addr), n < b → cm[n]? = some a → cm'[n]? = some a) (h : ORep L H fb cm a o) (q : cbO b o = true) : ORep L H fb cm' a o := by
  have N := rep_narrow_ (L := L) (H := H) (fb := fb) hc
  cases o with
  | lst ds => obtain ⟨xs, h1, h2⟩ := h; exact ⟨xs, h1, N.2 h2 q⟩
  | dk ds => obtain ⟨xs, h1, h2, h3⟩ := h; exact ⟨xs, h1, h2, N.2 h3 (cbs_iff.mpr fun d m => by obtain ⟨p, hp, rfl⟩ := List.mem_map.mp m; exact cbk_iff.mp q p hp)⟩
  | dt ds => obtain ⟨xs, h1, h2, h3⟩ := h; exact ⟨xs, h1, h2, N.2 h3 (cbs_iff.mpr fun d m => by obtain ⟨p, hp, rfl⟩ := List.mem_map.mp m; exact cbt_iff.mp q p hp)⟩
  | ins c ds => obtain ⟨dx, xs, h1, h2, h3⟩ := h; exact ⟨dx, xs, h1, h2, N.2 h3 (cbs_iff.mpr fun d m => by obtain ⟨p, hp, rfl⟩ := List.mem_map.mp m; exact cbf_iff.mp q p hp)⟩
theorem Valid.old {st : Store} (W : Valid L H fb cm st) : OldOk st.length st := fun n o _ e => by
  obtain ⟨a, h1, h2⟩ := W.cells n o e
  rw [← W.len]
  exact orep_cb h2
theorem take_idx {cm ex : List Addr} : ∀ (n : Nat) (a : Addr), n < cm.length → (cm ++ ex)[n]? = some a → cm[n]? = some a := fun n a hn h => by
  rw [List.getElem?_append_left hn] at h
  exact h

theorem flat_any {v : V} {d : D} (h : Rep L H fb cm v d) (z : (flat d).isSome = true) : ∀ {H' : Hp} {fb' cm' : List Addr}, Rep L H' fb' cm' v d := fun {H' fb' cm'} => by
  cases h with
  | non => exact .non
  | bl b => exact .bl b
  | int i => exact .int i
  | str x => exact .str x
  | _ => cases z
theorem flats_any : ∀ {vs : List V} {ds : List D}, Reps L H fb cm vs ds → (flats ds).isSome = true → ∀ {H' : Hp} {fb' cm' : List Addr}, Reps L H' fb' cm' vs ds
  | _, _, .nil, _, _, _, _ => .nil
  | _, _, .cons r t, z, _, _, _ => by
    simp only [flats, Option.isSome_bind, Option.isSome_map] at z
    rename_i v vs d ds H' fb' cm'
    cases hf : flat d with
    | none => rw [hf] at z; cases z
    | some x =>
      rw [hf] at z
      exact .cons (flat_any r (by rw [hf]; rfl)) (flats_any t z)
theorem thaw_reps {st : Store} (W : Valid L H fb cm st) : ∀ {vs : List V} {ds : List D}, Reps L H fb cm vs ds → cbs 0 (ds.map (thawA st)) = true → Reps L H [] [] vs (ds.map (thawA st))
  | _, _, .nil, _ => .nil
  | _, _, .cons r t, z => by
    rename_i v vs d ds
    simp only [List.map_cons, cbs, Bool.and_eq_true] at z
    refine .cons ?_ (thaw_reps W t z.2)
    have N : ∀ {v d}, Rep L H fb cm v d → cb 0 d = true → Rep L H [] [] v d := fun {v d} r z => ((rep_narrow_ (cm' := []) fun n a h _ => absurd h (Nat.not_lt_zero _)).1 r z).less fun b m => nomatch m
    have Ns : ∀ {vs ds}, Reps L H fb cm vs ds → cbs 0 ds = true → Reps L H [] [] vs ds := fun {v d} r z => ((rep_narrow_ (cm' := []) fun n a h _ => absurd h (Nat.not_lt_zero _)).2 r z).less fun b m => nomatch m
    by_cases hd : ∃ n, d = .cell n
    · obtain ⟨n, rfl⟩ := hd
      cases r with
      | cell c =>
        simp only [thawA] at z ⊢
        cases ho : st[n]? with
        | none => rw [ho] at z; simp [cb] at z
        | some o =>
          rw [ho] at z
          have q := W.cell ho c
          cases o with
          | lst xs => obtain ⟨us, h1, h2⟩ := q; exact .lst (by simp) (.inl h1) (Ns h2 (by simpa only [cb] using z.1))
          | dk xs => obtain ⟨us, h1, h2, h3⟩ := q; exact .dk (by simp) (.inl h1) h2 (Ns h3 (cbs_iff.mpr fun d m => by obtain ⟨p, hp, rfl⟩ := List.mem_map.mp m; exact cbk_iff.mp (by simpa only [cb] using z.1) p hp))
          | dt xs => obtain ⟨us, h1, h2, h3⟩ := q; exact .dt (by simp) (.inl h1) h2 (Ns h3 (cbs_iff.mpr fun d m => by obtain ⟨p, hp, rfl⟩ := List.mem_map.mp m; exact cbt_iff.mp (by simpa only [cb] using z.1) p hp))
          | ins c xs => simp [cb] at z
    · have e : thawA st d = d := by
        cases d <;> first | rfl | exact absurd ⟨_, rfl⟩ hd
      rw [e] at z ⊢
      exact N r z.1
/-- a thing that stood nowhere, and all that stood stands -/
theorem Valid.and {H' : Hp} {st : Store} {p : Addr} (W : Valid L H fb cm st) (e : ∀ a u, H a = some u → H' a = some u) (hp : H p = none) (hq : ∃ u, H' p = some u) : Valid L H' (fb ++ [p]) cm st := by
  have hx : ∀ b ∈ [p], H b = none := fun b z => by rw [List.mem_singleton.mp z]; exact hp
  refine ⟨W.len, W.nd, fun a m => List.mem_append_left _ (W.sub a m), fun a m => ?_, fun n o q => ?_⟩
  · rcases List.mem_append.mp m with m | m
    · obtain ⟨u, h⟩ := W.trk a m
      exact ⟨u, e a u h⟩
    · rw [List.mem_singleton.mp m]; exact hq
  · obtain ⟨a, h1, h2⟩ := W.cells n o q
    obtain ⟨u, h3⟩ := h2.some
    exact ⟨a, h1, (h2.more hx).ext (fun b o _ => e b o) ((e a u h3).trans h3.symm)⟩
/-- from a world without cells -/
theorem po_call {fy fx : List Addr} {H' : Hp} {st s' : Store} {v : V} {r : R} {b b' : Nat} (W : Valid L H (fx ++ cm) cm st) (h : Po L fy b' H [] [] v r H' [] s') (hs : (∀ a ∈ fx ++ cm, a ∈ fy) ∨ flatR r = true) : Po L fx b H cm st v r H' cm st := by
  obtain ⟨p, q⟩ := h
  have e : ∀ a u, H a = some u → H' a = some u := fun a u h => p.step.ext a u (by simp) h
  refine ⟨.keep e, ?_⟩
  cases r with
  | v d =>
    refine ⟨W.keep e, ?_⟩
    rcases hs with hs | hs
    · exact (Rep.wide (cm := []) (ex := cm) (q.2)).less fun a m => List.mem_append_left _ (hs a m)
    · exact flat_any q.2 hs
  | n o =>
    obtain ⟨a, rfl, h1, h2, h3, h4⟩ := q
    have na : a ∉ fx ++ cm := fun m => by
      obtain ⟨u, hu⟩ := W.trk a m
      rw [h1] at hu
      cases hu
    refine ⟨a, rfl, h1, na, W.and e h1 h4.some, ?_⟩
    rcases hs with hs | hs
    · refine (ORep.wide (cm := []) (ex := cm) h4).less fun z m => ?_
      rcases List.mem_append.mp m with m | m
      · exact List.mem_append_left _ (List.mem_append_left _ (hs z m))
      · exact List.mem_append_right _ m
    · cases o with
      | lst ds =>
        obtain ⟨xs, h5, h6⟩ := h4
        exact ⟨xs, h5, flats_any h6 hs⟩
      | dk ds => cases hs
      | dt ds => cases hs
      | ins c ds => cases hs
end
end En

set_option Elab.async false
set_option linter.all false
set_option maxRecDepth 100000
set_option maxHeartbeats 1000000
namespace En
open PySem PySem.Spec PyProof.Rows L2

def wE (X : Cx) (e : Expr) : TE := fun σ H Q => ∀ (pins : List (Addr × Obj)) (s : Shared), Inv X pins σ H s → wpAny (model X.prog X.w) X.A (eval e X.env) (EP X pins σ Q) X.xe s
def wT (X : Cx) (e : Expr) : TT := fun σ H Q => ∀ (pins : List (Addr × Obj)) (s : Shared), Inv X pins σ H s → wpAny (model X.prog X.w) X.A (isTrue e X.env (eval e X.env)) (TP X pins σ Q) X.xe s
def wW (X : Cx) (e : Expr) : TT := fun σ H Q => ∀ (whole : Sem Value) (pins : List (Addr × Obj)) (s : Shared), Inv X pins σ H s → wpAny (model X.prog X.w) X.A (isTrue e X.env whole) (TP X pins σ Q) X.xe s
def wA (X : Cx) (es : List Expr) : TA := fun σ H Q => ∀ (pos : Pos) (pins : List (Addr × Obj)) (s : Shared), Inv X pins σ H s → wpAny (model X.prog X.w) X.A (spliced (backTo pos (starEach es X.env))) (AP X pins σ Q) X.xe s
def wS (X : Cx) (st : Stmt) : TS := fun D σ H => ∀ (pins : List (Addr × Obj)) (s : Shared), Inv X pins σ H s → wpAny (model X.prog X.w) X.A (exec st X.env) (SP X pins D) X.xe s
def wSs (X : Cx) (st : List Stmt) : TS := fun D σ H => ∀ (pins : List (Addr × Obj)) (s : Shared), Inv X pins σ H s → wpAny (model X.prog X.w) X.A (execs st X.env) (SP X pins D) X.xe s
def wG (X : Cx) (tg : Expr) : TG := fun v σ H Q => ∀ (pins : List (Addr × Obj)) (s : Shared) (u : Value), Inv X pins σ H s → RelV v u →
  wpAny (model X.prog X.w) X.A (assign tg X.env u) (fun _ s' => ∃ σ' H', Inv X pins σ' H' s' ∧ Q σ' H') X.xe s
def wGs (X : Cx) (ts : List Expr) : TGs := fun vs σ H Q => ∀ (pins : List (Addr × Obj)) (s : Shared) (us : List Value), Inv X pins σ H s → Vals vs us →
  wpAny (model X.prog X.w) X.A (assignInOrder ((assignEach ts X.env).map (·.2)) us) (fun _ s' => ∃ σ' H', Inv X pins σ' H' s' ∧ Q σ' H') X.xe s
def wI (X : Cx) (tg iter : Expr) : TI := fun σ H R => ∀ (pins : List (Addr × Obj)) (s : Shared), Inv X pins σ H s →
  wpAny (model X.prog X.w) X.A (eval iter X.env) (fun v s1 => wpAny (model X.prog X.w) X.A (pyIter v) (PIE X pins σ tg R) X.xe s1) X.xe s
section
variable {X : Cx} {σ : L2.St} {H : Hp}
theorem pe_w {e : Expr} : PE X e (wE X e) := ⟨fun pins s _ _ _ I h => h pins s I⟩
theorem pt_w {e : Expr} : PT X e (wT X e) := ⟨fun pins s _ _ _ I h => h pins s I⟩
theorem pw_w {e : Expr} : PW X e (wW X e) := ⟨fun whole pins s _ _ _ I h => h whole pins s I⟩
theorem pa_w {es : List Expr} : PA X es (wA X es) := ⟨fun pos pins s _ _ _ I h => h pos pins s I⟩
theorem ps_w {st : Stmt} : PS X st (wS X st) := ⟨fun pins s _ _ _ I h => h pins s I⟩
theorem pss_w {st : List Stmt} : PSs X st (wSs X st) := ⟨fun pins s _ _ _ I h => h pins s I⟩
theorem pg_w {tg : Expr} : PG X tg (wG X tg) := ⟨fun pins s _ _ _ u _ I r h => h pins s u I r⟩
theorem pi_w {tg iter : Expr} : PI X tg iter (wI X tg iter) := ⟨fun pins s _ _ _ I h => h pins s I⟩
theorem wE_of {e : Expr} {t : TE} {Q : VK} (h : PE X e t) (q : t σ H Q) : wE X e σ H Q := fun pins s I => h.run pins s σ H Q I q
theorem wT_of {e : Expr} {t : TT} {Q : Bool → Hp → Prop} (h : PT X e t) (q : t σ H Q) : wT X e σ H Q := fun pins s I => h.run pins s σ H Q I q
theorem wW_of {e : Expr} {t : TT} {Q : Bool → Hp → Prop} (h : PW X e t) (q : t σ H Q) : wW X e σ H Q := fun whole pins s I => h.run whole pins s σ H Q I q
theorem wA_of {es : List Expr} {t : TA} {Q : List V → Hp → Prop} (h : PA X es t) (q : t σ H Q) : wA X es σ H Q := fun pos pins s I => h.run pos pins s σ H Q I q
theorem wS_of {st : Stmt} {t : TS} {D : Ends} (h : PS X st t) (q : t D σ H) : wS X st D σ H := fun pins s I => h.run pins s σ H D I q
theorem wSs_of {st : List Stmt} {t : TS} {D : Ends} (h : PSs X st t) (q : t D σ H) : wSs X st D σ H := fun pins s I => h.run pins s σ H D I q
theorem wG_of {tg : Expr} {t : TG} {v : V} {Q : L2.St → Hp → Prop} (h : PG X tg t) (q : t v σ H Q) : wG X tg v σ H Q := fun pins s u I r => h.run pins s σ H v u Q I r q
theorem wI_of {tg iter : Expr} {t : TI} {R : It → Hp → Prop} (h : PI X tg iter t) (q : t σ H R) : wI X tg iter σ H R := fun pins s I => h.run pins s σ H R I q
end

def rW (X : Cx) (f : Value → Value → Sem Value) : R2 := fun x y H Q => ∀ (pins : List (Addr × Obj)) (s : Shared) (σ : L2.St) (v u : Value), Inv X pins σ H s → RelV x v → RelV y u → wpAny (model X.prog X.w) X.A (f v u) (EP X pins σ Q) X.xe s
theorem op_w {X : Cx} {f : Value → Value → Sem Value} : OpR X f (rW X f) := fun pins s σ H x y v u Q I r1 r2 h => h pins s σ v u I r1 r2
theorem rW_of {X : Cx} {f : Value → Value → Sem Value} {r : R2} {x y : V} {H : Hp} {Q : VK} (h : OpR X f r) (q : r x y H Q) : rW X f x y H Q := fun pins s σ v u I r1 r2 => h pins s σ H x y v u Q I r1 r2 q
def cW (X : Cx) (f : Value) : List V → Hp → VK → Prop := fun xs H Q => ∀ (pins : List (Addr × Obj)) (s : Shared) (σ : L2.St) (us : List Value), Inv X pins σ H s → Vals xs us → wpAny (model X.prog X.w) X.A (call f us) (EP X pins σ Q) X.xe s
theorem call_w {X : Cx} {f : Value} : CallR X f (cW X f) := fun pins s σ H xs us Q I r h => h pins s σ us I r
theorem cW_of {X : Cx} {f : Value} {r : List V → Hp → VK → Prop} {xs : List V} {H : Hp} {Q : VK} (h : CallR X f r) (q : r xs H Q) : cW X f xs H Q := fun pins s σ us I rv => h pins s σ H xs us Q I rv q
def truW (X : Cx) : V → Hp → (Bool → Hp → Prop) → Prop := fun x H Q => ∀ (pins : List (Addr × Obj)) (s : Shared) (σ : L2.St) (v : Value), Inv X pins σ H s → RelV x v → wpAny (model X.prog X.w) X.A (truthy v) (TP X pins σ Q) X.xe s
theorem tru_w {X : Cx} : TruR X (truW X) := fun pins s σ H x v Q I r h => h pins s σ v I r
theorem truW_of {X : Cx} {r : V → Hp → (Bool → Hp → Prop) → Prop} {x : V} {H : Hp} {Q : Bool → Hp → Prop} (h : TruR X r) (q : r x H Q) : truW X x H Q := fun pins s σ v I rv => h pins s σ H x v Q I rv q

def opOf : Op2 → Operator
  | .add => .Add | .sub => .Sub | .mul => .Mult | .fdiv => .FloorDiv | .mod => .Mod | .pow => .Pow | .shl => .LShift | .shr => .RShift | .band => .BitAnd | .bor => .BitOr | .bxor => .BitXor
def cmpOf : Cmp → CmpOp
  | .eq => .Eq | .ne => .NotEq | .lt => .Lt | .le => .LtE | .gt => .Gt | .ge => .GtE | .is_ => .Is | .isNot => .IsNot | .in_ => .In | .notIn => .NotIn

section
variable {X : Cx} {pins : List (Addr × Obj)} {σ : L2.St} {H : Hp} {s : Shared} {l : Addr} {xs : List V}
theorem lst_rd (I : Inv X pins σ H s) (h : Ql X.K H l xs) : xs.length ≤ sizeLine ∧ ∃ (its : List Value) (n : Nat), Vals xs its ∧ xs.length = its.length ∧ s.heap.get? l = some { cls := .type "list", data := .seq its.toArray n } := by
  rcases h with h | ⟨its, n, h1, h5, h6⟩
  · obtain ⟨z, its, n, r, e⟩ := (show ObjOk X.prog X.w H s.heap l (.lst xs) from h.ok I.hok)
    exact ⟨z, its, n, r, r.length, e⟩
  · have e := I.kIn _ _ h1
    exact ⟨by rw [h6.length]; simpa using h5, its.toList, n, h6, h6.length, by simpa using e⟩
end
def rCatR (K : PySem.W.Frag) : R2 := fun x y H Q => ∃ l b xs zs, x = .ref l ∧ y = .ref b ∧ Ql K H l xs ∧ Ql K H b zs ∧ xs.length + zs.length ≤ sizeLine ∧ ∀ p, H p = none → Q (.ref p) (upd H p (.lst (xs ++ zs)))
theorem op_catR {X : Cx} : OpR X (binaryOp .Add) (rCatR X.K) := by
  intro pins s σ H x y v u Q I rx ry h
  obtain ⟨l, b, xs, zs, rfl, rfl, hH, hB, hz, q⟩ := h
  cases rx
  cases ry
  obtain ⟨z, its, n, r, hl, e⟩ := lst_rd I hH
  obtain ⟨z2, its2, n2, r2, hl2, e2⟩ := lst_rd I hB
  refine PySem.P.add_list e e2 ?_ (by rw [List.size_toArray, List.size_toArray]; omega)
  have ea : its.toArray ++ its2.toArray = (its ++ its2).toArray := by simp
  rw [ea]
  exact ⟨.ref _, _, I.lnew (t' := s.toks) (r.append r2) (by rw [List.length_append]; omega), rfl, q _ I.fresh⟩
def rRepR (K : PySem.W.Frag) : R2 := fun x y H Q => ∃ l k xs, x = .ref l ∧ y = .int k ∧ Ql K H l xs ∧ -(2 ^ 63) ≤ k ∧ k < 2 ^ 63 ∧ xs.length * k.toNat ≤ sizeLine ∧
  ∀ p, H p = none → Q (.ref p) (upd H p (.lst (List.replicate k.toNat xs).flatten))
theorem rep_fold (its : List Value) (m : Nat) : List.foldl (fun x1 x2 => x1 ++ x2) #[] (List.replicate m its.toArray) = (List.replicate m its).flatten.toArray := by
  have q := foldl_rep its m []
  rw [List.nil_append] at q
  exact q
theorem op_repR {X : Cx} : OpR X (binaryOp .Mult) (rRepR X.K) := by
  intro pins s σ H x y v u Q I rx ry h
  obtain ⟨l, k, xs, rfl, rfl, hH, h1, h2, hz, q⟩ := h
  cases rx
  obtain ⟨t, rfl⟩ := ry
  obtain ⟨z, its, n, r, hl, e⟩ := lst_rd I hH
  have hlen : its.toArray.size * k.toNat ≤ sizeLine := by
    rw [List.size_toArray, ← hl]
    exact hz
  have c1 : ¬ its.toArray.size * k.toNat > (2 ^ 63 - 1) / 8 := by
    have c0 : (sizeLine : Nat) ≤ (2 ^ 63 - 1) / 8 := by decide
    omega
  have c2 : ¬ (!Builtin.List.listFitsIndex k) = true := by
    rw [fitsIndex_both h1 h2]
    exact Bool.false_ne_true
  have c3 : ¬ Builtin.List.listTooLong (its.toArray.size * k.toNat) = true := by
    rw [notLongL hlen]
    exact Bool.false_ne_true
  have c4 : List.foldl (fun x1 x2 => x1 ++ x2) #[] (List.replicate (if its.toArray.isEmpty = true then 0 else k.toNat) its.toArray) = (List.replicate k.toNat its).flatten.toArray := by
    rw [rep_fold]
    cases its with
    | nil => simp
    | cons a r' => rw [if_neg (by simp)]
  refine wpAny_binaryOp_repeat_ref (T := "list") (U := "int") (by decide) ⟨_, e, rfl⟩ (fun s' => typeIs_int s' k t) noFill_list_mul F.fills_int_mul F.slot_int_rmul repeat_list F.slot_int_index.lookup
    (call_meets F.slot_int_rmul (typeIs_int s k t) F.entry_int_rmul (F.args_int_rmul_2 _ _) (int___rmul___int_list k t l its.toArray n)
      ⟨e, rfl, ⟨_, e, rfl⟩, call_meets F.slot_list_mul ⟨_, e, rfl⟩ F.entry_list_mul (F.args_list_mul_2 _ _) (AutoListH.list___mul___list_int_3 l its.toArray n k t c2 c1 c3) ⟨e, ?_⟩⟩)
  rw [c4]
  exact ⟨.ref _, _, I.lnew (t' := s.toks) (r.rep k.toNat) (by rw [PyProof.Rows.lm_len_rep_flat, Nat.mul_comm]; exact hz), rfl, q _ I.fresh⟩

theorem le_line {n : Nat} (h : n ≤ 100000) : n ≤ sizeLine := Nat.le_trans h (by decide)
theorem lt_line {n : Nat} (h : n < 100000) : n < sizeLine := Nat.lt_of_lt_of_le h (by decide)
section
variable {L : Lk} {X : Cx} {b : Nat} {H : Hp} {fx cm : List Addr} {st : Store} {v1 v2 : V} {x y : D} {Q : VK}
theorem Reps.rep {vs : List V} {ds : List D} (h : Reps L H (fx ++ cm) cm vs ds) : ∀ k : Nat, Reps L H (fx ++ cm) cm (List.replicate k vs).flatten (List.replicate k ds).flatten
  | 0 => .nil
  | k + 1 => by
    rw [List.replicate_succ, List.replicate_succ, List.flatten_cons, List.flatten_cons]
    exact h.append (h.rep k)
theorem int_sound {o : Op2} {i j k : Int} (e : intOp o i j = some k) (q : Q (.int k) H) : rW X (binaryOp (opOf o)) (.int i) (.int j) H Q := by
  cases o <;> simp only [intOp, Option.some.injEq, Option.ite_none_right_eq_some, CMulD, CPowD, decide_eq_true_eq] at e
  case add => subst e; exact rW_of op_add ⟨i, j, rfl, rfl, q⟩
  case sub => subst e; exact rW_of op_sub ⟨i, j, rfl, rfl, q⟩
  case mul => obtain ⟨c, rfl⟩ := e; exact rW_of op_mul ⟨i, j, rfl, rfl, c, q⟩
  case fdiv => obtain ⟨c, rfl⟩ := e; exact rW_of op_fdivN ⟨i, j, rfl, rfl, c, q⟩
  case mod => obtain ⟨c, rfl⟩ := e; exact rW_of op_modN ⟨i, j, rfl, rfl, c, q⟩
  case pow => obtain ⟨c, rfl⟩ := e; exact rW_of op_pow ⟨i, j, rfl, rfl, c, q⟩
  case shl => obtain ⟨c, rfl⟩ := e; exact rW_of op_shl ⟨i, j, rfl, rfl, c, q⟩
  case shr => obtain ⟨c, rfl⟩ := e; exact rW_of op_shr ⟨i, j, rfl, rfl, c, q⟩
  case band => subst e; exact rW_of op_and ⟨i, j, rfl, rfl, q⟩
  case bor => subst e; exact rW_of op_or ⟨i, j, rfl, rfl, q⟩
  case bxor => subst e; exact rW_of op_xor ⟨i, j, rfl, rfl, q⟩
theorem tup_rep {k : Bool} {ds : List D} {v : V} {d : D} (h : Rep L H (fx ++ cm) cm v d) (z : isTupD d = true) (e : seqOf st d = some (k, ds)) : k = true ∧ d = .tup ds := by
  cases h <;> simp only [isTupD, reduceCtorEq] at z
  simp only [seqOf, Option.some.injEq, Prod.mk.injEq] at e
  obtain ⟨rfl, rfl⟩ := e
  exact ⟨rfl, rfl⟩
theorem seq_ref {k : Bool} {ds : List D} {d : D} (h1 : Rep L H (fx ++ cm) cm v1 d) {a : Addr} (e : v1 = .ref a) : Rep L H (fx ++ cm) cm (.ref a) d := e ▸ h1
theorem op_sound {o : Op2} {r : R} (hK : X.K = L.K) (e : opR o x y st = some r) (rx : Rep L H (fx ++ cm) cm v1 x) (ry : Rep L H (fx ++ cm) cm v2 y) (W : Valid L H (fx ++ cm) cm st)
    (k : ∀ v H', Po L fx b H cm st v r H' cm st → Q v H') : rW X (binaryOp (opOf o)) v1 v2 H Q := by
  unfold opR at e
  split at e
  · simp only [Option.map_eq_some_iff] at e
    obtain ⟨m, e, rfl⟩ := e
    cases rx
    cases ry
    exact int_sound e (k _ _ (po_val W (.int m)))
  · cases rx
    cases ry
    split at e
    · simp only [Option.ite_none_right_eq_some, Option.some.injEq] at e
      obtain ⟨e1, rfl⟩ := e
      exact rW_of op_add_str ⟨_, _, rfl, rfl, le_line e1, k _ _ (po_val W (.str _))⟩
    · cases e
  · split at e
    · split at e
      · rename_i xs ys h1 h2
        simp only [Option.ite_none_right_eq_some, Option.some.injEq] at e
        obtain ⟨e1, rfl⟩ := e
        obtain ⟨a1, us, rfl, r1, d1, _⟩ := seq_rep W rx h1
        obtain ⟨a2, ws, rfl, r2, d2, _⟩ := seq_rep W ry h2
        exact rW_of op_catR ⟨a1, a2, us, ws, rfl, rfl, hK ▸ d1 rfl, hK ▸ d2 rfl, by rw [r1.length, r2.length]; exact le_line e1, fun p hp => k _ _ (po_lst W (r1.append r2) hp)⟩
      · rename_i xs ys h1 h2
        simp only [Option.ite_none_right_eq_some, Option.some.injEq] at e
        obtain ⟨e1, rfl⟩ := e
        obtain ⟨a1, us, rfl, r1, _, d1⟩ := seq_rep W rx h1
        obtain ⟨a2, ws, rfl, r2, _, d2⟩ := seq_rep W ry h2
        have n1 : us = [] ↔ xs = [] := by
          have q := r1.nil_iff
          constructor <;> (rintro rfl; simpa using q)
        have n2 : ws = [] ↔ ys = [] := by
          have q := r2.nil_iff
          constructor <;> (rintro rfl; simpa using q)
        refine rW_of op_catA ⟨a1, a2, us, ws, rfl, rfl, hK ▸ d1 rfl, hK ▸ d2 rfl, by rw [r1.length, r2.length]; exact le_line e1.1, fun z => ?_, fun z z2 => ?_, fun _ _ p hp => k _ _ (po_tup W (r1.append r2) hp)⟩
        · have z' := n1.mp z
          subst z'
          simp only [List.isEmpty_nil, Bool.not_true, Bool.false_and, Bool.or_false, Bool.and_eq_true] at e1
          obtain ⟨_, q⟩ := tup_rep ry e1.2.2 h2
          exact k _ _ (po_val W (q ▸ ry))
        · have z' := n2.mp z2
          subst z'
          simp only [List.isEmpty_nil, Bool.not_true, Bool.and_false, Bool.or_false, Bool.and_eq_true] at e1
          obtain ⟨_, q⟩ := tup_rep rx e1.2.1 h1
          rw [List.append_nil] at k
          exact k _ _ (po_val W (q ▸ rx))
      · cases e
    · split at e
      · rename_i xs kk h1 f1 f2
        simp only [Option.ite_none_right_eq_some, Option.some.injEq, decide_eq_true_eq] at e
        obtain ⟨⟨e1, e2, e3⟩, rfl⟩ := e
        obtain ⟨a1, us, rfl, r1, d1, _⟩ := seq_rep W rx h1
        cases ry
        exact rW_of op_repR ⟨a1, kk, us, rfl, rfl, hK ▸ d1 rfl, e1, e2, by rw [r1.length]; exact le_line e3, fun p hp => k _ _ (po_lst W (r1.rep _) hp)⟩
      · cases e
    · cases e
theorem bl_case {e : Option Bool} {r : R} (h : e.map (fun k => R.v (.bl k)) = some r) : ∃ k, e = some k ∧ r = .v (.bl k) := by
  simp only [Option.map_eq_some_iff] at h
  obtain ⟨k, h1, h2⟩ := h
  exact ⟨k, h1, h2.symm⟩
theorem eq_sound {k : Bool} (hK : X.K = L.K) (hu : X.A.units + 64 < cLine) (e : eqD st x y = some k) (rx : Rep L H (fx ++ cm) cm v1 x) (ry : Rep L H (fx ++ cm) cm v2 y) (W : Valid L H (fx ++ cm) cm st) (q : Q (.bl k) H) :
    rW X (compareOp .Eq) v1 v2 H Q := by
  unfold eqD at e
  split at e
  · rename_i a c h1 h2
    simp only [Option.ite_none_right_eq_some, Option.some.injEq] at e
    obtain ⟨e1, rfl⟩ := e
    have z1 := flat_rep rx h1
    have z2 := flat_rep ry h2
    subst z1 z2
    exact rW_of op_eq ⟨e1, q⟩
  · simp only [Option.bind_eq_some_iff, Option.ite_none_right_eq_some, Option.some.injEq, Bool.and_eq_true] at e
    obtain ⟨p1, e1, p2, e2, ⟨s1, s2⟩, rfl⟩ := e
    exact rW_of (op_eqD hu) ⟨p1, p2, hK ▸ thaw_rep W rx e1, hK ▸ thaw_rep W ry e2, s1, s2, q⟩
theorem ne_sound {k : Bool} (hK : X.K = L.K) (hu : X.A.units + 64 < cLine) (e : eqD st x y = some k) (rx : Rep L H (fx ++ cm) cm v1 x) (ry : Rep L H (fx ++ cm) cm v2 y) (W : Valid L H (fx ++ cm) cm st) (q : Q (.bl !k) H) :
    rW X (compareOp .NotEq) v1 v2 H Q := by
  unfold eqD at e
  split at e
  · rename_i a c h1 h2
    simp only [Option.ite_none_right_eq_some, Option.some.injEq] at e
    obtain ⟨e1, rfl⟩ := e
    have z1 := flat_rep rx h1
    have z2 := flat_rep ry h2
    subst z1 z2
    exact rW_of op_ne ⟨e1, q⟩
  · simp only [Option.bind_eq_some_iff, Option.ite_none_right_eq_some, Option.some.injEq, Bool.and_eq_true] at e
    obtain ⟨p1, e1, p2, e2, ⟨s1, s2⟩, rfl⟩ := e
    exact rW_of (op_neD hu) ⟨p1, p2, hK ▸ thaw_rep W rx e1, hK ▸ thaw_rep W ry e2, s1, s2, q⟩
theorem isNon_rep (h : Rep L H (fx ++ cm) cm v1 x) : decide (v1 = .non) = isNon x := by
  cases h <;> simp [isNon]
theorem isNon_is (h : Rep L H (fx ++ cm) cm v1 x) (e : isNon x = true) : v1 = .non := by
  cases h <;> simp only [isNon, reduceCtorEq] at e
  rfl
/-- what a dict holds at a key -/
theorem dget_rep {o : Option D} {gd : Nat → List (Str × D)} (W : Valid L H (fx ++ cm) cm st) (rx : Rep L H (fx ++ cm) cm v1 x) (ry : Rep L H (fx ++ cm) cm v2 y) (g : ∀ j, x ≠ .gd j) (e : dget gd st x y = some o) :
    ∃ a u, v1 = .ref a ∧ IsD H a ∧ DGet H a v2 u ∧ (o = none → u = none) ∧ ∀ d, o = some d → ∃ v, u = some v ∧ Rep L H (fx ++ cm) cm v d := by
  unfold dget at e
  split at e
  · exact absurd rfl (g _)
  · split at e
    · rename_i kvs h1
      simp only [Option.map_eq_some_iff] at e
      obtain ⟨k, h2, rfl⟩ := e
      obtain ⟨a, ws, rfl, h3, h4, h5⟩ := dk_rep W rx h1
      have q := look_rep k h4 h5
      have z := key_rep ry h2
      subst z
      exact ⟨a, valV ws k, rfl, .inl ⟨ws, h3⟩, .inl ⟨ws, k, h3, rfl, rfl⟩, q.1, q.2⟩
    · split at e
      · rename_i kvs ks h1 h0
        simp only [Option.map_eq_some_iff] at e
        obtain ⟨k, h2, rfl⟩ := e
        obtain ⟨a, ws, rfl, h3, h4, h5⟩ := dt_rep W rx h0
        have q := look_rep k h4 h5
        cases ry with
        | tup n t r =>
          have z := keys_rep r h2
          subst z
          exact ⟨a, valV ws k, rfl, .inr ⟨ws, h3⟩, .inr ⟨ws, k, _, h3, rfl, t, rfl⟩, q.1, q.2⟩
      · cases e
theorem isSome_of {o : Option D} {u : Option V} (h1 : o = none → u = none) (h2 : ∀ d, o = some d → ∃ v, u = some v ∧ Rep L H (fx ++ cm) cm v d) : u.isSome = o.isSome := by
  cases o with
  | none => rw [h1 rfl]; rfl
  | some d =>
    obtain ⟨v, e, _⟩ := h2 d rfl
    rw [e]
    rfl
theorem in_sound {k : Bool} {gd : Nat → List (Str × D)} (hK : X.K = L.K) (hu : X.A.units + 1 < cLine) (e : inR gd x y st = some k) (rx : Rep L H (fx ++ cm) cm v1 x) (ry : Rep L H (fx ++ cm) cm v2 y) (W : Valid L H (fx ++ cm) cm st) (q : Q (.bl k) H) :
    rW X (compareOp .In) v1 v2 H Q := by
  unfold inR at e
  split at e
  · rename_i b' ds h1
    simp only [Option.bind_eq_some_iff, Option.map_eq_some_iff] at e
    obtain ⟨v, h2, vs, h3, rfl⟩ := e
    obtain ⟨a, us, rfl, r, d1, d2⟩ := seq_rep W ry h1
    have z := flat_rep rx h2
    subst z
    obtain ⟨rfl, z2⟩ := flats_rep r h3
    exact rW_of op_in_seq ⟨a, us, rfl, hK ▸ seq_or d1 d2, flat_isV h2, z2, q⟩
  · split at e
    · simp only [Option.some.injEq] at e
      subst e
      cases rx
      cases ry
      exact rW_of op_in_str ⟨_, _, rfl, rfl, q⟩
    · cases e
    · rename_i g g'
      simp only [Option.map_eq_some_iff] at e
      obtain ⟨o, h1, rfl⟩ := e
      obtain ⟨a, u, rfl, _, h3, h4, h5⟩ := dget_rep W ry rx (fun j z => g j z) h1
      rw [← isSome_of h4 h5] at q
      intro pins s σ v w I r1 r2
      cases r2
      exact d_in hu I h3 r1 fun s' I' => ⟨.bl u.isSome, H, I', rfl, q⟩
theorem notIn_sound {k : Bool} {gd : Nat → List (Str × D)} (hK : X.K = L.K) (hu : X.A.units + 1 < cLine) (e : inR gd x y st = some k) (rx : Rep L H (fx ++ cm) cm v1 x) (ry : Rep L H (fx ++ cm) cm v2 y) (W : Valid L H (fx ++ cm) cm st) (q : Q (.bl !k) H) :
    rW X (compareOp .NotIn) v1 v2 H Q := by
  unfold inR at e
  split at e
  · rename_i b' ds h1
    simp only [Option.bind_eq_some_iff, Option.map_eq_some_iff] at e
    obtain ⟨v, h2, vs, h3, rfl⟩ := e
    obtain ⟨a, us, rfl, r, d1, d2⟩ := seq_rep W ry h1
    have z := flat_rep rx h2
    subst z
    obtain ⟨rfl, z2⟩ := flats_rep r h3
    exact rW_of op_notIn_seq ⟨a, us, rfl, hK ▸ seq_or d1 d2, flat_isV h2, z2, q⟩
  · split at e
    · simp only [Option.some.injEq] at e
      subst e
      cases rx
      cases ry
      exact rW_of op_notin_str ⟨_, _, rfl, rfl, q⟩
    · cases e
    · rename_i g g'
      simp only [Option.map_eq_some_iff] at e
      obtain ⟨o, h1, rfl⟩ := e
      obtain ⟨a, u, rfl, _, h3, h4, h5⟩ := dget_rep W ry rx (fun j z => g j z) h1
      rw [← isSome_of h4 h5] at q
      intro pins s σ v w I r1 r2
      cases r2
      exact d_notIn hu I h3 r1 fun s' I' => ⟨.bl !u.isSome, H, I', rfl, q⟩
theorem ord_sound {c : Cmp} {i j : Int} {k : Bool} (e : intCmp c i j = some k) (q : Q (.bl k) H) : rW X (compareOp (cmpOf c)) (.int i) (.int j) H Q := by
  cases c <;> simp only [intCmp, Option.some.injEq, reduceCtorEq] at e
  case lt => subst e; exact rW_of op_lt ⟨i, j, rfl, rfl, q⟩
  case le => subst e; exact rW_of op_le ⟨i, j, rfl, rfl, q⟩
  case gt => subst e; exact rW_of op_gt ⟨i, j, rfl, rfl, q⟩
  case ge => subst e; exact rW_of op_ge ⟨i, j, rfl, rfl, q⟩
theorem lts_sound {c : Cmp} {k : Bool} (hK : X.K = L.K) (hu : X.A.units + 64 < cLine)
    (e : (match x, y with
      | .int i, .int j => intCmp c i j
      | .str i, .str j => if c = .lt then some (decide (i.cps.toList < j.cps.toList)) else none
      | .tup xs, .tup ys => if c = .lt then (intsOf xs).bind fun is => (intsOf ys).map fun js => HT.lexLt is js else none
      | _, _ => none) = some k) (rx : Rep L H (fx ++ cm) cm v1 x) (ry : Rep L H (fx ++ cm) cm v2 y) (W : Valid L H (fx ++ cm) cm st) (q : Q (.bl k) H) : rW X (compareOp (cmpOf c)) v1 v2 H Q := by
  split at e
  · cases rx
    cases ry
    exact ord_sound e q
  · cases rx
    cases ry
    simp only [Option.ite_none_right_eq_some, Option.some.injEq] at e
    obtain ⟨rfl, rfl⟩ := e
    exact rW_of op_lt_str ⟨_, _, rfl, rfl, q⟩
  · simp only [Option.ite_none_right_eq_some, Option.bind_eq_some_iff, Option.map_eq_some_iff] at e
    obtain ⟨rfl, is, h1, js, h2, rfl⟩ := e
    cases rx with
    | tup n1 t1 r1 =>
      cases ry with
      | tup n2 t2 r2 =>
        have z1 := ints_rep r1 h1
        have z2 := ints_rep r2 h2
        subst z1 z2
        exact rW_of (op_ltT (Nat.lt_of_le_of_lt (Nat.le_add_right _ 64) hu)) ⟨_, _, is, js, rfl, rfl, SqT.of t1, SqT.of t2, q⟩
  · cases e
theorem cmp_sound {c : Cmp} {k : Bool} {gd : Nat → List (Str × D)} (hK : X.K = L.K) (hu : X.A.units + 64 < cLine) (e : cmpR gd c x y st = some k) (rx : Rep L H (fx ++ cm) cm v1 x) (ry : Rep L H (fx ++ cm) cm v2 y) (W : Valid L H (fx ++ cm) cm st) (q : Q (.bl k) H) :
    rW X (compareOp (cmpOf c)) v1 v2 H Q := by
  have hu1 : X.A.units + 1 < cLine := by omega
  cases c
  case eq => exact eq_sound hK hu e rx ry W q
  case ne =>
    simp only [cmpR, Option.map_eq_some_iff] at e
    obtain ⟨k', e1, rfl⟩ := e
    exact ne_sound hK hu e1 rx ry W q
  case is_ =>
    simp only [cmpR, Option.ite_none_right_eq_some, Option.some.injEq] at e
    obtain ⟨e1, rfl⟩ := e
    exact rW_of op_isN ⟨isNon_is ry e1, by rw [isNon_rep rx]; exact q⟩
  case isNot =>
    simp only [cmpR, Option.ite_none_right_eq_some, Option.some.injEq] at e
    obtain ⟨e1, rfl⟩ := e
    exact rW_of op_notN ⟨isNon_is ry e1, by rw [isNon_rep rx]; exact q⟩
  case in_ => exact in_sound hK hu1 e rx ry W q
  case notIn =>
    simp only [cmpR, Option.map_eq_some_iff] at e
    obtain ⟨k', e1, rfl⟩ := e
    exact notIn_sound hK hu1 e1 rx ry W q
  case lt => exact lts_sound hK hu e rx ry W q
  case le => exact lts_sound hK hu e rx ry W q
  case gt => exact lts_sound hK hu e rx ry W q
  case ge => exact lts_sound hK hu e rx ry W q
end
end En

set_option Elab.async false
set_option linter.all false
set_option maxRecDepth 100000
set_option maxHeartbeats 1000000
namespace En
open PySem PySem.Spec PyProof.Rows L2

def xW (X : Cx) : R2 := fun x y H Q => ∀ (value slice : Expr) (pins : List (Addr × Obj)) (s : Shared) (σ : L2.St) (v u : Value), Inv X pins σ H s → RelV x v → RelV y u →
  subscripted slice false v u = operate [v, u] (getItem v u) → wpAny (model X.prog X.w) X.A (subscriptTail value slice v u) (EP X pins σ Q) X.xe s
theorem ix_w {X : Cx} : IxR X (xW X) := fun value slice pins s σ H x y v u Q I r1 r2 h hs => h value slice pins s σ v u I r1 r2 hs
theorem xW_of {X : Cx} {r : R2} {x y : V} {H : Hp} {Q : VK} (h : IxR X r) (q : r x y H Q) : xW X x y H Q := fun value slice pins s σ v u I r1 r2 hs => h value slice pins s σ H x y v u Q I r1 r2 q hs
def slW (X : Cx) : V → Option Int → Option Int → Hp → VK → Prop := fun x lo hi H Q => ∀ (pins : List (Addr × Obj)) (s : Shared) (σ : L2.St) (v vl vu : Value) (sl : Addr), Inv X pins σ H s → RelV x v → s.heap.IsSliceOf sl vl vu .none → IsPart vl lo → IsPart vu hi →
  ∃ T id, typeLookup (.type T) "__getitem__" = pure (some (.builtin id)) ∧ s.TypeIs v T ∧ wpAny (model X.prog X.w) X.A (getItem v (.ref sl)) (EP X pins σ Q) X.xe s
theorem sl_w {X : Cx} : SlR X (slW X) := fun pins s σ H x v vl vu lo hi sl Q I r1 h1 h2 h3 h => h pins s σ v vl vu sl I r1 h1 h2 h3
theorem slW_of {X : Cx} {r : V → Option Int → Option Int → Hp → VK → Prop} {x : V} {lo hi : Option Int} {H : Hp} {Q : VK} (h : SlR X r) (q : r x lo hi H Q) : slW X x lo hi H Q :=
  fun pins s σ v vl vu sl I r1 h1 h2 h3 => h pins s σ H x v vl vu lo hi sl Q I r1 h1 h2 h3 q
def mW (X : Cx) (id : String) : V → List V → Hp → VK → Prop := fun x xs H Q => ∀ (pins : List (Addr × Obj)) (s : Shared) (σ : L2.St) (v : Value) (us : List Value), Inv X pins σ H s → RelV x v → Vals xs us →
  wpAny (model X.prog X.w) X.A (call (.builtin id) (v :: us)) (EP X pins σ Q) X.xe s
theorem mt_w {X : Cx} {id : String} : MtR X id (mW X id) := fun pins s σ H x xs v us Q I r1 r2 h => h pins s σ v us I r1 r2
theorem mW_of {X : Cx} {id : String} {r : V → List V → Hp → VK → Prop} {x : V} {xs : List V} {H : Hp} {Q : VK} (h : MtR X id r) (q : r x xs H Q) : mW X id x xs H Q := fun pins s σ v us I r1 r2 => h pins s σ H x xs v us Q I r1 r2 q
def sW (X : Cx) : TSet := fun o i v H Q => ∀ (pins : List (Addr × Obj)) (s : Shared) (σ : L2.St) (ov iv u : Value), Inv X pins σ H s → RelV o ov → RelV i iv → RelV v u →
  wpAny (model X.prog X.w) X.A (setItem ov iv u) (fun _ s' => ∃ H', Inv X pins σ H' s' ∧ Q H') X.xe s
theorem set_w {X : Cx} : PSet X (sW X) := fun pins s σ H o i v ov iv u Q I r1 r2 r3 h => h pins s σ ov iv u I r1 r2 r3
theorem sW_of {X : Cx} {t : TSet} {o i v : V} {H : Hp} {Q : Hp → Prop} (h : PSet X t) (q : t o i v H Q) : sW X o i v H Q := fun pins s σ ov iv u I r1 r2 r3 => h pins s σ H o i v ov iv u Q I r1 r2 r3 q

section
variable {L : Lk} {X : Cx} {b : Nat} {H : Hp} {fx cm : List Addr} {st : Store} {v1 v2 : V} {x y : D} {Q : VK}
theorem emp_rep {vs : List V} {ds : List D} (r : Reps L H (fx ++ cm) cm vs ds) : (!vs.isEmpty) = !ds.isEmpty := by rw [r.nil_iff]
theorem emp_map {κ : Type} {xs : List (κ × V)} {ds : List (κ × D)} (e : xs.map (·.1) = ds.map (·.1)) : (!xs.isEmpty) = !ds.isEmpty := by
  cases xs <;> cases ds <;> first | rfl | simp at e
theorem tru_sound {k : Bool} {Qt : Bool → Hp → Prop} (hK : X.K = L.K) (e : tru st x = some k) (rx : Rep L H (fx ++ cm) cm v1 x) (W : Valid L H (fx ++ cm) cm st) (q : Qt k H) : truW X v1 H Qt := by
  have seq : ∀ (k' : Bool) (ds : List D), seqOf st x = some (k', ds) → (!ds.isEmpty) = k → truW X v1 H Qt := fun k' ds h1 h2 => by
    obtain ⟨a, us, rfl, r, d1, d2⟩ := seq_rep W rx h1
    rw [← h2, ← emp_rep r] at q
    refine truW_of tru_ok ⟨_, ?_, q⟩
    rcases seq_or d1 d2 with z | z
    · exact .inl ⟨us, hK ▸ z, rfl⟩
    · exact .inr (.inl ⟨us, hK ▸ z, rfl⟩)
  have dct : ∀ (ds : List (Key × D)), dkOf st x = some ds → (!ds.isEmpty) = k → truW X v1 H Qt := fun ds h1 h2 => by
    obtain ⟨a, kvs, rfl, r, d1, d2⟩ := dk_rep W rx h1
    rw [← h2, ← emp_map d1] at q
    intro pins s σ v I rv
    cases rv
    exact d_truth I r fun s' I' => ⟨H, I', q⟩
  unfold tru at e
  split at e
  · cases rx; cases e; exact truW_of tru_ok ⟨_, rfl, q⟩
  · cases rx; cases e; exact truW_of tru_ok ⟨_, rfl, q⟩
  · cases rx; cases e; exact truW_of tru_ok ⟨_, rfl, q⟩
  · cases rx
    simp only [Option.ite_none_right_eq_some, Option.some.injEq] at e
    exact truW_of tru_ok ⟨_, ⟨le_line e.1, rfl⟩, e.2 ▸ q⟩
  · split at e
    · rename_i k' ds h1
      exact seq k' ds h1 (Option.some.inj e)
    · simp only [Option.map_eq_some_iff] at e
      obtain ⟨kvs, h1, h2⟩ := e
      exact dct kvs h1 h2
theorem len_sound {n : Nat} (hK : X.K = L.K) (e : lenD st x = some n) (rx : Rep L H (fx ++ cm) cm v1 x) (W : Valid L H (fx ++ cm) cm st) (q : Q (.int n) H) : cW X (.builtin "len") [v1] H Q := by
  unfold lenD at e
  split at e
  · cases rx
    simp only [Option.ite_none_right_eq_some, Option.some.injEq] at e
    obtain ⟨e1, rfl⟩ := e
    exact cW_of call_len_str ⟨_, rfl, le_line e1, q⟩
  · split at e
    · rename_i k' ds h1
      simp only [Option.some.injEq] at e
      subst e
      obtain ⟨a, us, rfl, r, d1, d2⟩ := seq_rep W rx h1
      rw [← r.length] at q
      exact cW_of call_len_seq ⟨a, us, rfl, hK ▸ seq_or d1 d2, q⟩
    · simp only [Option.map_eq_some_iff] at e
      obtain ⟨kvs, h1, rfl⟩ := e
      obtain ⟨a, ws, rfl, r, d1, d2⟩ := dk_rep W rx h1
      have hl : ws.length = kvs.length := by
        have z := congrArg List.length d1
        simpa using z
      rw [← hl] at q
      intro pins s σ us I rv
      obtain ⟨u, rfl, ru⟩ := vals1 rv
      cases ru
      exact d_len I r fun t s' I' => ⟨.int ws.length, H, I', ⟨t, rfl⟩, q⟩

theorem atI_rep {vs : List V} {ds : List D} {i : Int} {d : D} (r : Reps L H (fx ++ cm) cm vs ds) (e : atI ds i = some d) : ∃ v, atI vs i = some v ∧ Rep L H (fx ++ cm) cm v d := by
  unfold atI at e ⊢
  rw [← r.length] at e
  simp only [Option.bind_eq_some_iff] at e ⊢
  obtain ⟨j, h1, h2⟩ := e
  obtain ⟨v, h3, h4⟩ := r.get h2
  exact ⟨v, ⟨j, h1, h3⟩, h4⟩
/-- what the program's dicts of the top hold -/
def GdOk (L : Lk) (w : World) (gd : Nat → List (Str × D)) : Prop :=
  ∀ (j : Nat) (z : Str) (d : D), lookK (gd j) z = some d → ∃ v, KDct L.K w (L.ga j) z v ∧ ∀ (H : Hp) (fb cm : List Addr), Rep L H fb cm v d
theorem dgetIx_sound {gd : Nat → List (Str × D)} {d : D} (hK : X.K = L.K) (hg : GdOk L X.w gd) (hu : X.A.units + 1 < cLine) (e : dget gd st x y = some (some d)) (rx : Rep L H (fx ++ cm) cm v1 x) (ry : Rep L H (fx ++ cm) cm v2 y) (W : Valid L H (fx ++ cm) cm st)
    (k : ∀ v, Rep L H (fx ++ cm) cm v d → Q v H) : xW X v1 v2 H Q := by
  by_cases g : ∃ j, x = .gd j
  · obtain ⟨j, rfl⟩ := g
    simp only [dget] at e
    split at e
    · rename_i z
      simp only [Option.map_eq_some_iff, Option.some.injEq, exists_eq_right] at e
      obtain ⟨v, h1, h2⟩ := hg j z d e
      cases rx
      cases ry
      exact xW_of ix_kdict ⟨_, z, v, rfl, rfl, hK ▸ h1, k v (h2 _ _ _)⟩
    · cases e
  · obtain ⟨a, u, rfl, _, h3, _, h5⟩ := dget_rep W rx ry (fun j z => g ⟨j, z⟩) e
    obtain ⟨v, rfl, rv⟩ := h5 d rfl
    intro value slice pins s σ w u I r1 r2 hs
    cases r1
    exact tail_any (dict_typeIs I h3) slot_dict_getitem.lookup (d_getItem hu I h3 r2 fun w' s' I' rw' => ⟨v, H, I', rw', k v rv⟩) hs
theorem ix_sound {gd : Nat → List (Str × D)} {r : R} (hK : X.K = L.K) (hg : GdOk L X.w gd) (hu : X.A.units + 1 < cLine) (e : ixR gd x y st = some r) (rx : Rep L H (fx ++ cm) cm v1 x) (ry : Rep L H (fx ++ cm) cm v2 y) (W : Valid L H (fx ++ cm) cm st)
    (k : ∀ v H', Po L fx b H cm st v r H' cm st → Q v H') : xW X v1 v2 H Q := by
  unfold ixR at e
  split at e
  · cases rx
    cases ry
    simp only [Option.ite_none_right_eq_some, Option.map_eq_some_iff] at e
    obtain ⟨e1, c, e2, rfl⟩ := e
    exact xW_of ix_str ⟨_, _, c, rfl, rfl, le_line e1, e2, k _ _ (po_val W (.str _))⟩
  · split at e
    · rename_i k' ds i h1 _
      simp only [Option.map_eq_some_iff] at e
      obtain ⟨d, e1, rfl⟩ := e
      obtain ⟨a, us, rfl, r, d1, d2⟩ := seq_rep W rx h1
      obtain ⟨v, h2, h3⟩ := atI_rep r e1
      cases ry
      cases k' with
      | false => exact xW_of ix_list ⟨a, us, i, v, rfl, rfl, (hK ▸ (d1 rfl).sq), h2, k _ _ (po_val W h3)⟩
      | true => exact xW_of ix_tup ⟨a, us, i, v, rfl, rfl, hK ▸ d2 rfl, h2, k _ _ (po_val W h3)⟩
    · split at e
      · rename_i d h1
        simp only [Option.some.injEq] at e
        subst e
        exact dgetIx_sound hK hg hu h1 rx ry W fun v rv => k _ _ (po_val W rv)
      · cases e
theorem cut_rep {vs : List V} {ds : List D} {lo hi : Option Int} (r : Reps L H (fx ++ cm) cm vs ds) :
    Reps L H (fx ++ cm) cm (cutV vs lo hi) ((ds.drop (HT.sIx ds.length 0 lo)).take (HT.sIx ds.length ds.length hi - HT.sIx ds.length 0 lo)) := by
  unfold cutV
  rw [r.length]
  exact (r.drop _).take _
theorem sl_sound {lo hi : Option Int} {r : R} (hK : X.K = L.K) (e : slR x lo hi st = some r) (rx : Rep L H (fx ++ cm) cm v1 x) (W : Valid L H (fx ++ cm) cm st) (k : ∀ v H', Po L fx b H cm st v r H' cm st → Q v H') : slW X v1 lo hi H Q := by
  unfold slR at e
  split at e
  · rename_i ds h1
    simp only [Option.some.injEq] at e
    subst e
    obtain ⟨a, us, rfl, r, d1, d2⟩ := seq_rep W rx h1
    exact slW_of sl_list ⟨a, us, rfl, (hK ▸ (d1 rfl).sq), fun p hp => k _ _ (po_lst W (cut_rep r) hp)⟩
  · rename_i ds h1
    obtain ⟨a, us, rfl, r, d1, d2⟩ := seq_rep W rx h1
    refine slW_of sl_tupA ⟨a, us, rfl, hK ▸ d2 rfl, fun z => ?_, fun z p hp => ?_⟩
    · rw [r.length] at z
      split at e
      · rename_i z2
        rcases z2 with z2 | z2
        · obtain ⟨_, z3⟩ := tup_rep rx z2 h1
          simp only [Option.some.injEq] at e
          subst e
          refine k _ _ (po_val W ?_)
          rw [z.1, z.2, List.drop_zero, Nat.sub_zero, List.take_length]
          exact z3 ▸ rx
        · exact absurd z z2
      · simp only [Option.some.injEq] at e
        subst e
        exact k _ _ (po_val W rx)
    · rw [r.length] at z
      rw [if_pos (.inr z)] at e
      simp only [Option.some.injEq] at e
      subst e
      exact k _ _ (po_tup W (cut_rep r) hp)
  · cases e

def bltV : Blt → Value
  | .len => .builtin "len" | .abs => .builtin "abs" | .max2 => .builtin "max" | .min2 => .builtin "min" | .int1 => .type "int" | .sum => .builtin "sum" | .maxL => .builtin "max" | .minL => .builtin "min"
  | .any => .builtin "any" | .all => .builtin "all" | .sorted => .builtin "sorted" | .list => .type "list" | .tuple => .type "tuple" | .str => .type "str" | .range_ => .type "range"
theorem foldl_max_le : ∀ (xs : List Int) (x : Int), x ≤ xs.foldl max x ∧ (∀ y ∈ xs, y ≤ xs.foldl max x) ∧ (xs.foldl max x = x ∨ xs.foldl max x ∈ xs)
  | [], x => ⟨Int.le_refl _, by simp, .inl rfl⟩
  | z :: xs, x => by
    obtain ⟨h1, h2, h3⟩ := foldl_max_le xs (max x z)
    simp only [List.foldl_cons, List.mem_cons, forall_eq_or_imp]
    refine ⟨Int.le_trans (Int.le_max_left _ _) h1, ⟨Int.le_trans (Int.le_max_right _ _) h1, h2⟩, ?_⟩
    rcases h3 with h3 | h3
    · rcases Int.le_total x z with q | q
      · exact .inr (.inl (by rw [h3]; exact Int.max_eq_right q))
      · exact .inl (by rw [h3]; exact Int.max_eq_left q)
    · exact .inr (.inr h3)
theorem foldl_min_le : ∀ (xs : List Int) (x : Int), xs.foldl min x ≤ x ∧ (∀ y ∈ xs, xs.foldl min x ≤ y) ∧ (xs.foldl min x = x ∨ xs.foldl min x ∈ xs)
  | [], x => ⟨Int.le_refl _, by simp, .inl rfl⟩
  | z :: xs, x => by
    obtain ⟨h1, h2, h3⟩ := foldl_min_le xs (min x z)
    simp only [List.foldl_cons, List.mem_cons, forall_eq_or_imp]
    refine ⟨Int.le_trans h1 (Int.min_le_left _ _), ⟨Int.le_trans h1 (Int.min_le_right _ _), h2⟩, ?_⟩
    rcases h3 with h3 | h3
    · rcases Int.le_total x z with q | q
      · exact .inl (by rw [h3]; exact Int.min_eq_left q)
      · exact .inr (.inl (by rw [h3]; exact Int.min_eq_right q))
    · exact .inr (.inr h3)
theorem maxI_is {ns : List Int} {m : Int} (h : maxI ns = some m) : 0 < ns.length ∧ m ∈ ns ∧ ∀ y ∈ ns, y ≤ m := by
  cases ns with
  | nil => cases h
  | cons x xs =>
    simp only [maxI, Option.some.injEq] at h
    subst h
    obtain ⟨h1, h2, h3⟩ := foldl_max_le xs x
    refine ⟨Nat.succ_pos _, ?_, ?_⟩
    · rcases h3 with h3 | h3
      · rw [h3]; exact List.mem_cons_self
      · exact List.mem_cons_of_mem _ h3
    · simp only [List.mem_cons, forall_eq_or_imp]
      exact ⟨h1, h2⟩
theorem minI_is {ns : List Int} {m : Int} (h : minI ns = some m) : 0 < ns.length ∧ m ∈ ns ∧ ∀ y ∈ ns, m ≤ y := by
  cases ns with
  | nil => cases h
  | cons x xs =>
    simp only [minI, Option.some.injEq] at h
    subst h
    obtain ⟨h1, h2, h3⟩ := foldl_min_le xs x
    refine ⟨Nat.succ_pos _, ?_, ?_⟩
    · rcases h3 with h3 | h3
      · rw [h3]; exact List.mem_cons_self
      · exact List.mem_cons_of_mem _ h3
    · simp only [List.mem_cons, forall_eq_or_imp]
      exact ⟨h1, h2⟩
theorem reps1 {vs : List V} (h : Reps L H (fx ++ cm) cm vs [x]) : ∃ v, vs = [v] ∧ Rep L H (fx ++ cm) cm v x := by
  cases h with
  | cons r t => cases t; exact ⟨_, rfl, r⟩
theorem reps2 {vs : List V} (h : Reps L H (fx ++ cm) cm vs [x, y]) : ∃ v w, vs = [v, w] ∧ Rep L H (fx ++ cm) cm v x ∧ Rep L H (fx ++ cm) cm w y := by
  cases h with
  | cons r t => cases t with
    | cons r2 t => cases t; exact ⟨_, _, rfl, r, r2⟩
theorem blt_sound {f : Blt} {xs : List D} {vs : List V} {r : R} (hK : X.K = L.K) (hc : X.calm = true) (e : bltR f xs st = some r) (rs : Reps L H (fx ++ cm) cm vs xs) (W : Valid L H (fx ++ cm) cm st)
    (k : ∀ v H', Po L fx b H cm st v r H' cm st → Q v H') : cW X (bltV f) vs H Q := by
  unfold bltR at e
  split at e
  · obtain ⟨v, rfl, rv⟩ := reps1 rs
    simp only [Option.map_eq_some_iff] at e
    obtain ⟨n, e1, rfl⟩ := e
    exact len_sound hK e1 rv W (k _ _ (po_val W (.int _)))
  · obtain ⟨v, rfl, rv⟩ := reps1 rs
    cases rv
    cases e
    exact cW_of call_abs ⟨_, rfl, k _ _ (po_val W (.int _))⟩
  · obtain ⟨v, w, rfl, rv, rw_⟩ := reps2 rs
    cases rv
    cases rw_
    cases e
    exact cW_of (call_max2 hc) ⟨_, _, rfl, k _ _ (po_val W (.int _))⟩
  · obtain ⟨v, w, rfl, rv, rw_⟩ := reps2 rs
    cases rv
    cases rw_
    cases e
    exact cW_of (call_min2 hc) ⟨_, _, rfl, k _ _ (po_val W (.int _))⟩
  · obtain ⟨v, rfl, rv⟩ := reps1 rs
    cases rv
    cases e
    exact cW_of call_int1 (.inl ⟨_, rfl, k _ _ (po_val W (.int _))⟩)
  · obtain ⟨v, rfl, rv⟩ := reps1 rs
    cases rv
    cases e
    exact cW_of call_int1 (.inr ⟨_, rfl, k _ _ (po_val W (.int _))⟩)
  · obtain ⟨v, rfl, rv⟩ := reps1 rs
    split at e
    · rename_i ds h1
      simp only [Option.map_eq_some_iff] at e
      obtain ⟨ns, e1, rfl⟩ := e
      obtain ⟨a, us, rfl, r, d1, d2⟩ := seq_rep W rv h1
      have z := ints_rep r e1
      subst z
      exact cW_of (cr_sum hc) ⟨a, ns, rfl, (hK ▸ (d1 rfl).sq), k _ _ (po_val W (.int _))⟩
    · cases e
  · obtain ⟨v, rfl, rv⟩ := reps1 rs
    split at e
    · rename_i ds h1
      simp only [Option.bind_eq_some_iff, Option.map_eq_some_iff] at e
      obtain ⟨ns, e1, m, e2, rfl⟩ := e
      obtain ⟨a, us, rfl, r, d1, d2⟩ := seq_rep W rv h1
      have z := ints_rep r e1
      subst z
      obtain ⟨l0, l1, l2⟩ := maxI_is e2
      refine cW_of (cr_max hc) ⟨a, ns, rfl, (hK ▸ (d1 rfl).sq), l0, fun m' m1 m2 => ?_⟩
      have z : m' = m := Int.le_antisymm (l2 m' m1) (m2 m l1)
      subst z
      exact k _ _ (po_val W (.int _))
    · cases e
  · obtain ⟨v, rfl, rv⟩ := reps1 rs
    split at e
    · rename_i ds h1
      simp only [Option.bind_eq_some_iff, Option.map_eq_some_iff] at e
      obtain ⟨ns, e1, m, e2, rfl⟩ := e
      obtain ⟨a, us, rfl, r, d1, d2⟩ := seq_rep W rv h1
      have z := ints_rep r e1
      subst z
      obtain ⟨l0, l1, l2⟩ := minI_is e2
      refine cW_of (cr_min hc) ⟨a, ns, rfl, (hK ▸ (d1 rfl).sq), l0, fun m' m1 m2 => ?_⟩
      have z : m' = m := Int.le_antisymm (m2 m l1) (l2 m' m1)
      subst z
      exact k _ _ (po_val W (.int _))
    · cases e
  · obtain ⟨v, rfl, rv⟩ := reps1 rs
    split at e
    · rename_i ds h1
      simp only [Option.map_eq_some_iff] at e
      obtain ⟨ns, e1, rfl⟩ := e
      obtain ⟨a, us, rfl, r, d1, d2⟩ := seq_rep W rv h1
      have z := bls_rep r e1
      subst z
      exact cW_of (cr_any hc) ⟨a, ns, rfl, (hK ▸ (d1 rfl).sq), k _ _ (po_val W (.bl _))⟩
    · cases e
  · obtain ⟨v, rfl, rv⟩ := reps1 rs
    split at e
    · rename_i ds h1
      simp only [Option.map_eq_some_iff] at e
      obtain ⟨ns, e1, rfl⟩ := e
      obtain ⟨a, us, rfl, r, d1, d2⟩ := seq_rep W rv h1
      have z := bls_rep r e1
      subst z
      exact cW_of (cr_all hc) ⟨a, ns, rfl, (hK ▸ (d1 rfl).sq), k _ _ (po_val W (.bl _))⟩
    · cases e
  · obtain ⟨v, rfl, rv⟩ := reps1 rs
    split at e
    · rename_i k' ds h1
      simp only [Option.some.injEq] at e
      subst e
      obtain ⟨a, us, rfl, r, d1, d2⟩ := seq_rep W rv h1
      exact cW_of call_list_of ⟨a, us, rfl, hK ▸ seq_or d1 d2, fun p hp => k _ _ (po_lst W r hp)⟩
    · cases e
  · obtain ⟨v, rfl, rv⟩ := reps1 rs
    split at e
    · rename_i k' ds h1
      obtain ⟨a, us, rfl, r, d1, d2⟩ := seq_rep W rv h1
      cases k' with
      | false =>
        rw [if_pos (.inl rfl)] at e
        simp only [Option.some.injEq] at e
        subst e
        exact cW_of call_tuple_of ⟨a, us, rfl, .inl ⟨hK ▸ (d1 rfl).sq, fun p hp => k _ _ (po_tup W r hp)⟩⟩
      | true =>
        refine cW_of call_tuple_of ⟨a, us, rfl, .inr ⟨hK ▸ d2 rfl, ?_⟩⟩
        split at e
        · rename_i z
          simp only [reduceCtorEq, false_or] at z
          obtain ⟨_, z3⟩ := tup_rep rv z h1
          simp only [Option.some.injEq] at e
          subst e
          exact k _ _ (po_val W (z3 ▸ rv))
        · simp only [Option.some.injEq] at e
          subst e
          exact k _ _ (po_val W rv)
    · cases e
  · obtain ⟨v, rfl, rv⟩ := reps1 rs
    cases rv
    simp only [Option.ite_none_right_eq_some, Option.some.injEq] at e
    obtain ⟨e1, rfl⟩ := e
    exact cW_of call_str_int ⟨_, rfl, e1, k _ _ (po_val W (.str _))⟩
  · cases e

def tyN : Ty → String
  | .non => "NoneType" | .bool => "bool" | .int => "int" | .str => "str" | .tuple => "tuple" | .list => "list" | .dict => "dict" | .own _ => "object"
theorem kit_all (K : PySem.W.Frag) {u t : Ty} (h1 : u.isB = true) (h2 : t.isB = true) : PySem.W.kitOne K (.type (tyN u)) (.type (tyN t)) = some (isTy u t) := by
  cases u <;> simp only [Ty.isB, Bool.false_eq_true, reduceCtorEq] at h1 <;> cases t <;> simp only [Ty.isB, Bool.false_eq_true, reduceCtorEq] at h2 <;> exact kit_ty (by decide +kernel)
theorem ty_rep {u : Ty} (h1 : u.isB = true) (e : tyOf st x = some u) (rx : Rep L H (fx ++ cm) cm v1 x) (W : Valid L H (fx ++ cm) cm st) : TyX L.K H v1 (.type (tyN u)) := by
  have l0 : ∀ {a : Addr} {xs : List V}, Rd H a (.lst xs) → TyX L.K H (.ref a) (.type "list") := fun {a xs} t => by
    rcases t with t | ⟨o, t⟩
    · exact .base (.lst t)
    · exact .base (.frz t)
  have d0 : ∀ {a : Addr} {xs : List (Key × V)}, Rd H a (.dK xs) → TyX L.K H (.ref a) (.type "dict") := fun {a xs} t => by
    rcases t with t | ⟨o, t⟩
    · exact .base (.dK t)
    · exact .fDict t
  cases rx with
  | non => cases e; exact .base .non
  | bl b => cases e; exact .base (.bl b)
  | int b => cases e; exact .base (.int b)
  | str b => cases e; exact .base (.str b)
  | tup n t r => cases e; exact .base (.tup t)
  | lst n t r => cases e; exact l0 t
  | dk n t q r => cases e; exact d0 t
  | dt n t q r => cases e
  | obj n t q r => cases e; cases h1
  | gd j => cases e
  | kl n r =>
    cases e
    obtain ⟨its, m, h1, _⟩ := n
    exact .kList h1 rfl
  | kt n r =>
    cases e
    obtain ⟨o, its, m, h1, h2, _⟩ := n
    exact .kTuple h1 h2
  | cell c =>
    simp only [tyOf] at e
    split at e
    · rename_i ds h2
      cases e
      obtain ⟨xs, h3, _⟩ := W.cell h2 c
      exact l0 (.inl h3)
    · rename_i ds h2
      cases e
      obtain ⟨xs, h3, _⟩ := W.cell h2 c
      exact d0 (.inl h3)
    · rename_i ds h2
      cases e
      obtain ⟨xs, h3, _⟩ := W.cell h2 c
      exact .base (.dT h3)
    · cases e; cases h1
    · cases e
theorem isin_sound {u t : Ty} (hK : X.K = L.K) (h1 : u.isB = true) (h2 : t.isB = true) (e : tyOf st x = some u) (rx : Rep L H (fx ++ cm) cm v1 x) (W : Valid L H (fx ++ cm) cm st) (q : Q (.bl (isTy u t)) H) :
    cW X (.builtin "isinstance") [v1, .ty (tyN t)] H Q := by
  refine cW_of call_isi ⟨v1, _, .type (tyN u), .type (tyN t), isTy u t, rfl, .ty _, ?_, kit_all _ h1 h2, q⟩
  rw [hK]
  exact ty_rep h1 e rx W

theorem onLst_is {d w : D} {f : List D → Option (D × List D)} {r : R} {st' : Store} (e : onLst b st d f w = .ok r st') :
    ∃ n ds q ds', d = .cell n ∧ st[n]? = some (.lst ds) ∧ f ds = some (q, ds') ∧ (b ≤ n ∨ cb 0 w = true) ∧ ds'.length ≤ 100000 ∧ r = .v q ∧ st' = st.set n (.lst ds') := by
  unfold onLst at e
  split at e
  · split at e
    · split at e
      · rename_i h1 _ _ _ h2
        split at e
        · rename_i h3
          simp only [okW, Bool.and_eq_true, Bool.or_eq_true, decide_eq_true_eq] at h3
          cases e
          exact ⟨_, _, _, _, rfl, h1, h2, h3.1, h3.2, rfl, rfl⟩
        · cases e
      · cases e
    · cases e
  · cases e
theorem cell_at {n : Nat} {o : O} (W : Valid L H (fx ++ cm) cm st) (rx : Rep L H (fx ++ cm) cm v1 (.cell n)) (h : st[n]? = some o) : ∃ a, v1 = .ref a ∧ cm[n]? = some a ∧ a ∈ cm ∧ ORep L H (fx ++ cm) cm a o := by
  cases rx with
  | cell c => exact ⟨_, rfl, c, List.mem_of_getElem? c, W.cell h c⟩
/-- a list in a cell is changed -/
theorem wr_lst {n : Nat} {a : Addr} {ds ds' : List D} {xs' : List V} {q : D} {v : V} (W : Valid L H (fx ++ cm) cm st) (hn : st[n]? = some (.lst ds)) (ha : cm[n]? = some a) (r : Reps L H (fx ++ cm) cm xs' ds') (rq : Rep L H (fx ++ cm) cm v q)
    (hw : b ≤ n ∨ ∀ d ∈ ds', d ∈ ds ∨ cb 0 d = true) : Po L fx b H cm st v (.v q) (upd H a (.lst xs')) cm (st.set n (.lst ds')) := by
  have m : a ∈ cm := List.mem_of_getElem? ha
  obtain ⟨s, W'⟩ := wr_ok (b := b) (u := .lst xs') W hn ha (o' := .lst ds') ⟨xs', upd_same, r.ext (ext_cell m)⟩ (hw.imp id fun h b' q => by
    simp only [cbO, cbs_iff] at q ⊢
    exact fun d hd => (h d hd).elim (q d) fun z => cb_mono (Nat.zero_le _) d z)
  exact ⟨s, W', rq.ext (ext_cell m)⟩
def rExtR (K : PySem.W.Frag) : V → List V → Hp → VK → Prop := fun x vs H Q => ∃ l b xs zs, x = .ref l ∧ vs = [.ref b] ∧ H l = some (.lst xs) ∧ Ql K H b zs ∧ xs.length + zs.length ≤ sizeLine ∧ Q .non (upd H l (.lst (xs ++ zs)))
theorem mt_extR {X : Cx} : MtR X "list.extend" (rExtR X.K) := by
  intro pins s σ H x vs v us Q I rx rv h
  obtain ⟨l, b, xs, zs, rfl, rfl, hH, hB, hz, q⟩ := h
  cases rx
  obtain ⟨u, rfl, ru⟩ := rv.one
  cases ru
  obtain ⟨z, its, n, r, hl, e⟩ := lst_rd I (.inl (.inl hH))
  obtain ⟨z2, its2, n2, r2, hl2, e2⟩ := lst_rd I hB
  have sz : its.toArray.size + its2.toArray.size ≤ sizeLine := by
    rw [List.size_toArray, List.size_toArray]
    omega
  have ln : ¬ (!its.toArray.isEmpty && Builtin.List.listTooLong (its.toArray.size + its2.toArray.size)) = true := by
    rw [notLongL sz, Bool.and_false]
    exact Bool.false_ne_true
  refine call_meets F.slot_list_extend ⟨_, e, rfl⟩ F.entry_list_extend (F.args_list_extend_2 _ _)
    (AutoSeq1.list_extend_list_list_0 l its.toArray n b its2.toArray n2 ln (by rw [List.size_toArray]; omega) (by omega)) ⟨e, e2, ?_⟩
  refine ⟨.non, _, I.lset (its' := its ++ its2) hH e (by simp) (r.append r2) ?_, rfl, q⟩
  rw [List.length_append]
  omega
theorem firstEq_is {v : V} : ∀ {vs : List V} {j : Nat}, firstEq v vs = some j → ∃ z, vs[j]? = some z ∧ eqV z v = true ∧ ∀ m z', m < j → vs[m]? = some z' → eqV z' v = false
  | [], j, e => by cases e
  | x :: xs, j, e => by
    simp only [firstEq] at e
    split at e
    · rename_i h
      cases e
      exact ⟨x, rfl, h, fun m z' hm => absurd hm (Nat.not_lt_zero _)⟩
    · rename_i h
      simp only [Option.map_eq_some_iff] at e
      obtain ⟨j', e1, rfl⟩ := e
      obtain ⟨z, h1, h2, h3⟩ := firstEq_is e1
      refine ⟨z, by simpa using h1, h2, fun m z' hm hz => ?_⟩
      cases m with
      | zero =>
        simp only [List.getElem?_cons_zero, Option.some.injEq] at hz
        subst hz
        simpa using h
      | succ m => exact h3 m z' (by omega) (by simpa using hz)
def mtI : Mt → String
  | .append => "list.append" | .pop0 => "list.pop" | .popAt => "list.pop" | .extend => "list.extend" | .reverse => "list.reverse" | .clear => "list.clear" | .index => "list.index" | .get1 => "dict.get" | .get2 => "dict.get" | .insert => "list.insert"
def Mt.isL : Mt → Bool
  | .get1 => false | .get2 => false | .insert => false | _ => true
theorem mem_drop {d : D} {ds : List D} (h : d ∈ ds.dropLast) : d ∈ ds := (List.dropLast_sublist ds).subset h
theorem mt_sound {m : Mt} {gd : Nat → List (Str × D)} {xs : List D} {vs : List V} {r : R} {st' : Store} (hK : X.K = L.K) (hm : m.isL = true) (e : mtR gd b m x xs st = .ok r st') (rx : Rep L H (fx ++ cm) cm v1 x) (rs : Reps L H (fx ++ cm) cm vs xs) (W : Valid L H (fx ++ cm) cm st)
    (k : ∀ v H', Po L fx b H cm st v r H' cm st' → Q v H') : mW X (mtI m) v1 vs H Q := by
  unfold mtR at e
  split at e
  · obtain ⟨v, rfl, rv⟩ := reps1 rs
    obtain ⟨n, ds, q, ds', rfl, hn, hf, hw, hl, rfl, rfl⟩ := onLst_is e
    obtain ⟨a, rfl, ha, m, us, h1, ru⟩ := cell_at W rx hn
    simp only [Option.some.injEq, Prod.mk.injEq] at hf
    obtain ⟨rfl, rfl⟩ := hf
    refine mW_of mt_append ⟨a, us, v, rfl, rfl, h1, ?_, k _ _ (wr_lst W hn ha (ru.append (.one rv)) .non (hw.imp id fun z d hd => ?_))⟩
    · rw [List.length_append, List.length_singleton] at hl
      rw [ru.length]
      exact lt_line (by omega)
    · rcases List.mem_append.mp hd with z2 | z2
      · exact .inl z2
      · rw [List.mem_singleton.mp z2]
        exact .inr z
  · cases rs
    obtain ⟨n, ds, q, ds', rfl, hn, hf, hw, hl, rfl, rfl⟩ := onLst_is e
    obtain ⟨a, rfl, ha, m, us, h1, ru⟩ := cell_at W rx hn
    simp only [Option.map_eq_some_iff, Prod.mk.injEq] at hf
    obtain ⟨d, h2, rfl, rfl⟩ := hf
    obtain ⟨v, h3, h4⟩ := ru.get h2
    refine mW_of mt_pop ⟨a, us, v, rfl, rfl, h1, by rw [ru.length]; exact h3, k _ _ (wr_lst W hn ha ru.dropLast h4 (hw.imp id fun z d hd => .inl (mem_drop hd)))⟩
  · obtain ⟨v, rfl, rv⟩ := reps1 rs
    cases rv
    obtain ⟨n, ds, q, ds', rfl, hn, hf, hw, hl, rfl, rfl⟩ := onLst_is e
    obtain ⟨a, rfl, ha, m, us, h1, ru⟩ := cell_at W rx hn
    simp only [Option.ite_none_right_eq_some, decide_eq_true_eq, Option.bind_eq_some_iff, Option.map_eq_some_iff, Prod.mk.injEq] at hf
    obtain ⟨hi, j, hj, d, h2, rfl, rfl⟩ := hf
    obtain ⟨v, h3, h4⟩ := ru.get h2
    rw [← ru.length] at hj
    refine mW_of mt_popAt ⟨a, us, _, j, v, rfl, rfl, h1, hi.1, hi.2, (ixN_seq hj).1, h3, k _ _ (wr_lst W hn ha (ru.eraseIdx j) h4 (hw.imp id fun z d hd => .inl (List.mem_of_mem_eraseIdx hd)))⟩
  · cases rs
    obtain ⟨n, ds, q, ds', rfl, hn, hf, hw, hl, rfl, rfl⟩ := onLst_is e
    obtain ⟨a, rfl, ha, m, us, h1, ru⟩ := cell_at W rx hn
    simp only [Option.some.injEq, Prod.mk.injEq] at hf
    obtain ⟨rfl, rfl⟩ := hf
    exact mW_of mt_reverse ⟨a, us, rfl, rfl, h1, k _ _ (wr_lst W hn ha ru.reverse .non (hw.imp id fun z d hd => .inl (List.mem_reverse.mp hd)))⟩
  · cases rs
    obtain ⟨n, ds, q, ds', rfl, hn, hf, hw, hl, rfl, rfl⟩ := onLst_is e
    obtain ⟨a, rfl, ha, m, us, h1, ru⟩ := cell_at W rx hn
    simp only [Option.some.injEq, Prod.mk.injEq] at hf
    obtain ⟨rfl, rfl⟩ := hf
    exact mW_of mt_clear ⟨a, us, rfl, rfl, h1, k _ _ (wr_lst W hn ha .nil .non (hw.imp id fun z d hd => by cases hd))⟩
  · obtain ⟨v, rfl, rv⟩ := reps1 rs
    split at e
    · rename_i es h0
      obtain ⟨c, ws, rfl, rw_, e1, _⟩ := seq_rep W rv h0
      obtain ⟨n, ds, q, ds', rfl, hn, hf, hw, hl, rfl, rfl⟩ := onLst_is e
      obtain ⟨a, rfl, ha, m, us, h1, ru⟩ := cell_at W rx hn
      simp only [Option.some.injEq, Prod.mk.injEq] at hf
      obtain ⟨rfl, rfl⟩ := hf
      refine mW_of mt_extR ⟨a, c, us, ws, rfl, rfl, h1, hK ▸ e1 rfl, ?_, k _ _ (wr_lst W hn ha (ru.append rw_) .non (hw.imp id fun z d hd => ?_))⟩
      · rw [List.length_append] at hl
        rw [ru.length, rw_.length]
        exact le_line hl
      · rcases List.mem_append.mp hd with z2 | z2
        · exact .inl z2
        · simp only [cb, cbs_iff] at z
          exact .inr (z d z2)
    · cases e
  · obtain ⟨v, rfl, rv⟩ := reps1 rs
    split at e
    · rename_i ds h0
      obtain ⟨e0, rfl⟩ := Out.of_is e
      simp only [Option.bind_eq_some_iff, Option.map_eq_some_iff] at e0
      obtain ⟨z, h2, zs, h3, j, h4, rfl⟩ := e0
      obtain ⟨a, us, rfl, ru, e1, _⟩ := seq_rep W rx h0
      have q := flat_rep rv h2
      subst q
      obtain ⟨rfl, h5⟩ := flats_rep ru h3
      obtain ⟨y, h6, h7, h8⟩ := firstEq_is h4
      exact mW_of mt_index ⟨a, us, _, j, y, rfl, rfl, hK ▸ (e1 rfl).sq, flat_isV h2, h5, h6, h7, h8, k _ _ (po_val W (.int _))⟩
    · cases e
  · cases hm
  · cases hm
  · cases e
/-- the receiver is a list -/
theorem mt_ty {m : Mt} {gd : Nat → List (Str × D)} {xs : List D} {r : R} {st' : Store} (hK : X.K = L.K) (hm : m.isL = true) (e : mtR gd b m x xs st = .ok r st') : (∃ n ds, x = .cell n ∧ st[n]? = some (.lst ds)) ∨ ∃ ds, seqOf st x = some (false, ds) := by
  have c : ∀ {f : List D → Option (D × List D)} {w : D}, onLst b st x f w = .ok r st' → ∃ n ds, x = .cell n ∧ st[n]? = some (.lst ds) := fun {f w} e => by
    obtain ⟨n, ds, q, ds', h1, h2, _⟩ := onLst_is e
    exact ⟨n, ds, h1, h2⟩
  unfold mtR at e
  split at e
  · exact .inl (c e)
  · exact .inl (c e)
  · exact .inl (c e)
  · exact .inl (c e)
  · exact .inl (c e)
  · split at e
    · exact .inl (c e)
    · cases e
  · split at e
    · rename_i h
      exact .inr ⟨_, h⟩
    · cases e
  · cases hm
  · cases hm
  · cases e

theorem put_rep {κ : Type} [DecidableEq κ] {k : κ} {v : V} {d : D} (r : Rep L H (fx ++ cm) cm v d) {xs : List (κ × V)} {ds : List (κ × D)} (e : xs.map (·.1) = ds.map (·.1)) (rs : Reps L H (fx ++ cm) cm (xs.map (·.2)) (ds.map (·.2))) :
    (L2.putK xs k v).map (·.1) = (En.putK ds k d).map (·.1) ∧ Reps L H (fx ++ cm) cm ((L2.putK xs k v).map (·.2)) ((En.putK ds k d).map (·.2)) := by
  have any : (xs.any fun kv => decide (kv.1 = k)) = ds.any fun kv => decide (kv.1 = k) := by
    have a1 : (xs.any fun kv => decide (kv.1 = k)) = (xs.map (·.1)).any fun q => decide (q = k) := by rw [List.any_map]; rfl
    have a2 : (ds.any fun kv => decide (kv.1 = k)) = (ds.map (·.1)).any fun q => decide (q = k) := by rw [List.any_map]; rfl
    rw [a1, a2, e]
  unfold L2.putK En.putK
  rw [any]
  split
  · rename_i hyp
    clear any hyp
    induction xs generalizing ds with
    | nil =>
      cases ds with
      | nil => exact ⟨rfl, .nil⟩
      | cons _ _ => simp at e
    | cons p xs ih =>
      cases ds with
      | nil => simp at e
      | cons p2 ds =>
        simp only [List.map_cons, List.cons.injEq] at e rs
        cases rs with
        | cons r1 r2 =>
          obtain ⟨i1, i2⟩ := ih e.2 r2
          simp only [List.map_cons]
          rw [e.1]
          by_cases z : p2.1 = k
          · rw [if_pos z, if_pos z]
            exact ⟨by rw [i1], .cons r i2⟩
          · rw [if_neg z, if_neg z]
            exact ⟨by rw [i1, e.1], .cons r1 i2⟩
  · simp only [List.map_append, List.map_cons, List.map_nil]
    exact ⟨by rw [e], rs.append (.one r)⟩
theorem putK_mem {κ : Type} [DecidableEq κ] {k : κ} {d : D} {ds : List (κ × D)} {p : κ × D} (h : p ∈ En.putK ds k d) : p.2 = d ∨ p ∈ ds := by
  unfold En.putK at h
  split at h
  · obtain ⟨q, hq, e⟩ := List.mem_map.mp h
    split at e
    · exact .inl (by rw [← e])
    · exact .inr (by rw [← e]; exact hq)
  · rcases List.mem_append.mp h with z | z
    · exact .inr z
    · exact .inl (by rw [List.mem_singleton.mp z])
theorem ok_of {n : Nat} {d : D} (h : okW b n d = true) : b ≤ n ∨ cb 0 d = true := by
  simpa [okW] using h
theorem set_sound {d : D} {v : V} {st' : Store} {Qs : Hp → Prop} (hu : X.A.units + 1 < cLine) (e : setR b x y d st = .ok () st') (rx : Rep L H (fx ++ cm) cm v1 x) (ry : Rep L H (fx ++ cm) cm v2 y) (rv : Rep L H (fx ++ cm) cm v d) (W : Valid L H (fx ++ cm) cm st)
    (k : ∀ H', Stp b H cm st H' cm st' → Valid L H' (fx ++ cm) cm st' → Qs H') : sW X v1 v2 v H Qs := by
  unfold setR at e
  split at e
  · rename_i n
    split at e
    · rename_i ds hn
      obtain ⟨a, rfl, ha, m, us, h1, ru⟩ := cell_at W rx hn
      split at e
      · rename_i i
        split at e
        · rename_i j hj
          split at e
          · rename_i hw
            cases e
            cases ry
            rw [← ru.length] at hj
            obtain ⟨s, W', _⟩ := wr_lst (b := b) W hn ha (Reps.set rv j ru) .non ((ok_of hw).imp id fun z q hq => by
              rcases List.mem_or_eq_of_mem_set hq with z2 | z2
              · exact .inl z2
              · rw [z2]; exact .inr z)
            exact sW_of set_list ⟨a, us, i, j, rfl, rfl, h1, hj, k _ s W'⟩
          · cases e
        · cases e
      · cases e
    · rename_i ds hn
      obtain ⟨a, rfl, ha, m, us, h1, h2, ru⟩ := cell_at W rx hn
      split at e
      · rename_i q hq
        split at e
        · rename_i hw
          simp only [Bool.and_eq_true, decide_eq_true_eq] at hw
          cases e
          have z := key_rep ry hq
          subst z
          obtain ⟨p1, p2⟩ := put_rep (k := q) rv h2 ru
          have hl : us.length = ds.length := by simpa using congrArg List.length h2
          obtain ⟨s, W'⟩ := wr_ok (b := b) (u := .dK (L2.putK us q v)) W hn ha (o' := .dk (En.putK ds q d)) ⟨_, upd_same, p1, p2.ext (ext_cell m)⟩ ((ok_of hw.1).imp id fun z b' o => by
            simp only [cbO, cbk_iff] at o ⊢
            intro p hp
            rcases putK_mem hp with z2 | z2
            · rw [z2]; exact cb_mono (Nat.zero_le _) d z
            · exact o p z2)
          intro pins s' σ ov iv u I r1 r2 r3
          cases r1
          exact d_setItem hu I (DPut.k h1 (by rw [hl]; exact lt_line hw.2)) r2 r3 fun s2 I2 => ⟨_, I2, k _ s W'⟩
        · cases e
      · cases e
    · rename_i ds hn
      obtain ⟨a, rfl, ha, m, us, h1, h2, ru⟩ := cell_at W rx hn
      split at e
      · split at e
        · rename_i q hq
          split at e
          · rename_i hw
            simp only [Bool.and_eq_true, decide_eq_true_eq] at hw
            cases e
            cases ry with
            | @tup ka kxs kds kn kt kr =>
              have z := keys_rep kr hq
              subst z
              obtain ⟨p1, p2⟩ := put_rep (k := q) rv h2 ru
              have hl : us.length = ds.length := by simpa using congrArg List.length h2
              obtain ⟨s, W'⟩ := wr_ok (b := b) (u := .dT (L2.putK us q v)) W hn ha (o' := .dt (En.putK ds q d)) ⟨_, upd_same, p1, p2.ext (ext_cell m)⟩ ((ok_of hw.1).imp id fun z b' o => by
                simp only [cbO, cbt_iff] at o ⊢
                intro p hp
                rcases putK_mem hp with z2 | z2
                · rw [z2]; exact cb_mono (Nat.zero_le _) d z
                · exact o p z2)
              intro pins s' σ ov iv u I r1 r2 r3
              cases r1
              exact d_setItem hu I (DPut.t h1 kt (by rw [hl]; exact lt_line hw.2)) r2 r3 fun s2 I2 => ⟨_, I2, k _ s W'⟩
          · cases e
        · cases e
      · cases e
    · cases e
  · cases e
theorem putA_rep {f : Str} {v : V} {d : D} (r : Rep L H (fx ++ cm) cm v d) : ∀ {xs : List (Str × V)} {ds : List (Str × D)}, xs.map (·.1) = ds.map (·.1) → Reps L H (fx ++ cm) cm (xs.map (·.2)) (ds.map (·.2)) →
    (putF f v xs).map (·.1) = (putA f d ds).map (·.1) ∧ Reps L H (fx ++ cm) cm ((putF f v xs).map (·.2)) ((putA f d ds).map (·.2))
  | [], [], _, _ => ⟨rfl, .one r⟩
  | [], _ :: _, e, _ => by simp at e
  | _ :: _, [], e, _ => by simp at e
  | (k1, v1) :: xs, (k2, d2) :: ds, e, rs => by
    simp only [List.map_cons, List.cons.injEq] at e rs
    obtain ⟨rfl, e⟩ := e
    cases rs with
    | cons r1 r2 =>
      obtain ⟨i1, i2⟩ := putA_rep r e r2
      unfold putF putA
      by_cases z : k1 = f
      · rw [if_pos z, if_pos z]
        exact ⟨by simp [e], .cons r r2⟩
      · rw [if_neg z, if_neg z]
        exact ⟨by simp [i1], .cons r1 i2⟩
theorem putA_mem {f : Str} {d : D} : ∀ {ds : List (Str × D)} {p : Str × D}, p ∈ putA f d ds → p.2 = d ∨ p ∈ ds
  | [], p, h => by
    simp only [putA, List.mem_singleton] at h
    exact .inl (by rw [h])
  | (g, w) :: r, p, h => by
    unfold putA at h
    split at h
    · rcases List.mem_cons.mp h with z | z
      · exact .inl (by rw [z])
      · exact .inr (List.mem_cons_of_mem _ z)
    · rcases List.mem_cons.mp h with z | z
      · exact .inr (by rw [z]; exact List.mem_cons_self)
      · exact (putA_mem z).imp id (List.mem_cons_of_mem _)
/-- what a field's store asks, and gives -/
theorem setF_sound {d : D} {v : V} {f : Str} {st' : Store} (e : setF b x f d st = .ok () st') (rx : Rep L H (fx ++ cm) cm v1 x) (rv : Rep L H (fx ++ cm) cm v d) (W : Valid L H (fx ++ cm) cm st) :
    ∃ a c dx fs, v1 = .ref a ∧ H a = some (.ins (L.ca c) dx fs) ∧ fs.length < 1000 ∧ Stp b H cm st (upd H a (.ins (L.ca c) dx (putF f v fs))) cm st' ∧ Valid L (upd H a (.ins (L.ca c) dx (putF f v fs))) (fx ++ cm) cm st' := by
  unfold setF at e
  split at e
  · split at e
    · rename_i c ds hn
      split at e
      · rename_i hw
        simp only [Bool.and_eq_true, decide_eq_true_eq] at hw
        cases e
        obtain ⟨a, rfl, ha, m, dx, us, h1, h2, ru⟩ := cell_at W rx hn
        obtain ⟨p1, p2⟩ := putA_rep (f := f) rv h2 ru
        have hl : us.length = ds.length := by simpa using congrArg List.length h2
        obtain ⟨s, W'⟩ := wr_ok (b := b) (u := .ins (L.ca c) dx (putF f v us)) W hn ha (o' := .ins c (putA f d ds)) ⟨dx, _, upd_same, p1, p2.ext (ext_cell m)⟩ ((ok_of hw.1).imp id fun z b' o => by
          simp only [cbO, cbf_iff] at o ⊢
          intro p hp
          rcases putA_mem hp with z2 | z2
          · rw [z2]; exact cb_mono (Nat.zero_le _) d z
          · exact o p z2)
        exact ⟨a, c, dx, us, rfl, h1, by omega, s, W'⟩
      · cases e
    · cases e
  · cases e
theorem fld_sound {f : Str} {r : R} (e : fldR x f st = some r) (rx : Rep L H (fx ++ cm) cm v1 x) (W : Valid L H (fx ++ cm) cm st) :
    ∃ a c dx fs v d, objOf st x ≠ none ∧ v1 = .ref a ∧ H a = some (.ins (L.ca c) dx fs) ∧ fs.lookup f = some v ∧ r = .v d ∧ Rep L H (fx ++ cm) cm v d ∧ ∃ ds, objOf st x = some (c, ds) := by
  unfold fldR at e
  simp only [Option.bind_eq_some_iff, Option.map_eq_some_iff] at e
  obtain ⟨⟨c, ds⟩, h1, d, h2, rfl⟩ := e
  obtain ⟨a, dx, fs, rfl, h3, h4, h5⟩ := obj_rep W rx h1
  obtain ⟨v, h6, h7⟩ := (lookup_rep f h4 h5).2 d h2
  exact ⟨a, c, dx, fs, v, d, by rw [h1]; exact (fun z => nomatch z), rfl, h3, h6, rfl, h7, ds, h1⟩
end
end En

set_option Elab.async false
set_option linter.all false
set_option maxRecDepth 100000
set_option maxHeartbeats 1000000
namespace En
open PySem PySem.Spec PyProof.Rows L2

/-- what is known of the place where a text stands -/
structure SC where
  N : List Str
  sc : Scope
  fnc : Str → Bool
  fns : List (Str × Nat)
  gls : List (Str × Nat)
  cls : List (Str × Nat)
  blt : List Str
def SC.blk (c : SC) (scope : Scope) : SC := { c with sc := relS scope c.sc, fnc := fun x => scope.names.lookup x == some .cell }

def visB (sc : Scope) (x : Str) : Bool := match sc.names.lookup x with
  | some .local => true | some .cell => true | some .free => true | _ => false
def locB (c : SC) (x : Str) : Bool := match c.sc.names.lookup x with
  | some .local => true | some .cell => c.fnc x | _ => false
def glB (sc : Scope) (x : Str) : Bool := match sc.names.lookup x with
  | some .globalImplicit => true | _ => false
def okName (x : Str) : Bool := !(x == ("__debug__" : Str)) && !(x == ("__classdict__" : Str)) && !(x == ("__name__" : Str))
def noStar : Expr → Bool
  | .Starred .. => false | _ => true
def noSet : Expr → Bool
  | .Set .. => false | _ => true
def noSlice : Expr → Bool
  | .Slice .. => false | _ => true
def noComp : Expr → Bool
  | .ListComp .. => false | .SetComp .. => false | .DictComp .. => false | _ => true
/-- its test is its value's truth -/
def plainT : Expr → Bool
  | .UnaryOp .Not _ _ => false | .BoolOp .. => false | .IfExp .. => false | .Compare .. => false | _ => true
/-- no super() -/
def noSup : Expr → Bool
  | .Call (.Name id _) [] [] _ => !(id == ("super" : Str)) | _ => true
def bltName : Blt → Str
  | .len => "len" | .abs => "abs" | .max2 => "max" | .min2 => "min" | .int1 => "int" | .sum => "sum" | .maxL => "max" | .minL => "min" | .any => "any" | .all => "all"
  | .sorted => "sorted" | .list => "list" | .tuple => "tuple" | .str => "str" | .range_ => "range"
def tyNm (t : Ty) : Str := Str.ofString (tyN t)
def Ty.named : Ty → Bool
  | .non => false | .own _ => false | _ => true
def mtName : Mt → Str
  | .append => "append" | .pop0 => "pop" | .popAt => "pop" | .extend => "extend" | .reverse => "reverse" | .clear => "clear" | .index => "index" | .get1 => "get" | .get2 => "get" | .insert => "insert"
mutual
/-- all names of a target are among vs -/
def gIn (vs : List Nat) : IG → Bool
  | .name i => decide (i ∈ vs)
  | .tup gs => gsIn vs gs
  | _ => true
def gsIn (vs : List Nat) : IGs → Bool
  | .nil => true
  | .cons g gs => gIn vs g && gsIn vs gs
end
def gLen : IGs → Nat
  | .nil => 0
  | .cons _ gs => gLen gs + 1
def ieLen : IEs → Nat
  | .nil => 0
  | .cons _ es => ieLen es + 1

mutual
def chkE : Nat → SC → Expr → IE → Bool
  | 0, _, _, _ => false
  | n + 1, c, e, .var i => (match e with
    | .Name x _ => decide (c.N[i]? = some x) && visB c.sc x && okName x
    | _ => false)
  | n + 1, c, e, .int i => (match e with
    | .Constant (.int j) _ _ => decide (j = i)
    | _ => false)
  | n + 1, c, e, .str i => (match e with
    | .Constant (.str j) _ _ => decide (j = i)
    | _ => false)
  | n + 1, c, e, .bl i => (match e with
    | .Constant (.bool j) _ _ => decide (j = i)
    | _ => false)
  | n + 1, c, e, .non => (match e with
    | .Constant .none _ _ => true
    | _ => false)
  | n + 1, c, e, .gl j => (match e with
    | .Name x _ => glB c.sc x && okName x && decide ((x, j) ∈ c.gls)
    | _ => false)
  | n + 1, c, e, .op o a d => (match e with
    | .BinOp l p r _ => decide (opOf o = p) && chkE n c l a && chkE n c r d
    | _ => false)
  | n + 1, c, e, .neg a => (match e with
    | .UnaryOp .USub l _ => chkE n c l a
    | _ => false)
  | n + 1, c, e, .cmp o a d => (match e with
    | .Compare l [p] [r] _ => decide (cmpOf o = p) && noSet r && chkE n c l a && chkE n c r d
    | _ => false)
  | n + 1, c, e, .chain o o' a d f => (match e with
    | .Compare l [p, q] [r, t] _ => decide (cmpOf o = p) && decide (cmpOf o' = q) && noSet t && chkE n c l a && chkE n c r d && chkE n c t f
    | _ => false)
  | n + 1, c, e, .and a d => (match e with
    | .BoolOp .And (l :: r :: rest) p => chkE n c l a && (match rest with
      | [] => chkE n c r d
      | _ => chkE n c (.BoolOp .And (r :: rest) p) d)
    | _ => false)
  | n + 1, c, e, .or a d => (match e with
    | .BoolOp .Or (l :: r :: rest) p => chkE n c l a && (match rest with
      | [] => chkE n c r d
      | _ => chkE n c (.BoolOp .Or (r :: rest) p) d)
    | _ => false)
  | n + 1, c, e, .not a => (match e with
    | .UnaryOp .Not l _ => chkE n c l a
    | _ => false)
  | n + 1, c, e, .ite t a d => (match e with
    | .IfExp p l r _ => chkT n c p t && chkE n c l a && chkE n c r d
    | _ => false)
  | n + 1, c, e, .tup es => (match e with
    | .Tuple xs _ _ => chkEs n c xs es
    | _ => false)
  | n + 1, c, e, .lst es => (match e with
    | .List xs _ => chkEs n c xs es
    | _ => false)
  | n + 1, c, e, .dnewK => (match e with
    | .Dict [] [] _ => true
    | _ => false)
  | n + 1, c, e, .dnewT => (match e with
    | .Dict [] [] _ => true
    | _ => false)
  | n + 1, c, e, .ix a i => (match e with
    | .Subscript l r _ => noSlice r && chkE n c l a && chkE n c r i
    | _ => false)
  | n + 1, c, e, .sl a lo hi => (match e with
    | .Subscript l (.Slice x y none _) _ => chkE n c l a && chkO n c x lo && chkO n c y hi
    | _ => false)
  | n + 1, c, e, .call j es => (match e with
    | .Call (.Name x _) xs [] _ => glB c.sc x && okName x && decide ((x, j) ∈ c.fns) && chkEs n c xs es
    | _ => false)
  | n + 1, c, e, .callS j es => (match e with
    | .Call (.Name x _) xs [] _ => glB c.sc x && okName x && decide ((x, j) ∈ c.fns) && chkEs n c xs es
    | _ => false)
  | n + 1, c, e, .blt f es => (match e with
    | .Call (.Name x _) xs [] _ => glB c.sc x && decide (x = bltName f) && decide (x ∈ c.blt) && decide (0 < xs.length) && chkEs n c xs es
    | _ => false)
  | n + 1, c, e, .isin a t => (match e with
    | .Call (.Name x _) [l, .Name y _] [] _ => glB c.sc x && decide (x = ("isinstance" : Str)) && decide (x ∈ c.blt) && noStar l && glB c.sc y && decide (y = tyNm t) && decide (y ∈ c.blt) && t.named && chkE n c l a
    | _ => false)
  | n + 1, c, e, .mt m a es => (match e with
    | .Call (.Attribute l x ap) xs [] cp => m.isL && decide (x = mtName m) && noSup l && decide (ap.endLine = cp.line) && decide (xs.length < 20) && chkE n c l a && chkEs n c xs es
    | _ => false)
  | n + 1, c, e, .fld a f => false
  | n + 1, c, e, .mcall m a es => false
  | n + 1, c, e, .make k es => false
  | n + 1, c, e, .makeM k es => false
  | n + 1, c, e, .mu a => chkE n c e a
  | n + 1, c, e, .lc own g it t x => (match e with
    | .ListComp el [⟨tg, iter, ifs, 0⟩] scope _ => blkC c.N c.sc scope own && gIn (own.map (·.2)) g && noSet iter && chkI n c tg iter it && chkG n (c.blk scope) tg g && chkC n (c.blk scope) ifs t && chkE n (c.blk scope) el x
    | _ => false)
  | n + 1, c, e, .lc2 own vs g it t g' it' t' x => false
def chkEs : Nat → SC → List Expr → IEs → Bool
  | 0, _, _, _ => false
  | n + 1, c, xs, .nil => (match xs with
    | [] => true
    | _ => false)
  | n + 1, c, xs, .cons a es => (match xs with
    | x :: xs => noStar x && chkE n c x a && chkEs n c xs es
    | _ => false)
/-- as a test -/
def chkT : Nat → SC → Expr → IT → Bool
  | 0, _, _, _ => false
  | n + 1, c, e, .and t u => (match e with
    | .BoolOp .And (l :: r :: rest) p => chkT n c l t && chkW n c (.BoolOp .And (r :: rest) p) u
    | _ => false)
  | n + 1, c, e, .or t u => (match e with
    | .BoolOp .Or (l :: r :: rest) p => chkT n c l t && chkW n c (.BoolOp .Or (r :: rest) p) u
    | _ => false)
  | n + 1, c, e, .not t => (match e with
    | .UnaryOp .Not l _ => chkT n c l t
    | _ => false)
  | n + 1, c, e, .e a => (match a with
    | .cmp o a d => (match e with
      | .Compare l [p] [r] _ => decide (cmpOf o = p) && noSet r && chkE n c l a && chkE n c r d
      | _ => false)
    | .chain o o' a d f => (match e with
      | .Compare l [p, q] [r, t] _ => decide (cmpOf o = p) && decide (cmpOf o' = q) && noSet t && chkE n c l a && chkE n c r d && chkE n c t f
      | _ => false)
    | a => plainT e && chkE n c e a)
/-- the rest of an and, of an or -/
def chkW : Nat → SC → Expr → IT → Bool
  | 0, _, _, _ => false
  | n + 1, c, e, t => (match e with
    | .BoolOp op [l] p => chkT n c l t
    | .BoolOp .And (l :: r :: rest) p => (match t with
      | .and t u => chkT n c l t && chkW n c (.BoolOp .And (r :: rest) p) u
      | _ => false)
    | .BoolOp .Or (l :: r :: rest) p => (match t with
      | .or t u => chkT n c l t && chkW n c (.BoolOp .Or (r :: rest) p) u
      | _ => false)
    | _ => false)
def chkO : Nat → SC → Option Expr → IO → Bool
  | 0, _, _, _ => false
  | n + 1, c, e, .none => (match e with
    | none => true
    | _ => false)
  | n + 1, c, e, .some a => (match e with
    | some e => chkE n c e a
    | _ => false)
def chkC : Nat → SC → List Expr → IC → Bool
  | 0, _, _, _ => false
  | n + 1, c, ifs, .yes => (match ifs with
    | [] => true
    | _ => false)
  | n + 1, c, ifs, .t t => (match ifs with
    | [e] => chkT n c e t
    | _ => false)
def chkI : Nat → SC → Expr → Expr → II → Bool
  | 0, _, _, _, _ => false
  | n + 1, c, tg, e, .seq a => chkE n c e a
  | n + 1, c, tg, e, .rng1 a => (match e with
    | .Call (.Name x _) [l] [] _ => glB c.sc x && decide (x = ("range" : Str)) && decide (x ∈ c.blt) && noStar l && chkE n c l a
    | _ => false)
  | n + 1, c, tg, e, .rng2 a d => (match e with
    | .Call (.Name x _) [l, r] [] _ => glB c.sc x && decide (x = ("range" : Str)) && decide (x ∈ c.blt) && noStar l && noStar r && chkE n c l a && chkE n c r d
    | _ => false)
  | n + 1, c, tg, e, .rng3 a d f => false
  | n + 1, c, tg, e, .enum a => (match e with
    | .Call (.Name x _) [l] [] _ => (match tg with
      | .Tuple _ _ _ => glB c.sc x && decide (x = ("enumerate" : Str)) && decide (x ∈ c.blt) && noStar l && chkE n c l a
      | _ => false)
    | _ => false)
  | n + 1, c, tg, e, .zip a d => (match e with
    | .Call (.Name x _) [l, r] [] _ => (match tg with
      | .Tuple _ _ _ => glB c.sc x && decide (x = ("zip" : Str)) && decide (x ∈ c.blt) && noStar l && noStar r && chkE n c l a && chkE n c r d
      | _ => false)
    | _ => false)
def chkG : Nat → SC → Expr → IG → Bool
  | 0, _, _, _ => false
  | n + 1, c, e, .name i => (match e with
    | .Name x _ => decide (c.N[i]? = some x) && locB c x
    | _ => false)
  | n + 1, c, e, .tup gs => (match e with
    | .Tuple xs _ _ => chkGs n c xs gs
    | _ => false)
  | n + 1, c, e, .sub a i => (match e with
    | .Subscript l r _ => noSlice r && chkE n c l a && chkE n c r i
    | _ => false)
  | n + 1, c, e, .fld a f => false
def chkGs : Nat → SC → List Expr → IGs → Bool
  | 0, _, _, _ => false
  | n + 1, c, xs, .nil => (match xs with
    | [] => true
    | _ => false)
  | n + 1, c, xs, .cons a es => (match xs with
    | x :: xs => noStar x && chkG n c x a && chkGs n c xs es
    | _ => false)
end

def spF (L : Lk) (F : List D → Store → Out R) : Sp := fun vs H Q _ => ∃ (fx : List Addr) (ds : List D) (st : Store) (r : R) (st' : Store) (cm : List Addr), F ds st = .ok r st' ∧ Valid L H (fx ++ cm) cm st ∧ Reps L H (fx ++ cm) cm vs ds ∧
  ∀ v H', Po L fx st.length H cm st v r H' cm st' → Q v H'
def FnAt (L : Lk) (X : Cx) (k : Nat) (x : Str) (F : List D → Store → Out R) : Prop :=
  ∃ f fd ps, X.mg x = some (.ref f) ∧ PySem.W.keepIn X.K (.ref f) = true ∧ Binds X.K fd ps [] ∧ FnOk X.prog X.w X.K X.mg X.base CX0 k f fd ps (spF L F)
structure CtxOk (L : Lk) (G : Glo) (k : Nat) (X : Cx) (c : SC) : Prop where
  hN : X.N = c.N
  nd : c.N.Nodup
  hs : X.env.scope = c.sc
  fn : X.fn = c.fnc
  calm : X.calm = true
  room : Room k X.A
  xe : X.xe = fun _ _ => False
  hK : X.K = L.K
  fns : ∀ x j, (x, j) ∈ c.fns → FnAt L X k x (G.fn j)
  gls : ∀ x j, (x, j) ∈ c.gls → ∃ u v, X.mg x = some u ∧ RelV v u ∧ ∀ (H : Hp) (fb cm : List Addr), Rep L H fb cm v (G.gl j)
  blt : ∀ x ∈ c.blt, X.mg x = none
  gd : GdOk L X.w G.gd
section
variable {L : Lk} {G : Glo} {k b : Nat} {X : Cx} {c : SC}
theorem CtxOk.hu (C : CtxOk L G k X c) : X.A.units + 64 < cLine := C.room.units
theorem CtxOk.hu1 (C : CtxOk L G k X c) : X.A.units + 1 < cLine := by have := C.room.units; omega
theorem CtxOk.blk (C : CtxOk L G k X c) (s : Shared) (H : Hp) (scope : Scope) (A : Addr) (cl : List (Str × Addr)) (fp : List Addr) : CtxOk L G k (X.blk s H scope (compEnvC scope cl A X.env) fp) (c.blk scope) where
  hN := C.hN
  nd := C.nd
  hs := by
    show relS scope X.env.scope = relS scope c.sc
    rw [C.hs]
  fn := rfl
  calm := C.calm
  room := C.room
  xe := rfl
  hK := C.hK
  fns := C.fns
  gls := C.gls
  blt := C.blt
  gd := C.gd
theorem CtxOk.vis (C : CtxOk L G k X c) {x : Str} (h : visB c.sc x = true) : Vis X.env.scope x := by
  unfold visB at h
  unfold Vis
  rw [C.hs]
  split at h
  · exact .inl (by assumption)
  · exact .inr (.inl (by assumption))
  · exact .inr (.inr (by assumption))
  · cases h
theorem CtxOk.loc (C : CtxOk L G k X c) {x : Str} (h : locB c x = true) : L2.Loc X.env.scope x ∧ (X.fn x = true ∨ X.env.scope.names.lookup x = some .local) := by
  unfold locB at h
  unfold L2.Loc
  rw [C.hs, C.fn]
  split at h
  · exact ⟨.inl (by assumption), .inr (by assumption)⟩
  · exact ⟨.inr (by assumption), .inl h⟩
  · cases h
theorem CtxOk.gl_ (C : CtxOk L G k X c) {x : Str} (h : glB c.sc x = true) : Gl X x := by
  unfold glB at h
  show X.env.scope.names.lookup x = some .globalImplicit
  rw [C.hs]
  split at h
  · assumption
  · cases h
theorem okName_is {x : Str} (h : okName x = true) : (x == ("__debug__" : Str)) = false ∧ (x == ("__classdict__" : Str)) = false ∧ x ≠ "__name__" := by
  unfold okName at h
  simp only [Bool.and_eq_true, Bool.not_eq_true'] at h
  refine ⟨h.1.1, h.1.2, fun z => ?_⟩
  rw [z] at h
  simp at h
theorem star_of {e : Expr} {es : List Expr} {env : PySem.Env} (h : noStar e = true) : starEach (e :: es) env = (false, eval e env) :: starEach es env := by
  cases e <;> first | rfl | (simp [noStar] at h)
theorem asg_of {e : Expr} {es : List Expr} {env : PySem.Env} (h : noStar e = true) : (assignEach (e :: es) env).map (·.2) = assign e env :: (assignEach es env).map (·.2) := by
  cases e <;> first | rfl | (simp [noStar] at h)
theorem plainIx_of {e : Expr} (h : noSlice e = true) : PlainIx e := by
  intro o i
  cases e <;> first | rfl | (simp [noSlice] at h)
theorem assignSub_of {o i : Expr} {pos : Pos} {env : PySem.Env} (h : noSlice i = true) (v : Value) : assign (.Subscript o i pos) env v = (do
    let ov ← holding [v] (eval o env)
    let iv ← holding [v, ov] (eval i env)
    standAt pos
    holding [v, ov, iv] (setItem ov iv v)
    release [v, ov, iv] []) := by
  cases i <;> first | rfl | (simp [noSlice] at h)
theorem marks_of {e : Expr} {op : CmpOp} (h : noSet e = true) : behindInMarks op e = false := by
  cases e <;> first | rfl | (simp [noSet] at h)
theorem fold_of {e : Expr} {env : PySem.Env} (h : noSet e = true) (x : Value) : foldedSetIterable e env x = pure x := by
  cases e <;> first | rfl | (simp [noSet] at h)
theorem plainT_of {e : Expr} {env : PySem.Env} (h : plainT e = true) (whole : Sem Value) : isTrue e env whole = (do let v ← whole; standAt e.pos; holding [v] (truthy v)) := by
  cases e with
  | UnaryOp o x p => cases o <;> first | rfl | (simp [plainT] at h)
  | BoolOp _ _ _ => simp [plainT] at h
  | IfExp _ _ _ _ => simp [plainT] at h
  | Compare _ _ _ _ => simp [plainT] at h
  | _ => rfl
theorem swap_of {e : Expr} {t : Option Expr} {l : Nat} {env : PySem.Env} (h : noComp e = true) : swapsWith e t l env = pure false := by
  cases e <;> first | rfl | (simp [noComp] at h)
end
end En

set_option Elab.async false
set_option linter.all false
set_option maxRecDepth 100000
set_option maxHeartbeats 1000000
namespace En
open PySem PySem.Spec PyProof.Rows L2

def SE (L : Lk) (G : Glo) (b : Nat) (X : Cx) (e : Expr) (ie : IE) : Prop := ∀ env st r st', evE G b ie env st = .ok r st' → ∀ σ H fx cm, Valid L H (fx ++ cm) cm st → Slots L H (fx ++ cm) cm env σ → b ≤ st.length →
  ∀ Q : VK, (∀ v H' cm', Po L fx b H cm st v r H' cm' st' → Q v H') → wE X e σ H Q
def SA (L : Lk) (G : Glo) (b : Nat) (X : Cx) (es : List Expr) (ies : IEs) : Prop := ∀ env st xs st', evEs G b ies env st = .ok xs st' → ∀ σ H fx cm, Valid L H (fx ++ cm) cm st → Slots L H (fx ++ cm) cm env σ → b ≤ st.length →
  ∀ Q : List V → Hp → Prop, (∀ vs H' cm', Stp b H cm st H' cm' st' → Valid L H' (fx ++ cm') cm' st' → Reps L H' (fx ++ cm') cm' vs xs → Q vs H') → wA X es σ H Q
def STt (L : Lk) (G : Glo) (b : Nat) (X : Cx) (w : TT) (t : IT) : Prop := ∀ env st k st', evT G b t env st = .ok k st' → ∀ σ H fx cm, Valid L H (fx ++ cm) cm st → Slots L H (fx ++ cm) cm env σ → b ≤ st.length →
  ∀ Q : Bool → Hp → Prop, (∀ H' cm', Stp b H cm st H' cm' st' → Valid L H' (fx ++ cm') cm' st' → Q k H') → w σ H Q
def wO (X : Cx) (e : Option Expr) : TO := fun σ H Q => ∀ (pins : List (Addr × Obj)) (s : Shared), Inv X pins σ H s → wpAny (model X.prog X.w) X.A (evalPart e X.env) (fun u s' => ∃ o H', Inv X pins σ H' s' ∧ IsPart u o ∧ Q o H') X.xe s
theorem po_w {X : Cx} {e : Option Expr} : PO X e (wO X e) := ⟨fun pins s σ H Q I h => h pins s I⟩
theorem wO_of {X : Cx} {e : Option Expr} {t : TO} {σ : L2.St} {H : Hp} {Q : Option Int → Hp → Prop} (h : PO X e t) (q : t σ H Q) : wO X e σ H Q := fun pins s I => h.run pins s σ H Q I q
def SO (L : Lk) (G : Glo) (b : Nat) (X : Cx) (e : Option Expr) (o : En.IO) : Prop := ∀ env st k st', evO G b o env st = .ok k st' → ∀ σ H fx cm, Valid L H (fx ++ cm) cm st → Slots L H (fx ++ cm) cm env σ → b ≤ st.length →
  ∀ Q : Option Int → Hp → Prop, (∀ H' cm', Stp b H cm st H' cm' st' → Valid L H' (fx ++ cm') cm' st' → Q k H') → wO X e σ H Q
def wC (X : Cx) (ifs : List Expr) : TT := fun σ H Q => ∀ (pins : List (Addr × Obj)) (s : Shared), Inv X pins σ H s →
  wpAny (model X.prog X.w) X.A (forIn ifs true fun c r => if r = true then do let ok ← isTrue c X.env (eval c X.env); pure (ForInStep.yield ok) else pure (ForInStep.yield r)) (TP X pins σ Q) X.xe s
theorem pts_w {X : Cx} {ifs : List Expr} : PTs X ifs (wC X ifs) := ⟨fun pins s σ H Q I h => h pins s I⟩
theorem wC_of {X : Cx} {ifs : List Expr} {t : TT} {σ : L2.St} {H : Hp} {Q : Bool → Hp → Prop} (h : PTs X ifs t) (q : t σ H Q) : wC X ifs σ H Q := fun pins s I => h.run pins s σ H Q I q
def SC' (L : Lk) (G : Glo) (b : Nat) (X : Cx) (ifs : List Expr) (t : IC) : Prop := ∀ env st k st', evC G b t env st = .ok k st' → ∀ σ H fx cm, Valid L H (fx ++ cm) cm st → Slots L H (fx ++ cm) cm env σ → b ≤ st.length →
  ∀ Q : Bool → Hp → Prop, (∀ H' cm', Stp b H cm st H' cm' st' → Valid L H' (fx ++ cm') cm' st' → Q k H') → wC X ifs σ H Q
def SG (L : Lk) (G : Glo) (b : Nat) (X : Cx) (tg : Expr) (g : IG) : Prop := ∀ d env st env' st', asG G b g d env st = .ok env' st' → ∀ v σ H fx cm, Valid L H (fx ++ cm) cm st → Slots L H (fx ++ cm) cm env σ → Rep L H (fx ++ cm) cm v d → b ≤ st.length →
  ∀ Q : L2.St → Hp → Prop, (∀ σ' H' cm', Stp b H cm st H' cm' st' → Valid L H' (fx ++ cm') cm' st' → Slots L H' (fx ++ cm') cm' env' σ' → (∀ ws, gIn ws g = true → wipe σ' ws = wipe σ ws) → Q σ' H') → wG X tg v σ H Q
def SGs (L : Lk) (G : Glo) (b : Nat) (X : Cx) (ts : List Expr) (g : IGs) : Prop := ∀ ds env st env' st', asGs G b g ds env st = .ok env' st' → ∀ vs σ H fx cm, Valid L H (fx ++ cm) cm st → Slots L H (fx ++ cm) cm env σ → Reps L H (fx ++ cm) cm vs ds → b ≤ st.length →
  ∀ Q : L2.St → Hp → Prop, (∀ σ' H' cm', Stp b H cm st H' cm' st' → Valid L H' (fx ++ cm') cm' st' → Slots L H' (fx ++ cm') cm' env' σ' → (∀ ws, gsIn ws g = true → wipe σ' ws = wipe σ ws) → Q σ' H') → wGs X ts vs σ H Q
/-- an iterator gives ds -/
structure WkD (L : Lk) (J : It) (H0 : Hp) (fx cm0 : List Addr) (ds : List D) : Prop where
  go : ∀ i H cm, i < ds.length → Step H0 cm0 H cm → J.go i H
  stop : ∀ H cm, Step H0 cm0 H cm → J.stop ds.length H
  yld : ∀ b i H fy cm st x H', (∀ a ∈ fy, a ∈ fx ∨ H0 a = none) → i < ds.length → Step H0 cm0 H cm → Valid L H (fy ++ cm) cm st → J.yld i H x H' →
    ∃ d, ds[i]? = some d ∧ Stp b H cm st H' cm st ∧ Valid L H' (fy ++ cm) cm st ∧ Rep L H' (fy ++ cm) cm x d
def ItmOk (L : Lk) (J : It) (H0 : Hp) (fx cm0 : List Addr) : Itm → Prop
  | .l ds => WkD L J H0 fx cm0 ds
  | .c n => ∃ a, cm0[n]? = some a ∧ J = Itl L.K a
def SI (L : Lk) (G : Glo) (b : Nat) (X : Cx) (tg e : Expr) (it : II) : Prop := ∀ env st m st', evI G b it env st = .ok m st' → ∀ σ H fx cm, Valid L H (fx ++ cm) cm st → Slots L H (fx ++ cm) cm env σ → b ≤ st.length →
  ∀ R : It → Hp → Prop, (∀ J H' cm', Stp b H cm st H' cm' st' → Valid L H' (fx ++ cm') cm' st' → ItmOk L J H' fx cm' m → R J H') → wI X tg e σ H R

section
variable {L : Lk} {G : Glo} {k b : Nat} {X : Cx} {c : SC}
theorem SE.use {e : Expr} {ie : IE} (h : SE L G b X e ie) {env : En.Env} {st : Store} {r : R} {st' : Store} (ev : evE G b ie env st = .ok r st') {σ : L2.St} {H : Hp} {fx cm : List Addr} (W : Valid L H (fx ++ cm) cm st) (S : Slots L H (fx ++ cm) cm env σ) (hb : b ≤ st.length)
    {Q : VK} (q : ∀ v H' cm', Stp b H cm st H' cm' st' → Valid L H' (fx ++ cm') cm' st' → Rep L H' (fx ++ cm') cm' v r.d → Q v H') : wE X e σ H Q :=
  h env st r st' ev σ H fx cm W S hb Q fun v H' cm' p => q v H' cm' p.d.1 p.d.2.1 p.d.2.2
theorem Stp.ble {b : Nat} {H H' : Hp} {cm cm' : List Addr} {st st' : Store} (s : Stp b H cm st H' cm' st') (h : b ≤ st.length) : b ≤ st'.length := Nat.le_trans h s.len
theorem evs_at {es : IEs} {xs : List Expr} : ∀ n, chkEs n c xs es = true → xs.length = ieLen es
  | 0, h => by simp [chkEs] at h
  | n + 1, h => by
    cases es with
    | nil => cases xs <;> simp [chkEs, ieLen] at h ⊢
    | cons a es =>
      cases xs with
      | nil => simp [chkEs] at h
      | cons x xs =>
        simp only [chkEs, Bool.and_eq_true] at h
        simp only [List.length_cons, ieLen]
        rw [evs_at n h.2]
theorem stars_of {es : List Expr} {env : PySem.Env} {pos : Pos} (h : ∀ e ∈ es, noStar e = true) : (backTo pos (starEach es env)).any (·.1) = false := by
  induction es with
  | nil => rfl
  | cons e es ih =>
    rw [star_of (h e List.mem_cons_self)]
    show ((false : Bool) || (backTo pos (starEach es env)).any (·.1)) = false
    rw [ih fun e m => h e (List.mem_cons_of_mem _ m)]
    rfl
theorem all_star : ∀ {n : Nat} {es : List Expr} {ies : IEs}, chkEs n c es ies = true → ∀ e ∈ es, noStar e = true
  | 0, _, _, h => by simp [chkEs] at h
  | n + 1, [], _, _ => by simp
  | n + 1, x :: xs, .nil, h => by simp [chkEs] at h
  | n + 1, x :: xs, .cons a es, h => by
    simp only [chkEs, Bool.and_eq_true] at h
    intro e m
    rcases List.mem_cons.mp m with z | z
    · rw [z]; exact h.1.1
    · exact all_star h.2 e z

theorem gs_at : ∀ {n : Nat} {es : List Expr} {gs : IGs}, chkGs n c es gs = true → es.length = gLen gs
  | 0, _, _, h => by simp [chkGs] at h
  | n + 1, [], .nil, _ => rfl
  | n + 1, [], .cons _ _, h => by simp [chkGs] at h
  | n + 1, x :: xs, .nil, h => by simp [chkGs] at h
  | n + 1, x :: xs, .cons a es, h => by
    simp only [chkGs, Bool.and_eq_true] at h
    rw [List.length_cons, gLen, gs_at h.2]
theorem all_starG : ∀ {n : Nat} {es : List Expr} {gs : IGs}, chkGs n c es gs = true → ∀ e ∈ es, noStar e = true
  | 0, _, _, h => by simp [chkGs] at h
  | n + 1, [], _, _ => by simp
  | n + 1, x :: xs, .nil, h => by simp [chkGs] at h
  | n + 1, x :: xs, .cons a es, h => by
    simp only [chkGs, Bool.and_eq_true] at h
    intro e m
    rcases List.mem_cons.mp m with z | z
    · rw [z]; exact h.1.1
    · exact all_starG h.2 e z
theorem gs_len : ∀ {gs : IGs} {ds : List D} {env env' : En.Env} {st st' : Store}, asGs G b gs ds env st = .ok env' st' → ds.length = gLen gs
  | .nil, ds, env, env', st, st', h => by
    cases ds with
    | nil => rfl
    | cons d ds => simp [asGs] at h
  | .cons g gs, ds, env, env', st, st', h => by
    cases ds with
    | nil => simp [asGs] at h
    | cons d ds =>
      simp only [asGs] at h
      obtain ⟨e1, s1, h1, h2⟩ := Out.bind_is h
      rw [List.length_cons, gLen, gs_len h2]
theorem asg_len : ∀ {es : List Expr} {env : PySem.Env}, (assignEach es env).length = es.length
  | [], _ => rfl
  | e :: es, env => by
    have ih := asg_len (es := es) (env := env)
    cases e <;> simp [assignEach, ih]
theorem asg_star : ∀ {es : List Expr} {env : PySem.Env}, (∀ e ∈ es, noStar e = true) → (assignEach es env).findIdx? (·.1) = none
  | [], _, _ => rfl
  | e :: es, env, h => by
    have ih := asg_star (es := es) (env := env) fun e m => h e (List.mem_cons_of_mem _ m)
    have h1 := h e List.mem_cons_self
    cases e with
    | Starred _ _ => simp [noStar] at h1
    | _ => simp [assignEach, List.findIdx?_cons, ih]
/-- the step of the induction: each piece, given its parts -/
structure Snd (L : Lk) (G : Glo) (k : Nat) (n : Nat) : Prop where
  e : ∀ {b X c e ie}, CtxOk L G k X c → chkE n c e ie = true → SE L G b X e ie
  es : ∀ {b X c e ie}, CtxOk L G k X c → chkEs n c e ie = true → SA L G b X e ie
  t : ∀ {b X c e ie}, CtxOk L G k X c → chkT n c e ie = true → STt L G b X (wT X e) ie
  w : ∀ {b X c e ie}, CtxOk L G k X c → chkW n c e ie = true → STt L G b X (wW X e) ie
  o : ∀ {b X c e ie}, CtxOk L G k X c → chkO n c e ie = true → SO L G b X e ie
  c : ∀ {b X c e ie}, CtxOk L G k X c → chkC n c e ie = true → SC' L G b X e ie
  i : ∀ {b X c tg e ie}, CtxOk L G k X c → chkI n c tg e ie = true → SI L G b X tg e ie
  g : ∀ {b X c e ie}, CtxOk L G k X c → chkG n c e ie = true → SG L G b X e ie
  gs : ∀ {b X c e ie}, CtxOk L G k X c → chkGs n c e ie = true → SGs L G b X e ie

theorem po_c {d : D} {v : V} (hr : ∀ (H : Hp) (fb cm : List Addr), Rep L H fb cm v d) {e : Expr} (h : PE X e (tC v)) {st : Store} {σ : L2.St} {H : Hp} {fx cm : List Addr} (W : Valid L H (fx ++ cm) cm st) {Q : VK} (q : ∀ v H' cm', Po L fx b H cm st v (.v d) H' cm' st → Q v H') : wE X e σ H Q :=
  wE_of h (q v H cm (po_val W (hr _ _ _)))

theorem se_args {es : List Expr} {ies : IEs} {n : Nat} (I : Snd L G k n) (C : CtxOk L G k X c) (h : chkEs (n + 1) c es ies = true) : SA L G b X es ies := by
  intro env st xs st' ev σ H fx cm W S hb Q q
  cases ies with
  | nil =>
    cases es with
    | nil =>
      simp only [evEs, Out.ok.injEq] at ev
      obtain ⟨rfl, rfl⟩ := ev
      exact wA_of pa_nil (q [] H cm .refl W .nil)
    | cons _ _ => simp [chkEs] at h
  | cons a ies =>
    cases es with
    | nil => simp [chkEs] at h
    | cons e es =>
      simp only [chkEs, Bool.and_eq_true] at h
      simp only [evEs] at ev
      obtain ⟨x, s1, e1, ev⟩ := Out.bind_is ev
      obtain ⟨ys, s2, e2, ev⟩ := Out.bind_is ev
      cases ev
      refine wA_of (pa_cons pe_w pa_w (star_of h.1.1)) ?_
      refine (I.e C h.1.2).use e1 W S hb fun v H1 cm1 p1 W1 r1 => ?_
      exact I.es C h.2 env s1 ys _ e2 σ H1 fx cm1 W1 (S.step p1.step) (p1.ble hb) _ fun vs H2 cm2 p2 W2 r2 => q _ _ cm2 (p1.trans p2) W2 (.cons (r1.step p2.step) r2)

theorem wipe_set {σ : L2.St} {x : Option V} : ∀ (vs : List Nat) (i : Nat), wipe (σ.set i x) vs = if i ∈ vs then wipe σ vs else (wipe σ vs).set i x
  | [], i => by simp [wipe]
  | v :: vs, i => by
    unfold wipe
    rw [wipe_set vs i]
    by_cases h : i ∈ vs
    · rw [if_pos h, if_pos (List.mem_cons_of_mem _ h)]
    · rw [if_neg h]
      by_cases h2 : i = v
      · subst h2
        rw [if_pos List.mem_cons_self, List.set_set]
      · rw [if_neg (by simp only [List.mem_cons, not_or]; exact ⟨h2, h⟩), List.set_comm _ _ h2]
theorem wipe_idem {σ : L2.St} : ∀ (vs ws : List Nat), (∀ v ∈ ws, v ∈ vs) → wipe (wipe σ ws) vs = wipe σ vs
  | vs, [], _ => rfl
  | vs, w :: ws, h => by
    show wipe ((wipe σ ws).set w none) vs = wipe σ vs
    rw [wipe_set, if_pos (h w List.mem_cons_self)]
    exact wipe_idem vs ws fun v m => h v (List.mem_cons_of_mem _ m)
theorem Slots.wipe {H : Hp} {fb cm : List Addr} {env : En.Env} {σ : L2.St} (h : Slots L H fb cm env σ) : ∀ vs : List Nat, Slots L H fb cm (wipeE env vs) (L2.wipe σ vs)
  | [] => h
  | v :: vs => (Slots.wipe h vs).unset v
theorem swap_fx {H : Hp} {fx fy cm : List Addr} (hf : ∀ a ∈ fy, a ∈ fx ∨ H a = none) {v : V} {d : D} (h : Rep L H (fx ++ cm) cm v d) : Rep L H (fy ++ cm) cm v d := by
  have key : ∀ {a : Addr} {u : HO}, a ∉ fx ++ cm → H a = some u → a ∉ fy ++ cm := fun {a u} n e m => by
    rcases List.mem_append.mp m with m | m
    · rcases hf a m with z | z
      · exact n (List.mem_append_left _ z)
      · rw [z] at e; cases e
    · exact n (List.mem_append_right _ m)
  exact (rep_map (fun a xs n t => ⟨key n t, t⟩) (fun a u n r => ⟨let ⟨_, q⟩ := Rd.some r; key n q, r⟩) (fun a C dx fs n h => ⟨key n h, h⟩) fun n a h => h).1 h
theorem se_g {e : Expr} {g : IG} {n : Nat} (I : Snd L G k n) (C : CtxOk L G k X c) (h : chkG (n + 1) c e g = true) : SG L G b X e g := by
  intro d env st env' st' ev v σ H fx cm W S rv hb Q q
  cases g with
  | name i =>
    cases e <;> simp only [chkG, Bool.false_eq_true, Bool.and_eq_true, decide_eq_true_eq] at h
    simp only [asG, Out.ok.injEq] at ev
    obtain ⟨rfl, rfl⟩ := ev
    have l := C.loc h.2
    refine wG_of (pg_name (by rw [C.hN]; exact C.nd) (by rw [C.hN]; exact h.1) l.1 l.2) (q _ H cm .refl W (S.set rv i) fun ws z => ?_)
    simp only [gIn, decide_eq_true_eq] at z
    rw [wipe_set, if_pos z]
  | tup gs =>
    cases e <;> simp only [chkG, Bool.false_eq_true] at h
    rename_i xs kk pos
    have st0 := all_starG h
    have key : ∀ ds vs, asGs G b gs ds env st = .ok env' st' → Reps L H (fx ++ cm) cm vs ds → wGs X xs vs σ H Q := fun ds vs e1 r => I.gs C (by exact h) ds env st env' st' e1 vs σ H fx cm W S r hb Q q
    have hlen : ∀ ds vs, asGs G b gs ds env st = .ok env' st' → Reps L H (fx ++ cm) cm vs ds → (assignEach xs X.env).length = vs.length := fun ds vs e1 r => by
      rw [r.length, gs_len e1, ← gs_at h]
      exact asg_len
    have pgs : PGs X xs (wGs X xs) := ⟨fun pins s _ _ _ us _ I r h => h pins s us I r⟩
    simp only [asG] at ev
    cases rv with
    | tup n1 t1 r1 => exact wG_of (pg_tup C.calm pgs (hlen _ _ ev r1) (asg_star st0)) ⟨_, _, rfl, SqT.of t1, rfl, key _ _ ev r1⟩
    | kt n1 r1 => exact wG_of (pg_tup C.calm pgs (hlen _ _ ev r1) (asg_star st0)) ⟨_, _, rfl, by rw [C.hK]; exact n1.sq, rfl, key _ _ ev r1⟩
    | kl n1 r1 => exact wG_of (pg_unl C.calm pgs (hlen _ _ ev r1) (asg_star st0)) ⟨_, _, rfl, by rw [C.hK]; exact KL.sq n1, rfl, key _ _ ev r1⟩
    | lst n1 t1 r1 => exact wG_of (pg_unl C.calm pgs (hlen _ _ ev r1) (asg_star st0)) ⟨_, _, rfl, .inl t1, rfl, key _ _ ev r1⟩
    | _ => cases ev
  | sub a i =>
    cases e <;> simp only [chkG, Bool.false_eq_true, Bool.and_eq_true] at h
    rename_i l r pos
    simp only [asG] at ev
    obtain ⟨x, s1, e1, ev⟩ := Out.bind_is ev
    obtain ⟨y, s2, e2, ev⟩ := Out.bind_is ev
    obtain ⟨u, s3, e3, ev⟩ := Out.bind_is ev
    cases ev
    refine wG_of (pg_sub pe_w pe_w set_w (assignSub_of h.1.1)) ?_
    refine (I.e C h.1.2).use e1 W S hb fun v1 H1 cm1 p1 W1 r1 => ?_
    refine (I.e C h.2).use e2 W1 (S.step p1.step) (p1.ble hb) fun v2 H2 cm2 p2 W2 r2 => ?_
    have p12 := p1.trans p2
    exact set_sound C.hu1 e3 (r1.step p2.step) r2 (rv.step p12.step) W2 fun H3 p3 W3 => q σ H3 cm2 (p12.trans p3) W3 ((S.step p12.step).step p3.step) fun ws _ => rfl
  | fld a f => simp [chkG] at h
theorem se_gs {es : List Expr} {gs : IGs} {n : Nat} (I : Snd L G k n) (C : CtxOk L G k X c) (h : chkGs (n + 1) c es gs = true) : SGs L G b X es gs := by
  intro ds env st env' st' ev vs σ H fx cm W S rs hb Q q
  have wGs_of : ∀ {ts : List Expr} {t : TGs} {vs : List V} {σ : L2.St} {H : Hp} {Q : L2.St → Hp → Prop}, PGs X ts t → t vs σ H Q → wGs X ts vs σ H Q := fun h q pins s us I r => h.run pins s _ _ _ us _ I r q
  cases gs with
  | nil =>
    cases es with
    | cons _ _ => simp [chkGs] at h
    | nil =>
      cases ds with
      | cons _ _ => simp [asGs] at ev
      | nil =>
        simp only [asGs, Out.ok.injEq] at ev
        obtain ⟨rfl, rfl⟩ := ev
        cases rs
        exact wGs_of pgs_nil ⟨rfl, q σ H cm .refl W S fun ws _ => rfl⟩
  | cons g gs =>
    cases es with
    | nil => simp [chkGs] at h
    | cons e es =>
      cases ds with
      | nil => simp [asGs] at ev
      | cons d ds =>
        simp only [chkGs, Bool.and_eq_true] at h
        simp only [asGs] at ev
        obtain ⟨env1, s1, e1, e2⟩ := Out.bind_is ev
        cases rs with
        | cons r1 r2 =>
          have pgs : PGs X es (wGs X es) := ⟨fun pins s _ _ _ us _ I r h => h pins s us I r⟩
          refine wGs_of (pgs_cons pg_w pgs (asg_of h.1.1)) ⟨_, _, rfl, ?_⟩
          refine I.g C h.1.2 d env st env1 s1 e1 _ σ H fx cm W S r1 hb _ fun σ1 H1 cm1 p1 W1 S1 z1 => ?_
          refine I.gs C h.2 ds env1 s1 env' st' e2 _ σ1 H1 fx cm1 W1 S1 (r2.step p1.step) (p1.ble hb) _ fun σ2 H2 cm2 p2 W2 S2 z2 => ?_
          refine q σ2 H2 cm2 (p1.trans p2) W2 S2 fun ws z => ?_
          simp only [gsIn, Bool.and_eq_true] at z
          rw [z2 ws z.2, z1 ws z.1]

theorem se_cmpQ {o : Cmp} {x y : R} {k' : Bool} {st2 : Store} {v1 v2 : V} {H2 : Hp} {fx cm2 : List Addr} {Q : VK} (C : CtxOk L G k X c) (e : cmpR G.gd o x.d y.d st2 = some k') (r1 : Rep L H2 (fx ++ cm2) cm2 v1 x.d) (r2 : Rep L H2 (fx ++ cm2) cm2 v2 y.d) (W : Valid L H2 (fx ++ cm2) cm2 st2)
    (q : Q (.bl k') H2) : rW X (compareOp (cmpOf o)) v1 v2 H2 Q := cmp_sound C.hK C.hu e r1 r2 W q
theorem se_t {e : Expr} {t : IT} {n : Nat} (I : Snd L G k n) (C : CtxOk L G k X c) (h : chkT (n + 1) c e t = true) : STt L G b X (wT X e) t := by
  intro env st kk st' ev σ H fx cm W S hb Q q
  cases t with
  | and t u =>
    simp only [chkT] at h
    split at h
    · simp only [Bool.and_eq_true] at h
      simp only [evT] at ev
      obtain ⟨k1, s1, e1, ev⟩ := Out.bind_is ev
      refine wT_of (PW.pt (pw_and pt_w pw_w)) ?_
      refine I.t C h.1 env st k1 s1 e1 σ H fx cm W S hb _ fun H1 cm1 p1 W1 => ?_
      cases k1 with
      | true => exact I.w C h.2 env s1 kk st' ev σ H1 fx cm1 W1 (S.step p1.step) (p1.ble hb) _ fun H2 cm2 p2 W2 => q H2 cm2 (p1.trans p2) W2
      | false =>
        cases ev
        exact q H1 cm1 p1 W1
    · cases h
  | or t u =>
    simp only [chkT] at h
    split at h
    · simp only [Bool.and_eq_true] at h
      simp only [evT] at ev
      obtain ⟨k1, s1, e1, ev⟩ := Out.bind_is ev
      refine wT_of (PW.pt (pw_or pt_w pw_w)) ?_
      refine I.t C h.1 env st k1 s1 e1 σ H fx cm W S hb _ fun H1 cm1 p1 W1 => ?_
      cases k1 with
      | false => exact I.w C h.2 env s1 kk st' ev σ H1 fx cm1 W1 (S.step p1.step) (p1.ble hb) _ fun H2 cm2 p2 W2 => q H2 cm2 (p1.trans p2) W2
      | true =>
        cases ev
        exact q H1 cm1 p1 W1
    · cases h
  | not t =>
    simp only [chkT] at h
    split at h
    · simp only [evT] at ev
      obtain ⟨k1, s1, e1, ev⟩ := Out.bind_is ev
      cases ev
      refine wT_of (pt_not pt_w) ?_
      exact I.t C h env st k1 _ e1 σ H fx cm W S hb _ fun H1 cm1 p1 W1 => q H1 cm1 p1 W1
    · cases h
  | e a =>
    simp only [evT] at ev
    obtain ⟨x, s1, e1, ev⟩ := Out.bind_is ev
    obtain ⟨ev, rfl⟩ := Out.of_is ev
    have plain : ∀ {e'}, plainT e' = true → chkE n c e' a = true → wT X e' σ H Q := fun {e'} h1 h2 => by
      have pt : PT X e' (fun σ H Q => wE X e' σ H fun x H' => truW X x H' Q) := ⟨fun pins s σ H Q I hq =>
        isTrue_plain (thn (hq pins s I) fun v s1 ⟨y, H1, I1, r1, q1⟩ => q1 pins s1 σ v I1 r1) (plainT_of h1 _)⟩
      refine wT_of pt ?_
      exact (I.e C h2).use e1 W S hb fun v H1 cm1 p1 W1 r1 => tru_sound C.hK ev r1 W1 (q H1 cm1 p1 W1)
    cases a with
    | cmp o a d =>
      simp only [chkT] at h
      split at h
      · simp only [Bool.and_eq_true, decide_eq_true_eq] at h
        simp only [evE] at e1
        obtain ⟨y, s2, f1, e1⟩ := Out.bind_is e1
        obtain ⟨z, s3, f2, e1⟩ := Out.bind_is e1
        obtain ⟨e1, rfl⟩ := Out.of_is e1
        obtain ⟨k', e9, rfl⟩ := bl_case e1
        simp only [R.d_v, tru, Option.some.injEq] at ev
        subst ev
        refine wT_of (pt_cmpR (op_w) pe_w pe_w (marks_of h.1.1.2)) ?_
        refine (I.e C h.1.2).use f1 W S hb fun v1 H1 cm1 p1 W1 r1 => ?_
        refine (I.e C h.2).use f2 W1 (S.step p1.step) (p1.ble hb) fun v2 H2 cm2 p2 W2 r2 => ?_
        rw [← h.1.1.1]
        exact se_cmpQ C e9 (r1.step p2.step) r2 W2 ⟨k', rfl, q H2 cm2 (p1.trans p2) W2⟩
      · cases h
    | chain o o' a d f =>
      simp only [chkT] at h
      split at h
      · simp only [Bool.and_eq_true, decide_eq_true_eq] at h
        simp only [evE] at e1
        obtain ⟨y, s2, f1, e1⟩ := Out.bind_is e1
        obtain ⟨z, s3, f2, e1⟩ := Out.bind_is e1
        obtain ⟨k1, s4, f3, e1⟩ := Out.bind_is e1
        obtain ⟨f3, rfl⟩ := Out.of_is f3
        refine wT_of (pt_chain op_w op_w pe_w pe_w pe_w (by show lastMarks _ _ = false; exact marks_of h.1.1.1.2)) ?_
        refine (I.e C h.1.1.2).use f1 W S hb fun v1 H1 cm1 p1 W1 r1 => ?_
        refine (I.e C h.1.2).use f2 W1 (S.step p1.step) (p1.ble hb) fun v2 H2 cm2 p2 W2 r2 => ?_
        rw [← h.1.1.1.1.1, ← h.1.1.1.1.2]
        refine se_cmpQ C f3 (r1.step p2.step) r2 W2 ⟨k1, rfl, ?_⟩
        have p12 := p1.trans p2
        cases k1 with
        | false =>
          cases e1
          simp only [R.d_v, tru, Option.some.injEq] at ev
          subst ev
          exact iteF ⟨false, rfl, q H2 cm2 p12 W2⟩
        | true =>
          obtain ⟨w, s5, f4, e1⟩ := Out.bind_is e1
          obtain ⟨e1, rfl⟩ := Out.of_is e1
          obtain ⟨k', e9, rfl⟩ := bl_case e1
          simp only [R.d_v, tru, Option.some.injEq] at ev
          subst ev
          refine iteT ?_
          refine (I.e C h.2).use f4 W2 (S.step p12.step) (p12.ble hb) fun v3 H3 cm3 p3 W3 r3 => ?_
          exact se_cmpQ C e9 (r2.step p3.step) r3 W3 ⟨k', rfl, q H3 cm3 (p12.trans p3) W3⟩
      · cases h
    | _ =>
      simp only [chkT, Bool.and_eq_true] at h
      exact plain h.1 h.2
theorem se_w {e : Expr} {t : IT} {n : Nat} (I : Snd L G k n) (C : CtxOk L G k X c) (h : chkW (n + 1) c e t = true) : STt L G b X (wW X e) t := by
  intro env st kk st' ev σ H fx cm W S hb Q q
  simp only [chkW] at h
  split at h
  · rename_i op l p
    cases op with
    | And => exact wW_of (pw_and1 pt_w) (I.t C h env st kk st' ev σ H fx cm W S hb Q q)
    | Or => exact wW_of (pw_or1 pt_w) (I.t C h env st kk st' ev σ H fx cm W S hb Q q)
  · split at h
    · simp only [Bool.and_eq_true] at h
      simp only [evT] at ev
      obtain ⟨k1, s1, e1, ev⟩ := Out.bind_is ev
      refine wW_of (pw_and pt_w pw_w) ?_
      refine I.t C h.1 env st k1 s1 e1 σ H fx cm W S hb _ fun H1 cm1 p1 W1 => ?_
      cases k1 with
      | true => exact I.w C h.2 env s1 kk st' ev σ H1 fx cm1 W1 (S.step p1.step) (p1.ble hb) _ fun H2 cm2 p2 W2 => q H2 cm2 (p1.trans p2) W2
      | false =>
        cases ev
        exact q H1 cm1 p1 W1
    · cases h
  · split at h
    · simp only [Bool.and_eq_true] at h
      simp only [evT] at ev
      obtain ⟨k1, s1, e1, ev⟩ := Out.bind_is ev
      refine wW_of (pw_or pt_w pw_w) ?_
      refine I.t C h.1 env st k1 s1 e1 σ H fx cm W S hb _ fun H1 cm1 p1 W1 => ?_
      cases k1 with
      | false => exact I.w C h.2 env s1 kk st' ev σ H1 fx cm1 W1 (S.step p1.step) (p1.ble hb) _ fun H2 cm2 p2 W2 => q H2 cm2 (p1.trans p2) W2
      | true =>
        cases ev
        exact q H1 cm1 p1 W1
    · cases h
  · cases h
theorem se_o {e : Option Expr} {o : En.IO} {n : Nat} (I : Snd L G k n) (C : CtxOk L G k X c) (h : chkO (n + 1) c e o = true) : SO L G b X e o := by
  intro env st kk st' ev σ H fx cm W S hb Q q
  cases o with
  | none =>
    simp only [chkO] at h
    split at h
    · simp only [evO, Out.ok.injEq] at ev
      obtain ⟨rfl, rfl⟩ := ev
      exact wO_of po_none (q H cm .refl W)
    · cases h
  | some a =>
    simp only [chkO] at h
    split at h
    · simp only [evO] at ev
      obtain ⟨x, s1, e1, ev⟩ := Out.bind_is ev
      refine wO_of (po_some pe_w) ?_
      refine (I.e C h).use e1 W S hb fun v1 H1 cm1 p1 W1 r1 => ?_
      generalize x.d = xd at ev r1
      cases r1 with
      | int i =>
        cases ev
        exact ⟨_, rfl, q H1 cm1 p1 W1⟩
      | _ => cases ev
    · cases h
theorem se_c {ifs : List Expr} {t : IC} {n : Nat} (I : Snd L G k n) (C : CtxOk L G k X c) (h : chkC (n + 1) c ifs t = true) : SC' L G b X ifs t := by
  intro env st kk st' ev σ H fx cm W S hb Q q
  cases t with
  | yes =>
    simp only [chkC] at h
    split at h
    · simp only [evC, Out.ok.injEq] at ev
      obtain ⟨rfl, rfl⟩ := ev
      exact wC_of pts_nil (q H cm .refl W)
    · cases h
  | t t =>
    simp only [chkC] at h
    split at h
    · simp only [evC] at ev
      exact wC_of (pts_one pt_w) (I.t C h env st kk st' ev σ H fx cm W S hb Q q)
    · cases h
end
end En

set_option Elab.async false
set_option linter.all false
set_option maxRecDepth 100000
set_option maxHeartbeats 2000000
namespace En
open PySem PySem.Spec PyProof.Rows L2
section
variable {L : Lk} {G : Glo} {k b : Nat} {X : Cx} {c : SC}
theorem sq_lst {H1 : Hp} {fx cm1 : List Addr} {a : Addr} {vs : List V} (n : a ∉ fx ++ cm1) (t : Rd H1 a (.lst vs)) : ∀ H cm, Step H1 cm1 H cm → SqL L.K H a vs := fun H cm s =>
  .inl (s.ext.rd (fun z => n (List.mem_append_right _ z)) t)
theorem wkd_list {H1 : Hp} {fx cm1 : List Addr} {a : Addr} {vs : List V} {ds : List D} (t : ∀ H cm, Step H1 cm1 H cm → SqL L.K H a vs) (r : Reps L H1 (fx ++ cm1) cm1 vs ds) : WkD L (Itl L.K a) H1 fx cm1 ds where
  go := fun i H cm hi s => by
    have hv : i < vs.length := by rw [r.length]; exact hi
    exact ⟨vs, vs[i], t _ _ s, List.getElem?_eq_getElem hv⟩
  stop := fun H cm s => ⟨vs, t _ _ s, Nat.le_of_eq r.length⟩
  yld := fun b i H fy cm st x H' hf hi s W y => by
    obtain ⟨rfl, y⟩ := y
    have hx := y vs (t _ _ s)
    obtain ⟨d, h1, h2⟩ := r.getV hx
    exact ⟨d, h1, .refl, W, (swap_fx hf h2).step s⟩
theorem wkd_tup {H1 : Hp} {fx cm1 : List Addr} {a : Addr} {vs : List V} {ds : List D} (t : ∀ H cm, Step H1 cm1 H cm → SqT L.K H a vs) (r : Reps L H1 (fx ++ cm1) cm1 vs ds) : WkD L (Itt L.K a) H1 fx cm1 ds where
  go := fun i H cm hi s => by
    have hv : i < vs.length := by rw [r.length]; exact hi
    exact ⟨vs, vs[i], t H cm s, List.getElem?_eq_getElem hv⟩
  stop := fun H cm s => ⟨vs, t H cm s, Nat.le_of_eq r.length⟩
  yld := fun b i H fy cm st x H' hf hi s W y => by
    obtain ⟨rfl, y⟩ := y
    have hx := y vs (t _ _ s)
    obtain ⟨d, h1, h2⟩ := r.getV hx
    exact ⟨d, h1, .refl, W, (swap_fx hf h2).step s⟩
theorem sq_tup {H1 : Hp} {fx cm1 : List Addr} {a : Addr} {vs : List V} (n : a ∉ fx ++ cm1) (t : H1 a = some (.tup vs)) : ∀ H cm, Step H1 cm1 H cm → SqT L.K H a vs := fun H cm s =>
  SqT.of (s.ext _ _ (fun z => n (List.mem_append_right _ z)) t)
theorem enumL_get : ∀ (ds : List D) (k i : Nat), (enumL k ds)[i]? = (ds[i]?).map fun d => .tup [.int ((k + i : Nat) : Int), d]
  | [], k, i => by simp [enumL]
  | d :: ds, k, 0 => by simp [enumL]
  | d :: ds, k, i + 1 => by
    simp only [enumL, List.getElem?_cons_succ]
    rw [enumL_get ds (k + 1) i]
    have e : k + 1 + i = k + (i + 1) := by omega
    rw [e]
theorem enumL_len : ∀ (ds : List D) (k : Nat), (enumL k ds).length = ds.length
  | [], _ => rfl
  | d :: ds, k => by simp only [enumL, List.length_cons, enumL_len ds]
theorem wkd_enum {H1 : Hp} {fx cm1 : List Addr} {a : Addr} {vs : List V} {ds : List D} (t : ∀ H cm, Step H1 cm1 H cm → SqL L.K H a vs) (r : Reps L H1 (fx ++ cm1) cm1 vs ds) : WkD L (Ite L.K a) H1 fx cm1 (enumL 0 ds) where
  go := fun i H cm hi s => by
    rw [enumL_len] at hi
    have hv : i < vs.length := by rw [r.length]; exact hi
    exact ⟨vs, vs[i], t _ _ s, List.getElem?_eq_getElem hv⟩
  stop := fun H cm s => ⟨vs, t _ _ s, Nat.le_of_eq (by rw [enumL_len, r.length])⟩
  yld := fun b i H fy cm st x H' hf hi s W y => by
    obtain ⟨T, z, rfl, nT, rfl, y⟩ := y
    have hx := y vs (t _ _ s)
    obtain ⟨d, h1, h2⟩ := r.getV hx
    have h3 := (swap_fx hf h2).step s
    refine ⟨.tup [.int i, d], by rw [enumL_get, h1]; simp, .keep (keep_new nT), W.keep (keep_new nT), .tup (W.nin nT) upd_same ?_⟩
    exact (Reps.cons (.int _) (.one h3)).ext fun a o _ => keep_new nT a o
theorem wkd_enumT {H1 : Hp} {fx cm1 : List Addr} {a : Addr} {vs : List V} {ds : List D} (t : ∀ H cm, Step H1 cm1 H cm → SqT L.K H a vs) (r : Reps L H1 (fx ++ cm1) cm1 vs ds) : WkD L (IteT L.K a) H1 fx cm1 (enumL 0 ds) where
  go := fun i H cm hi s => by
    rw [enumL_len] at hi
    have hv : i < vs.length := by rw [r.length]; exact hi
    exact ⟨vs, vs[i], t H cm s, List.getElem?_eq_getElem hv⟩
  stop := fun H cm s => ⟨vs, t H cm s, Nat.le_of_eq (by rw [enumL_len, r.length])⟩
  yld := fun b i H fy cm st x H' hf hi s W y => by
    obtain ⟨T, z, rfl, nT, rfl, y⟩ := y
    have hx := y vs (t _ _ s)
    obtain ⟨d, h1, h2⟩ := r.getV hx
    have h3 := (swap_fx hf h2).step s
    refine ⟨.tup [.int i, d], by rw [enumL_get, h1]; simp, .keep (keep_new nT), W.keep (keep_new nT), .tup (W.nin nT) upd_same ?_⟩
    exact (Reps.cons (.int _) (.one h3)).ext fun a o _ => keep_new nT a o
theorem pairs2_get : ∀ (xs ys : List D) (i : Nat) (x y : D), xs[i]? = some x → ys[i]? = some y → (pairs2 xs ys)[i]? = some (.tup [x, y])
  | [], _, _, _, _, h, _ => by simp at h
  | _ :: _, [], _, _, _, _, h => by simp at h
  | x :: xs, y :: ys, 0, _, _, h, h2 => by
    simp only [List.getElem?_cons_zero, Option.some.injEq] at h h2
    subst h h2
    simp [pairs2]
  | x :: xs, y :: ys, i + 1, _, _, h, h2 => by
    simp only [pairs2, List.getElem?_cons_succ] at h h2 ⊢
    exact pairs2_get xs ys i _ _ h h2
theorem pairs2_len : ∀ (xs ys : List D), (pairs2 xs ys).length = min xs.length ys.length
  | [], ys => by simp [pairs2]
  | x :: xs, [] => by simp [pairs2]
  | x :: xs, y :: ys => by
    simp only [pairs2, List.length_cons, pairs2_len xs ys]
    omega
theorem wkd_zip {H1 : Hp} {fx cm1 : List Addr} {a a2 : Addr} {vs ws : List V} {ds es : List D} (t : ∀ H cm, Step H1 cm1 H cm → SqL L.K H a vs) (r : Reps L H1 (fx ++ cm1) cm1 vs ds) (t2 : ∀ H cm, Step H1 cm1 H cm → SqL L.K H a2 ws) (r2 : Reps L H1 (fx ++ cm1) cm1 ws es) :
    WkD L (Itz L.K a a2) H1 fx cm1 (pairs2 ds es) where
  go := fun i H cm hi s => by
    rw [pairs2_len] at hi
    have hv : i < vs.length := by rw [r.length]; omega
    have hw : i < ws.length := by rw [r2.length]; omega
    exact ⟨vs, ws, vs[i], ws[i], t _ _ s, t2 _ _ s, List.getElem?_eq_getElem hv, List.getElem?_eq_getElem hw⟩
  stop := fun H cm s => ⟨vs, ws, t _ _ s, t2 _ _ s, by
    rw [pairs2_len, r.length, r2.length]
    omega⟩
  yld := fun b i H fy cm st x H' hf hi s W y => by
    obtain ⟨T, z, z2, rfl, nT, rfl, y, y2⟩ := y
    have hx := y vs (t _ _ s)
    have hx2 := y2 ws (t2 _ _ s)
    obtain ⟨d, h1, h2⟩ := r.getV hx
    obtain ⟨d2, h3, h4⟩ := r2.getV hx2
    refine ⟨.tup [d, d2], pairs2_get _ _ _ _ _ h1 h3, .keep (keep_new nT), W.keep (keep_new nT), .tup (W.nin nT) upd_same ?_⟩
    exact (Reps.cons ((swap_fx hf h2).step s) (.one ((swap_fx hf h4).step s))).ext fun a o _ => keep_new nT a o
theorem rngL_get : ∀ (n : Nat) (lo : Int) (i : Nat), i < n → (rngL lo n)[i]? = some (.int (lo + i))
  | 0, _, _, h => by omega
  | n + 1, lo, 0, _ => by simp [rngL]
  | n + 1, lo, i + 1, h => by
    simp only [rngL, List.getElem?_cons_succ]
    rw [rngL_get n (lo + 1) i (by omega)]
    have e : lo + 1 + (i : Int) = lo + ((i + 1 : Nat) : Int) := by omega
    rw [e]
theorem rngL_len : ∀ (n : Nat) (lo : Int), (rngL lo n).length = n
  | 0, _ => rfl
  | n + 1, lo => by simp only [rngL, List.length_cons, rngL_len n]
theorem wkd_rng {H1 : Hp} {fx cm1 : List Addr} {lo : Int} {n : Nat} : WkD L (Itr lo n) H1 fx cm1 (rngL lo n) where
  go := fun i H cm hi s => by rw [rngL_len] at hi; exact hi
  stop := fun H cm s => Nat.le_of_eq (rngL_len n lo).symm
  yld := fun b i H fy cm st x H' hf hi s W y => by
    obtain ⟨rfl, rfl⟩ := y
    rw [rngL_len] at hi
    exact ⟨_, rngL_get n lo i hi, .refl, W, .int _⟩
theorem wkd_str {H1 : Hp} {fx cm1 : List Addr} {z : Str} : WkD L (Its z) H1 fx cm1 (z.cps.toList.map fun c => .str ⟨#[c]⟩) where
  go := fun i H cm hi s => by
    show i < z.cps.size
    simpa using hi
  stop := fun H cm s => by show z.cps.size ≤ _; simp
  yld := fun b i H fy cm st x H' hf hi s W y => by
    obtain ⟨rfl, c, hc, rfl⟩ := y
    refine ⟨.str ⟨#[c]⟩, ?_, .refl, W, .str _⟩
    rw [List.getElem?_map, Array.getElem?_toList, hc]
    rfl
theorem se_i {tg e : Expr} {it : II} {n : Nat} (I : Snd L G k n) (C : CtxOk L G k X c) (h : chkI (n + 1) c tg e it = true) : SI L G b X tg e it := by
  intro env st m st' ev σ H fx cm W S hb R q
  have s1 : ∀ {l : Expr}, noStar l = true → starEach [l] X.env = [(false, eval l X.env)] := fun {l} h => star_of h
  have s2 : ∀ {l r : Expr}, noStar l = true → noStar r = true → starEach [l, r] X.env = [(false, eval l X.env), (false, eval r X.env)] := fun {l r} h h2 => by rw [star_of h, star_of h2]; rfl
  cases it with
  | seq a =>
    simp only [chkI] at h
    simp only [evI] at ev
    obtain ⟨x, st1, e1, ev⟩ := Out.bind_is ev
    have use := @SE.use L G b X e a (I.e C h) env st x st1 e1 σ H fx cm W S hb
    split at ev
    · rename_i ds hx
      cases ev
      refine wI_of (pi_list pe_w) (use fun v H1 cm1 p1 W1 r1 => ?_)
      rw [hx] at r1
      cases r1 with
      | kl n r => exact ⟨_, rfl, ⟨_, C.hK ▸ KL.sq n⟩, q _ H1 cm1 p1 W1 (C.hK ▸ wkd_list (fun H cm _ => KL.sq n) r)⟩
      | lst n t r => exact ⟨_, rfl, ⟨_, .inl t⟩, q _ H1 cm1 p1 W1 (C.hK ▸ wkd_list (sq_lst n t) r)⟩
    · rename_i ds hx
      cases ev
      refine wI_of (pi_tup pe_w) (use fun v H1 cm1 p1 W1 r1 => ?_)
      rw [hx] at r1
      cases r1 with
      | tup n t r => exact ⟨_, rfl, ⟨_, SqT.of t⟩, q _ H1 cm1 p1 W1 (C.hK ▸ wkd_tup (sq_tup n t) r)⟩
    · rename_i ds hx
      cases ev
      refine wI_of (pi_tup pe_w) (use fun v H1 cm1 p1 W1 r1 => ?_)
      rw [hx] at r1
      cases r1 with
      | kt n r => exact ⟨_, rfl, ⟨_, C.hK ▸ n.sq⟩, q _ H1 cm1 p1 W1 (C.hK ▸ wkd_tup (fun H cm _ => n.sq) r)⟩
    · rename_i n hx
      split at ev
      · rename_i ds hn
        cases ev
        refine wI_of (pi_list pe_w) (use fun v H1 cm1 p1 W1 r1 => ?_)
        rw [hx] at r1
        obtain ⟨a, rfl, ha, _, us, h1, _⟩ := cell_at W1 r1 hn
        exact ⟨_, rfl, ⟨_, .inl (.inl h1)⟩, q _ H1 cm1 p1 W1 (C.hK ▸ ⟨a, ha, rfl⟩)⟩
      · cases ev
    · rename_i z hx
      cases ev
      refine wI_of (pi_str pe_w) (use fun v H1 cm1 p1 W1 r1 => ?_)
      rw [hx] at r1
      cases r1
      exact ⟨_, rfl, q _ H1 cm1 p1 W1 wkd_str⟩
    · cases ev
  | rng1 a =>
    simp only [chkI] at h
    split at h
    · simp only [Bool.and_eq_true, decide_eq_true_eq] at h
      obtain ⟨⟨⟨⟨g1, rfl⟩, g3⟩, g4⟩, g5⟩ := h
      simp only [evI] at ev
      obtain ⟨x, st1, e1, ev⟩ := Out.bind_is ev
      split at ev
      · rename_i i hx
        split at ev
        · rename_i hi
          simp only [decide_eq_true_eq] at hi
          cases ev
          refine wI_of (pi_range1 (C.gl_ g1) (C.blt _ g3) (pa_cons pe_w pa_nil (star_of g4)) (s1 g4)) ?_
          refine (I.e C g5).use e1 W S hb fun v H1 cm1 p1 W1 r1 => ?_
          rw [hx] at r1
          cases r1
          exact ⟨i, rfl, hi.1, hi.2, q _ H1 cm1 p1 W1 wkd_rng⟩
        · cases ev
      · cases ev
    · cases h
  | rng2 a d =>
    simp only [chkI] at h
    split at h
    · simp only [Bool.and_eq_true, decide_eq_true_eq] at h
      obtain ⟨⟨⟨⟨⟨⟨g1, rfl⟩, g3⟩, g4⟩, g4'⟩, g5⟩, g6⟩ := h
      simp only [evI] at ev
      obtain ⟨x, st1, e1, ev⟩ := Out.bind_is ev
      obtain ⟨y, st2, e2, ev⟩ := Out.bind_is ev
      split at ev
      · rename_i i j hx hy
        split at ev
        · rename_i hi
          simp only [decide_eq_true_eq] at hi
          cases ev
          refine wI_of (pi_range2 (C.gl_ g1) (C.blt _ g3) (pa_cons pe_w (pa_cons pe_w pa_nil (star_of g4')) (star_of g4)) (s2 g4 g4') (s1 g4')) ?_
          refine (I.e C g5).use e1 W S hb fun v H1 cm1 p1 W1 r1 => ?_
          refine (I.e C g6).use e2 W1 (S.step p1.step) (p1.ble hb) fun v2 H2 cm2 p2 W2 r2 => ?_
          rw [hx] at r1
          rw [hy] at r2
          cases r1
          cases r2
          exact ⟨i, j, rfl, hi, q _ H2 cm2 (p1.trans p2) W2 wkd_rng⟩
        · cases ev
      · cases ev
    · cases h
  | rng3 a d f => simp [chkI] at h
  | enum a =>
    simp only [chkI] at h
    split at h
    · split at h
      · simp only [Bool.and_eq_true, decide_eq_true_eq] at h
        obtain ⟨⟨⟨⟨g1, rfl⟩, g3⟩, g4⟩, g5⟩ := h
        simp only [evI] at ev
        obtain ⟨x, st1, e1, ev⟩ := Out.bind_is ev
        split at ev
        · rename_i ds hx
          cases ev
          refine wI_of (pi_enum (C.gl_ g1) (C.blt _ g3) (pa_cons pe_w pa_nil (star_of g4)) (s1 g4)) ?_
          refine (I.e C g5).use e1 W S hb fun v H1 cm1 p1 W1 r1 => ?_
          rw [hx] at r1
          cases r1 with
          | kl n r => exact ⟨_, _, rfl, C.hK ▸ KL.sq n, q _ H1 cm1 p1 W1 (C.hK ▸ wkd_enum (fun H cm _ => KL.sq n) r)⟩
          | lst n t r => exact ⟨_, _, rfl, .inl t, q _ H1 cm1 p1 W1 (C.hK ▸ wkd_enum (sq_lst n t) r)⟩
        · rename_i ds hx
          cases ev
          refine wI_of (pi_enumT (C.gl_ g1) (C.blt _ g3) (pa_cons pe_w pa_nil (star_of g4)) (s1 g4)) ?_
          refine (I.e C g5).use e1 W S hb fun v H1 cm1 p1 W1 r1 => ?_
          rw [hx] at r1
          cases r1 with
          | tup n t r => exact ⟨_, _, rfl, SqT.of t, q _ H1 cm1 p1 W1 (C.hK ▸ wkd_enumT (sq_tup n t) r)⟩
        · cases ev
      · cases h
    · cases h
  | zip a d =>
    simp only [chkI] at h
    split at h
    · split at h
      · simp only [Bool.and_eq_true, decide_eq_true_eq] at h
        obtain ⟨⟨⟨⟨⟨⟨g1, rfl⟩, g3⟩, g4⟩, g4'⟩, g5⟩, g6⟩ := h
        simp only [evI] at ev
        obtain ⟨x, st1, e1, ev⟩ := Out.bind_is ev
        obtain ⟨y, st2, e2, ev⟩ := Out.bind_is ev
        split at ev
        · rename_i ds es hx hy
          cases ev
          refine wI_of (pi_zip (C.gl_ g1) (C.blt _ g3) (pa_cons pe_w (pa_cons pe_w pa_nil (star_of g4')) (star_of g4)) (star_of g4) (stars_of (by intro e m; rw [List.mem_singleton.mp m]; exact g4'))) ?_
          refine (I.e C g5).use e1 W S hb fun v H1 cm1 p1 W1 r1 => ?_
          refine (I.e C g6).use e2 W1 (S.step p1.step) (p1.ble hb) fun v2 H2 cm2 p2 W2 r2 => ?_
          have r1 := r1.step p2.step
          rw [hx] at r1
          rw [hy] at r2
          have key : ∀ {v d ds}, Rep L H2 (fx ++ cm2) cm2 v (.lst ds) → d = ds → ∃ a us, v = .ref a ∧ (∀ H cm, Step H2 cm2 H cm → SqL L.K H a us) ∧ Reps L H2 (fx ++ cm2) cm2 us ds := fun {v d ds} r _ => by
            cases r with
            | lst n t r => exact ⟨_, _, rfl, sq_lst n t, r⟩
            | kl n r => exact ⟨_, _, rfl, fun _ _ _ => KL.sq n, r⟩
          obtain ⟨a1, u1, rfl, t1, q1⟩ := key r1 rfl
          obtain ⟨a2, u2, rfl, t2, q2⟩ := key r2 rfl
          exact ⟨_, _, _, _, rfl, C.hK ▸ t1 _ _ (.refl _ _), C.hK ▸ t2 _ _ (.refl _ _), q _ H2 cm2 (p1.trans p2) W2 (C.hK ▸ wkd_zip t1 q1 t2 q2)⟩
        · cases ev
      · cases h
    · cases h

def bE (X : Cx) (scope : Scope) (e : Expr) : TE := fun σ H Q => ∀ (s : Shared) (H0 : Hp) (A : Addr) (cl : List (Str × Addr)) (fp : List Addr), wE (X.blk s H0 scope (compEnvC scope cl A X.env) fp) e σ H Q
def bG (X : Cx) (scope : Scope) (tg : Expr) : TG := fun v σ H Q => ∀ (s : Shared) (H0 : Hp) (A : Addr) (cl : List (Str × Addr)) (fp : List Addr), wG (X.blk s H0 scope (compEnvC scope cl A X.env) fp) tg v σ H Q
def bC (X : Cx) (scope : Scope) (ifs : List Expr) : TT := fun σ H Q => ∀ (s : Shared) (H0 : Hp) (A : Addr) (cl : List (Str × Addr)) (fp : List Addr), wC (X.blk s H0 scope (compEnvC scope cl A X.env) fp) ifs σ H Q
theorem pe_b {scope : Scope} {e : Expr} (s : Shared) (H0 : Hp) (A : Addr) (cl : List (Str × Addr)) (fp : List Addr) : PE (X.blk s H0 scope (compEnvC scope cl A X.env) fp) e (bE X scope e) := ⟨fun pins s' _ _ _ I h => h s H0 A cl fp pins s' I⟩
theorem pg_b {scope : Scope} {tg : Expr} (s : Shared) (H0 : Hp) (A : Addr) (cl : List (Str × Addr)) (fp : List Addr) : PG (X.blk s H0 scope (compEnvC scope cl A X.env) fp) tg (bG X scope tg) := ⟨fun pins s' _ _ _ u _ I r h => h s H0 A cl fp pins s' u I r⟩
theorem pts_b {scope : Scope} {ifs : List Expr} (s : Shared) (H0 : Hp) (A : Addr) (cl : List (Str × Addr)) (fp : List Addr) : PTs (X.blk s H0 scope (compEnvC scope cl A X.env) fp) ifs (bC X scope ifs) := ⟨fun pins s' _ _ _ I h => h s H0 A cl fp pins s' I⟩
/-- the new thing at p, that nobody knows, changes -/
theorem Valid.upd {H : Hp} {fb cm : List Addr} {st : Store} {p : Addr} {u : HO} (W : Valid L H fb cm st) (m : p ∈ fb) (n : p ∉ cm) : Valid L (upd H p u) fb cm st := by
  have ext : Ext fb H (L2.upd H p u) := fun a o na h => by
    rw [upd_ne (fun z => na (by rw [z]; exact m))]
    exact h
  refine ⟨W.len, W.nd, W.sub, fun a ma => ?_, fun i o e => ?_⟩
  · by_cases z : a = p
    · exact ⟨u, by rw [z]; exact upd_same⟩
    · obtain ⟨q, h⟩ := W.trk a ma
      exact ⟨q, by rw [upd_ne z]; exact h⟩
  · obtain ⟨a, h1, h2⟩ := W.cells i o e
    exact ⟨a, h1, h2.ext ext (upd_ne fun z => n (by rw [← z]; exact List.mem_of_getElem? h1))⟩
theorem Reps.upd {H : Hp} {fb cm : List Addr} {p : Addr} {u : HO} {vs : List V} {ds : List D} (r : Reps L H fb cm vs ds) (m : p ∈ fb) : Reps L (upd H p u) fb cm vs ds :=
  r.ext fun a o na h => by
    rw [upd_ne (fun z => na (by rw [z]; exact m))]
    exact h
theorem Stp.updNew {H H' : Hp} {cm cm' : List Addr} {st st' : Store} {p : Addr} {u : HO} (s : Stp b H cm st H' cm' st') (n : H p = none) : Stp b H cm st (upd H' p u) cm' st' :=
  ⟨⟨fun a o na h => by
    rw [upd_ne (ne_of_none h n)]
    exact s.step.ext a o na h, s.step.new, fun a q h => by
    rw [upd_ne (ne_of_none h n)]
    exact s.step.trk a q h⟩, s.kp, s.len⟩
def lcF (G : Glo) (b : Nat) (own : List (Str × Nat)) (g : IG) (t : IC) (x : IE) (e : En.Env) (d : D) (s1 : Store) : Out (List D) :=
  (asG G b g d (wipeE e (own.map (·.2))) s1).bind fun e2 s2 => (evC G b t e2 s2).bind fun k s3 => if k then (evE G b x e2 s3).bind fun r s4 => .ok [r.d] s4 else .ok [] s3
theorem lc_read {own : List (Str × Nat)} {g : IG} {it : II} {t : IC} {x : IE} {tg iter el : Expr} {ifs : List Expr} {scope : Scope} {n : Nat} (I : Snd L G k n) (C : CtxOk L G k X c)
    (hin : gIn (own.map (·.2)) g = true) (hi : chkI n c tg iter it = true) (hg : chkG n (c.blk scope) tg g = true) (ht : chkC n (c.blk scope) ifs t = true) (he : chkE n (c.blk scope) el x = true)
    {env : En.Env} {st : Store} {r : R} {st' : Store} (ev : evE G b (.lc own g it t x) env st = .ok r st') {σ : L2.St} {H : Hp} {fx cm : List Addr} (W : Valid L H (fx ++ cm) cm st) (S : Slots L H (fx ++ cm) cm env σ) (hb : b ≤ st.length)
    {Q : VK} (q : ∀ v H' cm', Po L fx b H cm st v r H' cm' st' → Q v H') : tLc (wI X tg iter) (bG X scope tg) (bC X scope ifs) (bE X scope el) (own.map (·.2)) σ H Q := by
  simp only [evE] at ev
  obtain ⟨m, s0, e0, ev⟩ := Out.bind_is ev
  cases m with
  | c n => cases ev
  | l ds =>
    simp only at ev
    split at ev
    · rename_i hlen
      obtain ⟨res, s5, e5, ev⟩ := Out.bind_is ev
      cases ev
      refine I.i C hi env st _ s0 e0 σ H fx cm W S hb _ fun J H1 cm1 p1 W1 wk => ?_
      have wk : WkD L J H1 fx cm1 ds := wk
      intro D0 hD0
      have S1 := S.step p1.step
      have e5 : lcL (lcF G b own g t x env) ds s0 = .ok res st' := e5
      -- the invariant
      refine ⟨fun i mm Hc => mm = ds.length - i ∧ i ≤ ds.length ∧ ∃ (cm' : List Addr) (s' : Store) (acc : List V) (done rest : List D), D0 ∉ cm' ∧ Stp b H1 cm1 s0 Hc cm' s' ∧ Valid L Hc ((fx ++ [D0]) ++ cm') cm' s' ∧
        Hc D0 = some (.lst acc) ∧ Reps L Hc ((fx ++ [D0]) ++ cm') cm' acc done ∧ lcL (lcF G b own g t x env) (ds.drop i) s' = .ok rest st' ∧ res = done ++ rest ∧ done.length ≤ i,
        ⟨ds.length, by simp, Nat.zero_le _, cm1, s0, [], [], res, ?_, .keep (keep_new hD0), ?_, upd_same, .nil, by simpa using e5, by simp, by simp⟩, ?_⟩
      · exact fun z => (W1.nin hD0) (List.mem_append_right _ z)
      · refine (W1.new hD0).less (fun a m => ?_) fun a m => List.mem_append_right _ m
        simp only [List.mem_append, List.mem_singleton] at m ⊢
        rcases m with (m | m) | m
        · exact .inl (.inl m)
        · exact .inr m
        · exact .inl (.inr m)
      · rintro i mm Hc ⟨rfl, hle, cm', s', acc, done, rest, nD, sp, Wc, hD, rD, el_, hres, hdone⟩
        by_cases hi : i < ds.length
        · refine .inr ⟨wk.go i Hc cm' hi sp.step, fun H' => ∃ (cm' : List Addr) (s' : Store) (acc : List V) (done rest : List D), D0 ∉ cm' ∧ Stp b H1 cm1 s0 H' cm' s' ∧ Valid L H' ((fx ++ [D0]) ++ cm') cm' s' ∧
            H' D0 = some (.lst acc) ∧ Reps L H' ((fx ++ [D0]) ++ cm') cm' acc done ∧ lcL (lcF G b own g t x env) (ds.drop (i + 1)) s' = .ok rest st' ∧ res = done ++ rest ∧ done.length ≤ i + 1,
            fun H' hN => ⟨ds.length - (i + 1), by omega, rfl, hi, hN⟩, fun y H2 hy => ?_⟩
          obtain ⟨d, hd, p2, W2, r2⟩ := wk.yld b i Hc (fx ++ [D0]) cm' s' y H2 (fun a m => by
            rcases List.mem_append.mp m with m | m
            · exact .inl m
            · rw [List.mem_singleton.mp m]
              exact .inr hD0) hi sp.step Wc hy
          have hdrop : ds.drop i = d :: ds.drop (i + 1) := by
            obtain ⟨h1, h2⟩ := List.getElem?_eq_some_iff.mp hd
            rw [← h2]
            exact List.drop_eq_getElem_cons h1
          rw [hdrop] at el_
          simp only [lcL] at el_
          obtain ⟨out, s6, e6, el_⟩ := Out.bind_is el_
          obtain ⟨rest', s7, e7, el_⟩ := Out.bind_is el_
          simp only [Out.ok.injEq] at el_
          obtain ⟨rfl, rfl⟩ := el_
          simp only [lcF] at e6
          obtain ⟨env2, s8, f1, e6⟩ := Out.bind_is e6
          obtain ⟨kk, s9, f2, e6⟩ := Out.bind_is e6
          have sp2 := sp.trans p2
          have S2 : Slots L H2 ((fx ++ [D0]) ++ cm') cm' (wipeE env (own.map (·.2))) (wipe σ (own.map (·.2))) := by
            have z : Slots L H1 ((fx ++ [D0]) ++ cm1) cm1 env σ := ⟨S1.len, fun j d e => let ⟨v, h1, h2⟩ := S1.at_ j d e; ⟨v, h1, swap_fx (fun a m => by
              rcases List.mem_append.mp m with m | m
              · exact .inl m
              · rw [List.mem_singleton.mp m]
                exact .inr hD0) h2⟩⟩
            exact (z.step sp2.step).wipe _
          have hD2 : H2 D0 = some (.lst acc) := p2.step.ext D0 _ nD hD
          have rD2 := rD.step p2.step
          have hb0 : b ≤ s'.length := Nat.le_trans (p1.ble hb) sp.len
          intro bs bH bA bcl bfp
          refine I.g (C.blk bs bH scope bA bcl bfp) hg d _ s' env2 s8 f1 y _ H2 (fx ++ [D0]) cm' W2 S2 r2 hb0 _ fun σ3 H3 cm3 p3 W3 S3 z3 => ?_
          refine ⟨by rw [z3 _ hin, wipe_idem _ _ fun v m => m], ?_⟩
          have nD3 : D0 ∉ cm3 := p3.step.nin nD hD2
          have hD3 := p3.step.ext D0 _ nD hD2
          intro bs bH bA bcl bfp
          refine I.c (C.blk bs bH scope bA bcl bfp) ht env2 s8 kk s9 f2 σ3 H3 (fx ++ [D0]) cm3 W3 S3 (p3.ble hb0) _ fun H4 cm4 p4 W4 => ?_
          have nD4 : D0 ∉ cm4 := p4.step.nin nD3 hD3
          have hD4 := p4.step.ext D0 _ nD3 hD3
          have p34 := p3.trans p4
          have sp4 := sp2.trans p34
          cases kk with
          | false =>
            simp only [Bool.false_eq_true, if_false, Out.ok.injEq] at e6
            obtain ⟨rfl, rfl⟩ := e6
            refine iteF ?_
            exact ⟨cm4, _, acc, done, rest', nD4, sp4, W4, hD4, (rD2.step p34.step), e7, by simpa using hres, by omega⟩
          | true =>
            simp only [if_true] at e6
            obtain ⟨rr, s10, f3, e6⟩ := Out.bind_is e6
            simp only [Out.ok.injEq] at e6
            obtain ⟨rfl, rfl⟩ := e6
            refine iteT ?_
            intro bs bH bA bcl bfp
            refine (I.e (C.blk bs bH scope bA bcl bfp) he).use f3 W4 (S3.step p4.step) (p34.ble hb0) fun v H5 cm5 p5 W5 r5 => ?_
            have nD5 : D0 ∉ cm5 := p5.step.nin nD4 hD4
            have hD5 := p5.step.ext D0 _ nD4 hD4
            have mD : D0 ∈ (fx ++ [D0]) ++ cm5 := by simp
            have r35 := (rD2.step p34.step).step p5.step
            have hl : acc.length = done.length := rD.length
            refine ⟨acc, hD5, lt_line (by omega), cm5, _, acc ++ [v], done ++ [rr.d], rest', nD5, (sp4.trans p5).updNew hD0, W5.upd mD nD5, upd_same, (r35.append (.one r5)).upd mD, e7, by simpa using hres, by simpa using hdone⟩
        · have hi2 : i = ds.length := by omega
          subst hi2
          refine .inl ⟨wk.stop Hc cm' sp.step, ?_⟩
          rw [List.drop_length] at el_
          simp only [lcL, Out.ok.injEq] at el_
          obtain ⟨rfl, rfl⟩ := el_
          simp only [List.append_nil] at hres
          subst hres
          have sub : ∀ a, a ∈ fx ++ cm' ++ [D0] → a ∈ (fx ++ [D0]) ++ cm' := fun a m => by
            simp only [List.mem_append, List.mem_singleton] at m ⊢
            rcases m with (m | m) | m
            · exact .inl (.inl m)
            · exact .inr m
            · exact .inl (.inr m)
          refine q _ Hc cm' ⟨p1.trans sp, D0, rfl, p1.step.free hD0, fun z => ?_, Wc.less sub fun a m => by simp [m], acc, hD, rD.less sub⟩
          rcases List.mem_append.mp z with z | z
          · exact (W1.nin hD0) (List.mem_append_left _ z)
          · exact nD z
    · cases ev
end
end En

set_option Elab.async false
set_option linter.all false
set_option maxRecDepth 100000
set_option maxHeartbeats 2000000
namespace En
open PySem PySem.Spec PyProof.Rows L2
section
variable {L : Lk} {G : Glo} {k b : Nat} {X : Cx} {c : SC}
theorem po_mu {o : O} {st s1 : Store} {H H' : Hp} {fx cm cm' : List Addr} {v : V} (po : Po L fx b H cm st v (.n o) H' cm' s1) (hb : b ≤ st.length) {Q : VK} (q : ∀ v H' cm', Po L fx b H cm st v (.v (.cell s1.length)) H' cm' (s1 ++ [o]) → Q v H') : Q v H' := by
  obtain ⟨p1, p, rfl, hp, hn, W1, o1⟩ := po
  have W2 : Valid L H' (fx ++ (cm' ++ [p])) (cm' ++ [p]) (s1 ++ [o]) := by
    rw [← List.append_assoc]
    refine ⟨by simp [W1.len], ?_, fun a m => ?_, W1.trk, fun i o' e => ?_⟩
    · rw [List.nodup_append]
      refine ⟨W1.nd, by simp, fun a ha b hb => ?_⟩
      rw [List.mem_singleton.mp hb]
      rintro rfl
      exact hn (List.mem_append_right _ ha)
    · simp only [List.mem_append, List.mem_singleton] at m ⊢
      rcases m with m | m
      · exact .inl (.inr m)
      · exact .inr m
    · by_cases hi : i < s1.length
      · rw [List.getElem?_append_left hi] at e
        obtain ⟨a, h1, h2⟩ := W1.cells i o' e
        exact ⟨a, by rw [List.getElem?_append_left (by rw [W1.len]; exact hi)]; exact h1, h2.wide⟩
      · have hi2 : i = s1.length := by
          have z := (List.getElem?_eq_some_iff.mp e).1
          simp at z
          omega
        subst hi2
        simp at e
        subst e
        exact ⟨p, by rw [← W1.len]; simp, o1.wide⟩
  have p2 : Stp b H cm st H' (cm' ++ [p]) (s1 ++ [o]) := by
    obtain ⟨⟨e1, ⟨ex, rfl, hx⟩, e3⟩, kp, len⟩ := p1
    refine ⟨⟨e1, ⟨ex ++ [p], by rw [List.append_assoc], fun a m => ?_⟩, e3⟩, fun b' hb' old i o' hi e => ?_, by simp; omega⟩
    · rcases List.mem_append.mp m with m | m
      · exact hx a m
      · rw [List.mem_singleton.mp m]; exact hp
    · have hi2 : i < s1.length := Nat.lt_of_lt_of_le hi (Nat.le_trans hb' (Nat.le_trans hb len))
      rw [List.getElem?_append_left hi2] at e
      exact kp b' hb' old i o' hi e
  refine q _ H' (cm' ++ [p]) ⟨p2, W2, .cell ?_⟩
  rw [← W1.len]
  simp
theorem boot_blt {f : Blt} : (∃ id, bltV f = .builtin id ∧ bootBuiltins (bltName f) = some (.builtin id)) ∨ ∃ T, bltV f = .type T ∧ bootBuiltins (bltName f) = some (.type T) := by
  cases f <;> first | exact .inl ⟨_, rfl, by decide +kernel⟩ | exact .inr ⟨_, rfl, by decide +kernel⟩
theorem bltName_ok (f : Blt) : bltName f ≠ "__name__" ∧ (bltName f == ("__debug__" : Str)) = false := by
  cases f <;> exact ⟨by decide +kernel, by decide +kernel⟩
theorem noSup_of {o : Expr} {m : Str} {env : PySem.Env} (h : noSup o = true) : attributeBase o m env (eval o env) = eval o env := by
  unfold attributeBase
  split
  · rename_i id p pos
    simp only [noSup, Bool.not_eq_true'] at h
    have hne : (id != ("super" : Str)) = true := by
      show (!(id == ("super" : Str))) = true
      rw [h]
      rfl
    rw [hne]
    simp only [Bool.true_or, if_true]
    first | done | rfl | exact bind_pure _
  · rfl
theorem stars_all {es : List Expr} {env : PySem.Env} {pos : Pos} (h : ∀ e ∈ es, noStar e = true) : (backTo pos (starEach es env)).all (fun x => !x.1) = true := by
  induction es with
  | nil => rfl
  | cons e es ih =>
    rw [star_of (h e List.mem_cons_self)]
    show ((true : Bool) && (backTo pos (starEach es env)).all (fun x => !x.1)) = true
    rw [ih fun e m => h e (List.mem_cons_of_mem _ m)]
    rfl
theorem se_e {e : Expr} {ie : IE} {n : Nat} (I : Snd L G k n) (C : CtxOk L G k X c) (h : chkE (n + 1) c e ie = true) : SE L G b X e ie := by
  intro env st r st' ev σ H fx cm W S hb Q q
  cases ie with
  | var i =>
    cases e <;> simp only [chkE, Bool.false_eq_true, Bool.and_eq_true, decide_eq_true_eq] at h
    obtain ⟨⟨h1, h2⟩, h3⟩ := h
    obtain ⟨n1, n2, n3⟩ := okName_is h3
    simp only [evE] at ev
    split at ev
    · rename_i d hd
      cases ev
      obtain ⟨v, hv, rv⟩ := S.at_ i d hd
      exact wE_of (pe_var (by rw [C.hN]; exact h1) (C.vis h2) n1 n2) ⟨v, hv, q v H cm (po_val W rv)⟩
    · cases ev
  | int i =>
    simp only [chkE] at h
    split at h
    · simp only [decide_eq_true_eq] at h
      subst h
      cases ev
      exact wE_of pe_int (q _ H cm (po_val W (.int _)))
    · cases h
  | str i =>
    simp only [chkE] at h
    split at h
    · simp only [decide_eq_true_eq] at h
      subst h
      cases ev
      exact wE_of pe_str (q _ H cm (po_val W (.str _)))
    · cases h
  | bl i =>
    simp only [chkE] at h
    split at h
    · simp only [decide_eq_true_eq] at h
      subst h
      cases ev
      exact wE_of pe_bl (q _ H cm (po_val W (.bl _)))
    · cases h
  | non =>
    simp only [chkE] at h
    split at h
    · cases ev
      exact wE_of pe_non (q _ H cm (po_val W .non))
    · cases h
  | gl j =>
    cases e <;> simp only [chkE, Bool.false_eq_true, Bool.and_eq_true, decide_eq_true_eq] at h
    obtain ⟨⟨h1, h2⟩, h3⟩ := h
    obtain ⟨n1, n2, n3⟩ := okName_is h2
    obtain ⟨u, v, hm, rv, rp⟩ := C.gls _ _ h3
    cases ev
    exact wE_of (pe_glob (C.gl_ h1) hm rv n1) (q v H cm (po_val W (rp _ _ _)))
  | op o a d =>
    cases e <;> simp only [chkE, Bool.false_eq_true, Bool.and_eq_true, decide_eq_true_eq] at h
    obtain ⟨⟨rfl, h2⟩, h3⟩ := h
    simp only [evE] at ev
    obtain ⟨x, s1, e1, ev⟩ := Out.bind_is ev
    obtain ⟨y, s2, e2, ev⟩ := Out.bind_is ev
    obtain ⟨e3, rfl⟩ := Out.of_is ev
    refine wE_of (pe_op op_w pe_w pe_w) ?_
    refine (I.e C h2).use e1 W S hb fun v1 H1 cm1 p1 W1 r1 => ?_
    refine (I.e C h3).use e2 W1 (S.step p1.step) (p1.ble hb) fun v2 H2 cm2 p2 W2 r2 => ?_
    exact op_sound C.hK e3 (r1.step p2.step) r2 W2 fun v H' po => q v H' cm2 (po.after (p1.trans p2))
  | neg a =>
    simp only [chkE] at h
    split at h
    · simp only [evE] at ev
      obtain ⟨x, s1, e1, ev⟩ := Out.bind_is ev
      split at ev
      · rename_i i hx
        cases ev
        refine wE_of (pe_un un_neg pe_w) ?_
        refine (I.e C h).use e1 W S hb fun v1 H1 cm1 p1 W1 r1 => ?_
        rw [hx] at r1
        cases r1
        exact ⟨i, rfl, q _ H1 cm1 (Po.after p1 (po_val W1 (.int _)))⟩
      · cases ev
    · cases h
  | cmp o a d =>
    simp only [chkE] at h
    split at h
    · simp only [Bool.and_eq_true, decide_eq_true_eq] at h
      simp only [evE] at ev
      obtain ⟨y, s2, f1, ev⟩ := Out.bind_is ev
      obtain ⟨z, s3, f2, ev⟩ := Out.bind_is ev
      obtain ⟨ev, rfl⟩ := Out.of_is ev
      obtain ⟨k', e9, rfl⟩ := bl_case ev
      refine wE_of (pe_cmpR op_w pe_w pe_w (marks_of h.1.1.2)) ?_
      refine (I.e C h.1.2).use f1 W S hb fun v1 H1 cm1 p1 W1 r1 => ?_
      refine (I.e C h.2).use f2 W1 (S.step p1.step) (p1.ble hb) fun v2 H2 cm2 p2 W2 r2 => ?_
      rw [← h.1.1.1]
      exact se_cmpQ C e9 (r1.step p2.step) r2 W2 (q _ H2 cm2 (Po.after (p1.trans p2) (po_val W2 (.bl _))))
    · cases h
  | chain o o' a d f =>
    simp only [chkE] at h
    split at h
    · simp only [Bool.and_eq_true, decide_eq_true_eq] at h
      simp only [evE] at ev
      obtain ⟨y, s2, f1, ev⟩ := Out.bind_is ev
      obtain ⟨z, s3, f2, ev⟩ := Out.bind_is ev
      obtain ⟨k1, s4, f3, ev⟩ := Out.bind_is ev
      obtain ⟨f3, rfl⟩ := Out.of_is f3
      refine wE_of (pe_chain op_w op_w pe_w pe_w pe_w (by show lastMarks _ _ = false; exact marks_of h.1.1.1.2)) ?_
      refine (I.e C h.1.1.2).use f1 W S hb fun v1 H1 cm1 p1 W1 r1 => ?_
      refine (I.e C h.1.2).use f2 W1 (S.step p1.step) (p1.ble hb) fun v2 H2 cm2 p2 W2 r2 => ?_
      rw [← h.1.1.1.1.1, ← h.1.1.1.1.2]
      refine se_cmpQ C f3 (r1.step p2.step) r2 W2 ⟨k1, rfl, ?_⟩
      have p12 := p1.trans p2
      cases k1 with
      | false =>
        cases ev
        exact iteF (q _ H2 cm2 (Po.after p12 (po_val W2 (.bl _))))
      | true =>
        obtain ⟨w, s5, f4, ev⟩ := Out.bind_is ev
        obtain ⟨ev, rfl⟩ := Out.of_is ev
        obtain ⟨k', e9, rfl⟩ := bl_case ev
        refine iteT ?_
        refine (I.e C h.2).use f4 W2 (S.step p12.step) (p12.ble hb) fun v3 H3 cm3 p3 W3 r3 => ?_
        exact se_cmpQ C e9 (r2.step p3.step) r3 W3 (q _ H3 cm3 (Po.after (p12.trans p3) (po_val W3 (.bl _))))
    · cases h
  | and a d =>
    simp only [chkE] at h
    split at h
    · rename_i l r rest p
      simp only [Bool.and_eq_true] at h
      simp only [evE] at ev
      obtain ⟨x, s1, e1, ev⟩ := Out.bind_is ev
      have rhs : ∃ e' : Expr, chkE n c e' d = true ∧ PE X (.BoolOp .And (r :: rest) p) (wE X e') := by
        cases rest with
        | nil => exact ⟨r, h.2, pe_one pe_w⟩
        | cons _ _ => exact ⟨_, h.2, pe_w⟩
      obtain ⟨e', h2, pe2⟩ := rhs
      refine wE_of (pe_and pe_w pe2) ?_
      refine (I.e C h.1).use e1 W S hb fun v1 H1 cm1 p1 W1 r1 => ?_
      split at ev
      · rename_i hx
        rw [hx] at r1
        cases r1
        refine ⟨true, rfl, iteT ?_⟩
        exact I.e C h2 env s1 _ st' ev σ H1 fx cm1 W1 (S.step p1.step) (p1.ble hb) Q fun v H' cm' po => q v H' cm' (po.after p1)
      · rename_i hx
        rw [hx] at r1
        cases r1
        cases ev
        exact ⟨false, rfl, iteF (q _ H1 cm1 (Po.after p1 (po_val W1 (.bl _))))⟩
      · cases ev
    · cases h
  | or a d =>
    simp only [chkE] at h
    split at h
    · rename_i l r rest p
      simp only [Bool.and_eq_true] at h
      simp only [evE] at ev
      obtain ⟨x, s1, e1, ev⟩ := Out.bind_is ev
      have rhs : ∃ e' : Expr, chkE n c e' d = true ∧ PE X (.BoolOp .Or (r :: rest) p) (wE X e') := by
        cases rest with
        | nil => exact ⟨r, h.2, pe_one pe_w⟩
        | cons _ _ => exact ⟨_, h.2, pe_w⟩
      obtain ⟨e', h2, pe2⟩ := rhs
      refine wE_of (pe_or pe_w pe2) ?_
      refine (I.e C h.1).use e1 W S hb fun v1 H1 cm1 p1 W1 r1 => ?_
      split at ev
      · rename_i hx
        rw [hx] at r1
        cases r1
        cases ev
        exact ⟨true, rfl, iteT (q _ H1 cm1 (Po.after p1 (po_val W1 (.bl _))))⟩
      · rename_i hx
        rw [hx] at r1
        cases r1
        refine ⟨false, rfl, iteF ?_⟩
        exact I.e C h2 env s1 _ st' ev σ H1 fx cm1 W1 (S.step p1.step) (p1.ble hb) Q fun v H' cm' po => q v H' cm' (po.after p1)
      · cases ev
    · cases h
  | not a =>
    simp only [chkE] at h
    split at h
    · simp only [evE] at ev
      obtain ⟨x, s1, e1, ev⟩ := Out.bind_is ev
      split at ev
      · rename_i kk hx
        cases ev
        refine wE_of (pe_not pe_w) ?_
        refine (I.e C h).use e1 W S hb fun v1 H1 cm1 p1 W1 r1 => ?_
        rw [hx] at r1
        cases r1
        exact ⟨kk, rfl, q _ H1 cm1 (Po.after p1 (po_val W1 (.bl _)))⟩
      · cases ev
    · cases h
  | ite t a d =>
    cases e <;> simp only [chkE, Bool.false_eq_true, Bool.and_eq_true] at h
    simp only [evE] at ev
    obtain ⟨kk, s1, e1, ev⟩ := Out.bind_is ev
    refine wE_of (pe_ifExp pt_w pe_w pe_w) ?_
    refine I.t C h.1.1 env st kk s1 e1 σ H fx cm W S hb _ fun H1 cm1 p1 W1 => ?_
    cases kk with
    | true => exact iteT (I.e C h.1.2 env s1 r st' ev σ H1 fx cm1 W1 (S.step p1.step) (p1.ble hb) Q fun v H' cm' po => q v H' cm' (po.after p1))
    | false => exact iteF (I.e C h.2 env s1 r st' ev σ H1 fx cm1 W1 (S.step p1.step) (p1.ble hb) Q fun v H' cm' po => q v H' cm' (po.after p1))
  | tup es =>
    cases e <;> simp only [chkE, Bool.false_eq_true] at h
    simp only [evE] at ev
    obtain ⟨xs, s1, e1, ev⟩ := Out.bind_is ev
    split at ev
    · rename_i hl
      cases ev
      refine wE_of (pe_tup pa_w) ?_
      refine I.es C h env st xs _ e1 σ H fx cm W S hb _ fun vs H1 cm1 p1 W1 r1 => ?_
      exact ⟨by rw [r1.length]; exact le_line hl, fun p hp => q _ _ cm1 (Po.after p1 (po_tup W1 r1 hp))⟩
    · cases ev
  | lst es =>
    cases e <;> simp only [chkE, Bool.false_eq_true] at h
    simp only [evE] at ev
    obtain ⟨xs, s1, e1, ev⟩ := Out.bind_is ev
    split at ev
    · rename_i hl
      cases ev
      refine wE_of (pe_lst pa_w) ?_
      refine I.es C h env st xs _ e1 σ H fx cm W S hb _ fun vs H1 cm1 p1 W1 r1 => ?_
      exact ⟨by rw [r1.length]; exact le_line hl, fun p hp => q _ _ cm1 (Po.after p1 (po_lst W1 r1 hp))⟩
    · cases ev
  | dnewK =>
    simp only [chkE] at h
    split at h
    · cases ev
      exact wE_of pe_dnewK fun p hp => q _ _ cm (po_dk0 W hp)
    · cases h
  | dnewT =>
    simp only [chkE] at h
    split at h
    · cases ev
      exact wE_of pe_dnewT fun p hp => q _ _ cm (po_dt0 W hp)
    · cases h
  | ix a i =>
    cases e <;> simp only [chkE, Bool.false_eq_true, Bool.and_eq_true] at h
    simp only [evE] at ev
    obtain ⟨x, s1, e1, ev⟩ := Out.bind_is ev
    obtain ⟨y, s2, e2, ev⟩ := Out.bind_is ev
    obtain ⟨e3, rfl⟩ := Out.of_is ev
    refine wE_of (pe_ix ix_w pe_w pe_w (plainIx_of h.1.1)) ?_
    refine (I.e C h.1.2).use e1 W S hb fun v1 H1 cm1 p1 W1 r1 => ?_
    refine (I.e C h.2).use e2 W1 (S.step p1.step) (p1.ble hb) fun v2 H2 cm2 p2 W2 r2 => ?_
    exact ix_sound C.hK C.gd C.hu1 e3 (r1.step p2.step) r2 W2 fun v H' po => q v H' cm2 (po.after (p1.trans p2))
  | sl a lo hi =>
    simp only [chkE] at h
    split at h
    · simp only [Bool.and_eq_true] at h
      simp only [evE] at ev
      obtain ⟨x, s1, e1, ev⟩ := Out.bind_is ev
      obtain ⟨l, s2, e2, ev⟩ := Out.bind_is ev
      obtain ⟨u, s3, e3, ev⟩ := Out.bind_is ev
      obtain ⟨e4, rfl⟩ := Out.of_is ev
      refine wE_of (pe_slice sl_w pe_w po_w po_w) ?_
      refine (I.e C h.1.1).use e1 W S hb fun v1 H1 cm1 p1 W1 r1 => ?_
      refine I.o C h.1.2 env s1 l s2 e2 σ H1 fx cm1 W1 (S.step p1.step) (p1.ble hb) _ fun H2 cm2 p2 W2 => ?_
      have p12 := p1.trans p2
      refine I.o C h.2 env s2 u _ e3 σ H2 fx cm2 W2 (S.step p12.step) (p12.ble hb) _ fun H3 cm3 p3 W3 => ?_
      exact sl_sound C.hK e4 ((r1.step p2.step).step p3.step) W3 fun v H' po => q v H' cm3 (po.after (p12.trans p3))
    · cases h
  | call j es =>
    simp only [chkE] at h
    split at h
    · rename_i x p xs pos
      simp only [Bool.and_eq_true, decide_eq_true_eq] at h
      obtain ⟨⟨⟨h1, h2⟩, h3⟩, h4⟩ := h
      obtain ⟨n1, n2, n3⟩ := okName_is h2
      obtain ⟨f, fd, ps, hm, hk, hbd, F⟩ := C.fns _ _ h3
      simp only [evE] at ev
      obtain ⟨ds, s1, e1, ev⟩ := Out.bind_is ev
      have fin : ∀ vs H1 cm1, Stp b H cm st H1 cm1 s1 → Valid L H1 (fx ++ cm1) cm1 s1 → Reps L H1 (fx ++ cm1) cm1 vs ds → spF L (G.fn j) (vs ++ []) H1 Q E0 := fun vs H1 cm1 p1 W1 r1 => by
        rw [List.append_nil]
        unfold callR at ev
        split at ev
        · rename_i hc
          split at ev
          · rename_i r0 s0 hr
            cases ev
            refine ⟨fx ++ cm1, ds, [], r, s0, [], hr, ⟨rfl, .nil, (fun a m => nomatch m), fun a m => W1.trk a (by simpa using m), fun n o e => by simp at e⟩, ?_, fun v H' po => q v H' cm1 (Po.after p1 (po_call W1 po (.inl fun a m => m)))⟩
            rw [List.append_nil]
            exact (rep_narrow_ (cm' := []) fun n a h _ => absurd h (Nat.not_lt_zero _)).2 r1 hc
          · cases ev
          · cases ev
        · exact ⟨fx, ds, s1, r, st', cm1, ev, W1, r1, fun v H' po => q v H' cm1 (Po.after p1 ⟨po.1.less (p1.ble hb), po.2⟩)⟩
      cases xs with
      | nil =>
        refine wE_of (pe_call0 F C.room (C.gl_ h1) hm hk hbd .nil pass0 n1) ?_
        cases es with
        | cons _ _ => cases n <;> simp [chkEs] at h4
        | nil =>
          simp only [evEs, Out.ok.injEq] at e1
          obtain ⟨rfl, rfl⟩ := e1
          exact fin [] H cm .refl W .nil
      | cons e0 xs =>
        have st0 := all_star h4
        refine wE_of (pe_call F C.room (C.gl_ h1) hm hk hbd .nil pass0 pa_w n1 (star_of (st0 e0 List.mem_cons_self)) (stars_of fun e m => st0 e (List.mem_cons_of_mem _ m))) ?_
        exact I.es C h4 env st ds s1 e1 σ H fx cm W S hb _ fun vs H1 cm1 p1 W1 r1 => fin vs H1 cm1 p1 W1 r1
    · cases h
  | callS j es =>
    simp only [chkE] at h
    split at h
    · rename_i x p xs pos
      simp only [Bool.and_eq_true, decide_eq_true_eq] at h
      obtain ⟨⟨⟨h1, h2⟩, h3⟩, h4⟩ := h
      obtain ⟨n1, n2, n3⟩ := okName_is h2
      obtain ⟨f, fd, ps, hm, hk, hbd, F⟩ := C.fns _ _ h3
      simp only [evE] at ev
      obtain ⟨ds, s1, e1, ev⟩ := Out.bind_is ev
      have fin : ∀ vs H1 cm1, Stp b H cm st H1 cm1 s1 → Valid L H1 (fx ++ cm1) cm1 s1 → Reps L H1 (fx ++ cm1) cm1 vs ds → spF L (G.fn j) (vs ++ []) H1 Q E0 := fun vs H1 cm1 p1 W1 r1 => by
        rw [List.append_nil]
        simp only [snapR] at ev
        split at ev
        · rename_i hc
          split at ev
          · rename_i r0 s0 hr
            split at ev
            · rename_i hf
              cases ev
              exact ⟨[], ds.map (thawA st'), [], r, s0, [], hr, ⟨rfl, .nil, (fun a m => nomatch m), (fun a m => nomatch m), fun n o e => by simp at e⟩, thaw_reps W1 r1 hc, fun v H' po => q v H' cm1 (Po.after p1 (po_call W1 po (.inr hf)))⟩
            · cases ev
          · cases ev
          · cases ev
        · cases ev
      cases xs with
      | nil =>
        refine wE_of (pe_call0 F C.room (C.gl_ h1) hm hk hbd .nil pass0 n1) ?_
        cases es with
        | cons _ _ => cases n <;> simp [chkEs] at h4
        | nil =>
          simp only [evEs, Out.ok.injEq] at e1
          obtain ⟨rfl, rfl⟩ := e1
          exact fin [] H cm .refl W .nil
      | cons e0 xs =>
        have st0 := all_star h4
        refine wE_of (pe_call F C.room (C.gl_ h1) hm hk hbd .nil pass0 pa_w n1 (star_of (st0 e0 List.mem_cons_self)) (stars_of fun e m => st0 e (List.mem_cons_of_mem _ m))) ?_
        exact I.es C h4 env st ds s1 e1 σ H fx cm W S hb _ fun vs H1 cm1 p1 W1 r1 => fin vs H1 cm1 p1 W1 r1
    · cases h
  | blt f es =>
    simp only [chkE] at h
    split at h
    · rename_i x p xs pos
      simp only [Bool.and_eq_true, decide_eq_true_eq] at h
      obtain ⟨⟨⟨⟨h1, rfl⟩, h3⟩, h0⟩, h4⟩ := h
      simp only [evE] at ev
      obtain ⟨ds, s1, e1, ev⟩ := Out.bind_is ev
      obtain ⟨e2, rfl⟩ := Out.of_is ev
      obtain ⟨m1, m2⟩ := bltName_ok f
      cases xs with
      | nil => exact absurd h0 (by simp)
      | cons e0 xs =>
        have st0 := all_star h4
        have args : wA X (e0 :: xs) σ H (fun vs H1 => cW X (bltV f) vs H1 Q) := I.es C h4 env st ds _ e1 σ H fx cm W S hb _ fun vs H1 cm1 p1 W1 r1 =>
          blt_sound C.hK C.calm e2 r1 W1 fun v H' po => q v H' cm1 (po.after p1)
        rcases boot_blt (f := f) with ⟨id, z1, z2⟩ | ⟨T, z1, z2⟩
        · rw [z1] at args
          exact wE_of (pe_callB call_w (C.gl_ h1) (C.blt _ h3) z2 pa_w m1 m2 (star_of (st0 e0 List.mem_cons_self)) (stars_of fun e m => st0 e (List.mem_cons_of_mem _ m))) args
        · rw [z1] at args
          exact wE_of (pe_callTy call_w (C.gl_ h1) (C.blt _ h3) z2 pa_w m1 m2 (star_of (st0 e0 List.mem_cons_self)) (stars_of fun e m => st0 e (List.mem_cons_of_mem _ m))) args
    · cases h
  | isin a t =>
    simp only [chkE] at h
    split at h
    · rename_i x p l y p2 pos
      simp only [Bool.and_eq_true, decide_eq_true_eq] at h
      obtain ⟨⟨⟨⟨⟨⟨⟨⟨h1, rfl⟩, h3⟩, h4⟩, h5⟩, rfl⟩, h7⟩, h8⟩, h9⟩ := h
      simp only [evE] at ev
      obtain ⟨z, s1, e1, ev⟩ := Out.bind_is ev
      have ev : ∃ u, tyOf s1 z.d = some u ∧ u.isB = true ∧ r = .v (.bl (isTy u t)) ∧ s1 = st' := by
        split at ev
        · rename_i u hu
          split at ev
          · rename_i hb
            cases ev
            exact ⟨u, hu, hb, rfl, rfl⟩
          · cases ev
        · cases ev
      obtain ⟨u, e2, hu, rfl, rfl⟩ := ev
      have hT : PE X (.Name (tyNm t) p2) (tC (.ty (tyN t))) := by
        have q1 : bootBuiltins (tyNm t) = some (.type (tyN t)) := by
          cases t <;> first | decide +kernel | (simp [Ty.named] at h8)
        have q2 : tyNm t ≠ "__name__" ∧ (tyNm t == ("__debug__" : Str)) = false := by
          cases t <;> first | exact ⟨by decide +kernel, by decide +kernel⟩ | (simp [Ty.named] at h8)
        exact pe_bltn (C.gl_ h5) (C.blt _ h7) q1 rfl q2.1 q2.2
      have ht : t.isB = true := by cases t <;> first | rfl | (simp [Ty.named] at h8)
      refine wE_of (pe_callB call_w (C.gl_ h1) (C.blt _ h3) (id := "isinstance") (by decide +kernel) (pa_cons pe_w (pa_cons hT pa_nil (by rfl)) (star_of h4)) (by decide +kernel) (by decide +kernel) (star_of h4) (by rfl)) ?_
      refine (I.e C h9).use e1 W S hb fun v1 H1 cm1 p1 W1 r1 => ?_
      have hq : Q (.bl (isTy u t)) H1 := q _ H1 cm1 (Po.after p1 (po_val W1 (.bl _)))
      exact isin_sound C.hK hu ht e2 r1 W1 hq
    · cases h
  | mt m a es =>
    simp only [chkE] at h
    split at h
    · rename_i l x ap xs cp
      simp only [Bool.and_eq_true, decide_eq_true_eq] at h
      obtain ⟨⟨⟨⟨⟨⟨h1, rfl⟩, h3⟩, h4⟩, h5⟩, h6⟩, h7⟩ := h
      simp only [evE] at ev
      obtain ⟨z, s1, e1, ev⟩ := Out.bind_is ev
      split at ev
      rotate_left
      · cases ev
      rename_i hil
      obtain ⟨ds, s2, e2, ev⟩ := Out.bind_is ev
      have slot : ∃ id, mtI m = id ∧ Slot "list" (mtName m) id ∧ typeOf (.builtin id) = pure (.type "method_descriptor") := by
        cases m <;> first
          | exact ⟨_, rfl, PySem.F.slot_list_append, PySem.F.type_list_append⟩
          | exact ⟨_, rfl, PySem.F.slot_list_pop, PySem.F.type_list_pop⟩
          | exact ⟨_, rfl, PySem.F.slot_list_extend, PySem.F.type_list_extend⟩
          | exact ⟨_, rfl, PySem.F.slot_list_reverse, PySem.F.type_list_reverse⟩
          | exact ⟨_, rfl, PySem.F.slot_list_clear, PySem.F.type_list_clear⟩
          | exact ⟨_, rfl, PySem.F.slot_list_index, PySem.F.type_list_index⟩
          | (simp [Mt.isL] at h1)
      obtain ⟨id, rfl, sl, ty⟩ := slot
      have tyv : ∀ {v1 H1 cm1}, Valid L H1 (fx ++ cm1) cm1 s1 → Rep L H1 (fx ++ cm1) cm1 v1 z.d → tyV X.K "list" v1 H1 := fun {v1 H1 cm1} W1 r1 => by
        unfold isLst at hil
        split at hil
        · rename_i ds' hs
          obtain ⟨a, us, rfl, _, t1, _⟩ := seq_rep W1 r1 hs
          exact .inl ⟨rfl, us, C.hK ▸ (t1 rfl).sq⟩
        · cases hil
      cases xs with
      | nil =>
        cases es with
        | cons _ _ => cases n <;> simp [chkEs] at h7
        | nil =>
          simp only [evEs, Out.ok.injEq] at e2
          obtain ⟨rfl, rfl⟩ := e2
          refine wE_of (pe_bm0 PySem.F.plainAttrs_list sl ty mt_w pe_w (noSup_of h3) (by rw [h4]; simp)) ?_
          refine (I.e C h6).use e1 W S hb fun v1 H1 cm1 p1 W1 r1 => ?_
          exact ⟨tyv W1 r1, mt_sound C.hK h1 ev r1 .nil W1 fun v H' po => q v H' cm1 (po.after p1)⟩
      | cons e0 xs =>
        have st0 := all_star h7
        have any0 : (backTo cp (starEach xs X.env)).any (·.1) = false := stars_of fun e m => st0 e (List.mem_cons_of_mem _ m)
        refine wE_of (pe_bm PySem.F.plainAttrs_list sl ty mt_w pe_w pa_w (noSup_of h3) ?_ (by rw [h4]; simp) (star_of (st0 e0 List.mem_cons_self)) any0) ?_
        · have a1 : (backTo cp (starEach (e0 :: xs) X.env)).all (fun x => !x.1) = true := stars_all st0
          rw [a1]
          simp only [backToKw, keywordEach, List.map_nil, List.all_nil, Bool.true_and, decide_eq_true_eq, List.length_cons, List.length_nil, List.isEmpty_nil, if_true]
          simp only [List.length_cons] at h5
          omega
        · refine (I.e C h6).use e1 W S hb fun v1 H1 cm1 p1 W1 r1 => ?_
          refine ⟨tyv W1 r1, ?_⟩
          refine I.es C h7 env s1 ds s2 e2 σ H1 fx cm1 W1 (S.step p1.step) (p1.ble hb) _ fun vs H2 cm2 p2 W2 r2 => ?_
          exact mt_sound C.hK h1 ev (r1.step p2.step) r2 W2 fun v H' po => q v H' cm2 (po.after (p1.trans p2))
    · cases h
  | fld a f => simp [chkE] at h
  | mcall m a es => simp [chkE] at h
  | make m es => simp [chkE] at h
  | makeM m es => simp [chkE] at h
  | mu a =>
    simp only [chkE] at h
    simp only [evE] at ev
    obtain ⟨x, s1, e1, ev⟩ := Out.bind_is ev
    split at ev
    · rename_i o
      cases ev
      exact I.e C h env st _ s1 e1 σ H fx cm W S hb Q fun v H' cm' po => po_mu po hb q
    · cases ev
  | lc own g it t x =>
    simp only [chkE] at h
    split at h
    · rename_i el tg iter ifs scope p
      simp only [Bool.and_eq_true] at h
      obtain ⟨⟨⟨⟨⟨⟨h1, h2⟩, h3⟩, h4⟩, h5⟩, h6⟩, h7⟩ := h
      refine wE_of (pe_lc C.calm (by rw [C.hN]; exact C.nd) pi_w (by rw [C.hN, C.hs]; exact blkOk_by h1) pg_b pts_b pe_b (fold_of h3)) ?_
      exact lc_read I C h2 h4 h5 h6 h7 ev W S hb q
    · cases h
  | lc2 own vs g it t g' it' t' x => simp [chkE] at h
end
end En

set_option Elab.async false
set_option linter.all false
set_option maxRecDepth 100000
set_option maxHeartbeats 2000000
namespace En
open PySem PySem.Spec PyProof.Rows L2

def notTup : Expr → Bool
  | .Tuple .. => false | _ => true
def isName : Expr → Bool
  | .Name .. => true | _ => false
def noTL : Expr → Bool
  | .Tuple .. => false | .List .. => false | _ => true
/-- the targets are not stored from the right -/
def plainAsg (tg e : Expr) : Bool := noTL tg || notTup e
def swapOk (c : SC) (x y : Str) (a b : Expr) : Bool :=
  decide (c.sc.names.lookup x = some .local) && decide (c.sc.names.lookup y = some .local) && decide (x ≠ y) && noStar a && noStar b && !([a, b].all (foldedForSure 8)) && !([a, b].all (constantsAlone 8))
/-- name = [comprehension] -/
def chkLcA (n : Nat) (c : SC) (tg e : Expr) (own : List (Str × Nat)) (g' : IG) (it : II) (t : IC) (y : IE) : Bool := match tg, e with
  | .Name nm np, .ListComp el [⟨tg', iter, ifs, 0⟩] scope pos =>
    decide (c.sc.names.lookup nm = some .local) && (np.line == pos.line) && !(scope.names.any fun (q, k) => q == nm && (k == .local || k == .cell)) &&
    blkC c.N c.sc scope own && gIn (own.map (·.2)) g' && noSet iter && chkI n c tg' iter it && chkG n (c.blk scope) tg' g' && chkC n (c.blk scope) ifs t && chkE n (c.blk scope) el y
  | _, _ => false
def chkAx (n : Nat) (c : SC) (tg e : Expr) : IE → Bool
  | .lc own g' it t y => chkLcA n c tg e own g' it t y
  | .mu (.lc own g' it t y) => chkLcA n c tg e own g' it t y
  | x => noComp e && chkE n c e x
mutual
def chkS : Nat → SC → Stmt → IS → Bool
  | 0, _, _, _ => false
  | n + 1, c, s, .asg g x => (match s with
    | .Assign [tg] e p => noStar tg && plainAsg tg e && chkG n c tg g && chkAx n c tg e x
    | _ => false)
  | n + 1, c, s, .par i j x y => (match s with
    | .Assign [.Tuple [.Name a pa, .Name b pb] _ _] (.Tuple [l, r] _ _) _ => decide (c.N[i]? = some a) && decide (c.N[j]? = some b) && decide (i ≠ j) && decide (pa.line = pb.line) && swapOk c a b l r && chkE n c l x && chkE n c r y
    | _ => false)
  | n + 1, c, s, .aug i o x => (match s with
    | .AugAssign (.Name nm _) p e _ => decide (c.N[i]? = some nm) && locB c nm && decide (opOf o = p) && chkE n c e x
    | _ => false)
  | n + 1, c, s, .expr x => (match s with
    | .Expr e _ => noComp e && chkE n c e x
    | _ => false)
  | n + 1, c, s, .ret x => (match s with
    | .Return (some e) _ => chkE n c e x
    | _ => false)
  | n + 1, c, s, .retF x => (match s with
    | .Return (some e) _ => chkE n c e x
    | _ => false)
  | n + 1, c, s, .retN => (match s with
    | .Return none _ => true
    | _ => false)
  | n + 1, c, s, .ifs t a d => (match s with
    | .If e x y _ => chkT n c e t && chkSs n c x a && chkSs n c y d
    | _ => false)
  | n + 1, c, s, .while_ t a => (match s with
    | .While e x [] _ => chkT n c e t && chkSs n c x a
    | _ => false)
  | n + 1, c, s, .for_ g it a => (match s with
    | .For tg iter x [] _ => noSet iter && chkI n c tg iter it && chkG n c tg g && chkSs n c x a
    | _ => false)
  | n + 1, c, s, .brk => (match s with
    | .Break _ => true
    | _ => false)
  | n + 1, c, s, .cont => (match s with
    | .Continue _ => true
    | _ => false)
  | n + 1, c, s, .pass => (match s with
    | .Pass _ => true
    | _ => false)
def chkSs : Nat → SC → List Stmt → ISs → Bool
  | 0, _, _, _ => false
  | n + 1, c, ss, .nil => (match ss with
    | [] => true
    | _ => false)
  | n + 1, c, ss, .cons x xs => (match ss with
    | s :: ss => chkS n c s x && chkSs n c ss xs
    | _ => false)
end

def Cok (L : Lk) (fx : List Addr) (b : Nat) (H : Hp) (cm : List Addr) (st : Store) (env' : En.Env) (st' : Store) (D : Ends) : Ctl → Prop
  | .nx => ∀ σ' H' cm', Stp b H cm st H' cm' st' → Valid L H' (fx ++ cm') cm' st' → Slots L H' (fx ++ cm') cm' env' σ' → D.nx σ' H'
  | .bk => ∀ σ' H' cm', Stp b H cm st H' cm' st' → Valid L H' (fx ++ cm') cm' st' → Slots L H' (fx ++ cm') cm' env' σ' → D.bk σ' H'
  | .ct => ∀ σ' H' cm', Stp b H cm st H' cm' st' → Valid L H' (fx ++ cm') cm' st' → Slots L H' (fx ++ cm') cm' env' σ' → D.ct σ' H'
  | .ret r => ∀ v H' cm', Po L fx b H cm st v r H' cm' st' → D.rt v H'
  | .retc n => ∀ v H' cm', Stp b H cm st H' cm' st' → Valid L H' (fx ++ cm') cm' st' → Rep L H' (fx ++ cm') cm' v (.cell n) → D.rt v H'
theorem Cok.after {L : Lk} {fx : List Addr} {b : Nat} {H H1 : Hp} {cm cm1 : List Addr} {st st1 st' : Store} {env' : En.Env} {D : Ends} {c : Ctl} (h : Cok L fx b H cm st env' st' D c) (s : Stp b H cm st H1 cm1 st1) : Cok L fx b H1 cm1 st1 env' st' D c := by
  cases c with
  | nx => exact fun σ' H' cm' t => h σ' H' cm' (s.trans t)
  | bk => exact fun σ' H' cm' t => h σ' H' cm' (s.trans t)
  | ct => exact fun σ' H' cm' t => h σ' H' cm' (s.trans t)
  | ret r => exact fun v H' cm' po => h v H' cm' (po.after s)
  | retc n => exact fun v H' cm' t => h v H' cm' (s.trans t)
def SSt (L : Lk) (G : Glo) (b : Nat) (X : Cx) (s : Stmt) (x : IS) : Prop := ∀ env st c env' st', exS G b x env st = .ok (c, env') st' → ∀ σ H fx cm, Valid L H (fx ++ cm) cm st → Slots L H (fx ++ cm) cm env σ → b ≤ st.length →
  ∀ D : Ends, Cok L fx b H cm st env' st' D c → wS X s D σ H
def SSs (L : Lk) (G : Glo) (b : Nat) (X : Cx) (s : List Stmt) (x : ISs) : Prop := ∀ env st c env' st', exSs G b x env st = .ok (c, env') st' → ∀ σ H fx cm, Valid L H (fx ++ cm) cm st → Slots L H (fx ++ cm) cm env σ → b ≤ st.length →
  ∀ D : Ends, Cok L fx b H cm st env' st' D c → wSs X s D σ H

section
variable {L : Lk} {G : Glo} {k b : Nat} {X : Cx} {c : SC}
theorem CtxOk.passes (C : CtxOk L G k X c) : PassesOwn (model X.prog X.w) X.A X.env X.xe := by
  rw [C.xe]
  exact PassesOwn.never
theorem sole_of {tg e : Expr} {l : Nat} {env : PySem.Env} (h : noComp e = true) : swapsWithSole [tg] e l env = pure false := swap_of h
theorem stores_of {tg e : Expr} {env : PySem.Env} (h : plainAsg tg e = true) : swappedStores [tg] e env = pure none := by
  unfold plainAsg at h
  cases tg <;> cases e <;> first | rfl | (simp [notTup, noTL] at h)
theorem all_snd (L : Lk) (G : Glo) (k : Nat) : ∀ n, Snd L G k n
  | 0 => ⟨fun _ h => by simp [chkE] at h, fun _ h => by simp [chkEs] at h, fun _ h => by simp [chkT] at h, fun _ h => by simp [chkW] at h, fun _ h => by simp [chkO] at h, fun _ h => by simp [chkC] at h, fun _ h => by simp [chkI] at h, fun _ h => by simp [chkG] at h, fun _ h => by simp [chkGs] at h⟩
  | n + 1 =>
    have I := all_snd L G k n
    ⟨se_e I, se_args I, se_t I, se_w I, se_o I, se_c I, se_i I, se_g I, se_gs I⟩
structure SndS (L : Lk) (G : Glo) (k : Nat) (n : Nat) : Prop where
  s : ∀ {b X c s x}, CtxOk L G k X c → chkS n c s x = true → SSt L G b X s x
  ss : ∀ {b X c s x}, CtxOk L G k X c → chkSs n c s x = true → SSs L G b X s x
theorem ss_ss {s : List Stmt} {x : ISs} {n : Nat} (I : SndS L G k n) (C : CtxOk L G k X c) (h : chkSs (n + 1) c s x = true) : SSs L G b X s x := by
  intro env st ct env' st' ev σ H fx cm W S hb D q
  cases x with
  | nil =>
    cases s with
    | cons _ _ => simp [chkSs] at h
    | nil =>
      simp only [exSs, Out.ok.injEq, Prod.mk.injEq] at ev
      obtain ⟨⟨rfl, rfl⟩, rfl⟩ := ev
      exact wSs_of pss_nil (q σ H cm .refl W S)
  | cons x xs =>
    cases s with
    | nil => simp [chkSs] at h
    | cons s ss =>
      simp only [chkSs, Bool.and_eq_true] at h
      simp only [exSs] at ev
      obtain ⟨⟨c1, env1⟩, s1, e1, ev⟩ := Out.bind_is ev
      refine wSs_of (pss_cons ps_w pss_w) ?_
      refine I.s C h.1 env st c1 env1 s1 e1 σ H fx cm W S hb _ ?_
      cases c1 with
      | nx => exact fun σ1 H1 cm1 p1 W1 S1 => I.ss C h.2 env1 s1 ct env' st' ev σ1 H1 fx cm1 W1 S1 (p1.ble hb) D (q.after p1)
      | bk =>
        simp only [Out.ok.injEq, Prod.mk.injEq] at ev
        obtain ⟨⟨rfl, rfl⟩, rfl⟩ := ev
        exact q
      | ct =>
        simp only [Out.ok.injEq, Prod.mk.injEq] at ev
        obtain ⟨⟨rfl, rfl⟩, rfl⟩ := ev
        exact q
      | ret r =>
        simp only [Out.ok.injEq, Prod.mk.injEq] at ev
        obtain ⟨⟨rfl, rfl⟩, rfl⟩ := ev
        exact q
      | retc r =>
        simp only [Out.ok.injEq, Prod.mk.injEq] at ev
        obtain ⟨⟨rfl, rfl⟩, rfl⟩ := ev
        exact q
/-- how a body's end leads on within a loop -/
theorem turn_end {fx : List Addr} {H H1 : Hp} {cm cm1 : List Addr} {st s1 s2 st' : Store} {env1 env' : En.Env} {D : Ends} {N : L2.St → Hp → Prop} {c1 ct : Ctl} (p1 : Stp b H cm st H1 cm1 s1)
    (q : Cok L fx b H cm st env' st' D ct) (go : c1.goes = true → ∀ σ' H' cm', Stp b H1 cm1 s1 H' cm' s2 → Valid L H' (fx ++ cm') cm' s2 → Slots L H' (fx ++ cm') cm' env1 σ' → N σ' H')
    (out : c1.goes = false → ct = c1.out ∧ env' = env1 ∧ st' = s2) : Cok L fx b H1 cm1 s1 env1 s2 { D with nx := N, ct := N, bk := D.nx } c1 := by
  cases c1 with
  | nx => exact go rfl
  | ct => exact go rfl
  | bk =>
    obtain ⟨rfl, rfl, rfl⟩ := out rfl
    exact fun σ' H' cm' t => q σ' H' cm' (p1.trans t)
  | ret r =>
    obtain ⟨rfl, rfl, rfl⟩ := out rfl
    exact fun v H' cm' po => q v H' cm' (po.after p1)
  | retc r =>
    obtain ⟨rfl, rfl, rfl⟩ := out rfl
    exact fun v H' cm' t => q v H' cm' (p1.trans t)
theorem for_read {g : IG} {it : II} {a : ISs} {tg iter : Expr} {body : List Stmt} {n : Nat} (I : SndS L G k n) (C : CtxOk L G k X c) (hi : chkI n c tg iter it = true) (hg : chkG n c tg g = true) (hbd : chkSs n c body a = true)
    {env : En.Env} {st : Store} {ct : Ctl} {env' : En.Env} {st' : Store} (ev : exS G b (.for_ g it a) env st = .ok (ct, env') st') {σ : L2.St} {H : Hp} {fx cm : List Addr} (W : Valid L H (fx ++ cm) cm st) (S : Slots L H (fx ++ cm) cm env σ) (hb : b ≤ st.length)
    {D : Ends} (q : Cok L fx b H cm st env' st' D ct) : tFor (wI X tg iter) (wG X tg) (wSs X body) D σ H := by
  have J := all_snd L G k n
  simp only [exS] at ev
  obtain ⟨m, s0, e0, ev⟩ := Out.bind_is ev
  refine J.i C hi env st m s0 e0 σ H fx cm W S hb _ fun T H1 cm1 p1 W1 wk => ?_
  have S1 := S.step p1.step
  have q1 := q.after p1
  have hb1 := p1.ble hb
  cases m with
  | l ds =>
    have wk : WkD L T H1 fx cm1 ds := wk
    simp only at ev
    refine ⟨fun i mm σ' Hc => mm = ds.length - i ∧ i ≤ ds.length ∧ ∃ (cm' : List Addr) (s' : Store) (e' : En.Env), Stp b H1 cm1 s0 Hc cm' s' ∧ Valid L Hc (fx ++ cm') cm' s' ∧ Slots L Hc (fx ++ cm') cm' e' σ' ∧
      forL (fun d e1 s2 => (asG G b g d e1 s2).bind fun e2 s3 => exSs G b a e2 s3) (ds.drop i) e' s' = .ok (ct, env') st', ⟨ds.length, by simp, Nat.zero_le _, cm1, s0, env, .refl, W1, S1, by simpa using ev⟩, ?_⟩
    rintro i mm σ' Hc ⟨rfl, hle, cm', s', e', sp, Wc, Sc, el⟩
    by_cases hlt : i < ds.length
    · refine .inr ⟨wk.go i Hc cm' hlt sp.step, fun σ'' H' => ∃ (cm' : List Addr) (s' : Store) (e' : En.Env), Stp b H1 cm1 s0 H' cm' s' ∧ Valid L H' (fx ++ cm') cm' s' ∧ Slots L H' (fx ++ cm') cm' e' σ'' ∧
        forL (fun d e1 s2 => (asG G b g d e1 s2).bind fun e2 s3 => exSs G b a e2 s3) (ds.drop (i + 1)) e' s' = .ok (ct, env') st', fun σ'' H' hN => ⟨ds.length - (i + 1), by omega, rfl, hlt, hN⟩, fun x H2 hy => ?_⟩
      obtain ⟨d, hd, p2, W2, r2⟩ := wk.yld b i Hc fx cm' s' x H2 (fun a m => .inl m) hlt sp.step Wc hy
      have hdrop : ds.drop i = d :: ds.drop (i + 1) := by
        obtain ⟨h1, h2⟩ := List.getElem?_eq_some_iff.mp hd
        rw [← h2]
        exact List.drop_eq_getElem_cons h1
      rw [hdrop] at el
      simp only [forL] at el
      obtain ⟨⟨c1, env1⟩, s3, e3, el⟩ := Out.bind_is el
      obtain ⟨env2, s4, f1, f2⟩ := Out.bind_is e3
      have hb0 : b ≤ s'.length := Nat.le_trans hb1 sp.len
      have sp2 := sp.trans p2
      refine J.g C hg d e' s' env2 s4 f1 x σ' H2 fx cm' W2 (Sc.step p2.step) r2 hb0 _ fun σ3 H3 cm3 p3 W3 S3 _ => ?_
      refine I.ss C hbd env2 s4 c1 env1 s3 f2 σ3 H3 fx cm3 W3 S3 (p3.ble hb0) _ ?_
      refine turn_end (sp2.trans p3) q1 (fun hgo σ4 H4 cm4 p4 W4 S4 => ⟨cm4, s3, env1, (sp2.trans p3).trans p4, W4, S4, ?_⟩) fun hgo => ?_
      · simp only [hgo, if_true] at el
        exact el
      · simp only [hgo, Bool.false_eq_true, if_false, Out.ok.injEq, Prod.mk.injEq] at el
        exact ⟨el.1.1.symm, el.1.2.symm, el.2.symm⟩
    · have hi2 : i = ds.length := by omega
      subst hi2
      rw [List.drop_length] at el
      simp only [forL, Out.ok.injEq, Prod.mk.injEq] at el
      obtain ⟨⟨rfl, rfl⟩, rfl⟩ := el
      exact .inl ⟨wk.stop Hc cm' sp.step, q1 σ' Hc cm' sp Wc Sc⟩
  | c n0 =>
    obtain ⟨a0, ha0, rfl⟩ : ∃ a0, cm1[n0]? = some a0 ∧ T = Itl L.K a0 := wk
    simp only at ev
    refine ⟨fun i mm σ' Hc => ∃ (cm' : List Addr) (s' : Store) (e' : En.Env), Stp b H1 cm1 s0 Hc cm' s' ∧ Valid L Hc (fx ++ cm') cm' s' ∧ Slots L Hc (fx ++ cm') cm' e' σ' ∧
      forC (fun d e1 s2 => (asG G b g d e1 s2).bind fun e2 s3 => exSs G b a e2 s3) n0 mm i e' s' = .ok (ct, env') st', ⟨G.F, cm1, s0, env, .refl, W1, S1, ev⟩, ?_⟩
    rintro i mm σ' Hc ⟨cm', s', e', sp, Wc, Sc, el⟩
    have ha : cm'[n0]? = some a0 := by
      obtain ⟨ex, rfl, _⟩ := sp.step.new
      rw [List.getElem?_append_left]
      · exact ha0
      · exact (List.getElem?_eq_some_iff.mp ha0).1
    cases mm with
    | zero => simp [forC] at el
    | succ mm =>
      simp only [forC] at el
      split at el
      · rename_i ds hds
        obtain ⟨vs, hv, rv⟩ := Wc.cell hds ha
        split at el
        · rename_i hnone
          simp only [Out.ok.injEq, Prod.mk.injEq] at el
          obtain ⟨⟨rfl, rfl⟩, rfl⟩ := el
          refine .inl ⟨⟨vs, .inl (.inl hv), ?_⟩, q1 σ' Hc cm' sp Wc Sc⟩
          rw [rv.length]
          exact List.getElem?_eq_none_iff.mp hnone
        · rename_i d hd
          obtain ⟨v, hv2, r2⟩ := rv.get hd
          obtain ⟨⟨c1, env1⟩, s3, e3, el⟩ := Out.bind_is el
          obtain ⟨env2, s4, f1, f2⟩ := Out.bind_is e3
          refine .inr ⟨⟨vs, v, .inl (.inl hv), hv2⟩, fun σ'' H' => ∃ (cm' : List Addr) (s' : Store) (e' : En.Env), Stp b H1 cm1 s0 H' cm' s' ∧ Valid L H' (fx ++ cm') cm' s' ∧ Slots L H' (fx ++ cm') cm' e' σ'' ∧
            forC (fun d e1 s2 => (asG G b g d e1 s2).bind fun e2 s3 => exSs G b a e2 s3) n0 mm (i + 1) e' s' = .ok (ct, env') st', fun σ'' H' hN => ⟨mm, Nat.lt_succ_self _, hN⟩, fun x H2 hy => ?_⟩
          obtain ⟨rfl, hy⟩ := hy
          have ex := hy vs (.inl (.inl hv))
          rw [hv2] at ex
          cases ex
          have hb0 : b ≤ s'.length := Nat.le_trans hb1 sp.len
          refine J.g C hg d e' s' env2 s4 f1 _ σ' _ fx cm' Wc Sc r2 hb0 _ fun σ3 H3 cm3 p3 W3 S3 _ => ?_
          refine I.ss C hbd env2 s4 c1 env1 s3 f2 σ3 H3 fx cm3 W3 S3 (p3.ble hb0) _ ?_
          refine turn_end (sp.trans p3) q1 (fun hgo σ4 H4 cm4 p4 W4 S4 => ⟨cm4, s3, env1, (sp.trans p3).trans p4, W4, S4, ?_⟩) fun hgo => ?_
          · simp only [hgo, if_true] at el
            exact el
          · simp only [hgo, Bool.false_eq_true, if_false, Out.ok.injEq, Prod.mk.injEq] at el
            exact ⟨el.1.1.symm, el.1.2.symm, el.2.symm⟩
      · cases el

theorem swap_is {x y : Str} {px py : Pos} {l r : Expr} {k1 k2 p1 p2} (hk : X.env.scope.kind = .function) (hs : X.env.scope = c.sc) (h : swapOk c x y l r = true) (hl : px.line = py.line) :
    swappedStores [.Tuple [.Name x px, .Name y py] k1 p1] (.Tuple [l, r] k2 p2) X.env = pure (some [x, y]) := by
  unfold swapOk at h
  simp only [Bool.and_eq_true, decide_eq_true_eq, Bool.not_eq_true'] at h
  obtain ⟨⟨⟨⟨⟨⟨h1, h2⟩, h3⟩, h4⟩, h5⟩, h6⟩, h7⟩ := h
  rw [← hs] at h1 h2
  have kx : X.env.kindOf x = some .local := h1
  have ky : X.env.kindOf y = some .local := h2
  have hb : X.env.blockKind = .function := by unfold PySem.Env.blockKind; rw [hk]; rfl
  unfold swappedStores
  simp only [hb, kx, ky, Expr.pos, List.length_cons, List.length_nil, List.head?_cons, Option.map_some, Option.getD_some, List.filterMap_cons, List.filterMap_nil, hl, h6, h7]
  have hd : [x, y].eraseDups = [x, y] := by
    rw [List.eraseDups_cons]
    have : (y == x) = false := by simp; exact fun z => h3 z.symm
    simp [List.eraseDups_cons, this]
  simp [hd]
  rintro (z | z)
  · cases l <;> first | (simp [noStar] at h4; done) | (simp at z; done)
  · cases r <;> first | (simp [noStar] at h5; done) | (simp at z; done)
theorem s_asg {g : IG} {x : IE} {tg e : Expr} {p : Pos} {n : Nat} (C : CtxOk L G k X c) (h1 : noStar tg = true) (h2 : plainAsg tg e = true) (h3 : chkG n c tg g = true) (h4 : chkAx n c tg e x = true)
    {env : En.Env} {st : Store} {ct : Ctl} {env' : En.Env} {st' : Store} (ev : exS G b (.asg g x) env st = .ok (ct, env') st') {σ : L2.St} {H : Hp} {fx cm : List Addr} (W : Valid L H (fx ++ cm) cm st) (S : Slots L H (fx ++ cm) cm env σ) (hb : b ≤ st.length)
    {D : Ends} (q : Cok L fx b H cm st env' st' D ct) : wS X (.Assign [tg] e p) D σ H := by
  have J := all_snd L G k n
  simp only [exS] at ev
  obtain ⟨r, s1, e1, ev⟩ := Out.bind_is ev
  obtain ⟨en2, s2, e2, ev⟩ := Out.bind_is ev
  simp only [Out.ok.injEq, Prod.mk.injEq] at ev
  obtain ⟨⟨rfl, rfl⟩, rfl⟩ := ev
  have plain : noComp e = true → chkE n c e x = true → wS X (.Assign [tg] e p) D σ H := fun hn he => by
    refine wS_of (ps_asg pe_w pg_w (sole_of hn) (stores_of h2) ?_) ?_
    · rw [asg_of h1]; rfl
    refine (J.e C he).use e1 W S hb fun v H1 cm1 p1 W1 r1 => ?_
    exact J.g C h3 _ env s1 _ _ e2 v σ H1 fx cm1 W1 (S.step p1.step) r1 (p1.ble hb) _ fun σ2 H2 cm2 p2 W2 S2 _ => q σ2 H2 cm2 (p1.trans p2) W2 S2
  have lc : ∀ {own g' it t y} {r0 : R} {s0 : Store}, chkLcA n c tg e own g' it t y = true → evE G b (.lc own g' it t y) env st = .ok r0 s0 → (∀ v H' cm', Po L fx b H cm st v r0 H' cm' s0 → ∃ cm2, Po L fx b H cm st v r H' cm2 s1) → wS X (.Assign [tg] e p) D σ H := fun {own g' it t y r0 s0} h ev0 qq => by
    unfold chkLcA at h
    split at h
    · rename_i nm np el tg' iter ifs scope pos
      simp only [Bool.and_eq_true, decide_eq_true_eq, Bool.not_eq_true'] at h
      obtain ⟨⟨⟨⟨⟨⟨⟨⟨⟨k1, k2⟩, k3⟩, k4⟩, k5⟩, k6⟩, k7⟩, k8⟩, k9⟩, k10⟩ := h
      obtain ⟨i, rfl, hi⟩ : ∃ i, g = .name i ∧ c.N[i]? = some nm := by
        cases n with
        | zero => simp [chkG] at h3
        | succ n =>
          cases g with
          | name i =>
            simp only [chkG, Bool.and_eq_true, decide_eq_true_eq] at h3
            exact ⟨i, rfl, h3.1⟩
          | tup gs => simp [chkG] at h3
          | sub a i => simp [chkG] at h3
          | fld a f => simp [chkG] at h3
      simp only [asG, Out.ok.injEq] at e2
      obtain ⟨rfl, rfl⟩ := e2
      intro pins s I
      refine (ps_setLc C.calm (by rw [C.hN]; exact C.nd) (by rw [C.hN]; exact hi) (by rw [C.hs]; exact k1) (sw_true I.ok.kind (by rw [C.hs]; exact k1) k2 k3) pi_w (by rw [C.hN, C.hs]; exact blkOk_by k4) pg_b pts_b pe_b (fold_of k6)).run pins s σ H D I ?_
      refine lc_read J C k5 k7 k8 k9 k10 ev0 W S hb fun v H' cm' po => ?_
      obtain ⟨cm2, po2⟩ := qq v H' cm' po
      obtain ⟨p1, W1, r1⟩ := po2.d
      exact q _ H' cm2 p1 W1 ((S.step p1.step).set r1 i)
    · cases h
  unfold chkAx at h4
  split at h4
  · exact lc h4 e1 fun v H' cm' po => ⟨cm', po⟩
  · simp only [evE] at e1
    obtain ⟨x0, s0, f1, e1⟩ := Out.bind_is e1
    split at e1
    · rename_i o
      cases e1
      exact lc h4 (by simp only [evE]; exact f1) fun v H' cm' po => po_mu (Q := fun v H' => ∃ cm2, Po L fx b H cm st v _ H' cm2 _) po hb fun v H' cm' po => ⟨cm', po⟩
    · cases e1
  · simp only [Bool.and_eq_true] at h4
    exact plain h4.1 h4.2
end
end En

set_option Elab.async false
set_option linter.all false
set_option maxRecDepth 100000
set_option maxHeartbeats 2000000
namespace En
open PySem PySem.Spec PyProof.Rows L2
section
variable {L : Lk} {G : Glo} {k b : Nat} {X : Cx} {c : SC}
theorem while_read {t : IT} {a : ISs} {e : Expr} {body : List Stmt} {n : Nat} (I : SndS L G k n) (C : CtxOk L G k X c) (ht : chkT n c e t = true) (hbd : chkSs n c body a = true)
    {env : En.Env} {st : Store} {ct : Ctl} {env' : En.Env} {st' : Store} (ev : exS G b (.while_ t a) env st = .ok (ct, env') st') {σ : L2.St} {H : Hp} {fx cm : List Addr} (W : Valid L H (fx ++ cm) cm st) (S : Slots L H (fx ++ cm) cm env σ) (hb : b ≤ st.length)
    {D : Ends} (q : Cok L fx b H cm st env' st' D ct) : tWhile (wT X e) (wSs X body) D σ H := by
  have J := all_snd L G k n
  simp only [exS] at ev
  refine ⟨fun m σ' Hc => ∃ (cm' : List Addr) (s' : Store) (e' : En.Env), Stp b H cm st Hc cm' s' ∧ Valid L Hc (fx ++ cm') cm' s' ∧ Slots L Hc (fx ++ cm') cm' e' σ' ∧
      whileL (evT G b t) (exSs G b a) m e' s' = .ok (ct, env') st', ⟨G.F, cm, st, env, .refl, W, S, ev⟩, ?_⟩
  rintro m σ' Hc ⟨cm', s', e', sp, Wc, Sc, el⟩
  cases m with
  | zero => simp [whileL] at el
  | succ m =>
    simp only [whileL] at el
    obtain ⟨kk, s1, f1, el⟩ := Out.bind_is el
    have hb0 := sp.ble hb
    refine J.t C ht e' s' kk s1 f1 σ' Hc fx cm' Wc Sc hb0 _ fun H1 cm1 p1 W1 => ?_
    have S1 := Sc.step p1.step
    have sp1 := sp.trans p1
    cases kk with
    | false =>
      simp only [Bool.false_eq_true, if_false, Out.ok.injEq, Prod.mk.injEq] at el ⊢
      obtain ⟨⟨rfl, rfl⟩, rfl⟩ := el
      exact q σ' H1 cm1 sp1 W1 S1
    | true =>
      simp only [if_true] at el ⊢
      obtain ⟨⟨c1, env1⟩, s2, f2, el⟩ := Out.bind_is el
      refine ⟨fun σ'' H'' => ∃ (cm' : List Addr) (s' : Store) (e' : En.Env), Stp b H cm st H'' cm' s' ∧ Valid L H'' (fx ++ cm') cm' s' ∧ Slots L H'' (fx ++ cm') cm' e' σ'' ∧
        whileL (evT G b t) (exSs G b a) m e' s' = .ok (ct, env') st', fun σ'' H'' hN => ⟨m, Nat.lt_succ_self _, hN⟩, ?_⟩
      refine I.ss C hbd e' s1 c1 env1 s2 f2 σ' H1 fx cm1 W1 S1 (p1.ble hb0) _ ?_
      refine turn_end sp1 q (fun hgo σ4 H4 cm4 p4 W4 S4 => ⟨cm4, s2, env1, sp1.trans p4, W4, S4, ?_⟩) fun hgo => ?_
      · simp only [hgo, if_true] at el
        exact el
      · simp only [hgo, Bool.false_eq_true, if_false, Out.ok.injEq, Prod.mk.injEq] at el
        exact ⟨el.1.1.symm, el.1.2.symm, el.2.symm⟩
theorem ss_s {s : Stmt} {x : IS} {n : Nat} (I : SndS L G k n) (C : CtxOk L G k X c) (h : chkS (n + 1) c s x = true) : SSt L G b X s x := by
  intro env st ct env' st' ev σ H fx cm W S hb D q
  have J := all_snd L G k n
  cases x with
  | asg g x =>
    simp only [chkS] at h
    split at h
    · simp only [Bool.and_eq_true] at h
      exact s_asg C h.1.1.1 h.1.1.2 h.1.2 h.2 ev W S hb q
    · cases h
  | par i j x y =>
    simp only [chkS] at h
    split at h
    · rename_i na pa nb pb l r
      simp only [Bool.and_eq_true, decide_eq_true_eq] at h
      obtain ⟨⟨⟨⟨⟨⟨h1, h2⟩, h3⟩, h4⟩, h5⟩, h6⟩, h7⟩ := h
      simp only [exS] at ev
      obtain ⟨r1, s1, e1, ev⟩ := Out.bind_is ev
      obtain ⟨r2, s2, e2, ev⟩ := Out.bind_is ev
      simp only [Out.ok.injEq, Prod.mk.injEq] at ev
      obtain ⟨⟨rfl, rfl⟩, rfl⟩ := ev
      have h5' := h5
      unfold swapOk at h5'
      simp only [Bool.and_eq_true, decide_eq_true_eq, Bool.not_eq_true'] at h5'
      obtain ⟨⟨⟨⟨⟨⟨q1, q2⟩, q3⟩, q4⟩, q5⟩, q6⟩, q7⟩ := h5'
      intro pins s Iv
      refine (ps_par C.calm (by rw [C.hN]; exact C.nd) (by rw [C.hN]; exact h1) (by rw [C.hN]; exact h2) h3 (by rw [C.hs]; exact q1) (by rw [C.hs]; exact q2) (pa_cons pe_w (pa_cons pe_w pa_nil (star_of q5)) (star_of q4)) (swap_is Iv.ok.kind C.hs h5 h4)).run pins s σ H D Iv ?_
      refine (J.e C h6).use e1 W S hb fun v H1 cm1 p1 W1 v1 => ?_
      refine (J.e C h7).use e2 W1 (S.step p1.step) (p1.ble hb) fun w H2 cm2 p2 W2 v2 => ?_
      exact ⟨v, w, rfl, q _ H2 cm2 (p1.trans p2) W2 (((S.step (p1.trans p2).step).set (v1.step p2.step) i).set v2 j)⟩
    · cases h
  | aug i o x =>
    simp only [chkS] at h
    split at h
    · rename_i nm np p e pos
      simp only [Bool.and_eq_true, decide_eq_true_eq] at h
      obtain ⟨⟨⟨h1, h2⟩, h3⟩, h4⟩ := h
      subst h3
      simp only [exS] at ev
      split at ev
      · rename_i m hm
        obtain ⟨r1, s1, e1, ev⟩ := Out.bind_is ev
        split at ev
        · rename_i m2 hr
          split at ev
          · rename_i kk hk
            split at ev
            · rename_i ho
              simp only [Out.ok.injEq, Prod.mk.injEq] at ev
              obtain ⟨⟨rfl, rfl⟩, rfl⟩ := ev
              obtain ⟨v, hv, rv⟩ := S.at_ _ _ hm
              cases rv
              have l := C.loc h2
              have fin : ∀ H1 cm1, Stp b H cm st H1 cm1 s1 → Valid L H1 (fx ++ cm1) cm1 s1 → D.nx (σ.set i (some (.int kk))) H1 := fun H1 cm1 p1 W1 => q _ H1 cm1 p1 W1 ((S.step p1.step).set (.int kk) i)
              rcases ho with rfl | rfl
              · simp only [intOp, Option.some.injEq] at hk
                subst hk
                refine wS_of (ps_aug (op := .Add) (by rw [C.hN]; exact C.nd) (by rw [C.hN]; exact h1) l.1 pe_w ip_add l.2) ⟨_, hv, ?_⟩
                refine (J.e C h4).use e1 W S hb fun v H1 cm1 p1 W1 v1 => ?_
                rw [hr] at v1
                cases v1
                exact ⟨_, _, rfl, rfl, fin H1 cm1 p1 W1⟩
              · simp only [intOp, Option.some.injEq] at hk
                subst hk
                refine wS_of (ps_aug (op := .Sub) (by rw [C.hN]; exact C.nd) (by rw [C.hN]; exact h1) l.1 pe_w ip_sub l.2) ⟨_, hv, ?_⟩
                refine (J.e C h4).use e1 W S hb fun v H1 cm1 p1 W1 v1 => ?_
                rw [hr] at v1
                cases v1
                exact ⟨_, _, rfl, rfl, fin H1 cm1 p1 W1⟩
            · cases ev
          · cases ev
        · cases ev
      · cases ev
    · cases h
  | expr x =>
    simp only [chkS] at h
    split at h
    · simp only [Bool.and_eq_true] at h
      simp only [exS] at ev
      obtain ⟨r, s1, e1, ev⟩ := Out.bind_is ev
      simp only [Out.ok.injEq, Prod.mk.injEq] at ev
      obtain ⟨⟨rfl, rfl⟩, rfl⟩ := ev
      refine wS_of (ps_expr pe_w (swap_of h.1)) ?_
      exact (J.e C h.2).use e1 W S hb fun v H1 cm1 p1 W1 r1 => q σ H1 cm1 p1 W1 (S.step p1.step)
    · cases h
  | ret x =>
    simp only [chkS] at h
    split at h
    · simp only [exS] at ev
      obtain ⟨r, s1, e1, ev⟩ := Out.bind_is ev
      simp only [Out.ok.injEq, Prod.mk.injEq] at ev
      obtain ⟨⟨rfl, rfl⟩, rfl⟩ := ev
      exact wS_of (ps_ret pe_w) (J.e C h env st r s1 e1 σ H fx cm W S hb _ fun v H' cm' po => q v H' cm' po)
    · cases h
  | retF x =>
    simp only [chkS] at h
    split at h
    · simp only [exS] at ev
      obtain ⟨r, s1, e1, ev⟩ := Out.bind_is ev
      split at ev
      · simp only [Out.ok.injEq, Prod.mk.injEq] at ev
        obtain ⟨⟨rfl, rfl⟩, rfl⟩ := ev
        exact wS_of (ps_ret pe_w) ((J.e C h).use e1 W S hb fun v H' cm' p1 W1 r1 => q v H' cm' p1 W1 r1)
      · cases ev
    · cases h
  | retN =>
    simp only [chkS] at h
    split at h
    · simp only [exS, Out.ok.injEq, Prod.mk.injEq] at ev
      obtain ⟨⟨rfl, rfl⟩, rfl⟩ := ev
      exact wS_of ps_retN (q .non H cm (po_val W .non))
    · cases h
  | ifs t a d =>
    simp only [chkS] at h
    split at h
    · simp only [Bool.and_eq_true] at h
      simp only [exS] at ev
      obtain ⟨kk, s1, e1, ev⟩ := Out.bind_is ev
      refine wS_of (ps_if pt_w pss_w pss_w) ?_
      refine J.t C h.1.1 env st kk s1 e1 σ H fx cm W S hb _ fun H1 cm1 p1 W1 => ?_
      cases kk with
      | true => exact I.ss C h.1.2 env s1 ct env' st' ev σ H1 fx cm1 W1 (S.step p1.step) (p1.ble hb) D (q.after p1)
      | false => exact I.ss C h.2 env s1 ct env' st' ev σ H1 fx cm1 W1 (S.step p1.step) (p1.ble hb) D (q.after p1)
    · cases h
  | while_ t a =>
    simp only [chkS] at h
    split at h
    · simp only [Bool.and_eq_true] at h
      exact wS_of (ps_while C.passes pt_w pss_w) (while_read I C h.1 h.2 ev W S hb q)
    · cases h
  | for_ g it a =>
    simp only [chkS] at h
    split at h
    · simp only [Bool.and_eq_true] at h
      exact wS_of (ps_for C.passes C.calm pi_w pg_w pss_w (fold_of h.1.1.1)) (for_read I C h.1.1.2 h.1.2 h.2 ev W S hb q)
    · cases h
  | brk =>
    simp only [chkS] at h
    split at h
    · simp only [exS, Out.ok.injEq, Prod.mk.injEq] at ev
      obtain ⟨⟨rfl, rfl⟩, rfl⟩ := ev
      exact wS_of ps_break (q σ H cm .refl W S)
    · cases h
  | cont =>
    simp only [chkS] at h
    split at h
    · simp only [exS, Out.ok.injEq, Prod.mk.injEq] at ev
      obtain ⟨⟨rfl, rfl⟩, rfl⟩ := ev
      exact wS_of ps_continue (q σ H cm .refl W S)
    · cases h
  | pass =>
    simp only [chkS] at h
    split at h
    · simp only [exS, Out.ok.injEq, Prod.mk.injEq] at ev
      obtain ⟨⟨rfl, rfl⟩, rfl⟩ := ev
      exact wS_of ps_pass (q σ H cm .refl W S)
    · cases h
theorem all_sndS (L : Lk) (G : Glo) (k : Nat) : ∀ n, SndS L G k n
  | 0 => ⟨fun _ h => by simp [chkS] at h, fun _ h => by simp [chkSs] at h⟩
  | n + 1 =>
    have I := all_sndS L G k n
    ⟨ss_s I, ss_ss I⟩
end
end En

set_option Elab.async false
set_option linter.all false
set_option maxRecDepth 100000
set_option maxHeartbeats 2000000
namespace En
open PySem PySem.Spec PyProof.Rows L2
section
variable {L : Lk} {H : Hp} {fb cm : List Addr}
/-- the own cells go -/
theorem Valid.cut {ex fb' : List Addr} {st : Store} (W : Valid L H fb (cm ++ ex) st) (old : OldOk cm.length st) (h1 : ∀ a ∈ fb', a ∈ fb) (h2 : ∀ a ∈ cm, a ∈ fb') : Valid L H fb' cm (st.take cm.length) := by
  have hl := W.len
  rw [List.length_append] at hl
  refine ⟨by rw [List.length_take]; omega, (List.nodup_append.mp W.nd).1, h2, fun a m => W.trk a (h1 a m), fun n o e => ?_⟩
  have hn : n < cm.length := by
    have := (List.getElem?_eq_some_iff.mp e).1
    rw [List.length_take] at this
    omega
  rw [List.getElem?_take_of_lt hn] at e
  obtain ⟨a, h3, h4⟩ := W.cells n o e
  exact ⟨a, take_idx n a hn h3, (orep_narrow take_idx h4 (old n o hn e)).less h1⟩
theorem end_sound {fx : List Addr} {st s1 st' : Store} {c : Ctl} {env' : En.Env} {r : R} {Q : VK} (W : Valid L H (fx ++ cm) cm st) (e : endR st.length c s1 = .ok r st')
    (q : ∀ v H', Po L fx st.length H cm st v r H' cm st' → Q v H') : Cok L fx st.length H cm st env' s1 { nx := fun _ H' => Q .non H', rt := Q } c := by
  have hlen := W.len
  have base : ∀ {H' : Hp} {cm' : List Addr}, Stp st.length H cm st H' cm' s1 → ∃ ex, cm' = cm ++ ex ∧ (∀ a ∈ ex, H a = none) ∧ OldOk cm.length s1 ∧ Stp st.length H cm st H' cm (s1.take st.length) := fun {H' cm'} p => by
    obtain ⟨ex, rfl, hx⟩ := p.step.new
    refine ⟨ex, rfl, hx, ?_, ⟨p.step.ext, ⟨[], by simp, by simp⟩, p.step.trk⟩, fun b' hb' old n o hn e => ?_, ?_⟩
    · rw [hlen]; exact p.kp _ (Nat.le_refl _) W.old
    · rw [List.getElem?_take_of_lt (Nat.lt_of_lt_of_le hn hb')] at e
      exact p.kp b' hb' old n o hn e
    · rw [List.length_take]
      have := p.len
      omega
  have sub1 : ∀ {ex : List Addr}, ∀ a ∈ fx ++ cm, a ∈ fx ++ (cm ++ ex) := fun {ex} a m => by
    rw [← List.append_assoc]; exact List.mem_append_left _ m
  have val : ∀ {d : D}, c = .ret (.v d) → Cok L fx st.length H cm st env' s1 { nx := fun _ H' => Q .non H', rt := Q } c := fun {d} hc => by
    subst hc
    simp only [endR] at e
    split at e
    · rename_i hcb
      cases e
      intro v H' cm' po
      obtain ⟨p, W1, r1⟩ := po.d
      obtain ⟨ex, rfl, hx, old, p2⟩ := base p
      rw [← hlen] at hcb
      refine q v H' ⟨p2, by rw [← hlen]; exact W1.cut old sub1 fun a m => List.mem_append_right _ m, ?_⟩
      exact ((rep_narrow_ take_idx).1 r1 hcb).less sub1
    · cases e
  cases c with
  | nx =>
    simp only [endR, Out.ok.injEq] at e
    obtain ⟨rfl, rfl⟩ := e
    intro σ' H' cm' p W1 S1
    obtain ⟨ex, rfl, hx, old, p2⟩ := base p
    refine q .non H' ⟨p2, ?_, .non⟩
    rw [← hlen]
    exact W1.cut old sub1 fun a m => List.mem_append_right _ m
  | bk => cases e
  | ct => cases e
  | ret r0 =>
    cases r0 with
    | v d => exact val rfl
    | n o =>
      simp only [endR] at e
      split at e
      · rename_i hcb
        cases e
        intro v H' cm' po
        obtain ⟨p, a, rfl, hp, hn, W1, o1⟩ := po
        obtain ⟨ex, rfl, hx, old, p2⟩ := base p
        have s2 : ∀ z ∈ fx ++ cm ++ [a], z ∈ fx ++ (cm ++ ex) ++ [a] := fun z m => by
          rcases List.mem_append.mp m with m | m
          · exact List.mem_append_left _ (sub1 z m)
          · exact List.mem_append_right _ m
        refine q _ H' ⟨p2, a, rfl, hp, fun m => hn (sub1 a m), ?_, ?_⟩
        · rw [← hlen]
          exact W1.cut old s2 fun z m => List.mem_append_left _ (List.mem_append_right _ m)
        · rw [← hlen] at hcb
          exact (orep_narrow take_idx o1 hcb).less s2
      · cases e
  | retc n =>
    simp only [endR] at e
    split at e
    · rename_i o ho
      split at e
      · rename_i hcb
        simp only [Bool.and_eq_true, decide_eq_true_eq] at hcb
        cases e
        intro v H' cm' p W1 r1
        obtain ⟨ex, rfl, hx, old, p2⟩ := base p
        cases r1 with
        | @cell _ a hc =>
          have hn : ¬ n < cm.length := by rw [hlen]; omega
          have hex : a ∈ ex := by
            rw [List.getElem?_append_right (Nat.le_of_not_lt hn)] at hc
            exact List.mem_of_getElem? hc
          have s2 : ∀ z ∈ fx ++ cm ++ [a], z ∈ fx ++ (cm ++ ex) := fun z m => by
            rcases List.mem_append.mp m with m | m
            · exact sub1 z m
            · rw [List.mem_singleton.mp m]
              exact List.mem_append_right _ (List.mem_append_right _ hex)
          refine q _ H' ⟨p2, a, rfl, hx a hex, fun m => ?_, ?_, ?_⟩
          · obtain ⟨u, hu⟩ := W.trk a m
            rw [hx a hex] at hu
            cases hu
          · rw [← hlen]
            exact W1.cut old s2 fun z m => List.mem_append_left _ (List.mem_append_right _ m)
          · have o1 := W1.cell ho hc
            rw [← hlen] at hcb
            exact (orep_narrow take_idx o1 hcb.2).less s2
      · cases e
    · cases e
end
structure DI where
  x : Str
  st : Stmt
  N : List Str
  d : En.Def
structure TB where
  ds : List DI
  fns : List (Str × Nat)
  gls : List (Str × Nat)
  blt : List Str
  gl : Nat → D
  gd : Nat → List (Str × D)
  F : Nat
def TB.glo (T : TB) (f : Nat → List D → Store → Out R) : Glo := { fn := f, ini := fun _ _ _ _ => .no, gl := T.gl, gd := T.gd, me := fun _ _ => none, F := T.F }
def TB.den (T : TB) : Nat → Nat → List D → Store → Out R
  | 0 => fun _ _ _ => .no
  | k + 1 => fun j xs s => match T.ds[j]? with
    | some i => runF (T.glo (T.den k)) i.d xs s
    | none => .no
def DI.ps (i : DI) : List Str := i.N.take i.d.params
def TB.sc (T : TB) (i : DI) : SC := { N := i.N, sc := defScope i.st, fnc := fun _ => true, fns := T.fns, gls := T.gls, cls := [], blt := T.blt }
def scB (N P : List Str) (sc : Scope) : Bool :=
  decide (sc.kind = .function) && !sc.isCoroutine && !sc.isGenerator && decide N.Nodup && decide (N.take P.length = P) && P.all (fun x => decide (sc.names.lookup x = some .local) || decide (sc.names.lookup x = some .cell)) && sc.names.all (fun y => !decide (y.2 = .free))
theorem scope_by {N P : List Str} {sc : Scope} (h : scB N P sc = true) : FnScope N P sc := by
  unfold scB at h
  simp only [Bool.and_eq_true, Bool.not_eq_true', decide_eq_true_eq, List.all_eq_true, Bool.or_eq_true, decide_eq_false_iff_not] at h
  obtain ⟨⟨⟨⟨⟨⟨h1, h2⟩, h3⟩, h4⟩, h5⟩, h6⟩, h7⟩ := h
  exact ⟨h1, h2, h3, h4, h5, h6, h7⟩
def chkD (T : TB) (n : Nat) (i : DI) : Bool := scB i.N i.ps (defScope i.st) && decide (i.N.length = i.d.slots) && decide (i.d.params ≤ i.d.slots) && chkSs n (T.sc i) (defBody i.st) i.d.body
def chkT' (T : TB) (n : Nat) : Bool := T.fns.all (fun p => decide ((T.ds[p.2]?).map (·.x) = some p.1)) && T.ds.all (chkD T n)
/-- what the program's top has written -/
structure Txt (L : Lk) (T : TB) (w : World) (K : PySem.W.Frag) (mg : Str → Option Value) : Prop where
  hK : K = L.K
  df : ∀ i ∈ T.ds, ∃ f fd, mg i.x = some (.ref f) ∧ Fun K i.x i.x i.st f fd ∧ Binds K fd i.ps []
  gls : ∀ x j, (x, j) ∈ T.gls → ∃ u v, mg x = some u ∧ RelV v u ∧ ∀ (H : Hp) (fb cm : List Addr), Rep L H fb cm v (T.gl j)
  blt : ∀ x ∈ T.blt, mg x = none
  gd : GdOk L w T.gd
theorem env_start {L : Lk} {H : Hp} {fb cm : List Addr} {N : List Str} {d : En.Def} {vs : List V} {ds : List D} (h : Reps L H fb cm vs ds) (hN : N.length = d.slots) : Slots L H fb cm (envOf d ds) (L2.start N vs) := by
  have hl := h.length
  refine ⟨by simp [envOf, L2.start, hN, hl], fun i x e => ?_⟩
  unfold envOf at e
  by_cases hi : i < ds.length
  · rw [List.getElem?_append_left (by simpa using hi), List.getElem?_map] at e
    simp only [Option.map_eq_some_iff, Option.some.injEq, exists_eq_right] at e
    obtain ⟨v, h1, h2⟩ := h.get e
    refine ⟨v, ?_, h2⟩
    unfold L2.start
    rw [List.getElem?_append_left (by simpa [hl] using hi), List.getElem?_map, h1]
    rfl
  · rw [List.getElem?_append_right (by simp; omega), List.getElem?_replicate] at e
    split at e <;> cases e
section
variable {P : Program} {w : World} {K : PySem.W.Frag} {mg : Str → Option Value} {base : Heap} {L : Lk} {T : TB}
theorem tab_ok (X : Txt L T w K mg) {n : Nat} (c : chkT' T n = true) : ∀ (k : Nat) (j : Nat) (i : DI) (f : Addr) (fd : FuncData), T.ds[j]? = some i → Fun K i.x i.x i.st f fd → FnOk P w K mg base CX0 k f fd i.ps (spF L (T.den k j))
  | 0, j, i, f, fd, hj, F => ⟨fun vs H Q E z => (by obtain ⟨fx, ds, st, r, st', cm, e, _⟩ := z; cases e), fun A outer s H args us vs Q E hr he hb hv z => by obtain ⟨fx, ds, st, r, st', cm, e, _⟩ := z; cases e⟩
  | k + 1, j, i, f, fd, hj, F => by
    unfold chkT' at c
    simp only [Bool.and_eq_true, List.all_eq_true, decide_eq_true_eq] at c
    have ci := c.2 i (List.mem_of_getElem? hj)
    unfold chkD at ci
    simp only [Bool.and_eq_true, decide_eq_true_eq] at ci
    obtain ⟨⟨⟨c1, c2⟩, c3⟩, c4⟩ := ci
    have S := scope_by c1
    have ev : ∀ ds st r st', T.den (k + 1) j ds st = .ok r st' → ds.length = i.d.params ∧ ∃ ct env' s1, exSs (T.glo (T.den k)) st.length i.d.body (envOf i.d ds) st = .ok (ct, env') s1 ∧ endR st.length ct s1 = .ok r st' := fun ds st r st' e => by
      simp only [TB.den, hj, runF] at e
      split at e
      · rename_i hl
        obtain ⟨⟨ct, env'⟩, s1, e1, e2⟩ := Out.bind_is e
        exact ⟨hl, ct, env', s1, e1, e2⟩
      · cases e
    refine F.ok S (fun vs H Q E ⟨fx, ds, st, r, st', cm, e, W, rs, _⟩ => ?_) fun cdv A outer s H vs Q E hr ⟨fx, ds, st, r, st', cm, e, W, rs, q⟩ => ⟨_, pss_w, ?_⟩
    · rw [rs.length, (ev _ _ _ _ e).1, DI.ps, List.length_take, c2]
      omega
    · obtain ⟨hl, ct, env', s1, e1, e2⟩ := ev _ _ _ _ e
      have C : CtxOk L (T.glo (T.den k)) k (cxOf CX0 P w K mg base i.N i.x (defScope i.st) f cdv A outer s H E).nox (T.sc i) := {
        hN := rfl
        nd := S.nd
        hs := rfl
        fn := rfl
        calm := rfl
        room := hr
        xe := rfl
        hK := X.hK
        fns := fun x j' m => by
          have hx := c.1 (x, j') m
          simp only [Option.map_eq_some_iff] at hx
          obtain ⟨i', hj', rfl⟩ := hx
          obtain ⟨f', fd', m1, F', B'⟩ := X.df i' (List.mem_of_getElem? hj')
          exact ⟨f', fd', i'.ps, m1, F'.kp, B', tab_ok X (n := n) (by unfold chkT'; simp only [Bool.and_eq_true, List.all_eq_true, decide_eq_true_eq]; exact c) k j' i' f' fd' hj' F'⟩
        gls := X.gls
        blt := X.blt
        gd := X.gd }
      exact (all_sndS L (T.glo (T.den k)) k n).ss C c4 (envOf i.d ds) st ct env' s1 e1 (L2.start i.N vs) H fx cm W (env_start rs c2) (Nat.le_refl _) _ (end_sound W e2 q)
/-- lists of the text have no slots -/
def noSlots (K : PySem.W.Frag) : Bool := K.all fun p => match p.2.cls with
  | .type n => !(n == "list") || p.2.slots.isEmpty
  | _ => true
theorem look_all {K : PySem.W.Frag} {a : Addr} {o : Obj} {q : Addr × Obj → Bool} : K.all q = true → K.lookup a = some o → q (a, o) = true := by
  induction K with
  | nil => intro _ h; cases h
  | cons p K ih =>
    intro h e
    simp only [List.all_cons, Bool.and_eq_true] at h
    obtain ⟨b, u⟩ := p
    rw [List.lookup_cons] at e
    by_cases hb : a = b
    · subst hb
      simp only [beq_self_eq_true, Option.some.injEq] at e
      subst e
      exact h.1
    · have : (a == b) = false := by simpa using hb
      rw [this] at e
      exact ih h.2 e
def spLaw (K : PySem.W.Frag) (n : Nat) : Sp := fun vs H Q _ => ∃ (a : Addr) (ns : List Int), vs = [.ref a] ∧ SqL K H a (ns.map V.int) ∧ ns.length ≤ n ∧ ∀ H', Q (.bl true) H'
theorem Reps.ints {H : Hp} {fb cm : List Addr} : ∀ ns : List Int, Reps L H fb cm (ns.map V.int) (ns.map D.int)
  | [] => .nil
  | i :: ns => .cons (.int i) (Reps.ints ns)
theorem law_ok (X : Txt L T w K mg) {n k j m : Nat} (c : chkT' T n = true) (hs : noSlots K = true) {i : DI} {f : Addr} {fd : FuncData} (hj : T.ds[j]? = some i) (F : Fun K i.x i.x i.st f fd)
    (math : ∀ ns : List Int, ns.length ≤ m → ∃ s, T.den k j [.lst (ns.map .int)] [] = .ok (.v (.bl true)) s) : FnOk P w K mg base CX0 k f fd i.ps (spLaw K m) := by
  refine (tab_ok X c k j i f fd hj F).imp fun vs H Q E ⟨a, ns, e1, hS, hl, q⟩ => ?_
  subst e1
  obtain ⟨s, ev⟩ := math ns hl
  have W : Valid L H ([] ++ []) [] [] := ⟨rfl, .nil, (fun a m => nomatch m), (fun a m => nomatch m), fun n o e => by simp at e⟩
  refine ⟨[], [.lst (ns.map .int)], [], .v (.bl true), s, [], ev, W, .one ?_, fun v H' po => ?_⟩
  · rcases hS with z | ⟨o, its, nn, h1, h2, h3, h4, h5, h6⟩
    · exact .lst (by simp) z (Reps.ints ns)
    · refine .kl ⟨its, nn, ?_, h5, h6⟩ (Reps.ints ns)
      have hz := look_all hs h1
      obtain ⟨c, d, da, sl⟩ := o
      cases h2; cases h3; cases h4
      simp at hz
      subst hz
      rw [← X.hK]
      exact h1
  · obtain ⟨_, _, r⟩ := po
    cases r
    exact q H'
end
end En

set_option Elab.async false
set_option linter.all false
set_option maxRecDepth 100000
set_option maxHeartbeats 4000000
namespace En
open PySem PySem.Spec PyProof.Rows L2
def cDraw : En.Def := { slots := 4, params := 2, body :=
    (.cons (.ifs (.e (.cmp .gt (.ix (.var 0) (.int 1)) (.int 1))) (.cons (.asg (.name 2) (.op .mod (.blt .int1 (.cons (.ix (.var 0) (.int 1)) .nil)) (.var 1)))
    (.cons (.asg (.sub (.var 0) (.int 1)) (.op .fdiv (.ix (.var 0) (.int 1)) (.var 1)))
    (.cons (.ret (.var 2))
    .nil))) .nil)
    (.cons (.asg (.sub (.var 0) (.int 2)) (.op .add (.ix (.var 0) (.int 2)) (.int 1)))
    (.cons (.asg (.name 3) (.op .mod (.blt .int1 (.cons (.op .add (.op .mod (.blt .int1 (.cons (.ix (.var 0) (.int 0)) .nil)) (.int 2147483647)) (.op .mul (.int 69621) (.ix (.var 0) (.int 2)))) .nil)) (.int 2147483647)))
    (.cons (.asg (.name 3) (.op .mod (.blt .int1 (.cons (.op .add (.op .add (.op .mul (.var 3) (.var 3)) (.op .mul (.int 48271) (.ix (.var 0) (.int 2)))) (.int 11)) .nil)) (.int 2147483629)))
    (.cons (.asg (.name 3) (.op .mod (.blt .int1 (.cons (.op .add (.op .mul (.var 3) (.var 3)) (.op .mod (.blt .int1 (.cons (.ix (.var 0) (.int 0)) .nil)) (.int 1000003))) .nil)) (.int 2147483587)))
    (.cons (.ret (.op .mod (.blt .int1 (.cons (.var 3) .nil)) (.var 1)))
    .nil)))))) }
theorem at3_0 {α : Type} (x y z : α) : atI [x, y, z] 0 = some x := rfl
theorem at3_1 {α : Type} (x y z : α) : atI [x, y, z] 1 = some y := rfl
theorem at3_2 {α : Type} (x y z : α) : atI [x, y, z] 2 = some z := rfl
theorem ix3_1 : ixN 3 1 = some 1 := rfl
theorem ix3_2 : ixN 3 2 = some 2 := rfl
theorem fmod_nn (a : Int) {m : Int} (h : 0 < m) : 0 ≤ a.fmod m ∧ a.fmod m < m := by
  rw [Int.fmod_eq_emod_of_nonneg _ (Int.le_of_lt h)]
  exact ⟨Int.emod_nonneg _ (by omega), Int.emod_lt_of_pos _ h⟩
theorem intOp_add (i j : Int) : intOp .add i j = some (i + j) := rfl
theorem intOp_sub (i j : Int) : intOp .sub i j = some (i - j) := rfl
theorem cmul_l {i : Int} (j : Int) (h1 : -18446744073709551616 < i) (h2 : i < 18446744073709551616) : CMulD i j = true := by
  unfold CMulD
  rw [decide_eq_true_eq]
  left
  have : (2 : Int) ^ 64 = 18446744073709551616 := by decide
  omega
theorem intOp_mul {i j : Int} (h1 : -18446744073709551616 < i) (h2 : i < 18446744073709551616) : intOp .mul i j = some (i * j) := by
  simp only [intOp, cmul_l j h1 h2, if_true]
theorem intOp_mod (i : Int) {j : Int} (h : j ≠ 0) : intOp .mod i j = some (i.fmod j) := by simp [intOp, h]
theorem mul_fm (x y : Int) {m : Int} (h : 0 < m) (h2 : m < 4294967296) : intOp .mul (x.fmod m) y = some (x.fmod m * y) := by
  have := fmod_nn x h
  exact intOp_mul (by omega) (by omega)
def drawA (c t : Int) : Int := (c.fmod 2147483647 + 69621 * t).fmod 2147483647
def drawB (c t : Int) : Int := (drawA c t * drawA c t + 48271 * t + 11).fmod 2147483629
def drawC (c t : Int) : Int := (drawB c t * drawB c t + c.fmod 1000003).fmod 2147483587
theorem mul_A (c t y : Int) : intOp .mul (drawA c t) y = some (drawA c t * y) := mul_fm _ _ (by decide) (by decide)
theorem mul_B (c t y : Int) : intOp .mul (drawB c t) y = some (drawB c t * y) := mul_fm _ _ (by decide) (by decide)
theorem draw_run (G : Glo) {c r t m : Int} {s : Store} (hm : 0 < m) (hm2 : m < 1000000000) : ∃ g c' r' t' : Int, 0 ≤ g ∧ g < m ∧
    runF G cDraw [.cell 0, .int m] (.lst [.int c, .int r, .int t] :: s) = .ok (.v (.int g)) (.lst [.int c', .int r', .int t'] :: s) := by
  have hne : m ≠ 0 := by omega
  have hna : m.natAbs < 1073741824 := by omega
  by_cases hr : (1 : Int) < r
  · refine ⟨r.fmod m, c, r.fdiv m, t, (fmod_nn _ hm).1, (fmod_nn _ hm).2, ?_⟩
    simp [runF, cDraw, envOf, exSs, exS, evT, evE, evEs, asG, ixR, seqOf, at3_0, at3_1, at3_2, cmpR, intCmp, hr, tru, opR, intOp, bltR, hne, hna, setR, ix3_1, okW, cb, endR]
  · refine ⟨(drawC c (t + 1)).fmod m, c, r, t + 1, (fmod_nn _ hm).1, (fmod_nn _ hm).2, ?_⟩
    have m1 : ∀ y, intOp .mul 69621 y = some (69621 * y) := fun y => intOp_mul (by decide) (by decide)
    have m2 : ∀ y, intOp .mul 48271 y = some (48271 * y) := fun y => intOp_mul (by decide) (by decide)
    have eA : (c.fmod 2147483647 + 69621 * (t + 1)).fmod 2147483647 = drawA c (t + 1) := rfl
    have eB : (drawA c (t + 1) * drawA c (t + 1) + 48271 * (t + 1) + 11).fmod 2147483629 = drawB c (t + 1) := rfl
    have eC : (drawB c (t + 1) * drawB c (t + 1) + c.fmod 1000003).fmod 2147483587 = drawC c (t + 1) := rfl
    simp [runF, cDraw, envOf, exSs, exS, evT, evE, evEs, asG, ixR, seqOf, at3_0, at3_1, at3_2, cmpR, intCmp, hr, tru, opR, intOp_add, intOp_mod, m1, m2, mul_A, mul_B, eA, eB, eC, bltR, hne, hna, setR, ix3_2, okW, cb, endR]

def cPool : En.Def := { slots := 4, params := 2, body :=
    (.cons (.asg (.name 2) (.int 0))
    (.cons (.ifs (.e (.cmp .lt (.var 1) (.blt .len (.cons (.var 0) .nil)))) (.cons (.asg (.name 2) (.blt .abs (.cons (.blt .int1 (.cons (.ix (.var 0) (.var 1)) .nil)) .nil)))
    .nil) .nil)
    (.cons (.asg (.name 3) (.int 0))
    (.cons (.ifs (.e (.cmp .ge (.var 2) (.op .pow (.int 10) (.int 18)))) (.cons (.asg (.name 3) (.var 2))
    .nil) .nil)
    (.cons (.ret (.lst (.cons (.var 2) (.cons (.var 3) (.cons (.int 0) .nil)))))
    .nil))))) }
theorem cbs_ints (b : Nat) (ns : List Int) : cbs b (ns.map D.int) = true := by
  induction ns with
  | nil => rfl
  | cons n ns ih => simp [cbs, cb, ih]
theorem pool_run (G : Glo) {ns : List Int} {p : Nat} : ∃ c r : Int, runF G cPool [.lst (ns.map .int), .int p] [] = .ok (.n (.lst [.int c, .int r, .int 0])) [] := by
  have hp : intOp .pow 10 18 = some 1000000000000000000 := by decide +kernel
  by_cases h : p < ns.length
  · have hi : (p : Int) < ((ns.length : Nat) : Int) := by omega
    have ha : atI (ns.map D.int) (p : Int) = some (.int ns[p]) := atI_nat (by rw [List.getElem?_map, List.getElem?_eq_getElem h]; rfl)
    generalize hc : (if ns[p] < 0 then -ns[p] else ns[p]) = c
    by_cases h2 : (1000000000000000000 : Int) ≤ c
    · exact ⟨c, c, by simp [runF, cPool, envOf, exSs, exS, evT, evE, evEs, asG, ixR, seqOf, ha, hi, cmpR, intCmp, lenD, tru, opR, hp, bltR, endR, hc, h2, cbO, cbs, cb]⟩
    · exact ⟨c, 0, by simp [runF, cPool, envOf, exSs, exS, evT, evE, evEs, asG, ixR, seqOf, ha, hi, cmpR, intCmp, lenD, tru, opR, hp, bltR, endR, hc, h2, cbO, cbs, cb]⟩
  · have hi : ¬ (p : Int) < ((ns.length : Nat) : Int) := by omega
    exact ⟨0, 0, by simp [runF, cPool, envOf, exSs, exS, evT, evE, evEs, asG, ixR, seqOf, hi, cmpR, intCmp, lenD, tru, opR, hp, bltR, endR, cbO, cbs, cb]⟩
/-- a def draws -/
def DrawOk (f : List D → Store → Out R) : Prop := ∀ (c r t m : Int) (s : Store), 0 < m → m < 1000000000 → ∃ g c' r' t' : Int, 0 ≤ g ∧ g < m ∧ f [.cell 0, .int m] (.lst [.int c, .int r, .int t] :: s) = .ok (.v (.int g)) (.lst [.int c', .int r', .int t'] :: s)
theorem draw_call {f : List D → Store → Out R} (h : DrawOk f) (c r t m : Int) (s : Store) (hm : 0 < m) (hm2 : m < 1000000000) :
    ∃ g c' r' t' : Int, 0 ≤ g ∧ g < m ∧ callR f [.cell 0, .int m] (.lst [.int c, .int r, .int t] :: s) = .ok (.v (.int g)) (.lst [.int c', .int r', .int t'] :: s) := by
  obtain ⟨g, c', r', t', h1, h2, h3⟩ := h c r t m s hm hm2
  exact ⟨g, c', r', t', h1, h2, by simp [callR, cbs, cb, h3]⟩
def cPick (jd : Nat) : En.Def := { slots := 2, params := 2, body :=
    (.cons (.ret (.ix (.var 1) (.call jd (.cons (.var 0) (.cons (.blt .len (.cons (.var 1) .nil)) .nil)))))
    .nil) }
theorem atI_mem {α : Type} {xs : List α} {g : Int} (h1 : 0 ≤ g) (h2 : g < xs.length) : ∃ d, atI xs g = some d ∧ d ∈ xs := by
  obtain ⟨n, rfl⟩ := Int.eq_ofNat_of_zero_le h1
  have hn : n < xs.length := by omega
  exact ⟨xs[n], atI_nat (List.getElem?_eq_getElem hn), List.getElem_mem hn⟩
theorem pick_run (G : Glo) {jd : Nat} (hd : DrawOk (G.fn jd)) {c r t : Int} {s : Store} {row : List D} (h0 : 0 < row.length) (h1 : row.length < 1000000000) (hc : cbs (s.length + 1) row = true) :
    ∃ d c' r' t', d ∈ row ∧ runF G (cPick jd) [.cell 0, .lst row] (.lst [.int c, .int r, .int t] :: s) = .ok (.v d) (.lst [.int c', .int r', .int t'] :: s) := by
  obtain ⟨g, c', r', t', g1, g2, e⟩ := draw_call hd c r t row.length s (by omega) (by omega)
  obtain ⟨d, ha, hm⟩ := atI_mem g1 g2
  refine ⟨d, c', r', t', hm, ?_⟩
  have hcd := cbs_iff.mp hc d hm
  simp [runF, cPick, envOf, exSs, exS, evE, evEs, bltR, lenD, seqOf, e, ixR, ha, endR, hcd]
def cOrderB (jd : Nat) : ISs := .cons (.expr (.mt .append (.var 3) (.cons (.mt .popAt (.var 2) (.cons (.call jd (.cons (.var 0) (.cons (.blt .len (.cons (.var 2) .nil)) .nil))) .nil)) .nil))) .nil
def cOrder (jd : Nat) : En.Def := { slots := 5, params := 2, body :=
    (.cons (.asg (.name 2) (.mu (.blt .list (.cons (.var 1) .nil))))
    (.cons (.asg (.name 3) (.mu (.lst .nil)))
    (.cons (.for_ (.name 4) (.rng1 (.blt .len (.cons (.var 1) .nil))) (cOrderB jd))
    (.cons (.retF (.var 3))
    .nil)))) }
theorem ss_cons {G : Glo} {b : Nat} {x : IS} {xs : ISs} {e e1 : En.Env} {s s1 : Store} (h : exS G b x e s = .ok (.nx, e1) s1) : exSs G b (.cons x xs) e s = exSs G b xs e1 s1 := by
  simp only [exSs, h, Out.bind_ok]
theorem ss_ret {G : Glo} {b : Nat} {x : IS} {xs : ISs} {e e1 : En.Env} {s s1 : Store} {r : R} (h : exS G b x e s = .ok (.ret r, e1) s1) : exSs G b (.cons x xs) e s = .ok (.ret r, e1) s1 := by
  simp only [exSs, h, Out.bind_ok]
theorem ss_retc {G : Glo} {b : Nat} {x : IS} {xs : ISs} {e e1 : En.Env} {s s1 : Store} {n : Nat} (h : exS G b x e s = .ok (.retc n, e1) s1) : exSs G b (.cons x xs) e s = .ok (.retc n, e1) s1 := by
  simp only [exSs, h, Out.bind_ok]
theorem s_for {G : Glo} {b : Nat} {g : IG} {it : II} {a : ISs} {e : En.Env} {s s1 : Store} {ds : List D} {o : Out (Ctl × En.Env)} (h : evI G b it e s = .ok (.l ds) s1)
    (h2 : forL (fun d e1 s2 => (asG G b g d e1 s2).bind fun e2 s3 => exSs G b a e2 s3) ds e s1 = o) : exS G b (.for_ g it a) e s = o := by
  simp only [exS, h, Out.bind_ok, h2]
theorem run_of {G : Glo} {d : En.Def} {xs : List D} {s s1 s' : Store} {c : Ctl} {e' : En.Env} {r : R} (hl : xs.length = d.params) (h : exSs G s.length d.body (envOf d xs) s = .ok (c, e') s1) (h2 : endR s.length c s1 = .ok r s') : runF G d xs s = .ok r s' := by
  simp only [runF, if_pos hl, h, Out.bind_ok, h2]
theorem forL_inv {f : D → En.Env → Store → Out (Ctl × En.Env)} (P : List D → En.Env → Store → Prop) : ∀ (ds : List D) (e : En.Env) (s : Store), P ds e s →
    (∀ d ds e s, P (d :: ds) e s → ∃ e' s', f d e s = .ok (.nx, e') s' ∧ P ds e' s') → ∃ e' s', forL f ds e s = .ok (.nx, e') s' ∧ P [] e' s'
  | [], e, s, h, _ => ⟨e, s, rfl, h⟩
  | d :: ds, e, s, h, st => by
    obtain ⟨e1, s1, h1, h2⟩ := st d ds e s h
    obtain ⟨e2, s2, h3, h4⟩ := forL_inv P ds e1 s1 h2 st
    exact ⟨e2, s2, by simp [forL, h1, Ctl.goes, h3], h4⟩
theorem app_0 {α : Type} (s : List α) (a : α) (r : List α) : (s ++ a :: r)[s.length]? = some a := by simp
theorem app_1 {α : Type} (s : List α) (a b : α) (r : List α) : (s ++ a :: b :: r)[s.length + 1]? = some b := by
  rw [List.getElem?_append_right (by omega)]
  have : s.length + 1 - s.length = 1 := by omega
  rw [this]
  rfl
theorem set_0 {α : Type} (s : List α) (a x : α) (r : List α) : (s ++ a :: r).set s.length x = s ++ x :: r := by
  rw [List.set_append_right _ _ (by omega)]
  simp
theorem set_1 {α : Type} (s : List α) (a b x : α) (r : List α) : (s ++ a :: b :: r).set (s.length + 1) x = s ++ a :: x :: r := by
  rw [List.set_append_right _ _ (by omega)]
  have : s.length + 1 - s.length = 1 := by omega
  rw [this]
  rfl
theorem ixN_lt {n : Nat} {g : Int} (h1 : 0 ≤ g) (h2 : g < n) : ixN n g = some g.toNat := by
  obtain ⟨k, rfl⟩ := Int.eq_ofNat_of_zero_le h1
  unfold ixN
  have : ¬ (k : Int) < 0 := by omega
  simp [this]
  omega
theorem erase_perm {α : Type} : ∀ (xs : List α) (n : Nat) (h : n < xs.length), List.Perm ([xs[n]] ++ xs.eraseIdx n) xs
  | x :: xs, 0, _ => by simp
  | x :: xs, n + 1, h => by
    have h' : n < xs.length := by simpa using h
    have := erase_perm xs n h'
    simp only [List.getElem_cons_succ, List.eraseIdx_cons_succ, List.singleton_append] at this ⊢
    exact (List.Perm.swap _ _ _).trans (List.Perm.cons _ this)
end En

set_option Elab.async false
set_option linter.all false
set_option maxRecDepth 100000
set_option maxHeartbeats 4000000
namespace En
open PySem PySem.Spec PyProof.Rows L2
theorem popAt_run {gd : Nat → List (Str × D)} {b n : Nat} {s : Store} {ds : List D} {g : Int} (h : s[n]? = some (.lst ds)) (g1 : 0 ≤ g) (g2 : g < ds.length) (hb : b ≤ n) (hl : ds.length ≤ 100000) :
    ∃ hg : g.toNat < ds.length, mtR gd b .popAt (.cell n) [.int g] s = .ok (.v ds[g.toNat]) (s.set n (.lst (ds.eraseIdx g.toNat))) := by
  have hg : g.toNat < ds.length := by omega
  have hgl : decide (-(2 ^ 63) ≤ g ∧ g < 2 ^ 63) = true := by
    rw [decide_eq_true_eq]
    have : (2 : Int) ^ 63 = 9223372036854775808 := by decide
    omega
  have el : (ds.eraseIdx g.toNat).length = ds.length - 1 := List.length_eraseIdx_of_lt hg
  have z1 : decide ((ds.eraseIdx g.toNat).length ≤ 100000) = true := by rw [decide_eq_true_eq]; omega
  have z2 : okW b n .non = true := by simp [okW, hb]
  refine ⟨hg, ?_⟩
  simp only [mtR, onLst, h, hgl, if_true, ixN_lt g1 g2, Option.bind_some, List.getElem?_eq_getElem hg, Option.map_some, z1, z2, Bool.and_self]
theorem append_run {gd : Nat → List (Str × D)} {b n : Nat} {s : Store} {ds : List D} {d : D} (h : s[n]? = some (.lst ds)) (hw : okW b n d = true) (hl : ds.length < 100000) :
    mtR gd b .append (.cell n) [d] s = .ok (.v .non) (s.set n (.lst (ds ++ [d]))) := by
  have z1 : decide ((ds ++ [d]).length ≤ 100000) = true := by rw [decide_eq_true_eq, List.length_append, List.length_singleton]; omega
  simp only [mtR, onLst, h, z1, hw, Bool.and_self, if_true]
theorem okW_own {b n : Nat} (d : D) (h : b ≤ n) : okW b n d = true := by simp [okW, h]
theorem isLst_cell {s : Store} {n : Nat} {ds : List D} (h : s[n]? = some (.lst ds)) : isLst s (.cell n) = true := by simp [isLst, seqOf, h]
theorem len_cell {s : Store} {n : Nat} {ds : List D} (h : s[n]? = some (.lst ds)) : bltR .len [.cell n] s = some (.v (.int ((ds.length : Nat) : Int))) := by simp [bltR, lenD, seqOf, h]
theorem len_lst {s : Store} {ds : List D} : bltR .len [.lst ds] s = some (.v (.int ((ds.length : Nat) : Int))) := by simp [bltR, lenD, seqOf]
theorem rng_ok {n : Nat} (h : n < 1000000000000000000) : decide (-(2 ^ 62) ≤ ((n : Nat) : Int) ∧ ((n : Nat) : Int) < 2 ^ 62) = true := by
  rw [decide_eq_true_eq]
  have : (2 : Int) ^ 62 = 4611686018427387904 := by decide
  omega
section
variable {G : Glo} {b : Nat} {e : En.Env} {s s1 s2 : Store}
theorem e_var {i : Nat} {d : D} (h : e[i]? = some (some d)) : evE G b (.var i) e s = .ok (.v d) s := by simp only [evE, h]
theorem e_blt {f : Blt} {es : IEs} {xs : List D} {r : R} (h : evEs G b es e s = .ok xs s1) (h2 : bltR f xs s1 = some r) : evE G b (.blt f es) e s = .ok r s1 := by simp only [evE, h, Out.bind_ok, h2, Out.of_some]
theorem e_call {j : Nat} {es : IEs} {xs : List D} {o : Out R} (h : evEs G b es e s = .ok xs s1) (h2 : callR (G.fn j) xs s1 = o) : evE G b (.call j es) e s = o := by simp only [evE, h, Out.bind_ok, h2]
theorem e_mt {m : Mt} {a : IE} {es : IEs} {x : R} {xs : List D} {o : Out R} (h : evE G b a e s = .ok x s1) (h1 : isLst s1 x.d = true) (h2 : evEs G b es e s1 = .ok xs s2) (h3 : mtR G.gd b m x.d xs s2 = o) : evE G b (.mt m a es) e s = o := by
  simp only [evE, h, Out.bind_ok, h1, if_true, h2, h3]
theorem es_nil : evEs G b .nil e s = .ok [] s := rfl
theorem es_cons {a : IE} {es : IEs} {x : R} {xs : List D} (h : evE G b a e s = .ok x s1) (h2 : evEs G b es e s1 = .ok xs s2) : evEs G b (.cons a es) e s = .ok (x.d :: xs) s2 := by simp only [evEs, h, Out.bind_ok, h2]
theorem s_expr {x : IE} {r : R} (h : evE G b x e s = .ok r s1) : exS G b (.expr x) e s = .ok (.nx, e) s1 := by simp only [exS, h, Out.bind_ok]
theorem i_rng1 {a : IE} {r : R} {n : Nat} (h : evE G b a e s = .ok r s1) (hr : r.d = .int ((n : Nat) : Int)) (hn : n < 1000000000000000000) : evI G b (.rng1 a) e s = .ok (.l (rngL 0 n)) s1 := by
  simp only [evI, h, Out.bind_ok, hr, rng_ok hn, if_true]
  rfl
end
theorem order_step (G : Glo) {jd : Nat} (hd : DrawOk (G.fn jd)) {c r t : Int} {s : Store} {row left done : List D} {d : D} {x : Option D} {ds : List D} (h1 : row.length < 100000) (hc : cbs 0 row = true) (hl : left.length = ds.length + 1) (hp : List.Perm (done ++ left) row) :
    ∃ (left' done' : List D) (x' : Option D) (c' r' t' : Int), left'.length = ds.length ∧ List.Perm (done' ++ left') row ∧
      ((asG G (s.length + 1) (.name 4) d [some (.cell 0), some (.lst row), some (.cell (s.length + 1)), some (.cell (s.length + 1 + 1)), x] (.lst [.int c, .int r, .int t] :: (s ++ [.lst left, .lst done]))).bind fun e2 s3 => exSs G (s.length + 1) (cOrderB jd) e2 s3) =
        .ok (.nx, [some (.cell 0), some (.lst row), some (.cell (s.length + 1)), some (.cell (s.length + 1 + 1)), x']) (.lst [.int c', .int r', .int t'] :: (s ++ [.lst left', .lst done'])) := by
  have hlen := hp.length_eq
  rw [List.length_append] at hlen
  obtain ⟨g, c', r', t', g1, g2, e⟩ := draw_call hd c r t left.length (s ++ [.lst left, .lst done]) (by omega) (by omega)
  have gl : ∀ P : O, (P :: (s ++ [.lst left, .lst done]))[s.length + 1]? = some (.lst left) := fun P => by rw [List.getElem?_cons_succ]; exact app_0 _ _ _
  obtain ⟨hg, e3⟩ := popAt_run (gd := G.gd) (b := s.length + 1) (gl (.lst [.int c', .int r', .int t'])) g1 g2 (Nat.le_refl _) (by omega)
  have el : (left.eraseIdx g.toNat).length = left.length - 1 := List.length_eraseIdx_of_lt hg
  refine ⟨left.eraseIdx g.toNat, done ++ [left[g.toNat]], some d, c', r', t', by rw [el]; omega, ?_, ?_⟩
  · rw [List.append_assoc]
    refine List.Perm.trans (List.Perm.append_left _ ?_) hp
    exact erase_perm left g.toNat hg
  · rw [List.set_cons_succ, set_0] at e3
    have gd : ∀ P : O, (P :: (s ++ [.lst (left.eraseIdx g.toNat), .lst done]))[s.length + 1 + 1]? = some (.lst done) := fun P => by rw [List.getElem?_cons_succ]; exact app_1 _ _ _ _
    have gd0 : ∀ P : O, (P :: (s ++ [.lst left, .lst done]))[s.length + 1 + 1]? = some (.lst done) := fun P => by rw [List.getElem?_cons_succ]; exact app_1 _ _ _ _
    have e4 := append_run (gd := G.gd) (b := s.length + 1) (gd (.lst [.int c', .int r', .int t'])) (okW_own left[g.toNat] (Nat.le_succ _)) (by omega)
    rw [List.set_cons_succ, set_1] at e4
    show exSs G (s.length + 1) (cOrderB jd) [some (.cell 0), some (.lst row), some (.cell (s.length + 1)), some (.cell (s.length + 1 + 1)), some d] _ = _
    refine (ss_cons (s_expr (e_mt (e_var rfl) (isLst_cell (gd0 _)) (es_cons (e_mt (e_var rfl) (isLst_cell (gl _)) (es_cons (e_call (es_cons (e_var rfl) (es_cons (e_blt (es_cons (e_var rfl) es_nil) (len_cell (gl _))) es_nil)) e) es_nil) e3) es_nil) e4))).trans ?_
    rfl
theorem order_run (G : Glo) {jd : Nat} (hd : DrawOk (G.fn jd)) {c r t : Int} {s : Store} {row : List D} (h1 : row.length < 100000) (hc : cbs 0 row = true) :
    ∃ ds c' r' t', List.Perm ds row ∧ runF G (cOrder jd) [.cell 0, .lst row] (.lst [.int c, .int r, .int t] :: s) = .ok (.n (.lst ds)) (.lst [.int c', .int r', .int t'] :: s) := by
  have key : ∃ e' s', forL (fun d e1 s2 => (asG G (s.length + 1) (.name 4) d e1 s2).bind fun e2 s3 => exSs G (s.length + 1) (cOrderB jd) e2 s3)
      (rngL 0 row.length) [some (.cell 0), some (.lst row), some (.cell (s.length + 1)), some (.cell (s.length + 1 + 1)), none] (.lst [.int c, .int r, .int t] :: (s ++ [.lst row, .lst []])) = .ok (.nx, e') s' ∧
      ∃ (left done : List D) (x : Option D) (c r t : Int), left.length = 0 ∧ List.Perm (done ++ left) row ∧ e' = [some (.cell 0), some (.lst row), some (.cell (s.length + 1)), some (.cell (s.length + 1 + 1)), x] ∧ s' = .lst [.int c, .int r, .int t] :: (s ++ [.lst left, .lst done]) := by
    refine forL_inv (fun ds e s' => ∃ (left done : List D) (x : Option D) (c r t : Int), left.length = ds.length ∧ List.Perm (done ++ left) row ∧ e = [some (.cell 0), some (.lst row), some (.cell (s.length + 1)), some (.cell (s.length + 1 + 1)), x] ∧ s' = .lst [.int c, .int r, .int t] :: (s ++ [.lst left, .lst done])) _ _ _ ?_ ?_
    · exact ⟨row, [], none, c, r, t, by rw [rngL_len], by simp, rfl, rfl⟩
    · rintro d ds e s' ⟨left, done, x, c, r, t, hl, hp, rfl, rfl⟩
      obtain ⟨left', done', x', c', r', t', q1, q2, q3⟩ := order_step G hd (c := c) (r := r) (t := t) (s := s) (d := d) (x := x) h1 hc hl hp
      exact ⟨_, _, q3, left', done', x', c', r', t', q1, q2, rfl, rfl⟩
  obtain ⟨e', s', hk, left, done, x, c', r', t', hl, hp, rfl, rfl⟩ := key
  have hl0 : left = [] := List.eq_nil_of_length_eq_zero hl
  subst hl0
  rw [List.append_nil] at hp
  refine ⟨done, c', r', t', hp, ?_⟩
  have hcd : cbs (s.length + 1) done = true := cbs_iff.mpr fun d m => cb_mono (Nat.zero_le _) d (cbs_iff.mp hc d (hp.mem_iff.mp m))
  refine run_of rfl (c := .retc (s.length + 1 + 1)) (e' := [some (.cell 0), some (.lst row), some (.cell (s.length + 1)), some (.cell (s.length + 1 + 1)), x]) (s1 := .lst [.int c', .int r', .int t'] :: (s ++ [.lst [], .lst done])) ?_ ?_
  · show exSs G (s.length + 1) _ [some (.cell 0), some (.lst row), none, none, none] _ = _
    refine (ss_cons (e1 := [some (.cell 0), some (.lst row), some (.cell (s.length + 1)), none, none]) (s1 := .lst [.int c, .int r, .int t] :: (s ++ [.lst row])) ?_).trans ?_
    · simp [exS, evE, evEs, asG, bltR, seqOf]
    refine (ss_cons (e1 := [some (.cell 0), some (.lst row), some (.cell (s.length + 1)), some (.cell (s.length + 1 + 1)), none]) (s1 := .lst [.int c, .int r, .int t] :: (s ++ [.lst row, .lst []])) ?_).trans ?_
    · simp [exS, evE, evEs, asG]
    refine (ss_cons (s_for (i_rng1 (e_blt (es_cons (e_var rfl) es_nil) len_lst) rfl (by omega)) hk)).trans ?_
    exact ss_retc (by simp [exS, evE])
  · simp [endR, app_1, cbO, hcd]
end En

set_option Elab.async false
set_option linter.all false
set_option maxRecDepth 100000
set_option maxHeartbeats 4000000
namespace En
open PySem PySem.Spec PyProof.Rows L2
section
variable {G : Glo} {b : Nat} {e e1 e2 : En.Env} {s s1 s2 s3 : Store}
theorem e_op {o : Op2} {a c : IE} {x y : R} {r : R} (h : evE G b a e s = .ok x s1) (h2 : evE G b c e s1 = .ok y s2) (h3 : opR o x.d y.d s2 = some r) : evE G b (.op o a c) e s = .ok r s2 := by
  simp only [evE, h, h2, Out.bind_ok, h3, Out.of_some]
theorem e_cmp {o : Cmp} {a c : IE} {x y : R} {k : Bool} (h : evE G b a e s = .ok x s1) (h2 : evE G b c e s1 = .ok y s2) (h3 : cmpR G.gd o x.d y.d s2 = some k) : evE G b (.cmp o a c) e s = .ok (.v (.bl k)) s2 := by
  simp only [evE, h, h2, Out.bind_ok, h3, Option.map_some, Out.of_some]
theorem e_ix {a c : IE} {x y : R} {r : R} (h : evE G b a e s = .ok x s1) (h2 : evE G b c e s1 = .ok y s2) (h3 : ixR G.gd x.d y.d s2 = some r) : evE G b (.ix a c) e s = .ok r s2 := by
  simp only [evE, h, h2, Out.bind_ok, h3, Out.of_some]
theorem e_tup {es : IEs} {xs : List D} (h : evEs G b es e s = .ok xs s1) (h2 : xs.length ≤ 100000) : evE G b (.tup es) e s = .ok (.v (.tup xs)) s1 := by
  simp only [evE, h, Out.bind_ok, h2, if_true]
theorem e_lst {es : IEs} {xs : List D} (h : evEs G b es e s = .ok xs s1) (h2 : xs.length ≤ 100000) : evE G b (.lst es) e s = .ok (.n (.lst xs)) s1 := by
  simp only [evE, h, Out.bind_ok, h2, if_true]
theorem e_mu {a : IE} {o : O} (h : evE G b a e s = .ok (.n o) s1) : evE G b (.mu a) e s = .ok (.v (.cell s1.length)) (s1 ++ [o]) := by
  simp only [evE, h, Out.bind_ok]
theorem e_int {i : Int} : evE G b (.int i) e s = .ok (.v (.int i)) s := rfl
theorem e_str {i : Str} : evE G b (.str i) e s = .ok (.v (.str i)) s := rfl
theorem e_bl {i : Bool} : evE G b (.bl i) e s = .ok (.v (.bl i)) s := rfl
theorem e_non : evE G b .non e s = .ok (.v .non) s := rfl
theorem e_gl {j : Nat} : evE G b (.gl j) e s = .ok (.v (G.gl j)) s := rfl
theorem t_e {a : IE} {x : R} {k : Bool} (h : evE G b a e s = .ok x s1) (h2 : tru s1 x.d = some k) : evT G b (.e a) e s = .ok k s1 := by
  simp only [evT, h, Out.bind_ok, h2, Out.of_some]
theorem t_not {t : IT} {k : Bool} (h : evT G b t e s = .ok k s1) : evT G b (.not t) e s = .ok (!k) s1 := by simp only [evT, h, Out.bind_ok]
theorem t_not1 {t : IT} (h : evT G b t e s = .ok true s1) : evT G b (.not t) e s = .ok false s1 := t_not h
theorem t_not0 {t : IT} (h : evT G b t e s = .ok false s1) : evT G b (.not t) e s = .ok true s1 := t_not h
theorem t_or0 {t u : IT} {o : Out Bool} (h : evT G b t e s = .ok false s1) (h2 : evT G b u e s1 = o) : evT G b (.or t u) e s = o := by
  simp only [evT, h, Out.bind_ok, Bool.false_eq_true, if_false, h2]
theorem t_or1 {t u : IT} (h : evT G b t e s = .ok true s1) : evT G b (.or t u) e s = .ok true s1 := by
  simp only [evT, h, Out.bind_ok, if_true]
theorem t_and1 {t u : IT} {o : Out Bool} (h : evT G b t e s = .ok true s1) (h2 : evT G b u e s1 = o) : evT G b (.and t u) e s = o := by
  simp only [evT, h, Out.bind_ok, if_true, h2]
theorem t_and0 {t u : IT} (h : evT G b t e s = .ok false s1) : evT G b (.and t u) e s = .ok false s1 := by
  simp only [evT, h, Out.bind_ok, Bool.false_eq_true, if_false]
theorem s_name {i : Nat} {x : IE} {r : R} (h : evE G b x e s = .ok r s1) : exS G b (.asg (.name i) x) e s = .ok (.nx, e.set i (some r.d)) s1 := by
  simp only [exS, h, Out.bind_ok, asG]
theorem s_ret {x : IE} {r : R} (h : evE G b x e s = .ok r s1) : exS G b (.ret x) e s = .ok (.ret r, e) s1 := by simp only [exS, h, Out.bind_ok]
theorem s_retF {x : IE} {n : Nat} (h : evE G b x e s = .ok (.v (.cell n)) s1) : exS G b (.retF x) e s = .ok (.retc n, e) s1 := by simp only [exS, h, Out.bind_ok]
theorem s_if1 {t : IT} {a c : ISs} {o : Out (Ctl × En.Env)} (h : evT G b t e s = .ok true s1) (h2 : exSs G b a e s1 = o) : exS G b (.ifs t a c) e s = o := by simp only [exS, h, Out.bind_ok, if_true, h2]
theorem s_if0 {t : IT} {a c : ISs} {o : Out (Ctl × En.Env)} (h : evT G b t e s = .ok false s1) (h2 : exSs G b c e s1 = o) : exS G b (.ifs t a c) e s = o := by simp only [exS, h, Out.bind_ok, Bool.false_eq_true, if_false, h2]
theorem ss_nil : exSs G b .nil e s = .ok (.nx, e) s := rfl
/-- one statement, then the rest -/
theorem ss_nx {x : IS} {xs : ISs} {o : Out (Ctl × En.Env)} (h : exS G b x e s = .ok (.nx, e1) s1) (h2 : exSs G b xs e1 s1 = o) : exSs G b (.cons x xs) e s = o := by rw [ss_cons h, h2]
theorem tru_bl {k : Bool} : tru s (.bl k) = some k := rfl
theorem callR_of {f : List D → Store → Out R} {xs : List D} {r : R} {s' : Store} (h : cbs 0 xs = true) (h2 : f xs [] = .ok r s') : callR f xs s = .ok r s := by simp only [callR, h, if_true, h2]
theorem callR_at {f : List D → Store → Out R} {xs : List D} {o : Out R} (h : cbs 0 xs = false) (h2 : f xs s = o) : callR f xs s = o := by simp only [callR, h, Bool.false_eq_true, if_false, h2]
theorem e_lc {own : List (Str × Nat)} {g : IG} {it : II} {t : IC} {x : IE} {ds : List D} {r : List D} (h : evI G b it e s = .ok (.l ds) s1) (hl : ds.length ≤ 100000)
    (h2 : lcL (fun d s1 => (asG G b g d (wipeE e (own.map (·.2))) s1).bind fun e2 s2 => (evC G b t e2 s2).bind fun k s3 => if k then (evE G b x e2 s3).bind fun r s4 => .ok [r.d] s4 else .ok [] s3) ds s1 = .ok r s2) :
    evE G b (.lc own g it t x) e s = .ok (.n (.lst r)) s2 := by
  simp only [evE, h, Out.bind_ok, hl, if_true, h2]
theorem i_seq {a : IE} {r : R} {ds : List D} (h : evE G b a e s = .ok r s1) (hr : r.d = .lst ds) : evI G b (.seq a) e s = .ok (.l ds) s1 := by simp only [evI, h, Out.bind_ok, hr]
end
theorem lcL_inv {f : D → Store → Out (List D)} (P : List D → List D → Store → Prop) (st : ∀ d ds acc s, P (d :: ds) acc s → ∃ x s', f d s = .ok x s' ∧ P ds (acc ++ x) s') : ∀ (ds acc : List D) (s : Store), P ds acc s → ∃ r s', lcL f ds s = .ok r s' ∧ P [] (acc ++ r) s'
  | [], acc, s, h => ⟨[], s, rfl, by rw [List.append_nil]; exact h⟩
  | d :: ds, acc, s, h => by
    obtain ⟨x, s1, h1, h2⟩ := st d ds acc s h
    obtain ⟨r, s2, h3, h4⟩ := lcL_inv P st ds (acc ++ x) s1 h2
    exact ⟨x ++ r, s2, by simp only [lcL, h1, Out.bind_ok, h3], by rw [← List.append_assoc]; exact h4⟩
theorem rngL_mem : ∀ (n : Nat) (lo : Int) (d : D), d ∈ rngL lo n → ∃ i : Nat, i < n ∧ d = .int (lo + i)
  | 0, _, _, h => nomatch h
  | n + 1, lo, d, h => by
    simp only [rngL, List.mem_cons] at h
    rcases h with rfl | h
    · exact ⟨0, by omega, by simp⟩
    · obtain ⟨i, h1, rfl⟩ := rngL_mem n (lo + 1) d h
      exact ⟨i + 1, by omega, by congr 1; omega⟩
/-- a result that is a flat value -/
def okF (o : Out R) : Option D := match o with
  | .ok (.v d) _ => if (flat d).isSome then some d else none
  | _ => none
theorem okF_is {o : Out R} {d : D} (h : okF o = some d) : (flat d).isSome = true ∧ ∃ s, o = .ok (.v d) s := by
  unfold okF at h
  split at h
  · split at h
    · rename_i hf
      cases h
      exact ⟨hf, _, rfl⟩
    · cases h
  · cases h
def okT (o : Out R) : Bool := match o with
  | .ok (.v (.bl true)) _ => true
  | _ => false
theorem okT_is {o : Out R} (h : okT o = true) : ∃ s, o = .ok (.v (.bl true)) s := by
  unfold okT at h
  split at h
  · exact ⟨_, rfl⟩
  · cases h
theorem flat_cb {d : D} (h : (flat d).isSome = true) : cb 0 d = true := by
  cases d <;> first | rfl | (simp [flat] at h)
theorem den_succ {T : TB} {j : Nat} {i : DI} (h : T.ds[j]? = some i) (k : Nat) : T.den (k + 1) j = runF (T.glo (T.den k)) i.d := by
  funext xs s
  simp only [TB.den, h]
end En

set_option Elab.async false
set_option linter.all false
set_option maxRecDepth 100000
set_option maxHeartbeats 4000000
namespace En
open PySem PySem.Spec PyProof.Rows L2
def Ent (K : PySem.W.Frag) (mg : Str → Option Value) (i : DI) : Prop := ∃ f fd, mg i.x = some (.ref f) ∧ Fun K i.x i.x i.st f fd ∧ ∀ us : List Value, us.length = i.ps.length → bindArgs fd ⟨us, []⟩ = pure (i.ps.zip us)
theorem ent_mk {K : PySem.W.Frag} {mg : Str → Option Value} {h : Heap} {i : DI} {x : Str} {st : Stmt} {ps : List Str} {f : Addr} {oc : Value} {od an : Option Addr} {sl : Array (Option Value)} {kV dc pm cd ct : Value} (hx : i.x = x) (hst : i.st = st) (hp : i.ps = ps) (X : K.In h) (G : h.Ns mainGlobals mg)
    (a : PySem.W.nsIn K mainGlobals x = some (some (.ref f))) (l : K.lookup f = some ⟨oc, od, .func (PySem.W.fnOf x x (defArgs st) (defBody st) (defScope st) .none kV dc pm an cd ct), sl⟩) (c : PySem.W.codeIn K cd x = true) (k : PySem.W.keepIn K (.ref f) = true)
    (b : ∀ (kV doc pm : Value) (an : Option Addr) (cdv ct : Value) (us : List Value), us.length = ps.length → bindArgs (PySem.W.fnOf x x (defArgs st) (defBody st) (defScope st) .none kV doc pm an cdv ct) ⟨us, []⟩ = pure (ps.zip us)) : Ent K mg i := by
  subst hx hst hp
  have F := fun_mk (st := i.st) l c k
  exact ⟨f, _, PySem.W.mg_of X G a, F, b _ _ _ _ _ _⟩
/-- a def of the module, its promise, as the law's head wants it -/
theorem law_fn {P : Program} {w : World} {K : PySem.W.Frag} {mg : Str → Option Value} {L : Lk} {T : TB} (X : Txt L T w K mg) {n k j m : Nat} (c : chkT' T n = true) (hs : noSlots K = true) {i : DI} {fa : Addr} {x : Str} (E : Ent K mg i) (hj : T.ds[j]? = some i) (hfa : mg i.x = some (.ref fa)) (hps : i.ps = [x])
    (math : ∀ ns : List Int, ns.length ≤ m → ∃ s, T.den k j [.lst (ns.map .int)] [] = .ok (.v (.bl true)) s) :
    ∃ fd : FuncData, (∀ (s : Shared) (u : Value), BindsTo s fd ⟨[u], []⟩ [(x, u)]) ∧ ∀ base : Heap, K.In base → base.Ns mainGlobals mg → FnOk P w K mg base CX0 k fa fd [x] (spLaw K m) := by
  obtain ⟨f, fd, h1, F, B⟩ := E
  have e := hfa.symm.trans h1
  cases e
  rw [hps] at B
  refine ⟨fd, fun s u => .of_eq (B [u] rfl), fun base _ _ => ?_⟩
  have := law_ok (P := P) (base := base) X c hs hj F math
  rw [hps] at this
  exact this
theorem ent_all {K : PySem.W.Frag} {mg : Str → Option Value} {ds : List DI} (h : ∀ i ∈ ds, Ent K mg i) : ∀ i ∈ ds, ∃ f fd, mg i.x = some (.ref f) ∧ Fun K i.x i.x i.st f fd ∧ Binds K fd i.ps [] := fun i m => by
  obtain ⟨f, fd, h1, F, B⟩ := h i m
  exact ⟨f, fd, h1, F, .all B⟩
theorem ent_nil {K : PySem.W.Frag} {mg : Str → Option Value} : ∀ i ∈ ([] : List DI), Ent K mg i := fun i m => nomatch m
theorem ent_cons {K : PySem.W.Frag} {mg : Str → Option Value} {i : DI} {ds : List DI} (h : Ent K mg i) (h2 : ∀ i ∈ ds, Ent K mg i) : ∀ j ∈ i :: ds, Ent K mg j := fun j m => by
  rcases List.mem_cons.mp m with rfl | m
  · exact h
  · exact h2 j m
theorem look_mem {kvs : List (Str × D)} {z : Str} {d : D} (h : lookK kvs z = some d) : (z, d) ∈ kvs := by
  unfold lookK at h
  rw [Option.map_eq_some_iff] at h
  obtain ⟨p, h1, rfl⟩ := h
  have h2 := List.find?_some h1
  simp only [decide_eq_true_eq] at h2
  subst h2
  exact List.mem_of_find?_eq_some h1
abbrev Hold (L : Lk) (w : World) (a : Addr) (p : Str × D) : Prop := ∃ v, KDct L.K w a p.1 v ∧ ∀ (H : Hp) (fb cm : List Addr), Rep L H fb cm v p.2
theorem hold_mk {L : Lk} {w : World} {K : PySem.W.Frag} {h : Heap} {a : Addr} {x : Str} {d : D} {es : Array DictEntry} {n : Nat} {u : Value} {v : V} (X : K.In h) (hK : K = L.K) (l : K.lookup a = some ⟨.type "dict", none, .dict es n, #[]⟩) (k : PySem.W.KeysLit w.params es.toList) (e : PySem.W.nsIn K a x = some (some u)) (r : RelV v u) (hr : ∀ (H : Hp) (fb cm : List Addr), Rep L H fb cm v d) : Hold L w a (x, d) := by
  subst hK
  exact ⟨v, ⟨es, n, u, l, k, e, r⟩, hr⟩
theorem all_nil {α : Type} {P : α → Prop} : ∀ p ∈ ([] : List α), P p := fun p m => nomatch m
theorem all_cons {α : Type} {P : α → Prop} {a : α} {l : List α} (h : P a) (h2 : ∀ p ∈ l, P p) : ∀ p ∈ a :: l, P p := fun p m => by
  rcases List.mem_cons.mp m with rfl | m
  · exact h
  · exact h2 p m
abbrev Glv (L : Lk) (T : TB) (mg : Str → Option Value) (p : Str × Nat) : Prop := ∃ u v, mg p.1 = some u ∧ RelV v u ∧ ∀ (H : Hp) (fb cm : List Addr), Rep L H fb cm v (T.gl p.2)
abbrev Blv (mg : Str → Option Value) (x : Str) : Prop := mg x = none
theorem gl_val {L : Lk} {mg : Str → Option Value} {u : Value} {v : V} {d : D} {x : Str} (h : mg x = some u) (r : RelV v u) (hr : ∀ (H : Hp) (fb cm : List Addr), Rep L H fb cm v d) : ∃ u v, mg x = some u ∧ RelV v u ∧ ∀ (H : Hp) (fb cm : List Addr), Rep L H fb cm v d := ⟨u, v, h, r, hr⟩
theorem rep_kt {L : Lk} {K : PySem.W.Frag} {h : Heap} {a : Addr} {o : Obj} {its : Array Value} {n : Nat} {xs : List V} {ds : List D} (X : K.In h) (hK : K = L.K) (l : K.lookup a = some o) (c : o.cls = .type "tuple") (hd : o.data = .seq its n) (hz : its.size ≤ 1000) (hv : Vals xs its.toList) (hr : ∀ (H : Hp) (fb cm : List Addr), Reps L H fb cm xs ds) (H : Hp) (fb cm : List Addr) : Rep L H fb cm (.ref a) (.kt ds) :=
  .kt ⟨o, its, n, hK ▸ l, c, hd, Nat.le_trans hz (by decide), hv⟩ (hr H fb cm)
theorem ns_look {K : PySem.W.Frag} {h : Heap} {x : Str} {v : Value} (X : K.In h) (a : PySem.W.nsIn K mainGlobals x = some (some v)) : PySem.W.nsIn K mainGlobals x = some (some v) := a
theorem k_look {K : PySem.W.Frag} {h : Heap} {a : Addr} {o : Obj} (X : K.In h) (e : K.lookup a = some o) : K.lookup a = some o := e
def gaOf (as : List Addr) (j : Nat) : Addr := as.getD j 0
theorem txt_mk {T : TB} {w : World} {K : PySem.W.Frag} {mg : Str → Option Value} {as : List Addr} {h : Heap} (KX : K.In h) (ents : ∀ i ∈ T.ds, Ent K mg i) (gls : ∀ p ∈ T.gls, Glv ⟨K, fun _ => 0, gaOf as⟩ T mg p) (blts : ∀ x ∈ T.blt, Blv mg x)
    (gds : ∀ j, ∀ p ∈ T.gd j, Hold ⟨K, fun _ => 0, gaOf as⟩ w (gaOf as j) p) : Txt ⟨K, fun _ => 0, gaOf as⟩ T w K mg :=
  ⟨rfl, ent_all ents, fun x j m => gls (x, j) m, blts, fun j z d h => gds j (z, d) (look_mem h)⟩
theorem rel_int {i : Int} {t : Nat} : RelV (.int i) (.int i t) := ⟨t, rfl⟩
theorem rel_str {i : Str} {t : Nat} : RelV (.str i) (.str i t) := ⟨t, rfl⟩
theorem rel_bl {i : Bool} : RelV (.bl i) (.bool i) := rfl
theorem rel_non : RelV .non .none := rfl
theorem rel_ref {a : Addr} : RelV (.ref a) (.ref a) := rfl
theorem rep_ktG {L : Lk} {K : PySem.W.Frag} {h : Heap} {x : Str} {a : Addr} {o : Obj} {its : Array Value} {n : Nat} {xs : List V} {ds : List D} (X : K.In h) (g : PySem.W.nsIn K mainGlobals x = some (some (.ref a))) (hK : K = L.K) (l : K.lookup a = some o) (c : o.cls = .type "tuple") (hd : o.data = .seq its n) (hz : its.size ≤ 1000) (hv : Vals xs its.toList) (hr : ∀ (H : Hp) (fb cm : List Addr), Reps L H fb cm xs ds) (H : Hp) (fb cm : List Addr) : Rep L H fb cm (.ref a) (.kt ds) :=
  rep_kt X hK l c hd hz hv hr H fb cm
end En

set_option Elab.async false
set_option linter.all false
set_option maxRecDepth 100000
set_option maxHeartbeats 4000000
namespace K40
open PySem PySem.Spec PyProof.Rows L2 En
def topS (i : Nat) : Stmt := PySem.Challenge.pw_chipmill_k40_kinds_and_forcing.main.body.getD i (.Pass ⟨0, 0, 0, 0⟩)
def i_kind_inputs : DI := { x := "kind_inputs", st := topS 6, N := ["kind"], d := { slots := 1, params := 1, body :=
    (.cons (.ret (.ix (.gl 0) (.var 0)))
    .nil) } }
def i_table_of_two : DI := { x := "table_of_two", st := topS 7, N := ["kind", "a", "b", "full", "table"], d := { slots := 5, params := 4, body :=
    (.cons (.ifs (.e (.cmp .in_ (.var 0) (.tup (.cons (.str "and2") (.cons (.str "nand2") .nil))))) (.cons (.asg (.name 4) (.op .band (.var 1) (.var 2)))
    .nil) (.cons (.ifs (.e (.cmp .in_ (.var 0) (.tup (.cons (.str "or2") (.cons (.str "nor2") .nil))))) (.cons (.asg (.name 4) (.op .bor (.var 1) (.var 2)))
    .nil) (.cons (.asg (.name 4) (.op .bxor (.var 1) (.var 2)))
    .nil))
    .nil))
    (.cons (.ifs (.e (.cmp .in_ (.var 0) (.tup (.cons (.str "nand2") (.cons (.str "nor2") (.cons (.str "xnor2") .nil)))))) (.cons (.ret (.op .bxor (.var 3) (.var 4)))
    .nil) .nil)
    (.cons (.ret (.var 4))
    .nil))) } }
def i_table_of_three : DI := { x := "table_of_three", st := topS 8, N := ["kind", "a", "b", "c", "full"], d := { slots := 5, params := 5, body :=
    (.cons (.ifs (.e (.cmp .eq (.var 0) (.str "nand3"))) (.cons (.ret (.op .bxor (.var 4) (.op .band (.op .band (.var 1) (.var 2)) (.var 3))))
    .nil) .nil)
    (.cons (.ifs (.e (.cmp .eq (.var 0) (.str "nor3"))) (.cons (.ret (.op .bxor (.var 4) (.op .bor (.op .bor (.var 1) (.var 2)) (.var 3))))
    .nil) .nil)
    (.cons (.ifs (.e (.cmp .eq (.var 0) (.str "aoi21"))) (.cons (.ret (.op .bxor (.var 4) (.op .bor (.op .band (.var 1) (.var 2)) (.var 3))))
    .nil) .nil)
    (.cons (.ifs (.e (.cmp .eq (.var 0) (.str "oai21"))) (.cons (.ret (.op .bxor (.var 4) (.op .band (.op .bor (.var 1) (.var 2)) (.var 3))))
    .nil) .nil)
    (.cons (.ret (.op .bor (.op .band (.var 1) (.var 2)) (.op .band (.op .bxor (.var 4) (.var 1)) (.var 3))))
    .nil))))) } }
def i_kind_table : DI := { x := "kind_table", st := topS 9, N := ["kind", "tables", "full"], d := { slots := 3, params := 3, body :=
    (.cons (.ifs (.e (.cmp .eq (.var 0) (.str "tie0"))) (.cons (.ret (.int 0))
    .nil) .nil)
    (.cons (.ifs (.e (.cmp .eq (.var 0) (.str "tie1"))) (.cons (.ret (.var 2))
    .nil) .nil)
    (.cons (.ifs (.e (.cmp .eq (.var 0) (.str "inv"))) (.cons (.ret (.op .bxor (.var 2) (.ix (.var 1) (.int 0))))
    .nil) .nil)
    (.cons (.ifs (.e (.cmp .eq (.ix (.gl 0) (.var 0)) (.int 2))) (.cons (.ret (.call 1 (.cons (.var 0) (.cons (.ix (.var 1) (.int 0)) (.cons (.ix (.var 1) (.int 1)) (.cons (.var 2) .nil))))))
    .nil) .nil)
    (.cons (.ret (.call 2 (.cons (.var 0) (.cons (.ix (.var 1) (.int 0)) (.cons (.ix (.var 1) (.int 1)) (.cons (.ix (.var 1) (.int 2)) (.cons (.var 2) .nil)))))))
    .nil))))) } }
def i_kind_output : DI := { x := "kind_output", st := topS 10, N := ["kind", "bits"], d := { slots := 2, params := 2, body :=
    (.cons (.ret (.call 3 (.cons (.var 0) (.cons (.var 1) (.cons (.int 1) .nil)))))
    .nil) } }
def i_forced_output : DI := { x := "forced_output", st := topS 11, N := ["kind", "pins", "tables", "place", "pin", "table"], d := { slots := 6, params := 2, body :=
    (.cons (.asg (.name 2) (.mu (.lst .nil)))
    (.cons (.for_ (.tup (.cons (.name 3) (.cons (.name 4) .nil))) (.enum (.var 1)) (.cons (.ifs (.e (.cmp .is_ (.var 4) .non)) (.cons (.expr (.mt .append (.var 2) (.cons (.ix (.gl 1) (.var 3)) .nil)))
    .nil) (.cons (.expr (.mt .append (.var 2) (.cons (.op .mul (.gl 2) (.var 4)) .nil)))
    .nil))
    .nil))
    (.cons (.asg (.name 5) (.callS 3 (.cons (.var 0) (.cons (.var 2) (.cons (.gl 2) .nil)))))
    (.cons (.ifs (.e (.cmp .eq (.var 5) (.gl 2))) (.cons (.ret (.int 1))
    .nil) .nil)
    (.cons (.ifs (.e (.cmp .eq (.var 5) (.int 0))) (.cons (.ret (.int 0))
    .nil) .nil)
    (.cons (.ret .non)
    .nil)))))) } }
def i_law_pool : DI := { x := "_law_pool", st := topS 13, N := ["script", "place", "cell", "rest"], d := { slots := 4, params := 2, body :=
    (.cons (.asg (.name 2) (.int 0))
    (.cons (.ifs (.e (.cmp .lt (.var 1) (.blt .len (.cons (.var 0) .nil)))) (.cons (.asg (.name 2) (.blt .abs (.cons (.blt .int1 (.cons (.ix (.var 0) (.var 1)) .nil)) .nil)))
    .nil) .nil)
    (.cons (.asg (.name 3) (.int 0))
    (.cons (.ifs (.e (.cmp .ge (.var 2) (.op .pow (.int 10) (.int 18)))) (.cons (.asg (.name 3) (.var 2))
    .nil) .nil)
    (.cons (.ret (.lst (.cons (.var 2) (.cons (.var 3) (.cons (.int 0) .nil)))))
    .nil))))) } }
def i_law_draw : DI := { x := "_law_draw", st := topS 14, N := ["pool", "many", "got", "one"], d := { slots := 4, params := 2, body :=
    (.cons (.ifs (.e (.cmp .gt (.ix (.var 0) (.int 1)) (.int 1))) (.cons (.asg (.name 2) (.op .mod (.blt .int1 (.cons (.ix (.var 0) (.int 1)) .nil)) (.var 1)))
    (.cons (.asg (.sub (.var 0) (.int 1)) (.op .fdiv (.ix (.var 0) (.int 1)) (.var 1)))
    (.cons (.ret (.var 2))
    .nil))) .nil)
    (.cons (.asg (.sub (.var 0) (.int 2)) (.op .add (.ix (.var 0) (.int 2)) (.int 1)))
    (.cons (.asg (.name 3) (.op .mod (.blt .int1 (.cons (.op .add (.op .mod (.blt .int1 (.cons (.ix (.var 0) (.int 0)) .nil)) (.int 2147483647)) (.op .mul (.int 69621) (.ix (.var 0) (.int 2)))) .nil)) (.int 2147483647)))
    (.cons (.asg (.name 3) (.op .mod (.blt .int1 (.cons (.op .add (.op .add (.op .mul (.var 3) (.var 3)) (.op .mul (.int 48271) (.ix (.var 0) (.int 2)))) (.int 11)) .nil)) (.int 2147483629)))
    (.cons (.asg (.name 3) (.op .mod (.blt .int1 (.cons (.op .add (.op .mul (.var 3) (.var 3)) (.op .mod (.blt .int1 (.cons (.ix (.var 0) (.int 0)) .nil)) (.int 1000003))) .nil)) (.int 2147483587)))
    (.cons (.ret (.op .mod (.blt .int1 (.cons (.var 3) .nil)) (.var 1)))
    .nil)))))) } }
def i_law_pick : DI := { x := "_law_pick", st := topS 15, N := ["pool", "row"], d := { slots := 2, params := 2, body :=
    (.cons (.ret (.ix (.var 1) (.call 7 (.cons (.var 0) (.cons (.blt .len (.cons (.var 1) .nil)) .nil)))))
    .nil) } }
def i_law_whole : DI := { x := "_law_whole", st := topS 16, N := ["value"], d := { slots := 1, params := 1, body :=
    (.cons (.ret (.and (.isin (.var 0) .int) (.not (.isin (.var 0) .bool))))
    .nil) } }
def i_law_same : DI := { x := "_law_same", st := topS 17, N := ["value", "due", "k"], d := { slots := 3, params := 2, body :=
    (.cons (.ifs (.e (.cmp .is_ (.var 1) .non)) (.cons (.ret (.cmp .is_ (.var 0) .non))
    .nil) .nil)
    (.cons (.ifs (.e (.isin (.var 1) .bool)) (.cons (.ret (.and (.isin (.var 0) .bool) (.cmp .eq (.var 0) (.var 1))))
    .nil) .nil)
    (.cons (.ifs (.e (.isin (.var 1) .int)) (.cons (.ret (.and (.call 9 (.cons (.var 0) .nil)) (.cmp .eq (.var 0) (.var 1))))
    .nil) .nil)
    (.cons (.ifs (.e (.isin (.var 1) .str)) (.cons (.ret (.and (.isin (.var 0) .str) (.cmp .eq (.var 0) (.var 1))))
    .nil) .nil)
    (.cons (.ifs (.e (.isin (.var 1) .tuple)) (.cons (.ifs (.or (.not (.e (.isin (.var 0) .tuple))) (.e (.cmp .ne (.blt .len (.cons (.var 0) .nil)) (.blt .len (.cons (.var 1) .nil))))) (.cons (.ret (.bl false))
    .nil) .nil)
    .nil) (.cons (.ifs (.or (.not (.e (.isin (.var 0) .list))) (.e (.cmp .ne (.blt .len (.cons (.var 0) .nil)) (.blt .len (.cons (.var 1) .nil))))) (.cons (.ret (.bl false))
    .nil) .nil)
    .nil))
    (.cons (.for_ (.name 2) (.rng1 (.blt .len (.cons (.var 1) .nil))) (.cons (.ifs (.not (.e (.call 10 (.cons (.ix (.var 0) (.var 2)) (.cons (.ix (.var 1) (.var 2)) .nil))))) (.cons (.ret (.bl false))
    .nil) .nil)
    .nil))
    (.cons (.ret (.bl true))
    .nil))))))) } }
def i_law_order : DI := { x := "_law_order", st := topS 18, N := ["pool", "row", "left", "done", "k"], d := { slots := 5, params := 2, body :=
    (.cons (.asg (.name 2) (.mu (.blt .list (.cons (.var 1) .nil))))
    (.cons (.asg (.name 3) (.mu (.lst .nil)))
    (.cons (.for_ (.name 4) (.rng1 (.blt .len (.cons (.var 1) .nil))) (.cons (.expr (.mt .append (.var 3) (.cons (.mt .popAt (.var 2) (.cons (.call 7 (.cons (.var 0) (.cons (.blt .len (.cons (.var 2) .nil)) .nil))) .nil)) .nil)))
    .nil))
    (.cons (.retF (.var 3))
    .nil)))) } }
def i_law_kinds : DI := { x := "_law_kinds", st := topS 19, N := ["names"], d := { slots := 1, params := 0, body :=
    (.cons (.asg (.name 0) (.lst (.cons (.str "inv") (.cons (.str "nand2") (.cons (.str "nor2") (.cons (.str "and2") (.cons (.str "or2") (.cons (.str "xor2") (.cons (.str "xnor2") (.cons (.str "nand3") (.cons (.str "nor3") (.cons (.str "aoi21") (.cons (.str "oai21") (.cons (.str "mux2") .nil))))))))))))))
    (.cons (.ret (.op .add (.var 0) (.lst (.cons (.str "tie0") (.cons (.str "tie1") (.cons (.str "sdff0") (.cons (.str "sdff1") .nil)))))))
    .nil)) } }
def i_law_pins_of : DI := { x := "_law_pins_of", st := topS 20, N := ["kind"], d := { slots := 1, params := 1, body :=
    (.cons (.ret (.ix (.lst (.cons (.int 1) (.cons (.int 2) (.cons (.int 2) (.cons (.int 2) (.cons (.int 2) (.cons (.int 2) (.cons (.int 2) (.cons (.int 3) (.cons (.int 3) (.cons (.int 3) (.cons (.int 3) (.cons (.int 3) (.cons (.int 0) (.cons (.int 0) .nil))))))))))))))) (.mt .index (.call 12 .nil) (.cons (.var 0) .nil))))
    .nil) } }
def i_law_kind : DI := { x := "_law_kind", st := topS 21, N := ["kind", "bits", "a", "b", "total"], d := { slots := 5, params := 2, body :=
    (.cons (.ifs (.or (.e (.cmp .eq (.var 0) (.str "tie0"))) (.e (.cmp .eq (.var 0) (.str "tie1")))) (.cons (.ret (.blt .int1 (.cons (.cmp .eq (.var 0) (.str "tie1")) .nil)))
    .nil) .nil)
    (.cons (.asg (.name 2) (.ix (.var 1) (.int 0)))
    (.cons (.ifs (.e (.cmp .eq (.var 0) (.str "inv"))) (.cons (.ret (.op .sub (.int 1) (.var 2)))
    .nil) .nil)
    (.cons (.asg (.name 3) (.ix (.var 1) (.int 1)))
    (.cons (.ifs (.e (.cmp .eq (.var 0) (.str "mux2"))) (.cons (.ret (.ix (.lst (.cons (.ix (.var 1) (.int 2)) (.cons (.var 3) .nil))) (.var 2)))
    .nil) .nil)
    (.cons (.ifs (.e (.cmp .eq (.var 0) (.str "aoi21"))) (.cons (.ret (.op .sub (.int 1) (.op .bor (.op .band (.var 2) (.var 3)) (.ix (.var 1) (.int 2)))))
    .nil) .nil)
    (.cons (.ifs (.e (.cmp .eq (.var 0) (.str "oai21"))) (.cons (.ret (.op .sub (.int 1) (.op .band (.op .bor (.var 2) (.var 3)) (.ix (.var 1) (.int 2)))))
    .nil) .nil)
    (.cons (.asg (.name 4) (.blt .sum (.cons (.var 1) .nil)))
    (.cons (.ifs (.or (.e (.cmp .eq (.var 0) (.str "nand2"))) (.e (.cmp .eq (.var 0) (.str "nand3")))) (.cons (.ret (.blt .int1 (.cons (.cmp .lt (.var 4) (.blt .len (.cons (.var 1) .nil))) .nil)))
    .nil) .nil)
    (.cons (.ifs (.or (.e (.cmp .eq (.var 0) (.str "nor2"))) (.e (.cmp .eq (.var 0) (.str "nor3")))) (.cons (.ret (.blt .int1 (.cons (.cmp .eq (.var 4) (.int 0)) .nil)))
    .nil) .nil)
    (.cons (.ifs (.e (.cmp .eq (.var 0) (.str "and2"))) (.cons (.ret (.op .band (.var 2) (.var 3)))
    .nil) .nil)
    (.cons (.ifs (.e (.cmp .eq (.var 0) (.str "or2"))) (.cons (.ret (.op .bor (.var 2) (.var 3)))
    .nil) .nil)
    (.cons (.ret (.blt .int1 (.cons (.cmp .eq (.cmp .ne (.var 2) (.var 3)) (.cmp .eq (.var 0) (.str "xor2"))) .nil)))
    .nil))))))))))))) } }
def i_law_forced : DI := { x := "_law_forced", st := topS 22, N := ["kind", "pins", "unknown", "found", "code", "bits", "k", "value", "bit"], d := { slots := 9, params := 2, body :=
    (.cons (.asg (.name 2) (.lc [("k", 6)] (.name 6) (.rng1 (.blt .len (.cons (.var 1) .nil))) (.t (.e (.cmp .is_ (.ix (.var 1) (.var 6)) .non))) (.var 6)))
    (.cons (.asg (.name 3) (.mu (.lst .nil)))
    (.cons (.for_ (.name 4) (.rng1 (.op .shl (.int 1) (.blt .len (.cons (.var 2) .nil)))) (.cons (.asg (.name 5) (.mu (.lc [("bit", 8)] (.name 8) (.seq (.var 1)) .yes (.var 8))))
    (.cons (.for_ (.name 6) (.rng1 (.blt .len (.cons (.var 2) .nil))) (.cons (.asg (.sub (.var 5) (.ix (.var 2) (.var 6))) (.op .band (.op .shr (.var 4) (.var 6)) (.int 1)))
    .nil))
    (.cons (.asg (.name 7) (.callS 14 (.cons (.var 0) (.cons (.var 5) .nil))))
    (.cons (.ifs (.e (.cmp .notIn (.var 7) (.var 3))) (.cons (.expr (.mt .append (.var 3) (.cons (.var 7) .nil)))
    .nil) .nil)
    .nil)))))
    (.cons (.ifs (.e (.cmp .eq (.blt .len (.cons (.var 3) .nil)) (.int 1))) (.cons (.ret (.ix (.var 3) (.int 0)))
    .nil) .nil)
    (.cons (.ret .non)
    .nil))))) } }
def i_law_choice : DI := { x := "_law_choice", st := topS 23, N := ["code", "count", "pins", "k"], d := { slots := 4, params := 2, body :=
    (.cons (.asg (.name 2) (.mu (.lst .nil)))
    (.cons (.for_ (.name 3) (.rng1 (.var 1)) (.cons (.expr (.mt .append (.var 2) (.cons (.ix (.lst (.cons (.int 0) (.cons (.int 1) (.cons .non .nil)))) (.op .mod (.blt .int1 (.cons (.var 0) .nil)) (.int 3))) .nil)))
    (.cons (.asg (.name 0) (.op .fdiv (.var 0) (.int 3)))
    .nil)))
    (.cons (.retF (.var 2))
    .nil))) } }
def i_law_output : DI := { x := "_law_output", st := topS 24, N := ["kind", "bits", "listed", "handed", "told"], d := { slots := 5, params := 3, body :=
    (.cons (.ifs (.not (.e (.var 2))) (.cons (.ret (.call 4 (.cons (.var 0) (.cons (.blt .tuple (.cons (.var 1) .nil)) .nil))))
    .nil) .nil)
    (.cons (.asg (.name 3) (.blt .list (.cons (.var 1) .nil)))
    (.cons (.asg (.name 4) (.call 4 (.cons (.var 0) (.cons (.var 3) .nil))))
    (.cons (.ifs (.not (.e (.call 10 (.cons (.var 3) (.cons (.var 1) .nil))))) (.cons (.ret .non)
    .nil) .nil)
    (.cons (.ret (.var 4))
    .nil))))) } }
def i_law_right : DI := { x := "_law_right", st := topS 25, N := ["pool", "kind", "pins", "due", "handed"], d := { slots := 5, params := 3, body :=
    (.cons (.asg (.name 3) (.call 15 (.cons (.var 1) (.cons (.var 2) .nil))))
    (.cons (.asg (.name 4) (.blt .list (.cons (.var 2) .nil)))
    (.cons (.ifs (.e (.cmp .eq (.call 7 (.cons (.var 0) (.cons (.int 2) .nil))) (.int 1))) (.cons (.ifs (.not (.e (.call 10 (.cons (.call 5 (.cons (.var 1) (.cons (.blt .tuple (.cons (.var 2) .nil)) .nil))) (.cons (.var 3) .nil))))) (.cons (.ret (.bl false))
    .nil) .nil)
    .nil) (.cons (.ifs (.not (.e (.call 10 (.cons (.call 5 (.cons (.var 1) (.cons (.var 4) .nil))) (.cons (.var 3) .nil))))) (.cons (.ret (.bl false))
    .nil) .nil)
    .nil))
    (.cons (.ifs (.e (.cmp .notIn .non (.var 2))) (.cons (.asg (.name 3) (.call 14 (.cons (.var 1) (.cons (.var 2) .nil))))
    (.cons (.ifs (.not (.e (.call 10 (.cons (.call 17 (.cons (.var 1) (.cons (.var 2) (.cons (.cmp .eq (.call 7 (.cons (.var 0) (.cons (.int 2) .nil))) (.int 0)) .nil)))) (.cons (.var 3) .nil))))) (.cons (.ret (.bl false))
    .nil) .nil)
    .nil)) .nil)
    (.cons (.ret (.call 10 (.cons (.var 4) (.cons (.var 2) .nil))))
    .nil))))) } }
def i_law : DI := { x := "law", st := topS 26, N := ["script", "pool", "kind", "count", "code", "turn", "pins", "k"], d := { slots := 8, params := 1, body :=
    (.cons (.asg (.name 1) (.mu (.call 6 (.cons (.var 0) (.cons (.int 0) .nil)))))
    (.cons (.ifs (.not (.e (.call 10 (.cons (.gl 3) (.cons (.blt .tuple (.cons (.call 12 .nil) .nil)) .nil))))) (.cons (.ret (.bl false))
    .nil) .nil)
    (.cons (.for_ (.name 2) (.seq (.call 11 (.cons (.var 1) (.cons (.sl (.call 12 .nil) .none (.some (.int 14))) .nil)))) (.cons (.asg (.name 3) (.call 13 (.cons (.var 2) .nil)))
    (.cons (.ifs (.not (.e (.call 10 (.cons (.call 0 (.cons (.var 2) .nil)) (.cons (.var 3) .nil))))) (.cons (.ret (.bl false))
    .nil) .nil)
    (.cons (.for_ (.name 4) (.rng1 (.ix (.lst (.cons (.int 1) (.cons (.int 3) (.cons (.int 9) (.cons (.int 27) .nil))))) (.var 3))) (.cons (.ifs (.not (.e (.call 18 (.cons (.var 1) (.cons (.var 2) (.cons (.call 16 (.cons (.var 4) (.cons (.var 3) .nil))) .nil)))))) (.cons (.ret (.bl false))
    .nil) .nil)
    .nil))
    .nil))))
    (.cons (.for_ (.name 5) (.rng1 (.int 5)) (.cons (.asg (.name 2) (.ix (.call 12 .nil) (.call 7 (.cons (.var 1) (.cons (.int 14) .nil)))))
    (.cons (.asg (.name 3) (.call 13 (.cons (.var 2) .nil)))
    (.cons (.asg (.name 6) (.lc [("k", 7)] (.name 7) (.rng1 (.var 3)) .yes (.call 8 (.cons (.var 1) (.cons (.lst (.cons (.int 0) (.cons (.int 1) (.cons .non .nil)))) .nil)))))
    (.cons (.ifs (.or (.not (.e (.call 18 (.cons (.var 1) (.cons (.var 2) (.cons (.var 6) .nil)))))) (.not (.e (.call 10 (.cons (.call 0 (.cons (.var 2) .nil)) (.cons (.var 3) .nil)))))) (.cons (.ret (.bl false))
    .nil) .nil)
    .nil)))))
    (.cons (.ret (.bl true))
    .nil))))) } }
def gl : Nat → D
  | 0 => .gd 0
  | 1 => (.kt [(.int 170), (.int 204), (.int 240)])
  | 2 => (.int 255)
  | 3 => (.kt [(.str "inv"), (.str "nand2"), (.str "nor2"), (.str "and2"), (.str "or2"), (.str "xor2"), (.str "xnor2"), (.str "nand3"), (.str "nor3"), (.str "aoi21"), (.str "oai21"), (.str "mux2"), (.str "tie0"), (.str "tie1"), (.str "sdff0"), (.str "sdff1")])
  | _ => .non
def gd : Nat → List (Str × D)
  | 0 => [("inv", (.int 1)), ("nand2", (.int 2)), ("nor2", (.int 2)), ("and2", (.int 2)), ("or2", (.int 2)), ("xor2", (.int 2)), ("xnor2", (.int 2)), ("nand3", (.int 3)), ("nor3", (.int 3)), ("aoi21", (.int 3)), ("oai21", (.int 3)), ("mux2", (.int 3)), ("tie0", (.int 0)), ("tie1", (.int 0))]
  | _ => []
def tb : TB := { ds := [i_kind_inputs, i_table_of_two, i_table_of_three, i_kind_table, i_kind_output, i_forced_output, i_law_pool, i_law_draw, i_law_pick, i_law_whole, i_law_same, i_law_order, i_law_kinds, i_law_pins_of, i_law_kind, i_law_forced, i_law_choice, i_law_output, i_law_right, i_law], fns := [("kind_inputs", 0), ("table_of_two", 1), ("table_of_three", 2), ("kind_table", 3), ("kind_output", 4), ("forced_output", 5), ("_law_pool", 6), ("_law_draw", 7), ("_law_pick", 8), ("_law_whole", 9), ("_law_same", 10), ("_law_order", 11), ("_law_kinds", 12), ("_law_pins_of", 13), ("_law_kind", 14), ("_law_forced", 15), ("_law_choice", 16), ("_law_output", 17), ("_law_right", 18), ("law", 19)], gls := [("INPUTS", 0), ("CHOICES", 1), ("ALL_CHOICES", 2), ("KINDS", 3)], blt := ["enumerate", "len", "abs", "int", "isinstance", "bool", "str", "tuple", "list", "range", "sum"], gl := gl, gd := gd, F := 1000000 }
theorem chk : chkT' tb 300 = true := by decide +kernel
end K40

set_option Elab.async false
set_option linter.all false
set_option maxRecDepth 100000
set_option maxHeartbeats 4000000
namespace K40
open PySem PySem.Spec PyProof.Rows L2 En
def pinsAll : Nat → List (List D)
  | 0 => [[]]
  | n + 1 => (pinsAll n).flatMap fun p => [.int 0 :: p, .int 1 :: p, .non :: p]
def kinds : List (Str × Nat) := [("inv", 1), ("nand2", 2), ("nor2", 2), ("and2", 2), ("or2", 2), ("xor2", 2), ("xnor2", 2), ("nand3", 3), ("nor3", 3), ("aoi21", 3), ("oai21", 3), ("mux2", 3), ("tie0", 0), ("tie1", 0)]
def cases_ : List (Str × List D) := kinds.flatMap fun p => (pinsAll p.2).map fun q => (p.1, q)
def sameT (f : Nat → List D → Store → Out R) (o : Out R) (d : D) : Bool := match okF o with
  | some x => okT (f 10 [x, d] [])
  | none => false
def factB (f : Nat → List D → Store → Out R) (p : Str × List D) : Bool := match okF (f 15 [.str p.1, .lst p.2] []) with
  | some due => sameT f (f 5 [.str p.1, .tup p.2] []) due && sameT f (f 5 [.str p.1, .lst p.2] []) due && okT (f 10 [.lst p.2, .lst p.2] []) && (match cmpR tb.gd .notIn .non (.lst p.2) [] with
    | some false => true
    | some true => (match okF (f 14 [.str p.1, .lst p.2] []) with
      | some d2 => sameT f (f 17 [.str p.1, .lst p.2, .bl true] []) d2 && sameT f (f 17 [.str p.1, .lst p.2, .bl false] []) d2
      | none => false)
    | none => false)
  | none => false
theorem f0 : (pinsAll 1).all (fun q => factB (tb.den 58) ("inv", q)) = true := by decide +kernel
theorem f1 : (pinsAll 2).all (fun q => factB (tb.den 58) ("nand2", q)) = true := by decide +kernel
theorem f2 : (pinsAll 2).all (fun q => factB (tb.den 58) ("nor2", q)) = true := by decide +kernel
theorem f3 : (pinsAll 2).all (fun q => factB (tb.den 58) ("and2", q)) = true := by decide +kernel
theorem f4 : (pinsAll 2).all (fun q => factB (tb.den 58) ("or2", q)) = true := by decide +kernel
theorem f5 : (pinsAll 2).all (fun q => factB (tb.den 58) ("xor2", q)) = true := by decide +kernel
theorem f6 : (pinsAll 2).all (fun q => factB (tb.den 58) ("xnor2", q)) = true := by decide +kernel
theorem f7 : (pinsAll 3).all (fun q => factB (tb.den 58) ("nand3", q)) = true := by decide +kernel
theorem f8 : (pinsAll 3).all (fun q => factB (tb.den 58) ("nor3", q)) = true := by decide +kernel
theorem f9 : (pinsAll 3).all (fun q => factB (tb.den 58) ("aoi21", q)) = true := by decide +kernel
theorem f10 : (pinsAll 3).all (fun q => factB (tb.den 58) ("oai21", q)) = true := by decide +kernel
theorem f11 : (pinsAll 3).all (fun q => factB (tb.den 58) ("mux2", q)) = true := by decide +kernel
theorem f12 : (pinsAll 0).all (fun q => factB (tb.den 58) ("tie0", q)) = true := by decide +kernel
theorem f13 : (pinsAll 0).all (fun q => factB (tb.den 58) ("tie1", q)) = true := by decide +kernel
theorem facts : ∀ p ∈ kinds, (pinsAll p.2).all (fun q => factB (tb.den 58) (p.1, q)) = true := by
  simp only [kinds, List.mem_cons, List.not_mem_nil, or_false, forall_eq_or_imp, forall_eq]
  exact ⟨f0, f1, f2, f3, f4, f5, f6, f7, f8, f9, f10, f11, f12, f13⟩
end K40

set_option Elab.async false
set_option linter.all false
set_option maxRecDepth 100000
set_option maxHeartbeats 4000000
namespace K40
open PySem PySem.Spec PyProof.Rows L2 En
theorem draw_ok (k : Nat) : DrawOk (tb.den (k + 1) 7) := fun c r t m s h1 h2 => draw_run (tb.glo (tb.den k)) h1 h2
theorem sameT_is {f : Nat → List D → Store → Out R} {o : Out R} {d : D} (h : sameT f o d = true) : ∃ x s s', o = .ok (.v x) s ∧ (flat x).isSome = true ∧ f 10 [x, d] [] = .ok (.v (.bl true)) s' := by
  unfold sameT at h
  split at h
  · rename_i x hx
    obtain ⟨hf, s, e⟩ := okF_is hx
    obtain ⟨s', e'⟩ := okT_is h
    exact ⟨x, s, s', e, hf, e'⟩
  · cases h
theorem cmp_lst (gd : Nat → List (Str × D)) (x : D) (ds : List D) (s : Store) : cmpR gd .notIn x (.lst ds) s = cmpR gd .notIn x (.lst ds) [] := rfl
theorem two {g : Int} (h1 : 0 ≤ g) (h2 : g < 2) : g = 0 ∨ g = 1 := by omega
theorem right_run {f : Nat → List D → Store → Out R} (hd : DrawOk (f 7)) {kind : Str} {pins : List D} (hc : cbs 0 pins = true) (h : factB f (kind, pins) = true) (c r t : Int) :
    ∃ c' r' t' : Int, runF (tb.glo f) i_law_right.d [.cell 0, .str kind, .lst pins] [.lst [.int c, .int r, .int t]] = .ok (.v (.bl true)) [.lst [.int c', .int r', .int t']] := by
  unfold factB at h
  simp only at h
  split at h
  · rename_i due hdue
    obtain ⟨fd, sd, e15⟩ := okF_is hdue
    have cd := flat_cb fd
    simp only [Bool.and_eq_true] at h
    obtain ⟨⟨⟨hT, hL⟩, hS⟩, hN⟩ := h
    obtain ⟨xT, sT, sT', eT, fT, e10T⟩ := sameT_is hT
    obtain ⟨xL, sL, sL', eL, fL, e10L⟩ := sameT_is hL
    obtain ⟨sS, eS⟩ := okT_is hS
    have cT := flat_cb fT
    have cL := flat_cb fL
    have z1 : cbs 0 [.str kind, .lst pins] = true := by simp [cbs, cb, hc]
    have zt : cbs 0 [.str kind, .tup pins] = true := by simp [cbs, cb, hc]
    have zp : cbs 0 [D.lst pins, .lst pins] = true := by simp [cbs, cb, hc]
    have zT : cbs 0 [xT, due] = true := by simp [cbs, cT, cd]
    have zL : cbs 0 [xL, due] = true := by simp [cbs, cL, cd]
    obtain ⟨g, c1, r1, t1, g1, g2, eg⟩ := draw_call hd c r t 2 [] (by decide) (by decide)
    -- the test behind the first draw
    have first : exS (tb.glo f) 1 (.ifs (.e (.cmp .eq (.call 7 (.cons (.var 0) (.cons (.int 2) .nil))) (.int 1))) (.cons (.ifs (.not (.e (.call 10 (.cons (.call 5 (.cons (.var 1) (.cons (.blt .tuple (.cons (.var 2) .nil)) .nil))) (.cons (.var 3) .nil))))) (.cons (.ret (.bl false))
    .nil) .nil)
    .nil) (.cons (.ifs (.not (.e (.call 10 (.cons (.call 5 (.cons (.var 1) (.cons (.var 4) .nil))) (.cons (.var 3) .nil))))) (.cons (.ret (.bl false))
    .nil) .nil)
    .nil)) [some (.cell 0), some (.str kind), some (.lst pins), some due, some (.lst pins)] [.lst [.int c, .int r, .int t]] = .ok (.nx, [some (.cell 0), some (.str kind), some (.lst pins), some due, some (.lst pins)]) [.lst [.int c1, .int r1, .int t1]] := by
      rcases two g1 g2 with rfl | rfl
      · refine s_if0 (t_e (e_cmp (k := false) (e_call (es_cons (e_var rfl) (es_cons e_int es_nil)) eg) e_int rfl) tru_bl) ?_
        refine ss_nx (s_if0 (t_not1 (t_e (e_call (es_cons (e_call (es_cons (e_var rfl) (es_cons (e_var rfl) es_nil)) (callR_of z1 eL)) (es_cons (e_var rfl) es_nil)) (callR_of zL e10L)) tru_bl)) ss_nil) ss_nil
      · refine s_if1 (t_e (e_cmp (k := true) (e_call (es_cons (e_var rfl) (es_cons e_int es_nil)) eg) e_int rfl) tru_bl) ?_
        refine ss_nx (s_if0 (t_not1 (t_e (e_call (es_cons (e_call (es_cons (e_var rfl) (es_cons (e_blt (es_cons (e_var rfl) es_nil) rfl) es_nil)) (callR_of zt eT)) (es_cons (e_var rfl) es_nil)) (callR_of zT e10T)) tru_bl)) ss_nil) ss_nil
    have last : ∀ (d : D) (s : Store), exSs (tb.glo f) 1 (.cons (.ret (.call 10 (.cons (.var 4) (.cons (.var 2) .nil)))) .nil) [some (.cell 0), some (.str kind), some (.lst pins), some d, some (.lst pins)] s = .ok (.ret (.v (.bl true)), [some (.cell 0), some (.str kind), some (.lst pins), some d, some (.lst pins)]) s := fun d s =>
      ss_ret (s_ret (e_call (es_cons (e_var rfl) (es_cons (e_var rfl) es_nil)) (callR_of zp eS)))
    have head : ∀ {o}, exSs (tb.glo f) 1 (.cons (.ifs (.e (.cmp .notIn .non (.var 2))) (.cons (.asg (.name 3) (.call 14 (.cons (.var 1) (.cons (.var 2) .nil))))
    (.cons (.ifs (.not (.e (.call 10 (.cons (.call 17 (.cons (.var 1) (.cons (.var 2) (.cons (.cmp .eq (.call 7 (.cons (.var 0) (.cons (.int 2) .nil))) (.int 0)) .nil)))) (.cons (.var 3) .nil))))) (.cons (.ret (.bl false))
    .nil) .nil)
    .nil)) .nil)
    (.cons (.ret (.call 10 (.cons (.var 4) (.cons (.var 2) .nil))))
    .nil)) [some (.cell 0), some (.str kind), some (.lst pins), some due, some (.lst pins)] [.lst [.int c1, .int r1, .int t1]] = o → exSs (tb.glo f) 1 i_law_right.d.body [some (.cell 0), some (.str kind), some (.lst pins), none, none] [.lst [.int c, .int r, .int t]] = o := fun {o} h =>
      ss_nx (s_name (e_call (es_cons (e_var rfl) (es_cons (e_var rfl) es_nil)) (callR_of z1 e15))) (ss_nx (s_name (e_blt (es_cons (e_var rfl) es_nil) rfl)) (ss_nx first h))
    split at hN
    · rename_i hcm
      refine ⟨c1, r1, t1, run_of rfl (head (ss_nx (s_if0 (t_e (e_cmp e_non (e_var rfl) hcm) tru_bl) ss_nil) (last _ _))) rfl⟩
    · rename_i hcm
      split at hN
      · rename_i d2 hd2
        obtain ⟨f2, s2, e14⟩ := okF_is hd2
        have c2 := flat_cb f2
        simp only [Bool.and_eq_true] at hN
        obtain ⟨xt, st, st', et, ft, e10t⟩ := sameT_is hN.1
        obtain ⟨xf, sf, sf', ef, ff, e10f⟩ := sameT_is hN.2
        have ct := flat_cb ft
        have cf := flat_cb ff
        have zt' : cbs 0 [xt, d2] = true := by simp [cbs, ct, c2]
        have zf' : cbs 0 [xf, d2] = true := by simp [cbs, cf, c2]
        have z3 : ∀ k, cbs 0 [.str kind, .lst pins, .bl k] = true := fun k => by simp [cbs, cb, hc]
        obtain ⟨g', c3, r3, t3, g1', g2', eg'⟩ := draw_call hd c1 r1 t1 2 [] (by decide) (by decide)
        refine ⟨c3, r3, t3, run_of (s1 := [.lst [.int c3, .int r3, .int t3]]) rfl (head (ss_nx (s_if1 (t_e (e_cmp e_non (e_var rfl) hcm) tru_bl) (ss_nx (s_name (e_call (es_cons (e_var rfl) (es_cons (e_var rfl) es_nil)) (callR_of z1 e14))) ?_)) (last d2 _))) rfl⟩
        rcases two g1' g2' with rfl | rfl
        · exact ss_nx (s_if0 (t_not1 (t_e (e_call (es_cons (e_call (es_cons (e_var rfl) (es_cons (e_var rfl) (es_cons (e_cmp (k := true) (e_call (es_cons (e_var rfl) (es_cons e_int es_nil)) eg') e_int rfl) es_nil))) (callR_of (z3 true) et)) (es_cons (e_var rfl) es_nil)) (callR_of zt' e10t)) tru_bl)) ss_nil) ss_nil
        · exact ss_nx (s_if0 (t_not1 (t_e (e_call (es_cons (e_call (es_cons (e_var rfl) (es_cons (e_var rfl) (es_cons (e_cmp (k := false) (e_call (es_cons (e_var rfl) (es_cons e_int es_nil)) eg') e_int rfl) es_nil))) (callR_of (z3 false) ef)) (es_cons (e_var rfl) es_nil)) (callR_of zf' e10f)) tru_bl)) ss_nil) ss_nil
      · cases hN
    · cases hN
  · cases h
end K40

set_option Elab.async false
set_option linter.all false
set_option maxRecDepth 100000
set_option maxHeartbeats 4000000
namespace K40
open PySem PySem.Spec PyProof.Rows L2 En
def okPin : D → Bool
  | .int i => decide (i = 0) || decide (i = 1)
  | .non => true
  | _ => false
theorem mem_pins : ∀ (n : Nat) (q : List D), q.length = n → q.all okPin = true → q ∈ pinsAll n
  | 0, [], _, _ => by simp [pinsAll]
  | 0, _ :: _, h, _ => by simp at h
  | n + 1, [], h, _ => by simp at h
  | n + 1, d :: q, h, h2 => by
    simp only [List.all_cons, Bool.and_eq_true] at h2
    have ih := mem_pins n q (by simpa using h) h2.2
    simp only [pinsAll, List.mem_flatMap]
    refine ⟨q, ih, ?_⟩
    have h1 := h2.1
    unfold okPin at h1
    split at h1
    · simp only [Bool.or_eq_true, decide_eq_true_eq] at h1
      rcases h1 with rfl | rfl <;> simp
    · simp
    · cases h1
theorem pins_cb {q : List D} (h : q.all okPin = true) : cbs 0 q = true := cbs_iff.mpr fun d m => by
  have h1 := List.all_eq_true.mp h d m
  unfold okPin at h1
  split at h1
  · rfl
  · rfl
  · cases h1
def factK (f : Nat → List D → Store → Out R) (p : Str × Nat) : Bool :=
  (match f 13 [.str p.1] [] with | .ok (.v (.int i)) _ => decide (i = (p.2 : Int)) | _ => false) &&
  (match okF (f 0 [.str p.1] []) with | some x => okT (f 10 [x, .int p.2] []) | none => false) &&
  (rngL 0 (3 ^ p.2)).all fun code => match f 16 [code, .int p.2] [] with | .ok (.n (.lst pins)) _ => decide (pins.length = p.2) && pins.all okPin | _ => false
theorem factKs : kinds.all (factK (tb.den 59)) = true := by decide +kernel
def K16 : List D := [.str "inv", .str "nand2", .str "nor2", .str "and2", .str "or2", .str "xor2", .str "xnor2", .str "nand3", .str "nor3", .str "aoi21", .str "oai21", .str "mux2", .str "tie0", .str "tie1", .str "sdff0", .str "sdff1"]
theorem k12_ok : ∃ s, tb.den 59 12 [] [] = .ok (.n (.lst K16)) s := ⟨_, by rfl⟩
theorem same0 : okT (tb.den 59 10 [gl 3, .tup K16] []) = true := by decide +kernel
end K40

set_option Elab.async false
set_option linter.all false
set_option maxRecDepth 100000
set_option maxHeartbeats 4000000
namespace K40
open PySem PySem.Spec PyProof.Rows L2 En
def PSt (s : Store) : Prop := ∃ c r t : Int, s = [.lst [.int c, .int r, .int t]]
structure Has (f : Nat → List D → Store → Out R) : Prop where
  draw : DrawOk (f 7)
  pick : ∀ c r t : Int, ∃ d c' r' t', d ∈ [D.int 0, .int 1, .non] ∧ f 8 [.cell 0, .lst [.int 0, .int 1, .non]] [.lst [.int c, .int r, .int t]] = .ok (.v d) [.lst [.int c', .int r', .int t']]
  right : ∀ (kind : Str) (n : Nat) (pins : List D) (c r t : Int), (kind, n) ∈ kinds → pins.length = n → pins.all okPin = true → ∃ c' r' t' : Int, f 18 [.cell 0, .str kind, .lst pins] [.lst [.int c, .int r, .int t]] = .ok (.v (.bl true)) [.lst [.int c', .int r', .int t']]
  facts : ∀ p ∈ kinds, factK f p = true
  kinds : ∃ s, f 12 [] [] = .ok (.n (.lst K16)) s
  same0 : ∃ s, f 10 [gl 3, .tup K16] [] = .ok (.v (.bl true)) s
structure KOk (f : Nat → List D → Store → Out R) (kind : Str) (n : Nat) : Prop where
  mem : (kind, n) ∈ K40.kinds
  three : n ≤ 3
  count : ∃ s, f 13 [.str kind] [] = .ok (.v (.int n)) s
  inp : ∃ x s s', f 0 [.str kind] [] = .ok (.v x) s ∧ cb 0 x = true ∧ f 10 [x, .int n] [] = .ok (.v (.bl true)) s'
  choice : ∀ code ∈ rngL 0 (3 ^ n), ∃ pins s, f 16 [code, .int n] [] = .ok (.n (.lst pins)) s ∧ pins.length = n ∧ pins.all okPin = true
theorem kok {f : Nat → List D → Store → Out R} (h : Has f) {kind : Str} {n : Nat} (m : (kind, n) ∈ K40.kinds) : KOk f kind n := by
  have q := h.facts _ m
  unfold factK at q
  simp only [Bool.and_eq_true, List.all_eq_true] at q
  obtain ⟨⟨q1, q2⟩, q3⟩ := q
  refine ⟨m, ?_, ?_, ?_, fun code hm => ?_⟩
  · have : ∀ p ∈ K40.kinds, p.2 ≤ 3 := by decide
    exact this _ m
  · split at q1
    · rename_i i s e
      simp only [decide_eq_true_eq] at q1
      exact ⟨s, by rw [e, q1]⟩
    · cases q1
  · split at q2
    · rename_i x hx
      obtain ⟨fx, s, e⟩ := okF_is hx
      obtain ⟨s', e'⟩ := okT_is q2
      exact ⟨x, s, s', e, flat_cb fx, e'⟩
    · cases q2
  · have q := q3 code hm
    split at q
    · rename_i pins s e
      simp only [Bool.and_eq_true, decide_eq_true_eq] at q
      exact ⟨pins, s, e, q.1, q.2⟩
    · cases q
theorem ix_pow {n : Nat} (h : n ≤ 3) (gd : Nat → List (Str × D)) (s : Store) : ixR gd (.lst [.int 1, .int 3, .int 9, .int 27]) (.int (n : Int)) s = some (.v (.int ((3 ^ n : Nat) : Int))) := by
  match n, h with
  | 0, _ => rfl
  | 1, _ => rfl
  | 2, _ => rfl
  | 3, _ => rfl
theorem pow_le {n : Nat} (h : n ≤ 3) : 3 ^ n ≤ 27 := by
  match n, h with
  | 0, _ => decide
  | 1, _ => decide
  | 2, _ => decide
  | 3, _ => decide
theorem kinds_all : ∀ d ∈ K16.take 14, ∃ p ∈ K40.kinds, d = .str p.1 := by
  intro d m
  simp only [K16, List.take_succ_cons, List.take_zero, List.mem_cons, List.not_mem_nil, or_false] at m
  rcases m with rfl | rfl | rfl | rfl | rfl | rfl | rfl | rfl | rfl | rfl | rfl | rfl | rfl | rfl
  · exact ⟨("inv", 1), by simp [K40.kinds], rfl⟩
  · exact ⟨("nand2", 2), by simp [K40.kinds], rfl⟩
  · exact ⟨("nor2", 2), by simp [K40.kinds], rfl⟩
  · exact ⟨("and2", 2), by simp [K40.kinds], rfl⟩
  · exact ⟨("or2", 2), by simp [K40.kinds], rfl⟩
  · exact ⟨("xor2", 2), by simp [K40.kinds], rfl⟩
  · exact ⟨("xnor2", 2), by simp [K40.kinds], rfl⟩
  · exact ⟨("nand3", 3), by simp [K40.kinds], rfl⟩
  · exact ⟨("nor3", 3), by simp [K40.kinds], rfl⟩
  · exact ⟨("aoi21", 3), by simp [K40.kinds], rfl⟩
  · exact ⟨("oai21", 3), by simp [K40.kinds], rfl⟩
  · exact ⟨("mux2", 3), by simp [K40.kinds], rfl⟩
  · exact ⟨("tie0", 0), by simp [K40.kinds], rfl⟩
  · exact ⟨("tie1", 0), by simp [K40.kinds], rfl⟩
section
variable {f : Nat → List D → Store → Out R} {sc : D}
/-- right(pool, kind, pins) as a test that holds -/
theorem t_right (h : Has f) {kind : Str} {n : Nat} {pins : List D} {a : IE} {e : En.Env} {s : Store} (p : PSt s) (m : (kind, n) ∈ K40.kinds) (e1 : e[1]? = some (some (.cell 0))) (e2 : e[2]? = some (some (.str kind)))
    (ha : ∃ r, evE (tb.glo f) 0 a e s = .ok r s ∧ r.d = .lst pins) (hl : pins.length = n) (hp : pins.all okPin = true) : ∃ s', PSt s' ∧ evT (tb.glo f) 0 (.not (.e (.call 18 (.cons (.var 1) (.cons (.var 2) (.cons a .nil)))))) e s = .ok false s' := by
  obtain ⟨c, r, t, rfl⟩ := p
  obtain ⟨x, hx, hd⟩ := ha
  obtain ⟨c', r', t', e18⟩ := h.right kind n pins c r t m hl hp
  have hz : callR ((tb.glo f).fn 18) [.cell 0, .str kind, x.d] [.lst [.int c, .int r, .int t]] = .ok (.v (.bl true)) [.lst [.int c', .int r', .int t']] := by
    rw [hd]
    exact callR_at rfl e18
  exact ⟨_, ⟨c', r', t', rfl⟩, t_not1 (t_e (e_call (es_cons (e_var e1) (es_cons (e_var e2) (es_cons hx es_nil))) hz) tru_bl)⟩
theorem t_inp {n : Nat} {kind : Str} (k : KOk f kind n) {e : En.Env} {s : Store} (e2 : e[2]? = some (some (.str kind))) (e3 : e[3]? = some (some (.int n))) :
    evT (tb.glo f) 0 (.not (.e (.call 10 (.cons (.call 0 (.cons (.var 2) .nil)) (.cons (.var 3) .nil))))) e s = .ok false s := by
  obtain ⟨x, s1, s2, h1, h2, h3⟩ := k.inp
  exact t_not1 (t_e (e_call (es_cons (e_call (es_cons (e_var e2) es_nil) (callR_of (by simp [cbs, cb]) h1)) (es_cons (e_var e3) es_nil)) (callR_of (by simp [cbs, cb, h2]) h3)) tru_bl)
def bCode : ISs := .cons (.ifs (.not (.e (.call 18 (.cons (.var 1) (.cons (.var 2) (.cons (.call 16 (.cons (.var 4) (.cons (.var 3) .nil))) .nil)))))) (.cons (.ret (.bl false))
    .nil) .nil)
    .nil
def bKind : ISs := .cons (.asg (.name 3) (.call 13 (.cons (.var 2) .nil)))
    (.cons (.ifs (.not (.e (.call 10 (.cons (.call 0 (.cons (.var 2) .nil)) (.cons (.var 3) .nil))))) (.cons (.ret (.bl false))
    .nil) .nil)
    (.cons (.for_ (.name 4) (.rng1 (.ix (.lst (.cons (.int 1) (.cons (.int 3) (.cons (.int 9) (.cons (.int 27) .nil))))) (.var 3))) bCode)
    .nil))
def lPins : IE := .lc [("k", 7)] (.name 7) (.rng1 (.var 3)) .yes (.call 8 (.cons (.var 1) (.cons (.lst (.cons (.int 0) (.cons (.int 1) (.cons .non .nil)))) .nil)))
def bTurn : ISs := .cons (.asg (.name 2) (.ix (.call 12 .nil) (.call 7 (.cons (.var 1) (.cons (.int 14) .nil)))))
    (.cons (.asg (.name 3) (.call 13 (.cons (.var 2) .nil)))
    (.cons (.asg (.name 6) lPins)
    (.cons (.ifs (.or (.not (.e (.call 18 (.cons (.var 1) (.cons (.var 2) (.cons (.var 6) .nil)))))) (.not (.e (.call 10 (.cons (.call 0 (.cons (.var 2) .nil)) (.cons (.var 3) .nil)))))) (.cons (.ret (.bl false))
    .nil) .nil)
    .nil)))
def body : ISs := .cons (.asg (.name 1) (.mu (.call 6 (.cons (.var 0) (.cons (.int 0) .nil)))))
    (.cons (.ifs (.not (.e (.call 10 (.cons (.gl 3) (.cons (.blt .tuple (.cons (.call 12 .nil) .nil)) .nil))))) (.cons (.ret (.bl false))
    .nil) .nil)
    (.cons (.for_ (.name 2) (.seq (.call 11 (.cons (.var 1) (.cons (.sl (.call 12 .nil) .none (.some (.int 14))) .nil)))) bKind)
    (.cons (.for_ (.name 5) (.rng1 (.int 5)) bTurn)
    (.cons (.ret (.bl true))
    .nil))))
theorem body_is : i_law.d = { slots := 8, params := 1, body := body } := rfl
theorem code_loop (h : Has f) {n : Nat} {kind : Str} (k : KOk f kind n) {x4 x5 x6 x7 : Option D} {s : Store} (p : PSt s) :
    ∃ x4' s', PSt s' ∧ exS (tb.glo f) 0 (.for_ (.name 4) (.rng1 (.ix (.lst (.cons (.int 1) (.cons (.int 3) (.cons (.int 9) (.cons (.int 27) .nil))))) (.var 3))) bCode) [some sc, some (.cell 0), some (.str kind), some (.int n), x4, x5, x6, x7] s
      = .ok (.nx, [some sc, some (.cell 0), some (.str kind), some (.int n), x4', x5, x6, x7]) s' := by
  have rng : evI (tb.glo f) 0 (.rng1 (.ix (.lst (.cons (.int 1) (.cons (.int 3) (.cons (.int 9) (.cons (.int 27) .nil))))) (.var 3))) [some sc, some (.cell 0), some (.str kind), some (.int n), x4, x5, x6, x7] s = .ok (.l (rngL 0 (3 ^ n))) s := by
    refine i_rng1 (e_ix (e_lst (es_cons e_int (es_cons e_int (es_cons e_int (es_cons e_int es_nil)))) (by simp)) (e_var rfl) (ix_pow k.three _ _)) rfl ?_
    have := pow_le k.three
    omega
  obtain ⟨e', s', h1, _, x4', rfl, p'⟩ := forL_inv (f := fun d e1 s2 => (asG (tb.glo f) 0 (.name 4) d e1 s2).bind fun e2 s3 => exSs (tb.glo f) 0 bCode e2 s3)
    (fun ds e s => (∀ d ∈ ds, d ∈ rngL 0 (3 ^ n)) ∧ ∃ x4, e = [some sc, some (.cell 0), some (.str kind), some (.int n), x4, x5, x6, x7] ∧ PSt s)
    (rngL 0 (3 ^ n)) [some sc, some (.cell 0), some (.str kind), some (.int n), x4, x5, x6, x7] s ⟨fun d m => m, x4, rfl, p⟩ (by
      rintro d ds e s ⟨hm, x4, rfl, p⟩
      obtain ⟨pins, sp, e16, hl, hp⟩ := k.choice d (hm d List.mem_cons_self)
      have cd : cb 0 d = true := by
        obtain ⟨i, _, rfl⟩ := rngL_mem _ _ _ (hm d List.mem_cons_self)
        rfl
      obtain ⟨s', p', et⟩ := t_right (e := [some sc, some (.cell 0), some (.str kind), some (.int n), some d, x5, x6, x7]) (a := .call 16 (.cons (.var 4) (.cons (.var 3) .nil))) h p k.mem rfl rfl
        ⟨_, e_call (es_cons (e_var rfl) (es_cons (e_var rfl) es_nil)) (callR_of (by simp [cbs, cb, cd]) e16), rfl⟩ hl hp
      refine ⟨_, s', ?_, fun d m => hm d (List.mem_cons_of_mem _ m), some d, rfl, p'⟩
      show exSs (tb.glo f) 0 bCode [some sc, some (.cell 0), some (.str kind), some (.int n), some d, x5, x6, x7] s = _
      exact ss_nx (s_if0 et ss_nil) ss_nil)
  exact ⟨x4', s', p', s_for rng h1⟩
theorem kind_loop (h : Has f) {x2 x3 x4 x5 x6 x7 : Option D} : ∀ (ds : List D) (e : En.Env) (s : Store), ((∀ d ∈ ds, d ∈ K16.take 14) ∧ ∃ x2 x3 x4, e = [some sc, some (.cell 0), x2, x3, x4, x5, x6, x7] ∧ PSt s) →
    ∃ e' s', forL (fun d e1 s2 => (asG (tb.glo f) 0 (.name 2) d e1 s2).bind fun e2 s3 => exSs (tb.glo f) 0 bKind e2 s3) ds e s = .ok (.nx, e') s' ∧ ((∀ d ∈ ([] : List D), d ∈ K16.take 14) ∧ ∃ x2 x3 x4, e' = [some sc, some (.cell 0), x2, x3, x4, x5, x6, x7] ∧ PSt s') := fun ds e s hP =>
  forL_inv (fun ds e s => (∀ d ∈ ds, d ∈ K16.take 14) ∧ ∃ x2 x3 x4, e = [some sc, some (.cell 0), x2, x3, x4, x5, x6, x7] ∧ PSt s) ds e s hP (by
    rintro d ds e s ⟨hm, x2, x3, x4, rfl, p⟩
    obtain ⟨⟨kind, n⟩, hk, rfl⟩ := kinds_all d (hm d List.mem_cons_self)
    have k := kok h hk
    obtain ⟨sc1, e13⟩ := k.count
    obtain ⟨x4', s', p', el⟩ := code_loop (sc := sc) (x4 := x4) (x5 := x5) (x6 := x6) (x7 := x7) h k p
    refine ⟨_, s', ?_, fun d m => hm d (List.mem_cons_of_mem _ m), some (.str kind), some (.int n), x4', rfl, p'⟩
    show exSs (tb.glo f) 0 bKind [some sc, some (.cell 0), some (.str kind), x3, x4, x5, x6, x7] s = _
    exact ss_nx (s_name (e_call (es_cons (e_var rfl) es_nil) (callR_of rfl e13))) (ss_nx (s_if0 (t_inp k rfl rfl) ss_nil) (ss_nx el ss_nil)))
theorem pins_ok (h : Has f) {n : Nat} (hn : n ≤ 3) {x2 x4 x5 x6 x7 : Option D} {s : Store} (p : PSt s) :
    ∃ pins s', pins.length = n ∧ pins.all okPin = true ∧ PSt s' ∧ evE (tb.glo f) 0 lPins [some sc, some (.cell 0), x2, some (.int n), x4, x5, x6, x7] s = .ok (.n (.lst pins)) s' := by
  obtain ⟨r, s', hr, ⟨q1, q2, q3⟩⟩ := lcL_inv (f := fun d s1 => (asG (tb.glo f) 0 (.name 7) d (wipeE [some sc, some (.cell 0), x2, some (.int n), x4, x5, x6, x7] [7]) s1).bind fun e2 s2 => (evC (tb.glo f) 0 .yes e2 s2).bind fun k s3 =>
      if k then (evE (tb.glo f) 0 (.call 8 (.cons (.var 1) (.cons (.lst (.cons (.int 0) (.cons (.int 1) (.cons .non .nil)))) .nil))) e2 s3).bind fun r s4 => .ok [r.d] s4 else .ok [] s3)
    (fun ds acc s => acc.length + ds.length = n ∧ acc.all okPin = true ∧ PSt s) (by
      rintro d ds acc s ⟨h1, h2, c, r, t, rfl⟩
      obtain ⟨x, c', r', t', hx, e8⟩ := h.pick c r t
      have ex : evE (tb.glo f) 0 (.call 8 (.cons (.var 1) (.cons (.lst (.cons (.int 0) (.cons (.int 1) (.cons .non .nil)))) .nil))) [some sc, some (.cell 0), x2, some (.int n), x4, x5, x6, some d] [.lst [.int c, .int r, .int t]] = .ok (.v x) [.lst [.int c', .int r', .int t']] :=
        e_call (es_cons (e_var rfl) (es_cons (e_lst (es_cons e_int (es_cons e_int (es_cons e_non es_nil))) (by simp)) es_nil)) (callR_at rfl e8)
      refine ⟨[x], [.lst [.int c', .int r', .int t']], ?_, ?_, ?_, c', r', t', rfl⟩
      · simp only [asG, wipeE, List.set_cons_succ, List.set_cons_zero, Out.bind_ok, evC, if_true, ex, R.d_v]
      · rw [List.length_append, List.length_singleton]
        rw [List.length_cons] at h1
        omega
      · rw [List.all_append, h2]
        simp only [List.mem_cons, List.not_mem_nil, or_false] at hx
        rcases hx with rfl | rfl | rfl <;> rfl) (rngL 0 n) [] s ⟨by simp [rngL_len], rfl, p⟩
  refine ⟨r, s', by simpa using q1, by simpa using q2, q3, ?_⟩
  exact e_lc (i_rng1 (e_var rfl) rfl (by omega)) (by rw [rngL_len]; omega) hr
theorem turn_loop (h : Has f) : ∀ (ds : List D) (e : En.Env) (s : Store), (∃ x2 x3 x4 x5 x6 x7, e = [some sc, some (.cell 0), x2, x3, x4, x5, x6, x7] ∧ PSt s) →
    ∃ e' s', forL (fun d e1 s2 => (asG (tb.glo f) 0 (.name 5) d e1 s2).bind fun e2 s3 => exSs (tb.glo f) 0 bTurn e2 s3) ds e s = .ok (.nx, e') s' ∧ (∃ x2 x3 x4 x5 x6 x7, e' = [some sc, some (.cell 0), x2, x3, x4, x5, x6, x7] ∧ PSt s') := fun ds e s hP =>
  forL_inv (fun ds e s => ∃ x2 x3 x4 x5 x6 x7, e = [some sc, some (.cell 0), x2, x3, x4, x5, x6, x7] ∧ PSt s) ds e s hP (by
    rintro d ds e s ⟨x2, x3, x4, x5, x6, x7, rfl, c, r, t, rfl⟩
    obtain ⟨s12, e12⟩ := h.kinds
    obtain ⟨g, c1, r1, t1, g1, g2, eg⟩ := draw_call h.draw c r t 14 [] (by decide) (by decide)
    obtain ⟨kd, ha, hmk⟩ := atI_mem (xs := K16.take 14) g1 (by simpa [K16] using g2)
    obtain ⟨⟨kind, n⟩, hk, rfl⟩ := kinds_all kd hmk
    have k := kok h hk
    have ha' : atI K16 g = some (.str kind) := by
      obtain ⟨m, rfl⟩ := Int.eq_ofNat_of_zero_le g1
      have hm : m < 14 := by omega
      have q : (K16.take 14)[m]? = some (.str kind) := by
        obtain ⟨j, j1, j2, j3, _⟩ := atI_get ha
        have : j = m := by
          unfold seqIndex? at j1
          simp at j1
          omega
        rw [← this]; exact j2
      rw [List.getElem?_take_of_lt hm] at q
      exact atI_nat q
    obtain ⟨sc1, e13⟩ := k.count
    obtain ⟨pins, s1, hl, hp, p1, epins⟩ := pins_ok (sc := sc) (x2 := some (.str kind)) (x4 := x4) (x5 := some d) (x6 := x6) (x7 := x7) h k.three ⟨c1, r1, t1, rfl⟩
    obtain ⟨s2, p2, et⟩ := t_right (e := [some sc, some (.cell 0), some (.str kind), some (.int n), x4, some d, some (.lst pins), x7]) (a := .var 6) h p1 k.mem rfl rfl ⟨_, e_var rfl, rfl⟩ hl hp
    refine ⟨_, s2, ?_, some (.str kind), some (.int n), x4, some d, some (.lst pins), x7, rfl, p2⟩
    show exSs (tb.glo f) 0 bTurn [some sc, some (.cell 0), x2, x3, x4, some d, x6, x7] [.lst [.int c, .int r, .int t]] = _
    have hix : ixR (tb.glo f).gd (.lst K16) (.int g) [.lst [.int c1, .int r1, .int t1]] = some (.v (.str kind)) := by
      show (atI K16 g).map R.v = _
      rw [ha']
      rfl
    exact ss_nx (s_name (e_ix (e_call es_nil (callR_of rfl e12)) (e_call (es_cons (e_var rfl) (es_cons e_int es_nil)) eg) hix))
      (ss_nx (s_name (e_call (es_cons (e_var rfl) es_nil) (callR_of rfl e13))) (ss_nx (s_name epins) (ss_nx (s_if0 (t_or0 et (t_inp k rfl rfl)) ss_nil) ss_nil))))
theorem law_run (h : Has f) (ns : List Int) (hpool : ∃ c r t : Int, f 6 [.lst (ns.map .int), .int 0] [] = .ok (.n (.lst [.int c, .int r, .int t])) []) (horder : ∀ c r t : Int, ∃ ds c' r' t', List.Perm ds (K16.take 14) ∧ f 11 [.cell 0, .lst (K16.take 14)] [.lst [.int c, .int r, .int t]] = .ok (.n (.lst ds)) [.lst [.int c', .int r', .int t']]) :
    ∃ s, runF (tb.glo f) i_law.d [.lst (ns.map .int)] [] = .ok (.v (.bl true)) s := by
  obtain ⟨c, r, t, e6⟩ := hpool
  obtain ⟨s12, e12⟩ := h.kinds
  obtain ⟨s10, e10⟩ := h.same0
  obtain ⟨ds, c1, r1, t1, hperm, e11⟩ := horder c r t
  obtain ⟨e1, s1, l1, _, x2, x3, x4, rfl, p1⟩ := kind_loop (sc := .lst (ns.map .int)) (x2 := none) (x3 := none) (x4 := none) (x5 := none) (x6 := none) (x7 := none) h ds [some (.lst (ns.map .int)), some (.cell 0), none, none, none, none, none, none] [.lst [.int c1, .int r1, .int t1]] ⟨fun d m => hperm.mem_iff.mp m, none, none, none, rfl, c1, r1, t1, rfl⟩
  obtain ⟨e2, s2, l2, y2, y3, y4, y5, y6, y7, rfl, p2⟩ := turn_loop (sc := .lst (ns.map .int)) h (rngL 0 5) _ s1 ⟨x2, x3, x4, none, none, none, rfl, p1⟩
  refine ⟨[], ?_⟩
  rw [body_is]
  refine run_of (c := .ret (.v (.bl true))) (s1 := s2) rfl (e' := [some (.lst (ns.map .int)), some (.cell 0), y2, y3, y4, y5, y6, y7]) ?_ rfl
  show exSs (tb.glo f) 0 body [some (.lst (ns.map .int)), none, none, none, none, none, none, none] [] = _
  refine ss_nx (s_name (e_mu (e_call (es_cons (e_var rfl) (es_cons e_int es_nil)) (callR_of (by simp [cbs, cb, cbs_ints]) e6)))) ?_
  refine ss_nx (s_if0 (t_not1 (t_e (e_call (es_cons e_gl (es_cons (e_blt (es_cons (e_call es_nil (callR_of rfl e12)) es_nil) rfl) es_nil)) (callR_of rfl e10)) tru_bl)) ss_nil) ?_
  have esl : evE (tb.glo f) 0 (.sl (.call 12 .nil) .none (.some (.int 14))) [some (.lst (ns.map .int)), some (.cell 0), none, none, none, none, none, none] [.lst [.int c, .int r, .int t]] = .ok (.n (.lst (K16.take 14))) [.lst [.int c, .int r, .int t]] := by
    have q : evE (tb.glo f) 0 (.call 12 .nil) [some (.lst (ns.map .int)), some (.cell 0), none, none, none, none, none, none] [.lst [.int c, .int r, .int t]] = .ok (.n (.lst K16)) [.lst [.int c, .int r, .int t]] := e_call es_nil (callR_of rfl e12)
    rw [evE, q]
    rfl
  refine ss_nx (s_for (i_seq (e_call (es_cons (e_var rfl) (es_cons esl es_nil)) (callR_at rfl e11)) rfl) l1) ?_
  refine ss_nx (s_for (i_rng1 e_int rfl (by decide)) l2) ?_
  exact ss_ret (s_ret e_bl)
end
end K40

set_option Elab.async false
set_option linter.all false
set_option maxRecDepth 100000
set_option maxHeartbeats 4000000
namespace K40
open PySem PySem.Spec PyProof.Rows L2 En
def lv : Nat := 60
theorem has : Has (tb.den 59) where
  draw := by
    rw [show (59 : Nat) = 58 + 1 from rfl, den_succ (i := i_law_draw) rfl]
    exact fun c r t m s h1 h2 => draw_run _ h1 h2
  pick := fun c r t => by
    rw [show (59 : Nat) = 58 + 1 from rfl, den_succ (i := i_law_pick) rfl]
    obtain ⟨d, c', r', t', h1, h2⟩ := pick_run (tb.glo (tb.den 58)) (jd := 7) (draw_ok 57) (c := c) (r := r) (t := t) (s := []) (row := [.int 0, .int 1, .non]) (by decide) (by decide) rfl
    exact ⟨d, c', r', t', h1, h2⟩
  right := fun kind n pins c r t m hl hp => by
    rw [show (59 : Nat) = 58 + 1 from rfl, den_succ (i := i_law_right) rfl]
    exact right_run (draw_ok 57) (pins_cb hp) (List.all_eq_true.mp (K40.facts (kind, n) m) pins (mem_pins n pins hl hp)) c r t
  facts := List.all_eq_true.mp factKs
  kinds := k12_ok
  same0 := okT_is same0
theorem math (ns : List Int) : ∃ s, tb.den 60 19 [.lst (ns.map .int)] [] = .ok (.v (.bl true)) s := by
  rw [show (60 : Nat) = 59 + 1 from rfl, den_succ (i := i_law) rfl]
  refine law_run has ns ?_ fun c r t => ?_
  · rw [show (59 : Nat) = 58 + 1 from rfl, den_succ (i := i_law_pool) rfl]
    obtain ⟨c, r, h⟩ := pool_run (tb.glo (tb.den 58)) (ns := ns) (p := 0)
    exact ⟨c, r, 0, h⟩
  · rw [show (59 : Nat) = 58 + 1 from rfl, den_succ (i := i_law_order) rfl]
    exact order_run (tb.glo (tb.den 58)) (jd := 7) (draw_ok 57) (s := []) (by decide) (by decide)
end K40

set_option Elab.async false
open PySem PySem.W PyProof.Rows
set_option maxRecDepth 100000 in
set_option maxHeartbeats 0 in
theorem PySem.Challenge.cw_chipmill_k40_kinds_and_forcing_holds : PySem.Challenge.rw_chipmill_k40_kinds_and_forcing.Holds := by
  w_on; o_law; k_head; (case hw => w_witness2)
  k_fill
  refine L2.walk_of (l := PySem.Challenge.rw_chipmill_k40_kinds_and_forcing) (n := 63) (k := K40.lv) (x := "script") (CX := fun _ => L2.CX0) (sp := fun w => En.spLaw _ 63) rfl (by decide) rfl ⟨rfl, by decide, by decide⟩ (fun w h Y => PySem.W.kIn_of Y) ?F (fun _ _ a ns hl _ hS => ⟨a, ns, rfl, hS, hl, fun _ => rfl⟩) (fun _ _ _ _ _ h => h)
  case F =>
    intro w mg fa h KX G hmg
    have E0 := En.ent_mk (i := K40.i_kind_inputs) (x := "kind_inputs") (st := K40.topS 6) (ps := ["kind"]) rfl rfl rfl KX G (by k_is) (by k_is) (by k_is) (by k_is) (fun _ _ _ _ _ _ us hl => match us, hl with | [_], _ => rfl)
    have E1 := En.ent_mk (i := K40.i_table_of_two) (x := "table_of_two") (st := K40.topS 7) (ps := ["kind", "a", "b", "full"]) rfl rfl rfl KX G (by k_is) (by k_is) (by k_is) (by k_is) (fun _ _ _ _ _ _ us hl => match us, hl with | [_, _, _, _], _ => rfl)
    have E2 := En.ent_mk (i := K40.i_table_of_three) (x := "table_of_three") (st := K40.topS 8) (ps := ["kind", "a", "b", "c", "full"]) rfl rfl rfl KX G (by k_is) (by k_is) (by k_is) (by k_is) (fun _ _ _ _ _ _ us hl => match us, hl with | [_, _, _, _, _], _ => rfl)
    have E3 := En.ent_mk (i := K40.i_kind_table) (x := "kind_table") (st := K40.topS 9) (ps := ["kind", "tables", "full"]) rfl rfl rfl KX G (by k_is) (by k_is) (by k_is) (by k_is) (fun _ _ _ _ _ _ us hl => match us, hl with | [_, _, _], _ => rfl)
    have E4 := En.ent_mk (i := K40.i_kind_output) (x := "kind_output") (st := K40.topS 10) (ps := ["kind", "bits"]) rfl rfl rfl KX G (by k_is) (by k_is) (by k_is) (by k_is) (fun _ _ _ _ _ _ us hl => match us, hl with | [_, _], _ => rfl)
    have E5 := En.ent_mk (i := K40.i_forced_output) (x := "forced_output") (st := K40.topS 11) (ps := ["kind", "pins"]) rfl rfl rfl KX G (by k_is) (by k_is) (by k_is) (by k_is) (fun _ _ _ _ _ _ us hl => match us, hl with | [_, _], _ => rfl)
    have E6 := En.ent_mk (i := K40.i_law_pool) (x := "_law_pool") (st := K40.topS 13) (ps := ["script", "place"]) rfl rfl rfl KX G (by k_is) (by k_is) (by k_is) (by k_is) (fun _ _ _ _ _ _ us hl => match us, hl with | [_, _], _ => rfl)
    have E7 := En.ent_mk (i := K40.i_law_draw) (x := "_law_draw") (st := K40.topS 14) (ps := ["pool", "many"]) rfl rfl rfl KX G (by k_is) (by k_is) (by k_is) (by k_is) (fun _ _ _ _ _ _ us hl => match us, hl with | [_, _], _ => rfl)
    have E8 := En.ent_mk (i := K40.i_law_pick) (x := "_law_pick") (st := K40.topS 15) (ps := ["pool", "row"]) rfl rfl rfl KX G (by k_is) (by k_is) (by k_is) (by k_is) (fun _ _ _ _ _ _ us hl => match us, hl with | [_, _], _ => rfl)
    have E9 := En.ent_mk (i := K40.i_law_whole) (x := "_law_whole") (st := K40.topS 16) (ps := ["value"]) rfl rfl rfl KX G (by k_is) (by k_is) (by k_is) (by k_is) (fun _ _ _ _ _ _ us hl => match us, hl with | [_], _ => rfl)
    have E10 := En.ent_mk (i := K40.i_law_same) (x := "_law_same") (st := K40.topS 17) (ps := ["value", "due"]) rfl rfl rfl KX G (by k_is) (by k_is) (by k_is) (by k_is) (fun _ _ _ _ _ _ us hl => match us, hl with | [_, _], _ => rfl)
    have E11 := En.ent_mk (i := K40.i_law_order) (x := "_law_order") (st := K40.topS 18) (ps := ["pool", "row"]) rfl rfl rfl KX G (by k_is) (by k_is) (by k_is) (by k_is) (fun _ _ _ _ _ _ us hl => match us, hl with | [_, _], _ => rfl)
    have E12 := En.ent_mk (i := K40.i_law_kinds) (x := "_law_kinds") (st := K40.topS 19) (ps := []) rfl rfl rfl KX G (by k_is) (by k_is) (by k_is) (by k_is) (fun _ _ _ _ _ _ us hl => match us, hl with | [], _ => rfl)
    have E13 := En.ent_mk (i := K40.i_law_pins_of) (x := "_law_pins_of") (st := K40.topS 20) (ps := ["kind"]) rfl rfl rfl KX G (by k_is) (by k_is) (by k_is) (by k_is) (fun _ _ _ _ _ _ us hl => match us, hl with | [_], _ => rfl)
    have E14 := En.ent_mk (i := K40.i_law_kind) (x := "_law_kind") (st := K40.topS 21) (ps := ["kind", "bits"]) rfl rfl rfl KX G (by k_is) (by k_is) (by k_is) (by k_is) (fun _ _ _ _ _ _ us hl => match us, hl with | [_, _], _ => rfl)
    have E15 := En.ent_mk (i := K40.i_law_forced) (x := "_law_forced") (st := K40.topS 22) (ps := ["kind", "pins"]) rfl rfl rfl KX G (by k_is) (by k_is) (by k_is) (by k_is) (fun _ _ _ _ _ _ us hl => match us, hl with | [_, _], _ => rfl)
    have E16 := En.ent_mk (i := K40.i_law_choice) (x := "_law_choice") (st := K40.topS 23) (ps := ["code", "count"]) rfl rfl rfl KX G (by k_is) (by k_is) (by k_is) (by k_is) (fun _ _ _ _ _ _ us hl => match us, hl with | [_, _], _ => rfl)
    have E17 := En.ent_mk (i := K40.i_law_output) (x := "_law_output") (st := K40.topS 24) (ps := ["kind", "bits", "listed"]) rfl rfl rfl KX G (by k_is) (by k_is) (by k_is) (by k_is) (fun _ _ _ _ _ _ us hl => match us, hl with | [_, _, _], _ => rfl)
    have E18 := En.ent_mk (i := K40.i_law_right) (x := "_law_right") (st := K40.topS 25) (ps := ["pool", "kind", "pins"]) rfl rfl rfl KX G (by k_is) (by k_is) (by k_is) (by k_is) (fun _ _ _ _ _ _ us hl => match us, hl with | [_, _, _], _ => rfl)
    have E19 := En.ent_mk (i := K40.i_law) (x := "law") (st := K40.topS 26) (ps := ["script"]) rfl rfl rfl KX G (by k_is) (by k_is) (by k_is) (by k_is) (fun _ _ _ _ _ _ us hl => match us, hl with | [_], _ => rfl)
    have g0 := En.ns_look (x := "INPUTS") KX (by k_is)
    have g1 := En.ns_look (x := "CHOICES") KX (by k_is)
    have g2 := En.ns_look (x := "ALL_CHOICES") KX (by k_is)
    have g3 := En.ns_look (x := "KINDS") KX (by k_is)
    have t0 := En.rep_ktG (L := ⟨_, fun _ => 0, En.gaOf [18]⟩) KX g3 rfl (by k_is) rfl rfl (by decide) (.cons En.rel_str (.cons En.rel_str (.cons En.rel_str (.cons En.rel_str (.cons En.rel_str (.cons En.rel_str (.cons En.rel_str (.cons En.rel_str (.cons En.rel_str (.cons En.rel_str (.cons En.rel_str (.cons En.rel_str (.cons En.rel_str (.cons En.rel_str (.cons En.rel_str (.cons En.rel_str .nil)))))))))))))))) (fun H fb cm => (.cons (.str "inv") (.cons (.str "nand2") (.cons (.str "nor2") (.cons (.str "and2") (.cons (.str "or2") (.cons (.str "xor2") (.cons (.str "xnor2") (.cons (.str "nand3") (.cons (.str "nor3") (.cons (.str "aoi21") (.cons (.str "oai21") (.cons (.str "mux2") (.cons (.str "tie0") (.cons (.str "tie1") (.cons (.str "sdff0") (.cons (.str "sdff1") .nil)))))))))))))))))
    have t1 := En.rep_ktG (L := ⟨_, fun _ => 0, En.gaOf [18]⟩) KX g1 rfl (by k_is) rfl rfl (by decide) (.cons En.rel_int (.cons En.rel_int (.cons En.rel_int .nil))) (fun H fb cm => (.cons (.int 170) (.cons (.int 204) (.cons (.int 240) .nil))))
    have X := En.txt_mk (as := [18]) (T := K40.tb) (w := w) KX (En.ent_cons E0 (En.ent_cons E1 (En.ent_cons E2 (En.ent_cons E3 (En.ent_cons E4 (En.ent_cons E5 (En.ent_cons E6 (En.ent_cons E7 (En.ent_cons E8 (En.ent_cons E9 (En.ent_cons E10 (En.ent_cons E11 (En.ent_cons E12 (En.ent_cons E13 (En.ent_cons E14 (En.ent_cons E15 (En.ent_cons E16 (En.ent_cons E17 (En.ent_cons E18 (En.ent_cons E19 En.ent_nil))))))))))))))))))))
      (En.all_cons ⟨_, (.ref _), PySem.W.mg_of KX G g0, En.rel_ref, fun H fb cm => (.gd 0)⟩ (En.all_cons ⟨_, (.ref _), PySem.W.mg_of KX G g1, En.rel_ref, fun H fb cm => (t1 H fb cm)⟩ (En.all_cons ⟨_, (.int 255), PySem.W.mg_of KX G g2, En.rel_int, fun H fb cm => (.int 255)⟩ (En.all_cons ⟨_, (.ref _), PySem.W.mg_of KX G g3, En.rel_ref, fun H fb cm => (t0 H fb cm)⟩ En.all_nil))))
      (En.all_cons (PySem.W.mg_none_of KX G (by k_is)) (En.all_cons (PySem.W.mg_none_of KX G (by k_is)) (En.all_cons (PySem.W.mg_none_of KX G (by k_is)) (En.all_cons (PySem.W.mg_none_of KX G (by k_is)) (En.all_cons (PySem.W.mg_none_of KX G (by k_is)) (En.all_cons (PySem.W.mg_none_of KX G (by k_is)) (En.all_cons (PySem.W.mg_none_of KX G (by k_is)) (En.all_cons (PySem.W.mg_none_of KX G (by k_is)) (En.all_cons (PySem.W.mg_none_of KX G (by k_is)) (En.all_cons (PySem.W.mg_none_of KX G (by k_is)) (En.all_cons (PySem.W.mg_none_of KX G (by k_is)) En.all_nil)))))))))))
      (fun j => match j with | 0 => (En.all_cons (En.hold_mk (v := (.int 1)) KX rfl (by k_is) (by k_keys) (by k_is) En.rel_int (fun H fb cm => (.int 1))) (En.all_cons (En.hold_mk (v := (.int 2)) KX rfl (by k_is) (by k_keys) (by k_is) En.rel_int (fun H fb cm => (.int 2))) (En.all_cons (En.hold_mk (v := (.int 2)) KX rfl (by k_is) (by k_keys) (by k_is) En.rel_int (fun H fb cm => (.int 2))) (En.all_cons (En.hold_mk (v := (.int 2)) KX rfl (by k_is) (by k_keys) (by k_is) En.rel_int (fun H fb cm => (.int 2))) (En.all_cons (En.hold_mk (v := (.int 2)) KX rfl (by k_is) (by k_keys) (by k_is) En.rel_int (fun H fb cm => (.int 2))) (En.all_cons (En.hold_mk (v := (.int 2)) KX rfl (by k_is) (by k_keys) (by k_is) En.rel_int (fun H fb cm => (.int 2))) (En.all_cons (En.hold_mk (v := (.int 2)) KX rfl (by k_is) (by k_keys) (by k_is) En.rel_int (fun H fb cm => (.int 2))) (En.all_cons (En.hold_mk (v := (.int 3)) KX rfl (by k_is) (by k_keys) (by k_is) En.rel_int (fun H fb cm => (.int 3))) (En.all_cons (En.hold_mk (v := (.int 3)) KX rfl (by k_is) (by k_keys) (by k_is) En.rel_int (fun H fb cm => (.int 3))) (En.all_cons (En.hold_mk (v := (.int 3)) KX rfl (by k_is) (by k_keys) (by k_is) En.rel_int (fun H fb cm => (.int 3))) (En.all_cons (En.hold_mk (v := (.int 3)) KX rfl (by k_is) (by k_keys) (by k_is) En.rel_int (fun H fb cm => (.int 3))) (En.all_cons (En.hold_mk (v := (.int 3)) KX rfl (by k_is) (by k_keys) (by k_is) En.rel_int (fun H fb cm => (.int 3))) (En.all_cons (En.hold_mk (v := (.int 0)) KX rfl (by k_is) (by k_keys) (by k_is) En.rel_int (fun H fb cm => (.int 0))) (En.all_cons (En.hold_mk (v := (.int 0)) KX rfl (by k_is) (by k_keys) (by k_is) En.rel_int (fun H fb cm => (.int 0))) En.all_nil)))))))))))))) | n + 1 => En.all_nil)
    exact En.law_fn X K40.chk (by rfl) E19 rfl hmg rfl (fun ns hn => K40.math ns)

